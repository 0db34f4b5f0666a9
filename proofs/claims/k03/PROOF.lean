import PyProof.Rows.All
import Wide.All
import OpenK.AllK
import Wide.FinOn
import HandS.ForMost
import HandS.ForExc
import HandS.IsInst
import HandS.Wide
import HandS.FStr
import HandS.Replace
import HandS.ReplaceList
import HandS.EndBits
import HandS.TryMany
import HandS.Flow
import HandS.Style
import HandS.Zip
import HandS.Walk
import HandS.OwnEq
import HandS.Slots
import HandS.SlotsOwn
import HandS.ClsMeth
import HandS.DictComp
import HandS.More
import HandS.Small
import HandS.DictTup
import HandS.Star
import KE.SortData
import KE.KDictPairs
import KE.KEqDict
import HandS.RaiseMore
import HandS.StrMore
import KE.KOpsOwn
import KE.KExcSuper
import KE.KSuper
import PyProof.ExcBaseAll.ValueError
import PyProof.ExcBaseAll.LookupError
import PyProof.ExcBaseAll.IndexError
import PyProof.ExcBaseAll.OverflowError
import HandS.Exc
import HandS.ExcOwn
import HandS.ExcInit
import HandS.ExcField
import HandS.Iter
import KE.GoesZip
import KE.GoesMore
import HandS.TryOnly
import PyProof.Rows.Range3
import HandS.ListItems
import HandS.ReplaceLit
import HandS.ReplaceDef
import KE.KPar
import HandS.Defaults
import PySem.Challenge.RW_toldstarts_k03_texts_of_amounts
set_option Elab.async false
set_option linter.all false
section
/-! Iv0: an interpreter for the part of Python that the laws use: values by value, a small heap for lists that are changed. -/
namespace Iv

/-- a text as its codes -/
abbrev Cs := List Nat

inductive Ky where
  | i (n : Int) | s (x : Cs)
  deriving DecidableEq

/-- data -/
inductive D where
  | non | bl (b : Bool) | int (i : Int) | str (s : Cs)
  | tup (xs : List D) | lst (xs : List D)
  | dct (kvs : List (Ky × D))
  | ins (c : Nat) (fs : List D)
  /-- a class -/
  | cls (c : Nat)
  /-- a list that is only read -/
  | ro (xs : List D)
  /-- a tuple of which the whole object is known -/
  | ptp (xs : List D)
  deriving Inhabited

/-- a tuple like any other -/
def D.wk : D → D
  | .ptp xs => .tup xs
  | x => x
mutual
/-- and all that it holds -/
def D.wkd : D → D
  | .ptp xs => .tup (D.wkds xs)
  | .tup xs => .tup (D.wkds xs)
  | .lst xs => .lst (D.wkds xs)
  | .non => .non | .bl b => .bl b | .int i => .int i | .str s => .str s
  | .dct kvs => .dct kvs | .ins c fs => .ins c fs | .cls c => .cls c | .ro xs => .ro xs
def D.wkds : List D → List D
  | [] => []
  | x :: xs => D.wkd x :: D.wkds xs
end
mutual
/-- == of data -/
def D.eqv : D → D → Bool
  | .non, .non => true
  | .bl a, .bl b => a == b
  | .bl a, .int j => (if a then 1 else 0) == j
  | .int i, .bl b => i == (if b then 1 else 0)
  | .int i, .int j => i == j
  | .str x, .str y => x == y
  | .lst xs, .lst ys => D.eqvs xs ys
  | .tup xs, .tup ys => D.eqvs xs ys
  | _, _ => false
def D.eqvs : List D → List D → Bool
  | [], [] => true
  | x :: xs, y :: ys => D.eqv x y && D.eqvs xs ys
  | _, _ => false
end
mutual
/-- no dicts, no instances; nested at most n deep -/
def D.plain : D → Nat → Bool
  | .non, _ => true
  | .bl _, _ => true
  | .int _, _ => true
  | .str _, _ => true
  | .tup xs, n => match n with
    | 0 => false
    | n + 1 => D.plains xs n
  | .lst xs, n => match n with
    | 0 => false
    | n + 1 => D.plains xs n
  | .dct _, _ => false
  | .ins _ _, _ => false
  | .cls _, _ => false
  | .ro _, _ => false
  | .ptp _, _ => false
def D.plains : List D → Nat → Bool
  | [], _ => true
  | x :: xs, n => D.plain x n && D.plains xs n
end
mutual
/-- the two can be compared by <, place by place -/
def D.alike : D → D → Bool
  | .int _, .int _ => true
  | .bl _, .bl _ => true
  | .str _, .str _ => true
  | .lst xs, .lst ys => D.alikes xs ys
  | .tup xs, .tup ys => D.alikes xs ys
  | _, _ => false
def D.alikes : List D → List D → Bool
  | x :: xs, y :: ys => D.alike x y && D.alikes xs ys
  | _, _ => true
end
/-- the order of texts -/
def ltCs : Cs → Cs → Bool
  | [], [] => false
  | [], _ :: _ => true
  | _ :: _, [] => false
  | a :: as, b :: bs => if a < b then true else if a = b then ltCs as bs else false
mutual
/-- x < y of data that are alike -/
def D.lt : D → D → Bool
  | .int i, .int j => decide (i < j)
  | .bl a, .bl b => !a && b
  | .str x, .str y => ltCs x y
  | .lst xs, .lst ys => D.lts xs ys
  | .tup xs, .tup ys => D.lts xs ys
  | _, _ => false
def D.lts : List D → List D → Bool
  | [], [] => false
  | [], _ :: _ => true
  | _ :: _, [] => false
  | x :: xs, y :: ys => if D.eqv x y then D.lts xs ys else D.lt x y
end
/-- sorted -/
def sortD (xs : List D) : List D := xs.mergeSort fun a b => !D.lt b a
/-- can be sorted: every two are alike; numbers, texts, lists, or tuples that are not empty -/
def alikeAll (xs : List D) : Bool := xs.all fun a => xs.all fun b => D.alike a b
def notTup : D → Bool
  | .tup _ => false
  | _ => true
def tup1 : D → Bool
  | .tup (_ :: _) => true
  | _ => false
def sortOk (xs : List D) : Bool := alikeAll xs && (xs.all (D.plain · 30)) && (xs.all notTup || xs.all tup1) && decide (xs.length ≤ 1000000)
/-- None, a bool, an int, a text -/
def D.flat : D → Bool
  | .non => true
  | .bl _ => true
  | .int _ => true
  | .str _ => true
  | _ => false
def D.flats : List D → Bool
  | [] => true
  | x :: xs => x.flat && D.flats xs
/-- x in xs, flat items -/
def D.mem (x : D) : List D → Bool
  | [] => false
  | y :: ys => if D.eqv y x then true else D.mem x ys

/-- what stands in the heap -/
inductive Ob where
  | lst (xs : List D)
  | dct (kvs : List (Ky × D))
  | ins (c : Nat) (fs : List (Option D))
  | dead
abbrev Hs := List Ob

/-- a value of a name -/
inductive Vl where
  | d (x : D)
  | loc (n : Nat)
  | xc (c : Nat) (fs : List D)
abbrev Ev := List (Option Vl)

inductive R (α : Type) where
  | ok (a : α) (S : Hs)
  | exc (c : Nat) (fs : List D) (S : Hs)
  | bad
def R.bind {α β : Type} (r : R α) (k : α → Hs → R β) : R β :=
  match r with
  | .ok a S => k a S
  | .exc c fs S => .exc c fs S
  | .bad => .bad
def R.opt {α : Type} (o : Option α) (S : Hs) : R α :=
  match o with
  | some a => .ok a S
  | none => .bad

inductive BOp where | add | sub | mul | fdiv | mod | pow
  deriving DecidableEq
inductive COp where | eq | ne | lt | le | gt | ge | isin | notin
  deriving DecidableEq
inductive Ty where | int | bool | str | tup | lst | dct
  deriving DecidableEq
inductive Bi where | len | int | str | abs | max2 | min2 | sum | divmod | tuple | list | all | any | min | max | bool
  deriving DecidableEq
inductive Mt where | split | join | startswith | lstrip | rstrip
  deriving DecidableEq

/-- targets -/
inductive Tg where
  | nm (i : Nat) | tp (ts : Tg) | nil | cons (a b : Tg)

/-- expressions; lists of expressions by nil and cons -/
inductive Ex where
  | var (i : Nat) | varp (i : Nat) | vard (i : Nat)
  | glob (g : Nat)
  | non | bl (b : Bool) | int (i : Int) | str (s : Cs)
  | nil | cons (e es : Ex)
  | tup (es : Ex) | ptup (es : Ex) | ptl (e : Ex) | lst (es : Ex) | newl (es : Ex)
  | frz (i : Nat)
  | bin (o : BOp) (a b : Ex)
  | neg (a : Ex)
  | cmp (o : COp) (a b : Ex)
  | chain (o o' : COp) (a b c : Ex)
  | not (a : Ex) | and (a b : Ex) | or (a b : Ex) | one (a : Ex)
  | ite (c a b : Ex)
  | call (f : Nat) (es : Ex)
  | call0 (f : Nat)
  | bi (b : Bi) (es : Ex)
  | isi (a : Ex) (t : Ty)
  | meth (m : Mt) (o es : Ex)
  | ix (a i : Ex)
  | sl (a lo hi : Ex)
  | dix (d k : Ex) | dgt (d k x : Ex) | din (neg : Bool) (k d : Ex) | dct0 | newd | dcmp (own : List Nat) (t : Tg) (it c k v : Ex) | itm (d : Ex)
  | dof (e : Ex) | deq0 (neg : Bool) (d : Ex) | srt (d : Ex) | srti (d : Ex) | stars (a b : Ex)
  | mk (j : Nat) (es : Ex) | mkc (i j : Nat) (es : Ex) | slt (j : Nat) (o : Ex) | sltp (j : Nat) (o : Ex) | mth (j : Nat) (o es : Ex) | prp (j : Nat) (o : Ex) | cme (j : Nat) (es : Ex) | isc (j : Nat) (o : Ex)
  | olen (o : Ex) | obool (o : Ex)
  | no
  | fld (i k : Nat)
  | rng (a : Ex) | rng2 (a b : Ex) | zip (a b : Ex) | enm (a : Ex)
  | comp (own : List Nat) (t : Tg) (it c e : Ex) | newc (own : List Nat) (t : Tg) (it c e : Ex)
  | fjoin (es : Ex) | fmt (e : Ex) | fmt02 (e : Ex)
  | repl (o : Ex) (c : Nat) (z : Cs)
  | ostr (o : Ex) | newo (e : Ex) | pop (i : Nat) (k : Ex) | dits (d : Ex) | dln (d : Ex) | isn (neg : Bool) (a : Ex)

/-! ### operations on data -/
def big : Nat := 1000000
def mulOk (i j : Int) : Bool := decide (i.natAbs < 2 ^ 64) || decide (j.natAbs < 2 ^ 64) || (decide (i.natAbs < 2 ^ 1000) && decide (j.natAbs < 2 ^ 1000))
def repL {α : Type} (xs : List α) : Nat → List α
  | 0 => []
  | n + 1 => xs ++ repL xs n
def binD : BOp → D → D → Option D
  | .add, .int i, .int j => some (.int (i + j))
  | .add, .str a, .str b => if a.length + b.length ≤ big then some (.str (a ++ b)) else none
  | .add, .lst a, .lst b => if a.length + b.length ≤ big then some (.lst (a ++ b)) else none
  | .sub, .int i, .int j => some (.int (i - j))
  | .mul, .int i, .int j => if mulOk i j then some (.int (i * j)) else none
  | .mul, .str a, .int n => if 0 ≤ n ∧ n ≤ 100 ∧ a.length ≤ 1000 then some (.str (repL a n.toNat)) else none
  | .fdiv, .int i, .int j => if 0 < j ∧ j < 2 ^ 1000 then some (.int (i / j)) else none
  | .mod, .int i, .int j => if 0 < j then some (.int (i % j)) else none
  | .pow, .int i, .int j => if 0 ≤ j ∧ j ≤ 1000 ∧ i.natAbs < 2 ^ 64 then some (.int (i ^ j.toNat)) else none
  | _, _, _ => none
/-- x op= y -/
def augD : BOp → D → D → Option D
  | .add, .int i, .int j => some (.int (i + j))
  | .add, .str a, .str b => if a.length + b.length ≤ big then some (.str (a ++ b)) else none
  | .sub, .int i, .int j => some (.int (i - j))
  | .mul, .int i, .int j => if i.natAbs < 2 ^ 64 ∨ j.natAbs < 2 ^ 64 then some (.int (i * j)) else none
  | _, _, _ => none
def deep : Nat := 30
/-- x in y -/
def inD : D → D → Option Bool
  | x, .str z => match x with
    | .str [c] => some (z.contains c)
    | _ => none
  | x, .tup xs => if x.flat && D.flats xs then some (D.mem x xs) else none
  | x, .lst xs => if x.flat && D.flats xs then some (D.mem x xs) else none
  | _, _ => none
def cmpD : COp → D → D → Option Bool
  | .eq, a, b => if a.plain deep && b.plain deep then some (a.eqv b) else none
  | .ne, a, b => if a.plain deep && b.plain deep then some (!a.eqv b) else none
  | .lt, .int i, .int j => some (decide (i < j))
  | .le, .int i, .int j => some (decide (i ≤ j))
  | .gt, .int i, .int j => some (decide (j < i))
  | .lt, .str a, .str b => some (ltCs a b)
  | .le, .str a, .str b => some (!ltCs b a)
  | .gt, .str a, .str b => some (ltCs b a)
  | .ge, .str a, .str b => some (!ltCs a b)
  | .ge, .int i, .int j => some (decide (j ≤ i))
  | .isin, a, b => inD a b
  | .notin, a, b => (inD a b).map (!·)
  | _, _, _ => none
/-- the digits of a number -/
def digs : Nat → Nat → Cs → Cs
  | 0, _, acc => acc
  | f + 1, n, acc => if n < 10 then (48 + n) :: acc else digs f (n / 10) ((48 + n % 10) :: acc)
def decN (n : Nat) : Cs := digs (n + 1) n []
def decI (i : Int) : Cs := if i < 0 then 45 :: decN i.natAbs else decN i.natAbs
/-- the number of digits alone -/
def numOf : Cs → Nat → Option Nat
  | [], acc => some acc
  | c :: cs, acc => if 48 ≤ c ∧ c ≤ 57 then numOf cs (acc * 10 + (c - 48)) else none
def sumD : List D → Int → Option Int
  | [], acc => some acc
  | .int i :: xs, acc => sumD xs (acc + i)
  | _ :: _, _ => none
def bools : List D → Option (List Bool)
  | [] => some []
  | .bl b :: xs => (bools xs).map (b :: ·)
  | _ :: _ => none
def intsD : List D → Option (List Int)
  | [] => some []
  | .int b :: xs => (intsD xs).map (b :: ·)
  | _ :: _ => none
def allB : List Bool → Bool
  | [] => true
  | b :: bs => b && allB bs
def anyB : List Bool → Bool
  | [] => false
  | b :: bs => b || anyB bs
def leastI : Int → List Int → Int
  | m, [] => m
  | m, x :: xs => leastI (if x < m then x else m) xs
def mostI : Int → List Int → Int
  | m, [] => m
  | m, x :: xs => mostI (if m < x then x else m) xs
def biD : Bi → List D → Option D
  | .len, [.str s] => if s.length ≤ big then some (.int s.length) else none
  | .len, [.lst s] => some (.int s.length)
  | .len, [.tup s] => some (.int s.length)
  | .len, [.ro s] => some (.int s.length)
  | .int, [.int i] => some (.int i)
  | .int, [.bl b] => some (.int (if b then 1 else 0))
  | .int, [.str s] => if s ≠ [] ∧ s.length ≤ 640 then (numOf s 0).map fun n => .int n else none
  | .str, [.int i] => if i.natAbs < 2 ^ 1900 then some (.str (decI i)) else none
  | .str, [.str s] => some (.str s)
  | .abs, [.int i] => some (.int (if i < 0 then -i else i))
  | .max2, [.int i, .int j] => some (.int (if j > i then j else i))
  | .min2, [.int i, .int j] => some (.int (if j < i then j else i))
  | .sum, [.lst xs] => (sumD xs 0).map .int
  | .divmod, [.int i, .int j] => if 0 < j ∧ j < 1073741824 then some (.tup [.int (i / j), .int (i % j)]) else none
  | .tuple, [.lst xs] => some (.tup xs)
  | .tuple, [.tup xs] => some (.tup xs)
  | .bool, [.int i] => some (.bl (i != 0))
  | .bool, [.bl b] => some (.bl b)
  | .bool, [.lst xs] => some (.bl (!xs.isEmpty))
  | .bool, [.tup xs] => some (.bl (!xs.isEmpty))
  | .list, [.lst xs] => some (.lst xs)
  | .list, [.tup xs] => some (.lst xs)
  | .all, [.lst xs] => (bools xs).map fun bs => .bl (allB bs)
  | .any, [.lst xs] => (bools xs).map fun bs => .bl (anyB bs)
  | .min, [.lst xs] => (intsD xs).bind fun ns => match ns with
    | [] => none
    | n :: ns => some (.int (leastI n ns))
  | .max, [.lst xs] => (intsD xs).bind fun ns => match ns with
    | [] => none
    | n :: ns => some (.int (mostI n ns))
  | _, _ => none
def isTy : Ty → D → Bool
  | .int, .int _ => true
  | .int, .bl _ => true
  | .bool, .bl _ => true
  | .str, .str _ => true
  | .tup, .tup _ => true
  | .lst, .lst _ => true
  | .dct, .dct _ => true
  | _, _ => false
def isiD (t : Ty) (x : D) : Option D := match x with
  | .ro _ => none
  | .ins _ _ => none
  | .cls _ => none
  | .ptp _ => none
  | x => some (.bl (isTy t x))
/-- a text cut at each sign c -/
def splitC (c : Nat) : Cs → List Cs
  | [] => [[]]
  | x :: xs => if x = c then [] :: splitC c xs else
    match splitC c xs with
    | [] => [[x]]
    | y :: ys => (x :: y) :: ys
/-- each sign c exchanged for z -/
def replC (c : Nat) (z : Cs) : Cs → Cs
  | [] => []
  | x :: xs => if x = c then z ++ replC c z xs else x :: replC c z xs
def strsOf : List D → Option (List Cs)
  | [] => some []
  | .str s :: xs => (strsOf xs).map (s :: ·)
  | _ :: _ => none
def lens : List Cs → Nat
  | [] => 0
  | x :: xs => x.length + lens xs
def joinC (sep : Cs) : List Cs → Cs
  | [] => []
  | [x] => x
  | x :: y :: ys => x ++ sep ++ joinC sep (y :: ys)
def mtD : Mt → D → List D → Option D
  | .split, .str s, [.str [c]] => if s.length ≤ 1000 ∧ c < 256 then some (.lst ((splitC c s).map .str)) else none
  | .join, .str sep, [.lst xs] => (strsOf xs).bind fun l => if l.length ≤ 1000 ∧ sep.length ≤ 100 ∧ lens l ≤ big then some (.str (joinC sep l)) else none
  | .startswith, .str s, [.str p] => some (.bl (p.isPrefixOf s))
  | .lstrip, .str s, [.str [c]] => if s.length ≤ big then some (.str (s.dropWhile (· == c))) else none
  | .rstrip, .str s, [.str [c]] => if s.length ≤ big then some (.str ((s.reverse.dropWhile (· == c)).reverse)) else none
  | _, _, _ => none
/-- the place of an index -/
def plc (i : Int) (n : Nat) : Option Nat :=
  if 0 ≤ i then (if i < n then some i.toNat else none) else (if 0 ≤ i + n then some (i + n).toNat else none)
def ixD : D → D → Option D
  | .str s, .int i => if s.length ≤ big then (plc i s.length).bind fun k => s[k]?.map fun c => .str [c] else none
  | .lst xs, .int i => (plc i xs.length).bind fun k => xs[k]?
  | .tup xs, .int i => (plc i xs.length).bind fun k => xs[k]?
  | .ro xs, .int i => (plc i xs.length).bind fun k => xs[k]?
  | _, _ => none
def lowD (o : Option Int) (n : Nat) : Nat :=
  match o with
  | none => 0
  | some i => if 0 ≤ i then min i.toNat n else (i + n).toNat
def highD (o : Option Int) (n : Nat) : Nat :=
  match o with
  | none => n
  | some i => if 0 ≤ i then min i.toNat n else (i + n).toNat
def cutL {α : Type} (xs : List α) (lo hi : Option Int) : List α := (xs.take (highD hi xs.length)).drop (lowD lo xs.length)
def slD : D → Option Int → Option Int → Option D
  | .str s, lo, hi => if s.length ≤ big then some (.str (cutL s lo hi)) else none
  | .lst xs, lo, hi => some (.lst (cutL xs lo hi))
  | _, _, _ => none
def bound (v : Vl) : Option (Option Int) :=
  match v with
  | .d (.int i) => some (some i)
  | _ => none
def truth : Vl → Option Bool
  | .d (.bl b) => some b
  | _ => none
def upTo : Nat → Int → List D
  | 0, _ => []
  | n + 1, a => .int a :: upTo n (a + 1)
def zipD : List D → List D → List D
  | x :: xs, y :: ys => .tup [x, y] :: zipD xs ys
  | _, _ => []
def enumD : Nat → List D → List D
  | _, [] => []
  | n, x :: xs => .tup [.int n, x] :: enumD (n + 1) xs
/-- dicts as lists of pairs, in the order in which the keys came -/
def keyD : D → Option Ky
  | .int i => some (.i i)
  | .str s => some (.s s)
  | _ => none
def kyD : Ky → D
  | .i n => .int n
  | .s x => .str x
def kget (k : Ky) : List (Ky × D) → Option D
  | [] => none
  | p :: ps => if p.1 = k then some p.2 else kget k ps
def kput (k : Ky) (v : D) (xs : List (Ky × D)) : List (Ky × D) :=
  if (xs.any fun p => decide (p.1 = k)) = true then xs.map (fun p => if p.1 = k then (p.1, v) else p) else xs ++ [(k, v)]
def dOf : Vl → Option D
  | .d x => some x
  | _ => none
def pairD (p : Ky × D) : D := .tup [kyD p.1, p.2]
/-- dict(pairs) -/
def dofL : List D → List (Ky × D) → Option (List (Ky × D))
  | [], acc => some acc
  | .tup [k, v] :: xs, acc => match keyD k with
    | some q => dofL xs (kput q v acc)
    | none => none
  | _ :: _, _ => none
/-- what [*x] unpacks -/
def starL : Vl → Option (List D)
  | .d (.lst xs) => some xs
  | .d (.tup xs) => some xs
  | .d (.dct kvs) => some (kvs.map fun p => kyD p.1)
  | _ => none
def dsOf : List Vl → Option (List D)
  | [] => some []
  | .d x :: vs => (dsOf vs).map (x :: ·)
  | _ :: _ => none
/-- a list that is read: by value, or in the heap -/
def rdV (v : Vl) (S : Hs) : Option D :=
  match v with
  | .d x => some x
  | .loc n => match S[n]? with
    | some (.lst xs) => some (.lst xs)
    | _ => none
  | .xc _ _ => none
/-- a dict that is read: by value, or in the heap -/
def rdK (v : Vl) (S : Hs) : Option (List (Ky × D)) :=
  match v with
  | .d (.dct kvs) => some kvs
  | .loc n => match S[n]? with
    | some (.dct kvs) => some kvs
    | _ => none
  | _ => none
/-- what sorted collects -/
def srtL (v : Vl) (S : Hs) : Option (List D) :=
  match rdK v S with
  | some kvs => some (kvs.map fun p => kyD p.1)
  | none => match rdV v S with
    | some (.lst xs) => some xs
    | _ => none
def rdVs (vs : List Vl) (S : Hs) : Option (List D) :=
  match vs with
  | [] => some []
  | v :: vs => (rdV v S).bind fun x => (rdVs vs S).map (x :: ·)
mutual
def asgD : Tg → D → Ev → Option Ev
  | .nm i, x, r => some (r.set i (some (.d x)))
  | .tp ts, .tup xs, r => asgL ts xs r
  | .tp ts, .lst xs, r => asgL ts xs r
  | _, _, _ => none
def asgL : Tg → List D → Ev → Option Ev
  | .nil, [], r => some r
  | .cons a b, x :: xs, r => (asgD a x r).bind fun r' => asgL b xs r'
  | _, _, _ => none
end
def wipes (r : Ev) : List Nat → Ev
  | [] => r
  | v :: vs => (wipes r vs).set v none

/-! ### the program: what expressions ask of it -/
structure Prg where
  globs : List D
  sub : Nat → Nat → Bool
  fuel : Nat
  /-- C(..): the class, __init__ -/
  mks : List (Nat × Nat) := []
  /-- fields: the class, the place -/
  sls : List (Nat × Nat) := []
  /-- methods, properties: the class, the def -/
  mts : List (Nat × Nat) := []
  prs : List (Nat × Nat) := []
  /-- classmethods: the class, the def -/
  cms : List (Nat × Nat) := []
  isc : Nat → Nat → Option Bool := fun _ _ => none
  opf : BOp → Nat → Option Nat := fun _ _ => none
  eqf : Nat → Option Nat := fun _ => none
  lnf : Nat → Option Nat := fun _ => none
  bof : Nat → Option Nat := fun _ => none
  stf : Nat → Option Nat := fun _ => none
abbrev Cal := Nat → List Vl → Hs → R Vl

def R.noX {α : Type} : R α → R α
  | .ok a S => .ok a S
  | _ => .bad
def allD : List (Option D) → Option (List D)
  | [] => some []
  | some x :: xs => (allD xs).map (x :: ·)
  | none :: _ => none
/-- an instance of the class c -/
def insOf (c : Nat) (v : Vl) (S : Hs) : Bool :=
  match v with
  | .d (.ins c' _) => c' == c
  | .loc n => match S[n]? with
    | some (.ins c' _) => c' == c
    | _ => false
  | _ => false
/-- the field k of an instance of the class c -/
def fldOf (c k : Nat) (v : Vl) (S : Hs) : Option D :=
  match v with
  | .d (.ins c' fs) => if c' = c then fs[k]? else none
  | .loc n => match S[n]? with
    | some (.ins c' fs) => if c' = c then (fs[k]?).join else none
    | _ => none
  | _ => none
/-- a new instance -/
def mkV (cal : Cal) (c f : Nat) (vs : List Vl) (S : Hs) : R Vl :=
  (cal f (.loc S.length :: vs) (S ++ [.ins c []])).bind fun v S2 => match v, S2[S.length]? with
    | .d .non, some (.ins c' fs) => if c' = c then match allD fs with
      | some xs => .ok (.d (.ins c xs)) (S2.take S.length)
      | none => .bad
      else .bad
    | _, _ => .bad
/-- on the right of an operator of an own class; of its == -/
def okR (c : Nat) : D → Bool
  | .ins c' _ => c' == c
  | .int _ => true
  | _ => false
def okE (c : Nat) : D → Bool
  | .ins c' _ => c' == c
  | _ => false
def bareD : D → Bool
  | .ins _ _ => false
  | .cls _ => false
  | .ro _ => false
  | .ptp _ => false
  | _ => true
def dcmpL (f : D → Hs → R (Option (Ky × D))) : List D → List (Ky × D) → Hs → R (List (Ky × D))
  | [], acc, S => .ok acc S
  | x :: xs, acc, S => match f x S with
    | .ok (some y) S1 => dcmpL f xs (kput y.1 y.2 acc) S1
    | .ok none S1 => dcmpL f xs acc S1
    | _ => .bad
def compL (f : D → Hs → R (Option D)) : List D → List D → Hs → R (List D)
  | [], acc, S => .ok acc S
  | x :: xs, acc, S => match f x S with
    | .ok (some y) S1 => compL f xs (acc ++ [y]) S1
    | .ok none S1 => compL f xs acc S1
    | _ => .bad

section
variable (P : Prg) (cal : Cal)
mutual
def ev : Ex → Ev → Hs → R Vl
  | .var i, r, S => match r[i]? with
    | some (some (.d x)) => .ok (.d x.wk) S
    | some (some (.loc n)) => .ok (.loc n) S
    | _ => .bad
  | .vard i, r, S => match r[i]? with
    | some (some (.d x)) => .ok (.d x.wkd) S
    | _ => .bad
  | .varp i, r, S => match r[i]? with
    | some (some (.d x)) => .ok (.d x) S
    | _ => .bad
  | .glob g, _, S => match P.globs[g]? with
    | some x => .ok (.d x) S
    | none => .bad
  | .non, _, S => .ok (.d .non) S
  | .bl b, _, S => .ok (.d (.bl b)) S
  | .int i, _, S => .ok (.d (.int i)) S
  | .str s, _, S => .ok (.d (.str s)) S
  | .tup es, r, S => (evs es r S).bind fun vs S1 => match dsOf vs with
    | some xs => if vs.length ≤ big then .ok (.d (.tup xs)) S1 else .bad
    | none => .bad
  | .ptup es, r, S => (evs es r S).bind fun vs S1 => match dsOf vs with
    | some xs => if vs.length ≤ big then .ok (.d (.ptp xs)) S1 else .bad
    | none => .bad
  | .ptl e, r, S => (ev e r S).bind fun x S1 => match x with
    | .d (.lst xs) => .ok (.d (.ptp xs)) S1
    | _ => .bad
  | .lst es, r, S => (evs es r S).bind fun vs S1 => match dsOf vs with
    | some xs => if vs.length ≤ big then .ok (.d (.lst xs)) S1 else .bad
    | none => .bad
  | .newl es, r, S => (evs es r S).bind fun vs S1 => match dsOf vs with
    | some xs => if vs.length ≤ big then .ok (.loc S1.length) (S1 ++ [.lst xs]) else .bad
    | none => .bad
  | .frz i, r, S => match r[i]? with
    | some (some (.loc n)) => match S[n]? with
      | some (.lst xs) => .ok (.d (.lst xs)) (S.set n .dead)
      | _ => .bad
    | _ => .bad
  | .bin o a b, r, S => (ev a r S).bind fun x S1 => (ev b r S1).bind fun y S2 =>
    match x, y with
    | .d (.ins c fs), .d y => if okR c y then match P.opf o c with
      | some f => cal f [.d (.ins c fs), .d y] S2
      | none => .bad
      else .bad
    | .d x, .d y => R.opt ((binD o x y).map .d) S2
    | _, _ => .bad
  | .neg a, r, S => (ev a r S).bind fun x S1 => match x with
    | .d (.int i) => .ok (.d (.int (-i))) S1
    | _ => .bad
  | .cmp o a b, r, S => (ev a r S).bind fun x S1 => (ev b r S1).bind fun y S2 =>
    match rdV x S2, rdV y S2 with
    | some (.ins c fs), some y => if okE c y then match P.eqf c with
      | some f => match o with
        | .eq => cal f [.d (.ins c fs), .d y] S2
        | .ne => (cal f [.d (.ins c fs), .d y] S2).bind fun v S3 => match v with
          | .d (.bl k) => .ok (.d (.bl (!k))) S3
          | _ => .bad
        | _ => .bad
      | none => .bad
      else .bad
    | some x, some y => R.opt ((cmpD o x y).map fun k => .d (.bl k)) S2
    | _, _ => .bad
  | .chain o o' a b c, r, S => (ev a r S).bind fun x S1 => (ev b r S1).bind fun y S2 =>
    match x, y with
    | .d x, .d y => match cmpD o x y with
      | some true => (ev c r S2).bind fun z S3 => match z with
        | .d z => R.opt ((cmpD o' y z).map fun k => .d (.bl k)) S3
        | _ => .bad
      | some false => .ok (.d (.bl false)) S2
      | none => .bad
    | _, _ => .bad
  | .not a, r, S => (ev a r S).bind fun x S1 => match x with
    | .d (.bl k) => .ok (.d (.bl (!k))) S1
    | _ => .bad
  | .and a b, r, S => (ev a r S).bind fun x S1 => match x with
    | .d (.bl true) => ev b r S1
    | .d (.bl false) => .ok (.d (.bl false)) S1
    | _ => .bad
  | .or a b, r, S => (ev a r S).bind fun x S1 => match x with
    | .d (.bl true) => .ok (.d (.bl true)) S1
    | .d (.bl false) => ev b r S1
    | _ => .bad
  | .one a, r, S => ev a r S
  | .ite c a b, r, S => (ev c r S).bind fun x S1 => match x with
    | .d (.bl true) => ev a r S1
    | .d (.bl false) => ev b r S1
    | _ => .bad
  | .call f es, r, S => (evs es r S).bind fun vs S1 => cal f vs S1
  | .call0 f, _, S => cal f [] S
  | .bi b es, r, S => (evs es r S).bind fun vs S1 => match rdVs vs S1 with
    | some xs => R.opt ((biD b xs).map .d) S1
    | none => .bad
  | .isi a t, r, S => (ev a r S).bind fun x S1 => match x with
    | .d x => R.opt ((isiD t x).map .d) S1
    | _ => .bad
  | .meth m o es, r, S => (ev o r S).bind fun x S1 => match x with
    | .d (.str s) => (evs es r S1).bind fun vs S2 => match rdVs vs S2 with
      | some xs => R.opt ((mtD m (.str s) xs).map .d) S2
      | none => .bad
    | _ => .bad
  | .ix a i, r, S => (ev a r S).bind fun x S1 => (ev i r S1).bind fun y S2 => match rdV x S2, y with
    | some x, .d y => R.opt ((ixD x y).map .d) S2
    | _, _ => .bad
  | .sl a lo hi, r, S => (ev a r S).bind fun x S1 => (evo lo r S1).bind fun l S2 => (evo hi r S2).bind fun h S3 => match rdV x S3 with
    | some x => R.opt ((slD x l h).map .d) S3
    | none => .bad
  | .dix d k, r, S => (ev d r S).bind fun x S1 => (ev k r S1).bind fun y S2 => match rdK x S2, y with
    | some kvs, .d y => R.opt (((keyD y).bind fun q => kget q kvs).map .d) S2
    | _, _ => .bad
  | .dgt d k z, r, S => (ev d r S).bind fun x S1 => match rdK x S1 with
    | some _ => (ev k r S1).bind fun y S2 => (ev z r S2).bind fun w S3 => match rdK x S3, y, w with
      | some kvs, .d y, .d w => R.opt ((keyD y).map fun q => .d ((kget q kvs).getD w)) S3
      | _, _, _ => .bad
    | none => .bad
  | .din neg k d, r, S => (ev k r S).bind fun y S1 => (ev d r S1).bind fun x S2 => match rdK x S2, y with
    | some kvs, .d y => R.opt ((keyD y).map fun q => .d (.bl (if neg then !(kget q kvs).isSome else (kget q kvs).isSome))) S2
    | _, _ => .bad
  | .dct0, _, S => .ok (.d (.dct [])) S
  | .newd, _, S => .ok (.loc S.length) (S ++ [.dct []])
  | .dof e, r, S => (ev e r S).bind fun x S1 => match x with
    | .d (.ptp xs) => R.opt ((dofL xs []).map fun kvs => .d (.dct kvs)) S1
    | .d (.lst xs) => R.opt ((dofL xs []).map fun kvs => .d (.dct kvs)) S1
    | _ => .bad
  | .deq0 neg d, r, S => (ev d r S).bind fun x S1 => match x with
    | .d (.dct kvs) => .ok (.d (.bl (if neg then !kvs.isEmpty else kvs.isEmpty))) S1
    | _ => .bad
  | .srt e, r, S => (ev e r S).bind fun x S1 => match srtL x S1 with
    | some xs => if sortOk xs then .ok (.d (.lst (sortD xs))) S1 else .bad
    | none => .bad
  | .srti e, r, S => (ev e r S).bind fun x S1 => match x with
    | .loc n => match S1[n]? with
      | some (.dct kvs) => if sortOk (kvs.map pairD) && kvs.all (fun p => p.2.flat) then .ok (.d (.lst (sortD (kvs.map pairD)))) S1 else .bad
      | _ => .bad
    | _ => .bad
  | .stars a b, r, S => (ev a r S).bind fun x S1 => match starL x with
    | some xs => (ev b r S1).bind fun y S2 => match starL y with
      | some ys => if xs.length + ys.length ≤ big then .ok (.d (.lst (xs ++ ys))) S2 else .bad
      | none => .bad
    | none => .bad
  | .mk j es, r, S => match P.mks[j]? with
    | some q => (evs es r S).bind fun vs S1 => mkV cal q.1 q.2 vs S1
    | none => .bad
  | .mkc i j es, r, S => match r[i]?, P.mks[j]? with
    | some (some (.d (.cls c))), some q => if q.1 = c then (evs es r S).bind fun vs S1 => mkV cal q.1 q.2 vs S1 else .bad
    | _, _ => .bad
  | .slt j o, r, S => (ev o r S).bind fun x S1 => match P.sls[j]? with
    | some q => R.opt ((fldOf q.1 q.2 x S1).map fun d => .d d.wk) S1
    | none => .bad
  | .sltp j o, r, S => (ev o r S).bind fun x S1 => match P.sls[j]? with
    | some q => R.opt ((fldOf q.1 q.2 x S1).map .d) S1
    | none => .bad
  | .mth j o es, r, S => match P.mts[j]? with
    | some q => (ev o r S).bind fun x S1 => if insOf q.1 x S1 then (evs es r S1).bind fun vs S2 => cal q.2 (x :: vs) S2 else .bad
    | none => .bad
  | .prp j o, r, S => match P.prs[j]? with
    | some q => (ev o r S).bind fun x S1 => if insOf q.1 x S1 then (cal q.2 [x] S1).noX else .bad
    | none => .bad
  | .cme j es, r, S => match P.cms[j]? with
    | some q => (evs es r S).bind fun vs S1 => cal q.2 (.d (.cls q.1) :: vs) S1
    | none => .bad
  | .isc j o, r, S => (ev o r S).bind fun x S1 => match x with
    | .d (.ins c _) => match P.isc c j with
      | some b => .ok (.d (.bl b)) S1
      | none => .bad
    | .d x => if bareD x then .ok (.d (.bl false)) S1 else .bad
    | _ => .bad
  | .olen o, r, S => (ev o r S).bind fun x S1 => match x with
    | .d (.ins c fs) => match P.lnf c with
      | some f => (cal f [.d (.ins c fs)] S1).bind fun v S2 => match v with
        | .d (.int i) => if 0 ≤ i ∧ i < 2 ^ 63 then .ok (.d (.int i)) S2 else .bad
        | _ => .bad
      | none => .bad
    | _ => .bad
  | .obool o, r, S => (ev o r S).bind fun x S1 => match x with
    | .d (.ins c fs) => match P.bof c with
      | some f => (cal f [.d (.ins c fs)] S1).bind fun v S2 => match v with
        | .d (.bl b) => .ok (.d (.bl b)) S2
        | _ => .bad
      | none => .bad
    | _ => .bad
  | .dcmp own t it c k e, r, S => (evi it r S).bind fun xs S1 => if big < xs.length then .bad else
    (dcmpL (fun x S2 => match asgD t x (wipes r own) with
      | none => .bad
      | some r1 => (ev c r1 S2).bind fun b S3 => match b with
        | .d (.bl true) => (ev k r1 S3).bind fun y S4 => (ev e r1 S4).bind fun z S5 => match y, z with
          | .d y, .d z => match keyD y with
            | some q => .ok (some (q, z)) S5
            | none => .bad
          | _, _ => .bad
        | .d (.bl false) => .ok none S3
        | _ => .bad) xs [] S1).bind fun ys S5 => .ok (.d (.dct ys)) S5
  | .fld i k, r, S => match r[i]? with
    | some (some (.xc c fs)) => R.opt (fs[k]?.map .d) S
    | _ => .bad
  | .comp own t it c e, r, S => (evi it r S).bind fun xs S1 => if big < xs.length then .bad else
    (compL (fun x S2 => match asgD t x (wipes r own) with
      | none => .bad
      | some r1 => (ev c r1 S2).bind fun k S3 => match k with
        | .d (.bl true) => (ev e r1 S3).bind fun y S4 => match y with
          | .d y => .ok (some y) S4
          | _ => .bad
        | .d (.bl false) => .ok none S3
        | _ => .bad) xs [] S1).bind fun ys S5 => .ok (.d (.lst ys)) S5
  | .newc own t it c e, r, S => (evi it r S).bind fun xs S1 => if big < xs.length then .bad else
    (compL (fun x S2 => match asgD t x (wipes r own) with
      | none => .bad
      | some r1 => (ev c r1 S2).bind fun k S3 => match k with
        | .d (.bl true) => (ev e r1 S3).bind fun y S4 => match y with
          | .d y => .ok (some y) S4
          | _ => .bad
        | .d (.bl false) => .ok none S3
        | _ => .bad) xs [] S1).bind fun ys S5 => .ok (.loc S5.length) (S5 ++ [.lst ys])
  | .ostr o, r, S => (ev o r S).bind fun x S1 => match x with
    | .d (.ins c fs) => match P.stf c with
      | some f => (cal f [.d (.ins c fs)] S1).bind fun v S2 => match v with
        | .d (.str s) => .ok (.d (.str s)) S2
        | _ => .bad
      | none => .bad
    | _ => .bad
  | .newo e, r, S => (ev e r S).bind fun x S1 => match x with
    | .d (.lst xs) => .ok (.loc S1.length) (S1 ++ [.lst xs])
    | .d (.tup xs) => .ok (.loc S1.length) (S1 ++ [.lst xs])
    | .d (.ptp xs) => .ok (.loc S1.length) (S1 ++ [.lst xs])
    | _ => .bad
  | .pop i k, r, S => match r[i]? with
    | some (some (.loc n)) => match S[n]? with
      | some (.lst _) => (ev k r S).bind fun x S1 => match x, S1[n]? with
        | .d (.int j), some (.lst xs) => if -(2 ^ 63) ≤ j ∧ j < 2 ^ 63 then match plc j xs.length with
          | some p => match xs[p]? with
            | some y => .ok (.d y) (S1.set n (.lst (xs.eraseIdx p)))
            | none => .bad
          | none => .bad
          else .bad
        | _, _ => .bad
      | _ => .bad
    | _ => .bad
  | .dits d, r, S => (ev d r S).bind fun x S1 => match x with
    | .loc n => match S1[n]? with
      | some (.dct kvs) => .ok (.d (.lst (kvs.map fun p => .tup [kyD p.1, p.2]))) S1
      | _ => .bad
    | _ => .bad
  | .dln d, r, S => (ev d r S).bind fun x S1 => match x with
    | .loc n => match S1[n]? with
      | some (.dct kvs) => .ok (.d (.int kvs.length)) S1
      | _ => .bad
    | _ => .bad
  | .isn neg a, r, S => (ev a r S).bind fun x S1 => match x with
    | .d .non => .ok (.d (.bl (!neg))) S1
    | .d _ => .ok (.d (.bl neg)) S1
    | .loc _ => .ok (.d (.bl neg)) S1
    | .xc _ _ => .bad
  | .repl o c z, r, S => (ev o r S).bind fun x S1 => match x with
    | .d (.str s) => if s.length ≤ 1000 ∧ z.length ≤ 1000 then .ok (.d (.str (replC c z s))) S1 else .bad
    | _ => .bad
  | .fjoin es, r, S => (evj es [] r S).bind fun s S1 => .ok (.d (.str s)) S1
  | .fmt e, r, S => (ev e r S).bind fun x S1 => match x with
    | .d (.str s) => if s.length ≤ big then .ok (.d (.str s)) S1 else .bad
    | .d (.int i) => if i.natAbs < 2 ^ 1900 then .ok (.d (.str (decI i))) S1 else .bad
    | _ => .bad
  | .fmt02 e, r, S => (ev e r S).bind fun x S1 => match x with
    | .d (.int i) => if 0 ≤ i ∧ i < 100 then .ok (.d (.str [48 + (i / 10).toNat, 48 + (i % 10).toNat])) S1 else .bad
    | _ => .bad
  | _, _, _ => .bad
def evs : Ex → Ev → Hs → R (List Vl)
  | .nil, _, S => .ok [] S
  | .cons e es, r, S => (ev e r S).bind fun v S1 => (evs es r S1).bind fun vs S2 => .ok (v :: vs) S2
  | _, _, _ => .bad
/-- the parts of an f-string -/
def evj : Ex → Cs → Ev → Hs → R Cs
  | .nil, acc, _, S => .ok acc S
  | .cons e es, acc, r, S => (ev e r S).bind fun v S1 => match v with
    | .d (.str s) => if (acc ++ s).length ≤ big then evj es (acc ++ s) r S1 else .bad
    | _ => .bad
  | _, _, _, _ => .bad
def evo : Ex → Ev → Hs → R (Option Int)
  | .no, _, S => .ok none S
  | .one e, r, S => (ev e r S).bind fun v S1 => match v with
    | .d (.int i) => .ok (some i) S1
    | _ => .bad
  | _, _, _ => .bad
/-- what a loop walks -/
def evi : Ex → Ev → Hs → R (List D)
  | .rng a, r, S => (ev a r S).bind fun x S1 => match x with
    | .d (.int j) => if -(2 ^ 30) < j ∧ j < 2 ^ 30 then .ok (upTo j.toNat 0) S1 else .bad
    | _ => .bad
  | .rng2 a b, r, S => (ev a r S).bind fun x S1 => (ev b r S1).bind fun y S2 => match x, y with
    | .d (.int i), .d (.int j) => if -(2 ^ 30) < i ∧ i < 2 ^ 30 ∧ -(2 ^ 30) < j ∧ j < 2 ^ 30 then .ok (upTo (j - i).toNat i) S2 else .bad
    | _, _ => .bad
  | .zip a b, r, S => (ev a r S).bind fun x S1 => (ev b r S1).bind fun y S2 => match x, y with
    | .d (.lst xs), .d (.lst ys) => .ok (zipD xs ys) S2
    | .d (.str s), .d (.lst ys) => .ok (zipD (s.map fun c => .str [c]) ys) S2
    | _, _ => .bad
  | .enm a, r, S => (ev a r S).bind fun x S1 => match x with
    | .d (.lst xs) => .ok (enumD 0 xs) S1
    | _ => .bad
  | .one e, r, S => (ev e r S).bind fun x S1 => match x with
    | .d (.lst xs) => .ok xs S1
    | .d (.tup xs) => .ok xs S1
    | .d (.str s) => .ok (s.map fun c => .str [c]) S1
    | .d (.ro xs) => .ok xs S1
    | .d (.dct kvs) => .ok (kvs.map fun p => kyD p.1) S1
    | _ => .bad
  | .itm d, r, S => (ev d r S).bind fun x S1 => match x with
    | .d (.dct kvs) => .ok (kvs.map fun p => .tup [kyD p.1, p.2]) S1
    | _ => .bad
  | _, _, _ => .bad
end
end
end Iv
end
section
set_option autoImplicit false
set_option maxRecDepth 100000
set_option maxHeartbeats 4000000
namespace Iv
open PySem L2

/-- the written part, and where the classes stand -/
structure Fg where
  K : PySem.W.Frag
  cl : Nat → Addr
instance : Coe Fg PySem.W.Frag := ⟨Fg.K⟩
abbrev kx (cl : Nat → Addr) (X : Cx) : Fg := ⟨X.K, cl⟩
/-- a text of the model -/
def S' (s : Cs) : Str := ⟨s.toArray⟩
theorem S'_toList (x : Str) : S' x.cps.toList = x := by cases x; simp [S']
theorem S'_list (s : Cs) : (S' s).cps.toList = s := by simp [S']
theorem S'_inj {a b : Cs} (h : S' a = S' b) : a = b := by
  have := congrArg (fun x : Str => x.cps.toList) h
  simpa [S'] using this
theorem S'_length (s : Cs) : (S' s).length = s.length := by simp [S', Str.length]

def Okc (s : Cs) : Prop := ∀ c ∈ s, c < 1114112
def kyOf : Ky → Key
  | .i n => Sum.inl n
  | .s x => Sum.inr (S' x)

def okK : Ky → Prop
  | .i _ => True
  | .s x => Okc x
/-- a tuple without attributes of its own, of which the object is known -/
def SqP (K : PySem.W.Frag) (H : Hp) (a : Addr) (vs : List V) : Prop := ∃ (o : Obj) (its : List Value) (n : Nat), (H a = some (.frz o (.tup vs)) ∨ (K.lookup a = some o ∧ Vals vs its)) ∧ o.cls = .type "tuple" ∧ o.dict = none ∧ o.data = .seq its.toArray n ∧ vs.length ≤ sizeLine
theorem SqP.ext {K : PySem.W.Frag} {H H' : Hp} {a : Addr} {vs : List V} (e : Ext H H') (h : SqP K H a vs) : SqP K H' a vs := by
  obtain ⟨o, its, n, h1, h2⟩ := h
  exact ⟨o, its, n, h1.imp (e _ _) id, h2⟩
theorem SqP.weak {K : PySem.W.Frag} {H : Hp} {a : Addr} {vs : List V} (h : SqP K H a vs) : SqT K H a vs := by
  obtain ⟨o, its, n, h1, h2, h3, h4, h5⟩ := h
  rcases h1 with h1 | ⟨h1, h6⟩
  · exact .inl (.inr ⟨o, h1⟩)
  · refine .inr ⟨o, its.toArray, n, h1, h2, h4, ?_, by simpa using h6⟩
    have := h6.length
    simp
    omega
mutual
/-- the value v of the heap G is the data -/
inductive Rep (K : Fg) (G : Hp) : D → V → Prop
  | non : Rep K G .non .non
  | bl (b : Bool) : Rep K G (.bl b) (.bl b)
  | int (i : Int) : Rep K G (.int i) (.int i)
  | str (s : Cs) (h : Okc s) : Rep K G (.str s) (.str (S' s))
  | tup {a : Addr} {vs : List V} {xs : List D} : SqT K G a vs → Reps K G xs vs → Rep K G (.tup xs) (.ref a)
  | lst {a : Addr} {vs : List V} {xs : List D} : G a = some (.lst vs) → Reps K G xs vs → Rep K G (.lst xs) (.ref a)
  | ro {a : Addr} {vs : List V} {xs : List D} : SqL K G a vs → Reps K G xs vs → Rep K G (.ro xs) (.ref a)
  | dct {a : Addr} {o : Obj} {kvs : List (Key × V)} {xs : List (Ky × D)} : G a = some (.frz o (.dK kvs)) → RepKs K G xs kvs → Rep K G (.dct xs) (.ref a)
  | ins {c : Nat} {a dx : Addr} {vs : List V} {fs : List D} : G a = some (SlX.SlO a (K.cl c) dx (vs.map some)) → G dx = some (.xd []) → dx ≠ a → Reps K G fs vs → Rep K G (.ins c fs) (.ref a)
  | cls (c : Nat) : Rep K G (.cls c) (.ref (K.cl c))
  | ptp {a : Addr} {vs : List V} {xs : List D} : SqP K G a vs → Reps K G xs vs → Rep K G (.ptp xs) (.ref a)
inductive RepKs (K : Fg) (G : Hp) : List (Ky × D) → List (Key × V) → Prop
  | nil : RepKs K G [] []
  | cons {k : Ky} {x : D} {v : V} {xs : List (Ky × D)} {kvs : List (Key × V)} : okK k → Rep K G x v → RepKs K G xs kvs → RepKs K G ((k, x) :: xs) ((kyOf k, v) :: kvs)
inductive Reps (K : Fg) (G : Hp) : List D → List V → Prop
  | nil : Reps K G [] []
  | cons {x : D} {v : V} {xs : List D} {vs : List V} : Rep K G x v → Reps K G xs vs → Reps K G (x :: xs) (v :: vs)
end

mutual
theorem Rep.mono {K : Fg} {G G' : Hp} (e : Ext G G') : ∀ {x : D} {v : V}, Rep K G x v → Rep K G' x v
  | _, _, .non => .non
  | _, _, .bl b => .bl b
  | _, _, .int i => .int i
  | _, _, .str s h => .str s h
  | _, _, .tup h r => .tup (h.ext e) (Reps.mono e r)
  | _, _, .lst h r => .lst (e _ _ h) (Reps.mono e r)
  | _, _, .ro h r => .ro (h.ext e) (Reps.mono e r)
  | _, _, .dct h r => .dct (e _ _ h) (RepKs.mono e r)
  | _, _, .ins h1 h2 n r => .ins (e _ _ h1) (e _ _ h2) n (Reps.mono e r)
  | _, _, .cls c => .cls c
  | _, _, .ptp h r => .ptp (h.ext e) (Reps.mono e r)
theorem RepKs.mono {K : Fg} {G G' : Hp} (e : Ext G G') : ∀ {xs : List (Ky × D)} {kvs : List (Key × V)}, RepKs K G xs kvs → RepKs K G' xs kvs
  | _, _, .nil => .nil
  | _, _, .cons o h r => .cons o (Rep.mono e h) (RepKs.mono e r)
theorem Reps.mono {K : Fg} {G G' : Hp} (e : Ext G G') : ∀ {xs : List D} {vs : List V}, Reps K G xs vs → Reps K G' xs vs
  | _, _, .nil => .nil
  | _, _, .cons h r => .cons (Rep.mono e h) (Reps.mono e r)
end
mutual
theorem Rep.wkd {K : Fg} {G : Hp} : ∀ {x : D} {v : V}, Rep K G x v → Rep K G x.wkd v
  | _, _, .non => .non
  | _, _, .bl b => .bl b
  | _, _, .int i => .int i
  | _, _, .str s h => .str s h
  | _, _, .tup h r => .tup h r.wkds
  | _, _, .lst h r => .lst h r.wkds
  | _, _, .ro h r => .ro h r
  | _, _, .dct h r => .dct h r
  | _, _, .ins h1 h2 h3 r => .ins h1 h2 h3 r
  | _, _, .cls c => .cls c
  | _, _, .ptp h r => .tup h.weak r.wkds
theorem Reps.wkds {K : Fg} {G : Hp} : ∀ {xs : List D} {vs : List V}, Reps K G xs vs → Reps K G (D.wkds xs) vs
  | _, _, .nil => .nil
  | _, _, .cons r rs => .cons r.wkd rs.wkds
end
theorem Rep.wk {K : Fg} {G : Hp} {x : D} {v : V} (h : Rep K G x v) : Rep K G x.wk v := by
  cases h with
  | ptp h r => exact .tup h.weak r
  | non => exact .non
  | bl b => exact .bl b
  | int i => exact .int i
  | str s h => exact .str s h
  | tup h r => exact .tup h r
  | lst h r => exact .lst h r
  | ro h r => exact .ro h r
  | dct h r => exact .dct h r
  | ins h1 h2 n r => exact .ins h1 h2 n r
  | cls c => exact .cls c
theorem Reps.length {K : Fg} {G : Hp} : ∀ {xs : List D} {vs : List V}, Reps K G xs vs → xs.length = vs.length
  | _, _, .nil => rfl
  | _, _, .cons _ r => by simp [Reps.length r]
theorem Reps.get {K : Fg} {G : Hp} : ∀ {xs : List D} {vs : List V} {i : Nat} {x : D}, Reps K G xs vs → xs[i]? = some x → ∃ v, vs[i]? = some v ∧ Rep K G x v
  | _, _, _, _, .nil, e => by simp at e
  | _, _, 0, _, .cons h _, e => by simp at e; subst e; exact ⟨_, rfl, h⟩
  | _, _, i + 1, x, .cons _ r, e => by
    obtain ⟨v, h1, h2⟩ := Reps.get (i := i) (x := x) r (by simpa using e)
    exact ⟨v, by simpa using h1, h2⟩
theorem Reps.getV {K : Fg} {G : Hp} : ∀ {xs : List D} {vs : List V} {i : Nat} {v : V}, Reps K G xs vs → vs[i]? = some v → ∃ x, xs[i]? = some x ∧ Rep K G x v
  | _, _, _, _, .nil, e => by simp at e
  | _, _, 0, _, .cons h _, e => by simp at e; subst e; exact ⟨_, rfl, h⟩
  | _, _, i + 1, v, .cons _ r, e => by
    obtain ⟨x, h1, h2⟩ := Reps.getV (i := i) (v := v) r (by simpa using e)
    exact ⟨x, by simpa using h1, h2⟩
theorem Reps.append {K : Fg} {G : Hp} : ∀ {xs ys : List D} {vs ws : List V}, Reps K G xs vs → Reps K G ys ws → Reps K G (xs ++ ys) (vs ++ ws)
  | _, _, _, _, .nil, s => s
  | _, _, _, _, .cons h r, s => .cons h (Reps.append r s)
theorem Reps.take {K : Fg} {G : Hp} : ∀ {xs : List D} {vs : List V} (n : Nat), Reps K G xs vs → Reps K G (xs.take n) (vs.take n)
  | _, _, 0, _ => by simp; exact .nil
  | _, _, _ + 1, .nil => by simp; exact .nil
  | _, _, n + 1, .cons h r => by simpa using Reps.cons h (Reps.take n r)
theorem Reps.drop {K : Fg} {G : Hp} : ∀ {xs : List D} {vs : List V} (n : Nat), Reps K G xs vs → Reps K G (xs.drop n) (vs.drop n)
  | _, _, 0, r => by simpa using r
  | _, _, _ + 1, .nil => by simp; exact .nil
  | _, _, n + 1, .cons _ r => by simpa using Reps.drop n r
theorem Reps.set {K : Fg} {G : Hp} {x : D} {v : V} (h : Rep K G x v) : ∀ {xs : List D} {vs : List V} (i : Nat), Reps K G xs vs → Reps K G (xs.set i x) (vs.set i v)
  | _, _, _, .nil => by simp; exact .nil
  | _, _, 0, .cons _ r => .cons h r
  | _, _, i + 1, .cons q r => .cons q (Reps.set h i r)

/-- new objects that never change are laid, in G and in H -/
inductive Al : Hp → Hp → Hp → Hp → Prop
  | refl {G H : Hp} : Al G H G H
  | new {G H G1 H1 : Hp} {p : Addr} {o : HO} : Al G H G1 H1 → H1 p = none → Al G H (upd G1 p o) (upd H1 p o)
theorem Al.extH {G H G' H' : Hp} (a : Al G H G' H') : Ext H H' := by
  induction a with
  | refl => exact fun _ _ h => h
  | @new G1 H1 p o a hp ih => intro b u h; have := ih _ _ h; rw [upd_ne (ne_of_none this hp)]; exact this
theorem Al.ext {G H G' H' : Hp} (a : Al G H G' H') (e : Ext G H) : Ext G' H' ∧ Ext G G' ∧ Ext H H' := by
  refine ⟨?_, ?_, a.extH⟩
  · induction a with
    | refl => exact e
    | @new G1 H1 p o a hp ih =>
      intro b u h
      by_cases hb : b = p
      · subst hb; rw [upd_same] at h ⊢; exact h
      · rw [upd_ne hb] at h ⊢; exact ih _ _ h
  · have all : Ext G' H' ∧ Ext G G' := by
      induction a with
      | refl => exact ⟨e, fun _ _ h => h⟩
      | @new G1 H1 p o a hp ih =>
        obtain ⟨i1, i2⟩ := ih
        have gp : G1 p = none := by
          cases q : G1 p with
          | none => rfl
          | some u => rw [i1 _ _ q] at hp; cases hp
        refine ⟨fun b u h => ?_, fun b u h => ?_⟩
        · by_cases hb : b = p
          · subst hb; rw [upd_same] at h ⊢; exact h
          · rw [upd_ne hb] at h ⊢; exact i1 _ _ h
        · have := i2 _ _ h; rw [upd_ne (ne_of_none this gp)]; exact this
    exact all.2
theorem Al.trans {G H G1 H1 G2 H2 : Hp} (a : Al G H G1 H1) (b : Al G1 H1 G2 H2) : Al G H G2 H2 := by
  induction b with
  | refl => exact a
  | new _ hp ih => exact .new ih hp
theorem Al.one {G H : Hp} {p : Addr} {o : HO} (hp : H p = none) : Al G H (upd G p o) (upd H p o) := .new .refl hp
theorem Al.only {G H G' H' : Hp} (a : Al G H G' H') {b : Addr} {o : HO} (h1 : G b = none) (h2 : H b = some o) : G' b = none := by
  induction a with
  | refl => exact h1
  | @new G1 H1 p u a hp ih => rw [upd_ne (ne_of_none (a.extH _ _ h2) hp)]; exact ih

/-- a value of a name -/
def RepV (K : Fg) (G : Hp) (m : List Addr) : Vl → V → Prop
  | .d x, u => Rep K G x u
  | .loc n, u => ∃ a, m[n]? = some a ∧ u = .ref a
  | .xc _ _, _ => False
/-- an object of the small heap -/
inductive RepOs (K : Fg) (G : Hp) : List (Option D) → List (Option V) → Prop
  | nil : RepOs K G [] []
  | none {xs : List (Option D)} {vs : List (Option V)} : RepOs K G xs vs → RepOs K G (none :: xs) (none :: vs)
  | some {x : D} {v : V} {xs : List (Option D)} {vs : List (Option V)} : Rep K G x v → RepOs K G xs vs → RepOs K G (some x :: xs) (some v :: vs)
theorem RepOs.mono {K : Fg} {G G' : Hp} (e : Ext G G') {xs : List (Option D)} {vs : List (Option V)} (h : RepOs K G xs vs) : RepOs K G' xs vs := by
  induction h with
  | nil => exact .nil
  | none _ ih => exact .none ih
  | some r _ ih => exact .some (r.mono e) ih
inductive ObV (K : Fg) (G : Hp) (a : Addr) : Ob → HO → Prop
  | lst {xs : List D} {vs : List V} : Reps K G xs vs → ObV K G a (.lst xs) (.lst vs)
  | dct {xs : List (Ky × D)} {kvs : List (Key × V)} : RepKs K G xs kvs → ObV K G a (.dct xs) (.dK kvs)
  | ins {c : Nat} {dx : Addr} {fs : List (Option D)} {vs : List (Option V)} : G dx = some (.xd []) → dx ≠ a → RepOs K G fs vs → ObV K G a (.ins c fs) (SlX.SlO a (K.cl c) dx vs)
theorem ObV.mono {K : Fg} {G G' : Hp} {a : Addr} {o : Ob} {ho : HO} (e : Ext G G') (h : ObV K G a o ho) : ObV K G' a o ho := by
  cases h with
  | lst r => exact .lst (r.mono e)
  | dct r => exact .dct (r.mono e)
  | ins h1 h2 r => exact .ins (e _ _ h1) h2 (r.mono e)
def ObR (K : Fg) (G H : Hp) (a : Addr) (o : Ob) : Prop := o = .dead ∨ (G a = none ∧ ∃ ho, H a = some ho ∧ ObV K G a o ho)
theorem ObR.lst {K : Fg} {G H : Hp} {a : Addr} {xs : List D} (h : ObR K G H a (.lst xs)) : G a = none ∧ ∃ vs, H a = some (.lst vs) ∧ Reps K G xs vs := by
  rcases h with h | ⟨h1, ho, h2, h3⟩
  · cases h
  · cases h3 with
    | lst r => exact ⟨h1, _, h2, r⟩
theorem ObR.dct {K : Fg} {G H : Hp} {a : Addr} {xs : List (Ky × D)} (h : ObR K G H a (.dct xs)) : G a = none ∧ ∃ vs, H a = some (.dK vs) ∧ RepKs K G xs vs := by
  rcases h with h | ⟨h1, ho, h2, h3⟩
  · cases h
  · cases h3 with
    | dct r => exact ⟨h1, _, h2, r⟩
theorem ObR.ins {K : Fg} {G H : Hp} {a : Addr} {c : Nat} {fs : List (Option D)} (h : ObR K G H a (.ins c fs)) : G a = none ∧ ∃ dx vs, H a = some (SlX.SlO a (K.cl c) dx vs) ∧ G dx = some (.xd []) ∧ dx ≠ a ∧ RepOs K G fs vs := by
  rcases h with h | ⟨h1, ho, h2, h3⟩
  · cases h
  · cases h3 with
    | ins q1 q2 r => exact ⟨h1, _, _, h2, q1, q2, r⟩
structure Rl (K : Fg) (F G : Hp) (m : List Addr) (S : Hs) (H : Hp) : Prop where
  ext : Ext G H
  fr : Ext F H
  fd : ∀ (a : Addr) (o : HO), F a = some o → G a = none ∧ a ∉ m
  mh : ∀ a ∈ m, ∃ o, H a = some o
  len : m.length = S.length
  nd : m.Nodup
  ob : ∀ (n : Nat) (a : Addr) (o : Ob), m[n]? = some a → S[n]? = some o → ObR K G H a o
def RlV (K : Fg) (G : Hp) (m : List Addr) (r : Ev) (σ : L2.St) : Prop :=
  r.length = σ.length ∧ ∀ (i : Nat) (v : Vl), r[i]? = some (some v) → (∀ c fs, v ≠ .xc c fs) → ∃ u, σ[i]? = some (some u) ∧ RepV K G m v u
def Grow (G : Hp) (m : List Addr) (G' : Hp) (m' : List Addr) : Prop := Ext G G' ∧ ∀ (n : Nat) (a : Addr), m[n]? = some a → m'[n]? = some a
theorem Grow.refl {G : Hp} {m : List Addr} : Grow G m G m := ⟨fun _ _ h => h, fun _ _ h => h⟩
theorem Grow.trans {G G1 G2 : Hp} {m m1 m2 : List Addr} (a : Grow G m G1 m1) (b : Grow G1 m1 G2 m2) : Grow G m G2 m2 := ⟨a.1.trans b.1, fun n x h => b.2 n x (a.2 n x h)⟩
theorem RepV.mono {K : Fg} {G G' : Hp} {m m' : List Addr} (g : Grow G m G' m') : ∀ {v : Vl} {u : V}, RepV K G m v u → RepV K G' m' v u
  | .d _, _, h => Rep.mono g.1 h
  | .loc _, _, ⟨a, h, e⟩ => ⟨a, g.2 _ _ h, e⟩
  | .xc _ _, _, h => h.elim
theorem RlV.mono {K : Fg} {G G' : Hp} {m m' : List Addr} {r : Ev} {σ : L2.St} (g : Grow G m G' m') (h : RlV K G m r σ) : RlV K G' m' r σ :=
  ⟨h.1, fun i v e n => let ⟨u, h1, h2⟩ := h.2 i v e n; ⟨u, h1, h2.mono g⟩⟩
theorem Rl.al {K : Fg} {F G G' H H' : Hp} {m : List Addr} {S : Hs} (a : Al G H G' H') (h : Rl K F G m S H) : Rl K F G' m S H' := by
  obtain ⟨e1, e2, e3⟩ := a.ext h.ext
  refine ⟨e1, fun b o q => e3 _ _ (h.fr b o q), fun b o q => ⟨a.only (h.fd b o q).1 (h.fr b o q), (h.fd b o q).2⟩, fun b hb => let ⟨o, q⟩ := h.mh b hb; ⟨o, e3 _ _ q⟩, h.len, h.nd, fun n b o hn ho => ?_⟩
  rcases h.ob n b o hn ho with q | ⟨h1, vs, h2, h3⟩
  · exact .inl q
  · exact .inr ⟨a.only h1 h2, vs, e3 _ _ h2, h3.mono e2⟩
theorem Al.grow {G G' H H' : Hp} {m : List Addr} (a : Al G H G' H') (e : Ext G H) : Grow G m G' m := ⟨(a.ext e).2.1, fun _ _ h => h⟩

/-! ### exceptions -/
/-- the classes of errors: the name; the field that __init__ keeps -/
structure Xc where
  name : Str
  fld : Option Str
  bs : Nat := 0
def RepX (xs : List Xc) (mg : Str → Option Value) (K : Fg) (G : Hp) (c : Nat) (fs : List D) (cls : Value) (d : Option Addr) : Prop :=
  ∃ (e : Xc) (C : Addr), xs[c]? = some e ∧ mg e.name = some (.ref C) ∧ cls = .ref C ∧
    match e.fld, fs with
    | none, _ => d = none
    | some f, [x] => ∃ (da : Addr) (v : V), d = some da ∧ G da = some (.xd [(f, v)]) ∧ Rep K G x v
    | _, _ => False

/-! ### readings -/
section
variable (xs : List Xc) (mg : Str → Option Value) (K : Fg) (W : WX) (F : Hp)
/-- what must hold of a result -/
def Out {α β : Type} (RR : Hp → List Addr → α → β → Prop) (σ : L2.St) (G : Hp) (m : List Addr) (Q : β → Hp → Prop) : R α → Prop
  | .ok v S => ∀ (G' : Hp) (m' : List Addr) (H' : Hp) (u : β), Grow G m G' m' → Rl K F G' m' S H' → RR G' m' v u → Q u H'
  | .exc c fs S => ∀ (G' : Hp) (m' : List Addr) (H' : Hp) (cls : Value) (d : Option Addr), Grow G m G' m' → Rl K F G' m' S H' → RepX xs mg K G' c fs cls d → W cls d σ H'
  | .bad => False
abbrev OutV := Out (α := Vl) (β := V) xs mg K W F (RepV K)
end
theorem Out.grow {xs : List Xc} {mg : Str → Option Value} {K : Fg} {W : WX} {α β : Type} {RR : Hp → List Addr → α → β → Prop} {σ : L2.St} {F G G1 : Hp} {m m1 : List Addr} {Q : β → Hp → Prop} {x : R α} (g : Grow G m G1 m1)
    (h : Out xs mg K W F RR σ G m Q x) : Out xs mg K W F RR σ G1 m1 Q x := by
  cases x with
  | ok v S => exact fun G' m' H' u g' => h G' m' H' u (g.trans g')
  | exc c fs S => exact fun G' m' H' cls d g' => h G' m' H' cls d (g.trans g')
  | bad => exact h
theorem Out.imp {xs : List Xc} {mg : Str → Option Value} {K : Fg} {W : WX} {α β : Type} {RR : Hp → List Addr → α → β → Prop} {σ : L2.St} {F G : Hp} {m : List Addr} {Q Q' : β → Hp → Prop} {x : R α} (q : ∀ u H, Q u H → Q' u H)
    (h : Out xs mg K W F RR σ G m Q x) : Out xs mg K W F RR σ G m Q' x := by
  cases x with
  | ok v S => exact fun G' m' H' u g' r1 r2 => q _ _ (h G' m' H' u g' r1 r2)
  | exc c fs S => exact h
  | bad => exact h
/-- one after another -/
theorem Out.bind {xs : List Xc} {mg : Str → Option Value} {K : Fg} {W : WX} {α β γ δ : Type} {RR : Hp → List Addr → α → β → Prop} {RR2 : Hp → List Addr → γ → δ → Prop} {σ : L2.St} {F G : Hp} {m : List Addr} {Q : δ → Hp → Prop} {x : R α} {k : α → Hs → R γ}
    (h : Out xs mg K W F RR2 σ G m Q (x.bind k)) :
    Out xs mg K W F RR σ G m (fun u H => ∃ (G1 : Hp) (m1 : List Addr) (v : α) (S1 : Hs), Grow G m G1 m1 ∧ Rl K F G1 m1 S1 H ∧ RR G1 m1 v u ∧ Out xs mg K W F RR2 σ G1 m1 Q (k v S1)) x := by
  cases x with
  | ok v S => exact fun G' m' H' u g r1 r2 => ⟨G', m', v, S, g, r1, r2, Out.grow g h⟩
  | exc c fs S => exact h
  | bad => exact h

/-- an expression's reading -/
def tX {α β : Type} (xs : List Xc) (mg : Str → Option Value) (K : Fg) (W : WX) (RR : Hp → List Addr → α → β → Prop) (f : Ev → Hs → R α) : L2.St → Hp → (β → Hp → Prop) → Prop := fun σ H Q =>
  ∃ (F G : Hp) (m : List Addr) (r : Ev) (S : Hs), Rl K F G m S H ∧ RlV K G m r σ ∧ Out xs mg K W F RR σ G m Q (f r S)
/-- the step from a part to the rest -/
theorem tX.bind {xs : List Xc} {mg : Str → Option Value} {K : Fg} {W : WX} {α β γ δ : Type} {RR : Hp → List Addr → α → β → Prop} {RR2 : Hp → List Addr → γ → δ → Prop} {f : Ev → Hs → R α} {k : α → Hs → R γ} {σ : L2.St} {F G H : Hp} {m : List Addr} {r : Ev} {S : Hs} {Q : δ → Hp → Prop} {Q1 : β → Hp → Prop}
    (hl : Rl K F G m S H) (hv : RlV K G m r σ) (h : Out xs mg K W F RR2 σ G m Q ((f r S).bind k))
    (q : ∀ u H1 G1 m1 v S1, Grow G m G1 m1 → Rl K F G1 m1 S1 H1 → RlV K G1 m1 r σ → RR G1 m1 v u → Out xs mg K W F RR2 σ G1 m1 Q (k v S1) → Q1 u H1) : tX xs mg K W RR f σ H Q1 :=
  ⟨F, G, m, r, S, hl, hv, (Out.bind (RR := RR) h).imp fun u H1 ⟨G1, m1, v, S1, g, r1, r2, o⟩ => q u H1 G1 m1 v S1 g r1 (hv.mono g) r2 o⟩
end Iv
end
section
set_option autoImplicit false
set_option maxRecDepth 100000
set_option maxHeartbeats 4000000
namespace Iv
open PySem L2
/-! ### operations, by values -/
theorem S'_append (a b : Cs) : S' a ++ S' b = S' (a ++ b) := TL.ext_tl (by rw [TL.tl_append]; simp [TL.tl, S'])
theorem small_line {n : Nat} (h : n ≤ big) : n ≤ sizeLine := Nat.le_trans h (by decide)
/-- what an operation hands on -/
def Gives (K : Fg) (G H : Hp) (d : D) (Q : VK) : Prop := ∀ (v : V) (G' H' : Hp), Al G H G' H' → Rep K G' d v → Q v H'
theorem Gives.here {K : Fg} {G H : Hp} {d : D} {Q : VK} (g : Gives K G H d Q) {v : V} (r : Rep K G d v) : Q v H := g v G H .refl r
theorem Gives.newL {K : Fg} {G H : Hp} {xs : List D} {vs : List V} {Q : VK} (e : Ext G H) (g : Gives K G H (.lst xs) Q) (r : Reps K G xs vs) {p : Addr} (hp : H p = none) : Q (.ref p) (upd H p (.lst vs)) := by
  have a : Al G H (upd G p (.lst vs)) (upd H p (.lst vs)) := Al.one hp
  exact g _ _ _ a (.lst upd_same (r.mono (a.ext e).2.1))
theorem Gives.newT {K : Fg} {G H : Hp} {xs : List D} {vs : List V} {Q : VK} (e : Ext G H) (g : Gives K G H (.tup xs) Q) (r : Reps K G xs vs) {p : Addr} (hp : H p = none) : Q (.ref p) (upd H p (.tup vs)) := by
  have a : Al G H (upd G p (.tup vs)) (upd H p (.tup vs)) := Al.one hp
  exact g _ _ _ a (.tup (.of upd_same) (r.mono (a.ext e).2.1))

def bop : BOp → Operator
  | .add => .Add | .sub => .Sub | .mul => .Mult | .fdiv => .FloorDiv | .mod => .Mod | .pow => .Pow
def rB (K : Fg) (o : BOp) : R2 := fun x y H Q => ∃ (G : Hp) (a b d : D), Ext G H ∧ Rep K G a x ∧ Rep K G b y ∧ binD o a b = some d ∧ Gives K G H d Q
section
variable {cl : Nat → Addr} {X : Cx}
theorem op_mulS : OpR X (binaryOp .Mult) (fun x y H Q => ∃ (z : Str) (n : Int), x = .str z ∧ y = .int n ∧ MulOk z n ∧ Q (.str (Txt.mul z n)) H) := by
  intro pins s σ H x y v u Q I rx ry h
  obtain ⟨z, n, rfl, rfl, ok, q⟩ := h
  obtain ⟨t, rfl⟩ := rx
  obtain ⟨t', rfl⟩ := ry
  exact SB.mul ok fun t' k => ⟨.str _, H, I.tok _, ⟨_, rfl⟩, q⟩
theorem foldl_app {α : Type} : ∀ (n : Nat) (x acc : Array α), ((List.replicate n x).foldl (· ++ ·) acc).toList = acc.toList ++ repL x.toList n
  | 0, x, acc => by simp [repL]
  | n + 1, x, acc => by
    rw [List.replicate_succ, List.foldl_cons, foldl_app n x (acc ++ x)]
    simp [repL]
theorem mul_text {s : Cs} {n : Int} (h0 : 0 ≤ n) : Txt.mul (S' s) n = S' (repL s n.toNat) := by
  unfold Txt.mul
  by_cases h1 : n < 1
  · rw [if_pos h1]
    have : n = 0 := by omega
    subst this; rfl
  · rw [if_neg h1]
    by_cases h2 : (n == 1 || (S' s).length == 0) = true
    · rw [if_pos h2]
      rw [Bool.or_eq_true, beq_iff_eq, beq_iff_eq] at h2
      rcases h2 with h2 | h2
      · subst h2; simp [repL]
      · rw [S'_length] at h2
        have : s = [] := List.length_eq_zero_iff.mp h2
        subst this
        have : ∀ k : Nat, repL ([] : Cs) k = [] := fun k => by induction k with
          | zero => rfl
          | succ k ih => simp [repL, ih]
        rw [this]
    · rw [if_neg h2]
      refine TL.ext_tl ?_
      show (_ : Array Nat).toList = _
      rw [foldl_app]
      simp [S', TL.tl]
theorem Okc.rep {s : Cs} (h : Okc s) : ∀ n : Nat, Okc (repL s n)
  | 0 => fun c hc => by simp [repL] at hc
  | n + 1 => fun c hc => (List.mem_append.mp (show c ∈ s ++ repL s n from hc)).elim (h c) (Okc.rep h n c)
theorem mul_ok {s : Cs} {n : Int} (h : 0 ≤ n ∧ n ≤ 100 ∧ s.length ≤ 1000) : MulOk (S' s) n := by
  obtain ⟨h0, h1, h2⟩ := h
  refine ⟨by simp; omega, fun h3 h4 => ?_, fun h3 h4 => ?_⟩
  · rw [S'_length]
    have : (1000 : Int) ≤ (2 ^ 63 - 1) / n := by
      rw [Int.le_ediv_iff_mul_le (by omega)]
      have : (1000 : Int) * n ≤ 1000 * 100 := by omega
      omega
    omega
  · rw [S'_length]
    have : s.length * n.toNat ≤ 1000 * 100 := Nat.mul_le_mul h2 (by omega)
    unfold Builtin.Str.tooLong
    exact decide_eq_false (by rw [sizeLine_eq]; omega)
theorem op_rB (o : BOp) : OpR X (binaryOp (bop o)) (rB (kx cl X) o) := by
  intro pins s σ H x y v u Q I rx ry h
  obtain ⟨G, a, b, d, e, ha, hb, hd, g⟩ := h
  cases o with
  | add =>
    cases ha <;> cases hb <;> simp only [binD, reduceCtorEq, Option.some.injEq] at hd
    · subst hd; exact op_add pins s σ H _ _ v u Q I rx ry ⟨_, _, rfl, rfl, g.here (.int _)⟩
    · rename_i o1 _ o2
      split at hd
      · rename_i hz
        simp only [Option.some.injEq] at hd; subst hd
        exact op_add_str pins s σ H _ _ v u Q I rx ry ⟨_, _, rfl, rfl, by rw [S'_length, S'_length]; exact small_line hz, by rw [S'_append]; exact g.here (.str _ fun c hc => (List.mem_append.mp hc).elim (o1 c) (o2 c))⟩
      · cases hd
    · rename_i l1 r1 _ _ _ l2 r2
      split at hd
      · rename_i hz
        simp only [Option.some.injEq] at hd; subst hd
        rw [r1.length, r2.length] at hz
        exact op_cat pins s σ H _ _ v u Q I rx ry ⟨_, _, _, _, rfl, rfl, e _ _ l1, e _ _ l2, small_line hz, fun p hp => g.newL e (r1.append r2) hp⟩
      · cases hd
  | sub =>
    cases ha <;> cases hb <;> simp only [binD, reduceCtorEq, Option.some.injEq] at hd
    subst hd; exact op_sub pins s σ H _ _ v u Q I rx ry ⟨_, _, rfl, rfl, g.here (.int _)⟩
  | mul =>
    cases ha <;> cases hb <;> simp only [binD, reduceCtorEq, Option.some.injEq] at hd
    · split at hd
      · rename_i i j hz
        simp only [Option.some.injEq] at hd; subst hd
        unfold mulOk at hz
        rw [Bool.or_eq_true, Bool.or_eq_true, Bool.and_eq_true, decide_eq_true_eq, decide_eq_true_eq, decide_eq_true_eq, decide_eq_true_eq] at hz
        rcases hz with (hz | hz) | ⟨h1, h2⟩
        · exact op_mul pins s σ H _ _ v u Q I rx ry ⟨_, _, rfl, rfl, .inl ⟨by omega, by omega⟩, g.here (.int _)⟩
        · exact op_mul pins s σ H _ _ v u Q I rx ry ⟨_, _, rfl, rfl, .inr ⟨by omega, by omega⟩, g.here (.int _)⟩
        · exact op_mulW pins s σ H _ _ v u Q I rx ry ⟨_, _, rfl, rfl, wide_mul h1 h2 (by decide) (by decide) (by decide), g.here (.int _)⟩
      · cases hd
    · rename_i o1 _
      split at hd
      · rename_i hz
        simp only [Option.some.injEq] at hd; subst hd
        exact op_mulS pins s σ H _ _ v u Q I rx ry ⟨_, _, rfl, rfl, mul_ok hz, by rw [mul_text hz.1]; exact g.here (.str _ (Okc.rep o1 _))⟩
      · cases hd
  | fdiv =>
    cases ha <;> cases hb <;> simp only [binD, reduceCtorEq, Option.some.injEq] at hd
    split at hd
    · rename_i i j hz
      simp only [Option.some.injEq] at hd; subst hd
      exact op_fdivW pins s σ H _ _ v u Q I rx ry ⟨_, _, rfl, rfl, wide_div (b := 1000) hz.1 (by have := hz.2; omega) (by decide) (by decide), g.here (.int _)⟩
    · cases hd
  | mod =>
    cases ha <;> cases hb <;> simp only [binD, reduceCtorEq, Option.some.injEq] at hd
    split at hd
    · rename_i i j hz
      simp only [Option.some.injEq] at hd; subst hd
      exact op_modN pins s σ H _ _ v u Q I rx ry ⟨_, _, rfl, rfl, by omega, by show Q (V.int (i.fmod j)) H; rw [Int.fmod_eq_emod_of_nonneg _ (by omega)]; exact g.here (.int _)⟩
    · cases hd
  | pow =>
    cases ha <;> cases hb <;> simp only [binD, reduceCtorEq, Option.some.injEq] at hd
    split at hd
    · rename_i i j hz
      simp only [Option.some.injEq] at hd; subst hd
      exact op_pow pins s σ H _ _ v u Q I rx ry ⟨_, _, rfl, rfl, ⟨hz.1, by omega, hz.2.2⟩, g.here (.int _)⟩
    · cases hd

/-! ### reading, comparing -/
/-- read: by value, or a list of the small heap -/
def Rd' (K : Fg) (G H : Hp) (d : D) (x : V) : Prop := Rep K G d x ∨ ∃ (a : Addr) (xs : List D) (vs : List V), d = .lst xs ∧ x = .ref a ∧ H a = some (.lst vs) ∧ Reps K G xs vs
theorem Rd'.lst {K : Fg} {G H : Hp} {xs : List D} {x : V} (e : Ext G H) (h : Rd' K G H (.lst xs) x) : ∃ (a : Addr) (vs : List V), x = .ref a ∧ H a = some (.lst vs) ∧ Reps K G xs vs := by
  rcases h with h | ⟨a, ys, vs, h1, h2, h3, h4⟩
  · cases h with
    | lst h r => exact ⟨_, _, rfl, e _ _ h, r⟩
  · cases h1; exact ⟨a, vs, h2, h3, h4⟩
theorem Rd'.val {K : Fg} {G H : Hp} {d : D} {x : V} (h : Rd' K G H d x) (n : ∀ xs, d ≠ .lst xs) : Rep K G d x := by
  rcases h with h | ⟨a, ys, vs, h1, h2, h3, h4⟩
  · exact h
  · exact absurd h1 (n _)
theorem Rd'.rep {K : Fg} {G H : Hp} {d : D} {x : V} (e : Ext G H) (h : Rd' K G H d x) : Rep K H d x := by
  rcases h with h | ⟨a, ys, vs, h1, h2, h3, h4⟩
  · exact h.mono e
  · subst h1; subst h2; exact .lst h3 (h4.mono e)

mutual
/-- data as the library's -/
def toPy : D → PyData
  | .non => .none
  | .bl b => .bool b
  | .int i => .int i
  | .str s => .str (S' s)
  | .tup xs => .tuple (toPys xs)
  | .lst xs => .list (toPys xs)
  | .dct _ => .dict []
  | .ins _ _ => .dict []
  | .cls _ => .dict []
  | .ro _ => .dict []
  | .ptp _ => .dict []
def toPys : List D → List PyData
  | [] => []
  | x :: xs => toPy x :: toPys xs
end
theorem str_beq (a b : Cs) : (S' a == S' b) = (a == b) := by
  by_cases h : a = b
  · subst h; simp
  · have : ¬ S' a = S' b := fun q => h (S'_inj q)
    rw [beq_eq_false_iff_ne.mpr this, beq_eq_false_iff_ne.mpr h]
mutual
theorem eqv_py : ∀ (x y : D) (n m : Nat), D.plain x n = true → D.plain y m = true → PyData.eqv (toPy x) (toPy y) = D.eqv x y
  | .non, y, n, m, h1, h2 => by cases y <;> first | rfl | (cases h2)
  | .bl b, y, n, m, h1, h2 => by cases y <;> first | rfl | (cases h2)
  | .int i, y, n, m, h1, h2 => by cases y <;> first | rfl | (cases h2)
  | .str s, y, n, m, h1, h2 => by cases y <;> first | rfl | exact str_beq _ _ | (cases h2)
  | .tup xs, y, n, m, h1, h2 => by
    cases y with
    | tup ys =>
      cases n with
      | zero => cases h1
      | succ n => cases m with
        | zero => cases h2
        | succ m => exact eqvs_py xs ys n m h1 h2
    | dct _ => cases h2
    | ins _ _ => cases h2
    | cls _ => cases h2
    | ro _ => cases h2
    | ptp _ => cases h2
    | non => rfl
    | bl _ => rfl
    | int _ => rfl
    | str _ => rfl
    | lst _ => rfl
  | .lst xs, y, n, m, h1, h2 => by
    cases y with
    | lst ys =>
      cases n with
      | zero => cases h1
      | succ n => cases m with
        | zero => cases h2
        | succ m => exact eqvs_py xs ys n m h1 h2
    | dct _ => cases h2
    | ins _ _ => cases h2
    | cls _ => cases h2
    | ro _ => cases h2
    | ptp _ => cases h2
    | non => rfl
    | bl _ => rfl
    | int _ => rfl
    | str _ => rfl
    | tup _ => rfl
  | .dct _, y, n, m, h1, h2 => by cases h1
  | .ins _ _, y, n, m, h1, h2 => by cases h1
  | .cls _, y, n, m, h1, h2 => by cases h1
  | .ro _, y, n, m, h1, h2 => by cases h1
  | .ptp _, y, n, m, h1, h2 => by cases h1
theorem eqvs_py : ∀ (xs ys : List D) (n m : Nat), D.plains xs n = true → D.plains ys m = true → PyData.eqvAll (toPys xs) (toPys ys) = D.eqvs xs ys
  | [], [], n, m, h1, h2 => rfl
  | [], _ :: _, n, m, h1, h2 => rfl
  | x :: xs, [], n, m, h1, h2 => rfl
  | x :: xs, y :: ys, n, m, h1, h2 => by
    have g1 := Bool.and_eq_true_iff.mp h1
    have g2 := Bool.and_eq_true_iff.mp h2
    show (PyData.eqv (toPy x) (toPy y) && PyData.eqvAll (toPys xs) (toPys ys)) = (D.eqv x y && D.eqvs xs ys)
    rw [eqv_py x y n m g1.1 g2.1, eqvs_py xs ys n m g1.2 g2.2]
end
mutual
theorem shape_py {K : Fg} {G : Hp} : ∀ (x : D) (v : V) (n : Nat), Rep K G x v → D.plain x n = true → (toPy x).canLay0 = true ∧ (toPy x).depth ≤ 2 * n + 1
  | _, _, n, .non, h => ⟨rfl, by show 0 ≤ _; omega⟩
  | _, _, n, .bl b, h => ⟨rfl, by show 0 ≤ _; omega⟩
  | _, _, n, .int i, h => ⟨rfl, by show 0 ≤ _; omega⟩
  | _, _, n, .str s o, h => ⟨by show PyData.strOk (S' s) = true; unfold PyData.strOk; rw [← Array.all_toList]; simpa [S', Okc] using o, by show 0 ≤ _; omega⟩
  | _, _, 0, .tup _ r, h => by cases h
  | .tup xs, _, n + 1, .tup _ r, h => by
    obtain ⟨h1, h2⟩ := shapes_py _ _ n r h
    exact ⟨h1, by show PyData.depthAll (toPys xs) + 1 ≤ _; omega⟩
  | _, _, 0, .lst _ r, h => by cases h
  | .lst xs, _, n + 1, .lst _ r, h => by
    obtain ⟨h1, h2⟩ := shapes_py _ _ n r h
    exact ⟨h1, by show PyData.depthAll (toPys xs) + 1 ≤ _; omega⟩
  | _, _, n, .ro _ _, h => by cases h
  | _, _, n, .dct _ _, h => by cases h
  | _, _, n, .ins _ _ _ _, h => by cases h
  | _, _, n, .cls _, h => by cases h
  | _, _, n, .ptp _ _, h => by cases h
theorem shapes_py {K : Fg} {G : Hp} : ∀ (xs : List D) (vs : List V) (n : Nat), Reps K G xs vs → D.plains xs n = true → PyData.canLayAll0 (toPys xs) = true ∧ PyData.depthAll (toPys xs) ≤ 2 * n + 1
  | _, _, n, .nil, h => ⟨rfl, by show 0 ≤ _; omega⟩
  | x :: xs, _, n, .cons q r, h => by
    have g := Bool.and_eq_true_iff.mp h
    obtain ⟨a1, a2⟩ := shape_py x _ n q g.1
    obtain ⟨b1, b2⟩ := shapes_py xs _ n r g.2
    exact ⟨by show ((toPy x).canLay0 && PyData.canLayAll0 (toPys xs)) = true; rw [a1, b1]; rfl, by show max (toPy x).depth (PyData.depthAll (toPys xs)) ≤ _; omega⟩
end
theorem shaped_py {K : Fg} {G : Hp} {x : D} {v : V} (r : Rep K G x v) (h : x.plain deep = true) : SeqAt.shaped (toPy x) = true := by
  obtain ⟨h1, h2⟩ := shape_py x v deep r h
  unfold SeqAt.shaped
  rw [h1]
  exact decide_eq_true (Nat.le_trans h2 (by decide))
mutual
theorem Rep.dp {K : Fg} {G : Hp} : ∀ {x : D} {v : V} {n : Nat}, Rep K G x v → D.plain x n = true → Dp K G v (toPy x)
  | _, _, _, .non, h => .non
  | _, _, _, .bl b, h => .bl b
  | _, _, _, .int i, h => .int i
  | _, _, _, .str s _, h => .str _
  | _, _, 0, .tup s r, h => by cases h
  | _, _, n + 1, .tup s r, h => .tup s (Reps.dp r (n := n) h)
  | _, _, 0, .lst s r, h => by cases h
  | _, _, n + 1, .lst s r, h => .lst (.of s) (Reps.dp r (n := n) h)
  | _, _, _, .ro s r, h => by cases h
  | _, _, _, .dct s r, h => by cases h
  | _, _, _, .ins _ _ _ r, h => by cases h
  | _, _, _, .cls _, h => by cases h
  | _, _, _, .ptp _ _, h => by cases h
theorem Reps.dp {K : Fg} {G : Hp} : ∀ {xs : List D} {vs : List V} {n : Nat}, Reps K G xs vs → D.plains xs n = true → DpAll K G vs (toPys xs)
  | _, _, _, .nil, h => .nil
  | _, _, _, .cons r s, h => .cons (Rep.dp r (Bool.and_eq_true_iff.mp h).1) (Reps.dp s (Bool.and_eq_true_iff.mp h).2)
end

def cop : COp → CmpOp
  | .eq => .Eq | .ne => .NotEq | .lt => .Lt | .le => .LtE | .gt => .Gt | .ge => .GtE | .isin => .In | .notin => .NotIn
def rC (K : Fg) (o : COp) : R2 := fun x y H Q => ∃ (G : Hp) (a b : D) (k : Bool), Ext G H ∧ Rd' K G H a x ∧ Rd' K G H b y ∧ cmpD o a b = some k ∧ Q (.bl k) H
theorem Rep.flat {K : Fg} {G : Hp} {x : D} {v : V} (r : Rep K G x v) (h : x.flat = true) : flatV v = true := by
  cases r <;> first | rfl | cases h
theorem Reps.flats {K : Fg} {G : Hp} : ∀ {xs : List D} {vs : List V}, Reps K G xs vs → D.flats xs = true → vs.all flatV = true
  | _, _, .nil, h => rfl
  | _, _, .cons q r, h => by
    have g := Bool.and_eq_true_iff.mp h
    rw [List.all_cons, q.flat g.1, Reps.flats r g.2]; rfl
theorem Rep.eqV {K : Fg} {G : Hp} {x y : D} {v u : V} (r : Rep K G x v) (q : Rep K G y u) (h : x.flat = true) (h' : y.flat = true) : L2.eqV v u = D.eqv x y := by
  cases r <;> cases q <;> first | rfl | cases h | cases h' | skip
  exact str_beq _ _
theorem Reps.inV {K : Fg} {G : Hp} {x : D} {v : V} (r : Rep K G x v) (h : x.flat = true) : ∀ {xs : List D} {vs : List V}, Reps K G xs vs → D.flats xs = true → L2.inV v vs = D.mem x xs
  | _, _, .nil, _ => rfl
  | y :: ys, u :: us, .cons q s, g => by
    have g := Bool.and_eq_true_iff.mp g
    have ih := Reps.inV r h s g.2
    unfold L2.inV at ih ⊢
    rw [List.any_cons, ih, q.eqV r g.1 h]
    show (D.eqv y x || D.mem x ys) = (if D.eqv y x then true else D.mem x ys)
    cases D.eqv y x <;> rfl
theorem cps_one (c : Nat) : (⟨#[c]⟩ : Str) = S' [c] := rfl
theorem contains_dec (c : Nat) (z : Cs) : z.contains c = decide (c ∈ (S' z).cps.toList) := by
  rw [S'_list]; simp
theorem inD_ok {K : Fg} {G H : Hp} {a b : D} {x y : V} {Q : VK} {k neg : Bool} {Z : Prop}
    (h1 : (∃ (c : Nat) (z : Str), x = .str ⟨#[c]⟩ ∧ y = .str z ∧ Q (.bl (if neg then !decide (c ∈ z.cps.toList) else decide (c ∈ z.cps.toList))) H) → True → Z) (h2 : rIn K neg x y H Q → Z)
    (e : Ext G H) (ha : Rd' K G H a x) (hb : Rd' K G H b y) (hk : inD a b = some k) (q : Q (.bl (if neg then !k else k)) H) : Z := by
  cases b with
  | str z =>
    cases a with
    | str w =>
      match w, hk, ha with
      | [c], hk, ha =>
        simp only [inD, Option.some.injEq] at hk
        subst hk
        have r1 := ha.val (fun _ z => by cases z); have r2 := hb.val (fun _ z => by cases z)
        cases r1; cases r2
        rw [contains_dec] at q
        exact h1 ⟨c, _, rfl, rfl, q⟩ trivial
      | [], hk, ha => simp [inD] at hk
      | _ :: _ :: _, hk, ha => simp [inD] at hk
    | _ => simp [inD] at hk
  | tup xs =>
    simp only [inD] at hk
    split at hk
    · rename_i hz
      simp only [Option.some.injEq] at hk; subst hk
      have g := Bool.and_eq_true_iff.mp hz
      have r1 := ha.val (fun _ z => by subst z; cases g.1); have r2 := hb.val (fun _ z => by cases z)
      cases r2 with
      | tup hs hr =>
        rw [← Reps.inV r1 g.1 hr g.2] at q
        exact h2 ⟨_, _, rfl, .inr (hs.ext e), r1.flat g.1, hr.flats g.2, q⟩
    · cases hk
  | lst xs =>
    simp only [inD] at hk
    split at hk
    · rename_i hz
      simp only [Option.some.injEq] at hk; subst hk
      have g := Bool.and_eq_true_iff.mp hz
      have r1 := ha.val (fun _ z => by subst z; cases g.1)
      obtain ⟨p, vs, rfl, hs, hr⟩ := hb.lst e
      rw [← Reps.inV r1 g.1 hr g.2] at q
      exact h2 ⟨_, _, rfl, .inl (.of hs), r1.flat g.1, hr.flats g.2, q⟩
    · cases hk
  | _ => simp [inD] at hk
theorem ltCs_iff : ∀ a b : Cs, ltCs a b = decide (a < b)
  | [], [] => by simp [ltCs]
  | [], _ :: _ => by simp [ltCs]
  | _ :: _, [] => by simp [ltCs]
  | x :: a, y :: b => by
    have ih := ltCs_iff a b
    simp only [ltCs]
    by_cases h1 : x < y
    · rw [if_pos h1]
      exact (decide_eq_true (List.Lex.rel h1)).symm
    · rw [if_neg h1]
      by_cases h2 : x = y
      · subst h2
        rw [if_pos rfl, ih]
        exact decide_eq_decide.mpr ⟨fun h => List.Lex.cons h, fun h => by
          cases h with
          | rel h => exact absurd h h1
          | cons h => exact h⟩
      · rw [if_neg h2]
        symm
        refine decide_eq_false fun h => ?_
        cases h with
        | rel h => exact h1 h
        | cons h => exact h2 rfl
theorem op_rC (o : COp) (hu : X.A.units + 64 < cLine) : OpR X (compareOp (cop o)) (rC (kx cl X) o) := by
  intro pins s σ H x y v u Q I rx ry h
  obtain ⟨G, a, b, k, e, ha, hb, hk, q⟩ := h
  cases o with
  | eq =>
    simp only [cmpD] at hk
    split at hk
    · rename_i hz
      simp only [Option.some.injEq] at hk; subst hk
      have g := Bool.and_eq_true_iff.mp hz
      have r1 := ha.rep e
      have r2 := hb.rep e
      rw [← eqv_py a b deep deep g.1 g.2] at q
      exact op_eqD hu pins s σ H _ _ v u Q I rx ry ⟨_, _, r1.dp g.1, r2.dp g.2, shaped_py r1 g.1, shaped_py r2 g.2, q⟩
    · cases hk
  | ne =>
    simp only [cmpD] at hk
    split at hk
    · rename_i hz
      simp only [Option.some.injEq] at hk; subst hk
      have g := Bool.and_eq_true_iff.mp hz
      have r1 := ha.rep e
      have r2 := hb.rep e
      rw [← eqv_py a b deep deep g.1 g.2] at q
      exact op_neD hu pins s σ H _ _ v u Q I rx ry ⟨_, _, r1.dp g.1, r2.dp g.2, shaped_py r1 g.1, shaped_py r2 g.2, q⟩
    · cases hk
  | lt =>
    cases a <;> cases b <;> simp only [cmpD, reduceCtorEq, Option.some.injEq] at hk
    case str.str =>
      subst hk
      have r1 := ha.val (fun _ z => by cases z); have r2 := hb.val (fun _ z => by cases z)
      cases r1; cases r2
      exact op_lt_str pins s σ H _ _ v u Q I rx ry ⟨_, _, rfl, rfl, by rw [S'_list, S'_list, ← ltCs_iff]; exact q⟩
    subst hk
    have r1 := ha.val (fun _ z => by cases z); have r2 := hb.val (fun _ z => by cases z)
    cases r1; cases r2
    exact op_lt pins s σ H _ _ v u Q I rx ry ⟨_, _, rfl, rfl, q⟩
  | le =>
    cases a <;> cases b <;> simp only [cmpD, reduceCtorEq, Option.some.injEq] at hk
    case str.str =>
      subst hk
      have r1 := ha.val (fun _ z => by cases z); have r2 := hb.val (fun _ z => by cases z)
      cases r1; cases r2
      exact op_le_str pins s σ H _ _ v u Q I rx ry ⟨_, _, rfl, rfl, by rw [S'_list, S'_list, ← ltCs_iff]; exact q⟩
    subst hk
    have r1 := ha.val (fun _ z => by cases z); have r2 := hb.val (fun _ z => by cases z)
    cases r1; cases r2
    exact op_le pins s σ H _ _ v u Q I rx ry ⟨_, _, rfl, rfl, q⟩
  | gt =>
    cases a <;> cases b <;> simp only [cmpD, reduceCtorEq, Option.some.injEq] at hk
    case str.str =>
      subst hk
      have r1 := ha.val (fun _ z => by cases z); have r2 := hb.val (fun _ z => by cases z)
      cases r1; cases r2
      exact op_gt_str pins s σ H _ _ v u Q I rx ry ⟨_, _, rfl, rfl, by rw [S'_list, S'_list, ← ltCs_iff]; exact q⟩
    subst hk
    have r1 := ha.val (fun _ z => by cases z); have r2 := hb.val (fun _ z => by cases z)
    cases r1; cases r2
    exact op_gt pins s σ H _ _ v u Q I rx ry ⟨_, _, rfl, rfl, q⟩
  | ge =>
    cases a <;> cases b <;> simp only [cmpD, reduceCtorEq, Option.some.injEq] at hk
    case str.str =>
      subst hk
      have r1 := ha.val (fun _ z => by cases z); have r2 := hb.val (fun _ z => by cases z)
      cases r1; cases r2
      exact op_ge_str pins s σ H _ _ v u Q I rx ry ⟨_, _, rfl, rfl, by rw [S'_list, S'_list, ← ltCs_iff]; exact q⟩
    subst hk
    have r1 := ha.val (fun _ z => by cases z); have r2 := hb.val (fun _ z => by cases z)
    cases r1; cases r2
    exact op_ge pins s σ H _ _ v u Q I rx ry ⟨_, _, rfl, rfl, q⟩
  | isin => exact inD_ok (neg := false) (fun g q => op_in_sign pins s σ H _ _ v u Q I rx ry g) (fun g => op_in_seq pins s σ H _ _ v u Q I rx ry g) e ha hb hk q
  | notin =>
    simp only [cmpD] at hk
    cases h2 : inD a b with
    | none => rw [h2] at hk; cases hk
    | some k2 =>
      rw [h2] at hk
      simp only [Option.map_some, Option.some.injEq] at hk
      subst hk
      exact inD_ok (neg := true) (fun g q => op_notIn_sign pins s σ H _ _ v u Q I rx ry g) (fun g => op_notIn_seq pins s σ H _ _ v u Q I rx ry g) e ha hb h2 q
end
end Iv
end
section
set_option autoImplicit false
set_option maxRecDepth 100000
set_option maxHeartbeats 4000000
set_option exponentiation.threshold 5000
namespace Iv
open PySem L2
/-! ### numbers and texts -/
theorem numL_digs : ∀ (f n : Nat) (acc : Cs), n < f → digs f n acc = TL.numL n ++ acc
  | 0, n, acc, h => by omega
  | f + 1, n, acc, h => by
    unfold digs
    by_cases h1 : n < 10
    · rw [if_pos h1, TL.numL_lt h1]; rfl
    · rw [if_neg h1, TL.numL_step (by omega), numL_digs f (n / 10) _ (by omega)]; simp
theorem decN_numL (n : Nat) : decN n = TL.numL n := by
  unfold decN; rw [numL_digs _ _ _ (by omega)]; simp
theorem toString_decI (i : Int) : Str.ofString (toString i) = S' (decI i) := by
  refine TL.ext_tl ?_
  unfold decI
  by_cases h : i < 0
  · rw [if_pos h, decN_numL]
    obtain ⟨n, rfl⟩ : ∃ n : Nat, i = -((n : Int) + 1) := ⟨i.natAbs - 1, by omega⟩
    rw [TL.tl_ofString]
    have e : toString (-((n : Int) + 1)) = "-" ++ toString (n + 1) := by
      have : (-((n : Int) + 1)) = Int.negSucc n := by omega
      rw [this]; rfl
    rw [e, String.toList_append, List.map_append]
    have e2 : (toString (n + 1)).toList.map Char.toNat = TL.numL (n + 1) := by
      have := TL.tl_num (n + 1)
      rw [TL.tl_ofString] at this
      exact this
    rw [e2]
    have : (-((n : Int) + 1)).natAbs = n + 1 := by omega
    rw [this]
    rfl
  · rw [if_neg h, decN_numL]
    obtain ⟨n, rfl⟩ : ∃ n : Nat, i = (n : Int) := ⟨i.natAbs, by omega⟩
    rw [TL.tl_num]; simp [S', TL.tl]
theorem okc_numL (n : Nat) : Okc (TL.numL n) := fun c hc => by
  have : 48 ≤ c ∧ c ≤ 57 := by
    by_cases h : c < 48 ∨ 57 < c
    · exact absurd hc (TL.numL_free h)
    · omega
  omega
theorem okc_decI (i : Int) : Okc (decI i) := by
  unfold decI
  split
  · intro c hc
    rcases List.mem_cons.mp hc with h | h
    · omega
    · rw [decN_numL] at h; exact okc_numL _ c h
  · rw [decN_numL]; exact okc_numL _
theorem log2_of {i : Int} {n : Nat} (h : i.natAbs < 2 ^ n) (hn : 0 < n) : i.natAbs.log2 < n := by
  by_cases h0 : i.natAbs = 0
  · rw [h0]; simpa using hn
  · exact (Nat.log2_lt h0).mpr h

theorem numOf_spec : ∀ (s : Cs) (acc n : Nat), numOf s acc = some n → NumText.AllDigits s ∧ s.foldl (fun acc c => acc * 10 + (c - 48)) acc = n
  | [], acc, n, h => by
    simp only [numOf, Option.some.injEq] at h
    exact ⟨fun c hc => by simp at hc, h⟩
  | c :: cs, acc, n, h => by
    unfold numOf at h
    split at h
    · rename_i hc
      obtain ⟨h1, h2⟩ := numOf_spec cs _ n h
      refine ⟨fun d hd => ?_, h2⟩
      rcases List.mem_cons.mp hd with z | z
      · subst z; exact hc
      · exact h1 d z
    · cases h
theorem int_text {s : Cs} {n : Nat} (h : numOf s 0 = some n) (hne : s ≠ []) (hl : s.length ≤ 640) : intText? (S' s) = some (n : Int) := by
  obtain ⟨h1, h2⟩ := numOf_spec s 0 n h
  have := intText_digits (x := S' s) (by rw [S'_list]; exact h1) (by rw [S'_list]; exact hne) (by rw [S'_length]; omega)
  rw [this, S'_list]
  show some ((s.foldl (fun acc c => acc * 10 + (c - 48)) 0 : Nat) : Int) = _
  rw [h2]
theorem sumD_spec : ∀ (xs : List D) (acc n : Int), sumD xs acc = some n → ∃ ns : List Int, xs = ns.map D.int ∧ n = acc + ns.sum
  | [], acc, n, h => by simp only [sumD, Option.some.injEq] at h; exact ⟨[], rfl, by simp [h]⟩
  | .int i :: xs, acc, n, h => by
    simp only [sumD] at h
    obtain ⟨ns, h1, h2⟩ := sumD_spec xs (acc + i) n h
    exact ⟨i :: ns, by simp [h1], by simp [h2]; omega⟩
  | .non :: _, _, _, h => by simp [sumD] at h
  | .bl _ :: _, _, _, h => by simp [sumD] at h
  | .str _ :: _, _, _, h => by simp [sumD] at h
  | .tup _ :: _, _, _, h => by simp [sumD] at h
  | .lst _ :: _, _, _, h => by simp [sumD] at h
  | .dct _ :: _, _, _, h => by simp [sumD] at h
  | .ins _ _ :: _, _, _, h => by simp [sumD] at h
  | .cls _ :: _, _, _, h => by simp [sumD] at h
  | .ro _ :: _, _, _, h => by simp [sumD] at h
  | .ptp _ :: _, _, _, h => by simp [sumD] at h
theorem reps_ints {K : Fg} {G : Hp} : ∀ {ns : List Int} {vs : List V}, Reps K G (ns.map D.int) vs → vs = ns.map V.int
  | [], _, .nil => rfl
  | n :: ns, _, .cons h r => by cases h; rw [reps_ints r]; rfl
theorem reps_of_ints {K : Fg} {G : Hp} : ∀ (ns : List Int), Reps K G (ns.map D.int) (ns.map V.int)
  | [] => .nil
  | n :: ns => .cons (.int n) (reps_of_ints ns)

/-! ### built-ins -/
def rBi (K : Fg) (b : Bi) : List V → Hp → VK → Prop := fun vs H Q => ∃ (G : Hp) (xs : List D) (d : D), Ext G H ∧ Paired (Rd' K G H) xs vs ∧ biD b xs = some d ∧ Gives K G H d Q
theorem pd1 {α β : Type} {F : α → β → Prop} {x : α} {vs : List β} (h : Paired F [x] vs) : ∃ v, vs = [v] ∧ F x v := by
  cases h with
  | cons h r => cases r; exact ⟨_, rfl, h⟩
theorem pd2 {α β : Type} {F : α → β → Prop} {x y : α} {vs : List β} (h : Paired F [x, y] vs) : ∃ v u, vs = [v, u] ∧ F x v ∧ F y u := by
  cases h with
  | cons h r => cases r with
    | cons h' r => cases r; exact ⟨_, _, rfl, h, h'⟩
section
variable {cl : Nat → Addr} {X : Cx}
theorem Rd'.nl {K : Fg} {G H : Hp} {d : D} {x : V} (h : Rd' K G H d x) (n : (match d with | .lst _ => false | _ => true) = true) : Rep K G d x := h.val fun _ z => by subst z; cases n
theorem biD_one {b : Bi} {xs : List D} {d : D} (h : biD b xs = some d) (hb : b ≠ .max2 ∧ b ≠ .min2 ∧ b ≠ .divmod) : ∃ x, xs = [x] := by
  match xs, h with
  | [], h => cases b <;> simp [biD] at h
  | [x], h => exact ⟨x, rfl⟩
  | x :: y :: r, h => cases b <;> simp [biD] at h <;> simp at hb
theorem biD_two {b : Bi} {xs : List D} {d : D} (h : biD b xs = some d) (hb : b = .max2 ∨ b = .min2 ∨ b = .divmod) : ∃ i j, xs = [.int i, .int j] := by
  match xs, h with
  | [], h => rcases hb with rfl | rfl | rfl <;> simp [biD] at h
  | [x], h => rcases hb with rfl | rfl | rfl <;> simp [biD] at h
  | [x, y], h => rcases hb with rfl | rfl | rfl <;> cases x <;> cases y <;> simp [biD] at h <;> exact ⟨_, _, rfl⟩
  | x :: y :: z :: r, h => rcases hb with rfl | rfl | rfl <;> simp [biD] at h
def biF : Bi → Value
  | .len => .builtin "len" | .int => .type "int" | .str => .type "str" | .abs => .builtin "abs" | .max2 => .builtin "max" | .min2 => .builtin "min"
  | .sum => .builtin "sum" | .divmod => .builtin "divmod" | .tuple => .type "tuple" | .list => .type "list"
  | .all => .builtin "all" | .any => .builtin "any" | .min => .builtin "min" | .max => .builtin "max" | .bool => .type "bool"
theorem bools_spec : ∀ (xs : List D) (bs : List Bool), bools xs = some bs → xs = bs.map D.bl
  | [], bs, h => by simp only [bools, Option.some.injEq] at h; subst h; rfl
  | .bl b :: xs, bs, h => by
    simp only [bools] at h
    cases e : bools xs with
    | none => rw [e] at h; cases h
    | some cs => rw [e] at h; cases h; rw [bools_spec xs cs e]; rfl
  | .non :: _, _, h => by simp [bools] at h
  | .int _ :: _, _, h => by simp [bools] at h
  | .str _ :: _, _, h => by simp [bools] at h
  | .tup _ :: _, _, h => by simp [bools] at h
  | .lst _ :: _, _, h => by simp [bools] at h
  | .dct _ :: _, _, h => by simp [bools] at h
  | .ins _ _ :: _, _, h => by simp [bools] at h
  | .cls _ :: _, _, h => by simp [bools] at h
  | .ro _ :: _, _, h => by simp [bools] at h
  | .ptp _ :: _, _, h => by simp [bools] at h
theorem intsD_spec : ∀ (xs : List D) (bs : List Int), intsD xs = some bs → xs = bs.map D.int
  | [], bs, h => by simp only [intsD, Option.some.injEq] at h; subst h; rfl
  | .int b :: xs, bs, h => by
    simp only [intsD] at h
    cases e : intsD xs with
    | none => rw [e] at h; cases h
    | some cs => rw [e] at h; cases h; rw [intsD_spec xs cs e]; rfl
  | .non :: _, _, h => by simp [intsD] at h
  | .bl _ :: _, _, h => by simp [intsD] at h
  | .str _ :: _, _, h => by simp [intsD] at h
  | .tup _ :: _, _, h => by simp [intsD] at h
  | .lst _ :: _, _, h => by simp [intsD] at h
  | .dct _ :: _, _, h => by simp [intsD] at h
  | .ins _ _ :: _, _, h => by simp [intsD] at h
  | .cls _ :: _, _, h => by simp [intsD] at h
  | .ro _ :: _, _, h => by simp [intsD] at h
  | .ptp _ :: _, _, h => by simp [intsD] at h
theorem reps_bls {K : Fg} {G : Hp} : ∀ {ns : List Bool} {vs : List V}, Reps K G (ns.map D.bl) vs → vs = ns.map V.bl
  | [], _, .nil => rfl
  | n :: ns, _, .cons h r => by cases h; rw [reps_bls r]; rfl
theorem allB_eq : ∀ bs : List Bool, bs.all id = allB bs
  | [] => rfl
  | b :: bs => by rw [List.all_cons, allB_eq bs]; rfl
theorem anyB_eq : ∀ bs : List Bool, bs.any id = anyB bs
  | [] => rfl
  | b :: bs => by rw [List.any_cons, anyB_eq bs]; rfl
theorem leastI_spec : ∀ (ns : List Int) (n : Int), (leastI n ns = n ∨ leastI n ns ∈ ns) ∧ leastI n ns ≤ n ∧ ∀ y ∈ ns, leastI n ns ≤ y
  | [], n => ⟨.inl rfl, Int.le_refl _, fun y h => by simp at h⟩
  | x :: xs, n => by
    obtain ⟨h1, h2, h3⟩ := leastI_spec xs (if x < n then x else n)
    have h2' : leastI n (x :: xs) ≤ (if x < n then x else n) := h2
    refine ⟨?_, ?_, fun y hy => ?_⟩
    · show leastI (if x < n then x else n) xs = n ∨ leastI (if x < n then x else n) xs ∈ x :: xs
      rcases h1 with h1 | h1
      · by_cases c : x < n
        · rw [if_pos c] at h1 ⊢; right; rw [h1]; exact List.mem_cons_self
        · rw [if_neg c] at h1 ⊢; left; exact h1
      · right; exact List.mem_cons_of_mem _ h1
    · split at h2' <;> omega
    · rcases List.mem_cons.mp hy with z | z
      · subst z; split at h2' <;> omega
      · exact h3 y z
theorem mostI_spec : ∀ (ns : List Int) (n : Int), (mostI n ns = n ∨ mostI n ns ∈ ns) ∧ n ≤ mostI n ns ∧ ∀ y ∈ ns, y ≤ mostI n ns
  | [], n => ⟨.inl rfl, Int.le_refl _, fun y h => by simp at h⟩
  | x :: xs, n => by
    obtain ⟨h1, h2, h3⟩ := mostI_spec xs (if n < x then x else n)
    have h2' : (if n < x then x else n) ≤ mostI n (x :: xs) := h2
    refine ⟨?_, ?_, fun y hy => ?_⟩
    · show mostI (if n < x then x else n) xs = n ∨ mostI (if n < x then x else n) xs ∈ x :: xs
      rcases h1 with h1 | h1
      · by_cases c : n < x
        · rw [if_pos c] at h1 ⊢; right; rw [h1]; exact List.mem_cons_self
        · rw [if_neg c] at h1 ⊢; left; exact h1
      · right; exact List.mem_cons_of_mem _ h1
    · split at h2' <;> omega
    · rcases List.mem_cons.mp hy with z | z
      · subst z; split at h2' <;> omega
      · exact h3 y z
/-- bool(a tuple) -/
theorem bool_tup {prog : Program} {w : World} {A : Around} {E : Value → Shared → Prop} {s : Shared} {l : Addr} {xs : Array Value} {Q : Value → Shared → Prop} (hz : (xs.size : Int) < 2 ^ 63) (hl : PyProof.Rows.IsTup s.heap l xs)
    (h : ∀ t, Q (.bool (!xs.isEmpty)) { s with toks := t }) : wpAny (model prog w) A (call (.type "bool") [.ref l]) Q E s := by
  refine PySem.call_bool_1 (S := fun _ R s => PyProof.Rows.IsTup s.heap l xs ∧ ∀ t, R (.ok (.ret (.bool (!xs.isEmpty)))) { s with toks := t }) (Meets.of_wp fun prog w A R s hs => ?_) ⟨hl, fun t => ⟨rfl, h t⟩⟩
  obtain ⟨hl, hs⟩ := hs
  obtain ⟨hp, g, d, tk, os⟩ := s
  have f1 := PySem.F.conv_sub_bool
  repeat (any_goals (first | assumption | (with_reducible refine PyProof.Rows.truthy_tuple hl hz ?_) | wp_step))
  all_goals first | exact ⟨_, rfl, hs _⟩ | exact hs _ | skip
theorem cr_bi (hc : X.calm = true) (b : Bi) : CallR X (biF b) (rBi (kx cl X) b) := by
  intro pins s σ H vs us Q I rv h
  obtain ⟨G, xs, d, e, hp, hd, g⟩ := h
  cases b with
  | bool =>
    obtain ⟨x, rfl⟩ := biD_one hd (by simp)
    obtain ⟨v, rfl, hx⟩ := pd1 hp
    cases x <;> simp only [biD, reduceCtorEq, Option.some.injEq] at hd
    · subst hd; cases hx.nl rfl
      exact call_bool1 pins s σ H _ us Q I rv (.inr ⟨_, rfl, g.here (.bl _)⟩)
    · subst hd; cases hx.nl rfl
      exact call_bool1 pins s σ H _ us Q I rv (.inl ⟨_, rfl, g.here (.bl _)⟩)
    · subst hd
      cases hx.nl rfl with
      | tup hs hr =>
        rename_i ys a ws
        obtain rfl := Vals.ref1 rv
        obtain ⟨its, rv', pl, hz⟩ := I.tuple (hs.ext e)
        have hl := line63
        have hlen := rv'.length
        have hem : its.toArray.isEmpty = ys.isEmpty := by
          have e1 := hr.length
          have e2 : ys.length = its.length := e1.trans hlen
          cases ys <;> cases its <;> first | rfl | (simp at e2)
        refine bool_tup (by simp only [List.size_toArray]; omega) pl fun t => ?_
        rw [hem]
        exact ⟨.bl _, H, I.tok t, rfl, g.here (.bl _)⟩
    · subst hd
      obtain ⟨a, ws, rfl, hs, hr⟩ := hx.lst e
      rename_i ys
      have hem : ws.isEmpty = ys.isEmpty := by
        have e1 := hr.length
        cases ys <;> cases ws <;> first | rfl | (simp at e1)
      exact call_boolL pins s σ H _ us Q I rv ⟨_, _, rfl, .of hs, by rw [hem]; exact g.here (.bl _)⟩
  | len =>
    obtain ⟨x, rfl⟩ := biD_one hd (by simp)
    obtain ⟨v, rfl, hx⟩ := pd1 hp
    cases x <;> simp only [biD, reduceCtorEq, Option.some.injEq] at hd
    · split at hd
      · rename_i hz
        simp only [Option.some.injEq] at hd; subst hd
        cases hx.nl rfl
        exact call_len pins s σ H _ us Q I rv ⟨_, _, rfl, ⟨by rw [S'_length]; exact small_line hz, rfl⟩, by rw [S'_length]; exact g.here (.int _)⟩
      · cases hd
    · subst hd
      cases hx.nl rfl with
      | tup hs hr => exact call_len pins s σ H _ us Q I rv ⟨_, _, rfl, .inr ⟨_, hs.ext e, rfl⟩, by rw [← hr.length]; exact g.here (.int _)⟩
    · subst hd
      obtain ⟨a, ws, rfl, hs, hr⟩ := hx.lst e
      exact call_len pins s σ H _ us Q I rv ⟨_, _, rfl, .inl ⟨_, .of hs, rfl⟩, by rw [← hr.length]; exact g.here (.int _)⟩
    · subst hd
      cases hx.nl rfl with
      | ro hs hr => exact call_len pins s σ H _ us Q I rv ⟨_, _, rfl, .inl ⟨_, hs.ext e, rfl⟩, by rw [← hr.length]; exact g.here (.int _)⟩
  | int =>
    obtain ⟨x, rfl⟩ := biD_one hd (by simp)
    obtain ⟨v, rfl, hx⟩ := pd1 hp
    cases x <;> simp only [biD, reduceCtorEq, Option.some.injEq] at hd
    · subst hd; cases hx.nl rfl
      exact call_int1 pins s σ H _ us Q I rv (.inr ⟨_, rfl, g.here (.int _)⟩)
    · subst hd; cases hx.nl rfl
      exact call_int1 pins s σ H _ us Q I rv (.inl ⟨_, rfl, g.here (.int _)⟩)
    · rename_i t
      split at hd
      · rename_i hz
        cases hn : numOf t 0 with
        | none => rw [hn] at hd; cases hd
        | some n =>
          rw [hn] at hd
          have hd : some (D.int (n : Int)) = some d := hd
          cases hd
          cases hx.nl rfl
          exact call_int_str pins s σ H _ us Q I rv ⟨_, _, rfl, int_text hn hz.1 hz.2, by rw [S'_length]; exact hz.2, g.here (.int _)⟩
      · cases hd
  | str =>
    obtain ⟨x, rfl⟩ := biD_one hd (by simp)
    obtain ⟨v, rfl, hx⟩ := pd1 hp
    cases x <;> simp only [biD, reduceCtorEq] at hd
    case str =>
      simp only [Option.some.injEq] at hd; subst hd
      cases hx.nl rfl with
      | str _ ok => exact SkE.call_str_str pins s σ H _ us Q I rv ⟨_, rfl, g.here (.str _ ok)⟩
    case int =>
      split at hd
      · rename_i hz
        simp only [Option.some.injEq] at hd; subst hd
        cases hx.nl rfl
        exact call_str_int pins s σ H _ us Q I rv ⟨_, rfl, Nat.lt_of_lt_of_le (log2_of hz (by decide)) (by decide), by rw [toString_decI]; exact g.here (.str _ (okc_decI _))⟩
      · cases hd
  | abs =>
    obtain ⟨x, rfl⟩ := biD_one hd (by simp)
    obtain ⟨v, rfl, hx⟩ := pd1 hp
    cases x <;> simp only [biD, reduceCtorEq, Option.some.injEq] at hd
    subst hd; cases hx.nl rfl
    exact call_abs pins s σ H _ us Q I rv ⟨_, rfl, g.here (.int _)⟩
  | max2 =>
    obtain ⟨i, j, rfl⟩ := biD_two hd (by simp)
    obtain ⟨v, u, rfl, hx, hy⟩ := pd2 hp
    simp only [biD, Option.some.injEq] at hd
    subst hd; cases hx.nl rfl; cases hy.nl rfl
    exact call_max2 hc pins s σ H _ us Q I rv ⟨_, _, rfl, g.here (.int _)⟩
  | min2 =>
    obtain ⟨i, j, rfl⟩ := biD_two hd (by simp)
    obtain ⟨v, u, rfl, hx, hy⟩ := pd2 hp
    simp only [biD, Option.some.injEq] at hd
    subst hd; cases hx.nl rfl; cases hy.nl rfl
    exact call_min2 hc pins s σ H _ us Q I rv ⟨_, _, rfl, g.here (.int _)⟩
  | sum =>
    obtain ⟨x, rfl⟩ := biD_one hd (by simp)
    obtain ⟨v, rfl, hx⟩ := pd1 hp
    cases x <;> simp only [biD, reduceCtorEq, Option.some.injEq] at hd
    rename_i ys
    cases hn : sumD ys 0 with
    | none => rw [hn] at hd; cases hd
    | some n =>
      rw [hn] at hd
      simp only [Option.map_some, Option.some.injEq] at hd; subst hd
      obtain ⟨ns, rfl, hs⟩ := sumD_spec ys 0 n hn
      obtain ⟨a, ws, rfl, h1, h2⟩ := hx.lst e
      have := reps_ints h2
      subst this
      have hs : n = ns.sum := by omega
      subst hs
      exact cr_sum hc pins s σ H _ us Q I rv ⟨_, _, rfl, .of h1, g.here (.int _)⟩
  | divmod =>
    obtain ⟨i, j, rfl⟩ := biD_two hd (by simp)
    obtain ⟨v, u, rfl, hx, hy⟩ := pd2 hp
    simp only [biD] at hd
    split at hd
    · rename_i hz
      simp only [Option.some.injEq] at hd; subst hd; cases hx.nl rfl; cases hy.nl rfl
      exact call_divmod pins s σ H _ us Q I rv ⟨_, _, rfl, hz, fun p hp => g.newT e (.cons (.int _) (.cons (.int _) .nil)) hp⟩
    · cases hd
  | tuple =>
    obtain ⟨x, rfl⟩ := biD_one hd (by simp)
    obtain ⟨v, rfl, hx⟩ := pd1 hp
    cases x <;> simp only [biD, reduceCtorEq, Option.some.injEq] at hd
    · subst hd
      have hr := hx.nl rfl
      cases hr with
      | tup h1 h2 => exact call_tuple_of pins s σ H _ us Q I rv ⟨_, _, rfl, .inr ⟨h1.ext e, g.here (.tup h1 h2)⟩⟩
    · subst hd
      obtain ⟨a, ws, rfl, h1, h2⟩ := hx.lst e
      exact call_tuple_of pins s σ H _ us Q I rv ⟨_, _, rfl, .inl ⟨.of h1, fun p hp => g.newT e h2 hp⟩⟩
  | list =>
    obtain ⟨x, rfl⟩ := biD_one hd (by simp)
    obtain ⟨v, rfl, hx⟩ := pd1 hp
    cases x <;> simp only [biD, reduceCtorEq, Option.some.injEq] at hd
    · subst hd
      have hr := hx.nl rfl
      cases hr with
      | tup h1 h2 => exact call_list_of pins s σ H _ us Q I rv ⟨_, _, rfl, .inr (h1.ext e), fun p hp => g.newL e h2 hp⟩
    · subst hd
      obtain ⟨a, ws, rfl, h1, h2⟩ := hx.lst e
      exact call_list_of pins s σ H _ us Q I rv ⟨_, _, rfl, .inl (.of h1), fun p hp => g.newL e h2 hp⟩
  | all =>
    obtain ⟨x, rfl⟩ := biD_one hd (by simp)
    obtain ⟨v, rfl, hx⟩ := pd1 hp
    cases x <;> simp only [biD, reduceCtorEq] at hd
    rename_i ys
    cases hn : bools ys with
    | none => rw [hn] at hd; cases hd
    | some bs =>
      rw [hn] at hd
      cases hd
      have := bools_spec ys bs hn
      subst this
      obtain ⟨a, ws, rfl, h1, h2⟩ := hx.lst e
      have := reps_bls h2
      subst this
      exact cr_all hc pins s σ H _ us Q I rv ⟨_, _, rfl, .of h1, by rw [allB_eq]; exact g.here (.bl _)⟩
  | any =>
    obtain ⟨x, rfl⟩ := biD_one hd (by simp)
    obtain ⟨v, rfl, hx⟩ := pd1 hp
    cases x <;> simp only [biD, reduceCtorEq] at hd
    rename_i ys
    cases hn : bools ys with
    | none => rw [hn] at hd; cases hd
    | some bs =>
      rw [hn] at hd
      cases hd
      have := bools_spec ys bs hn
      subst this
      obtain ⟨a, ws, rfl, h1, h2⟩ := hx.lst e
      have := reps_bls h2
      subst this
      exact cr_any hc pins s σ H _ us Q I rv ⟨_, _, rfl, .of h1, by rw [anyB_eq]; exact g.here (.bl _)⟩
  | min =>
    obtain ⟨x, rfl⟩ := biD_one hd (by simp)
    obtain ⟨v, rfl, hx⟩ := pd1 hp
    cases x <;> simp only [biD, reduceCtorEq] at hd
    rename_i ys
    cases hn : intsD ys with
    | none => rw [hn] at hd; cases hd
    | some ns =>
      rw [hn] at hd
      match ns, hn, hd with
      | n :: ns, hn, hd =>
        cases hd
        have := intsD_spec ys _ hn
        subst this
        obtain ⟨a, ws, rfl, h1, h2⟩ := hx.lst e
        have := reps_ints h2
        subst this
        refine cr_min hc pins s σ H _ us Q I rv ⟨_, _, rfl, .of h1, by simp, fun m hm hle => ?_⟩
        obtain ⟨l1, l2, l3⟩ := leastI_spec ns n
        have e1 : m ≤ leastI n ns := by
          rcases l1 with l1 | l1
          · rw [l1]; exact hle _ List.mem_cons_self
          · exact hle _ (List.mem_cons_of_mem _ l1)
        have e2 : leastI n ns ≤ m := by
          rcases List.mem_cons.mp hm with z | z
          · rw [z]; exact l2
          · exact l3 m z
        have : m = leastI n ns := by omega
        subst this
        exact g.here (.int _)
      | [], hn, hd => cases hd
  | max =>
    obtain ⟨x, rfl⟩ := biD_one hd (by simp)
    obtain ⟨v, rfl, hx⟩ := pd1 hp
    cases x <;> simp only [biD, reduceCtorEq] at hd
    rename_i ys
    cases hn : intsD ys with
    | none => rw [hn] at hd; cases hd
    | some ns =>
      rw [hn] at hd
      match ns, hn, hd with
      | n :: ns, hn, hd =>
        cases hd
        have := intsD_spec ys _ hn
        subst this
        obtain ⟨a, ws, rfl, h1, h2⟩ := hx.lst e
        have := reps_ints h2
        subst this
        refine cr_max hc pins s σ H _ us Q I rv ⟨_, _, rfl, .of h1, by simp, fun m hm hle => ?_⟩
        obtain ⟨l1, l2, l3⟩ := mostI_spec ns n
        have e1 : mostI n ns ≤ m := by
          rcases l1 with l1 | l1
          · rw [l1]; exact hle _ List.mem_cons_self
          · exact hle _ (List.mem_cons_of_mem _ l1)
        have e2 : m ≤ mostI n ns := by
          rcases List.mem_cons.mp hm with z | z
          · rw [z]; exact l2
          · exact l3 m z
        have : m = mostI n ns := by omega
        subst this
        exact g.here (.int _)
      | [], hn, hd => cases hd
end
end Iv
end
section
set_option autoImplicit false
set_option maxRecDepth 100000
set_option maxHeartbeats 4000000
namespace Iv
open PySem L2
/-! ### methods of texts -/
theorem spl_splitC (c : Nat) : ∀ (l acc : Cs), TL.spl [c] 0 acc l = (match splitC c l with | [] => [acc] | y :: ys => (acc ++ y) :: ys)
  | [], acc => by rw [TL.spl_nil]; simp [splitC]
  | x :: xs, acc => by
    by_cases h : x = c
    · subst h
      rw [TL.spl_hit (by simp [TL.pre])]
      show acc :: TL.spl [x] 0 [] xs = _
      rw [spl_splitC x xs []]
      simp only [splitC, if_pos]
      cases e : splitC x xs with
      | nil =>
        exfalso
        cases xs with
        | nil => simp [splitC] at e
        | cons z zs =>
          unfold splitC at e
          split at e
          · cases e
          · split at e <;> cases e
      | cons y ys => simp
    · rw [TL.spl_miss (by simp [TL.pre, h]), spl_splitC c xs (acc ++ [x])]
      simp only [splitC, if_neg h]
      cases e : splitC c xs with
      | nil => simp
      | cons y ys => simp
theorem splitC_ne (c : Nat) (l : Cs) : splitC c l ≠ [] := by
  intro e
  cases l with
  | nil => simp [splitC] at e
  | cons z zs =>
    unfold splitC at e
    split at e
    · cases e
    · split at e <;> cases e
theorem split_text {s : Cs} {c : Nat} (h : c < 256) : Txt.split (S' s) (S' [c]) = (splitC c s).map S' := by
  refine TL.map_tl_inj ?_
  rw [TL.split_spl _ _ (by simp [TL.tl, S']) (TL.kind_ok (by simp [S', h]))]
  have e1 : TL.tl (S' [c]) = [c] := by simp [TL.tl, S']
  have e2 : TL.tl (S' s) = s := by simp [TL.tl, S']
  rw [e1, e2, spl_splitC c s []]
  have : ∀ l : List Cs, (l.map S').map TL.tl = l := fun l => by
    rw [List.map_map]; conv => rhs; rw [← List.map_id l]
    exact List.map_congr_left fun x _ => by simp [TL.tl, S']
  rw [this]
  cases e : splitC c s with
  | nil => exact absurd e (splitC_ne c s)
  | cons y ys => simp
theorem okc_split (c : Nat) : ∀ (l : Cs), Okc l → ∀ p ∈ splitC c l, Okc p
  | [], h, p, hp => by simp [splitC] at hp; subst hp; exact fun c hc => by simp at hc
  | x :: xs, h, p, hp => by
    have ih := okc_split c xs (fun d hd => h d (List.mem_cons_of_mem _ hd))
    unfold splitC at hp
    split at hp
    · rcases List.mem_cons.mp hp with z | z
      · subst z; exact fun c hc => by simp at hc
      · exact ih p z
    · split at hp
      · simp at hp; subst hp; intro d hd; simp at hd; subst hd; exact h _ List.mem_cons_self
      · rename_i y ys e
        rcases List.mem_cons.mp hp with z | z
        · subst z
          intro d hd
          rcases List.mem_cons.mp hd with w | w
          · subst w; exact h _ List.mem_cons_self
          · exact ih y (by rw [e]; exact List.mem_cons_self) d w
        · exact ih p (by rw [e]; exact List.mem_cons_of_mem _ z)
theorem reps_strs {K : Fg} {G : Hp} : ∀ (l : List Cs), (∀ p ∈ l, Okc p) → Reps K G (l.map D.str) ((l.map S').map V.str)
  | [], _ => .nil
  | x :: xs, h => .cons (.str x (h x List.mem_cons_self)) (reps_strs xs fun p hp => h p (List.mem_cons_of_mem _ hp))
theorem strsOf_spec : ∀ (xs : List D) (l : List Cs), strsOf xs = some l → xs = l.map D.str
  | [], l, h => by simp only [strsOf, Option.some.injEq] at h; subst h; rfl
  | .str b :: xs, bs, h => by
    simp only [strsOf] at h
    cases e : strsOf xs with
    | none => rw [e] at h; cases h
    | some cs => rw [e] at h; cases h; rw [strsOf_spec xs cs e]; rfl
  | .non :: _, _, h => by simp [strsOf] at h
  | .bl _ :: _, _, h => by simp [strsOf] at h
  | .int _ :: _, _, h => by simp [strsOf] at h
  | .tup _ :: _, _, h => by simp [strsOf] at h
  | .lst _ :: _, _, h => by simp [strsOf] at h
  | .dct _ :: _, _, h => by simp [strsOf] at h
  | .ins _ _ :: _, _, h => by simp [strsOf] at h
  | .cls _ :: _, _, h => by simp [strsOf] at h
  | .ro _ :: _, _, h => by simp [strsOf] at h
  | .ptp _ :: _, _, h => by simp [strsOf] at h
theorem reps_strsI {K : Fg} {G : Hp} : ∀ {l : List Cs} {vs : List V}, Reps K G (l.map D.str) vs → vs = (l.map S').map V.str ∧ ∀ p ∈ l, Okc p
  | [], _, .nil => ⟨rfl, fun p h => by simp at h⟩
  | n :: ns, _, .cons h r => by
    cases h with
    | str _ o =>
      obtain ⟨h1, h2⟩ := reps_strsI r
      rw [h1]
      refine ⟨rfl, fun p hp => ?_⟩
      rcases List.mem_cons.mp hp with z | z
      · subst z; exact o
      · exact h2 p z
theorem joinL_joinC (sep : Cs) : ∀ l : List Cs, TL.joinL sep l = joinC sep l
  | [] => rfl
  | [x] => rfl
  | x :: y :: ys => by
    simp only [TL.joinL, joinC, joinL_joinC sep (y :: ys), List.append_assoc]
theorem join_text (sep : Cs) (l : List Cs) : Txt.join (S' sep) (l.map S') = S' (joinC sep l) := by
  refine TL.ext_tl ?_
  rw [TL.join_eq, TL.tl_join]
  have : (l.map S').map TL.tl = l := by
    rw [List.map_map]; conv => rhs; rw [← List.map_id l]
    exact List.map_congr_left fun x _ => by simp [TL.tl, S']
  rw [this, joinL_joinC]
  simp [TL.tl, S', joinL_joinC]
theorem okc_join {sep : Cs} (hs : Okc sep) : ∀ {l : List Cs}, (∀ p ∈ l, Okc p) → Okc (joinC sep l)
  | [], _ => fun c hc => by simp [joinC] at hc
  | [x], h => h x List.mem_cons_self
  | x :: y :: ys, h => fun c hc => by
    have ih := okc_join hs (l := y :: ys) (fun p hp => h p (List.mem_cons_of_mem _ hp))
    rcases List.mem_append.mp (show c ∈ (x ++ sep) ++ joinC sep (y :: ys) from hc) with z | z
    · rcases List.mem_append.mp z with w | w
      · exact h x List.mem_cons_self c w
      · exact hs c w
    · exact ih c z
theorem lens_sum : ∀ l : List Cs, ((l.map S').map fun x => x.length).sum = lens l
  | [] => rfl
  | x :: xs => by
    rw [List.map_cons, List.map_cons, List.sum_cons, lens_sum xs, S'_length]; rfl
theorem prefix_ext : ∀ (p s : Cs), (decide (0 + p.length ≤ s.length) && (s.take p.length == p)) = p.isPrefixOf s
  | [], s => by simp
  | a :: p, [] => by simp
  | a :: p, b :: s => by
    have ih := prefix_ext p s
    simp only [List.length_cons, List.take_succ_cons, List.isPrefixOf]
    rw [← ih]
    by_cases h : a = b
    · subst h; simp
    · have h1 : (a == b) = false := beq_eq_false_iff_ne.mpr h
      have h2 : (b == a) = false := beq_eq_false_iff_ne.mpr fun q => h q.symm
      simp [h1, h2, List.cons_beq_cons]
theorem starts_text (s p : Cs) : Txt.startswith (S' s) (S' p) = p.isPrefixOf s := by
  rw [← prefix_ext]
  unfold Txt.startswith Builtin.Str.subAt
  rw [S'_length, S'_length]
  congr 1
  have e1 : (S' s).cps.extract 0 (0 + p.length) = (s.take p.length).toArray := by simp [S']
  rw [e1]
  show ((s.take p.length).toArray == p.toArray) = _
  by_cases h : s.take p.length = p
  · rw [h]; simp
  · rw [beq_eq_false_iff_ne.mpr h, beq_eq_false_iff_ne.mpr (fun q => h (by simpa using congrArg Array.toList q))]
theorem takeW_len {p : Nat → Bool} : ∀ s : Cs, s.drop (s.takeWhile p).length = s.dropWhile p
  | [] => rfl
  | c :: s => by
    simp only [List.takeWhile_cons, List.dropWhile_cons]
    split
    · simp only [List.length_cons, List.drop_succ_cons]; exact takeW_len s
    · rfl
theorem goes_one (c : Nat) : (S' [c]).cps.contains = fun n => n == c := by
  funext n
  by_cases h : n = c
  · subst h; simp [S']
  · rw [beq_eq_false_iff_ne.mpr h]; simp [S', h]
theorem sub_text (s : Cs) (i j : Nat) : Builtin.Str.strSub (S' s) i j = S' ((s.take j).drop i) := by
  simp [Builtin.Str.strSub, S', List.drop_take]
theorem strip_by {p : Nat → Bool} {l r : Bool} {s : Cs} : Txt.stripBy p l r (S' s) = S' ((s.take (stripHi p r (S' s) (stripLo p l (S' s)))).drop (stripLo p l (S' s))) := by
  unfold Txt.stripBy
  split
  · rename_i h
    unfold stripSame at h
    simp only [Bool.and_eq_true, beq_iff_eq] at h
    obtain ⟨h1, h2⟩ := h
    rw [h1] at h2
    rw [h1, h2, S'_length, List.take_length, List.drop_zero]
  · unfold stripped
    exact sub_text s _ _
theorem lstrip_text (s : Cs) (c : Nat) : Txt.lstripChars (S' s) (S' [c]) = S' (s.dropWhile (· == c)) := by
  unfold Txt.lstripChars
  rw [goes_one, strip_by]
  congr 1
  simp only [stripHi, stripLo, if_true, Bool.false_eq_true, if_false, S'_length, List.take_length]
  exact takeW_len s
theorem rstrip_text (s : Cs) (c : Nat) : Txt.rstripChars (S' s) (S' [c]) = S' ((s.reverse.dropWhile (· == c)).reverse) := by
  unfold Txt.rstripChars
  rw [goes_one, strip_by]
  congr 1
  simp only [stripHi, stripLo, if_true, Bool.false_eq_true, if_false, S'_length, List.drop_zero]
  rw [← takeW_len, List.drop_reverse, List.reverse_reverse]
  rfl
theorem okc_lstrip {s : Cs} {c : Nat} (h : Okc s) : Okc (s.dropWhile (· == c)) := fun x hx => h x ((List.dropWhile_sublist _).mem hx)
theorem okc_rstrip {s : Cs} {c : Nat} (h : Okc s) : Okc ((s.reverse.dropWhile (· == c)).reverse) := fun x hx => h x (List.mem_reverse.mp ((List.dropWhile_sublist _).mem (List.mem_reverse.mp hx)))
def mtN : Mt → String
  | .split => "str.split" | .join => "str.join" | .startswith => "str.startswith" | .lstrip => "str.lstrip" | .rstrip => "str.rstrip"
def rMt (K : Fg) (m : Mt) : V → List V → Hp → VK → Prop := fun x vs H Q => ∃ (G : Hp) (a : D) (xs : List D) (d : D), Ext G H ∧ Rep K G a x ∧ Paired (Rd' K G H) xs vs ∧ mtD m a xs = some d ∧ Gives K G H d Q
theorem mtD_str {m : Mt} {a : D} {xs : List D} {d : D} (h : mtD m a xs = some d) : ∃ s, a = .str s := by
  cases m <;> cases a <;> first | exact ⟨_, rfl⟩ | (simp [mtD] at h)
theorem mtD_one {m : Mt} {s : Cs} {xs : List D} {d : D} (h : mtD m (.str s) xs = some d) : ∃ x, xs = [x] := by
  match xs, h with
  | [], h => cases m <;> simp [mtD] at h
  | [x], h => exact ⟨x, rfl⟩
  | x :: y :: r, h => cases m <;> simp [mtD] at h
section
variable {cl : Nat → Addr} {X : Cx}
theorem mr_mt (m : Mt) : MtR X (mtN m) (rMt (kx cl X) m) := by
  intro pins s σ H x vs v us Q I rx rv h
  obtain ⟨G, a, xs, d, e, ha, hp, hd, g⟩ := h
  obtain ⟨t, rfl⟩ := mtD_str hd
  obtain ⟨y, rfl⟩ := mtD_one hd
  obtain ⟨w, rfl, hy⟩ := pd1 hp
  cases ha with
  | str _ ot =>
  cases m with
  | split =>
    cases y with
    | str p =>
      match p, hd, hy with
      | [c], hd, hy =>
        simp only [mtD] at hd
        split at hd
        · rename_i hz
          cases hd
          cases hy.nl rfl with
          | str _ op =>
            refine mt_split pins s σ H _ _ v us Q I rx rv ⟨_, _, rfl, rfl, by simp [S', Str.length], by rw [S'_length, sizeLine_eq]; omega, fun p hp => ?_⟩
            rw [split_text hz.2]
            exact g.newL e (reps_strs _ (okc_split c t ot)) hp
        · cases hd
      | [], hd, hy => simp [mtD] at hd
      | _ :: _ :: _, hd, hy => simp [mtD] at hd
    | _ => simp [mtD] at hd
  | join =>
    cases y with
    | lst ys =>
      simp only [mtD] at hd
      cases hn : strsOf ys with
      | none => rw [hn] at hd; cases hd
      | some l =>
        rw [hn] at hd
        simp only [Option.bind_some] at hd
        split at hd
        · rename_i hz
          cases hd
          have := strsOf_spec ys l hn
          subst this
          obtain ⟨p, ws, rfl, h1, h2⟩ := hy.lst e
          obtain ⟨rfl, ok⟩ := reps_strsI h2
          refine mt_join pins s σ H _ _ v us Q I rx rv ⟨_, _, _, rfl, rfl, .inl (.of h1), ?_, by rw [join_text]; exact g.here (.str _ (okc_join ot ok))⟩
          rw [lens_sum, List.length_map, S'_length]
          have h1 := hz.1; have h2 := hz.2.1; have h3 : lens l ≤ 1000000 := hz.2.2
          have : l.length * t.length ≤ 1000 * 100 := Nat.mul_le_mul h1 h2
          omega
        · cases hd
    | _ => simp [mtD] at hd
  | startswith =>
    cases y with
    | str p =>
      simp only [mtD] at hd
      cases hd
      cases hy.nl rfl
      exact mt_startswith pins s σ H _ _ v us Q I rx rv ⟨_, _, rfl, rfl, by rw [starts_text]; exact g.here (.bl _)⟩
    | _ => simp [mtD] at hd
  | lstrip =>
    cases y with
    | str p =>
      match p, hd, hy with
      | [c], hd, hy =>
        simp only [mtD] at hd
        split at hd
        · rename_i hz
          cases hd
          cases hy.nl rfl with
          | str _ op =>
            exact mt_lstripChars pins s σ H _ _ v us Q I rx rv ⟨_, _, rfl, rfl, by rw [S'_length]; exact small_line hz, by rw [lstrip_text]; exact g.here (.str _ (okc_lstrip ot))⟩
        · cases hd
      | [], hd, hy => simp [mtD] at hd
      | _ :: _ :: _, hd, hy => simp [mtD] at hd
    | _ => simp [mtD] at hd
  | rstrip =>
    cases y with
    | str p =>
      match p, hd, hy with
      | [c], hd, hy =>
        simp only [mtD] at hd
        split at hd
        · rename_i hz
          cases hd
          cases hy.nl rfl with
          | str _ op =>
            exact mt_rstripChars pins s σ H _ _ v us Q I rx rv ⟨_, _, rfl, rfl, by rw [S'_length]; exact small_line hz, by rw [rstrip_text]; exact g.here (.str _ (okc_rstrip ot))⟩
        · cases hd
      | [], hd, hy => simp [mtD] at hd
      | _ :: _ :: _, hd, hy => simp [mtD] at hd
    | _ => simp [mtD] at hd
/-! ### items, slices -/
theorem ixN_plc (n : Nat) (i : Int) : ixN n i = plc i n := by
  unfold ixN plc
  by_cases h : 0 ≤ i
  · rw [if_pos h, if_pos h]
  · rw [if_neg h, if_neg h]
    by_cases h2 : -(n : Int) ≤ i
    · rw [if_pos h2, if_pos (by omega)]
    · rw [if_neg h2, if_neg (by omega)]
def rIxD (K : Fg) : R2 := fun x y H Q => ∃ (G : Hp) (a b d : D), Ext G H ∧ Rd' K G H a x ∧ Rep K G b y ∧ ixD a b = some d ∧ ∀ v, Rep K G d v → Q v H
theorem atI_seq {K : Fg} {G : Hp} {xs : List D} {vs : List V} {i : Int} {d : D} (r : Reps K G xs vs) (h : ((plc i xs.length).bind fun k => xs[k]?) = some d) : ∃ v, atI vs i = some v ∧ Rep K G d v := by
  unfold atI
  rw [ixN_plc, ← r.length]
  cases e : plc i xs.length with
  | none => rw [e] at h; cases h
  | some k =>
    rw [e] at h
    exact r.get h
theorem ix_D : IxR X (rIxD (kx cl X)) := by
  intro value slice pins s σ H x y v u Q I rx ry h hs
  obtain ⟨G, a, b, d, e, ha, hb, hd, g⟩ := h
  have hi : ∃ i, b = .int i := by cases a <;> cases b <;> first | exact ⟨_, rfl⟩ | (simp [ixD] at hd)
  obtain ⟨i, rfl⟩ := hi
  cases hb
  cases a <;> simp only [ixD, reduceCtorEq] at hd
  · rename_i t
    split at hd
    · rename_i hz
      cases ek : plc i t.length with
      | none => rw [ek] at hd; cases hd
      | some k =>
        rw [ek] at hd
        cases ec : t[k]? with
        | none => rw [Option.bind_some, ec] at hd; cases hd
        | some c =>
          rw [Option.bind_some, ec] at hd
          cases hd
          cases ha.nl rfl with
          | str _ ot =>
            refine ix_seq value slice pins s σ H _ _ v u Q I rx ry (.inr (.inr ⟨_, _, c, rfl, rfl, by rw [S'_length]; exact small_line hz, ?_, g _ (.str [c] ?_)⟩)) hs
            · unfold atI
              rw [S'_list, ixN_plc, ek, Option.bind_some, ec]
            · intro c' hc'
              simp at hc'; subst hc'
              exact ot _ (List.mem_of_getElem? ec)
    · cases hd
  · cases ha.nl rfl with
    | tup h1 h2 =>
      obtain ⟨w, q1, q2⟩ := atI_seq h2 hd
      exact ix_seq value slice pins s σ H _ _ v u Q I rx ry (.inr (.inl ⟨_, _, _, _, rfl, rfl, h1.ext e, q1, g _ q2⟩)) hs
  · obtain ⟨p, ws, rfl, h1, h2⟩ := ha.lst e
    obtain ⟨w, q1, q2⟩ := atI_seq h2 hd
    exact ix_seq value slice pins s σ H _ _ v u Q I rx ry (.inl ⟨_, _, _, _, rfl, rfl, .of h1, q1, g _ q2⟩) hs
  · cases ha.nl rfl with
    | ro h1 h2 =>
      obtain ⟨w, q1, q2⟩ := atI_seq h2 hd
      exact ix_seq value slice pins s σ H _ _ v u Q I rx ry (.inl ⟨_, _, _, _, rfl, rfl, h1.ext e, q1, g _ q2⟩) hs
theorem sIx_low (n : Nat) (o : Option Int) : HT.sIx n 0 o = lowD o n := by
  cases o with
  | none => rfl
  | some i =>
    show (if i < 0 then (i + n).toNat else min i.toNat n) = if 0 ≤ i then min i.toNat n else (i + n).toNat
    by_cases h : i < 0
    · rw [if_pos h, if_neg (by omega)]
    · rw [if_neg h, if_pos (by omega)]
theorem sIx_high (n : Nat) (o : Option Int) : HT.sIx n n o = highD o n := by
  cases o with
  | none => rfl
  | some i =>
    show (if i < 0 then (i + n).toNat else min i.toNat n) = if 0 ≤ i then min i.toNat n else (i + n).toNat
    by_cases h : i < 0
    · rw [if_pos h, if_neg (by omega)]
    · rw [if_neg h, if_pos (by omega)]
theorem cutV_cutL (xs : List V) (lo hi : Option Int) : cutV xs lo hi = cutL xs lo hi := by
  unfold cutV cutL
  rw [sIx_low, sIx_high, List.drop_take]
theorem cutS_cutL (s : Cs) (lo hi : Option Int) : cutS (S' s) lo hi = S' (cutL s lo hi) := by
  unfold cutS cutL
  rw [S'_length, sIx_low, sIx_high, List.drop_take, S'_list]
  rfl
theorem Reps.cut {K : Fg} {G : Hp} {xs : List D} {vs : List V} (r : Reps K G xs vs) (lo hi : Option Int) : Reps K G (cutL xs lo hi) (cutL vs lo hi) := by
  unfold cutL
  rw [← r.length]
  exact (r.take _).drop _
theorem okc_cut {s : Cs} (h : Okc s) (lo hi : Option Int) : Okc (cutL s lo hi) := fun c hc => h c (List.mem_of_mem_take (List.mem_of_mem_drop hc))
def rSlD (K : Fg) : V → Option Int → Option Int → Hp → VK → Prop := fun x lo hi H Q => ∃ (G : Hp) (a d : D), Ext G H ∧ Rd' K G H a x ∧ slD a lo hi = some d ∧ Gives K G H d Q
theorem sl_D : SlR X (rSlD (kx cl X)) := by
  intro pins s σ H x v vl vu lo hi sl Q I rx i1 i2 i3 h
  obtain ⟨G, a, d, e, ha, hd, g⟩ := h
  cases a <;> simp only [slD, reduceCtorEq] at hd
  · split at hd
    · rename_i hz
      cases hd
      cases ha.nl rfl with
      | str _ ot => exact sl_str pins s σ H _ v vl vu lo hi sl Q I rx i1 i2 i3 ⟨_, rfl, by rw [S'_length]; exact small_line hz, by rw [cutS_cutL]; exact g.here (.str _ (okc_cut ot _ _))⟩
    · cases hd
  · cases hd
    obtain ⟨p, ws, rfl, h1, h2⟩ := ha.lst e
    exact sl_list pins s σ H _ v vl vu lo hi sl Q I rx i1 i2 i3 ⟨_, _, rfl, .of h1, fun p hp => by rw [cutV_cutL]; exact g.newL e (h2.cut _ _) hp⟩
/-! ### isinstance of built-in types -/
def tyN : Ty → String
  | .int => "int" | .bool => "bool" | .str => "str" | .tup => "tuple" | .lst => "list" | .dct => "dict"
def tyD : D → String
  | .non => "NoneType" | .bl _ => "bool" | .int _ => "int" | .str _ => "str" | .tup _ => "tuple" | .lst _ => "list" | .dct _ => "dict" | .ins _ _ => "object" | .cls _ => "object" | .ro _ => "list" | .ptp _ => "tuple"
theorem kit_D (t : Ty) (d : D) (h : bareD d = true) : kitB (tyD d) (tyN t) = some (isTy t d) := by
  cases d <;> first | (cases h; done) | (cases t <;> simp only [tyD, tyN, isTy] <;> decide +kernel)
theorem tyX_D {K : Fg} {H : Hp} {d : D} {x : V} (r : Rep K H d x) (hI : bareD d = true) : TyX K H x (.type (tyD d)) := by
  cases r with
  | non => exact .base .non
  | bl b => exact .base (.bl b)
  | int i => exact .base (.int i)
  | str s _ => exact .base (.str _)
  | tup h _ =>
    rcases h with h | ⟨o, its, n, hk, hc, _⟩
    · rcases h with h | ⟨o, h⟩
      · exact .base (.tup h)
      · exact .fTuple h
    · exact .kTuple hk hc
  | lst h _ => exact .base (.lst h)
  | ro h _ => cases hI
  | cls _ => cases hI
  | dct h _ => exact .fDict h
  | ins _ _ _ _ => cases hI
  | ptp _ _ => cases hI
end
end Iv
end
section
set_option autoImplicit false
set_option maxRecDepth 100000
set_option maxHeartbeats 4000000
namespace Iv
open PySem L2
/-! ### the text and the terms: a check -/
structure Nm where
  fns : List Str
  globs : List Str
  excs : List Xc
  /-- how many defs, those of classes too -/
  nf : Nat := 0
  /-- C(..): the class's name; fields, methods, properties: the name; classmethods: the class's and the own name; classes -/
  mks : List Str := []
  sls : List Str := []
  mts : List Str := []
  prs : List Str := []
  cms : List (Str × Str) := []
  cls : List Str := []
  sub : Nat → Nat → Bool := fun _ _ => false
def visB (sc : Scope) (x : Str) : Bool := match sc.names.lookup x with
  | some .local => true
  | some .cell => true
  | some .free => true
  | _ => false
def locB (sc : Scope) (x : Str) : Bool := decide (sc.names.lookup x = some .local)
def glB (sc : Scope) (x : Str) : Bool := decide (sc.names.lookup x = some .globalImplicit)
def okN (x : Str) : Bool := !(x == ("__debug__" : Str)) && !(x == ("__classdict__" : Str)) && !decide (x = ("__name__" : Str))
def biName : Bi → Str
  | .len => "len" | .int => "int" | .str => "str" | .abs => "abs" | .max2 => "max" | .min2 => "min" | .sum => "sum" | .divmod => "divmod" | .tuple => "tuple" | .list => "list"
  | .all => "all" | .any => "any" | .min => "min" | .max => "max" | .bool => "bool"
def mtName : Mt → Str
  | .split => "split" | .join => "join" | .startswith => "startswith" | .lstrip => "lstrip" | .rstrip => "rstrip"
/-- no call without arguments (super) -/
def noC0 : Expr → Bool
  | .Call _ [] _ _ => false
  | _ => true
/-- a test that is read as one -/
def tOk : Ex → Bool
  | .ite _ _ _ => false
  | .and a b => tOk a && tOk b
  | .or a b => tOk a && tOk b
  | .not a => tOk a
  | .one a => tOk a
  | _ => true
def envS (sc : Scope) : Env := { scope := sc, locals := 0, globals := 0, cells := [], qual := ("" : Str) }
/-- the names of a comprehension's block -/
def rl (sc scope : Scope) : Scope := relabel scope (envS sc)
def ownN (N : List Str) (own : List Nat) : List (Str × Nat) := own.map fun i => (N.getD i ("" : Str), i)
/-- all names of a target are the block's own -/
def tgIn (own : List Nat) : Tg → Bool
  | .nm i => own.contains i
  | .tp ts => tgIn own ts
  | .nil => true
  | .cons a b => tgIn own a && tgIn own b
section
variable (nm : Nm) (N : List Str)
/-- a name that is stored: a local; of a def's own also a cell -/
def stB (fn : Bool) (sc : Scope) (x : Str) : Bool := decide (sc.names.lookup x = some .local) || (fn && decide (sc.names.lookup x = some .cell))
mutual
def isG (fn : Bool) (sc : Scope) : Tg → Expr → Bool
  | .nm i, e => match e with
    | .Name x _ => decide (N[i]? = some x) && stB fn sc x
    | _ => false
  | .tp ts, e => match e with
    | .Tuple es _ _ => isGs fn sc ts es
    | _ => false
  | _, _ => false
def isGs (fn : Bool) (sc : Scope) : Tg → List Expr → Bool
  | .nil, es => es.isEmpty
  | .cons a b, es => match es with
    | e :: es => isG fn sc a e && isGs fn sc b es
    | [] => false
  | _, _ => false
end
mutual
def isE (sc : Scope) : Ex → Expr → Bool
  | .var i, e => match e with
    | .Name x _ => decide (N[i]? = some x) && visB sc x && okN x
    | _ => false
  | .frz i, e => match e with
    | .Name x _ => decide (N[i]? = some x) && visB sc x && okN x
    | _ => false
  | .glob g, e => match e with
    | .Name x _ => decide (nm.globs[g]? = some x) && glB sc x && okN x
    | _ => false
  | .non, e => match e with
    | .Constant .none _ _ => true
    | _ => false
  | .bl b, e => match e with
    | .Constant (.bool c) _ _ => b == c
    | _ => false
  | .int i, e => match e with
    | .Constant (.int j) _ _ => decide (i = j)
    | _ => false
  | .str s, e => match e with
    | .Constant (.str x) _ _ => decide (x = S' s) && s.all fun c => decide (c < 1114112)
    | _ => false
  | .tup es, e => match e with
    | .Tuple l _ _ => isA sc es l
    | _ => false
  | .lst es, e => match e with
    | .List l _ => isA sc es l
    | _ => false
  | .newl es, e => match e with
    | .List l _ => isA sc es l
    | _ => false
  | .bin o a b, e => match e with
    | .BinOp l op r _ => decide (op = bop o) && isE sc a l && isE sc b r
    | _ => false
  | .neg a, e => match e with
    | .UnaryOp .USub l _ => isE sc a l
    | _ => false
  | .cmp o a b, e => match e with
    | .Compare l [op] [r] _ => decide (op = cop o) && isE sc a l && isE sc b r
    | _ => false
  | .chain o o' a b c, e => match e with
    | .Compare l [op, op'] [r, r'] _ => decide (op = cop o) && decide (op' = cop o') && isE sc a l && isE sc b r && isE sc c r'
    | _ => false
  | .not a, e => match e with
    | .UnaryOp .Not l _ => isE sc a l
    | _ => false
  | .and a b, e => match e with
    | .BoolOp .And (l :: r :: rs) p => isE sc a l && isE sc b (.BoolOp .And (r :: rs) p)
    | _ => false
  | .or a b, e => match e with
    | .BoolOp .Or (l :: r :: rs) p => isE sc a l && isE sc b (.BoolOp .Or (r :: rs) p)
    | _ => false
  | .one a, e => match e with
    | .BoolOp _ [l] _ => isE sc a l
    | _ => false
  | .ite c a b, e => match e with
    | .IfExp t l r _ => isE sc c t && tOk c && isE sc a l && isE sc b r
    | _ => false
  | .call f es, e => match e with
    | .Call (.Name x _) (l :: ls) [] _ => decide (nm.fns[f]? = some x) && glB sc x && okN x && isA sc es (l :: ls)
    | _ => false
  | .call0 f, e => match e with
    | .Call (.Name x _) [] [] _ => decide (nm.fns[f]? = some x) && glB sc x && okN x
    | _ => false
  | .bi b es, e => match e with
    | .Call (.Name x _) (l :: ls) [] _ => decide (x = biName b) && glB sc x && isA sc es (l :: ls)
    | _ => false
  | .isi a t, e => match e with
    | .Call (.Name x _) [l, .Name y _] [] _ => decide (x = ("isinstance" : Str)) && glB sc x && decide (y = Str.ofString (tyN t)) && glB sc y && isE sc a l
    | _ => false
  | .meth m o es, e => match e with
    | .Call (.Attribute ob x ap) (l :: ls) [] p => decide (x = mtName m) && noC0 ob && isE sc o ob && isA sc es (l :: ls) && (ap.endLine == p.line) && decide (ls.length < 20)
    | _ => false
  | .ix a i, e => match e with
    | .Subscript l r _ => isE sc a l && isE sc i r
    | _ => false
  | .sl a lo hi, e => match e with
    | .Subscript l (.Slice x y none _) _ => isE sc a l && isO sc lo x && isO sc hi y
    | _ => false
  | .comp own t it c x, e => match e with
    | .ListComp elt [⟨tg, iter, ifs, as⟩] scope _ => decide (as = 0) && isI sc it tg iter && blkC N sc scope (ownN N own) && isG N false (rl sc scope) t tg && isC (rl sc scope) c ifs && isE (rl sc scope) x elt && tgIn own t
    | _ => false
  | .vard i, e => match e with
    | .Name x _ => decide (N[i]? = some x) && visB sc x && okN x
    | _ => false
  | .varp i, e => match e with
    | .Name x _ => decide (N[i]? = some x) && visB sc x && okN x
    | _ => false
  | .ptup es, e => match e with
    | .Tuple l _ _ => isA sc es l
    | _ => false
  | .ptl a, e => match e with
    | .Call (.Name x _) [l] [] _ => decide (x = ("tuple" : Str)) && glB sc x && isE sc a l
    | _ => false
  | .dix a i, e => match e with
    | .Subscript l r _ => isE sc a l && isE sc i r
    | _ => false
  | .dgt d k z, e => match e with
    | .Call (.Attribute ob x ap) [a1, a2] [] p => decide (x = ("get" : Str)) && noC0 ob && isE sc d ob && isE sc k a1 && isE sc z a2 && (ap.endLine == p.line)
    | _ => false
  | .din ng k d, e => match e with
    | .Compare l [op] [r] _ => decide (op = if ng then .NotIn else .In) && isE sc k l && isE sc d r
    | _ => false
  | .dct0, e => match e with
    | .Dict [] [] _ => true
    | _ => false
  | .newd, e => match e with
    | .Dict [] [] _ => true
    | _ => false
  | .dcmp own t it c k v, e => match e with
    | .DictComp key val [⟨tg, iter, ifs, as⟩] scope _ => decide (as = 0) && isI sc it tg iter && blkC N sc scope (ownN N own) && isG N false (rl sc scope) t tg && isC (rl sc scope) c ifs && isE (rl sc scope) k key && isE (rl sc scope) v val && tgIn own t
    | _ => false
  | .dof a, e => match e with
    | .Call (.Name x _) [l] [] _ => decide (x = ("dict" : Str)) && glB sc x && isE sc a l
    | _ => false
  | .deq0 ng a, e => match e with
    | .Compare l [op] [.Dict [] [] _] _ => decide (op = if ng then .NotEq else .Eq) && isE sc a l
    | _ => false
  | .srt a, e => match e with
    | .Call (.Name x _) [l] [] _ => decide (x = ("sorted" : Str)) && glB sc x && isE sc a l
    | _ => false
  | .srti a, e => match e with
    | .Call (.Name x _) [.Call (.Attribute ob y ap) [] [] p] [] _ => decide (x = ("sorted" : Str)) && glB sc x && decide (y = ("items" : Str)) && noC0 ob && (ap.endLine == p.line) && isE sc a ob
    | _ => false
  | .stars a b, e => match e with
    | .List [.Starred l _, .Starred r _] _ => isE sc a l && isE sc b r
    | _ => false
  | .mk j es, e => match e with
    | .Call (.Name x _) ls [] _ => decide (nm.mks[j]? = some x) && glB sc x && okN x && isA sc es ls
    | _ => false
  | .mkc i j es, e => match e with
    | .Call (.Name x _) (l :: ls) [] _ => decide (N[i]? = some x) && visB sc x && okN x && isA sc es (l :: ls)
    | _ => false
  | .slt j o, e => match e with
    | .Attribute ob x _ => decide (nm.sls[j]? = some x) && noC0 ob && isE sc o ob
    | _ => false
  | .sltp j o, e => match e with
    | .Attribute ob x _ => decide (nm.sls[j]? = some x) && noC0 ob && isE sc o ob
    | _ => false
  | .mth j o es, e => match e with
    | .Call (.Attribute ob x ap) ls [] p => decide (nm.mts[j]? = some x) && noC0 ob && isE sc o ob && isA sc es ls && (ap.endLine == p.line) && decide (ls.length < 20)
    | _ => false
  | .prp j o, e => match e with
    | .Attribute ob x _ => decide (nm.prs[j]? = some x) && noC0 ob && isE sc o ob
    | _ => false
  | .cme j es, e => match e with
    | .Call (.Attribute (.Name c _) x ap) ls [] p => decide (nm.cms[j]? = some (c, x)) && glB sc c && okN c && isA sc es ls && (ap.endLine == p.line) && decide (ls.length < 20)
    | _ => false
  | .isc j o, e => match e with
    | .Call (.Name x _) [l, .Name y _] [] _ => decide (x = ("isinstance" : Str)) && glB sc x && decide (nm.cls[j]? = some y) && glB sc y && okN y && isE sc o l
    | _ => false
  | .olen o, e => match e with
    | .Call (.Name x _) [l] [] _ => decide (x = ("len" : Str)) && glB sc x && isE sc o l
    | _ => false
  | .obool o, e => match e with
    | .Call (.Name x _) [l] [] _ => decide (x = ("bool" : Str)) && glB sc x && isE sc o l
    | _ => false
  | .ostr o, e => match e with
    | .Call (.Name x _) [l] [] _ => decide (x = ("str" : Str)) && glB sc x && isE sc o l
    | _ => false
  | .newo o, e => match e with
    | .Call (.Name x _) [l] [] _ => decide (x = ("list" : Str)) && glB sc x && isE sc o l
    | _ => false
  | .pop i k, e => match e with
    | .Call (.Attribute (.Name x _) a ap) [l] [] p => decide (N[i]? = some x) && visB sc x && okN x && decide (a = ("pop" : Str)) && (ap.endLine == p.line) && isE sc k l
    | _ => false
  | .dits o, e => match e with
    | .Call (.Name x _) [.Call (.Attribute ob y ap) [] [] p] [] _ => decide (x = ("list" : Str)) && glB sc x && decide (y = ("items" : Str)) && noC0 ob && (ap.endLine == p.line) && isE sc o ob
    | _ => false
  | .dln o, e => match e with
    | .Call (.Name x _) [l] [] _ => decide (x = ("len" : Str)) && glB sc x && isE sc o l
    | _ => false
  | .isn ng o, e => match e with
    | .Compare l [op] [.Constant .none _ _] _ => decide (op = if ng then .IsNot else .Is) && isE sc o l
    | _ => false
  | .fjoin es, e => match e with
    | .JoinedStr (v1 :: v2 :: vs) _ => isA sc es (v1 :: v2 :: vs)
    | _ => false
  | .fmt x, e => match e with
    | .FormattedValue v c none _ => decide (c = -1) && isE sc x v
    | _ => false
  | .fmt02 x, e => match e with
    | .FormattedValue v c (some (.JoinedStr [.Constant (.str s) _ _] _)) _ => decide (c = -1) && decide (s = S' [48, 50]) && isE sc x v
    | _ => false
  | .newc own t it c x, e => match e with
    | .ListComp elt [⟨tg, iter, ifs, as⟩] scope _ => decide (as = 0) && isI sc it tg iter && blkC N sc scope (ownN N own) && isG N false (rl sc scope) t tg && isC (rl sc scope) c ifs && isE (rl sc scope) x elt && tgIn own t
    | _ => false
  | _, _ => false
def isA (sc : Scope) : Ex → List Expr → Bool
  | .nil, es => es.isEmpty
  | .cons x xs, es => match es with
    | e :: es => isE sc x e && isA sc xs es
    | [] => false
  | _, _ => false
def isO (sc : Scope) : Ex → Option Expr → Bool
  | .no, e => e.isNone
  | .one x, e => match e with
    | some e => isE sc x e
    | none => false
  | _, _ => false
/-- the tests of a comprehension -/
def isC (sc : Scope) : Ex → List Expr → Bool
  | .bl b, es => b && es.isEmpty
  | .one x, es => match es with
    | [e] => isE sc x e && tOk x
    | _ => false
  | _, _ => false
/-- what is walked -/
def isI (sc : Scope) : Ex → Expr → Expr → Bool
  | .one x, _, e => isE sc x e
  | .rng a, _, e => match e with
    | .Call (.Name x _) [l] [] _ => decide (x = ("range" : Str)) && glB sc x && isE sc a l
    | _ => false
  | .rng2 a b, _, e => match e with
    | .Call (.Name x _) [l, r] [] _ => decide (x = ("range" : Str)) && glB sc x && isE sc a l && isE sc b r
    | _ => false
  | .zip a b, tg, e => match e, tg with
    | .Call (.Name x _) [l, r] [] _, .Tuple _ _ _ => decide (x = ("zip" : Str)) && glB sc x && isE sc a l && isE sc b r
    | _, _ => false
  | .enm a, tg, e => match e, tg with
    | .Call (.Name x _) [l] [] _, .Tuple _ _ _ => decide (x = ("enumerate" : Str)) && glB sc x && isE sc a l
    | _, _ => false
  | .itm a, tg, e => match e, tg with
    | .Call (.Attribute ob x ap) [] [] p, .Tuple _ _ _ => decide (x = ("items" : Str)) && noC0 ob && (ap.endLine == p.line) && isE sc a ob
    | _, _ => false
  | _, _, _ => false
end
end
mutual
/-- where a token is out: replace may stand -/
def isTE (nm : Nm) (N : List Str) (sc : Scope) : Ex → Expr → Bool
  | .repl o c z, e => match e with
    | .Call (.Attribute ob x ap) [.Constant (.str s1) _ _, .Constant (.str s2) _ _] [] p => decide (x = ("replace" : Str)) && noC0 ob && (ap.endLine == p.line) && decide (s1 = S' [c]) && decide (s2 = S' z) && !decide (z = [c]) && (z.all fun c => decide (c < 1114112)) && isE nm N sc o ob
    | _ => false
  | .meth m o es, e => match e with
    | .Call (.Attribute ob x ap) (l :: ls) [] p => decide (x = mtName m) && noC0 ob && isTE nm N sc o ob && isA nm N sc es (l :: ls) && (ap.endLine == p.line) && decide (ls.length < 20)
    | _ => false
  | .lst es, e => match e with
    | .List l _ => isTA nm N sc es l
    | _ => false
  | a, e => isE nm N sc a e
def isTA (nm : Nm) (N : List Str) (sc : Scope) : Ex → List Expr → Bool
  | .nil, es => es.isEmpty
  | .cons x xs, es => match es with
    | e :: es => isTE nm N sc x e && isTA nm N sc xs es
    | [] => false
  | _, _ => false
end
mutual
/-- what an except suite hands back -/
def isH (nm : Nm) (N : List Str) (sc : Scope) (c : Nat) : Ex → Expr → Bool
  | .non, e => match e with
    | .Constant .none _ _ => true
    | _ => false
  | .bl b, e => match e with
    | .Constant (.bool c) _ _ => b == c
    | _ => false
  | .int i, e => match e with
    | .Constant (.int j) _ _ => decide (i = j)
    | _ => false
  | .str s, e => match e with
    | .Constant (.str x) _ _ => decide (x = S' s) && s.all fun c => decide (c < 1114112)
    | _ => false
  | .tup es, e => match e with
    | .Tuple l _ _ => isHs nm N sc c es l
    | _ => false
  | .fld i k, e => match e with
    | .Attribute (.Name x _) f _ => decide (k = 0) && decide (N[i]? = some x) && visB sc x && okN x && (List.range nm.excs.length).all fun j => !nm.sub j c || decide ((nm.excs[j]?.bind (·.fld)) = some f)
    | _ => false
  | _, _ => false
def isHs (nm : Nm) (N : List Str) (sc : Scope) (c : Nat) : Ex → List Expr → Bool
  | .nil, es => es.isEmpty
  | .cons x xs, es => match es with
    | e :: es => isH nm N sc c x e && isHs nm N sc c xs es
    | [] => false
  | _, _ => false
end
example (nm : Nm) (N : List Str) (sc : Scope) (a b : Ex) (l r : Expr) (p : Pos) (op : Operator) : isE nm N sc (.bin .add a b) (.BinOp l op r p) = (decide (op = bop .add) && isE nm N sc a l && isE nm N sc b r) := rfl
end Iv
end
section
set_option autoImplicit false
set_option maxRecDepth 100000
set_option maxHeartbeats 4000000
namespace Iv
open PySem L2
/-! ### != where there is no __ne__ -/
section
variable {prog : Program} {w : World} {A : Around} {E : Value → Shared → Prop} {s : Shared} {K : PySem.W.Frag} {x C f : Addr} {ox : Obj} {od : Option Obj} {b : Value}
theorem ne_bindO (self : Value) : bindSpecial (.builtin "object.__ne__") self = pure (.builtin "object.__ne__", [self]) :=
  (Slot.of (T := "object") (name := "__ne__") (owner := "object") (n := "__ne__") (by rw [typeLookup_type, builtinLookup_eq_fast]; kernel_rfl) (by decide +kernel) (by decide +kernel) (by decide +kernel)
    (.inl (by decide +kernel)) (by rw [isSubtype_type]; kernel_rfl)).bind self
theorem ne_entryO : entryFor table "object.__ne__" = some Builtin.«object.__ne__» := entryFor_of_tree (by kernel_rfl)
theorem ne_argsO (a b : Value) : argsOk "object.__ne__" ⟨[a, b], []⟩ := by unfold argsOk; kernel_rfl
theorem ne_callO {Q : Value → Shared → Prop} (X : K.In s.heap) (I : PySem.W.InstAt s.heap x ox C od) (hp : PySem.W.plainOver K C = true) (he : PySem.W.findIn K (.ref C) "__eq__" = some (some (.ref f))) (hf : PySem.W.isFn K (.ref f) = true) (hu : A.in1.units < cLine)
    (h : wpAny (model prog w) A.in1 (call (.ref f) [.ref x, b]) (PySem.W.BoolBack fun k s' => Q (.bool (!k)) s') E s) : wpAny (model prog w) A (call (.builtin "object.__ne__") [.ref x, b]) Q E s := by
  obtain ⟨cd, hc, ho⟩ := PySem.W.any_some hp
  have ne : cd.mro.isEmpty = false := by
    cases q : cd.mro with
    | nil => rw [q] at ho; cases ho
    | cons _ _ => rfl
  have sub : PySem.W.Looks (model prog w) s.heap (isInstance (.ref x) (.type "object")) true := I.type.andThen (PySem.W.looks_mroIn X (by unfold PySem.W.mroIn; rw [hc, Option.bind_some, if_neg (by rw [ne]; decide), PySem.W.only_has ho]))
  refine wpAny_call (codeAny_call_builtin (by decide +kernel) ne_entryO (@PySem.W.check_slot (model prog w) _ _ s "object.__ne__" "object" "__ne__" (.ref x) [b] [] _ (by decide +kernel) (by decide +kernel) sub (ne_argsO (.ref x) b) ?_))
  unfold Builtin.«object.__ne__»
  refine wpAny_bind (m := slotArgs "__ne__" 1 _) (wpAny_pure ?_)
  refine wpAny_bind (wpAny_cRoomFor hu ?_)
  refine wpAny_bind (m := callSpecialIfBound? (.ref x) (Str.ofString "__eq__") [b]) (PySem.W.ifBound_K X I he hf (wpAny_mono h (fun r s' hr => ?_) fun _ _ y => y))
  cases r <;> first | exact hr.elim | skip
  exact wpAny_bind (wpAny_pure (wpAny_pure hr))
end
/-! ### own classes: rules at the slots that stand -/
section
variable {X : Cx} {CX : CXT} {pins : List (Addr × Obj)} {σ : L2.St} {H : Hp} {s : Shared} {n : Nat} {g C a dx : Addr} {vs : List (Option V)} {sp : Sp} {E : XK}
/-- a def is called -/
theorem runC {A : Around} {Q : VK} {us : List Value} {ws : List V} (F : FnR X.prog X.w X.K X.mg X.base CX n g sp) (hr : Room n A) (e0 : Env0 X.prog X.w X.K X.mg X.base A X.stack s H) (hx : PassesAt CX X σ E) (I : Inv X pins σ H s) (rv : Vals ws us) (h : sp ws H Q E) :
    codeAny (model X.prog X.w) A (.call (.ref g) ⟨us, []⟩) (fun r s' => match r with | .ok (.ret v) => EP X pins σ Q v s' | .ok _ => False | .error e => X.xe e s') s := by
  have key := F A X.stack s H us ws Q E hr e0 rv h
  refine codeAny_mono key fun res s' hq => ?_
  match res, hq with
  | .error e, hq => exact hx pins H s e s' I hq
  | .ok (.ret u), hq => exact I.after hq
theorem runW {A : Around} {Q : VK} {us : List Value} {ws : List V} (F : FnR X.prog X.w X.K X.mg X.base CX n g sp) (hr : Room n A) (e0 : Env0 X.prog X.w X.K X.mg X.base A X.stack s H) (hx : PassesAt CX X σ E) (I : Inv X pins σ H s) (rv : Vals ws us) (h : sp ws H Q E) :
    wpAny (model X.prog X.w) A (call (.ref g) us) (EP X pins σ Q) X.xe s := wpAny_call (runC F hr e0 hx I rv h)
/-- a op b, whatever it reads -/
theorem pe_opS {l r : Expr} {pos : Pos} {op : Operator} {ta tb : TE} {rd : L2.St → V → V → Hp → VK → Prop} (ha : PE X l ta) (hb : PE X r tb)
    (ho : ∀ (pins : List (Addr × Obj)) (s : Shared) (σ : L2.St) (H : Hp) (x y : V) (v u : Value) (Q : VK), Inv X pins σ H s → RelV x v → RelV y u → rd σ x y H Q → wpAny (model X.prog X.w) X.A (binaryOp op v u) (EP X pins σ Q) X.xe s) :
    PE X (.BinOp l op r pos) (fun σ H Q => ta σ H fun x H1 => tb σ H1 fun y H2 => rd σ x y H2 Q) := by
  refine ⟨fun pins s σ H Q I h => wpAny_BinOp (binT ha hb I h fun v u s2 x y H2 I2 rx ry q => ?_)⟩
  exact ho pins s2 σ H2 x y v u Q I2 rx ry q
theorem pc_S {l r : Expr} {op : CmpOp} {ta tb : TE} {rd : L2.St → V → V → Hp → VK → Prop} (ha : PE X l ta) (hb : PE X r tb)
    (ho : ∀ (pins : List (Addr × Obj)) (s : Shared) (σ : L2.St) (H : Hp) (x y : V) (v u : Value) (Q : VK), Inv X pins σ H s → RelV x v → RelV y u → rd σ x y H Q → wpAny (model X.prog X.w) X.A (compareOp op v u) (EP X pins σ Q) X.xe s) :
    PC X op l r (fun σ H Q => ta σ H fun x H1 => tb σ H1 fun y H2 => rd σ x y H2 Q) := by
  refine ⟨fun pins s σ H Q I h => thn (ha.run pins s σ H _ I h) fun v s1 ⟨x, H1, I1, rx, q1⟩ => thn (hb.run pins s1 σ H1 _ I1 q1) fun u s2 ⟨y, H2, I2, ry, q2⟩ => ?_⟩
  exact ho pins s2 σ H2 x y v u Q I2 rx ry q2
/-- how the class at C does op: its def at g -/
structure OpOwn (K : PySem.W.Frag) (C g : Addr) (op : Operator) : Prop where
  first : PySem.W.selfFirst K C = true
  at_ : PySem.W.findIn K (.ref C) (PySem.dunder op.info.2) = some (some (.ref g))
  fn : PySem.W.isFn K (.ref g) = true
/-- .. with an int on the right -/
structure OpInt (K : PySem.W.Frag) (C g : Addr) (op : Operator) : Prop extends OpOwn K C g op where
  rc : ∃ rc : Option Value, PySem.W.findIn K (.ref C) (dunderR op.info.2) = some rc ∧ (rc = none ∨ ∃ g : Addr, rc = some (.ref g))
  ti : ∃ fo ro : Option Value, PySem.W.findIn K (.type "int") (PySem.dunder op.info.2) = some fo ∧ PySem.W.findIn K (.type "int") (dunderR op.info.2) = some ro
  sub : PySem.W.subIn K (.type "int") (.ref C) = some false
theorem bin_ins {op : Operator} {b dy : Addr} {ws : List (Option V)} {Q : VK} (k : OpOwn X.K C g op) (F : FnR X.prog X.w X.K X.mg X.base CX n g sp) (hr : Room n X.A) (hx : PassesAt CX X σ E) (I : Inv X pins σ H s) (ha : SlX.Slt H a C dx vs) (hb : SlX.Slt H b C dy ws)
    (h : sp [.ref a, .ref b] H Q E) : wpAny (model X.prog X.w) X.A (binaryOp op (.ref a) (.ref b)) (EP X pins σ Q) X.xe s := by
  obtain ⟨sl, od, _, J, _⟩ := SlX.slt_inst I ha
  obtain ⟨sl', od', _, J', _⟩ := SlX.slt_inst I hb
  obtain ⟨m, hF⟩ := I.fr
  refine PySem.W.binop_K hF I.ok.mod.kin J J'.type k.first k.at_ k.fn ?_
  exact thn (runW (us := [.ref a, .ref b]) (ws := [.ref a, .ref b]) F hr I.env0 hx I (.cons rfl (.cons rfl .nil)) h) fun w s' ⟨z, H', I', rz, qz⟩ => SlX.cmpback rz ⟨z, H', I', rz, qz⟩
theorem bin_int {op : Operator} {i : Int} {v : Value} {Q : VK} (k : OpInt X.K C g op) (F : FnR X.prog X.w X.K X.mg X.base CX n g sp) (hr : Room n X.A) (hx : PassesAt CX X σ E) (I : Inv X pins σ H s) (ha : SlX.Slt H a C dx vs) (rv : RelV (.int i) v)
    (h : sp [.ref a, .int i] H Q E) : wpAny (model X.prog X.w) X.A (binaryOp op (.ref a) v) (EP X pins σ Q) X.xe s := by
  obtain ⟨sl, od, _, J, _⟩ := SlX.slt_inst I ha
  obtain ⟨m, hF⟩ := I.fr
  obtain ⟨rc, k1, k2⟩ := k.rc
  obtain ⟨fo, ro, k3, k4⟩ := k.ti
  have rv' := rv
  obtain ⟨t, rfl⟩ := rv
  refine PySem.W.ksp_binT (T := "int") hF I.ok.mod.kin J rfl k.first k.at_ k.fn k1 k2 k3 k4 k.sub ?_
  exact thn (runW (us := [.ref a, .int i t]) (ws := [.ref a, .int i]) F hr I.env0 hx I (.cons rfl (.cons rv' .nil)) h) fun w s' ⟨z, H', I', rz, qz⟩ => SlX.cmpback rz ⟨z, H', I', rz, qz⟩
/-- a new instance: its slots are bare, its dict is empty -/
theorem runMake {f : Addr} {Q : VK} {us : List Value} {ws : List V} (M : Mk X.K C f) (F : FnR X.prog X.w X.K X.mg X.base CX n f sp) (hr : Room (n + 1) X.A) (hx : PassesAt CX X σ E) (I : Inv X pins σ H s) (rv : Vals ws us)
    (h : ∀ x dx, H x = none → H dx = none → dx ≠ x → sp (V.ref x :: ws) (upd (upd H dx (.xd [])) x (SlX.SlO x C dx [])) (fun v H2 => v = .non ∧ Q (.ref x) H2) E) :
    wpAny (model X.prog X.w) X.A (call (.ref C) us) (EP X pins σ Q) X.xe s := by
  have hne : s.heap.objs.size ≠ s.heap.objs.size + 1 := Nat.ne_of_lt (Nat.lt_succ_self _)
  have goal := h (s.heap.objs.size + 1) s.heap.objs.size (I.hok.fresh (Nat.le_succ _)) (I.hok.fresh (Nat.le_refl _)) hne
  have I2 := Inv.made (C := C) I
  have hget := (SlX.slt_at I2 (a := s.heap.objs.size + 1) (C := C) (dx := s.heap.objs.size) (vs := []) (.inl ⟨upd_same, rfl⟩))
  obtain ⟨_, sl, mA, e0, _, _, _⟩ := hget
  have I3 := SlX.inv_slot (vs' := []) (sl' := sl) (t' := s.toks) I2 (.inl ⟨upd_same, rfl⟩) (fun _ _ _ _ z => z) (fun _ z => z) e0 (SlX.SlR.nil _)
  have eH : SlX.slH (upd (upd H s.heap.objs.size (.own (s.heap.objs.size + 1))) (s.heap.objs.size + 1) (.ins C s.heap.objs.size [])) (s.heap.objs.size + 1) C s.heap.objs.size [] = upd (upd H s.heap.objs.size (.xd [])) (s.heap.objs.size + 1) (SlX.SlO (s.heap.objs.size + 1) C s.heap.objs.size []) := by
    funext b
    unfold SlX.slH
    by_cases h1 : b = s.heap.objs.size + 1
    · subst h1; rw [upd_same, upd_same]
    · by_cases h2 : b = s.heap.objs.size
      · subst h2; rw [upd_ne h1, upd_same, upd_ne h1, upd_same]
      · rw [upd_ne h1, upd_ne h2, upd_ne h1, upd_ne h2, upd_ne h1, upd_ne h2]
  rw [eH] at I3
  have r2 : Vals (V.ref (s.heap.objs.size + 1) :: ws) (Value.ref (s.heap.objs.size + 1) :: us) := .cons rfl rv
  refine wpAny_call (make_map (f := f) I.kIn M.makes M.init (beq_iff_eq.mp M.fn) ?_)
  refine codeAny_mono (F _ X.stack _ _ (Value.ref (s.heap.objs.size + 1) :: us) _ _ E (hr.make C us []) (I3.env0.make C us []) r2 goal) fun res s' hq => ?_
  match res, hq with
  | .error e, hq => exact hx pins _ _ e s' I3 hq
  | .ok (.ret u), hq =>
    obtain ⟨v, H', I4, rv', ev, q4⟩ := I3.after hq
    subst ev
    exact ⟨rv', V.ref (s.heap.objs.size + 1), H', I4, rfl, q4⟩
/-! ### the rules -/
variable {f p : Addr} {x m : Str} {e o : Expr} {es : List Expr} {ps pos apos : Pos} {ta : TE} {t : TA} {ES : L2.St → XK}
theorem pe_fn (F : FnR X.prog X.w X.K X.mg X.base CX n f sp) (hr : Room n X.A) (hg : Gl X x) (hm : X.mg x = some (.ref f)) (hk : PySem.W.keepIn X.K (.ref f) = true) (hx : ∀ σ, PassesAt CX X σ (ES σ)) (ha : PA X (e :: es) t)
    (hd : (x == ("__debug__" : Str)) = false) (h1 : starEach (e :: es) X.env = (false, eval e X.env) :: starEach es X.env) (h2 : (backTo pos (starEach es X.env)).any (·.1) = false) :
    PE X (.Call (.Name x ps) (e :: es) [] pos) (fun σ H Q => t σ H fun vs H1 => sp vs H1 Q (ES σ)) := by
  refine ⟨fun pins s σ H Q I hw => wpAny_Call_Name_kw (ld_glob I hg hm ?_ hd)⟩
  refine PySem.W.callWith_K (h₀ := X.base) I.ok.mod.kin hk ?_ h1 h2
  exact thn (ha.run pos pins s σ H _ I hw) fun us s1 ⟨vs, H1, I1, r, q⟩ => ⟨I1.kIn, runW F hr I1.env0 (hx σ) I1 r q⟩
theorem pe_fn0 (F : FnR X.prog X.w X.K X.mg X.base CX n f sp) (hr : Room n X.A) (hg : Gl X x) (hm : X.mg x = some (.ref f)) (hk : PySem.W.keepIn X.K (.ref f) = true) (hx : ∀ σ, PassesAt CX X σ (ES σ)) (hd : (x == ("__debug__" : Str)) = false) :
    PE X (.Call (.Name x ps) [] [] pos) (fun σ H Q => sp [] H Q (ES σ)) := by
  refine ⟨fun pins s σ H Q I hw => wpAny_Call_Name_kw (ld_glob I hg hm ?_ hd)⟩
  exact PySem.W.callWith_K0 I.kIn hk (runW (us := []) F hr I.env0 (hx σ) I .nil hw)
/-- C(..) -/
theorem pe_mk (M : Mk X.K C f) (F : FnR X.prog X.w X.K X.mg X.base CX n f sp) (hr : Room (n + 1) X.A) (hg : Gl X x) (hm : X.mg x = some (.ref C)) (hx : ∀ σ, PassesAt CX X σ (ES σ)) (ha : PA X (e :: es) t)
    (hd : (x == ("__debug__" : Str)) = false) (h1 : starEach (e :: es) X.env = (false, eval e X.env) :: starEach es X.env) (h2 : (backTo pos (starEach es X.env)).any (·.1) = false) :
    PE X (.Call (.Name x ps) (e :: es) [] pos) (fun σ H Q => t σ H fun vs H1 => ∀ x dx, H1 x = none → H1 dx = none → dx ≠ x → sp (V.ref x :: vs) (upd (upd H1 dx (.xd [])) x (SlX.SlO x C dx [])) (fun v H2 => v = .non ∧ Q (.ref x) H2) (ES σ)) := by
  refine ⟨fun pins s σ H Q I hw => wpAny_Call_Name_kw (ld_glob I hg hm ?_ hd)⟩
  refine PySem.W.callWith_K (h₀ := X.base) I.ok.mod.kin M.kp ?_ h1 h2
  exact thn (ha.run pos pins s σ H _ I hw) fun us s1 ⟨vs, H1, I1, r, q⟩ => ⟨I1.kIn, runMake M F hr (hx σ) I1 r q⟩
theorem pe_mk0 (M : Mk X.K C f) (F : FnR X.prog X.w X.K X.mg X.base CX n f sp) (hr : Room (n + 1) X.A) (hg : Gl X x) (hm : X.mg x = some (.ref C)) (hx : ∀ σ, PassesAt CX X σ (ES σ)) (hd : (x == ("__debug__" : Str)) = false) :
    PE X (.Call (.Name x ps) [] [] pos) (fun σ H Q => ∀ x dx, H x = none → H dx = none → dx ≠ x → sp [V.ref x] (upd (upd H dx (.xd [])) x (SlX.SlO x C dx [])) (fun v H2 => v = .non ∧ Q (.ref x) H2) (ES σ)) := by
  refine ⟨fun pins s σ H Q I hw => wpAny_Call_Name_kw (ld_glob I hg hm ?_ hd)⟩
  exact PySem.W.callWith_K0 I.kIn M.kp (runMake (us := []) M F hr (hx σ) I .nil hw)
/-- how a call of a method is read -/
theorem meth_eval {args : List Expr} {env : Env} (hb : attributeBase o m env (eval o env) = eval o env) (hf : methodCallForm (args.length + ([] : List Keyword).length) (backTo pos (starEach args env)) (backToKw pos (keywordEach [] env)) = true) (hl : (apos.endLine == pos.line) = true) :
    eval (.Call (.Attribute o m apos) args [] pos) env = (do
      let ov ← eval o env
      standAt apos.atName
      let (f, first) ← holding [ov] (getMethod ov m (do return (← importBound o env).getD true))
      callWith pos f first (backTo pos (starEach args env)) (backToKw pos (keywordEach [] env))) := by
  have e : eval (.Call (.Attribute o m apos) args [] pos) env = (do
    let ov ← attributeBase o m env (eval o env)
    standAt apos.atName
    methodCall o m apos pos env ov (args.length + ([] : List Keyword).length) (backTo pos (starEach args env)) (backToKw pos (keywordEach [] env))) := by rfl
  rw [e, hb]
  unfold methodCall
  rw [hf]
  unfold methodCallPos calleeOf
  simp only [hl, if_true, Bool.not_true, Bool.false_or, pure_bind]
/-- o.m(..) of a slotted instance -/
theorem pe_mth (he : PE X o ta) (c : SlX.SCls X.K C) (hm : Meth X.K C m g) (F : FnR X.prog X.w X.K X.mg X.base CX n g sp) (hr : Room n X.A) (hx : ∀ σ, PassesAt CX X σ (ES σ)) (ha : PA X (e :: es) t)
    (h1 : starEach (e :: es) X.env = (false, eval e X.env) :: starEach es X.env) (h2 : (backTo pos (starEach es X.env)).any (·.1) = false) (hb : attributeBase o m X.env (eval o X.env) = eval o X.env)
    (hf : methodCallForm ((e :: es).length + ([] : List Keyword).length) (backTo pos (starEach (e :: es) X.env)) (backToKw pos (keywordEach [] X.env)) = true) (hl : (apos.endLine == pos.line) = true) :
    PE X (.Call (.Attribute o m apos) (e :: es) [] pos) (fun σ H Q => ta σ H fun x H1 => ∃ a dx vs, x = .ref a ∧ SlX.Slt H1 a C dx vs ∧ t σ H1 fun ws H2 => sp (x :: ws) H2 Q (ES σ)) := by
  refine ⟨fun pins s σ H Q I hw => PySem.W.methodCall_KW (thn (he.run pins s σ H _ I hw) fun u s1 ⟨x, H1, I1, rx, a, dx, vs, ex, hsl, q⟩ => ?_) (meth_eval hb hf hl)⟩
  subst ex
  obtain rfl : u = Value.ref a := rx
  refine SlX.getmethsl_ok I1 hsl c hm (PySem.W.callWith_K (first := [.ref a]) (h₀ := X.base) I.ok.mod.kin hm.kp ?_ h1 h2)
  exact thn (ha.run pos pins s1 σ H1 _ I1 q) fun us s2 ⟨ws, H2, I2, r, q2⟩ => ⟨I2.kIn, runW (us := .ref a :: us) (ws := .ref a :: ws) F hr I2.env0 (hx σ) I2 (.cons rfl r) q2⟩
theorem pe_mth0 (he : PE X o ta) (c : SlX.SCls X.K C) (hm : Meth X.K C m g) (F : FnR X.prog X.w X.K X.mg X.base CX n g sp) (hr : Room n X.A) (hx : ∀ σ, PassesAt CX X σ (ES σ))
    (hb : attributeBase o m X.env (eval o X.env) = eval o X.env) (hl : (apos.endLine == pos.line) = true) :
    PE X (.Call (.Attribute o m apos) [] [] pos) (fun σ H Q => ta σ H fun x H1 => ∃ a dx vs, x = .ref a ∧ SlX.Slt H1 a C dx vs ∧ sp [x] H1 Q (ES σ)) := by
  refine ⟨fun pins s σ H Q I hw => PySem.W.methodCall_KW (thn (he.run pins s σ H _ I hw) fun u s1 ⟨x, H1, I1, rx, a, dx, vs, ex, hsl, q⟩ => ?_) (meth_eval hb rfl hl)⟩
  subst ex
  obtain rfl : u = Value.ref a := rx
  refine SlX.getmethsl_ok I1 hsl c hm (PySem.W.callWith_K0 (first := [.ref a]) I1.kIn hm.kp ?_)
  exact runW (us := [.ref a]) (ws := [.ref a]) F hr I1.env0 (hx σ) I1 (.cons rfl .nil) q
/-- C.m(..), m a classmethod -/
theorem runCm {q : Addr} {Q : VK} {us : List Value} {ws : List V} (F : FnR X.prog X.w X.K X.mg X.base CX n g sp) (hr : Room n X.A) (hx : PassesAt CX X σ E) (I : Inv X ((q, PySem.W.methodObj (.ref g) (.ref C)) :: pins) σ H s) (r : Vals ws us)
    (h : sp (.ref C :: ws) H Q E) : wpAny (model X.prog X.w) X.A (call (.ref q) us) (EP X pins σ Q) X.xe s := by
  have key : wpAny (model X.prog X.w) X.A (call (.ref q) us) (EP X ((q, PySem.W.methodObj (.ref g) (.ref C)) :: pins) σ Q) X.xe s :=
    wpAny_call (PySem.W.method_call (ClX.pin_at I) (runC (us := .ref C :: us) (ws := .ref C :: ws) F hr I.env0 hx I (.cons rfl r) h))
  exact thn key fun _ _ y => ClX.unpinE y
theorem pe_cm {mc : Value} (he : PE X o ta) (rd : ClX.CRead X.K C mc) (c : ClX.CMet X.K C mc m p g) (F : FnR X.prog X.w X.K X.mg X.base CX n g sp) (hr : Room n X.A) (hx : ∀ σ, PassesAt CX X σ (ES σ)) (ha : PA X (e :: es) t)
    (h1 : starEach (e :: es) X.env = (false, eval e X.env) :: starEach es X.env) (h2 : (backTo pos (starEach es X.env)).any (·.1) = false) (hb : attributeBase o m X.env (eval o X.env) = eval o X.env)
    (hf : methodCallForm ((e :: es).length + ([] : List Keyword).length) (backTo pos (starEach (e :: es) X.env)) (backToKw pos (keywordEach [] X.env)) = true) (hl : (apos.endLine == pos.line) = true) :
    PE X (.Call (.Attribute o m apos) (e :: es) [] pos) (fun σ H Q => ta σ H fun x H1 => x = .ref C ∧ t σ H1 fun ws H2 => sp (.ref C :: ws) H2 Q (ES σ)) := by
  refine ⟨fun pins s σ H Q I hw => PySem.W.methodCall_KW (thn (he.run pins s σ H _ I hw) fun u s1 ⟨x, H1, I1, rx, ex, q⟩ => ?_) (meth_eval hb hf hl)⟩
  subst ex
  obtain rfl : u = Value.ref C := rx
  refine ClX.getmethcm_ok I1 rd c fun s2 I2 => ClX.callwith_cm I2 (ClX.base_none I1 (Nat.le_refl _)) c.fi ?_ h1 h2
  exact thn (ha.run pos _ s2 σ H1 _ I2 q) fun us s3 ⟨ws, H2, I3, rv, q2⟩ => ⟨⟨ClX.pin_at I3, I3.kIn⟩, runCm F hr (hx σ) I3 rv q2⟩
theorem pe_cm0 {mc : Value} (he : PE X o ta) (rd : ClX.CRead X.K C mc) (c : ClX.CMet X.K C mc m p g) (F : FnR X.prog X.w X.K X.mg X.base CX n g sp) (hr : Room n X.A) (hx : ∀ σ, PassesAt CX X σ (ES σ))
    (hb : attributeBase o m X.env (eval o X.env) = eval o X.env) (hl : (apos.endLine == pos.line) = true) :
    PE X (.Call (.Attribute o m apos) [] [] pos) (fun σ H Q => ta σ H fun x H1 => x = .ref C ∧ sp [.ref C] H1 Q (ES σ)) := by
  refine ⟨fun pins s σ H Q I hw => PySem.W.methodCall_KW (thn (he.run pins s σ H _ I hw) fun u s1 ⟨x, H1, I1, rx, ex, q⟩ => ?_) (meth_eval hb rfl hl)⟩
  subst ex
  obtain rfl : u = Value.ref C := rx
  refine ClX.getmethcm_ok I1 rd c fun s2 I2 => PySem.W.callWith_M0 (K := X.K) (first := []) (self := .ref C) ⟨ClX.pin_at I2, I2.kIn⟩ c.fi ?_
  exact runCm (us := []) (ws := []) F hr (hx σ) I2 .nil q
/-! ### ==, len, bool -/
theorem eq_ins {op : CmpOp} {b C' dy : Addr} {ws : List (Option V)} {Q : VK} (hop : ∀ a b, compareOp op a b = richCompare op a b) (hs : PySem.W.findIn X.K (.ref C) (cmpInfo op).2.1 = some (some (.ref g))) (hf : PySem.W.isFn X.K (.ref g) = true) (hn : PySem.W.notFirst X.K C (.ref C') = true)
    (F : FnR X.prog X.w X.K X.mg X.base CX n g sp) (hr : Room n X.A) (hx : PassesAt CX X σ E) (I : Inv X pins σ H s) (ha : SlX.Slt H a C dx vs) (hb : SlX.Slt H b C' dy ws)
    (h : sp [.ref a, .ref b] H Q E) : wpAny (model X.prog X.w) X.A (compareOp op (.ref a) (.ref b)) (EP X pins σ Q) X.xe s := by
  obtain ⟨sl, od, _, J, _⟩ := SlX.slt_inst I ha
  obtain ⟨sl', od', _, J', _⟩ := SlX.slt_inst I hb
  obtain ⟨m, hF⟩ := I.fr
  rw [hop]
  refine PySem.W.cmp_K (op := op) (tb := .ref C') hr.units0 hF I.ok.mod.kin J J'.type hn hs hf ?_
  exact thn (runW (us := [.ref a, .ref b]) (ws := [.ref a, .ref b]) F hr I.env0 hx I (.cons rfl (.cons rfl .nil)) h) fun w s' ⟨z, H', I', rz, qz⟩ => SlX.cmpback rz ⟨z, H', I', rz, qz⟩
theorem len_ins {Q : VK} (hs : PySem.W.findIn X.K (.ref C) "__len__" = some (some (.ref g))) (hf : PySem.W.isFn X.K (.ref g) = true) (F : FnR X.prog X.w X.K X.mg X.base CX n g sp) (hr : Room (n + 1) X.A) (hx : PassesAt CX X σ E) (I : Inv X pins σ H s) (ha : SlX.Slt H a C dx vs)
    (h : sp [.ref a] H (fun z H' => ∃ i : Int, z = .int i ∧ (0 ≤ i ∧ i < 2 ^ 63) ∧ Q (.int i) H') E) : wpAny (model X.prog X.w) X.A (call (.builtin "len") [.ref a]) (EP X pins σ Q) X.xe s := by
  obtain ⟨sl, od, _, J, _⟩ := SlX.slt_inst I ha
  obtain ⟨m, hF⟩ := I.fr
  refine PySem.W.len_K hF I.ok.mod.kin J hs hf ?_
  refine thn (runW (us := [.ref a]) (ws := [.ref a]) F hr.in1 I.env0.in1 hx I (.cons rfl .nil) h) fun w s' ⟨z, H', I', rz, i, ei, hi, qz⟩ => ?_
  subst ei
  obtain ⟨t, rfl⟩ := rz
  exact ⟨hi, .int i, H', I'.tok _, ⟨_, rfl⟩, qz⟩
theorem ne_ins {b dy : Addr} {ws : List (Option V)} {Q : VK} (k1 : PySem.W.findIn X.K (.ref C) "__eq__" = some (some (.ref g))) (k2 : PySem.W.isFn X.K (.ref g) = true) (k3 : PySem.W.findIn X.K (.ref C) "__ne__" = some (some (.builtin "object.__ne__"))) (k4 : PySem.W.plainOver X.K C = true)
    (F : FnR X.prog X.w X.K X.mg X.base CX n g sp) (hr : Room (n + 1) X.A) (hx : PassesAt CX X σ E) (I : Inv X pins σ H s) (ha : SlX.Slt H a C dx vs) (hb : SlX.Slt H b C dy ws)
    (h : sp [.ref a, .ref b] H (fun z H' => ∃ k, z = .bl k ∧ Q (.bl (!k)) H') E) : wpAny (model X.prog X.w) X.A (compareOp .NotEq (.ref a) (.ref b)) (EP X pins σ Q) X.xe s := by
  obtain ⟨sl, od, _, J, _⟩ := SlX.slt_inst I ha
  obtain ⟨sl', od', _, J', _⟩ := SlX.slt_inst I hb
  have called : wpAny (model X.prog X.w) X.A (call (.builtin "object.__ne__") [.ref a, .ref b]) (EP X pins σ fun z H' => ∃ k, z = .bl k ∧ Q z H') X.xe s := by
    refine ne_callO I.kIn J k4 k1 k2 hr.in1.units0 ?_
    refine thn (runW (us := [.ref a, .ref b]) (ws := [.ref a, .ref b]) F hr.in1 I.env0.in1 hx I (.cons rfl (.cons rfl .nil)) h) fun w s' ⟨z, H', I', rz, k, ek, qz⟩ => ?_
    subst ek
    cases (show w = Value.bool k from rz)
    exact ⟨.bl (!k), H', I', rfl, _, rfl, qz⟩
  have one : wpAny (model X.prog X.w) X.A (tryCompare (.ref a) (cmpInfo .NotEq).2.1 (.ref b)) (fun r s' => ∃ v, r = some v ∧ EP X pins σ Q v s') X.xe s := by
    unfold tryCompare
    refine wpAny_bind ?_
    simp only [callSpecialIfBound?, bindSpecialIfBound?]
    refine wpAny_holding (wpAny_bind (wpAny_bind (wpAny_bind (J.type.here ((PySem.W.looks_findIn I.kIn k3).here ?_)))))
    have last : wpAny (model X.prog X.w) X.A (call (.builtin "object.__ne__") ([.ref a] ++ [.ref b]) >>= fun v => pure (some v)) (fun r s' => wpAny (model X.prog X.w) X.A (match r with
      | some .notImplemented | none => pure none
      | some v => pure (some v)) (fun r s' => ∃ v, r = some v ∧ EP X pins σ Q v s') X.xe s') X.xe s := by
      refine wpAny_bind (thn called fun v s' ⟨z, H', I', rz, k, ek, qz⟩ => wpAny_pure ?_)
      subst ek
      cases (show v = Value.bool k from rz)
      exact wpAny_pure ⟨_, rfl, .bl k, H', I', rfl, qz⟩
    refine wpAny_bind (wpAny_askSetting (wpAny_ite ?_))
    split
    · exact wpAny_bind (by rw [ne_bindO]; exact wpAny_pure (wpAny_pure (by exact last)))
    · exact wpAny_tryCatch (wpAny_bind (by rw [ne_bindO]; exact wpAny_pure (wpAny_pure (by exact last))))
  show wpAny (model X.prog X.w) X.A (richCompare .NotEq (.ref a) (.ref b)) (EP X pins σ Q) X.xe s
  unfold richCompare
  simp only [oneThing_ref]
  refine wpAny_holding (wpAny_bind (wpAny_cRoomFor hr.units0 ?_))
  refine wpAny_bind (J.type.here (wpAny_bind (J'.type.here ?_)))
  simp only [bne_self_eq_false, Bool.false_eq_true, if_false]
  refine wpAny_bind (wpAny_pure ?_)
  simp only [Bool.false_eq_true, if_false]
  refine wpAny_bind (wpAny_mono one (fun r s' z => ?_) fun _ _ e => e)
  obtain ⟨v, rfl, hq⟩ := z
  exact wpAny_pure hq
end
end Iv
end
section
set_option autoImplicit false
set_option maxRecDepth 100000
set_option maxHeartbeats 4000000
namespace Iv
open PySem PySem.W PySem.Calls PyProof.Rows
/-! ### an own error: super().__init__(str(x)), then self.f = x -/
/-- what str() takes here -/
def StrOk (v : Value) : Prop := v = .none ∨ (∃ b, v = .bool b) ∨ (∃ i t, v = .int i t ∧ i.natAbs.log2 < 1920) ∨ ∃ x t, v = .str x t
section
variable {prog : Program} {w : World} {A : Around} {E : Value → Shared → Prop} {s : Shared}
theorem str_any {v : Value} {Q : Value → Shared → Prop} (h : StrOk v) (q : ∀ x t k, Q (.str x t) { s with toks := k }) : wpAny (model prog w) A (call (.type "str") [v]) Q E s := by
  rcases h with rfl | ⟨b, rfl⟩ | ⟨i, t, rfl, hz⟩ | ⟨x, t, rfl⟩
  · exact PySem.P.str_of_none (q _ _ _)
  · exact PySem.P.str_of_bool (q _ _ _)
  · exact PySem.P.str_of_int hz (q _ _ _)
  · exact PySem.P.str_of_str (q _ _ s.toks)
end
/-- a built-in base -/
structure BasF (B newId i : String) (bmB : List Value) : Prop where
  fb : ExcBaseFacts B newId i bmB
  sf : StoreFacts B bmB "object.__setattr__" "object"
  kf : KxsFacts B i
/-- the def __init__ of such a class -/
structure IniK (prog : Program) (K : Frag) (C fI : Addr) (f : Str) where
  oc : Value
  od : Option Addr
  osl : Array (Option Value)
  name : Str
  qual : Str
  pa : Arg
  pb : Arg
  kd : List Arg
  doc : Value
  pm : Value
  an : Option Addr
  kV : Value
  ct : Value
  scope : Scope
  params : Arguments
  cc : Addr
  cda : Addr
  vs : Array Value
  file : Str
  tf : Tok
  ccl : Value
  cdd : Option Addr
  ccs : Array (Option Value)
  cl : Value
  cld : Option Addr
  csl : Array (Option Value)
  p : Fin 12 → Pos
  at_ : K.lookup fI = some ⟨oc, od, .func (ksFn name qual params [.Expr (.Call (.Attribute (.Call (.Name "super" (p 0)) [] [] (p 1)) "__init__" (p 2)) [.Call (.Name "str" (p 3)) [.Name pb.arg (p 4)] [] (p 5)] [] (p 6)) (p 7),
    .Assign [.Attribute (.Name pa.arg (p 8)) f (p 9)] (.Name pb.arg (p 10)) (p 11)] scope .none kV doc pm an (.ref cda) ct cc), osl⟩
  pos : params.posonlyargs = []
  args : params.args = [pa, pb]
  kwo : params.kwonlyargs = []
  va : params.vararg = none
  kwa : params.kwarg = none
  ne : pa.arg ≠ pb.arg
  da : (pa.arg == ("__debug__" : Str)) = false
  db : (pb.arg == ("__debug__" : Str)) = false
  code : codeIn K (.ref cda) qual = true
  rec_ : K.lookup cda = some ⟨ccl, cdd, .fields vs, ccs⟩
  hvs : vs[2]? = some (.str file tf)
  hfile : ((prog.main.file : Str) == file) = true
  cell : K.lookup cc = some ⟨cl, cld, .cell (some (.ref C)), csl⟩
  kind : scope.kind = .function
  co : scope.isCoroutine = false
  gen : scope.isGenerator = false
  nocell : ∀ x ∈ scope.names, x.2 ≠ .cell
  la : scope.names.lookup pa.arg = some .local
  lb : scope.names.lookup pb.arg = some .local
  ls : scope.names.lookup ("super" : Str) = some .globalImplicit
  lt : scope.names.lookup ("str" : Str) = some .globalImplicit
  lc : scope.names.lookup ("__class__" : Str) = some .free
  ln : ((p 2).endLine == (p 6).line) = true
/-- the class -/
structure XnK (prog : Program) (K : Frag) (B newId i : String) (bmB : List Value) (C : Addr) (f : Str) : Prop where
  ini : excInitIn K C bmB newId = true
  keep : keepIn K (.ref C) = true
  over : excOver K C bmB = true
  dict : hasDictIn K C = true
  sub : subIn K (.ref C) (.type "BaseException") = some true
  ty : typeIn K (.ref C) = some (.type "type")
  sa : findIn K (.ref C) "__setattr__" = some (some (.builtin "object.__setattr__"))
  tk : takerIn K C f = some none
  sB : subIn K (.ref C) (.type B) = some true
  mro : mroIn K C (.ref C) = some true
  gs : nsIn K mainGlobals "super" = some none
  gt : nsIn K mainGlobals "str" = some none
  up : ks_superIn K C C "__init__" = some (some (.builtin i))
  op : nsIn K cStatics "thirdparty.any" = some none
  top : (prog.main.scope.names.lookup ("super" : Str)).isSome = false
  fI : ∃ a, findIn K (.ref C) "__init__" = some (some (.ref a)) ∧ isFn K (.ref a) = true ∧ Nonempty (IniK prog K C a f)
section
variable {prog : Program} {w : World} {A : Around} {E : Value → Shared → Prop} {s : Shared} {K : Frag} {B newId i : String} {bmB : List Value} {C : Addr} {f : Str} {mg mb : Str → Option Value}
/-- the state behind the making -/
def MadeX (C : Addr) (f : Str) (v : Value) (hp : Heap) (u : Value) (s' : Shared) (s : Shared) : Prop :=
  ∃ (e t d : Addr), u = .ref e ∧ s'.os = s.os ∧ s'.gens = s.gens ∧ (∀ b o, hp.get? b = some o → s'.heap.get? b = some o) ∧ hp.get? e = none ∧ hp.objs.size ≤ e ∧ hp.objs.size ≤ d ∧ e ≠ d ∧
    s'.heap.get? e = some (excObj C t (some d) .none) ∧ s'.heap.Ns1 d (fun y => if y = f then some v else none)
theorem ns1_one {h : Heap} {d : Addr} {hs : Int} {t : Tok} {v : Value} {n : Nat} (e : h.get? d = some (dictOf [⟨hs, .str f t, v⟩] n)) : h.Ns1 d (fun y => if y = f then some v else none) := by
  refine ⟨_, #[⟨hs, .str f t, v⟩], n, e, rfl, ?_, ?_, fun y => ?_⟩
  · intro x hx
    simp at hx
    subst hx
    exact ⟨f, t, rfl⟩
  · unfold UniqKeys
    simp
  · unfold nsFind findBy
    by_cases hy : y = f
    · subst hy
      simp [Value.isStr]
    · have : ((Value.str f t).isStr y) = false := by simp [Value.isStr]; exact fun z => hy z.symm
      simp [this, hy]
theorem ld_fn {env : Env} {m : Str → Option Value} {x : Str} {v : Value} {pos : Pos} {Q : Value → Shared → Prop} (hk : env.scope.kind = .function) (hl : env.kindOf x = some .local) (hd : (x == ("__debug__" : Str)) = false) (hn : s.heap.Ns env.locals m) (hv : m x = some v) (q : Q v s) :
    wpAny (model prog w) A (eval (.Name x pos) env) Q E s := wpAny_Name (wpAny_loadName_local hk hl hn hv q) hd
theorem meth1_eq {o : Expr} {name g x : Str} {apos pos p1 p2 p3 : Pos} {env : Env} (hl : (apos.endLine == pos.line) = true) :
    eval (.Call (.Attribute o name apos) [.Call (.Name g p1) [.Name x p2] [] p3] [] pos) env = (do
      let ov ← attributeBase o name env (eval o env)
      standAt apos.atName
      let r ← holding [ov] (getMethod ov name (do return (← importBound o env).getD true))
      callWith pos r.1 r.2 (backTo pos (starEach [.Call (.Name g p1) [.Name x p2] [] p3] env)) []) := by
  have e1 : methodCallForm (([.Call (.Name g p1) [.Name x p2] [] p3] : List Expr).length + ([] : List Keyword).length) (backTo pos (starEach [.Call (.Name g p1) [.Name x p2] [] p3] env)) (backToKw pos (keywordEach [] env)) = true := rfl
  have e2 : methodCallPos true o env apos pos = pure pos := by unfold methodCallPos; simp [hl]
  rw [arm_eval_Call]
  unfold methodCall
  rw [e1, e2]
  simp only [calleeOf, if_true, pure_bind]
  rfl
/-- super() in such a def -/
theorem sup_node {h₀ : Heap} {L fI e : Addr} {m : Str → Option Value} {news : List (Addr × Obj)} {ox : Obj} {odx : Option Obj} {attr : Str} {whole : Sem Value} {body : List Stmt} {Q : Value → Shared → Prop} (N : XnK prog K B newId i bmB C f) (I : IniK prog K C fI f) (F : Fr h₀ L s.heap m) (X₀ : K.In h₀) (W : News h₀ L s.heap news)
    (hg : h₀.Ns mainGlobals mg) (hb : h₀.Ns builtinsNs mb) (hbl : ∀ x : Str, x ≠ "__name__" → mb x = bootBuiltins x) (hv : m I.pa.arg = some (.ref e)) (J : PySem.W.InstAt s.heap e ox C odx) (hat : (attr == ("__class__" : Str)) = false)
    (q : ∀ so h', Fr h₀ L h' m → News h₀ L h' ((so, ks_superObj C e C) :: news) → (∀ p ∈ news, p.1 < so) → Q (.ref so) { s with heap := h' }) :
    PySem.wpAt (model prog w) A (.func body (ksEnv I.qual I.scope L fI (.ref I.cda) I.cc)) (attributeBase (.Call (.Name "super" (I.p 0)) [] [] (I.p 1)) attr (ksEnv I.qual I.scope L fI (.ref I.cda) I.cc) whole) Q E s := by
  have X : K.In s.heap := X₀.keeps F.keep
  cases hD : clsIn K C with
  | none =>
    have z := N.mro
    unfold mroIn at z
    rw [hD] at z
    cases z
  | some cd =>
    obtain ⟨oD, hD1, hD2⟩ : ∃ oD, s.heap.get? C = some oD ∧ oD.data = .cls cd := by
      unfold clsIn at hD
      split at hD
      · rename_i c0 d0 cd' sl ho
        cases hD
        exact ⟨_, X _ _ ho, rfl⟩
      · cases hD
    obtain ⟨hh, g, d, t, os⟩ := s
    have hp : (I.params.posonlyargs ++ I.params.args).head? = some I.pa := by rw [I.pos, I.args]; rfl
    refine ks_wpAt_super_base I.ls I.lc hat rfl (X _ _ I.at_) rfl hp rfl (X _ _ I.rec_) rfl I.hvs I.hfile N.top ?_
    refine ks_loadName_global I.kind I.ls ?_
    refine loadGlobal_builtin (hg.keeps F.keep) (mg_none_of X₀ hg N.gs) (hb.keeps F.keep) ((hbl _ (by decide +kernel)).trans (show bootBuiltins "super" = some (.type "super") by first | rfl | decide +kernel)) ⟨rfl, ?_⟩
    refine wpAny_loadName_free I.kind I.lc rfl ⟨_, X _ _ I.cell, rfl⟩ ?_
    refine wpAny_loadName_local I.kind I.la F.ns hv ?_
    refine ks_wpAny_isType_cls hD1 hD2 ⟨rfl, ?_⟩
    refine ks_wpAny_call_super hD1 hD2 J.at_ J.cls (fun c z => ?_) (looks_mroIn X N.mro) (fun h' z k => ?_)
    · have y := J.no
      unfold notCls at y
      rw [z] at y
      exact Bool.noConfusion y
    · obtain ⟨F', N', l'⟩ := ks_newsPush (s := ⟨hh, g, d, t, os⟩) F W rfl z k
      exact q _ _ F' N' l'
/-- the class is called -/
theorem make_X {v : Value} {Q : Value → Shared → Prop} (BF : BasF B newId i bmB) (N : XnK prog K B newId i bmB C f) (X : K.In s.heap) (hg : s.heap.Ns mainGlobals mg) (hb : s.heap.Ns builtinsNs mb) (hbl : ∀ x : Str, x ≠ "__name__" → mb x = bootBuiltins x) (lim : s.heap.NoLimit)
    (hr : A.depth + 1 < recursionLimit) (hv : StrOk v) (q : ∀ u s', MadeX C f v s.heap u s' s → Q u s') : wpAny (model prog w) A (call (.ref C) [v]) Q E s := by
  obtain ⟨fI, hi, hf, ⟨I⟩⟩ := N.fI
  obtain ⟨nm, N', qn, bs, bm, hdct, sn, sub, ab, col, dd, k0, k1, k2, k3, k5, hC, hT⟩ := excInit_of X N.ini
  have hfo := X _ _ I.at_
  have hi' : Looks (model prog w) s.heap (typeLookup (.ref C) "__init__") (some (.ref fI)) := looks_findIn X hi
  have hcls : I.oc = .type "function" := by
    have z := hf
    unfold isFn typeIn at z
    rw [beq_iff_eq] at z
    have z' : (K.lookup fI).map (·.cls) = some (.type "function") := z
    rw [I.at_] at z'
    exact Option.some.inj z'
  obtain ⟨hp, g, d, tk, os⟩ := s
  have hz : ([v] : List Value).length ≤ sizeLine := by show 1 ≤ sizeLine; rw [sizeLine_eq]; omega
  refine wpAny_call (PX.call_own BF.fb hT hC hi' (fun self => exc_bind hfo hcls self) hz ?_)
  have kk : ∀ b o, hp.get? b = some o → ((hp.push (kdv_tup [v])).push (PX.excO C hp.objs.size)).get? b = some o := fun b o z => Heap.get?_push_of_some _ (Heap.get?_push_of_some _ z)
  have he1 : ((hp.push (kdv_tup [v])).push (PX.excO C hp.objs.size)).get? (hp.objs.size + 1) = some (PX.excO C hp.objs.size) := by heap_get
  have he2 : ((hp.push (kdv_tup [v])).push (PX.excO C hp.objs.size)).get? hp.objs.size = some (kdv_tup [v]) := by heap_get
  have hbd : BindsTo (⟨(hp.push (kdv_tup [v])).push (PX.excO C hp.objs.size), g, d, tk, os⟩ : Shared) (ksFn I.name I.qual I.params [.Expr (.Call (.Attribute (.Call (.Name "super" (I.p 0)) [] [] (I.p 1)) "__init__" (I.p 2)) [.Call (.Name "str" (I.p 3)) [.Name I.pb.arg (I.p 4)] [] (I.p 5)] [] (I.p 6)) (I.p 7),
    .Assign [.Attribute (.Name I.pa.arg (I.p 8)) f (I.p 9)] (.Name I.pb.arg (I.p 10)) (I.p 11)] I.scope .none I.kV I.doc I.pm I.an (.ref I.cda) I.ct I.cc) ⟨[.ref (hp.objs.size + 1), v], []⟩ [(I.pa.arg, .ref (hp.objs.size + 1)), (I.pb.arg, v)] := by
    refine BindsTo.of_eq ?_
    unfold bindArgs
    simp only [ksFn, fnX, I.pos, I.kwo, I.kwa, I.va, I.args, List.map_nil, List.map_cons, List.nil_append, List.append_nil]
    have e3 : (notAStandIn Value.none : Sem Unit) = pure () := rfl
    have ne' : (I.pb.arg == I.pa.arg) = false := beq_eq_false_iff_ne.mpr fun z => I.ne z.symm
    simp [seqItems?, e3, List.lookup, ne']
  refine ks_codeAny_call_defAt ?_ (kk _ _ hfo) rfl ?_ ?_ rfl hbd I.nocell ?_ (fun h₁ hns hk₁ => ?_) I.co I.gen I.kind
  · exact hr
  · exact lim.keeps kk
  · exact codeRec_of (X.keeps kk) I.code
  · intro y hy
    simp at hy
    rcases hy with rfl | rfl
    · exact I.la
    · exact I.lb
  · have LK : ((hp.push (kdv_tup [v])).push (PX.excO C hp.objs.size)).objs.size = hp.objs.size + 2 := by simp [Heap.push]
    generalize hL : ((hp.push (kdv_tup [v])).push (PX.excO C hp.objs.size)).objs.size = L at *
    have k0 : ∀ b o, hp.get? b = some o → h₁.get? b = some o := fun b o z => hk₁ _ _ (kk _ _ z)
    have F : Fr hp L h₁ (fun x => ([(I.pa.arg, .ref (hp.objs.size + 1)), (I.pb.arg, v)] : List (Str × Value)).reverse.lookup x) := ⟨hns, k0, by omega⟩
    have nn : ∀ {b : Addr}, hp.objs.size ≤ b → hp.get? b = none := fun {b} hb => Heap.get?_none_of_le hb
    have W : News hp L h₁ [(hp.objs.size + 1, excObj C hp.objs.size none .none), (hp.objs.size, excTup [v])] := by
      intro p hp'
      simp at hp'
      rcases hp' with rfl | rfl
      · exact ⟨hk₁ _ _ he1, by show hp.objs.size + 1 ≠ L; omega, nn (by show hp.objs.size ≤ hp.objs.size + 1; omega)⟩
      · exact ⟨hk₁ _ _ he2, by show hp.objs.size ≠ L; omega, nn (Nat.le_refl _)⟩
    have ma : ([(I.pa.arg, .ref (hp.objs.size + 1)), (I.pb.arg, v)] : List (Str × Value)).reverse.lookup I.pa.arg = some (.ref (hp.objs.size + 1)) := by
      simp [List.lookup, beq_eq_false_iff_ne.mpr I.ne]
    have mb' : ([(I.pa.arg, .ref (hp.objs.size + 1)), (I.pb.arg, v)] : List (Str × Value)).reverse.lookup I.pb.arg = some v := by
      simp [List.lookup]
    generalize hm : (fun x => ([(I.pa.arg, .ref (hp.objs.size + 1)), (I.pb.arg, v)] : List (Str × Value)).reverse.lookup x) = m at F
    have ma : m I.pa.arg = some (.ref (hp.objs.size + 1)) := by rw [← hm]; exact ma
    have mb' : m I.pb.arg = some v := by rw [← hm]; exact mb'
    have io : ∀ {h : Heap}, h.get? (hp.objs.size + 1) = some (excObj C hp.objs.size none .none) → PySem.W.InstAt h (hp.objs.size + 1) (excObj C hp.objs.size none .none) C none := fun {h} z => ⟨z, rfl, rfl, trivial⟩
    refine ks_wpAt_execs_cons (ks_wpAt_Expr_any (ks_wpAt_MethodCall (sup_node N I F X W hg hb hbl ma (io (W (hp.objs.size + 1, _) (List.mem_cons_self ..)).1) (by decide) ?_) (meth1_eq I.ln)) (by
      show (I.scope.kind == .module && _) = false
      rw [I.kind]; rfl))
    intro so h2 F2 W2 l2
    refine kxs_method BF.kf F2 X W2 (List.mem_cons_self ..) (io (W2 (hp.objs.size + 1, _) (.tail _ (List.mem_cons_self ..))).1) N.op N.up N.sB (by decide) ?_
    intro q2 h3 F3 W3 l3
    refine kxs_callWith1 W3 (List.mem_cons_self ..) ?_
    refine spliced_cons ?_
    refine wpAny_Call_Name_kw ?_
    refine Name_function_global I.kind I.lt (loadGlobal_builtin (hg.keeps F3.keep) (mg_none_of X hg N.gt) (hb.keeps F3.keep) ((hbl _ (by decide +kernel)).trans (show bootBuiltins "str" = some (.type "str") by first | rfl | decide +kernel)) ?_)
    refine PyProof.Rows.callWith_type1 (spliced_cons ?_)
    refine ld_fn I.kind I.lb I.db F3.ns mb' (spliced_nil ?_)
    refine str_any hv fun x tx k => ?_
    refine spliced_nil ⟨(W3 (q2, _) (List.mem_cons_self ..)).1, ?_⟩
    have ne1 : so ≠ hp.objs.size + 1 := fun z => by have := l2 (hp.objs.size + 1, _) (List.mem_cons_self ..); rw [← z] at this; exact Nat.lt_irrefl _ this
    have ne2 : q2 ≠ hp.objs.size + 1 := fun z => by have := l3 (hp.objs.size + 1, _) (.tail _ (List.mem_cons_self ..)); rw [← z] at this; exact Nat.lt_irrefl _ this
    refine kxs_call F3 X W3 BF.fb N.ini (List.mem_cons_self ..) (.tail ne2 (.tail ne1 (.head (fun p hp' => by simp at hp'; subst hp'; show hp.objs.size ≠ hp.objs.size + 1; omega)))) (by show 1 ≤ sizeLine; rw [sizeLine_eq]; omega) ?_
    intro t4 h4 F4 W4 l4
    show PySem.wpAt (model prog w) _ _ (execs [_] (ksEnv I.qual I.scope L fI (.ref I.cda) I.cc)) _ _ _
    refine ks_wpAt_execs_cons (ks_wpAt_Assign_Attr (wpAt_of_wpAny ?_))
    show wpAny (model prog w) _ (eval (.Name I.pb.arg (I.p 10)) (ksEnv I.qual I.scope L fI (.ref I.cda) I.cc)) _ _ _
    refine ld_fn I.kind I.lb I.db F4.ns mb' ?_
    show wpAny (model prog w) _ (eval (.Name I.pa.arg (I.p 8)) (ksEnv I.qual I.scope L fI (.ref I.cda) I.cc)) _ _ _
    refine ld_fn I.kind I.la I.da F4.ns ma ?_
    have ne4 : t4 ≠ hp.objs.size + 1 := fun z => by have := l4 (hp.objs.size + 1, _) (.tail _ (.tail _ (List.mem_cons_self ..))); rw [← z] at this; exact Nat.lt_irrefl _ this
    refine set_exc0 BF.sf F4 X W4 (.tail _ (.tail _ (.tail _ (List.mem_cons_self ..)))) N.sa N.over N.tk N.dict rfl (.tail ne4 (.tail ne2 (.tail ne1 (.head (fun p hp' => by simp at hp'; subst hp'; show hp.objs.size ≠ hp.objs.size + 1; omega))))) (by show 1 ≤ 1000; omega) ?_
    intro dx h5 F5 W5 l5
    have g1 := (W5 (dx, _) (List.mem_cons_self ..))
    have g2 := (W5 (hp.objs.size + 1, _) (.tail _ (.tail _ (.tail _ (.tail _ (List.mem_cons_self ..))))))
    have g3 := l5 (hp.objs.size + 1, _) (.tail _ (.tail _ (.tail _ (List.mem_cons_self ..))))
    show PySem.wpAt (model prog w) _ _ (execs [] (ksEnv I.qual I.scope L fI (.ref I.cda) I.cc)) _ _ _
    refine wpAt_of_wpAny (wpAny_execs_nil ?_)
    refine ⟨rfl, q _ _ ⟨hp.objs.size + 1, t4, dx, rfl, rfl, rfl, F5.keep, nn (Nat.le_succ _), Nat.le_succ _, Nat.le_of_lt (Nat.lt_trans (Nat.lt_succ_self _) g3), Nat.ne_of_lt g3, g2.1, ns1_one g1.1⟩⟩
end
end Iv
end
section
set_option autoImplicit false
set_option maxRecDepth 100000
set_option maxHeartbeats 4000000
namespace Iv
open PySem L2 PySem.Spec PyProof.Rows
/-! ### raise C(x) -/
def StrV (y : V) : Prop := y = .non ∨ (∃ b, y = .bl b) ∨ (∃ i, y = .int i ∧ i.natAbs.log2 < 1920) ∨ ∃ x, y = .str x
theorem StrV.ok {y : V} {u : Value} (h : StrV y) (r : RelV y u) : StrOk u := by
  rcases h with rfl | ⟨b, rfl⟩ | ⟨i, rfl, hz⟩ | ⟨x, rfl⟩
  · exact .inl r
  · exact .inr (.inl ⟨b, r⟩)
  · obtain ⟨t, e⟩ := r
    exact .inr (.inr (.inl ⟨i, t, e, hz⟩))
  · obtain ⟨t, e⟩ := r
    exact .inr (.inr (.inr ⟨x, t, e⟩))
section
variable {X : Cx} {C : Addr} {bmB : List Value} {B newId i : String} {f : Str}
theorem mk_made {pins : List (Addr × Obj)} {σ : L2.St} {H : Hp} {Q : XK} {s s' : Shared} {y : V} {v u : Value} (I : Inv X pins σ H s) (N : XnK X.prog X.K B newId i bmB C f) (ry : RelV y v) (m : MadeX C f v s.heap u s' s)
    (q : ∀ d, H d = none → Q (.ref C) (some d) (upd H d (.xd [(f, y)]))) : MkP X pins σ Q u s' := by
  obtain ⟨e, t, d, rfl, m1, m2, k, ne, le, ld, ed, he, hd⟩ := m
  obtain ⟨G, gk, gn⟩ := restrict s'.heap fun b => decide (b ≠ e)
  have gk' : ∀ b, b ≠ e → G.get? b = s'.heap.get? b := fun b hb => gk b (decide_eq_true hb)
  have ge : G.get? e = none := gn e (by simp)
  have kG : ∀ b o, s.heap.get? b = some o → G.get? b = some o := fun b o z => by
    have hb : b ≠ e := fun y => by rw [y, ne] at z; cases z
    rw [gk' b hb]
    exact k b o z
  have hdn : H d = none := I.hok.fresh ld
  have hen : H e = none := I.hok.fresh le
  have J : Inv X pins σ (upd H d (.xd [(f, y)])) { s with heap := G } := I.laid (t' := s.toks) kG ld (by
    refine ⟨_, hd.at fun o z => (gk' d (Ne.symm ed)).trans z, fun g => ?_⟩
    by_cases hg : g = f
    · subst hg
      simp only [List.lookup, beq_self_eq_true, if_true]
      exact ry
    · have : (g == f) = false := beq_eq_false_iff_ne.mpr hg
      simp only [List.lookup, this, if_neg hg]
      trivial)
  refine ⟨e, _, _, { s with heap := G }, _, .ref C, some d, rfl, J, fun b o z => ?_, ge, he, ⟨rfl, rfl⟩, rfl, rfl, ?_, m1, by rw [m2]; exact I.bare, raises_own N.sub N.ty, q d hdn⟩
  · by_cases hb : b = e
    · rw [hb, ge] at z; cases z
    · exact (gk' b hb).symm.trans z
  · rw [upd_ne ed]; exact hen
theorem pmk_X {x : Str} {e : Expr} {te : TE} {p pos : Pos} (BF : BasF B newId i bmB) (N : XnK X.prog X.K B newId i bmB C f) (hr : Room 0 X.A) (gC : X.mg x = some (.ref C)) (hg : Gl X x)
    (he : PE X e te) (hs : starEach [e] X.env = (false, eval e X.env) :: starEach [] X.env) (hdb : (x == ("__debug__" : Str)) = false) :
    PMk X (.Call (.Name x p) [e] [] pos) (fun σ H Q => te σ H fun y H1 => StrV y ∧ ∀ d, H1 d = none → Q (.ref C) (some d) (upd H1 d (.xd [(f, y)]))) := by
  intro pins s σ H Q I h
  refine wpAny_Call_Name_kw (ld_glob I hg gC ?_ hdb)
  refine PySem.W.callWith_K (h₀ := X.base) I.ok.mod.kin N.keep ?_ hs (by rfl)
  rw [hs]
  show wpAny _ _ (spliced ((false, eval e X.env) :: backTo pos (starEach [] X.env))) _ _ s
  refine Calls.spliced_cons (thn (he.run pins s σ H _ I h) fun u s1 ⟨y, H1, I1, r1, q1, q2⟩ => ?_)
  refine Calls.spliced_nil ⟨I1.kIn, ?_⟩
  show wpAny _ _ (call (.ref C) [u]) _ _ _
  obtain ⟨mb, b1, b2⟩ := I1.mod.blt
  exact make_X BF N I1.kIn (I1.mod.glob.keeps I1.bk) (b1.keeps I1.bk) b2 I1.nolimit (by have := hr.dp; omega) (q1.ok r1) fun u' s' m => mk_made I1 N r1 m q2
end
end Iv
end
section
set_option autoImplicit false
set_option maxRecDepth 100000
set_option maxHeartbeats 4000000
namespace Iv
open PySem L2 PySem.Spec PyProof.Rows
/-! ### try: .., except C: .., except C as n: .. -/
abbrev ClT := Value × Option Nat × (Addr → Value → Option Addr → TS)
/-- the ends of a suite whose name goes -/
def goneE (i : Nat) (D : Ends) : Ends := { nx := fun σ' H' => D.nx (σ'.set i none) H', rt := D.rt, bk := fun σ' H' => D.bk (σ'.set i none) H', ct := fun σ' H' => D.ct (σ'.set i none) H' }
def wCl (K : PySem.W.Frag) (Wout : WX) (D : Ends) : List ClT → WX
  | [] => Wout
  | (c, o, ts) :: r => fun cls d σ H => ∃ b, PySem.W.exmOne K cls c = some b ∧ (b = true → ∀ a, H a = none → match o with
      | none => ts a cls d D σ H
      | some i => ts a cls d (goneE i D) (σ.set i (some (.ref a))) H) ∧ (b = false → wCl K Wout D r cls d σ H)
inductive ClOk (X : Cx) : List ExceptHandler → List ClT → Prop
  | nil : ClOk X [] []
  | bare {x : Str} {c : Value} {ts : Addr → Value → Option Addr → TS} {b₀ : Stmt} {suite : List Stmt} {np pp : Pos} {hds : List ExceptHandler} {l : List ClT} (hc : Names X x c)
      (hsu : ∀ (a : Addr) (oe : Obj) (cls : Value) (d : Option Addr) (pn : List (Addr × Obj)), Zc cls d oe → (∃ vs, oe.data = .fields vs) → PSs (X.suite a ((a, oe) :: pn)) (b₀ :: suite) (ts a cls d)) (r : ClOk X hds l) :
      ClOk X (.ExceptHandler (some (.Name x np)) none (b₀ :: suite) pp :: hds) ((c, none, ts) :: l)
  | named {x n : Str} {i : Nat} {c : Value} {ts : Addr → Value → Option Addr → TS} {b₀ : Stmt} {suite : List Stmt} {np pp : Pos} {hds : List ExceptHandler} {l : List ClT} (hc : Names X x c) (hi : X.N[i]? = some n) (hln : X.env.kindOf n = some .local)
      (hsu : ∀ (a : Addr) (oe : Obj) (cls : Value) (d : Option Addr) (pn : List (Addr × Obj)), Zc cls d oe → (∃ vs, oe.data = .fields vs) → PSs (X.suite a ((a, oe) :: pn)) (b₀ :: suite) (ts a cls d)) (r : ClOk X hds l) :
      ClOk X (.ExceptHandler (some (.Name x np)) (some n) (b₀ :: suite) pp :: hds) ((c, some i, ts) :: l)
section
variable {X : Cx} {body : List Stmt} {h₀ : ExceptHandler} {hds : List ExceptHandler} {l : List ClT} {pos : Pos} {tb : WX → TS} {Wout : WX}
theorem ps_tryCl (hs : X.stack = X.env :: X.outer) (hf : X.env.frame = some X.env.locals) (hN : X.N.Nodup) (tk : Takes X Wout)
    (hb : ∀ (W : WX) (pn : List (Addr × Obj)) (xe : Value → Shared → Prop), Takes (X.tr pn xe) W → PassesOwn (model X.prog X.w) X.A X.env xe → PSs (X.tr pn xe) body (tb W))
    (hh : ClOk X (h₀ :: hds) l) : PS X (.Try body (h₀ :: hds) [] [] pos) (fun D σ H => tb (wCl X.K Wout D l) D σ H) := by
  refine ⟨fun pins s σ H D I h => ?_⟩
  have ok := I.ok
  have hfr : X.A.frames = some (X.env :: X.outer) := by rw [ok.frames, hs]
  refine wpAny_Try_except ?_
  have bd := hb (wCl X.K Wout D l) (X.pn ++ pins) (fun e s₁ => wpAny (model X.prog X.w) X.A (noteFrame e X.env) (fun _ s₂ => wpAny (model X.prog X.w) X.A (setFlight e none) (fun _ s₃ =>
    wpAny (model X.prog X.w) X.A (handleBy e X.env (h₀ :: hds)) (SP X pins D) X.xe s₃) X.xe s₂) X.xe s₁) (fun u s' xx => ?_) PassesOwn.looking
  · refine wpAny_mono (bd.run [] s σ H D (I.toTry _) h) (fun fl s1 hsp => ?_) (fun e s1 he => he)
    cases fl with
    | next =>
      obtain ⟨σ', H', J', q⟩ := hsp
      exact wpAny_execs_nil ⟨σ', H', J'.ofTry ok, q⟩
    | brk =>
      obtain ⟨σ', H', J', q⟩ := hsp
      exact ⟨σ', H', J'.ofTry ok, q⟩
    | cont =>
      obtain ⟨σ', H', J', q⟩ := hsp
      exact ⟨σ', H', J'.ofTry ok, q⟩
    | ret u =>
      obtain ⟨v, σ', H', J', r, q⟩ := hsp
      exact ⟨v, σ', H', J'.ofTry ok, r, q⟩
  obtain ⟨a, B, sI, pins', σ', H', cls, d, rfl, J', nb, up, sky, na, os, ag, w⟩ := xx
  have J : Inv X pins σ' H' sI := J'.ofTry ok
  rw [hs] at sky
  show wpAny (model X.prog X.w) X.A (noteFrame (.ref a) X.env) _ _ _
  refine Sky.land Zc.steady hfr hf sky fun h3 fl3 up3 => ?_
  have J3 : Inv X pins σ' H' { s' with heap := h3 } := J.landed nb fl3.1 (up.trans up3) os ag
  obtain ⟨oe3, vs3, he3, hz3, hd3⟩ := fl3.there
  have nfr : a ∉ frs (X.env :: X.outer) := fun hm => by
    obtain ⟨_, o', e', hnf⟩ := fl3.2.2.1.mem hm
    rw [he3] at e'; cases e'
    exact hnf _ hd3
  have nL : a ≠ X.env.locals := fun z => nfr (List.mem_filterMap.mpr ⟨X.env, List.mem_cons_self, by rw [hf, z]⟩)
  have nF : a ∉ X.fs := fun hm => by
    obtain ⟨e, he, q⟩ := List.mem_filterMap.mp hm
    exact nfr (List.mem_filterMap.mpr ⟨e, List.mem_cons_of_mem _ he, q⟩)
  have S3 := J3.suite he3 hd3 na nL nF
  have LT : PySem.W.Looks (model X.prog X.w) h3 (typeOf (.ref a)) cls := fun A Q E s k q => wpAny_typeOf_ref (k _ _ he3) (by rw [hz3.1]; exact q)
  have test : ∀ {x : Str} {c : Value} {np : Pos} {Q E : Value → Shared → Prop}, Names X x c → Q c { s' with heap := h3 } → wpAny (model X.prog X.w) (X.A.mark (some (.ref a))) (eval (.Name x np) X.env) Q E { s' with heap := h3 } := fun {x c np Q E} hc q => by
    obtain ⟨hg, hdbg, hm | ⟨hm, hv, hnn⟩⟩ := hc
    · exact ld_glob (X := X.suite a ((a, oe3) :: (X.pn ++ pins))) S3 hg hm q hdbg
    · exact ld_blt (X := X.suite a ((a, oe3) :: (X.pn ++ pins))) S3 hg hm hv q hnn hdbg
  have go : ∀ {hds' : List ExceptHandler} {l' : List ClT}, ClOk X hds' l' → wCl X.K Wout D l' cls d σ' H' →
      wpAny (model X.prog X.w) X.A (handleBy (.ref a) X.env hds') (SP X pins D) X.xe { s' with heap := h3 } := by
    intro hds' l' hk
    induction hk with
    | nil =>
      intro w
      refine wpAny_handleBy_nil ?_
      obtain ⟨k1, k2, k3, oe, vs, T, oT, ts', he, hz, hd, h1, hr⟩ := id fl3
      unfold PySem.passOn
      refine wpAny_bind (wpAny_field he hd h1 ?_)
      rw [if_neg (show ¬ ((Value.ref T == Value.none) = true) from by simp)]
      have fin : wpAny (model X.prog X.w) X.A (setFlight (.ref a) X.env.frame) (fun _ s4 => wpAny (model X.prog X.w) X.A (throw (.ref a) : Sem Flow) (SP X pins D) X.xe s4) X.xe { s' with heap := h3 } := by
        rw [hf]
        refine HandSPX.setFlight_upZ fl3 fun h4 hh4 up4 => wpAny_throw (tk _ _ ?_)
        exact ⟨a, B, sI, pins, σ', H', cls, d, rfl, J, nb, (up.trans up3).trans up4, .inr (.inr (by rw [hs]; exact hh4)), na, os, ag, w⟩
      first
        | exact wpAny_bind (wpAny_pure (wpAny_bind fin))
        | exact wpAny_bind fin
    | bare hc hsu r ih =>
      rintro ⟨b, hb1, hyes, hno⟩
      have LM := PySem.W.exm_one (M := model X.prog X.w) (J3.kIn) LT hb1
      refine wpAny_handleBy_cons (codeAny_handlers_test ?_) (by intro q; cases q)
      refine test hc (LM.here ?_)
      cases b with
      | false => exact ih (hno rfl)
      | true =>
        refine codeAny_handlers_suite ?_
        refine HandSPX.lands_againZ fl3 fun h4 fl4 up4 => ?_
        obtain ⟨oe4, vs4, he4, hz4, hd4⟩ := fl4.there
        have J4 : Inv X pins σ' H' { s' with heap := h4 } := J.landed nb fl4.1 ((up.trans up3).trans up4) os ag
        have S4 := J4.suite he4 hd4 na nL nF
        refine wpAny_mono ((hsu a oe4 cls d (X.pn ++ pins) hz4 ⟨_, hd4⟩).run [] _ _ H' _ S4 (hyes rfl a na)) (fun fl s6 hsp => ?_) (fun _ _ z => z.elim)
        cases fl with
        | ret u =>
          obtain ⟨v6, σ6, H6, S6, r6, q6⟩ := hsp
          exact ⟨v6, σ6, H6, S6.unsuite ok, r6, q6⟩
        | next => exact let ⟨σ6, H6, S6, q6⟩ := hsp; ⟨σ6, H6, S6.unsuite ok, q6⟩
        | brk => exact let ⟨σ6, H6, S6, q6⟩ := hsp; ⟨σ6, H6, S6.unsuite ok, q6⟩
        | cont => exact let ⟨σ6, H6, S6, q6⟩ := hsp; ⟨σ6, H6, S6.unsuite ok, q6⟩
    | @named x n i c ts b₀ suite np pp hds2 l2 hc hi hln hsu r ih =>
      rintro ⟨b, hb1, hyes, hno⟩
      have LM := PySem.W.exm_one (M := model X.prog X.w) (J3.kIn) LT hb1
      refine wpAny_handleBy_cons (codeAny_handlers_test ?_) (by intro q; cases q)
      refine test hc (LM.here ?_)
      cases b with
      | false => exact ih (hno rfl)
      | true =>
        refine codeAny_handlers_suite_as ?_
        refine HandSPX.lands_againZ fl3 fun h4 fl4 up4 => ?_
        obtain ⟨oe4, vs4, he4, hz4, hd4⟩ := fl4.there
        have J4 : Inv X pins σ' H' { s' with heap := h4 } := J.landed nb fl4.1 ((up.trans up3).trans up4) os ag
        have S4 := J4.suite he4 hd4 na nL nF
        refine store_ok (X := X.suite a ((a, oe4) :: (X.pn ++ pins))) (v := .ref a) S4 hN hi (.inl hln) rfl (fun s5 S5 => ?_) (.inr hln)
        refine wpAny_mono ((hsu a oe4 cls d (X.pn ++ pins) hz4 ⟨_, hd4⟩).run [] s5 _ H' _ S5 (hyes rfl a na)) (fun fl s6 hsp => ?_) (fun _ _ z => z.elim)
        have end_ : ∀ {σ6 : L2.St} {H6 : Hp} {Q : Shared → Prop}, Inv (X.suite a ((a, oe4) :: (X.pn ++ pins))) [] σ6 H6 s6 → (∀ s7, Inv X pins (σ6.set i none) H6 s7 → Q s7) →
            wpAny (model X.prog X.w) X.A (do bindName X.env n .none; unbindBehindTheSuite X.env n pp) (fun _ s7 => Q s7) X.xe s6 := fun {σ6 H6 Q} S6 hq => gone_ok (S6.unsuite ok) hN hi hln hq
        cases fl with
        | ret u =>
          obtain ⟨v6, σ6, H6, S6, r6, q6⟩ := hsp
          exact end_ S6 fun s7 J7 => ⟨v6, _, H6, J7, r6, q6⟩
        | next => exact let ⟨σ6, H6, S6, q6⟩ := hsp; end_ S6 fun s7 J7 => ⟨_, H6, J7, q6⟩
        | brk => exact let ⟨σ6, H6, S6, q6⟩ := hsp; end_ S6 fun s7 J7 => ⟨_, H6, J7, q6⟩
        | cont => exact let ⟨σ6, H6, S6, q6⟩ := hsp; end_ S6 fun s7 J7 => ⟨_, H6, J7, q6⟩
  exact go hh w
end
end Iv
end
section
set_option autoImplicit false
set_option maxRecDepth 100000
set_option maxHeartbeats 4000000
namespace Iv
open PySem L2
theorem PE.imp {X : Cx} {e : Expr} {t t' : TE} (h : PE X e t) (k : ∀ σ H Q, t' σ H Q → t σ H Q) : PE X e t' := ⟨fun pins s σ H Q I hw => h.run pins s σ H Q I (k _ _ _ hw)⟩
theorem PT.imp {X : Cx} {e : Expr} {t t' : TT} (h : PT X e t) (k : ∀ σ H Q, t' σ H Q → t σ H Q) : PT X e t' := ⟨fun pins s σ H Q I hw => h.run pins s σ H Q I (k _ _ _ hw)⟩
theorem PA.imp {X : Cx} {es : List Expr} {t t' : TA} (h : PA X es t) (k : ∀ σ H Q, t' σ H Q → t σ H Q) : PA X es t' := ⟨fun pos pins s σ H Q I hw => h.run pos pins s σ H Q I (k _ _ _ hw)⟩
theorem PO.imp {X : Cx} {e : Option Expr} {t t' : TO} (h : PO X e t) (k : ∀ σ H Q, t' σ H Q → t σ H Q) : PO X e t' := ⟨fun pins s σ H Q I hw => h.run pins s σ H Q I (k _ _ _ hw)⟩
theorem PS.imp {X : Cx} {e : Stmt} {t t' : TS} (h : PS X e t) (k : ∀ D σ H, t' D σ H → t D σ H) : PS X e t' := ⟨fun pins s σ H D I hw => h.run pins s σ H D I (k _ _ _ hw)⟩
theorem PSs.imp {X : Cx} {e : List Stmt} {t t' : TS} (h : PSs X e t) (k : ∀ D σ H, t' D σ H → t D σ H) : PSs X e t' := ⟨fun pins s σ H D I hw => h.run pins s σ H D I (k _ _ _ hw)⟩

abbrev RVs (K : Fg) (G : Hp) (m : List Addr) : List Vl → List V → Prop := Paired (RepV K G m)
theorem Out.gives {xs : List Xc} {mg : Str → Option Value} {K : Fg} {W : WX} {σ : L2.St} {F G H : Hp} {m : List Addr} {Q : VK} {d : D} {S : Hs} (h : OutV xs mg K W F σ G m Q (.ok (.d d) S)) (l : Rl K F G m S H) : Gives K G H d Q :=
  fun v G' H' a r => h G' m H' v (a.grow l.ext) (l.al a) r
theorem Out.optD {xs : List Xc} {mg : Str → Option Value} {K : Fg} {W : WX} {σ : L2.St} {F G H : Hp} {m : List Addr} {Q : VK} {o : Option D} {S : Hs} (h : OutV xs mg K W F σ G m Q (R.opt (o.map .d) S)) (l : Rl K F G m S H) : ∃ d, o = some d ∧ Gives K G H d Q := by
  cases o with
  | none => exact h.elim
  | some d => exact ⟨d, rfl, Out.gives h l⟩
theorem dsOf_reps {K : Fg} {G : Hp} {m : List Addr} : ∀ {vs : List Vl} {us : List V} {xs : List D}, RVs K G m vs us → dsOf vs = some xs → Reps K G xs us
  | [], _, xs, .nil, h => by simp only [dsOf, Option.some.injEq] at h; subst h; exact .nil
  | .d x :: vs, _, xs, .cons r q, h => by
    simp only [dsOf] at h
    cases e : dsOf vs with
    | none => rw [e] at h; cases h
    | some ys => rw [e] at h; cases h; exact .cons r (dsOf_reps q e)
  | .loc _ :: _, _, _, .cons _ _, h => by simp [dsOf] at h
  | .xc _ _ :: _, _, _, .cons _ _, h => by simp [dsOf] at h
theorem rdV_rd {K : Fg} {F G H : Hp} {m : List Addr} {S : Hs} {v : Vl} {u : V} {d : D} (l : Rl K F G m S H) (r : RepV K G m v u) (h : rdV v S = some d) : Rd' K G H d u := by
  cases v with
  | d x => simp only [rdV, Option.some.injEq] at h; subst h; exact .inl r
  | loc n =>
    obtain ⟨a, ha, rfl⟩ := r
    simp only [rdV] at h
    cases e : S[n]? with
    | none => rw [e] at h; cases h
    | some o =>
      rw [e] at h
      cases o with
      | lst xs =>
        cases h
        obtain ⟨_, vs, h2, h3⟩ := (l.ob n a _ ha e).lst
        exact .inr ⟨a, xs, vs, rfl, rfl, h2, h3⟩
      | dct _ => cases h
      | ins _ _ => cases h
      | dead => cases h
  | xc _ _ => cases h
theorem rdVs_rd {K : Fg} {F G H : Hp} {m : List Addr} {S : Hs} (l : Rl K F G m S H) : ∀ {vs : List Vl} {us : List V} {xs : List D}, RVs K G m vs us → rdVs vs S = some xs → Paired (Rd' K G H) xs us
  | [], _, xs, .nil, h => by simp only [rdVs, Option.some.injEq] at h; subst h; exact .nil
  | v :: vs, _, xs, .cons r q, h => by
    simp only [rdVs] at h
    cases e : rdV v S with
    | none => rw [e] at h; cases h
    | some y =>
      rw [e] at h
      cases e2 : rdVs vs S with
      | none => rw [Option.bind_some, e2] at h; cases h
      | some ys => rw [Option.bind_some, e2] at h; cases h; exact .cons (rdV_rd l r e) (rdVs_rd l q e2)

/-! ### where one stands -/
/-- a call's promise -/
def spC (nm : Nm) (mg : Str → Option Value) (K : Fg) (c : List Vl → Hs → R Vl) : Sp := fun us H Q E =>
  ∃ (F G : Hp) (m : List Addr) (vs : List Vl) (S : Hs), Rl K F G m S H ∧ RVs K G m vs us ∧ OutV nm.excs mg K (fun cls d _ H => E cls d H) F [] G m Q (c vs S)
/-- where the def f stands -/
abbrev fa (cl : Nat → Addr) (f : Nat) : Addr := cl (f + 4096)
/-- what the class c must have for isinstance -/
structure IsC (K : PySem.W.Frag) (cl : Nat → Addr) (b : Bool) (j c : Nat) : Prop where
  s : SlX.SCls K (cl c)
  i : SlX.SIsi K (cl c)
  k : PySem.W.kitOne K (.ref (cl c)) (.ref (cl j)) = some b
/-- a property of the class at C: its record at p, its getter at g -/
structure PrK (K : PySem.W.Frag) (C : Addr) (f : Str) (p g : Addr) : Prop where
  at_ : PySem.W.findIn K (.ref C) f = some (some (.ref p))
  get : PySem.W.specialIn K (.ref p) "__get__" = some (some (.builtin "property.__get__"))
  tk : PySem.W.takesIn K (.ref p) = some true
  rc : ∃ rest, PySem.W.recIn K p "property" = some (.ref g :: rest)
/-- where an error's class stands -/
abbrev xa (cl : Nat → Addr) (c : Nat) : Addr := cl (c + 8192)
/-- what the written part says of an error's class -/
def ExK (prog : Program) (K : PySem.W.Frag) (C : Addr) (e : Xc) : Prop := match e.fld with
  | none => ∃ (B newId i : String) (bmB : List Value), ExcBaseFacts B newId i bmB ∧ PySem.W.excIn K C bmB newId = true ∧ PySem.W.keepIn K (.ref C) = true ∧ PySem.W.subIn K (.ref C) (.type "BaseException") = some true ∧ PySem.W.typeIn K (.ref C) = some (.type "type")
  | some f => ∃ (B newId i : String) (bmB : List Value), BasF B newId i bmB ∧ XnK prog K B newId i bmB C f ∧ XfC K C ∧ PySem.W.findIn K (.ref C) f = some none
structure Md (nm : Nm) (cl : Nat → Addr) (P : Prg) (cal : Cal) (n : Nat) (prog : Program) (w : World) (K : PySem.W.Frag) (mg : Str → Option Value) (base : Heap) : Prop where
  fn : ∀ f : Nat, f < nm.nf → FnR prog w K mg base (L2.CX prog w) (3 * n) (fa cl f) (spC nm mg ⟨K, cl⟩ (cal f))
  bad : ∀ f : Nat, ¬ f < nm.nf → ∀ vs S, cal f vs S = .bad
  gf : ∀ (f : Nat) (x : Str), nm.fns[f]? = some x → f < nm.nf ∧ mg x = some (.ref (fa cl f)) ∧ PySem.W.keepIn K (.ref (fa cl f)) = true
  gl : ∀ (g : Nat) (x : Str) (d : D), nm.globs[g]? = some x → P.globs[g]? = some d → ∃ (u : Value) (v : V), mg x = some u ∧ RelV v u ∧ ∀ G, Rep ⟨K, cl⟩ G d v
  bt : ∀ b : Bi, mg (biName b) = none
  bo : ∀ x ∈ (["isinstance", "range", "zip", "enumerate", "bool", "dict", "sorted"] : List Str), mg x = none
  op : ∀ (o : BOp) (c f : Nat), P.opf o c = some f → OpInt K (cl c) (fa cl f) (bop o)
  eq : ∀ c f : Nat, P.eqf c = some f → PySem.W.findIn K (.ref (cl c)) "__eq__" = some (some (.ref (fa cl f))) ∧ PySem.W.isFn K (.ref (fa cl f)) = true ∧ PySem.W.findIn K (.ref (cl c)) "__ne__" = some (some (.builtin "object.__ne__")) ∧ PySem.W.plainOver K (cl c) = true
  ln : ∀ c f : Nat, P.lnf c = some f → PySem.W.findIn K (.ref (cl c)) "__len__" = some (some (.ref (fa cl f))) ∧ PySem.W.isFn K (.ref (fa cl f)) = true
  bl : ∀ c f : Nat, P.bof c = some f → PySem.W.findIn K (.ref (cl c)) "__bool__" = some (some (.ref (fa cl f))) ∧ PySem.W.isFn K (.ref (fa cl f)) = true
  sr : ∀ c f : Nat, P.stf c = some f → PySem.W.findIn K (.ref (cl c)) "__str__" = some (some (.ref (fa cl f))) ∧ PySem.W.isFn K (.ref (fa cl f)) = true
  mkk : ∀ (j : Nat) (q : Nat × Nat), P.mks[j]? = some q → q.2 < nm.nf ∧ Mk K (cl q.1) (fa cl q.2)
  mn : ∀ (j : Nat) (q : Nat × Nat) (x : Str), P.mks[j]? = some q → nm.mks[j]? = some x → mg x = some (.ref (cl q.1))
  sl : ∀ (j : Nat) (q : Nat × Nat) (x : Str), P.sls[j]? = some q → nm.sls[j]? = some x → SlX.SCls K (cl q.1) ∧ ∃ p, SlX.Slot1 K (cl q.1) x p q.2
  mt : ∀ (j : Nat) (q : Nat × Nat) (x : Str), P.mts[j]? = some q → nm.mts[j]? = some x → q.2 < nm.nf ∧ SlX.SCls K (cl q.1) ∧ Meth K (cl q.1) x (fa cl q.2)
  pr : ∀ (j : Nat) (q : Nat × Nat) (x : Str), P.prs[j]? = some q → nm.prs[j]? = some x → q.2 < nm.nf ∧ SlX.SCls K (cl q.1) ∧ ∃ p, PrK K (cl q.1) x p (fa cl q.2)
  cm : ∀ (j : Nat) (q : Nat × Nat) (c x : Str), P.cms[j]? = some q → nm.cms[j]? = some (c, x) → q.2 < nm.nf ∧ mg c = some (.ref (cl q.1)) ∧ ∃ mc p, ClX.CRead K (cl q.1) mc ∧ ClX.CMet K (cl q.1) mc x p (fa cl q.2)
  is : ∀ (j : Nat) (x : Str), nm.cls[j]? = some x → mg x = some (.ref (cl j)) ∧ (∀ T ∈ (["NoneType", "bool", "int", "str", "tuple", "list", "dict"] : List String), PySem.W.kitOne K (.type T) (.ref (cl j)) = some false)
  isc : ∀ (j : Nat) (x : Str) (c : Nat) (b : Bool), nm.cls[j]? = some x → P.isc c j = some b → IsC K cl b j c
  ex : ∀ (c : Nat) (e : Xc), nm.excs[c]? = some e → mg e.name = some (.ref (xa cl c)) ∧ ExK prog K (xa cl c) e
  sb : ∀ (c c' : Nat) (e e' : Xc), nm.excs[c]? = some e → nm.excs[c']? = some e' → PySem.W.exmOne K (.ref (xa cl c)) (.ref (xa cl c')) = some (nm.sub c c')
  ps : P.sub = nm.sub
  dg : PySem.W.nsOkIn K cStatics = true ∧ PySem.W.nsIn K cStatics "sys.int_max_str_digits" = some none
structure Ck (nm : Nm) (cl : Nat → Addr) (P : Prg) (cal : Cal) (n : Nat) (X : Cx) (W : WX) : Prop where
  calm : X.calm = true
  nodup : X.N.Nodup
  tk : Takes X W
  po : PassesOwn (model X.prog X.w) X.A X.env X.xe
  room : Room (3 * n + 2) X.A
  md : Md nm cl P cal n X.prog X.w X.K X.mg X.base
abbrev TX (nm : Nm) (cl : Nat → Addr) (X : Cx) (W : WX) (f : Ev → Hs → R Vl) : TE := tX nm.excs X.mg (kx cl X) W (RepV (kx cl X)) f
abbrev TXs (nm : Nm) (cl : Nat → Addr) (X : Cx) (W : WX) (f : Ev → Hs → R (List Vl)) : TA := tX nm.excs X.mg (kx cl X) W (RVs (kx cl X)) f
section
variable {nm : Nm} {cl : Nat → Addr} {P : Prg} {cal : Cal} {n : Nat} {X : Cx} {W : WX} {e l r : Expr} {es : List Expr} {pos : Pos} {x y z : Ex}
theorem okN_d {s : Str} (h : okN s = true) : (s == ("__debug__" : Str)) = false ∧ (s == ("__classdict__" : Str)) = false ∧ s ≠ ("__name__" : Str) := by
  unfold okN at h
  simp only [Bool.and_eq_true, Bool.not_eq_true', decide_eq_false_iff_not] at h
  exact ⟨h.1.1, h.1.2, h.2⟩
theorem visB_d {sc : Scope} {s : Str} (h : visB sc s = true) : Vis sc s := by
  unfold visB at h
  split at h
  · exact .inl (by assumption)
  · exact .inr (.inl (by assumption))
  · exact .inr (.inr (by assumption))
  · cases h
theorem glB_d {sc : Scope} {s : Str} (h : glB sc s = true) : sc.names.lookup s = some .globalImplicit := of_decide_eq_true h
theorem e_var {i : Nat} {s : Str} (hN : X.N[i]? = some s) (hv : visB X.env.scope s = true) (ho : okN s = true) : PE X (.Name s pos) (TX nm cl X W (ev P cal (.var i))) := by
  refine PE.imp (pe_var hN (visB_d hv) (okN_d ho).1 (okN_d ho).2.1) fun σ H Q ⟨F, G, m, r, S, rl, rv, o⟩ => ?_
  simp only [ev] at o
  split at o
  · rename_i x hr
    obtain ⟨u, h1, h2⟩ := rv.2 i _ hr (fun _ _ z => by cases z)
    exact ⟨u, h1, o G m H u .refl rl (Rep.wk h2)⟩
  · rename_i x hr
    obtain ⟨u, h1, h2⟩ := rv.2 i _ hr (fun _ _ z => by cases z)
    exact ⟨u, h1, o G m H u .refl rl h2⟩
  · exact o.elim
theorem e_varp {i : Nat} {s : Str} (hN : X.N[i]? = some s) (hv : visB X.env.scope s = true) (ho : okN s = true) : PE X (.Name s pos) (TX nm cl X W (ev P cal (.varp i))) := by
  refine PE.imp (pe_var hN (visB_d hv) (okN_d ho).1 (okN_d ho).2.1) fun σ H Q ⟨F, G, m, r, S, rl, rv, o⟩ => ?_
  simp only [ev] at o
  split at o
  · rename_i x hr
    obtain ⟨u, h1, h2⟩ := rv.2 i _ hr (fun _ _ z => by cases z)
    exact ⟨u, h1, o G m H u .refl rl h2⟩
  · exact o.elim
theorem e_vard {i : Nat} {s : Str} (hN : X.N[i]? = some s) (hv : visB X.env.scope s = true) (ho : okN s = true) : PE X (.Name s pos) (TX nm cl X W (ev P cal (.vard i))) := by
  refine PE.imp (pe_var hN (visB_d hv) (okN_d ho).1 (okN_d ho).2.1) fun σ H Q ⟨F, G, m, r, S, rl, rv, o⟩ => ?_
  simp only [ev] at o
  split at o
  · rename_i x hr
    obtain ⟨u, h1, h2⟩ := rv.2 i _ hr (fun _ _ z => by cases z)
    exact ⟨u, h1, o G m H u .refl rl (Rep.wkd h2)⟩
  · exact o.elim
theorem e_glob {g : Nat} {s : Str} (C : Ck nm cl P cal n X W) (hg : nm.globs[g]? = some s) (h1 : glB X.env.scope s = true) (ho : okN s = true) : PE X (.Name s pos) (TX nm cl X W (ev P cal (.glob g))) := by
  cases e : P.globs[g]? with
  | none => exact ⟨fun pins s σ H Q I ⟨F, G, m, r, S, rl, rv, o⟩ => by simp only [ev, e] at o; exact o.elim⟩
  | some d =>
    obtain ⟨u, v, q1, q2, q3⟩ := C.md.gl g s d hg e
    refine PE.imp (pe_glob (glB_d h1) q1 q2 (okN_d ho).1) fun σ H Q ⟨F, G, m, r, S, rl, rv, o⟩ => ?_
    simp only [ev, e] at o
    exact o G m H v .refl rl (q3 G)
theorem e_const {c : PySem.Const} {j : Nat} {v : V} {d : D} (h : PE X (.Constant c j pos) (tC v)) (hx : ∀ r S, ev P cal x r S = .ok (.d d) S) (hr : ∀ G, Rep (kx cl X) G d v) : PE X (.Constant c j pos) (TX nm cl X W (ev P cal x)) := by
  refine PE.imp h fun σ H Q ⟨F, G, m, r, S, rl, rv, o⟩ => ?_
  rw [hx] at o
  exact o G m H v .refl rl (hr G)
theorem Out.wish {xs : List Xc} {mg : Str → Option Value} {K : Fg} {W : WX} {σ : L2.St} {F G : Hp} {m : List Addr} {Q : VK} {x : R Vl} (h : OutV xs mg K W F σ G m Q x) : OutV xs mg K (fun cls d _ H => WE W σ cls d H) F [] G m Q x := by
  cases x with
  | ok v S => exact h
  | exc c fs S => exact h
  | bad => exact h
/-- a def of the program, as it may be called here -/
theorem Ck.go (C : Ck nm cl P cal n X W) {f : Nat} : ∃ sp : Sp, (f < nm.nf → FnR X.prog X.w X.K X.mg X.base (L2.CX X.prog X.w) (3 * n) (fa cl f) sp) ∧
    ∀ (σ : L2.St) (F G : Hp) (m : List Addr) (vs : List Vl) (us : List V) (S : Hs) (H : Hp) (Q : VK), Rl (kx cl X) F G m S H → RVs (kx cl X) G m vs us → OutV nm.excs X.mg (kx cl X) W F σ G m Q (cal f vs S) → f < nm.nf ∧ sp us H Q (WE W σ) := by
  by_cases hf : f < nm.nf
  · exact ⟨_, fun _ => C.md.fn f hf, fun σ F G m vs us S H Q l r out => ⟨hf, F, G, m, vs, S, l, r, Out.wish out⟩⟩
  · exact ⟨fun _ _ _ _ => True, fun h => absurd h hf, fun σ F G m vs us S H Q l r out => by rw [C.md.bad f hf] at out; exact out.elim⟩
theorem rep_slt {K : Fg} {G H : Hp} {c : Nat} {fs : List D} {u : V} (e : Ext G H) (r : Rep K G (.ins c fs) u) : ∃ a dx vs, u = .ref a ∧ SlX.Slt H a (K.cl c) dx vs := by
  cases r with
  | ins h1 h2 _ _ => exact ⟨_, _, _, rfl, .inr ⟨e _ _ h1, e _ _ h2⟩⟩
/-- an operator by a def of the class -/
def rOwnB (nm : Nm) (cl : Nat → Addr) (P : Prg) (cal : Cal) (X : Cx) (W : WX) (o : BOp) : L2.St → V → V → Hp → VK → Prop := fun σ x y H Q =>
  ∃ (c f : Nat) (F G : Hp) (m : List Addr) (fs : List D) (d : D) (S : Hs), P.opf o c = some f ∧ okR c d = true ∧ Rl (kx cl X) F G m S H ∧ Rep (kx cl X) G (.ins c fs) x ∧ Rep (kx cl X) G d y ∧ OutV nm.excs X.mg (kx cl X) W F σ G m Q (cal f [.d (.ins c fs), .d d] S)
theorem op_ownB {o : BOp} (C : Ck nm cl P cal n X W) {pins : List (Addr × Obj)} {s : Shared} {σ : L2.St} {H : Hp} {x y : V} {v u : Value} {Q : VK} (I : Inv X pins σ H s) (rx : RelV x v) (ry : RelV y u) (h : rOwnB nm cl P cal X W o σ x y H Q) :
    wpAny (model X.prog X.w) X.A (binaryOp (bop o) v u) (EP X pins σ Q) X.xe s := by
  obtain ⟨c, f, F, G, m, fs, d, S, hp, ho, l, r1, r2, out⟩ := h
  obtain ⟨sp, g1, g2⟩ := C.go (f := f)
  obtain ⟨hf, hs⟩ := g2 σ F G m [.d (.ins c fs), .d d] [x, y] S H Q l (.cons r1 (.cons r2 .nil)) out
  obtain ⟨a, dx, vs, rfl, sl⟩ := rep_slt l.ext r1
  obtain rfl : v = Value.ref a := rx
  have k := C.md.op o c f hp
  cases d with
  | ins c' fs' =>
    have e : c' = c := eq_of_beq ho
    subst e
    obtain ⟨b, dy, ws, rfl, sl'⟩ := rep_slt l.ext r2
    obtain rfl : u = Value.ref b := ry
    exact bin_ins k.toOpOwn (g1 hf) (C.room.mono (by omega)) (passAt C.tk σ) I sl sl' hs
  | int i =>
    cases r2
    exact bin_int k (g1 hf) (C.room.mono (by omega)) (passAt C.tk σ) I sl ry hs
  | _ => cases ho
theorem e_bin {o : BOp} (C : Ck nm cl P cal n X W) (ha : PE X l (TX nm cl X W (ev P cal x))) (hb : PE X r (TX nm cl X W (ev P cal y))) : PE X (.BinOp l (bop o) r pos) (TX nm cl X W (ev P cal (.bin o x y))) := by
  refine PE.imp (pe_opS (rd := fun σ x y H Q => rB (kx cl X) o x y H Q ∨ rOwnB nm cl P cal X W o σ x y H Q) ha hb fun pins s σ H x y v u Q I rx ry h => h.elim (op_rB (cl := cl) o pins s σ H x y v u Q I rx ry) (op_ownB C I rx ry)) fun σ H Q ⟨F, G, m, r, S, rl, rv, out⟩ => ?_
  simp only [ev] at out
  refine tX.bind rl rv out fun u1 H1 G1 m1 v1 S1 g1 l1 rv1 r1 out => ?_
  refine tX.bind l1 rv1 out fun u2 H2 G2 m2 v2 S2 g2 l2 rv2 r2 out => ?_
  cases v1 with
  | loc _ => exact out.elim
  | xc _ _ => exact out.elim
  | d a =>
  cases v2 with
  | loc _ => cases a <;> exact out.elim
  | xc _ _ => cases a <;> exact out.elim
  | d b =>
  cases a with
  | ins c fs =>
    dsimp only at out
    by_cases hk : okR c b = true
    · rw [if_pos hk] at out
      cases hf : P.opf o c with
      | none => rw [hf] at out; exact out.elim
      | some f => rw [hf] at out; exact .inr ⟨c, f, F, G2, m2, fs, b, S2, hf, hk, l2, Rep.mono g2.1 r1, r2, out⟩
    · rw [if_neg hk] at out; exact out.elim
  | _ =>
    obtain ⟨d, hd, g⟩ := Out.optD out l2
    exact .inl ⟨G2, _, _, d, l2.ext, Rep.mono g2.1 r1, r2, hd, g⟩
theorem e_neg (ha : PE X l (TX nm cl X W (ev P cal x))) : PE X (.UnaryOp .USub l pos) (TX nm cl X W (ev P cal (.neg x))) := by
  refine PE.imp (pe_un un_neg ha) fun σ H Q ⟨F, G, m, r, S, rl, rv, out⟩ => ?_
  simp only [ev] at out
  refine tX.bind rl rv out fun u1 H1 G1 m1 v1 S1 g1 l1 rv1 r1 out => ?_
  split at out
  · cases r1; exact ⟨_, rfl, (Out.gives out l1).here (.int _)⟩
  · exact out.elim
theorem behind_e {sc : Scope} {N : List Str} (h : isE nm N sc y r = true) (op : CmpOp) : behindInMarks op r = false := by
  cases r with
  | Set _ _ _ => cases y <;> cases h
  | _ => rfl
/-- == and != by the class's __eq__ -/
def rOwnC (nm : Nm) (cl : Nat → Addr) (P : Prg) (cal : Cal) (X : Cx) (W : WX) (o : COp) : L2.St → V → V → Hp → VK → Prop := fun σ x y H Q =>
  ∃ (c f : Nat) (F G : Hp) (m : List Addr) (fs : List D) (d : D) (S : Hs), P.eqf c = some f ∧ okE c d = true ∧ Rl (kx cl X) F G m S H ∧ Rep (kx cl X) G (.ins c fs) x ∧ Rep (kx cl X) G d y ∧
    ((o = .eq ∧ OutV nm.excs X.mg (kx cl X) W F σ G m Q (cal f [.d (.ins c fs), .d d] S)) ∨
     (o = .ne ∧ OutV nm.excs X.mg (kx cl X) W F σ G m (fun z H' => ∃ k, z = .bl k ∧ Q (.bl (!k)) H') (cal f [.d (.ins c fs), .d d] S)))
theorem op_ownC {o : COp} (C : Ck nm cl P cal n X W) {pins : List (Addr × Obj)} {s : Shared} {σ : L2.St} {H : Hp} {x y : V} {v u : Value} {Q : VK} (I : Inv X pins σ H s) (rx : RelV x v) (ry : RelV y u) (h : rOwnC nm cl P cal X W o σ x y H Q) :
    wpAny (model X.prog X.w) X.A (compareOp (cop o) v u) (EP X pins σ Q) X.xe s := by
  obtain ⟨c, f, F, G, m, fs, d, S, hp, ho, l, r1, r2, h⟩ := h
  obtain ⟨sp, g1, g2⟩ := C.go (f := f)
  obtain ⟨k1, k2, k3, k4⟩ := C.md.eq c f hp
  obtain ⟨a, dx, vs, rfl, sl⟩ := rep_slt l.ext r1
  obtain rfl : v = Value.ref a := rx
  cases d with
  | ins c' fs' =>
    have e : c' = c := eq_of_beq ho
    subst e
    obtain ⟨b, dy, ws, rfl, sl'⟩ := rep_slt l.ext r2
    obtain rfl : u = Value.ref b := ry
    rcases h with ⟨rfl, out⟩ | ⟨rfl, out⟩
    · obtain ⟨hf, hs⟩ := g2 σ F G m [.d (.ins c' fs), .d (.ins c' fs')] [.ref a, .ref b] S H Q l (.cons r1 (.cons r2 .nil)) out
      exact eq_ins (op := .Eq) (fun _ _ => rfl) k1 k2 (by unfold PySem.W.notFirst; simp) (g1 hf) (C.room.mono (by omega)) (passAt C.tk σ) I sl sl' hs
    · obtain ⟨hf, hs⟩ := g2 σ F G m [.d (.ins c' fs), .d (.ins c' fs')] [.ref a, .ref b] S H _ l (.cons r1 (.cons r2 .nil)) out
      exact ne_ins k1 k2 k3 k4 (g1 hf) (C.room.mono (by omega)) (passAt C.tk σ) I sl sl' hs
  | _ => cases ho
theorem cmp_read {o : COp} {σ : L2.St} {H : Hp} {Q : VK} (h : TX nm cl X W (ev P cal (.cmp o x y)) σ H Q) :
    TX nm cl X W (ev P cal x) σ H fun a H1 => TX nm cl X W (ev P cal y) σ H1 fun b H2 => rC (kx cl X) o a b H2 Q ∨ rOwnC nm cl P cal X W o σ a b H2 Q := by
  obtain ⟨F, G, m, r, S, rl, rv, out⟩ := h
  simp only [ev] at out
  refine tX.bind rl rv out fun u1 H1 G1 m1 v1 S1 g1 l1 rv1 r1 out => ?_
  refine tX.bind l1 rv1 out fun u2 H2 G2 m2 v2 S2 g2 l2 rv2 r2 out => ?_
  cases ea : rdV v1 S2 with
  | none => rw [ea] at out; exact out.elim
  | some a =>
  cases eb : rdV v2 S2 with
  | none => rw [ea, eb] at out; cases a <;> exact out.elim
  | some b =>
  rw [ea, eb] at out
  have q1 := rdV_rd l2 (r1.mono g2) ea
  have q2 := rdV_rd l2 r2 eb
  cases a with
  | ins c fs =>
    dsimp only at out
    by_cases hk : okE c b = true
    · rw [if_pos hk] at out
      cases hf : P.eqf c with
      | none => rw [hf] at out; exact out.elim
      | some f =>
        rw [hf] at out
        have z1 : Rep (kx cl X) G2 (.ins c fs) u1 := by
          rcases q1 with q | ⟨_, _, _, q, _⟩
          · exact q
          · cases q
        have z2 : Rep (kx cl X) G2 b u2 := by
          rcases q2 with q | ⟨_, _, _, q, _⟩
          · exact q
          · subst q; cases hk
        refine .inr ⟨c, f, F, G2, m2, fs, b, S2, hf, hk, l2, z1, z2, ?_⟩
        cases o with
        | eq => exact .inl ⟨rfl, out⟩
        | ne =>
          refine .inr ⟨rfl, (Out.bind (RR := RepV (kx cl X)) out).imp fun u' H' ⟨G3, m3, v3, S3, g3, l3, r3, o3⟩ => ?_⟩
          cases v3 with
          | loc _ => exact o3.elim
          | xc _ _ => exact o3.elim
          | d w =>
            cases w with
            | bl k => cases r3; exact ⟨k, rfl, (Out.gives o3 l3).here (.bl _)⟩
            | _ => exact o3.elim
        | _ => exact out.elim
    · rw [if_neg hk] at out; exact out.elim
  | _ =>
    refine .inl ?_
    cases hk : cmpD o _ b with
    | none => dsimp only at out; rw [hk] at out; exact out.elim
    | some k =>
      dsimp only at out
      rw [hk] at out
      exact ⟨G2, _, b, k, l2.ext, q1, q2, hk, (Out.gives out l2).here (.bl k)⟩
theorem pc_own {o : COp} (C : Ck nm cl P cal n X W) (ha : PE X l (TX nm cl X W (ev P cal x))) (hb : PE X r (TX nm cl X W (ev P cal y))) :
    PC X (cop o) l r (fun σ H Q => TX nm cl X W (ev P cal x) σ H fun a H1 => TX nm cl X W (ev P cal y) σ H1 fun b H2 => rC (kx cl X) o a b H2 Q ∨ rOwnC nm cl P cal X W o σ a b H2 Q) :=
  pc_S ha hb fun pins s σ H x y v u Q I rx ry h => h.elim (op_rC (cl := cl) o C.room.units pins s σ H x y v u Q I rx ry) (op_ownC C I rx ry)
theorem e_cmp {o : COp} (C : Ck nm cl P cal n X W) (hm : behindInMarks (cop o) r = false) (ha : PE X l (TX nm cl X W (ev P cal x))) (hb : PE X r (TX nm cl X W (ev P cal y))) :
    PE X (.Compare l [cop o] [r] pos) (TX nm cl X W (ev P cal (.cmp o x y))) := PE.imp (pe_cmp (pc_own C ha hb) hm) fun _ _ _ h => cmp_read h
theorem t_cmp {o : COp} (C : Ck nm cl P cal n X W) (hm : behindInMarks (cop o) r = false) (ha : PE X l (TX nm cl X W (ev P cal x))) (hb : PE X r (TX nm cl X W (ev P cal y))) :
    PT X (.Compare l [cop o] [r] pos) (tB (TX nm cl X W (ev P cal (.cmp o x y)))) := PT.imp (pt_cmp (pc_own C ha hb) hm) fun _ _ _ h => cmp_read h
theorem chain_read {o o' : COp} {σ : L2.St} {H : Hp} {Q : VK} (h : TX nm cl X W (ev P cal (.chain o o' x y z)) σ H Q) :
    tChain (rC (kx cl X) o) (rC (kx cl X) o') (TX nm cl X W (ev P cal x)) (TX nm cl X W (ev P cal y)) (TX nm cl X W (ev P cal z)) σ H Q := by
  obtain ⟨F, G, m, r, S, rl, rv, out⟩ := h
  simp only [ev] at out
  refine tX.bind rl rv out fun u1 H1 G1 m1 v1 S1 g1 l1 rv1 r1 out => ?_
  refine tX.bind l1 rv1 out fun u2 H2 G2 m2 v2 S2 g2 l2 rv2 r2 out => ?_
  cases v1 with
  | d a =>
    cases v2 with
    | d b =>
      dsimp only at out
      cases hk : cmpD o a b with
      | none => rw [hk] at out; exact out.elim
      | some k =>
        rw [hk] at out
        cases k with
        | true =>
          refine ⟨G2, _, _, true, l2.ext, .inl (Rep.mono g2.1 r1), .inl r2, hk, true, rfl, iteT ?_⟩
          refine tX.bind l2 rv2 out fun u3 H3 G3 m3 v3 S3 g3 l3 rv3 r3 out => ?_
          cases v3 with
          | d c =>
            dsimp only at out
            cases hk2 : cmpD o' b c with
            | none => rw [hk2] at out; exact out.elim
            | some k =>
              rw [hk2] at out
              exact ⟨G3, _, _, k, l3.ext, .inl (Rep.mono g3.1 r2), .inl r3, hk2, (Out.gives out l3).here (.bl k)⟩
          | loc _ => exact out.elim
          | xc _ _ => exact out.elim
        | false => exact ⟨G2, _, _, false, l2.ext, .inl (Rep.mono g2.1 r1), .inl r2, hk, false, rfl, iteF ((Out.gives out l2).here (.bl false))⟩
    | loc _ => exact out.elim
    | xc _ _ => exact out.elim
  | loc _ => exact out.elim
  | xc _ _ => exact out.elim
theorem e_chain {o o' : COp} {r' : Expr} (C : Ck nm cl P cal n X W) (hm : behindInMarks (cop o') r' = false) (ha : PE X l (TX nm cl X W (ev P cal x))) (hb : PE X r (TX nm cl X W (ev P cal y))) (hc : PE X r' (TX nm cl X W (ev P cal z))) :
    PE X (.Compare l [cop o, cop o'] [r, r'] pos) (TX nm cl X W (ev P cal (.chain o o' x y z))) :=
  PE.imp (pe_chain (op_rC (cl := cl) o C.room.units) (op_rC (cl := cl) o' C.room.units) ha hb hc (by exact hm)) fun _ _ _ h => chain_read h
theorem t_chain {o o' : COp} {r' : Expr} (C : Ck nm cl P cal n X W) (hm : behindInMarks (cop o') r' = false) (ha : PE X l (TX nm cl X W (ev P cal x))) (hb : PE X r (TX nm cl X W (ev P cal y))) (hc : PE X r' (TX nm cl X W (ev P cal z))) :
    PT X (.Compare l [cop o, cop o'] [r, r'] pos) (tB (TX nm cl X W (ev P cal (.chain o o' x y z)))) :=
  PT.imp (pt_chain (op_rC (cl := cl) o C.room.units) (op_rC (cl := cl) o' C.room.units) ha hb hc (by exact hm)) fun _ _ _ h => chain_read h
theorem t_not (ha : PT X l (tB (TX nm cl X W (ev P cal x)))) : PT X (.UnaryOp .Not l pos) (tB (TX nm cl X W (ev P cal (.not x)))) := by
  refine PT.imp (pt_not ha) fun σ H Q ⟨F, G, m, r, S, rl, rv, out⟩ => ?_
  simp only [ev] at out
  refine tX.bind rl rv out fun u1 H1 G1 m1 v1 S1 g1 l1 rv1 r1 out => ?_
  split at out
  · cases r1
    obtain ⟨c, e, q⟩ := (Out.gives out l1).here (.bl _)
    cases e
    exact ⟨_, rfl, q⟩
  · exact out.elim
theorem e_not (ha : PE X l (TX nm cl X W (ev P cal x))) : PE X (.UnaryOp .Not l pos) (TX nm cl X W (ev P cal (.not x))) := by
  refine PE.imp (pe_not ha) fun σ H Q ⟨F, G, m, r, S, rl, rv, out⟩ => ?_
  simp only [ev] at out
  refine tX.bind rl rv out fun u1 H1 G1 m1 v1 S1 g1 l1 rv1 r1 out => ?_
  split at out
  · cases r1
    exact ⟨_, rfl, (Out.gives out l1).here (.bl _)⟩
  · exact out.elim
theorem e_and (ha : PE X l (TX nm cl X W (ev P cal x))) (hb : PE X (.BoolOp .And (r :: es) pos) (TX nm cl X W (ev P cal y))) : PE X (.BoolOp .And (l :: r :: es) pos) (TX nm cl X W (ev P cal (.and x y))) := by
  refine PE.imp (pe_and ha hb) fun σ H Q ⟨F, G, m, r, S, rl, rv, out⟩ => ?_
  simp only [ev] at out
  refine tX.bind rl rv out fun u1 H1 G1 m1 v1 S1 g1 l1 rv1 r1 out => ?_
  split at out
  · cases r1; exact ⟨true, rfl, iteT (⟨F, G1, m1, r, S1, l1, rv1, out⟩)⟩
  · cases r1; exact ⟨false, rfl, iteF ((Out.gives out l1).here (.bl false))⟩
  · exact out.elim
theorem e_or (ha : PE X l (TX nm cl X W (ev P cal x))) (hb : PE X (.BoolOp .Or (r :: es) pos) (TX nm cl X W (ev P cal y))) : PE X (.BoolOp .Or (l :: r :: es) pos) (TX nm cl X W (ev P cal (.or x y))) := by
  refine PE.imp (pe_or ha hb) fun σ H Q ⟨F, G, m, r, S, rl, rv, out⟩ => ?_
  simp only [ev] at out
  refine tX.bind rl rv out fun u1 H1 G1 m1 v1 S1 g1 l1 rv1 r1 out => ?_
  split at out
  · cases r1; exact ⟨true, rfl, iteT ((Out.gives out l1).here (.bl true))⟩
  · cases r1; exact ⟨false, rfl, iteF (⟨F, G1, m1, r, S1, l1, rv1, out⟩)⟩
  · exact out.elim
theorem w_and (ha : PT X l (tB (TX nm cl X W (ev P cal x)))) (hb : PW X (.BoolOp .And (r :: es) pos) (tB (TX nm cl X W (ev P cal y)))) : PW X (.BoolOp .And (l :: r :: es) pos) (tB (TX nm cl X W (ev P cal (.and x y)))) := by
  refine ⟨fun wh pins s σ H Q I ⟨F, G, m, r, S, rl, rv, out⟩ => (pw_and ha hb).run wh pins s σ H Q I ?_⟩
  simp only [ev] at out
  refine tX.bind rl rv out fun u1 H1 G1 m1 v1 S1 g1 l1 rv1 r1 out => ?_
  split at out
  · cases r1; exact ⟨true, rfl, iteT (⟨F, G1, m1, r, S1, l1, rv1, out⟩)⟩
  · cases r1
    obtain ⟨c, e, q⟩ := (Out.gives out l1).here (.bl false)
    cases e
    exact ⟨false, rfl, iteF (q)⟩
  · exact out.elim
theorem w_or (ha : PT X l (tB (TX nm cl X W (ev P cal x)))) (hb : PW X (.BoolOp .Or (r :: es) pos) (tB (TX nm cl X W (ev P cal y)))) : PW X (.BoolOp .Or (l :: r :: es) pos) (tB (TX nm cl X W (ev P cal (.or x y)))) := by
  refine ⟨fun wh pins s σ H Q I ⟨F, G, m, r, S, rl, rv, out⟩ => (pw_or ha hb).run wh pins s σ H Q I ?_⟩
  simp only [ev] at out
  refine tX.bind rl rv out fun u1 H1 G1 m1 v1 S1 g1 l1 rv1 r1 out => ?_
  split at out
  · cases r1
    obtain ⟨c, e, q⟩ := (Out.gives out l1).here (.bl true)
    cases e
    exact ⟨true, rfl, iteT (q)⟩
  · cases r1; exact ⟨false, rfl, iteF (⟨F, G1, m1, r, S1, l1, rv1, out⟩)⟩
  · exact out.elim
theorem e_ite {c : Expr} (hc : PT X c (tB (TX nm cl X W (ev P cal x)))) (ha : PE X l (TX nm cl X W (ev P cal y))) (hb : PE X r (TX nm cl X W (ev P cal z))) : PE X (.IfExp c l r pos) (TX nm cl X W (ev P cal (.ite x y z))) := by
  refine PE.imp (pe_ifExp hc ha hb) fun σ H Q ⟨F, G, m, r, S, rl, rv, out⟩ => ?_
  simp only [ev] at out
  refine tX.bind rl rv out fun u1 H1 G1 m1 v1 S1 g1 l1 rv1 r1 out => ?_
  split at out
  · cases r1; exact ⟨true, rfl, iteT (⟨F, G1, m1, r, S1, l1, rv1, out⟩)⟩
  · cases r1; exact ⟨false, rfl, iteF (⟨F, G1, m1, r, S1, l1, rv1, out⟩)⟩
  · exact out.elim
/-! ### arguments, displays, calls -/
theorem star_e {sc : Scope} {N : List Str} {env : Env} (h : isE nm N sc x e = true) : starEach (e :: es) env = (false, eval e env) :: starEach es env := by
  cases e with
  | Starred _ _ => cases x <;> cases h
  | _ => rfl
theorem base_e {env : Env} {s : Str} {t : Sem Value} (h : noC0 e = true) : attributeBase e s env t = t := by
  cases e with
  | Call f as ks p =>
    cases as with
    | nil => cases h
    | cons _ _ => cases f <;> rfl
  | _ => rfl
theorem any_star {sc : Scope} {N : List Str} {env : Env} {pos : Pos} : ∀ {x : Ex} {es : List Expr}, isA nm N sc x es = true → (backTo pos (starEach es env)).any (fun x => x.1) = false ∧ (backTo pos (starEach es env)).all (fun x => !x.1) = true
  | .nil, [], h => ⟨rfl, rfl⟩
  | .nil, _ :: _, h => by cases h
  | .cons x xs, [], h => by cases h
  | .cons x xs, e :: es, h => by
    have g := Bool.and_eq_true_iff.mp h
    obtain ⟨i1, i2⟩ := any_star (env := env) (pos := pos) g.2
    rw [star_e g.1]
    exact ⟨by show (false || (backTo pos (starEach es env)).any (fun x => x.1)) = false; rw [i1]; rfl, by show (!false && (backTo pos (starEach es env)).all (fun x => !x.1)) = true; rw [i2]; rfl⟩
  | .var _, _, h => by cases h
theorem a_nil : PA X [] (TXs nm cl X W (evs P cal .nil)) := PA.imp pa_nil fun σ H Q ⟨F, G, m, r, S, rl, rv, out⟩ => by
  simp only [evs] at out
  exact out G m H [] .refl rl .nil
theorem a_cons {xs : Ex} {sc : Scope} {N : List Str} (hs : isE nm N sc x e = true) (ha : PE X e (TX nm cl X W (ev P cal x))) (hb : PA X es (TXs nm cl X W (evs P cal xs))) : PA X (e :: es) (TXs nm cl X W (evs P cal (.cons x xs))) := by
  refine PA.imp (pa_cons ha hb (star_e hs)) fun σ H Q ⟨F, G, m, r, S, rl, rv, out⟩ => ?_
  simp only [evs] at out
  refine tX.bind rl rv out fun u1 H1 G1 m1 v1 S1 g1 l1 rv1 r1 out => ?_
  refine tX.bind l1 rv1 out fun u2 H2 G2 m2 v2 S2 g2 l2 rv2 r2 out => ?_
  exact out G2 m2 H2 _ .refl l2 (.cons (r1.mono g2) r2)
theorem RVs.length {K : Fg} {G : Hp} {m : List Addr} {vs : List Vl} {us : List V} (r : RVs K G m vs us) : vs.length = us.length := Paired.length r
theorem e_tup {k : Nat} (ha : PA X es (TXs nm cl X W (evs P cal x))) : PE X (.Tuple es k pos) (TX nm cl X W (ev P cal (.tup x))) := by
  refine PE.imp (pe_tup ha) fun σ H Q ⟨F, G, m, r, S, rl, rv, out⟩ => ?_
  simp only [ev] at out
  refine tX.bind rl rv out fun u1 H1 G1 m1 v1 S1 g1 l1 rv1 r1 out => ?_
  split at out
  · rename_i xs hx
    split at out
    · rename_i hz
      exact ⟨by rw [← r1.length]; exact small_line hz, fun p hp => (Out.gives out l1).newT l1.ext (dsOf_reps r1 hx) hp⟩
    · exact out.elim
  · exact out.elim
theorem e_lst (ha : PA X es (TXs nm cl X W (evs P cal x))) : PE X (.List es pos) (TX nm cl X W (ev P cal (.lst x))) := by
  refine PE.imp (pe_lst ha) fun σ H Q ⟨F, G, m, r, S, rl, rv, out⟩ => ?_
  simp only [ev] at out
  refine tX.bind rl rv out fun u1 H1 G1 m1 v1 S1 g1 l1 rv1 r1 out => ?_
  split at out
  · rename_i xs hx
    split at out
    · rename_i hz
      exact ⟨by rw [← r1.length]; exact small_line hz, fun p hp => (Out.gives out l1).newL l1.ext (dsOf_reps r1 hx) hp⟩
    · exact out.elim
  · exact out.elim
theorem star_args {sc : Scope} {N : List Str} {x : Ex} {pos : Pos} (hs : isA nm N sc x (e :: es) = true) : starEach (e :: es) X.env = (false, eval e X.env) :: starEach es X.env ∧ (backTo pos (starEach es X.env)).any (fun x => x.1) = false := by
  cases x with
  | cons x xs => exact ⟨star_e (Bool.and_eq_true_iff.mp hs).1, (any_star (Bool.and_eq_true_iff.mp hs).2).1⟩
  | _ => cases hs
theorem e_call {f : Nat} {s : Str} {p : Pos} {sc : Scope} {N : List Str} (C : Ck nm cl P cal n X W) (hf : nm.fns[f]? = some s) (h1 : glB X.env.scope s = true) (ho : okN s = true) (hs : isA nm N sc x (e :: es) = true)
    (ha : PA X (e :: es) (TXs nm cl X W (evs P cal x))) : PE X (.Call (.Name s p) (e :: es) [] pos) (TX nm cl X W (ev P cal (.call f x))) := by
  obtain ⟨q1, q2, q3⟩ := C.md.gf f s hf
  obtain ⟨sp, g1, g2⟩ := C.go (f := f)
  obtain ⟨s1, s2⟩ := star_args (X := X) (pos := pos) hs
  refine PE.imp (pe_fn (g1 q1) (C.room.mono (by omega)) (glB_d h1) q2 q3 (fun σ => passAt C.tk σ) ha (okN_d ho).1 s1 s2) fun σ H Q ⟨F, G, m, r, S, rl, rv, out⟩ => ?_
  simp only [ev] at out
  refine tX.bind rl rv out fun u1 H1 G1 m1 v1 S1 g1 l1 rv1 r1 out => ?_
  exact (g2 σ F G1 m1 v1 u1 S1 H1 Q l1 r1 out).2
theorem e_call0 {f : Nat} {s : Str} {p : Pos} (C : Ck nm cl P cal n X W) (hf : nm.fns[f]? = some s) (h1 : glB X.env.scope s = true) (ho : okN s = true) : PE X (.Call (.Name s p) [] [] pos) (TX nm cl X W (ev P cal (.call0 f))) := by
  obtain ⟨q1, q2, q3⟩ := C.md.gf f s hf
  obtain ⟨sp, g1, g2⟩ := C.go (f := f)
  refine PE.imp (pe_fn0 (g1 q1) (C.room.mono (by omega)) (glB_d h1) q2 q3 (fun σ => passAt C.tk σ) (okN_d ho).1) fun σ H Q ⟨F, G, m, r, S, rl, rv, out⟩ => ?_
  simp only [ev] at out
  exact (g2 σ F G m [] [] S H Q rl .nil out).2
end
end Iv
end
section
set_option autoImplicit false
set_option maxRecDepth 100000
set_option maxHeartbeats 4000000
namespace Iv
open PySem L2
section
variable {nm : Nm} {cl : Nat → Addr} {P : Prg} {cal : Cal} {n : Nat} {X : Cx} {W : WX} {e l r : Expr} {es : List Expr} {pos : Pos} {x y z : Ex}
theorem e_bi {b : Bi} {p : Pos} {sc : Scope} {N : List Str} (C : Ck nm cl P cal n X W) (h1 : glB X.env.scope (biName b) = true) (hs : isA nm N sc x (e :: es) = true)
    (ha : PA X (e :: es) (TXs nm cl X W (evs P cal x))) : PE X (.Call (.Name (biName b) p) (e :: es) [] pos) (TX nm cl X W (ev P cal (.bi b x))) := by
  have s1 : starEach (e :: es) X.env = (false, eval e X.env) :: starEach es X.env := by
    cases x with
    | cons x xs => exact star_e (Bool.and_eq_true_iff.mp hs).1
    | _ => cases hs
  have s2 : (backTo pos (starEach es X.env)).any (fun x => x.1) = false := by
    cases x with
    | cons x xs => exact (any_star (Bool.and_eq_true_iff.mp hs).2).1
    | _ => cases hs
  have key : PE X (.Call (.Name (biName b) p) (e :: es) [] pos) (tCB (rBi (kx cl X) b) (TXs nm cl X W (evs P cal x))) := by
    have hc := cr_bi (cl := cl) (X := X) C.calm b
    have hm := C.md.bt b
    cases b
    · exact pe_callB hc (glB_d h1) hm (by decide +kernel) ha (by decide +kernel) (by decide +kernel) s1 s2
    · exact pe_callTy hc (glB_d h1) hm (by decide +kernel) ha (by decide +kernel) (by decide +kernel) s1 s2
    · exact pe_callTy hc (glB_d h1) hm (by decide +kernel) ha (by decide +kernel) (by decide +kernel) s1 s2
    · exact pe_callB hc (glB_d h1) hm (by decide +kernel) ha (by decide +kernel) (by decide +kernel) s1 s2
    · exact pe_callB hc (glB_d h1) hm (by decide +kernel) ha (by decide +kernel) (by decide +kernel) s1 s2
    · exact pe_callB hc (glB_d h1) hm (by decide +kernel) ha (by decide +kernel) (by decide +kernel) s1 s2
    · exact pe_callB hc (glB_d h1) hm (by decide +kernel) ha (by decide +kernel) (by decide +kernel) s1 s2
    · exact pe_callB hc (glB_d h1) hm (by decide +kernel) ha (by decide +kernel) (by decide +kernel) s1 s2
    · exact pe_callTy hc (glB_d h1) hm (by decide +kernel) ha (by decide +kernel) (by decide +kernel) s1 s2
    · exact pe_callTy hc (glB_d h1) hm (by decide +kernel) ha (by decide +kernel) (by decide +kernel) s1 s2
    · exact pe_callB hc (glB_d h1) hm (by decide +kernel) ha (by decide +kernel) (by decide +kernel) s1 s2
    · exact pe_callB hc (glB_d h1) hm (by decide +kernel) ha (by decide +kernel) (by decide +kernel) s1 s2
    · exact pe_callB hc (glB_d h1) hm (by decide +kernel) ha (by decide +kernel) (by decide +kernel) s1 s2
    · exact pe_callB hc (glB_d h1) hm (by decide +kernel) ha (by decide +kernel) (by decide +kernel) s1 s2
    · exact pe_callTy hc (glB_d h1) hm (by decide +kernel) ha (by decide +kernel) (by decide +kernel) s1 s2
  refine PE.imp key fun σ H Q ⟨F, G, m, r, S, rl, rv, out⟩ => ?_
  simp only [ev] at out
  refine tX.bind rl rv out fun u1 H1 G1 m1 v1 S1 g1 l1 rv1 r1 out => ?_
  split at out
  · rename_i xs hx
    obtain ⟨d, hd, g⟩ := Out.optD out l1
    exact ⟨G1, xs, d, l1.ext, rdVs_rd l1 r1 hx, hd, g⟩
  · exact out.elim
theorem e_isi {t : Ty} {p p2 : Pos} {sc : Scope} {N : List Str} (C : Ck nm cl P cal n X W) (h1 : glB X.env.scope ("isinstance" : Str) = true) (h2 : glB X.env.scope (Str.ofString (tyN t)) = true) (hb : X.mg (Str.ofString (tyN t)) = none) (hs : isE nm N sc x e = true)
    (ha : PE X e (TX nm cl X W (ev P cal x))) : PE X (.Call (.Name ("isinstance" : Str) p) [e, .Name (Str.ofString (tyN t)) p2] [] pos) (TX nm cl X W (ev P cal (.isi x t))) := by
  have ht : PE X (.Name (Str.ofString (tyN t)) p2) (tC (.ty (tyN t))) := by
    refine pe_bltn (u := .type (tyN t)) (glB_d h2) hb ?_ rfl ?_ ?_ <;> cases t <;> decide +kernel
  refine PE.imp (pe_callB (call_isi (X := X)) (glB_d h1) (C.md.bo _ (by decide)) (by decide +kernel) (pa_cons ha (pa_cons ht pa_nil) (star_e hs)) (by decide +kernel) (by decide +kernel) (star_e hs) rfl) fun σ H Q ⟨F, G, m, r, S, rl, rv, out⟩ => ?_
  simp only [ev] at out
  refine tX.bind rl rv out fun u1 H1 G1 m1 v1 S1 g1 l1 rv1 r1 out => ?_
  cases v1 with
  | d a =>
    obtain ⟨d, hd, g⟩ := Out.optD out l1
    have h3 : bareD a = true ∧ d = .bl (isTy t a) := by
      cases a <;> first | (cases hd; done) | (cases hd; exact ⟨rfl, rfl⟩)
    obtain ⟨h3, rfl⟩ := h3
    exact ⟨_, _, _, _, _, rfl, .ty _, tyX_D (Rep.mono l1.ext r1) h3, kit_ty (kit_D t a h3), g.here (.bl _)⟩
  | loc _ => exact out.elim
  | xc _ _ => exact out.elim
theorem e_meth {m : Mt} {ap : Pos} {sc sc' : Scope} {N N' : List Str} (h0 : noC0 l = true) (hl : (ap.endLine == pos.line) = true) (hz : es.length < 20) (hs : isA nm N' sc' y (e :: es) = true)
    (ha : PE X l (TX nm cl X W (ev P cal x))) (hb : PA X (e :: es) (TXs nm cl X W (evs P cal y))) : PE X (.Call (.Attribute l (mtName m) ap) (e :: es) [] pos) (TX nm cl X W (ev P cal (.meth m x y))) := by
  have s1 : starEach (e :: es) X.env = (false, eval e X.env) :: starEach es X.env := by
    cases y with
    | cons x xs => exact star_e (Bool.and_eq_true_iff.mp hs).1
    | _ => cases hs
  have s2 : (backTo pos (starEach es X.env)).any (fun x => x.1) = false := by
    cases y with
    | cons x xs => exact (any_star (Bool.and_eq_true_iff.mp hs).2).1
    | _ => cases hs
  have s3 : (((backTo pos (starEach (e :: es) X.env)).all fun x => !x.1) && ((backToKw pos (keywordEach [] X.env)).all fun x => x.1.isSome) && decide ((e :: es).length + ([] : List Keyword).length + (if ([] : List Keyword).isEmpty then 0 else 1) < 30)) = true := by
    rw [(any_star hs).2]
    have : decide ((e :: es).length + ([] : List Keyword).length + (if ([] : List Keyword).isEmpty then 0 else 1) < 30) = true := decide_eq_true (by simp; omega)
    rw [this]; rfl
  have key : PE X (.Call (.Attribute l (mtName m) ap) (e :: es) [] pos) (tBM (kx cl X) "str" (rMt (kx cl X) m) (TX nm cl X W (ev P cal x)) (TXs nm cl X W (evs P cal y))) := by
    have hr := mr_mt (cl := cl) (X := X) m
    cases m
    · exact pe_bm PySem.F.plainAttrs_str PySem.F.slot_str_split PySem.F.type_str_split hr ha hb (base_e h0) s3 hl s1 s2
    · exact pe_bm PySem.F.plainAttrs_str PySem.F.slot_str_join PySem.F.type_str_join hr ha hb (base_e h0) s3 hl s1 s2
    · exact pe_bm PySem.F.plainAttrs_str PySem.F.slot_str_startswith PySem.F.type_str_startswith hr ha hb (base_e h0) s3 hl s1 s2
    · exact pe_bm PySem.F.plainAttrs_str PySem.F.slot_str_lstrip PySem.F.type_str_lstrip hr ha hb (base_e h0) s3 hl s1 s2
    · exact pe_bm PySem.F.plainAttrs_str PySem.F.slot_str_rstrip PySem.F.type_str_rstrip hr ha hb (base_e h0) s3 hl s1 s2
  refine PE.imp key fun σ H Q ⟨F, G, m', r, S, rl, rv, out⟩ => ?_
  simp only [ev] at out
  refine tX.bind rl rv out fun u1 H1 G1 m1 v1 S1 g1 l1 rv1 r1 out => ?_
  split at out
  · cases r1 with
    | str s os =>
      refine ⟨rfl, tX.bind l1 rv1 out fun u2 H2 G2 m2 v2 S2 g2 l2 rv2 r2 out => ?_⟩
      split at out
      · rename_i xs hx
        obtain ⟨d, hd, g⟩ := Out.optD out l2
        exact ⟨G2, _, xs, d, l2.ext, .str _ os, rdVs_rd l2 r2 hx, hd, g⟩
      · exact out.elim
  · exact out.elim
theorem e_ix (hp : PlainIx r) (ha : PE X l (TX nm cl X W (ev P cal x))) (hb : PE X r (TX nm cl X W (ev P cal y))) : PE X (.Subscript l r pos) (TX nm cl X W (ev P cal (.ix x y))) := by
  refine PE.imp (pe_ix (ix_D (cl := cl)) ha hb hp) fun σ H Q ⟨F, G, m, r, S, rl, rv, out⟩ => ?_
  simp only [ev] at out
  refine tX.bind rl rv out fun u1 H1 G1 m1 v1 S1 g1 l1 rv1 r1 out => ?_
  refine tX.bind l1 rv1 out fun u2 H2 G2 m2 v2 S2 g2 l2 rv2 r2 out => ?_
  split at out
  · rename_i a b ea
    obtain ⟨d, hd, g⟩ := Out.optD out l2
    exact ⟨G2, _, _, d, l2.ext, rdV_rd l2 (r1.mono g2) ea, r2, hd, fun v rv => g.here rv⟩
  · exact out.elim
theorem plainIx_e {sc : Scope} {N : List Str} (h : isE nm N sc x e = true) : PlainIx e := by
  cases e with
  | Slice _ _ _ _ => cases x <;> cases h
  | _ => exact fun _ _ => rfl
theorem o_none : PO X none (tX nm.excs X.mg (kx cl X) W (fun _ _ (a : Option Int) (b : Option Int) => a = b) (evo P cal .no)) := PO.imp po_none fun σ H Q ⟨F, G, m, r, S, rl, rv, out⟩ => by
  simp only [evo] at out
  exact out G m H none .refl rl rfl
theorem o_some (ha : PE X e (TX nm cl X W (ev P cal x))) : PO X (some e) (tX nm.excs X.mg (kx cl X) W (fun _ _ (a : Option Int) (b : Option Int) => a = b) (evo P cal (.one x))) := by
  refine PO.imp (po_some ha) fun σ H Q ⟨F, G, m, r, S, rl, rv, out⟩ => ?_
  simp only [evo] at out
  refine tX.bind rl rv out fun u1 H1 G1 m1 v1 S1 g1 l1 rv1 r1 out => ?_
  split at out
  · cases r1; exact ⟨_, rfl, out G1 m1 H1 _ .refl l1 rfl⟩
  · exact out.elim
theorem e_sl {lo hi : Option Expr} {p2 : Pos} (ha : PE X l (TX nm cl X W (ev P cal x))) (hb : PO X lo (tX nm.excs X.mg (kx cl X) W (fun _ _ (a : Option Int) (b : Option Int) => a = b) (evo P cal y))) (hc : PO X hi (tX nm.excs X.mg (kx cl X) W (fun _ _ (a : Option Int) (b : Option Int) => a = b) (evo P cal z))) :
    PE X (.Subscript l (.Slice lo hi none p2) pos) (TX nm cl X W (ev P cal (.sl x y z))) := by
  refine PE.imp (pe_slice (sl_D (cl := cl)) ha hb hc) fun σ H Q ⟨F, G, m, r, S, rl, rv, out⟩ => ?_
  simp only [ev] at out
  refine tX.bind rl rv out fun u1 H1 G1 m1 v1 S1 g1 l1 rv1 r1 out => ?_
  refine tX.bind l1 rv1 out fun u2 H2 G2 m2 v2 S2 g2 l2 rv2 r2 out => ?_
  refine tX.bind l2 rv2 out fun u3 H3 G3 m3 v3 S3 g3 l3 rv3 r3 out => ?_
  cases r2; cases r3
  cases ea : rdV v1 S3 with
  | none => rw [ea] at out; exact out.elim
  | some a =>
    rw [ea] at out
    obtain ⟨d, hd, g⟩ := Out.optD out l3
    exact ⟨G3, _, d, l3.ext, rdV_rd l3 (r1.mono (g2.trans g3)) ea, hd, g⟩
/-! ### f-strings -/
theorem e_fmt (he : PE X e (TX nm cl X W (ev P cal x))) : PE X (.FormattedValue e (-1) none pos) (TX nm cl X W (ev P cal (.fmt x))) := by
  refine PE.imp (pe_fmt he) fun σ H Q ⟨F, G, m, r, S, rl, rv, out⟩ => ?_
  simp only [ev] at out
  refine tX.bind rl rv out fun u1 H1 G1 m1 v1 S1 g1 l1 rv1 r1 out => ?_
  split at out
  · rename_i s
    split at out
    · rename_i hz
      cases r1 with
      | str _ os => exact .inl ⟨S' s, rfl, by rw [S'_length]; exact small_line hz, out G1 m1 H1 _ .refl l1 (.str s os)⟩
    · exact out.elim
  · rename_i i
    split at out
    · rename_i hz
      cases r1
      exact .inr ⟨i, rfl, Nat.lt_of_lt_of_le (log2_of hz (by decide)) (by decide), by rw [toString_decI]; exact out G1 m1 H1 _ .refl l1 (.str _ (okc_decI i))⟩
    · exact out.elim
  · exact out.elim
theorem two_digits : ∀ k : Fin 100, (if decide ((k.val : Int) < 10) = true then (⟨#[48]⟩ : PySem.Str) ++ Str.ofString (toString (k.val : Int)) else Str.ofString (toString (k.val : Int))) = S' [48 + ((k.val : Int) / 10).toNat, 48 + ((k.val : Int) % 10).toNat] := by decide +kernel
theorem pe_fmt02 {te : TE} {j : Nat} {p1 p2 : Pos} (dg : PySem.W.nsOkIn X.K cStatics = true ∧ PySem.W.nsIn X.K cStatics "sys.int_max_str_digits" = some none) (he : PE X e te) :
    PE X (.FormattedValue e (-1) (some (.JoinedStr [.Constant (.str (S' [48, 50])) j p1] p2)) pos) (fun σ H Q => te σ H fun y H1 => ∃ i : Int, y = .int i ∧ 0 ≤ i ∧ i < 100 ∧ Q (.str (S' [48 + (i / 10).toNat, 48 + (i % 10).toNat])) H1) := by
  refine ⟨fun pins s σ H Q I h => ?_⟩
  refine PySem.wpAny_FormattedValue_spec (thn (he.run pins s σ H _ I h) fun v s1 ⟨y, H1, I1, r1, i, ey, h0, h1, q⟩ => ?_)
  subst ey
  obtain ⟨t, rfl⟩ := r1
  refine PySem.wpAny_JoinedStr_one (Calls.Constant_str ⟨S' [48, 50], _, rfl, ?_⟩)
  have hd : ({ s1 with toks := s1.toks + 1 } : Shared).heap.NoDigits := ⟨_, .of_isNs (PySem.W.isNs_of_in I1.kIn dg.1), PySem.W.nsMap_none_of_in I1.kIn dg.1 dg.2⟩
  refine PyProof.Rows.formatField_int_specOf hd (PyProof.Rows.lt_digitLimit_of_lt (by omega)) (by kernel_rfl) (fun w2 hw f => ?_) (by show 2 ≤ sizeLine; decide)
  have hw2 : w2 = 2 := by rw [hw]; kernel_rfl
  have key := f.pad2 (by kernel_rfl) hw2 h0 h1
  have k2 := two_digits ⟨i.toNat, by omega⟩
  have ei : ((i.toNat : Nat) : Int) = i := by omega
  simp only [ei] at k2
  rw [key, k2]
  exact ⟨.str _, H1, I1.tok _, ⟨_, rfl⟩, q⟩
theorem e_fmt02 {j : Nat} {p1 p2 : Pos} (C : Ck nm cl P cal n X W) (he : PE X e (TX nm cl X W (ev P cal x))) :
    PE X (.FormattedValue e (-1) (some (.JoinedStr [.Constant (.str (S' [48, 50])) j p1] p2)) pos) (TX nm cl X W (ev P cal (.fmt02 x))) := by
  refine PE.imp (pe_fmt02 C.md.dg he) fun σ H Q ⟨F, G, m, r, S, rl, rv, out⟩ => ?_
  simp only [ev] at out
  refine tX.bind rl rv out fun u1 H1 G1 m1 v1 S1 g1 l1 rv1 r1 out => ?_
  split at out
  · rename_i i
    split at out
    · rename_i hz
      cases r1
      refine ⟨i, rfl, hz.1, hz.2, out G1 m1 H1 _ .refl l1 (.str _ fun c hc => ?_)⟩
      simp only [List.mem_cons, List.not_mem_nil, or_false] at hc
      have := hz.1
      have := hz.2
      omega
    · exact out.elim
  · exact out.elim
/-- the parts -/
abbrev TJ (nm : Nm) (cl : Nat → Addr) (X : Cx) (W : WX) (f : Ev → Hs → R Cs) : L2.St → Hp → (PySem.Str → Hp → Prop) → Prop := tX nm.excs X.mg (kx cl X) W (fun _ _ (a : Cs) (b : PySem.Str) => b = S' a ∧ Okc a) f
def SJ' (nm : Nm) (cl : Nat → Addr) (P : Prg) (cal : Cal) (X : Cx) (W : WX) (x : Ex) (es : List Expr) : Prop := ∃ ts, PJ X es ts ∧ ∀ acc, Okc acc → ∀ σ H Q, TJ nm cl X W (evj P cal x acc) σ H Q → tJs ts (S' acc) σ H Q
theorem j_nil : SJ' nm cl P cal X W .nil [] := ⟨[], .nil, fun acc o σ H Q ⟨F, G, m, r, S, rl, rv, out⟩ => by
  simp only [evj] at out
  exact out G m H (S' acc) .refl rl ⟨rfl, o⟩⟩
theorem j_cons {xs : Ex} (he : PE X e (TX nm cl X W (ev P cal x))) (hs : SJ' nm cl P cal X W xs es) : SJ' nm cl P cal X W (.cons x xs) (e :: es) := by
  obtain ⟨ts, pj, k⟩ := hs
  refine ⟨_ :: ts, .cons he pj, fun acc o σ H Q ⟨F, G, m, r, S, rl, rv, out⟩ => ?_⟩
  simp only [evj] at out
  refine tX.bind rl rv out fun u1 H1 G1 m1 v1 S1 g1 l1 rv1 r1 out => ?_
  split at out
  · rename_i s
    split at out
    · rename_i hz
      cases r1 with
      | str _ os =>
        refine ⟨S' s, rfl, by rw [S'_append, S'_length]; exact small_line hz, ?_⟩
        rw [S'_append]
        exact k (acc ++ s) (fun c hc => (List.mem_append.mp hc).elim (o c) (os c)) σ H1 Q ⟨F, G1, m1, r, S1, l1, rv1, out⟩
    · exact out.elim
  · exact out.elim
theorem S'_nil : S' [] = Str.empty := rfl
theorem e_fjoin {v1 v2 : Expr} {vs : List Expr} (hj : SJ' nm cl P cal X W x (v1 :: v2 :: vs)) : PE X (.JoinedStr (v1 :: v2 :: vs) pos) (TX nm cl X W (ev P cal (.fjoin x))) := by
  obtain ⟨ts, pj, k⟩ := hj
  refine PE.imp (pe_joined pj) fun σ H Q ⟨F, G, m, r, S, rl, rv, out⟩ => ?_
  simp only [ev] at out
  rw [← S'_nil]
  refine k [] (fun c hc => by simp at hc) σ H _ (tX.bind rl rv out fun u1 H1 G1 m1 v1 S1 g1 l1 rv1 r1 out => ?_)
  obtain ⟨rfl, o⟩ := r1
  exact out G1 m1 H1 _ .refl l1 (.str _ o)
end
end Iv
end
section
set_option autoImplicit false
set_option maxRecDepth 100000
set_option maxHeartbeats 4000000
namespace Iv
open PySem PySem.Spec PyProof.Rows L2
/-! ### zip(text, list) -/
def ItzS (K : PySem.W.Frag) (x : Str) (b : Addr) : It :=
  ⟨fun i H => i < x.cps.size ∧ ∃ (ys : List V) (y : V), SqL K H b ys ∧ ys[i]? = some y,
    fun i H v H' => ∃ T c y, v = .ref T ∧ H T = none ∧ H' = upd H T (.tup [.str ⟨#[c]⟩, y]) ∧ x.cps[i]? = some c ∧ ∀ ys, SqL K H b ys → ys[i]? = some y,
    fun i H => ∃ ys : List V, SqL K H b ys ∧ i ≤ x.cps.size ∧ i ≤ ys.length ∧ (i = x.cps.size ∨ i = ys.length)⟩
structure ApS (z TI TO i1 i2 b : Addr) : Prop where
  TIz : TI ≠ z
  TOz : TO ≠ z
  TITO : TI ≠ TO
  TIi1 : TI ≠ i1
  TIi2 : TI ≠ i2
  zi1 : z ≠ i1
  zi2 : z ≠ i2
  Oi1 : TO ≠ i1
  Oi2 : TO ≠ i2
  zb : z ≠ b
  Ob : TO ≠ b
  ib : i1 ≠ b
  i2b : i2 ≠ b
  i12 : i1 ≠ i2
theorem ApS.sep {z TI TO i1 i2 b : Addr} (D : ApS z TI TO i1 i2 b) : ZipSep2 z TI TO i1 i2 [i1] [i2, b] where
  TIz := D.TIz
  TOz := D.TOz
  TITO := D.TITO
  TIi1 := D.TIi1
  mem1 := by simp
  zf1 := by simp [D.zi1]
  Tf1 := by simp [D.Oi1]
  TIi2 := D.TIi2
  mem2 := by simp
  zf2 := by simp [D.zi2, D.zb]
  Tf2 := by simp [D.Oi2, D.Ob]
  sep1_2 := by simp [D.i12, D.ib]
  sep2_1 := by simp [Ne.symm D.i12]
theorem turn_zipS {P : Program} {w : World} {K : PySem.W.Frag} {elts : List Expr} {kk : Nat} {tpos : Pos} {b z TI TO i1 i2 : Addr} {x : Str} {t : Tok} (D : ApS z TI TO i1 i2 b) :
    Turn P w K (.Tuple elts kk tpos) (ItzS K x b) [z, TI, TO, i1, i2] z (fun i h => IsZip h z TI TO .none ∧ IsTupOf2 h TI (.ref i1) (.ref i2) ∧ (∃ p q, IsTupOf2 h TO p q) ∧ h.IsStrIter i1 (strIterType x) x t i ∧ h.IsListIter i2 b i) where
  mem := by simp
  obj := fun i h st c hc => by
    obtain ⟨hz, hTI, ⟨p, q, hTO⟩, ⟨o1, e1, _, d1⟩, ⟨o2, e2, _, d2⟩⟩ := st
    simp only [List.mem_cons, List.not_mem_nil, or_false] at hc
    rcases hc with rfl | rfl | rfl | rfl | rfl
    · exact ⟨_, hz, fun v q => nomatch q⟩
    · exact ⟨_, hTI, fun v q => nomatch q⟩
    · exact ⟨_, hTO, fun v q => nomatch q⟩
    · exact ⟨o1, e1, fun v q => by rw [d1] at q; cases q⟩
    · exact ⟨o2, e2, fun v q => by rw [d2] at q; cases q⟩
  keep := fun i h h' st k => by
    obtain ⟨hz, hTI, ⟨p, q, hTO⟩, ⟨o1, e1, r1⟩, h2⟩ := st
    exact ⟨k z (by simp) _ hz, k TI (by simp) _ hTI, ⟨p, q, k TO (by simp) _ hTO⟩, ⟨o1, k i1 (by simp) _ e1, r1⟩, h2.at fun o q => k i2 (by simp) o q⟩
  item := by
    intro X hP hw hK hc i pins s σ H E I hf st hg
    subst hP hw hK
    obtain ⟨hz, hTI, ⟨p0, q0, hTO⟩, h1, h2⟩ := st
    obtain ⟨hlt, ys, y, hqy, hy⟩ := hg
    obtain ⟨its, rv, p2, _⟩ := I.list hqy
    obtain ⟨u2, hu2, ru2⟩ := rv.get hy
    have hh : X.A.in1.handled = none := I.ok.hd hc
    have hlt2 : i < its.toArray.size := by
      have := (List.getElem?_eq_some_iff.mp hu2).1
      simpa using this
    have hzl : z < s.heap.objs.size := Heap.lt_size hz
    refine wpAny_pyNext_zipD2_item D.sep (Draws.text hh i1 x t) (Draws.list hh i2 b (Ne.symm D.i2b) its.toArray) hz hTI hTO h1 ⟨h2, p2.isList⟩ hlt hlt2 fun x1 x2 h' tk y1 y2 z' TO' s1' s2' hT hsz hk => ?_
    obtain ⟨c, uc, hc1, rfl⟩ := y1
    have e2 : x2 = u2 := by
      have : its[i]? = some x2 := by simpa using y2
      rw [hu2] at this
      exact (Option.some.inj this).symm
    subst e2
    refine ⟨_, rfl, wpAny_letOwnedTupleGo_zip (s := { s with heap := h', toks := tk }) z' fun h'' z'' sb => ?_⟩
    have up : ∀ {a : Addr} {o : Obj}, a ≠ z → h'.get? a = some o → h''.get? a = some o := fun {a o} na e => (sb.2 a na).trans e
    have hT2 : h''.get? s.heap.objs.size = some { cls := .type "tuple", data := .seq #[.str ⟨#[c]⟩ uc, x2] } := up (Nat.ne_of_gt hzl) hT
    have new : ObjOk X.prog X.w (upd H s.heap.objs.size (.tup [.str ⟨#[c]⟩, y])) h'' s.heap.objs.size (.tup [.str ⟨#[c]⟩, y]) :=
      ⟨by show 2 ≤ sizeLine; decide, [.str ⟨#[c]⟩ uc, x2], .cons ⟨uc, rfl⟩ (.cons ru2 .nil), ⟨_, hT2, rfl, _, rfl⟩⟩
    have I1 : Inv X pins σ (upd H s.heap.objs.size (.tup [.str ⟨#[c]⟩, y])) { s with heap := h'', toks := tk } :=
      I.turnedNew (t' := tk) (ch := [z, TI, TO, i1, i2]) (fun a o hb q => up (fun q' => hb (by simp [q'])) (hk a o (fun q' => hb (by simp [q'])) (fun q' => hb (by simp [q'])) (fun q' => hb (by simp [q'])) (fun q' => hb (by simp [q'])) q)) hf (Nat.le_refl _) new
    refine ⟨.ref s.heap.objs.size, _, I1, rfl, ⟨_, c, y, rfl, I.hok.fresh (Nat.le_refl _), rfl, hc1, fun l hl => by rw [I.list_inj hl hqy]; exact hy⟩, ⟨z'', ?_, ⟨.str ⟨#[c]⟩ uc, x2, ?_⟩, ?_, ?_⟩, fun a ha => ?_⟩
    · exact up D.TIz (hk _ _ D.TIz D.TITO D.TIi1 D.TIi2 hTI)
    · exact up D.TOz TO'
    · obtain ⟨o1, e1, r1⟩ := s1'
      exact ⟨o1, up (Ne.symm D.zi1) e1, r1⟩
    · exact s2'.1.at fun o q => up (Ne.symm D.zi2) q
    · have hlt3 : a < s.heap.objs.size := by
        simp only [List.mem_cons, List.not_mem_nil, or_false] at ha
        rcases ha with rfl | rfl | rfl | rfl | rfl
        · exact hzl
        · exact Heap.lt_size hTI
        · exact Heap.lt_size hTO
        · obtain ⟨_, e1, _⟩ := h1; exact Heap.lt_size e1
        · obtain ⟨_, e2, _⟩ := h2; exact Heap.lt_size e2
      rw [upd_ne (Nat.ne_of_lt hlt3)]
      exact (hf a ha).1
  done := by
    intro X hP hw hK hc i pins s σ H E I hf st hg
    subst hP hw hK
    obtain ⟨hz, hTI, ⟨p0, q0, hTO⟩, h1, h2⟩ := st
    obtain ⟨ys, hqy, l1, l2, hend⟩ := hg
    obtain ⟨its, rv, p2, _⟩ := I.list hqy
    have ll := rv.length
    have hh : X.A.in1.handled = none := I.ok.hd hc
    refine wpAny_pyNext_zipD2_end D.sep (Draws.text hh i1 x t) (Draws.list hh i2 b (Ne.symm D.i2b) its.toArray) hz hTI hTO h1 ⟨h2, p2.isList⟩ l1 (by simp; omega) (by simp; omega) fun h' tk hk => ⟨rfl, ?_⟩
    exact I.turnedL (t' := tk) (ch := [z, TI, TO, i1, i2]) (fun c o hb q =>
      hk c o (fun q' => hb (by simp [q'])) (fun q' => hb (by simp [q'])) (fun q' => hb (by simp [q'])) (fun q' => hb (by simp [q'])) q) hf
  self := fun A i s Q E st h => wpAny_pyIter_zip st.1 h
/-- both kinds -/
def iZipB (K : PySem.W.Frag) (ta : TA) : TI := fun σ H R => ta σ H fun vs H1 => (∃ a b xs ys, vs = [.ref a, .ref b] ∧ SqL K H1 a xs ∧ SqL K H1 b ys ∧ R (Itz K a b) H1) ∨ ∃ x b ys, vs = [.str x, .ref b] ∧ SqL K H1 b ys ∧ R (ItzS K x b) H1
theorem pi_zipB {X : Cx} {e e2 : Expr} {ta : TA} {p pos tpos : Pos} {elts : List Expr} {kk : Nat} (hg : Gl X "zip") (hm : X.mg "zip" = none) (ha : PA X [e, e2] ta)
    (hs : starEach [e, e2] X.env = (false, eval e X.env) :: starEach [e2] X.env) (hpl : (backTo pos (starEach [e2] X.env)).any (·.1) = false) :
    PI X (.Tuple elts kk tpos) (.Call (.Name "zip" p) [e, e2] [] pos) (iZipB X.K ta) := by
  refine ⟨fun pins s σ H R I h => ?_⟩
  refine Call_ (ld_blt I hg hm PyProof.Rows.boot_zip (PyProof.Rows.callWith_type1 (thn (ha.run pos pins s σ H _ I h) fun us s1 ⟨vs, H1, I1, r1, q1⟩ => ?_) hs hpl))
  have fresh5 : ∀ c, c ∈ [s1.heap.objs.size + 4, s1.heap.objs.size + 2, s1.heap.objs.size + 3, s1.heap.objs.size, s1.heap.objs.size + 1] → FpOk X pins H1 c := fun c hcm => by
    have hle : s1.heap.objs.size ≤ c := by
      simp only [List.mem_cons, List.not_mem_nil, or_false] at hcm
      omega
    exact I1.fpOk hle (I1.hok.fresh hle)
  rcases q1 with ⟨a, b, xs, ys, rfl, hqx, hqy, q⟩ | ⟨x, b, ys, rfl, hqy, q⟩
  · cases r1 with
    | cons r rr =>
      cases rr with
      | cons r' rr =>
        cases rr
        cases r
        cases r'
        obtain ⟨its, rv, p1, _⟩ := I1.list hqx
        obtain ⟨its2, rv2, p2, _⟩ := I1.list hqy
        refine call_zip_2 p1.isList p2.isList fun h' hz hTI hTO h1 h2 hsz hk => wpAny_pyIter_zip hz ?_
        have I2 : Inv X pins σ H1 { s1 with heap := h' } := I1.kept (t' := s1.toks) hk
        exact ⟨s1.heap.objs.size + 4, [s1.heap.objs.size + 4, s1.heap.objs.size + 2, s1.heap.objs.size + 3, s1.heap.objs.size, s1.heap.objs.size + 1], _, _, H1, rfl, I2, turn_zip (PySem.W.ktu_apart s1.heap.objs.size a b p1.lt p2.lt), ⟨hz, hTI, ⟨_, _, hTO⟩, h1, h2⟩, fresh5, q⟩
  · cases r1 with
    | cons r rr =>
      cases rr with
      | cons r' rr =>
        cases rr
        cases r'
        obtain ⟨tx, rfl⟩ := r
        obtain ⟨its2, rv2, p2, _⟩ := I1.list hqy
        have hb : b < s1.heap.objs.size := p2.lt
        refine zip_begins2 (begins_text x tx) (begins_list b its2.toArray) trivial p2.isList fun h' hz hTI hTO g1 g2 hsz hk => wpAny_pyIter_zip hz ?_
        have I2 : Inv X pins σ H1 { s1 with heap := h' } := I1.kept (t' := s1.toks) hk
        have D : ApS (s1.heap.objs.size + 4) (s1.heap.objs.size + 2) (s1.heap.objs.size + 3) s1.heap.objs.size (s1.heap.objs.size + 1) b := by
          constructor <;> (show @Ne Nat _ _; have hb' : @LT.lt Nat _ b s1.heap.objs.size := hb; omega)
        exact ⟨s1.heap.objs.size + 4, [s1.heap.objs.size + 4, s1.heap.objs.size + 2, s1.heap.objs.size + 3, s1.heap.objs.size, s1.heap.objs.size + 1], _, _, H1, rfl, I2, turn_zipS (t := tx) D, ⟨hz, hTI, ⟨_, _, hTO⟩, ⟨_, g1, rfl, rfl⟩, ⟨_, g2, rfl, rfl⟩⟩, fresh5, q⟩
end Iv
end
section
set_option autoImplicit false
set_option maxRecDepth 100000
set_option maxHeartbeats 4000000
namespace Iv
open PySem L2
/-! ### targets -/
def tgR (K : Fg) (t : Tg) : TG := fun v σ H Q => ∃ (G : Hp) (m : List Addr) (r r' : Ev) (d : D), Ext G H ∧ RlV K G m r σ ∧ Rep K G d v ∧ asgD t d r = some r' ∧ ∀ σ', RlV K G m r' σ' → (∀ own, tgIn own t = true → L2.wipe σ' own = L2.wipe σ own) → Q σ' H
def tgRs (K : Fg) (t : Tg) : TGs := fun vs σ H Q => ∃ (G : Hp) (m : List Addr) (r r' : Ev) (xs : List D), Ext G H ∧ RlV K G m r σ ∧ Reps K G xs vs ∧ asgL t xs r = some r' ∧ ∀ σ', RlV K G m r' σ' → (∀ own, tgIn own t = true → L2.wipe σ' own = L2.wipe σ own) → Q σ' H
theorem PG.imp {X : Cx} {e : Expr} {t t' : TG} (h : PG X e t) (k : ∀ v σ H Q, t' v σ H Q → t v σ H Q) : PG X e t' := ⟨fun pins s σ H v u Q I r hw => h.run pins s σ H v u Q I r (k _ _ _ _ hw)⟩
theorem PGs.imp {X : Cx} {e : List Expr} {t t' : TGs} (h : PGs X e t) (k : ∀ v σ H Q, t' v σ H Q → t v σ H Q) : PGs X e t' := ⟨fun pins s σ H v u Q I r hw => h.run pins s σ H v u Q I r (k _ _ _ _ hw)⟩
theorem PG.or {X : Cx} {e : Expr} {t t' : TG} (h : PG X e t) (h' : PG X e t') : PG X e (fun v σ H Q => t v σ H Q ∨ t' v σ H Q) := ⟨fun pins s σ H v u Q I r hw => hw.elim (h.run pins s σ H v u Q I r) (h'.run pins s σ H v u Q I r)⟩
theorem wipe_set {σ : L2.St} {own : List Nat} {i : Nat} {v : Option V} (h : i ∈ own) : L2.wipe (σ.set i v) own = L2.wipe σ own := by
  induction own with
  | nil => simp at h
  | cons a own ih =>
    show (L2.wipe (σ.set i v) own).set a none = (L2.wipe σ own).set a none
    by_cases hm : i ∈ own
    · rw [ih hm]
    · have e : i = a := by
        rcases List.mem_cons.mp h with z | z
        · exact z
        · exact absurd z hm
      subst e
      clear ih h
      have : ∀ own : List Nat, i ∉ own → (L2.wipe (σ.set i v) own).set i none = (L2.wipe σ own).set i none := by
        intro own hm
        induction own with
        | nil => show (σ.set i v).set i none = σ.set i none; rw [List.set_set]
        | cons b own ih =>
          have h1 : i ≠ b := fun q => hm (by rw [q]; exact List.mem_cons_self)
          have h2 : i ∉ own := fun q => hm (List.mem_cons_of_mem _ q)
          show ((L2.wipe (σ.set i v) own).set b none).set i none = ((L2.wipe σ own).set b none).set i none
          rw [List.set_comm _ _ (fun q => h1 q.symm), ih h2, List.set_comm _ _ h1]
      exact this own hm
theorem RlV.set {K : Fg} {G : Hp} {m : List Addr} {r : Ev} {σ : L2.St} (h : RlV K G m r σ) (i : Nat) {v : Vl} {u : V} (q : RepV K G m v u) : RlV K G m (r.set i (some v)) (σ.set i (some u)) := by
  refine ⟨by simp [h.1], fun j w e n => ?_⟩
  by_cases hj : i = j
  · subst hj
    by_cases hl : i < r.length
    · rw [List.getElem?_set_self hl] at e
      cases e
      exact ⟨u, by rw [List.getElem?_set_self (by rw [← h.1]; exact hl)], q⟩
    · rw [List.getElem?_eq_none (by simp; omega)] at e
      cases e
  · rw [List.getElem?_set_ne hj] at e
    obtain ⟨u', h1, h2⟩ := h.2 j w e n
    exact ⟨u', by rw [List.getElem?_set_ne hj]; exact h1, h2⟩
theorem RlV.unset {K : Fg} {G : Hp} {m : List Addr} {r : Ev} {σ : L2.St} (h : RlV K G m r σ) (i : Nat) (o : Option V) : RlV K G m (r.set i none) (σ.set i o) := by
  refine ⟨by simp [h.1], fun j w e n => ?_⟩
  by_cases hj : i = j
  · subst hj
    by_cases hl : i < r.length
    · rw [List.getElem?_set_self hl] at e; cases e
    · rw [List.getElem?_eq_none (by simp; omega)] at e; cases e
  · rw [List.getElem?_set_ne hj] at e
    obtain ⟨u', h1, h2⟩ := h.2 j w e n
    exact ⟨u', by rw [List.getElem?_set_ne hj]; exact h1, h2⟩
theorem each_cons {N : List Str} {fn : Bool} {sc : Scope} {env : Env} (a : Tg) (e : Expr) (es : List Expr) (h : isG N fn sc a e = true) : (assignEach (e :: es) env).map (fun x => x.2) = assign e env :: (assignEach es env).map (fun x => x.2) := by
  cases e with
  | Starred _ _ => cases a <;> cases h
  | _ => rfl
theorem each_len {N : List Str} {fn : Bool} {sc : Scope} {env : Env} : ∀ (t : Tg) (es : List Expr), isGs N fn sc t es = true → (assignEach es env).length = es.length
  | .nil, [], h => rfl
  | .nil, _ :: _, h => by cases h
  | .cons a b, [], h => by cases h
  | .cons a b, e :: es, h => by
    have g := Bool.and_eq_true_iff.mp h
    have := congrArg List.length (each_cons (env := env) a e es g.1)
    simp only [List.length_map, List.length_cons] at this
    rw [this, each_len b es g.2]; rfl
  | .nm _, _, h => by cases h
  | .tp _, _, h => by cases h
theorem each_star {N : List Str} {fn : Bool} {sc : Scope} {env : Env} : ∀ (t : Tg) (es : List Expr), isGs N fn sc t es = true → (assignEach es env).findIdx? (fun x => x.1) = none
  | .nil, [], h => rfl
  | .nil, _ :: _, h => by cases h
  | .cons a b, [], h => by cases h
  | .cons a b, e :: es, h => by
    have g := Bool.and_eq_true_iff.mp h
    have e1 : assignEach (e :: es) env = (false, assign e env) :: assignEach es env := by
      cases e with
      | Starred _ _ => cases a <;> cases g.1
      | _ => rfl
    rw [e1, List.findIdx?_cons, each_star b es g.2]; rfl
  | .nm _, _, h => by cases h
  | .tp _, _, h => by cases h
theorem asgL_len {N : List Str} {fn : Bool} {sc : Scope} : ∀ (t : Tg) (es : List Expr) (xs : List D) (r r' : Ev), isGs N fn sc t es = true → asgL t xs r = some r' → xs.length = es.length
  | .nil, [], [], r, r', h, ha => rfl
  | .nil, [], _ :: _, r, r', h, ha => by cases ha
  | .nil, _ :: _, xs, r, r', h, ha => by cases h
  | .cons a b, [], xs, r, r', h, ha => by cases h
  | .cons a b, e :: es, [], r, r', h, ha => by cases ha
  | .cons a b, e :: es, x :: xs, r, r', h, ha => by
    have g := Bool.and_eq_true_iff.mp h
    simp only [asgL] at ha
    cases e1 : asgD a x r with
    | none => rw [e1] at ha; cases ha
    | some r1 => rw [e1] at ha; rw [List.length_cons, List.length_cons, asgL_len b es xs r1 r' g.2 ha]
  | .nm _, _, _, _, _, h, _ => by cases h
  | .tp _, _, _, _, _, h, _ => by cases h
section
variable {cl : Nat → Addr} {X : Cx}
theorem stB_d {fn : Bool} {sc : Scope} {x : Str} (h : stB fn sc x = true) : L2.Loc sc x ∧ (sc.names.lookup x = some .local ∨ fn = true) := by
  unfold stB at h
  rw [Bool.or_eq_true, Bool.and_eq_true, decide_eq_true_eq, decide_eq_true_eq] at h
  rcases h with h | ⟨h1, h2⟩
  · exact ⟨.inl h, .inl h⟩
  · exact ⟨.inr h2, .inr h1⟩
mutual
theorem g_tg (hc : X.calm = true) (nd : X.N.Nodup) {fn : Bool} (hf : fn = true → ∀ x, X.fn x = true) : ∀ (t : Tg) (e : Expr), isG X.N fn X.env.scope t e = true → PG X e (tgR (kx cl X) t)
  | .nm i, e, h => by
    cases e with
    | Name x p =>
      have g := Bool.and_eq_true_iff.mp h
      obtain ⟨l1, l2⟩ := stB_d g.2
      refine PG.imp (pg_name nd (of_decide_eq_true g.1) l1 (l2.elim .inr fun z => .inl (hf z x))) fun v σ H Q ⟨G, m, r, r', d, e, rv, hr, ha, q⟩ => ?_
      cases ha
      exact q _ (rv.set i (v := .d d) hr) fun own ho => wipe_set (by simpa [tgIn] using ho)
    | _ => cases h
  | .tp ts, e, h => by
    cases e with
    | Tuple es k p =>
      have gs := gs_tg hc nd hf ts es h
      refine PG.imp (PG.or (pg_tup hc gs (n := es.length) (each_len ts es h) (each_star ts es h)) (pg_lst hc gs (n := es.length) (each_len ts es h) (each_star ts es h))) fun v σ H Q ⟨G, m, r, r', d, e, rv, hr, ha, q⟩ => ?_
      · cases hr with
        | tup h1 h2 =>
          exact .inl ⟨_, _, rfl, h1.ext e, by rw [← h2.length]; exact asgL_len ts es _ _ _ h ha, G, m, r, r', _, e, rv, h2, ha, q⟩
        | lst h1 h2 =>
          exact .inr ⟨_, _, rfl, .of (e _ _ h1), by rw [← h2.length]; exact asgL_len ts es _ _ _ h ha, G, m, r, r', _, e, rv, h2, ha, q⟩
        | _ => cases ha
    | _ => cases h
  | .nil, e, h => by cases h
  | .cons _ _, e, h => by cases h
theorem gs_tg (hc : X.calm = true) (nd : X.N.Nodup) {fn : Bool} (hf : fn = true → ∀ x, X.fn x = true) : ∀ (t : Tg) (es : List Expr), isGs X.N fn X.env.scope t es = true → PGs X es (tgRs (kx cl X) t)
  | .nil, es, h => by
    cases es with
    | nil =>
      refine PGs.imp pgs_nil fun v σ H Q ⟨G, m, r, r', xs, e, rv, hr, ha, q⟩ => ?_
      cases hr with
      | nil => cases ha; exact ⟨rfl, q _ rv fun _ _ => rfl⟩
      | cons _ _ => cases ha
    | cons _ _ => cases h
  | .cons a b, es, h => by
    cases es with
    | nil => cases h
    | cons e es =>
      have g := Bool.and_eq_true_iff.mp h
      refine PGs.imp (pgs_cons (g_tg hc nd hf a e g.1) (gs_tg hc nd hf b es g.2) (each_cons a e es g.1)) fun v σ H Q ⟨G, m, r, r', xs, e, rv, hr, ha, q⟩ => ?_
      cases hr with
      | nil => cases ha
      | @cons x u xs us r1 r2 =>
        simp only [asgL] at ha
        cases e1 : asgD a x r with
        | none => rw [e1] at ha; cases ha
        | some r1' =>
          rw [e1] at ha
          exact ⟨_, _, rfl, G, m, r, r1', _, e, rv, r1, e1, fun σ' rv' k1 => ⟨G, m, r1', r', _, e, rv', r2, ha, fun σ'' rv'' k2 => q σ'' rv'' fun own ho => by
            have ho' := Bool.and_eq_true_iff.mp ho
            rw [k2 own ho'.2, k1 own ho'.1]⟩⟩
  | .nm _, es, h => by cases h
  | .tp _, es, h => by cases h
end
end
/-! ### what is walked -/
/-- the iterator J walks the data xs -/
structure ItR (K : Fg) (G : Hp) (xs : List D) (J : It) : Prop where
  go : ∀ (i : Nat) (H : Hp), Ext G H → i < xs.length → J.go i H
  stop : ∀ (i : Nat) (H : Hp), Ext G H → xs.length ≤ i → i ≤ xs.length → J.stop i H
  yld : ∀ (i : Nat) (G1 H : Hp) (x : V) (H' : Hp) (d : D), Ext G G1 → Ext G1 H → xs[i]? = some d → J.yld i H x H' → ∃ G2, Al G1 H G2 H' ∧ Rep K G2 d x
abbrev TI' (nm : Nm) (cl : Nat → Addr) (X : Cx) (W : WX) (f : Ev → Hs → R (List D)) : TI := fun σ H Rr => tX nm.excs X.mg (kx cl X) W (fun G _ xs J => ItR (kx cl X) G xs J) f σ H Rr
theorem itr_list {K : Fg} {G : Hp} {a : Addr} {xs : List D} {vs : List V} (h : SqL K G a vs) (r : Reps K G xs vs) : ItR K G xs (Itl K a) where
  go := fun i H e hi => ⟨vs, vs[i]'(by rw [← r.length]; exact hi), h.ext e, by simp⟩
  stop := fun i H e hi _ => ⟨vs, h.ext e, by rw [← r.length]; exact hi⟩
  yld := fun i G1 H x H' d e1 e2 hd ⟨q1, q2⟩ => by
    subst q1
    have := q2 vs ((h.ext e1).ext e2)
    obtain ⟨v, h1, h2⟩ := r.get hd
    rw [this] at h1; cases h1
    exact ⟨G1, .refl, h2.mono e1⟩
theorem itr_tup {K : Fg} {G : Hp} {a : Addr} {xs : List D} {vs : List V} (h : SqT K G a vs) (r : Reps K G xs vs) : ItR K G xs (Itt K a) where
  go := fun i H e hi => ⟨vs, vs[i]'(by rw [← r.length]; exact hi), h.ext e, by simp⟩
  stop := fun i H e hi _ => ⟨vs, h.ext e, by rw [← r.length]; exact hi⟩
  yld := fun i G1 H x H' d e1 e2 hd ⟨q1, q2⟩ => by
    subst q1
    have := q2 vs ((h.ext e1).ext e2)
    obtain ⟨v, h1, h2⟩ := r.get hd
    rw [this] at h1; cases h1
    exact ⟨G1, .refl, h2.mono e1⟩
theorem itr_str {K : Fg} {G : Hp} {s : Cs} (o : Okc s) : ItR K G (s.map fun c => .str [c]) (Its (S' s)) where
  go := fun i H e hi => by show i < (S' s).cps.size; simpa [S'] using hi
  stop := fun i H e hi _ => by show (S' s).cps.size ≤ i; simpa [S'] using hi
  yld := fun i G1 H x H' d e1 e2 hd ⟨q1, c, q2, q3⟩ => by
    subst q1; subst q3
    have q2' : s[i]? = some c := by simpa [S'] using q2
    rw [List.getElem?_map, q2'] at hd
    cases hd
    exact ⟨G1, .refl, .str [c] fun c' hc' => by simp at hc'; subst hc'; exact o _ (List.mem_of_getElem? q2')⟩
theorem upTo_get : ∀ (n : Nat) (a : Int) (i : Nat), (upTo n a)[i]? = if i < n then some (.int (a + i)) else none
  | 0, a, i => by simp [upTo]
  | n + 1, a, 0 => by simp [upTo]
  | n + 1, a, i + 1 => by
    simp only [upTo, List.getElem?_cons_succ, upTo_get n (a + 1) i]
    by_cases h : i < n
    · rw [if_pos h, if_pos (by omega)]; have q : a + 1 + (i : Int) = a + ((i + 1 : Nat) : Int) := by omega
      rw [q]
    · rw [if_neg h, if_neg (by omega)]
theorem upTo_len : ∀ (n : Nat) (a : Int), (upTo n a).length = n
  | 0, a => rfl
  | n + 1, a => by simp [upTo, upTo_len n (a + 1)]
theorem itr_rng {K : Fg} {G : Hp} (a : Int) (n : Nat) : ItR K G (upTo n a) (Itr a n) where
  go := fun i H e hi => by show i < n; rw [upTo_len] at hi; exact hi
  stop := fun i H e hi _ => by show n ≤ i; rw [upTo_len] at hi; exact hi
  yld := fun i G1 H x H' d e1 e2 hd ⟨q1, q2⟩ => by
    subst q1; subst q2
    rw [upTo_get] at hd
    split at hd
    · cases hd; exact ⟨G1, .refl, .int _⟩
    · cases hd
/-! ### dicts -/
theorem kyOf_inj {a b : Ky} (h : kyOf a = kyOf b) : a = b := by
  cases a <;> cases b <;> simp only [kyOf, Sum.inl.injEq, Sum.inr.injEq, reduceCtorEq] at h
  · rw [h]
  · rw [S'_inj h]
theorem RepKs.length {K : Fg} {G : Hp} : ∀ {xs : List (Ky × D)} {kvs : List (Key × V)}, RepKs K G xs kvs → xs.length = kvs.length
  | _, _, .nil => rfl
  | _, _, .cons _ _ r => by simp [RepKs.length r]
theorem kV_rep {K : Fg} {G : Hp} {k : Ky} (o : okK k) : Rep K G (kyD k) (kV (kyOf k)) := by
  cases k with
  | i n => exact .int n
  | s x => exact .str x o
theorem RepKs.get {K : Fg} {G : Hp} : ∀ {xs : List (Ky × D)} {kvs : List (Key × V)} {i : Nat} {k : Ky} {x : D}, RepKs K G xs kvs → xs[i]? = some (k, x) → ∃ v, kvs[i]? = some (kyOf k, v) ∧ okK k ∧ Rep K G x v
  | _, _, _, _, _, .nil, e => by simp at e
  | _, _, 0, _, _, .cons o h _, e => by simp at e; obtain ⟨rfl, rfl⟩ := e; exact ⟨_, rfl, o, h⟩
  | _, _, i + 1, k, x, .cons _ _ r, e => by
    obtain ⟨v, h1, h2⟩ := RepKs.get (i := i) (k := k) (x := x) r (by simpa using e)
    exact ⟨v, by simpa using h1, h2⟩
theorem RepKs.val {K : Fg} {G : Hp} (k : Ky) : ∀ {xs : List (Ky × D)} {kvs : List (Key × V)}, RepKs K G xs kvs →
    (kget k xs = none ∧ valV kvs (kyOf k) = none) ∨ ∃ x v, kget k xs = some x ∧ valV kvs (kyOf k) = some v ∧ Rep K G x v
  | _, _, .nil => .inl ⟨rfl, rfl⟩
  | (k', x) :: xs, (_, v) :: kvs, .cons o h r => by
    by_cases e : k' = k
    · subst e
      refine .inr ⟨x, v, ?_, ?_, h⟩
      · simp [kget]
      · simp [valV]
    · have e2 : ¬ kyOf k' = kyOf k := fun q => e (kyOf_inj q)
      have h1 : kget k ((k', x) :: xs) = kget k xs := by simp [kget, e]
      have h2 : valV ((kyOf k', v) :: kvs) (kyOf k) = valV kvs (kyOf k) := by simp [valV, e2]
      rw [h1, h2]
      exact RepKs.val k r
theorem itr_keys {K : Fg} {G : Hp} {a : Addr} {o : Obj} {xs : List (Ky × D)} {kvs : List (Key × V)} (h : G a = some (.frz o (.dK kvs))) (r : RepKs K G xs kvs) : ItR K G (xs.map fun p => kyD p.1) (Itk a o kvs) where
  go := fun i H e hi => ⟨e _ _ h, by rw [← r.length]; simpa using hi⟩
  stop := fun i H e hi _ => ⟨e _ _ h, by rw [← r.length]; simpa using hi⟩
  yld := fun i G1 H x H' d e1 e2 hd ⟨q1, k, v, q2, q3⟩ => by
    subst q1; subst q3
    rw [List.getElem?_map] at hd
    cases hx : xs[i]? with
    | none => rw [hx] at hd; cases hd
    | some p =>
      rw [hx] at hd; cases hd
      obtain ⟨v', h1, h2, h3⟩ := r.get (k := p.1) (x := p.2) hx
      rw [q2] at h1; cases h1
      exact ⟨G1, .refl, kV_rep h2⟩
theorem itr_items {K : Fg} {G : Hp} {a : Addr} {o : Obj} {xs : List (Ky × D)} {kvs : List (Key × V)} (h : G a = some (.frz o (.dK kvs))) (r : RepKs K G xs kvs) : ItR K G (xs.map fun p => .tup [kyD p.1, p.2]) (Iti a o kvs) where
  go := fun i H e hi => ⟨e _ _ h, by rw [← r.length]; simpa using hi⟩
  stop := fun i H e hi _ => ⟨e _ _ h, by rw [← r.length]; simpa using hi⟩
  yld := fun i G1 H x H' d e1 e2 hd ⟨T, k, v, q2, q3, q4, q5⟩ => by
    subst q3; subst q5
    rw [List.getElem?_map] at hd
    cases hx : xs[i]? with
    | none => rw [hx] at hd; cases hd
    | some p =>
      rw [hx] at hd; cases hd
      obtain ⟨v', h1, h2, h3⟩ := r.get (k := p.1) (x := p.2) hx
      rw [q2] at h1; cases h1
      have al : Al G1 H (upd G1 T (.tup [kV (kyOf p.1), v])) (upd H T (.tup [kV (kyOf p.1), v])) := Al.one q4
      have ex := (al.ext e2).2.1
      exact ⟨_, al, .tup (.of upd_same) (.cons (kV_rep h2) (.cons ((h3.mono e1).mono ex) .nil))⟩
theorem zipD_len : ∀ (xs ys : List D), (zipD xs ys).length = min xs.length ys.length
  | [], ys => by simp [zipD]
  | x :: xs, [] => by simp [zipD]
  | x :: xs, y :: ys => by simp only [zipD, List.length_cons, zipD_len xs ys]; omega
theorem zipD_get : ∀ (xs ys : List D) (i : Nat) (d : D), (zipD xs ys)[i]? = some d → ∃ x y, xs[i]? = some x ∧ ys[i]? = some y ∧ d = .tup [x, y]
  | [], ys, i, d, h => by simp [zipD] at h
  | x :: xs, [], i, d, h => by simp [zipD] at h
  | x :: xs, y :: ys, 0, d, h => by simp [zipD] at h; exact ⟨x, y, rfl, rfl, h.symm⟩
  | x :: xs, y :: ys, i + 1, d, h => by
    simp only [zipD, List.getElem?_cons_succ] at h
    simpa using zipD_get xs ys i d h
theorem enumD_len : ∀ (n : Nat) (xs : List D), (enumD n xs).length = xs.length
  | n, [] => rfl
  | n, x :: xs => by simp [enumD, enumD_len (n + 1) xs]
theorem enumD_get : ∀ (n : Nat) (xs : List D) (i : Nat) (d : D), (enumD n xs)[i]? = some d → ∃ x, xs[i]? = some x ∧ d = .tup [.int ((n + i : Nat) : Int), x]
  | n, [], i, d, h => by simp [enumD] at h
  | n, x :: xs, 0, d, h => by simp [enumD] at h; exact ⟨x, rfl, h.symm⟩
  | n, x :: xs, i + 1, d, h => by
    simp only [enumD, List.getElem?_cons_succ] at h
    obtain ⟨y, h1, h2⟩ := enumD_get (n + 1) xs i d h
    exact ⟨y, by simpa using h1, by rw [h2]; congr 3; omega⟩
theorem itr_zip {K : Fg} {G : Hp} {a b : Addr} {xs ys : List D} {vs ws : List V} (h : SqL K G a vs) (r : Reps K G xs vs) (h' : SqL K G b ws) (r' : Reps K G ys ws) : ItR K G (zipD xs ys) (Itz K a b) where
  go := fun i H e hi => by
    rw [zipD_len] at hi
    exact ⟨vs, ws, vs[i]'(by rw [← r.length]; omega), ws[i]'(by rw [← r'.length]; omega), h.ext e, h'.ext e, by simp, by simp⟩
  stop := fun i H e hi _ => by
    rw [zipD_len] at hi
    exact ⟨vs, ws, h.ext e, h'.ext e, by rw [← r.length, ← r'.length]; omega⟩
  yld := fun i G1 H x H' d e1 e2 hd ⟨T, u1, u2, q1, q2, q3, q4, q5⟩ => by
    subst q1; subst q3
    obtain ⟨x, y, g1, g2, rfl⟩ := zipD_get xs ys i d hd
    have t1 := q4 vs ((h.ext e1).ext e2)
    have t2 := q5 ws ((h'.ext e1).ext e2)
    obtain ⟨v1, w1, z1⟩ := r.get g1
    obtain ⟨v2, w2, z2⟩ := r'.get g2
    rw [t1] at w1; cases w1
    rw [t2] at w2; cases w2
    have al : Al G1 H (upd G1 T (.tup [u1, u2])) (upd H T (.tup [u1, u2])) := Al.one q2
    have ex := (al.ext e2).2.1
    exact ⟨_, al, .tup (.of upd_same) (.cons ((z1.mono e1).mono ex) (.cons ((z2.mono e1).mono ex) .nil))⟩
theorem itr_zipS {K : Fg} {G : Hp} {b : Addr} {s : Cs} {ys : List D} {ws : List V} (o : Okc s) (h' : SqL K G b ws) (r' : Reps K G ys ws) : ItR K G (zipD (s.map fun c => .str [c]) ys) (ItzS K (S' s) b) where
  go := fun i H e hi => by
    rw [zipD_len, List.length_map] at hi
    refine ⟨by show i < (S' s).cps.size; simp [S']; omega, ws, ws[i]'(by rw [← r'.length]; omega), h'.ext e, by simp⟩
  stop := fun i H e hi hj => by
    rw [zipD_len, List.length_map] at hi hj
    refine ⟨ws, h'.ext e, by simp [S']; omega, by rw [← r'.length]; omega, ?_⟩
    rw [← r'.length]
    simp [S']
    omega
  yld := fun i G1 H x H' d e1 e2 hd ⟨T, c, u2, q1, q2, q3, q4, q5⟩ => by
    subst q1; subst q3
    obtain ⟨x, y, g1, g2, rfl⟩ := zipD_get _ ys i d hd
    have q4' : s[i]? = some c := by simpa [S'] using q4
    have hx : x = .str [c] := by
      rw [List.getElem?_map, q4'] at g1
      exact (Option.some.inj g1).symm
    subst hx
    have t2 := q5 ws ((h'.ext e1).ext e2)
    obtain ⟨v2, w2, z2⟩ := r'.get g2
    rw [t2] at w2; cases w2
    have al : Al G1 H (upd G1 T (.tup [.str ⟨#[c]⟩, u2])) (upd H T (.tup [.str ⟨#[c]⟩, u2])) := Al.one q2
    have ex := (al.ext e2).2.1
    exact ⟨_, al, .tup (.of upd_same) (.cons (.str [c] fun c' hc' => by simp at hc'; subst hc'; exact o _ (List.mem_of_getElem? q4')) (.cons ((z2.mono e1).mono ex) .nil))⟩
theorem itr_enum {K : Fg} {G : Hp} {a : Addr} {xs : List D} {vs : List V} (h : SqL K G a vs) (r : Reps K G xs vs) : ItR K G (enumD 0 xs) (Ite K a) where
  go := fun i H e hi => by
    rw [enumD_len] at hi
    exact ⟨vs, vs[i]'(by rw [← r.length]; omega), h.ext e, by simp⟩
  stop := fun i H e hi _ => by
    rw [enumD_len] at hi
    exact ⟨vs, h.ext e, by rw [← r.length]; omega⟩
  yld := fun i G1 H x H' d e1 e2 hd ⟨T, u1, q1, q2, q3, q4⟩ => by
    subst q1; subst q3
    obtain ⟨x, g1, rfl⟩ := enumD_get 0 xs i d hd
    have t1 := q4 vs ((h.ext e1).ext e2)
    obtain ⟨v1, w1, z1⟩ := r.get g1
    rw [t1] at w1; cases w1
    have al : Al G1 H (upd G1 T (.tup [.int (i : Int), u1])) (upd H T (.tup [.int (i : Int), u1])) := Al.one q2
    have ex := (al.ext e2).2.1
    exact ⟨_, al, .tup (.of upd_same) (.cons (by rw [Nat.zero_add]; exact .int _) (.cons ((z1.mono e1).mono ex) .nil))⟩
section
variable {nm : Nm} {cl : Nat → Addr} {P : Prg} {cal : Cal} {n : Nat} {X : Cx} {W : WX} {e l r tg : Expr} {es : List Expr} {pos : Pos} {x y z : Ex}
theorem i_one (ha : PE X e (TX nm cl X W (ev P cal x))) : PI X tg e (TI' nm cl X W (evi P cal (.one x))) := by
  refine ⟨fun pins s σ H Rr I ⟨F, G, m, r, S, rl, rv, out⟩ => ?_⟩
  simp only [evi] at out
  cases hx : ev P cal x r S with
  | bad => rw [hx] at out; exact out.elim
  | exc c fs S1 =>
    rw [hx] at out
    exact (pi_list ha).run pins s σ H Rr I ⟨F, G, m, r, S, rl, rv, by rw [hx]; exact out⟩
  | ok v S1 =>
    rw [hx] at out
    cases v with
    | d d =>
      cases d with
      | lst xs =>
        refine (pi_list ha).run pins s σ H Rr I ⟨F, G, m, r, S, rl, rv, ?_⟩
        rw [hx]
        intro G' m' H' u g l1 r1
        cases r1 with
        | lst h1 h2 => exact ⟨_, rfl, ⟨_, .of (l1.ext _ _ h1)⟩, out G' m' H' _ g l1 (itr_list (.of h1) h2)⟩
      | tup xs =>
        refine (pi_tup ha).run pins s σ H Rr I ⟨F, G, m, r, S, rl, rv, ?_⟩
        rw [hx]
        intro G' m' H' u g l1 r1
        cases r1 with
        | tup h1 h2 => exact ⟨_, rfl, ⟨_, h1.ext l1.ext⟩, out G' m' H' _ g l1 (itr_tup h1 h2)⟩
      | str t =>
        refine (pi_str ha).run pins s σ H Rr I ⟨F, G, m, r, S, rl, rv, ?_⟩
        rw [hx]
        intro G' m' H' u g l1 r1
        cases r1 with
        | str _ o => exact ⟨_, rfl, out G' m' H' _ g l1 (itr_str o)⟩
      | ro xs =>
        refine (pi_list ha).run pins s σ H Rr I ⟨F, G, m, r, S, rl, rv, ?_⟩
        rw [hx]
        intro G' m' H' u g l1 r1
        cases r1 with
        | ro h1 h2 => exact ⟨_, rfl, ⟨_, h1.ext l1.ext⟩, out G' m' H' _ g l1 (itr_list h1 h2)⟩
      | dct xs =>
        refine (pi_keys ha).run pins s σ H Rr I ⟨F, G, m, r, S, rl, rv, ?_⟩
        rw [hx]
        intro G' m' H' u g l1 r1
        cases r1 with
        | dct h1 h2 => exact ⟨_, _, rfl, .inl ⟨_, l1.ext _ _ h1, out G' m' H' _ g l1 (itr_keys h1 h2)⟩⟩
      | _ => exact out.elim
    | _ => exact out.elim
theorem i_itm {ap p tp : Pos} {k : Nat} {ts : List Expr} (h0 : noC0 e = true) (hl : (ap.endLine == p.line) = true) (ha : PE X e (TX nm cl X W (ev P cal x))) :
    PI X (.Tuple ts k tp) (.Call (.Attribute e ("items" : Str) ap) [] [] p) (TI' nm cl X W (evi P cal (.itm x))) := by
  refine ⟨fun pins s σ H Rr I ⟨F, G, m, r, S, rl, rv, out⟩ => (pi_items ha (base_e h0) hl).run pins s σ H Rr I ?_⟩
  simp only [evi] at out
  refine tX.bind rl rv out fun u1 H1 G1 m1 v1 S1 g1 l1 rv1 r1 out => ?_
  split at out
  · cases r1 with
    | dct a1 a2 => exact ⟨_, _, _, rfl, l1.ext _ _ a1, out G1 m1 H1 _ .refl l1 (itr_items a1 a2)⟩
  · exact out.elim
theorem PI.imp {tg iter : Expr} {t t' : TI} (h : PI X tg iter t) (k : ∀ σ H Q, t' σ H Q → t σ H Q) : PI X tg iter t' := ⟨fun pins s σ H Q I hw => h.run pins s σ H Q I (k _ _ _ hw)⟩
theorem i_rng {p : Pos} {sc : Scope} {N : List Str} (C : Ck nm cl P cal n X W) (h1 : glB X.env.scope ("range" : Str) = true) (hs : isE nm N sc x e = true) (ha : PE X e (TX nm cl X W (ev P cal x))) :
    PI X tg (.Call (.Name ("range" : Str) p) [e] [] pos) (TI' nm cl X W (evi P cal (.rng x))) := by
  refine PI.imp (pi_range1 (glB_d h1) (C.md.bo _ (by decide)) (pa_cons ha pa_nil (star_e hs)) (star_e hs)) fun σ H Rr ⟨F, G, m, r, S, rl, rv, out⟩ => ?_
  simp only [evi] at out
  refine tX.bind rl rv out fun u1 H1 G1 m1 v1 S1 g1 l1 rv1 r1 out => ?_
  split at out
  · cases r1
    split at out
    · rename_i hz
      exact ⟨_, rfl, by omega, by omega, out G1 m1 H1 _ .refl l1 (itr_rng 0 _)⟩
    · exact out.elim
  · exact out.elim
theorem i_rng2 {p : Pos} {sc : Scope} {N : List Str} (C : Ck nm cl P cal n X W) (h1 : glB X.env.scope ("range" : Str) = true) (hs : isE nm N sc x l = true) (hs2 : isE nm N sc y r = true) (ha : PE X l (TX nm cl X W (ev P cal x))) (hb : PE X r (TX nm cl X W (ev P cal y))) :
    PI X tg (.Call (.Name ("range" : Str) p) [l, r] [] pos) (TI' nm cl X W (evi P cal (.rng2 x y))) := by
  refine PI.imp (pi_range2 (glB_d h1) (C.md.bo _ (by decide)) (pa_cons ha (pa_cons hb pa_nil (star_e hs2)) (star_e hs)) (by rw [star_e hs, star_e hs2]; rfl) (star_e hs2)) fun σ H Rr ⟨F, G, m, r, S, rl, rv, out⟩ => ?_
  simp only [evi] at out
  refine tX.bind rl rv out fun u1 H1 G1 m1 v1 S1 g1 l1 rv1 r1 out => ?_
  refine tX.bind l1 rv1 out fun u2 H2 G2 m2 v2 S2 g2 l2 rv2 r2 out => ?_
  split at out
  · cases r1; cases r2
    split at out
    · rename_i hz
      exact ⟨_, _, rfl, ⟨by omega, by omega, by omega, by omega⟩, out G2 m2 H2 _ .refl l2 (itr_rng _ _)⟩
    · exact out.elim
  · exact out.elim
theorem i_zip {p tp : Pos} {k : Nat} {ts : List Expr} {sc : Scope} {N : List Str} (C : Ck nm cl P cal n X W) (h1 : glB X.env.scope ("zip" : Str) = true) (hs : isE nm N sc x l = true) (hs2 : isE nm N sc y r = true) (ha : PE X l (TX nm cl X W (ev P cal x))) (hb : PE X r (TX nm cl X W (ev P cal y))) :
    PI X (.Tuple ts k tp) (.Call (.Name ("zip" : Str) p) [l, r] [] pos) (TI' nm cl X W (evi P cal (.zip x y))) := by
  refine PI.imp (pi_zipB (glB_d h1) (C.md.bo _ (by decide)) (pa_cons ha (pa_cons hb pa_nil (star_e hs2)) (star_e hs)) (star_e hs) (by rw [star_e hs2]; rfl)) fun σ H Rr ⟨F, G, m, r, S, rl, rv, out⟩ => ?_
  simp only [evi] at out
  refine tX.bind rl rv out fun u1 H1 G1 m1 v1 S1 g1 l1 rv1 r1 out => ?_
  refine tX.bind l1 rv1 out fun u2 H2 G2 m2 v2 S2 g2 l2 rv2 r2 out => ?_
  split at out
  · cases r1 with
    | lst a1 a2 =>
      cases r2 with
      | lst b1 b2 =>
        exact .inl ⟨_, _, _, _, rfl, .of (l2.ext _ _ (g2.1 _ _ a1)), .of (l2.ext _ _ b1), out G2 m2 H2 _ .refl l2 (itr_zip (.of (g2.1 _ _ a1)) (a2.mono g2.1) (.of b1) b2)⟩
  · cases r1 with
    | str s os =>
      cases r2 with
      | lst b1 b2 => exact .inr ⟨_, _, _, rfl, .of (l2.ext _ _ b1), out G2 m2 H2 _ .refl l2 (itr_zipS os (.of b1) b2)⟩
  · exact out.elim
theorem i_enm {p tp : Pos} {k : Nat} {ts : List Expr} {sc : Scope} {N : List Str} (C : Ck nm cl P cal n X W) (h1 : glB X.env.scope ("enumerate" : Str) = true) (hs : isE nm N sc x l = true) (ha : PE X l (TX nm cl X W (ev P cal x))) :
    PI X (.Tuple ts k tp) (.Call (.Name ("enumerate" : Str) p) [l] [] pos) (TI' nm cl X W (evi P cal (.enm x))) := by
  refine PI.imp (pi_enum (glB_d h1) (C.md.bo _ (by decide)) (pa_cons ha pa_nil (star_e hs)) (star_e hs)) fun σ H Rr ⟨F, G, m, r, S, rl, rv, out⟩ => ?_
  simp only [evi] at out
  refine tX.bind rl rv out fun u1 H1 G1 m1 v1 S1 g1 l1 rv1 r1 out => ?_
  split at out
  · cases r1 with
    | lst a1 a2 => exact ⟨_, _, rfl, .of (l1.ext _ _ a1), out G1 m1 H1 _ .refl l1 (itr_enum (.of a1) a2)⟩
  · exact out.elim
end
end Iv
end
section
set_option autoImplicit false
set_option maxRecDepth 100000
set_option maxHeartbeats 4000000
namespace Iv
open PySem L2
/-! ### list comprehensions -/
theorem wipes_len (r : Ev) : ∀ own : List Nat, (wipes r own).length = r.length
  | [] => rfl
  | v :: vs => by simp [wipes, wipes_len r vs]
theorem RlV.wipe {K : Fg} {G : Hp} {m : List Addr} {r : Ev} {σ : L2.St} (h : RlV K G m r σ) : ∀ own : List Nat, RlV K G m (wipes r own) (L2.wipe σ own)
  | [] => h
  | v :: vs => (RlV.wipe h vs).unset v none
theorem wipe_twice (σ : L2.St) (own : List Nat) : L2.wipe (L2.wipe σ own) own = L2.wipe σ own := by
  have all : ∀ (o2 : List Nat), (∀ x ∈ o2, x ∈ own) → L2.wipe (L2.wipe σ o2) own = L2.wipe σ own := by
    intro o2
    induction o2 with
    | nil => intro _; rfl
    | cons a o2 ih =>
      intro h
      show L2.wipe ((L2.wipe σ o2).set a none) own = _
      rw [wipe_set (h a List.mem_cons_self)]
      exact ih fun x hx => h x (List.mem_cons_of_mem _ hx)
  exact all own fun _ h => h
/-- a frame with one thing more -/
theorem Rl.framed {K : Fg} {F G H : Hp} {m : List Addr} {S : Hs} {p : Addr} {o : HO} (l : Rl K F G m S H) (hp : H p = none) : Rl K (upd F p o) G m S (upd H p o) := by
  have gp : G p = none := by
    cases e : G p with
    | none => rfl
    | some q => rw [l.ext _ _ e] at hp; cases hp
  have ex : Ext H (upd H p o) := Ext.upd hp
  refine ⟨l.ext.trans ex, fun a q h => ?_, fun a q h => ?_, fun a ha => let ⟨q, z⟩ := l.mh a ha; ⟨q, ex _ _ z⟩, l.len, l.nd, fun n a q h1 h2 => ?_⟩
  · by_cases e : a = p
    · subst e; rw [upd_same] at h ⊢; exact h
    · rw [upd_ne e] at h ⊢; exact l.fr _ _ h
  · by_cases e : a = p
    · subst e
      refine ⟨gp, fun hm => ?_⟩
      obtain ⟨q, z⟩ := l.mh _ hm
      rw [z] at hp; cases hp
    · rw [upd_ne e] at h; exact l.fd _ _ h
  · rcases l.ob n a q h1 h2 with w | ⟨z1, vs, z2, z3⟩
    · exact .inl w
    · exact .inr ⟨z1, vs, ex _ _ z2, z3⟩
/-- what the frame bears is changed -/
theorem Rl.reframe {K : Fg} {F G H : Hp} {m : List Addr} {S : Hs} {p : Addr} {o o' : HO} (l : Rl K (upd F p o) G m S H) : Rl K (upd F p o') G m S (upd H p o') := by
  obtain ⟨gp, mp⟩ := l.fd p o upd_same
  refine ⟨fun a q h => ?_, fun a q h => ?_, fun a q h => ?_, fun a ha => ?_, l.len, l.nd, fun n a q h1 h2 => ?_⟩
  · have : a ≠ p := fun e => by rw [e, gp] at h; cases h
    rw [upd_ne this]; exact l.ext _ _ h
  · by_cases e : a = p
    · subst e; rw [upd_same] at h ⊢; exact h
    · rw [upd_ne e] at h ⊢
      exact l.fr _ _ (by rw [upd_ne e]; exact h)
  · by_cases e : a = p
    · subst e; exact ⟨gp, mp⟩
    · rw [upd_ne e] at h
      exact l.fd a q (by rw [upd_ne e]; exact h)
  · have : a ≠ p := fun e => mp (e ▸ ha)
    rw [upd_ne this]; exact l.mh a ha
  · have ne : a ≠ p := fun e => mp (e ▸ List.mem_of_getElem? h1)
    rcases l.ob n a q h1 h2 with w | ⟨z1, vs, z2, z3⟩
    · exact .inl w
    · exact .inr ⟨z1, vs, by rw [upd_ne ne]; exact z2, z3⟩
/-- the frame's thing is frozen: from now on it is data -/
theorem Rl.unframe {K : Fg} {F G H : Hp} {m : List Addr} {S : Hs} {p : Addr} {o : HO} (hF : F p = none) (l : Rl K (upd F p o) G m S H) : Rl K F (upd G p o) m S H ∧ Ext G (upd G p o) := by
  obtain ⟨gp, mp⟩ := l.fd p o upd_same
  have hp : H p = some o := l.fr _ _ upd_same
  have ex : Ext G (upd G p o) := Ext.upd gp
  refine ⟨⟨fun a q h => ?_, fun a q h => ?_, fun a q h => ?_, l.mh, l.len, l.nd, fun n a q h1 h2 => ?_⟩, ex⟩
  · by_cases e : a = p
    · subst e; rw [upd_same] at h; cases h; exact hp
    · rw [upd_ne e] at h; exact l.ext _ _ h
  · have : a ≠ p := fun e => by rw [e, hF] at h; cases h
    exact l.fr a q (by rw [upd_ne this]; exact h)
  · have : a ≠ p := fun e => by rw [e, hF] at h; cases h
    obtain ⟨z1, z2⟩ := l.fd a q (by rw [upd_ne this]; exact h)
    exact ⟨by rw [upd_ne this]; exact z1, z2⟩
  · have ne : a ≠ p := fun e => mp (e ▸ List.mem_of_getElem? h1)
    rcases l.ob n a q h1 h2 with w | ⟨z1, vs, z2, z3⟩
    · exact .inl w
    · exact .inr ⟨by rw [upd_ne ne]; exact z1, vs, z2, z3.mono ex⟩
/-- a new list of the small heap -/
theorem Rl.new {K : Fg} {F G H : Hp} {m : List Addr} {S : Hs} {p : Addr} {ob : Ob} {ho : HO} (l : Rl K F G m S H) (hp : H p = none) (r : ObV K G p ob ho) : Rl K F G (m ++ [p]) (S ++ [ob]) (upd H p ho) := by
  have ex : Ext H (upd H p ho) := Ext.upd hp
  have gp : G p = none := by
    cases e : G p with
    | none => rfl
    | some q => rw [l.ext _ _ e] at hp; cases hp
  have pm : p ∉ m := fun h => by
    obtain ⟨q, z⟩ := l.mh _ h
    rw [z] at hp; cases hp
  refine ⟨l.ext.trans ex, l.fr.trans ex, fun a q h => ⟨(l.fd a q h).1, fun hm => ?_⟩, fun a ha => ?_, by simp [l.len], ?_, fun n a q h1 h2 => ?_⟩
  · rcases List.mem_append.mp hm with z | z
    · exact (l.fd a q h).2 z
    · simp at z; subst z; rw [l.fr _ _ h] at hp; cases hp
  · rcases List.mem_append.mp ha with z | z
    · obtain ⟨q, z⟩ := l.mh a z; exact ⟨q, ex _ _ z⟩
    · simp at z; subst z; exact ⟨_, upd_same⟩
  · rw [List.nodup_append]
    exact ⟨l.nd, by simp, fun a ha b hb => by simp at hb; subst hb; exact fun e => pm (e ▸ ha)⟩
  · by_cases hn : n < m.length
    · rw [List.getElem?_append_left hn] at h1
      rw [List.getElem?_append_left (by rw [← l.len]; exact hn)] at h2
      rcases l.ob n a q h1 h2 with w | ⟨z1, vs, z2, z3⟩
      · exact .inl w
      · exact .inr ⟨z1, vs, ex _ _ z2, z3⟩
    · rw [List.getElem?_append_right (by omega)] at h1
      rw [List.getElem?_append_right (by rw [← l.len]; omega), ← l.len] at h2
      cases e : n - m.length with
      | zero =>
        rw [e] at h1 h2
        simp at h1 h2
        subst h1; subst h2
        exact .inr ⟨gp, _, upd_same, r⟩
      | succ k => rw [e] at h1; simp at h1
/-- what stands in the small heap becomes data -/
theorem Rl.still {K : Fg} {F G H : Hp} {m : List Addr} {S : Hs} {n : Nat} {a : Addr} {ho : HO} (l : Rl K F G m S H) (hn : m[n]? = some a) (ga : G a = none) (ha : H a = some ho) :
    Ext G (upd G a ho) ∧ Rl K F (upd G a ho) m (S.set n .dead) H := by
  have ex : Ext G (upd G a ho) := Ext.upd ga
  refine ⟨ex, ⟨fun b q h => ?_, l.fr, fun b q h => ?_, l.mh, by simp [l.len], l.nd, fun k b q h1 h2 => ?_⟩⟩
  · by_cases e : b = a
    · subst e; rw [upd_same] at h; cases h; exact ha
    · rw [upd_ne e] at h; exact l.ext _ _ h
  · obtain ⟨z1, z2⟩ := l.fd b q h
    have : b ≠ a := fun e => z2 (e ▸ List.mem_of_getElem? hn)
    exact ⟨by rw [upd_ne this]; exact z1, z2⟩
  · by_cases e : n = k
    · subst e
      rw [List.getElem?_set_self (by rw [← l.len]; exact (List.getElem?_eq_some_iff.mp hn).1)] at h2
      cases h2; exact .inl rfl
    · rw [List.getElem?_set_ne e] at h2
      have ne : b ≠ a := fun q => e ((List.getElem?_inj (List.getElem?_eq_some_iff.mp hn).1 l.nd).mp (by rw [hn, h1, q]))
      rcases l.ob k b q h1 h2 with w | ⟨z1, vs, z2, z3⟩
      · exact .inl w
      · exact .inr ⟨by rw [upd_ne ne]; exact z1, vs, z2, z3.mono ex⟩
theorem Rl.freeze {K : Fg} {F G H : Hp} {m : List Addr} {S : Hs} {n : Nat} {a : Addr} {xs : List D} (l : Rl K F G m S H) (hn : m[n]? = some a) (hs : S[n]? = some (.lst xs)) :
    ∃ G', Ext G G' ∧ Rl K F G' m (S.set n .dead) H ∧ Rep K G' (.lst xs) (.ref a) := by
  obtain ⟨ga, vs, ha, r⟩ := (l.ob n a _ hn hs).lst
  obtain ⟨ex, l'⟩ := l.still hn ga ha
  exact ⟨_, ex, l', .lst upd_same (r.mono ex)⟩
/-- a thing of the small heap is changed -/
theorem Rl.turn {K : Fg} {F G H : Hp} {m : List Addr} {S : Hs} {n : Nat} {a : Addr} {ob : Ob} {ho : HO} (l : Rl K F G m S H) (hn : m[n]? = some a) (ga : G a = none) (r : ObV K G a ob ho) :
    Rl K F G m (S.set n ob) (upd H a ho) := by
  have am : a ∈ m := List.mem_of_getElem? hn
  refine ⟨fun b q h => ?_, fun b q h => ?_, l.fd, fun b hb => ?_, by simp [l.len], l.nd, fun k b q h1 h2 => ?_⟩
  · have : b ≠ a := fun e => by rw [e, ga] at h; cases h
    rw [upd_ne this]; exact l.ext _ _ h
  · have : b ≠ a := fun e => (l.fd b q h).2 (e ▸ am)
    rw [upd_ne this]; exact l.fr _ _ h
  · by_cases e : b = a
    · subst e; exact ⟨_, upd_same⟩
    · rw [upd_ne e]; exact l.mh b hb
  · by_cases e : n = k
    · subst e
      rw [List.getElem?_set_self (by rw [← l.len]; exact (List.getElem?_eq_some_iff.mp hn).1)] at h2
      cases h2
      rw [hn] at h1; cases h1
      exact .inr ⟨ga, _, upd_same, r⟩
    · rw [List.getElem?_set_ne e] at h2
      have ne : b ≠ a := fun q => e ((List.getElem?_inj (List.getElem?_eq_some_iff.mp hn).1 l.nd).mp (by rw [hn, h1, q]))
      rcases l.ob k b q h1 h2 with w | ⟨z1, vs, z2, z3⟩
      · exact .inl w
      · exact .inr ⟨z1, vs, by rw [upd_ne ne]; exact z2, z3⟩
theorem Rl.newl {K : Fg} {F G H : Hp} {m : List Addr} {S : Hs} {p : Addr} {xs : List D} {vs : List V} (l : Rl K F G m S H) (hp : H p = none) (r : Reps K G xs vs) : Rl K F G (m ++ [p]) (S ++ [.lst xs]) (upd H p (.lst vs)) := l.new hp (.lst r)
theorem Rl.change {K : Fg} {F G H : Hp} {m : List Addr} {S : Hs} {n : Nat} {a : Addr} {xs ys : List D} {ws : List V} (l : Rl K F G m S H) (hn : m[n]? = some a) (hs : S[n]? = some (.lst xs)) (r : Reps K G ys ws) :
    Rl K F G m (S.set n (.lst ys)) (upd H a (.lst ws)) := l.turn hn (l.ob n a _ hn hs).lst.1 (.lst r)
section
variable {nm : Nm} {cl : Nat → Addr} {P : Prg} {cal : Cal} {n : Nat} {X : Cx} {W : WX} {e l r : Expr} {es : List Expr} {pos : Pos} {x y z : Ex}
theorem e_newl (ha : PA X es (TXs nm cl X W (evs P cal x))) : PE X (.List es pos) (TX nm cl X W (ev P cal (.newl x))) := by
  refine PE.imp (pe_lst ha) fun σ H Q ⟨F, G, m, r, S, rl, rv, out⟩ => ?_
  simp only [ev] at out
  refine tX.bind rl rv out fun u1 H1 G1 m1 v1 S1 g1 l1 rv1 r1 out => ?_
  split at out
  · rename_i xs hx
    split at out
    · rename_i hz
      refine ⟨by rw [← r1.length]; exact small_line hz, fun p hp => ?_⟩
      refine out G1 (m1 ++ [p]) _ _ ⟨fun _ _ h => h, fun n a h => ?_⟩ (l1.newl hp (dsOf_reps r1 hx)) ⟨p, ?_, rfl⟩
      · rw [List.getElem?_append_left (List.getElem?_eq_some_iff.mp h).1]; exact h
      · rw [← l1.len]; simp
    · exact out.elim
  · exact out.elim
theorem e_frz {i : Nat} {s : Str} (hN : X.N[i]? = some s) (hv : visB X.env.scope s = true) (ho : okN s = true) : PE X (.Name s pos) (TX nm cl X W (ev P cal (.frz i))) := by
  refine PE.imp (pe_var hN (visB_d hv) (okN_d ho).1 (okN_d ho).2.1) fun σ H Q ⟨F, G, m, r, S, rl, rv, o⟩ => ?_
  simp only [ev] at o
  split at o
  · rename_i k hr
    obtain ⟨u, h1, h2⟩ := rv.2 i _ hr (fun _ _ z => by cases z)
    obtain ⟨a, h2, rfl⟩ := h2
    split at o
    · rename_i xs hs
      obtain ⟨G', ex, l', rp⟩ := rl.freeze h2 hs
      exact ⟨_, h1, o G' m H _ ⟨ex, fun _ _ h => h⟩ l' rp⟩
    · exact o.elim
  · exact o.elim
end
end Iv
end
section
set_option autoImplicit false
set_option maxRecDepth 100000
set_option maxHeartbeats 4000000
namespace Iv
open PySem L2
/-- one turn of a comprehension -/
def cmpF (P : Prg) (cal : Cal) (own : List Nat) (t : Tg) (c e : Ex) (r : Ev) : D → Hs → R (Option D) := fun x S2 => match asgD t x (wipes r own) with
  | none => .bad
  | some r1 => (ev P cal c r1 S2).bind fun k S3 => match k with
    | .d (.bl true) => (ev P cal e r1 S3).bind fun y S4 => match y with
      | .d y => .ok (some y) S4
      | _ => .bad
    | .d (.bl false) => .ok none S3
    | _ => .bad
theorem ev_comp {P : Prg} {cal : Cal} {own : List Nat} {t : Tg} {it c e : Ex} {r : Ev} {S : Hs} : ev P cal (.comp own t it c e) r S = (evi P cal it r S).bind fun xs S1 => if big < xs.length then .bad else
    (compL (cmpF P cal own t c e r) xs [] S1).bind fun ys S5 => .ok (.d (.lst ys)) S5 := rfl
section
variable {nm : Nm} {cl : Nat → Addr} {P : Prg} {cal : Cal} {n : Nat} {X : Cx} {W : WX}
abbrev noW : WX := fun _ _ _ _ => False
/-- the reading of a comprehension, whatever is made of the items -/
theorem comp_gen {wi : TI} {own : List Nat} {t : Tg} {it c e : Ex} {σ : L2.St} {H : Hp} {Q : VK} {kk : List D → Hs → R Vl} (hw : wi = TI' nm cl X W (evi P cal it)) (ht : tgIn own t = true)
    (fin : ∀ (F G2 : Hp) (m2 : List Addr) (S2 : Hs) (H2 : Hp) (acc : List D) (vacc : List V) (Da : Addr), F Da = none → Rl (kx cl X) (upd F Da (.lst vacc)) G2 m2 S2 H2 → Reps (kx cl X) G2 acc vacc → OutV nm.excs X.mg (kx cl X) W F σ G2 m2 Q (kk acc S2) → Q (.ref Da) H2)
    (h : ∃ (F G : Hp) (m : List Addr) (r : Ev) (S : Hs), Rl (kx cl X) F G m S H ∧ RlV (kx cl X) G m r σ ∧ OutV nm.excs X.mg (kx cl X) W F σ G m Q ((evi P cal it r S).bind fun xs S1 => if big < xs.length then .bad else
      (compL (cmpF P cal own t c e r) xs [] S1).bind kk)) : tLc wi (tgR (kx cl X) t) (tB (TX nm cl X noW (ev P cal c))) (TX nm cl X noW (ev P cal e)) own σ H Q := by
  subst hw
  obtain ⟨F, G, m, r, S, rl, rv, out⟩ := h
  refine tX.bind rl rv out fun J H1 G1 m1 xs S1 g1 l1 rv1 r1 out => ?_
  intro Da hD
  by_cases hbig : big < xs.length
  · rw [if_pos hbig] at out; exact out.elim
  rw [if_neg hbig] at out
  have hF : F Da = none := by
    cases q : F Da with
    | none => rfl
    | some o => rw [l1.fr _ _ q] at hD; cases hD
  let IV : Nat → Hp → Prop := fun i H => i ≤ xs.length ∧ ∃ (G2 : Hp) (m2 : List Addr) (S2 : Hs) (acc : List D) (vacc : List V), Grow G1 m1 G2 m2 ∧ Rl (kx cl X) (upd F Da (.lst vacc)) G2 m2 S2 H ∧ Reps (kx cl X) G2 acc vacc ∧ acc.length ≤ i ∧
    OutV nm.excs X.mg (kx cl X) W F σ G2 m2 Q ((compL (cmpF P cal own t c e r) (xs.drop i) acc S2).bind kk)
  refine ⟨fun i k H => k = xs.length - i ∧ IV i H, ⟨xs.length, by simp, Nat.zero_le _, G1, m1, S1, [], [], .refl, l1.framed hD, .nil, Nat.le_refl _, by simpa using out⟩, ?_⟩
  rintro i k H2 ⟨rfl, hi, G2, m2, S2, acc, vacc, g2, l2, racc, hacc, out2⟩
  by_cases hlt : i < xs.length
  · right
    refine ⟨r1.go i H2 (g2.1.trans l2.ext) hlt, IV (i + 1), fun H' iv => ⟨xs.length - (i + 1), by omega, rfl, iv⟩, fun x H3 hy => ?_⟩
    have hd : xs[i]? = some xs[i] := by simp [hlt]
    obtain ⟨G3, al, rep⟩ := r1.yld i G2 H2 x H3 _ g2.1 l2.ext hd hy
    have l3 := l2.al al
    have gr3 : Grow G2 m2 G3 m2 := al.grow l2.ext
    have hdrop : xs.drop i = xs[i] :: xs.drop (i + 1) := List.drop_eq_getElem_cons hlt
    rw [hdrop] at out2
    simp only [compL] at out2
    cases hf : cmpF P cal own t c e r xs[i] S2 with
    | bad => rw [hf] at out2; exact out2.elim
    | exc _ _ _ => rw [hf] at out2; exact out2.elim
    | ok o S4 =>
      rw [hf] at out2
      unfold cmpF at hf
      cases ha : asgD t xs[i] (wipes r own) with
      | none => rw [ha] at hf; cases hf
      | some r2 =>
        rw [ha] at hf
        dsimp only at hf
        refine ⟨G3, m2, wipes r own, r2, _, l3.ext, (rv1.mono (g2.trans gr3)).wipe own, rep, ha, fun σ2 rv2 keep => ⟨by rw [keep own ht]; exact wipe_twice _ _, ?_⟩⟩
        cases hc : ev P cal c r2 S2 with
        | bad => rw [hc] at hf; cases hf
        | exc _ _ _ => rw [hc] at hf; cases hf
        | ok kv S5 =>
          rw [hc] at hf
          simp only [R.bind] at hf
          refine ⟨_, G3, m2, r2, S2, l3, rv2, ?_⟩
          rw [hc]
          intro G5 m5 H5 u g5 l5 r5
          split at hf
          · cases r5
            refine ⟨true, rfl, iteT ?_⟩
            cases he : ev P cal e r2 S5 with
            | bad => rw [he] at hf; cases hf
            | exc _ _ _ => rw [he] at hf; cases hf
            | ok yv S6 =>
              rw [he] at hf
              simp only [R.bind] at hf
              refine ⟨_, G5, m5, r2, S5, l5, rv2.mono g5, ?_⟩
              rw [he]
              intro G6 m6 H6 u6 g6 l6 r6
              split at hf
              · cases hf
                refine ⟨vacc, l6.fr _ _ upd_same, ?_, by omega, G6, m6, _, _, _, (g2.trans gr3).trans (g5.trans g6), l6.reframe, ((racc.mono gr3.1).mono (g5.trans g6).1).append (.cons r6 .nil), ?_, Out.grow (gr3.trans (g5.trans g6)) out2⟩
                · rw [← racc.length, sizeLine_eq]
                  have : xs.length ≤ 1000000 := Nat.le_of_not_lt hbig
                  omega
                · rw [List.length_append]; simp; omega
              · cases hf
          · cases r5
            refine ⟨false, rfl, iteF ?_⟩
            cases hf
            exact ⟨by omega, G5, m5, _, _, vacc, (g2.trans gr3).trans g5, l5, (racc.mono gr3.1).mono g5.1, by omega, Out.grow (gr3.trans g5) out2⟩
          · cases hf
  · left
    have e : i = xs.length := by omega
    subst e
    refine ⟨r1.stop _ H2 (g2.1.trans l2.ext) (Nat.le_refl _) (Nat.le_refl _), ?_⟩
    rw [List.drop_length] at out2
    simp only [compL, R.bind] at out2
    exact fin F G2 m2 S2 H2 acc vacc Da hF l2 racc out2
/-- the reading of a comprehension -/
theorem comp_read {wi : TI} {own : List Nat} {t : Tg} {it c e : Ex} {σ : L2.St} {H : Hp} {Q : VK} (hw : wi = TI' nm cl X W (evi P cal it)) (ht : tgIn own t = true)
    (h : TX nm cl X W (ev P cal (.comp own t it c e)) σ H Q) : tLc wi (tgR (kx cl X) t) (tB (TX nm cl X noW (ev P cal c))) (TX nm cl X noW (ev P cal e)) own σ H Q := by
  refine comp_gen (kk := fun ys S5 => .ok (.d (.lst ys)) S5) hw ht (fun F G2 m2 S2 H2 acc vacc Da hF l2 racc out2 => ?_) ?_
  · obtain ⟨l3, ex⟩ := l2.unframe hF
    exact out2 _ m2 H2 _ ⟨ex, fun _ _ h => h⟩ l3 (.lst upd_same (racc.mono ex))
  · obtain ⟨F, G, m, r, S, rl, rv, out⟩ := h
    rw [ev_comp] at out
    exact ⟨F, G, m, r, S, rl, rv, out⟩
/-- what the frame bears goes into the small heap -/
theorem Rl.unframeM {K : Fg} {F G H : Hp} {m : List Addr} {S : Hs} {p : Addr} {xs : List D} {vs : List V} (hF : F p = none) (l : Rl K (upd F p (.lst vs)) G m S H) (r : Reps K G xs vs) : Rl K F G (m ++ [p]) (S ++ [.lst xs]) H := by
  obtain ⟨gp, mp⟩ := l.fd p _ upd_same
  have hp : H p = some (.lst vs) := l.fr _ _ upd_same
  refine ⟨l.ext, fun a q h => ?_, fun a q h => ?_, fun a ha => ?_, by simp [l.len], ?_, fun n a q h1 h2 => ?_⟩
  · have : a ≠ p := fun e => by rw [e, hF] at h; cases h
    exact l.fr a q (by rw [upd_ne this]; exact h)
  · have : a ≠ p := fun e => by rw [e, hF] at h; cases h
    obtain ⟨z1, z2⟩ := l.fd a q (by rw [upd_ne this]; exact h)
    exact ⟨z1, fun hm => by
      rcases List.mem_append.mp hm with z | z
      · exact z2 z
      · simp at z; exact this z⟩
  · rcases List.mem_append.mp ha with z | z
    · exact l.mh a z
    · simp at z; subst z; exact ⟨_, hp⟩
  · rw [List.nodup_append]
    exact ⟨l.nd, by simp, fun a ha b hb => by simp at hb; subst hb; exact fun e => mp (e ▸ ha)⟩
  · by_cases hn : n < m.length
    · rw [List.getElem?_append_left hn] at h1
      rw [List.getElem?_append_left (by rw [← l.len]; exact hn)] at h2
      exact l.ob n a q h1 h2
    · rw [List.getElem?_append_right (by omega)] at h1
      rw [List.getElem?_append_right (by rw [← l.len]; omega), ← l.len] at h2
      cases e : n - m.length with
      | zero =>
        rw [e] at h1 h2
        simp at h1 h2
        subst h1; subst h2
        exact .inr ⟨gp, _, hp, .lst r⟩
      | succ k => rw [e] at h1; simp at h1
theorem ev_newc {own : List Nat} {t : Tg} {it c e : Ex} {r : Ev} {S : Hs} : ev P cal (.newc own t it c e) r S = (evi P cal it r S).bind fun xs S1 => if big < xs.length then .bad else
    (compL (cmpF P cal own t c e r) xs [] S1).bind fun ys S5 => .ok (.loc S5.length) (S5 ++ [.lst ys]) := rfl
theorem newc_read {wi : TI} {own : List Nat} {t : Tg} {it c e : Ex} {σ : L2.St} {H : Hp} {Q : VK} (hw : wi = TI' nm cl X W (evi P cal it)) (ht : tgIn own t = true)
    (h : TX nm cl X W (ev P cal (.newc own t it c e)) σ H Q) : tLc wi (tgR (kx cl X) t) (tB (TX nm cl X noW (ev P cal c))) (TX nm cl X noW (ev P cal e)) own σ H Q := by
  refine comp_gen (kk := fun ys S5 => .ok (.loc S5.length) (S5 ++ [.lst ys])) hw ht (fun F G2 m2 S2 H2 acc vacc Da hF l2 racc out2 => ?_) ?_
  · have l3 := l2.unframeM hF racc
    refine out2 G2 (m2 ++ [Da]) H2 _ ⟨fun _ _ h => h, fun n a h => ?_⟩ l3 ⟨Da, ?_, rfl⟩
    · rw [List.getElem?_append_left (List.getElem?_eq_some_iff.mp h).1]; exact h
    · rw [← l2.len]; simp
  · obtain ⟨F, G, m, r, S, rl, rv, out⟩ := h
    rw [ev_newc] at out
    exact ⟨F, G, m, r, S, rl, rv, out⟩
end
end Iv
end
section
set_option autoImplicit false
set_option maxRecDepth 100000
set_option maxHeartbeats 4000000
namespace Iv
open PySem L2
/-! ### dicts -/
theorem RepKs.append {K : Fg} {G : Hp} : ∀ {xs ys : List (Ky × D)} {vs ws : List (Key × V)}, RepKs K G xs vs → RepKs K G ys ws → RepKs K G (xs ++ ys) (vs ++ ws)
  | _, _, _, _, .nil, s => s
  | _, _, _, _, .cons o h r, s => .cons o h (RepKs.append r s)
theorem kput_val {K : Fg} {G : Hp} {k : Ky} {x : D} {v : V} (ok : okK k) (r : Rep K G x v) {xs : List (Ky × D)} {kvs : List (Key × V)} (h : RepKs K G xs kvs) : RepKs K G (kput k x xs) (putK kvs (kyOf k) v) := by
  have dec : ∀ k' : Ky, decide (kyOf k' = kyOf k) = decide (k' = k) := fun k' => by
    by_cases e : k' = k
    · subst e; simp
    · rw [decide_eq_false e, decide_eq_false (fun q => e (kyOf_inj q))]
  have any_in : ∀ (xs : List (Ky × D)) (kvs : List (Key × V)), RepKs K G xs kvs → (kvs.any fun kv => decide (kv.1 = kyOf k)) = xs.any fun p => decide (p.1 = k) := by
    intro xs
    induction xs with
    | nil => intro kvs h; cases h; rfl
    | cons p xs ih =>
      intro kvs h
      cases h with
      | cons _ _ t => rw [List.any_cons, List.any_cons, ih _ t, dec]
  have mapped : ∀ (xs : List (Ky × D)) (kvs : List (Key × V)), RepKs K G xs kvs → RepKs K G (xs.map fun p => if p.1 = k then (p.1, x) else p) (kvs.map fun kv => if kv.1 = kyOf k then (kv.1, v) else kv) := by
    intro xs
    induction xs with
    | nil => intro kvs h; cases h; exact .nil
    | cons p xs ih =>
      intro kvs h
      cases h with
      | @cons k' _ _ _ _ o' r' t =>
        rw [List.map_cons, List.map_cons]
        by_cases e : k' = k
        · subst e
          rw [if_pos rfl, if_pos rfl]
          exact .cons o' r (ih _ t)
        · rw [if_neg e, if_neg fun q => e (kyOf_inj q)]
          exact .cons o' r' (ih _ t)
  unfold kput putK
  rw [any_in xs kvs h]
  by_cases ha : (xs.any fun p => decide (p.1 = k)) = true
  · rw [if_pos ha, if_pos ha]; exact mapped _ _ h
  · rw [if_neg ha, if_neg ha]; exact h.append (.cons ok r .nil)
theorem keyD_V {K : Fg} {G : Hp} {d : D} {u : V} {q : Ky} (r : Rep K G d u) (h : keyD d = some q) : u = kV (kyOf q) ∧ okK q := by
  cases r with
  | int i => cases h; exact ⟨rfl, trivial⟩
  | str s o => cases h; exact ⟨rfl, o⟩
  | _ => cases h
/-- a dict that is read -/
theorem rdK_rd {K : Fg} {F G H : Hp} {m : List Addr} {S : Hs} {v : Vl} {u : V} {xs : List (Ky × D)} (l : Rl K F G m S H) (r : RepV K G m v u) (h : rdK v S = some xs) : ∃ a ks, u = .ref a ∧ Rd H a (.dK ks) ∧ RepKs K G xs ks := by
  unfold rdK at h
  split at h
  · cases h
    cases r with
    | dct h1 h2 => exact ⟨_, _, rfl, .inr ⟨_, l.ext _ _ h1⟩, h2⟩
  · rename_i n
    obtain ⟨a, ha, rfl⟩ := r
    split at h
    · rename_i kvs hs
      cases h
      obtain ⟨_, ks, h2, h3⟩ := (l.ob n a _ ha hs).dct
      exact ⟨a, ks, rfl, .inl h2, h3⟩
    · cases h
  · cases h
/-- a new dict is locked for ever -/
theorem pe_lock {X : Cx} {e : Expr} {t : TE} (h : PE X e t) : PE X e (fun σ H Q => t σ H fun x H1 => ∃ p kvs, x = .ref p ∧ H1 p = some (.dK kvs) ∧ ∀ o, Q x (upd H1 p (.frz o (.dK kvs)))) := by
  refine ⟨fun pins s σ H Q I hw => thn (h.run pins s σ H _ I hw) fun v s' ⟨x, H1, I1, rx, p, kvs, ex, hp, q⟩ => ?_⟩
  obtain ⟨od, I2⟩ := I1.lock hp trivial
  exact ⟨x, _, I2, rx, q od⟩
theorem upd_upd {H : Hp} {p : Addr} {a b : HO} : upd (upd H p a) p b = upd H p b := by
  funext q
  by_cases e : q = p
  · subst e; rw [upd_same, upd_same]
  · rw [upd_ne e, upd_ne e, upd_ne e]
section
variable {nm : Nm} {cl : Nat → Addr} {P : Prg} {cal : Cal} {n : Nat} {X : Cx} {W : WX} {e l r : Expr} {es : List Expr} {pos : Pos} {x y z : Ex}
theorem e_dct0 : PE X (.Dict [] [] pos) (TX nm cl X W (ev P cal .dct0)) := by
  refine PE.imp (pe_lock pe_dnewK) fun σ H Q ⟨F, G, m, r, S, rl, rv, out⟩ => ?_
  simp only [ev] at out
  intro p hp
  refine ⟨p, [], rfl, upd_same, fun o => ?_⟩
  rw [upd_upd]
  exact Out.gives out rl _ _ _ (Al.one hp) (.dct upd_same .nil)
theorem e_newd : PE X (.Dict [] [] pos) (TX nm cl X W (ev P cal .newd)) := by
  refine PE.imp pe_dnewK fun σ H Q ⟨F, G, m, r, S, rl, rv, out⟩ => ?_
  simp only [ev] at out
  intro p hp
  refine out G (m ++ [p]) _ _ ⟨fun _ _ h => h, fun n a h => ?_⟩ (rl.new hp (.dct .nil)) ⟨p, ?_, rfl⟩
  · rw [List.getElem?_append_left (List.getElem?_eq_some_iff.mp h).1]; exact h
  · rw [← rl.len]; simp
theorem e_dix (C : Ck nm cl P cal n X W) (hp : PlainIx r) (ha : PE X l (TX nm cl X W (ev P cal x))) (hb : PE X r (TX nm cl X W (ev P cal y))) : PE X (.Subscript l r pos) (TX nm cl X W (ev P cal (.dix x y))) := by
  refine PE.imp (pe_dget (Nat.lt_of_le_of_lt (by omega) C.room.units) ha hb hp) fun σ H Q ⟨F, G, m, r, S, rl, rv, out⟩ => ?_
  simp only [ev] at out
  refine tX.bind rl rv out fun u1 H1 G1 m1 v1 S1 g1 l1 rv1 r1 out => ?_
  refine tX.bind l1 rv1 out fun u2 H2 G2 m2 v2 S2 g2 l2 rv2 r2 out => ?_
  split at out
  · rename_i kvs b ea
    obtain ⟨d, hd, g⟩ := Out.optD out l2
    obtain ⟨a, ks, rfl, h1, h2⟩ := rdK_rd l2 (r1.mono g2) ea
    cases hk : keyD b with
    | none => rw [hk] at hd; cases hd
    | some q =>
      rw [hk] at hd
      obtain ⟨rfl, ok⟩ := keyD_V r2 hk
      rcases h2.val q with ⟨e1, _⟩ | ⟨w, v, e1, e2, e3⟩
      · rw [Option.bind_some, e1] at hd; cases hd
      · rw [Option.bind_some, e1] at hd; cases hd
        exact ⟨a, v, rfl, .inl ⟨ks, _, h1, rfl, e2.symm⟩, g.here e3⟩
  · exact out.elim
theorem din_read {ng : Bool} {σ : L2.St} {H : Hp} {Q : VK} (h : TX nm cl X W (ev P cal (.din ng x y)) σ H Q) :
    TX nm cl X W (ev P cal x) σ H fun y' H1 => TX nm cl X W (ev P cal y) σ H1 fun x' H2 => ∃ a o, x' = .ref a ∧ DGet H2 a y' o ∧ Q (.bl (if ng then !o.isSome else o.isSome)) H2 := by
  obtain ⟨F, G, m, r, S, rl, rv, out⟩ := h
  simp only [ev] at out
  refine tX.bind rl rv out fun u1 H1 G1 m1 v1 S1 g1 l1 rv1 r1 out => ?_
  refine tX.bind l1 rv1 out fun u2 H2 G2 m2 v2 S2 g2 l2 rv2 r2 out => ?_
  cases v1 with
  | loc _ => cases hq : rdK v2 S2 <;> rw [hq] at out <;> exact out.elim
  | xc _ _ => cases hq : rdK v2 S2 <;> rw [hq] at out <;> exact out.elim
  | d b =>
  cases ea : rdK v2 S2 with
  | none => rw [ea] at out; exact out.elim
  | some kvs =>
    rw [ea] at out
    dsimp only at out
    obtain ⟨a, ks, rfl, h1, h2⟩ := rdK_rd l2 r2 ea
    cases hk : keyD b with
    | none => rw [hk] at out; exact out.elim
    | some q =>
      rw [hk] at out
      obtain ⟨rfl, ok⟩ := keyD_V (Rep.mono g2.1 r1) hk
      have hb : ((valV ks (kyOf q)).isSome) = (kget q kvs).isSome := by
        rcases h2.val q with ⟨e1, e2⟩ | ⟨w, v, e1, e2, e3⟩
        · rw [e1, e2]; rfl
        · rw [e1, e2]; rfl
      refine ⟨a, _, rfl, .inl ⟨ks, _, h1, rfl, rfl⟩, ?_⟩
      rw [hb]
      exact (Out.gives out l2).here (.bl _)
theorem e_din {ng : Bool} (C : Ck nm cl P cal n X W) (hm : behindInMarks (if ng then .NotIn else .In) r = false) (ha : PE X l (TX nm cl X W (ev P cal x))) (hb : PE X r (TX nm cl X W (ev P cal y))) : PE X (.Compare l [if ng then .NotIn else .In] [r] pos) (TX nm cl X W (ev P cal (.din ng x y))) := by
  have hu : X.A.units + 1 < cLine := Nat.lt_of_le_of_lt (by omega) C.room.units
  have key : PE X (.Compare l [if ng then .NotIn else .In] [r] pos) (fun σ H Q => TX nm cl X W (ev P cal x) σ H fun y' H1 => TX nm cl X W (ev P cal y) σ H1 fun x' H2 => ∃ a o, x' = .ref a ∧ DGet H2 a y' o ∧ Q (.bl (if ng then !o.isSome else o.isSome)) H2) := by
    cases ng with
    | true => exact pe_cmp (pc_dnotin hu ha hb) hm
    | false => exact pe_cmp (pc_din hu ha hb) hm
  exact PE.imp key fun σ H Q h => din_read h
theorem t_din {ng : Bool} (C : Ck nm cl P cal n X W) (hm : behindInMarks (if ng then .NotIn else .In) r = false) (ha : PE X l (TX nm cl X W (ev P cal x))) (hb : PE X r (TX nm cl X W (ev P cal y))) : PT X (.Compare l [if ng then .NotIn else .In] [r] pos) (tB (TX nm cl X W (ev P cal (.din ng x y)))) := by
  have hu : X.A.units + 1 < cLine := Nat.lt_of_le_of_lt (by omega) C.room.units
  have key : PT X (.Compare l [if ng then .NotIn else .In] [r] pos) (tB fun σ H Q => TX nm cl X W (ev P cal x) σ H fun y' H1 => TX nm cl X W (ev P cal y) σ H1 fun x' H2 => ∃ a o, x' = .ref a ∧ DGet H2 a y' o ∧ Q (.bl (if ng then !o.isSome else o.isSome)) H2) := by
    cases ng with
    | true => exact pt_cmp (pc_dnotin hu ha hb) hm
    | false => exact pt_cmp (pc_din hu ha hb) hm
  exact PT.imp key fun σ H Q h => din_read h
theorem e_dgt {a1 a2 : Expr} {ap : Pos} {sc : Scope} {N : List Str} (C : Ck nm cl P cal n X W) (h0 : noC0 l = true) (hl : (ap.endLine == pos.line) = true) (hs : isE nm N sc y a1 = true) (hs2 : isE nm N sc z a2 = true)
    (ha : PE X l (TX nm cl X W (ev P cal x))) (hb : PE X a1 (TX nm cl X W (ev P cal y))) (hc : PE X a2 (TX nm cl X W (ev P cal z))) : PE X (.Call (.Attribute l "get" ap) [a1, a2] [] pos) (TX nm cl X W (ev P cal (.dgt x y z))) := by
  have m : M2 X l "get" ap a1 a2 pos := ⟨base_e h0, by rw [star_e hs, star_e hs2]; rfl, hl, by rw [star_e hs, star_e hs2]; rfl⟩
  refine PE.imp (pe_dget2 (Nat.lt_of_le_of_lt (by omega) C.room.units) ha hb hc m) fun σ H Q ⟨F, G, m, r, S, rl, rv, out⟩ => ?_
  simp only [ev] at out
  refine tX.bind rl rv out fun u1 H1 G1 m1 v1 S1 g1 l1 rv1 r1 out => ?_
  split at out
  · rename_i kvs0 ea0
    obtain ⟨a, ks0, rfl, h1, h2⟩ := rdK_rd l1 r1 ea0
    refine ⟨a, rfl, .inl ⟨_, h1⟩, tX.bind l1 rv1 out fun u2 H2 G2 m2 v2 S2 g2 l2 rv2 r2 out => ?_⟩
    refine tX.bind l2 rv2 out fun u3 H3 G3 m3 v3 S3 g3 l3 rv3 r3 out => ?_
    cases v2 with
    | loc _ => cases hq : rdK v1 S3 <;> rw [hq] at out <;> exact out.elim
    | xc _ _ => cases hq : rdK v1 S3 <;> rw [hq] at out <;> exact out.elim
    | d b =>
    cases v3 with
    | loc _ => cases hq : rdK v1 S3 <;> rw [hq] at out <;> exact out.elim
    | xc _ _ => cases hq : rdK v1 S3 <;> rw [hq] at out <;> exact out.elim
    | d w =>
    cases ea : rdK v1 S3 with
    | none => rw [ea] at out; exact out.elim
    | some kvs =>
      rw [ea] at out
      dsimp only at out
      obtain ⟨a', ks, e', h3, h4⟩ := rdK_rd l3 (r1.mono (g2.trans g3)) ea
      cases e'
      cases hk : keyD b with
      | none => rw [hk] at out; exact out.elim
      | some q =>
        rw [hk] at out
        obtain ⟨rfl, ok⟩ := keyD_V (Rep.mono g3.1 r2) hk
        rcases h4.val q with ⟨e1, e2⟩ | ⟨w', v, e1, e2, e3⟩
        · refine ⟨none, .inl ⟨ks, _, h3, rfl, e2.symm⟩, ?_⟩
          have o2 := Out.gives (d := w) (by simpa [e1, R.opt] using out) l3
          exact o2.here r3
        · refine ⟨some v, .inl ⟨ks, _, h3, rfl, e2.symm⟩, ?_⟩
          have o2 := Out.gives (d := w') (by simpa [e1, R.opt] using out) l3
          exact o2.here e3
  · exact out.elim
/-- one turn of a dict comprehension -/
def dcmF (P : Prg) (cal : Cal) (own : List Nat) (t : Tg) (c k e : Ex) (r : Ev) : D → Hs → R (Option (Ky × D)) := fun x S2 => match asgD t x (wipes r own) with
  | none => .bad
  | some r1 => (ev P cal c r1 S2).bind fun b S3 => match b with
    | .d (.bl true) => (ev P cal k r1 S3).bind fun y S4 => (ev P cal e r1 S4).bind fun z S5 => match y, z with
      | .d y, .d z => match keyD y with
        | some q => .ok (some (q, z)) S5
        | none => .bad
      | _, _ => .bad
    | .d (.bl false) => .ok none S3
    | _ => .bad
theorem ev_dcmp {own : List Nat} {t : Tg} {it c k e : Ex} {r : Ev} {S : Hs} : ev P cal (.dcmp own t it c k e) r S = (evi P cal it r S).bind fun xs S1 => if big < xs.length then .bad else
    (dcmpL (dcmF P cal own t c k e r) xs [] S1).bind fun ys S5 => .ok (.d (.dct ys)) S5 := rfl
theorem kput_len (k : Ky) (x : D) (xs : List (Ky × D)) : (kput k x xs).length ≤ xs.length + 1 := by
  unfold kput
  split
  · rw [List.length_map]; omega
  · rw [List.length_append]; simp
/-- the reading of a dict comprehension -/
theorem dcmp_read {wi : TI} {own : List Nat} {t : Tg} {it c k e : Ex} {σ : L2.St} {H : Hp} {Q : VK} (hw : wi = TI' nm cl X W (evi P cal it)) (ht : tgIn own t = true)
    (h : TX nm cl X W (ev P cal (.dcmp own t it c k e)) σ H Q) : tDc wi (tgR (kx cl X) t) (tB (TX nm cl X noW (ev P cal c))) (TX nm cl X noW (ev P cal k)) (TX nm cl X noW (ev P cal e)) own σ H
      fun x H1 => ∃ p kvs, x = .ref p ∧ H1 p = some (.dK kvs) ∧ ∀ o, Q x (upd H1 p (.frz o (.dK kvs))) := by
  subst hw
  obtain ⟨F, G, m, r, S, rl, rv, out⟩ := h
  rw [ev_dcmp] at out
  refine tX.bind rl rv out fun J H1 G1 m1 xs S1 g1 l1 rv1 r1 out => ?_
  intro Da hD
  by_cases hbig : big < xs.length
  · rw [if_pos hbig] at out; exact out.elim
  rw [if_neg hbig] at out
  have hF : F Da = none := by
    cases q : F Da with
    | none => rfl
    | some o => rw [l1.fr _ _ q] at hD; cases hD
  let IV : Nat → Hp → Prop := fun i H => i ≤ xs.length ∧ ∃ (G2 : Hp) (m2 : List Addr) (S2 : Hs) (acc : List (Ky × D)) (vacc : List (Key × V)), Grow G1 m1 G2 m2 ∧ Rl (kx cl X) (upd F Da (.dK vacc)) G2 m2 S2 H ∧ RepKs (kx cl X) G2 acc vacc ∧ acc.length ≤ i ∧
    OutV nm.excs X.mg (kx cl X) W F σ G2 m2 Q ((dcmpL (dcmF P cal own t c k e r) (xs.drop i) acc S2).bind fun ys S5 => .ok (.d (.dct ys)) S5)
  refine ⟨fun i k H => k = xs.length - i ∧ IV i H, ⟨xs.length, by simp, Nat.zero_le _, G1, m1, S1, [], [], .refl, l1.framed hD, .nil, Nat.le_refl _, by simpa using out⟩, ?_⟩
  rintro i kk H2 ⟨rfl, hi, G2, m2, S2, acc, vacc, g2, l2, racc, hacc, out2⟩
  by_cases hlt : i < xs.length
  · right
    refine ⟨r1.go i H2 (g2.1.trans l2.ext) hlt, IV (i + 1), fun H' iv => ⟨xs.length - (i + 1), by omega, rfl, iv⟩, fun x H3 hy => ?_⟩
    have hd : xs[i]? = some xs[i] := by simp [hlt]
    obtain ⟨G3, al, rep⟩ := r1.yld i G2 H2 x H3 _ g2.1 l2.ext hd hy
    have l3 := l2.al al
    have gr3 : Grow G2 m2 G3 m2 := al.grow l2.ext
    have hdrop : xs.drop i = xs[i] :: xs.drop (i + 1) := List.drop_eq_getElem_cons hlt
    rw [hdrop] at out2
    simp only [dcmpL] at out2
    cases hf : dcmF P cal own t c k e r xs[i] S2 with
    | bad => rw [hf] at out2; exact out2.elim
    | exc _ _ _ => rw [hf] at out2; exact out2.elim
    | ok o S4 =>
      rw [hf] at out2
      unfold dcmF at hf
      cases ha : asgD t xs[i] (wipes r own) with
      | none => rw [ha] at hf; cases hf
      | some r2 =>
        rw [ha] at hf
        dsimp only at hf
        refine ⟨G3, m2, wipes r own, r2, _, l3.ext, (rv1.mono (g2.trans gr3)).wipe own, rep, ha, fun σ2 rv2 keep => ⟨by rw [keep own ht]; exact wipe_twice _ _, ?_⟩⟩
        cases hc : ev P cal c r2 S2 with
        | bad => rw [hc] at hf; cases hf
        | exc _ _ _ => rw [hc] at hf; cases hf
        | ok kv S5 =>
          rw [hc] at hf
          simp only [R.bind] at hf
          refine ⟨_, G3, m2, r2, S2, l3, rv2, ?_⟩
          rw [hc]
          intro G5 m5 H5 u g5 l5 r5
          split at hf
          · cases r5
            refine ⟨true, rfl, iteT ?_⟩
            cases he : ev P cal k r2 S5 with
            | bad => rw [he] at hf; cases hf
            | exc _ _ _ => rw [he] at hf; cases hf
            | ok yv S6 =>
              rw [he] at hf
              dsimp only at hf
              refine ⟨_, G5, m5, r2, S5, l5, rv2.mono g5, ?_⟩
              rw [he]
              intro G6 m6 H6 u6 g6 l6 r6
              cases hz : ev P cal e r2 S6 with
              | bad => rw [hz] at hf; cases hf
              | exc _ _ _ => rw [hz] at hf; cases hf
              | ok zv S7 =>
                rw [hz] at hf
                dsimp only at hf
                refine ⟨_, G6, m6, r2, S6, l6, rv2.mono (g5.trans g6), ?_⟩
                rw [hz]
                intro G7 m7 H7 u7 g7 l7 r7
                cases yv with
                | loc _ => cases hf
                | xc _ _ => cases hf
                | d y =>
                cases zv with
                | loc _ => cases hf
                | xc _ _ => cases hf
                | d zz =>
                dsimp only at hf
                cases hk : keyD y with
                | none => rw [hk] at hf; cases hf
                | some q =>
                  rw [hk] at hf
                  cases hf
                  obtain ⟨rfl, ok⟩ := keyD_V r6 hk
                  refine ⟨vacc, kyOf q, rfl, l7.fr _ _ upd_same, ?_, by omega, G7, m7, _, _, _, (g2.trans gr3).trans ((g5.trans g6).trans g7), l7.reframe, kput_val ok r7 ((racc.mono gr3.1).mono ((g5.trans g6).trans g7).1), ?_, Out.grow (gr3.trans ((g5.trans g6).trans g7)) out2⟩
                  · rw [← racc.length, sizeLine_eq]
                    have : xs.length ≤ 1000000 := Nat.le_of_not_lt hbig
                    omega
                  · have := kput_len q zz acc; omega
          · cases r5
            refine ⟨false, rfl, iteF ?_⟩
            cases hf
            exact ⟨by omega, G5, m5, _, _, vacc, (g2.trans gr3).trans g5, l5, (racc.mono gr3.1).mono g5.1, by omega, Out.grow (gr3.trans g5) out2⟩
          · cases hf
  · left
    have e : i = xs.length := by omega
    subst e
    refine ⟨r1.stop _ H2 (g2.1.trans l2.ext) (Nat.le_refl _) (Nat.le_refl _), Da, vacc, rfl, l2.fr _ _ upd_same, fun o => ?_⟩
    rw [List.drop_length] at out2
    simp only [dcmpL, R.bind] at out2
    have l2' := l2.reframe (o' := .frz o (.dK vacc))
    obtain ⟨l3, ex⟩ := l2'.unframe hF
    exact out2 _ m2 _ _ ⟨ex, fun _ _ h => h⟩ l3 (.dct upd_same (racc.mono ex))
end
end Iv
end
section
set_option autoImplicit false
set_option maxRecDepth 100000
set_option maxHeartbeats 4000000
namespace Iv
open PySem L2
/-! ### tuples whose object is known -/
/-- the object of a new tuple -/
abbrev tupO (us : List Value) : Obj := { cls := .type "tuple", data := .seq us.toArray }
section
variable {X : Cx} {es : List Expr} {t : TA} {pos : Pos}
theorem pe_tupP {k : Nat} (h : PA X es t) : PE X (.Tuple es k pos) (fun σ H Q => t σ H fun xs H1 => xs.length ≤ sizeLine ∧ ∀ p us, H1 p = none → Q (.ref p) (upd H1 p (.frz (tupO us) (.tup xs)))) := by
  refine ⟨fun pins s σ H Q I hq => wpAny_Tuple_spliced (thn (h.run pos pins s σ H _ I hq) fun us s1 ⟨xs, H1, I1, r, z, q⟩ => ⟨by rw [← r.length]; exact z, ?_⟩)⟩
  have fr : H1 s1.heap.objs.size = none := I1.hok.fresh (Nat.le_refl _)
  have at_ : (s1.heap.push (tupO us)).get? s1.heap.objs.size = some (tupO us) := Heap.get?_push_size _ rfl
  exact ⟨.ref s1.heap.objs.size, _, I1.laid (t' := s1.toks) (o := .frz (tupO us) (.tup xs)) (fun b u e => Heap.get?_push_of_some _ e) (Nat.le_refl _) ⟨at_, z, us, r, ⟨_, at_, rfl, _, rfl⟩⟩, rfl, q _ us fr⟩
theorem call_tupP : CallR X (.type "tuple") (fun xs H Q => ∃ p ys, xs = [.ref p] ∧ SqL X.K H p ys ∧ (ys.length ≤ sizeLine → ∀ l us, H l = none → Q (.ref l) (upd H l (.frz (tupO us) (.tup ys))))) := by
  intro pins s σ H xs us Q I r h
  obtain ⟨p, ys, rfl, hq, q⟩ := h
  obtain rfl := Vals.ref1 r
  obtain ⟨its, r', pl, hz⟩ := I.list hq
  have hlen := r'.length
  refine call_tuple_list pl.isList (fun h' kp => ?_) (by simp only [List.size_toArray]; omega)
  have I1 : Inv X pins σ H { s with heap := h' } := I.kept (t' := s.toks) kp
  have at_ : (h'.push (tupO its)).get? h'.objs.size = some (tupO its) := Heap.get?_push_size _ rfl
  exact ⟨.ref h'.objs.size, _, I1.laid (t' := s.toks) (o := .frz (tupO its) (.tup ys)) (fun b o e => Heap.get?_push_of_some _ e) (Nat.le_refl _) ⟨at_, hz, its, r', ⟨_, at_, rfl, _, rfl⟩⟩, rfl, q hz _ its (I1.hok.fresh (Nat.le_refl _))⟩
/-! ### dict(pairs) -/
end
theorem list_choose {α β : Type} (l : List α) (R : Nat → α → β → Prop) (h : ∀ (j : Nat) (a : α), l[j]? = some a → ∃ b, R j a b) : ∃ bs : List β, bs.length = l.length ∧ ∀ (j : Nat) (a : α) (b : β), l[j]? = some a → bs[j]? = some b → R j a b := by
  induction l generalizing R with
  | nil => exact ⟨[], rfl, fun j a b e => by simp at e⟩
  | cons x l ih =>
    obtain ⟨bs, h1, h2⟩ := ih (fun j => R (j + 1)) fun j a e => h (j + 1) a (by simpa using e)
    obtain ⟨b, hb⟩ := h 0 x rfl
    refine ⟨b :: bs, by simp [h1], fun j a c e1 e2 => ?_⟩
    cases j with
    | zero => simp at e1 e2; subst e1; subst e2; exact hb
    | succ j => exact h2 j a c (by simpa using e1) (by simpa using e2)
section
variable {X : Cx} {es : List Expr} {t : TA} {pos : Pos}
/-- the pairs of a tuple whose object is known -/
theorem call_dofP (hc : X.calm = true) : CallR X (.type "dict") (fun xs H Q => ∃ (a : Addr) (ps : List Addr) (kvs : List (Key × V)), xs = [.ref a] ∧ SqP X.K H a (ps.map V.ref) ∧ Paired (fun p kv => SqT X.K H p [kV kv.1, kv.2]) ps kvs ∧
    ∀ p, H p = none → Q (.ref p) (upd H p (.dK (mergeK [] kvs)))) := by
  intro pins s σ H xs us Q I r h
  obtain ⟨a, ps, kvs, rfl, hq, hp, q⟩ := h
  obtain rfl := Vals.ref1 r
  obtain ⟨prs, rel, hl, hpr⟩ := pairs_of I hp
  obtain ⟨o, its, n, h1, h2, h3, h4, hz⟩ := hq
  have hget : s.heap.get? a = some o ∧ Vals (ps.map V.ref) its := by
    rcases h1 with h1 | ⟨h1, h6⟩
    · obtain ⟨e1, e2⟩ := (show ObjOk X.prog X.w H s.heap a (.frz o (.tup (ps.map V.ref))) from I.hok a _ h1)
      obtain ⟨_, its', rv, o', ho', hc', n', hd'⟩ := e2
      rw [e1] at ho'; cases ho'
      rw [h4] at hd'
      injection hd' with d1 _
      have : its = its' := by simpa using congrArg Array.toList d1
      subst this
      exact ⟨e1, rv⟩
    · exact ⟨I.kIn a o h1, h6⟩
  obtain ⟨hget, rv⟩ := hget
  have ei := refs_at rv
  subst ei
  rw [List.length_map] at hz
  obtain ⟨us, hul, hus⟩ := list_choose prs (fun j q u => ∃ b, ps[j]? = some b ∧ PyProof.Rows.IsTup s.heap b #[u, q.2] ∧ keyIs q.1 u = true) fun j q e => by
    obtain ⟨b, u, e1, e2, e3⟩ := hpr j q e
    exact ⟨u, b, e1, e2, e3⟩
  have zl : (us.zip (prs.map (·.2))).length = prs.length := by simp [hul]
  have zg : ∀ (j : Nat) (k v : Value), (us.zip (prs.map (·.2)))[j]? = some (k, v) → ∃ q, prs[j]? = some q ∧ us[j]? = some k ∧ v = q.2 := fun j k v e => by
    rw [List.getElem?_zip_eq_some] at e
    obtain ⟨e1, e2⟩ := e
    rw [List.getElem?_map] at e2
    cases e3 : prs[j]? with
    | none => rw [e3] at e2; cases e2
    | some q => rw [e3] at e2; cases e2; exact ⟨q, rfl, e1, rfl⟩
  refine PySem.call_dict_pairs (knd := mixKind X.prog X.w) (kvs := prs) (PairArg.tuple a ((ps.map Value.ref).toArray) (fun j => (ps[j]?).getD 0) (us.zip (prs.map (·.2)))) (I.ok.hd hc) ⟨⟨o, n, hget, h2, h3, h4⟩, by simp [hul, hl], fun j k v e => ?_⟩ ⟨zl.symm, fun j k v e => ?_⟩ (by rw [zl, hl]; exact hz) fun h' tk hd' hk => ?_
  · obtain ⟨q, e1, e2, rfl⟩ := zg j k v e
    obtain ⟨b, e3, e4, _⟩ := hus j q k e1 e2
    refine ⟨by simp [e3], .inl ?_⟩
    show s.heap.IsTuple ((ps[j]?).getD 0) _
    rw [e3]
    exact e4
  · obtain ⟨q, e1, e2, rfl⟩ := zg j k v e
    obtain ⟨b, _, _, e5⟩ := hus j q k e1 e2
    exact ⟨q.1, e1, e5⟩
  · have hm : (s.heap.objs.size == sysModules) = false := beq_eq_false_iff_ne.mpr (Nat.ne_of_gt I.big)
    have hlen : (mergeK [] kvs).length ≤ sizeLine := by
      refine Nat.le_trans (length_mergeK kvs []) ?_
      rw [List.length_nil, Nat.zero_add, rel.length, hl]
      exact hz
    have kp : ∀ b o, s.heap.get? b = some o → h'.get? b = some o := fun b o e => hk b o (by simp) e
    exact ⟨.ref s.heap.objs.size, _, I.laid (t' := tk) (o := .dK (mergeK [] kvs)) kp (Nat.le_refl _) ⟨hlen, hm, _, KV.merge rel .nil, hd'⟩, rfl, q _ (I.hok.fresh (Nat.le_refl _))⟩
/-! ### d == {} -/
theorem op_deq0 {ng : Bool} (hu : X.A.units < cLine) : OpR X (compareOp (if ng then .NotEq else .Eq)) (fun x y H Q => ∃ a b ks, x = .ref a ∧ y = .ref b ∧ Rd H a (.dK ks) ∧ H b = some (.dK []) ∧ Q (.bl (if ng then !ks.isEmpty else ks.isEmpty)) H) := by
  intro pins s σ H x y v u Q I rx ry h
  obtain ⟨a, b, ks, rfl, rfl, ea, eb, q⟩ := h
  obtain rfl : v = Value.ref a := rx
  obtain rfl : u = Value.ref b := ry
  obtain ⟨_, ya, va, ra, da⟩ := dk_rd I.hok ea
  obtain ⟨_, yb, vb, rb, db⟩ := dk_rd I.hok (.inl eb)
  cases rb
  have em : ∀ r : Bool, (va.length = ([] : List (Key × Value)).length → r = true) → (va.length == ([] : List (Key × Value)).length && r) = ks.isEmpty := fun r hr => by
    have e1 : ks.length = va.length := ra.length
    cases ks with
    | nil => cases va with
      | nil => rw [hr rfl]; rfl
      | cons _ _ => simp at e1
    | cons _ _ => cases va with
      | nil => simp at e1
      | cons _ _ => rfl
  have hits : va.length = ([] : List (Key × Value)).length → PySem.W.KeqHits X.A.in1 s ([] : List (Key × Value)) va true := fun h => by
    cases va with
    | nil => exact .nil
    | cons _ _ => simp at h
  cases ng with
  | false => exact PySem.W.keq_eq (knd := mixKind X.prog X.w) (r := true) ya yb da db hu hits (by rw [em true fun _ => rfl]; exact ⟨.bl _, H, I, rfl, q⟩)
  | true => exact PySem.W.keq_ne (knd := mixKind X.prog X.w) (r := true) ya yb da db hu hits (by rw [em true fun _ => rfl]; exact ⟨.bl _, H, I, rfl, q⟩)
end
/-! ### sorted -/
mutual
theorem lt_py : ∀ (x y : D) (n m : Nat), D.plain x n = true → D.plain y m = true → D.alike x y = true → PySem.W.alike (toPy x) (toPy y) = true ∧ PySem.W.dataLt (toPy x) (toPy y) = D.lt x y
  | .int i, y, n, m, h1, h2, h => by
    cases y with
    | int j => exact ⟨rfl, PySem.W.dataLt_int _ _⟩
    | _ => cases h
  | .bl b, y, n, m, h1, h2, h => by
    cases y with
    | bl c => exact ⟨rfl, by rw [show toPy (.bl b) = .bool b from rfl, show toPy (.bl c) = .bool c from rfl, PySem.W.dataLt_bool]; cases b <;> cases c <;> decide⟩
    | _ => cases h
  | .str s, y, n, m, h1, h2, h => by
    cases y with
    | str t => exact ⟨rfl, by rw [show toPy (.str s) = .str (S' s) from rfl, show toPy (.str t) = .str (S' t) from rfl, PySem.W.dataLt_str, S'_list, S'_list, ← ltCs_iff]; rfl⟩
    | _ => cases h
  | .tup xs, y, n, m, h1, h2, h => by
    cases y with
    | tup ys =>
      cases n with
      | zero => cases h1
      | succ n => cases m with
        | zero => cases h2
        | succ m =>
          obtain ⟨a1, a2⟩ := lts_py xs ys n m h1 h2 h
          exact ⟨a1, by rw [show toPy (.tup xs) = .tuple (toPys xs) from rfl, show toPy (.tup ys) = .tuple (toPys ys) from rfl, PySem.W.dataLt_tuple, a2]; rfl⟩
    | _ => cases h
  | .lst xs, y, n, m, h1, h2, h => by
    cases y with
    | lst ys =>
      cases n with
      | zero => cases h1
      | succ n => cases m with
        | zero => cases h2
        | succ m =>
          obtain ⟨a1, a2⟩ := lts_py xs ys n m h1 h2 h
          exact ⟨a1, by rw [show toPy (.lst xs) = .list (toPys xs) from rfl, show toPy (.lst ys) = .list (toPys ys) from rfl, PySem.W.dataLt_list, a2]; rfl⟩
    | _ => cases h
  | .non, y, n, m, h1, h2, h => by cases y <;> cases h
  | .dct _, y, n, m, h1, h2, h => by cases h1
  | .ins _ _, y, n, m, h1, h2, h => by cases h1
  | .cls _, y, n, m, h1, h2, h => by cases h1
  | .ro _, y, n, m, h1, h2, h => by cases h1
  | .ptp _, y, n, m, h1, h2, h => by cases h1
theorem lts_py : ∀ (xs ys : List D) (n m : Nat), D.plains xs n = true → D.plains ys m = true → D.alikes xs ys = true → PySem.W.alikeAll (toPys xs) (toPys ys) = true ∧ PyProof.Rows.lexLt PyProof.Rows.itemOrd (PySem.W.keyToksAll (toPys xs)) (PySem.W.keyToksAll (toPys ys)) = D.lts xs ys
  | [], [], n, m, h1, h2, h => ⟨rfl, by rfl⟩
  | [], _ :: _, n, m, h1, h2, h => ⟨rfl, by rfl⟩
  | x :: xs, [], n, m, h1, h2, h => ⟨rfl, by rfl⟩
  | x :: xs, y :: ys, n, m, h1, h2, h => by
    have g1 := Bool.and_eq_true_iff.mp h1
    have g2 := Bool.and_eq_true_iff.mp h2
    have g3 := Bool.and_eq_true_iff.mp h
    obtain ⟨a1, a2⟩ := lt_py x y n m g1.1 g2.1 g3.1
    obtain ⟨b1, b2⟩ := lts_py xs ys n m g1.2 g2.2 g3.2
    refine ⟨by show (PySem.W.alike (toPy x) (toPy y) && PySem.W.alikeAll (toPys xs) (toPys ys)) = true; rw [a1, b1]; rfl, ?_⟩
    show PyProof.Rows.lexLt PyProof.Rows.itemOrd (PySem.W.keyToksAll (toPy x :: toPys xs)) (PySem.W.keyToksAll (toPy y :: toPys ys)) = _
    rw [PySem.W.dataLt_cons a1, eqv_py x y n m g1.1 g2.1, b2, a2]
    rfl
end
/-- what sortOk says -/
theorem sortOk_py {xs : List D} (h : sortOk xs = true) : PySem.W.AllAlike (xs.map toPy) ∧ PySem.W.Sortable (xs.map toPy) ∧ xs.length ≤ sizeLine ∧ (∀ x ∈ xs, x.plain 30 = true) ∧ xs.mergeSort (PySem.W.dataLe false toPy) = sortD xs := by
  unfold sortOk at h
  simp only [Bool.and_eq_true] at h
  obtain ⟨⟨⟨h1, h2⟩, h3⟩, h4⟩ := h
  have pl : ∀ x ∈ xs, x.plain 30 = true := fun x hx => List.all_eq_true.mp h2 x hx
  have al : ∀ x ∈ xs, ∀ y ∈ xs, D.alike x y = true := fun x hx y hy => List.all_eq_true.mp (List.all_eq_true.mp h1 x hx) y hy
  refine ⟨fun d hd e he => ?_, ?_, Nat.le_trans (of_decide_eq_true h4) (by decide), pl, ?_⟩
  · obtain ⟨x, hx, rfl⟩ := List.mem_map.mp hd
    obtain ⟨y, hy, rfl⟩ := List.mem_map.mp he
    exact (lt_py x y 30 30 (pl x hx) (pl y hy) (al x hx y hy)).1
  · rcases Bool.or_eq_true_iff.mp h3 with h | h
    · refine .inr fun d hd => ?_
      obtain ⟨x, hx, rfl⟩ := List.mem_map.mp hd
      have h5 := List.all_eq_true.mp h x hx
      have h6 := al x hx x hx
      cases x <;> first | (cases h5; done) | (cases h6; done) | exact ⟨(fun z => by cases z), (fun xs z => by cases z)⟩
    · refine .inl fun d hd => ?_
      obtain ⟨x, hx, rfl⟩ := List.mem_map.mp hd
      have h5 := List.all_eq_true.mp h x hx
      match x, h5 with
      | .tup (y :: ys), _ => exact ⟨toPy y, toPys ys, rfl⟩
  · unfold sortD
    refine PySem.W.sort_congr fun a ha b hb => ?_
    rw [PySem.W.dataLe_eq]
    show (!PySem.W.dataLt (toPy b) (toPy a)) = _
    rw [(lt_py b a 30 30 (pl b hb) (pl a ha) (al b hb a ha)).2]
theorem each_get {α β : Type} {R : α → β → Prop} : ∀ {as : List α} {bs : List β}, as.length = bs.length → (∀ (j : Nat) (a : α) (b : β), as[j]? = some a → bs[j]? = some b → R a b) → PySem.W.EachIs R as bs
  | [], [], _, _ => .nil
  | [], _ :: _, h, _ => by simp at h
  | _ :: _, [], h, _ => by simp at h
  | a :: as, b :: bs, h, q => .cons (q 0 a b rfl rfl) (each_get (by simpa using h) fun j c d h1 h2 => q (j + 1) c d (by simpa using h1) (by simpa using h2))
theorem each_at {α β : Type} {R : α → β → Prop} {as : List α} {bs : List β} (h : PySem.W.EachIs R as bs) : ∀ {j : Nat} {a : α} {b : β}, as[j]? = some a → bs[j]? = some b → R a b := by
  induction h with
  | nil => intro j a b e; simp at e
  | cons h _ ih =>
    intro j a b e1 e2
    cases j with
    | zero => simp at e1 e2; subst e1; subst e2; exact h
    | succ j => exact ih (j := j) (by simpa using e1) (by simpa using e2)
theorem each_reps {K : Fg} {G : Hp} : ∀ {us : List Value} {xs : List D}, PySem.W.EachIs (fun v d => ∃ x, RelV x v ∧ Rep K G d x) us xs → ∃ vs, Vals vs us ∧ Reps K G xs vs
  | _, _, .nil => ⟨[], .nil, .nil⟩
  | _, _, .cons ⟨x, h1, h2⟩ t => by
    obtain ⟨vs, h3, h4⟩ := each_reps t
    exact ⟨x :: vs, .cons h1 h3, .cons h2 h4⟩
theorem reps_each {K : Fg} {G : Hp} : ∀ {us : List Value} {vs : List V} {xs : List D}, Vals vs us → Reps K G xs vs → PySem.W.EachIs (fun v d => ∃ x, RelV x v ∧ Rep K G d x) us xs
  | _, _, _, .nil, .nil => .nil
  | _, _, _, .cons h t, .cons r q => .cons ⟨_, h, r⟩ (reps_each t q)
theorem depth_py {K : Fg} {G : Hp} {x : D} {v : V} (r : Rep K G x v) (h : x.plain 30 = true) : (toPy x).depth ≤ 61 := (shape_py x v 30 r h).2
/-- tracked, one after another, on one heap -/
theorem takeA {X : Cx} {pins : List (Addr × Obj)} {σ : L2.St} {H0 : Hp} {s : Shared} {h' : Heap} {tk : Nat} (I0 : Inv X pins σ H0 s) : ∀ (L : List (Addr × HO)) (G1 H1 : Hp), Inv X pins σ H1 { s with heap := h', toks := tk } → (L.map (·.1)).Nodup →
    (∀ p ∈ L, s.heap.objs.size ≤ p.1 ∧ H1 p.1 = none ∧ ∀ H2, ObjOk X.prog X.w H2 h' p.1 p.2) → ∃ G2 H2, Inv X pins σ H2 { s with heap := h', toks := tk } ∧ Al G1 H1 G2 H2 ∧ (∀ p ∈ L, G2 p.1 = some p.2) ∧ ∀ b, (∀ p ∈ L, p.1 ≠ b) → H2 b = H1 b
  | [], G1, H1, I1, _, _ => ⟨G1, H1, I1, .refl, (fun _ h => by simp at h), fun _ _ => rfl⟩
  | p :: L, G1, H1, I1, nd, h => by
    obtain ⟨h1, h2, h3⟩ := h p List.mem_cons_self
    have I2 : Inv X pins σ (upd H1 p.1 p.2) { s with heap := h', toks := tk } := I1.take (h' := h') (t' := tk) (fun b ob _ e => e) (I0.fpOk h1 h2) (h3 _)
    rw [List.map_cons, List.nodup_cons] at nd
    have ne : ∀ q ∈ L, q.1 ≠ p.1 := fun q hq e => nd.1 (e ▸ List.mem_map_of_mem hq)
    obtain ⟨G2, H2, I3, al, got, off⟩ := takeA I0 L (upd G1 p.1 p.2) (upd H1 p.1 p.2) I2 nd.2 fun q hq => by
      obtain ⟨c1, c2, c3⟩ := h q (List.mem_cons_of_mem _ hq)
      exact ⟨c1, by rw [upd_ne (ne q hq)]; exact c2, c3⟩
    refine ⟨G2, H2, I3, (Al.one h2).trans al, fun q hq => ?_, fun b hb => by rw [off b fun q hq => hb q (List.mem_cons_of_mem _ hq), upd_ne (Ne.symm (hb p List.mem_cons_self))]⟩
    rcases List.mem_cons.mp hq with rfl | hq
    · have key : ∀ (L : List (Addr × HO)) (G H G2 H2 : Hp), Al G H G2 H2 → ∀ b o, G b = some o → H b = some o → G2 b = some o := by
        intro _ G H G2 H2 al b o g1 g2
        induction al with
        | refl => exact g1
        | @new G3 H3 q u a hq ih => rw [upd_ne (ne_of_none (a.extH _ _ g2) hq)]; exact ih
      exact key [] _ _ _ _ al _ _ upd_same upd_same
    · exact got q hq
/-- sorted(l), l a list of data -/
theorem cr_srtL {cl : Nat → Addr} {X : Cx} (hu : X.A.units + 64 < cLine) : CallR X (.builtin "sorted") (fun us H Q => ∃ (G : Hp) (xs : List D) (x : V), us = [x] ∧ Ext G H ∧ Rd' (kx cl X) G H (.lst xs) x ∧ sortOk xs = true ∧ Gives (kx cl X) G H (.lst (sortD xs)) Q) := by
  intro pins s σ H us vs Q I r h
  obtain ⟨G, xs, x, rfl, ex, rd, hs, g⟩ := h
  obtain ⟨a, ws, rfl, ha, hr⟩ := rd.lst ex
  obtain rfl := Vals.ref1 r
  obtain ⟨o1, o2, o3, o4, o5⟩ := sortOk_py hs
  obtain ⟨its, rv, pl, hz⟩ := I.list (.of ha)
  have e1 := reps_each rv hr
  have er : PySem.W.EachIs (fun v b => ∃ as, Reads s.heap v (toPy b) as) its xs := (PySem.W.each_mem e1).mono fun v d ⟨⟨u, h1, h2⟩, hm⟩ => Dp.reads I (toPy d) u v ((h2.mono ex).dp (o4 d hm)) h1
  have dp : ∀ d ∈ xs, (toPy d).depth ≤ 61 := fun d hd => by
    obtain ⟨j, hj⟩ := List.mem_iff_getElem?.mp hd
    obtain ⟨u, _, h2⟩ := hr.get hj
    exact depth_py h2 (o4 d hd)
  refine PySem.W.sorted_data (R := fun v d => ∃ x, RelV x v ∧ Rep (kx cl X) G d x) pl.isList e1 er o1 o2 o3 (fun d hd => ?_) fun out hl hout => ?_
  · have := dp d hd; omega
  rw [o5] at hout
  obtain ⟨ys, hv, hp⟩ := each_reps hout
  obtain ⟨ep, he'⟩ := PyProof.Rows.sortedAll_at s.heap its out.toArray
  have hlen : ys.length ≤ sizeLine := by rw [hv.length, hl]; exact o3
  exact ⟨.ref _, upd H (s.heap.objs.size + 1) (.lst ys), I.laid (t' := s.toks) (fun _ _ => PyProof.Rows.sortedAll_old) (Nat.le_succ _) ⟨hlen, out, ep, hv, he'⟩, rfl, g.newL ex hp (I.hok.fresh (Nat.le_succ _))⟩
/-- a key, read -/
theorem key_reads {h : Heap} {k : Ky} {v : Value} (hv : RelV (kV (kyOf k)) v) : Reads h v (toPy (kyD k)) [] := by
  cases k with
  | i n => obtain ⟨t, rfl⟩ := hv; exact .int n t
  | s x => obtain ⟨t, rfl⟩ := hv; exact .str _ t
theorem rep_key {K : Fg} {G : Hp} {k : Ky} (ok : okK k) : Rep K G (kyD k) (kV (kyOf k)) := by
  cases k with
  | i n => exact .int n
  | s x => exact .str x ok
theorem RepKs.keyAt {K : Fg} {G : Hp} : ∀ {xs : List (Ky × D)} {ks : List (Key × V)} {j : Nat} {p : Ky × D}, RepKs K G xs ks → xs[j]? = some p → ∃ q, ks[j]? = some q ∧ q.1 = kyOf p.1 ∧ okK p.1 ∧ Rep K G p.2 q.2
  | _, _, _, _, .nil, e => by simp at e
  | _, _, 0, _, .cons o h _, e => by simp at e; subst e; exact ⟨_, rfl, rfl, o, h⟩
  | _, _, j + 1, p, .cons _ _ t, e => by simpa using RepKs.keyAt (j := j) t (by simpa using e)
theorem RepKs.len {K : Fg} {G : Hp} : ∀ {xs : List (Ky × D)} {ks : List (Key × V)}, RepKs K G xs ks → xs.length = ks.length
  | _, _, .nil => rfl
  | _, _, .cons _ _ t => by simp [RepKs.len t]
theorem kv_at {ks : List (Key × V)} {vs : List (Key × Value)} (h : KV ks vs) : ∀ {j : Nat} {q : Key × V}, ks[j]? = some q → ∃ p, vs[j]? = some p ∧ q.1 = p.1 ∧ RelV q.2 p.2 := by
  induction h with
  | nil => intro j q e; simp at e
  | cons h t ih =>
    intro j q e
    cases j with
    | zero => simp at e; subst e; exact ⟨_, rfl, h⟩
    | succ j => simpa using ih (j := j) (by simpa using e)
/-- a new list at l is sorted: its items are flat, or tuples of such -/
theorem sort_new {cl : Nat → Addr} {X : Cx} {pins : List (Addr × Obj)} {σ : L2.St} {G H : Hp} {s : Shared} {h' : Heap} {tk : Nat} {l : Addr} {vs : List Value} {xs : List D} {L : List (Addr × HO)} {Q : VK} (hu : X.A.units + 64 < cLine) (I : Inv X pins σ H s) (ex : Ext G H)
    (hk : ∀ b o, s.heap.get? b = some o → h'.get? b = some o) (hl : s.heap.objs.size ≤ l) (hob : h'.get? l = some (PyProof.Rows.seqObj "list" vs.toArray 0)) (hs : sortOk xs = true) (hd : ∀ d ∈ xs, (toPy d).depth ≤ 61)
    (er : PySem.W.EachIs (fun v b => Reads h' v (toPy b) []) vs xs) (nd : (L.map (·.1)).Nodup) (hL : ∀ p ∈ L, s.heap.objs.size ≤ p.1 ∧ p.1 ≠ l ∧ ∀ (h2 : Heap) (H2 : Hp), (∀ o, h'.get? p.1 = some o → h2.get? p.1 = some o) → ObjOk X.prog X.w H2 h2 p.1 p.2)
    (hlt : ∀ p ∈ L, p.1 < h'.objs.size) (eR : ∀ G2, Ext G G2 → (∀ p ∈ L, G2 p.1 = some p.2) → PySem.W.EachIs (fun v d => ∃ x, RelV x v ∧ Rep (kx cl X) G2 d x) vs xs) (g : Gives (kx cl X) G H (.lst (sortD xs)) Q) :
    wpAny (model X.prog X.w) X.A.in1 (call (.builtin "list.sort") [.ref l]) (fun _ s' => EP X pins σ Q (.ref l) s') X.xe { s with heap := h', toks := tk } := by
  obtain ⟨o1, o2, o3, o4, o5⟩ := sortOk_py hs
  refine PySem.W.list_sort_data (s := { s with heap := h', toks := tk }) (R := fun v d => ∀ G2, Ext G G2 → (∀ p ∈ L, G2 p.1 = some p.2) → ∃ x, RelV x v ∧ Rep (kx cl X) G2 d x) hob ?_ (er.mono fun v b r => ⟨[], r, by simp⟩) o1 o2 o3 (fun d hm => ?_) fun out hlo hout => ?_
  · have len : vs.length = xs.length := er.length
    refine each_get len fun j v d h1 h2 G2 e1 e2 => ?_
    exact each_at (eR G2 e1 e2) h1 h2
  · have := hd d hm
    show X.A.units + 1 + 1 + _ < _
    omega
  · rw [o5] at hout
    have old : ∀ b o, b ≠ l → h'.get? b = some o → (PyProof.Rows.sortedHeap h' l vs out.toArray).get? b = some o := fun b o hb e => by rw [PyProof.Rows.sortedHeap_old hb (Heap.lt_size e)]; exact e
    have ho : ∀ b o, s.heap.get? b = some o → (PyProof.Rows.sortedHeap h' l vs out.toArray).get? b = some o := fun b o e => old b o (Nat.ne_of_lt (Nat.lt_of_lt_of_le (Heap.lt_size e) hl)) (hk b o e)
    have I1 : Inv X pins σ H { s with heap := PyProof.Rows.sortedHeap h' l vs out.toArray, toks := tk } := I.kept ho
    obtain ⟨G2, H2, I2, al, got, off⟩ := takeA (h' := PyProof.Rows.sortedHeap h' l vs out.toArray) (tk := tk) I L G H I1 nd fun p hp => by
      obtain ⟨c1, c2, c3⟩ := hL p hp
      exact ⟨c1, I.hok.fresh c1, fun H2 => c3 _ H2 fun o e => old _ o c2 e⟩
    obtain ⟨x1, x2, x3⟩ := al.ext ex
    obtain ⟨ys, hv, hp⟩ := each_reps (hout.mono fun v d q => q G2 x2 got)
    obtain ⟨ep, he'⟩ := PyProof.Rows.sortedHeap_at (vs := vs) (out := out.toArray) hob
    have fl : H2 l = none := by rw [off l fun p hp => (hL p hp).2.1]; exact I.hok.fresh hl
    have hlen : ys.length ≤ sizeLine := by rw [hv.length, hlo]; exact o3
    have I3 : Inv X pins σ (upd H2 l (.lst ys)) { s with heap := PyProof.Rows.sortedHeap h' l vs out.toArray, toks := tk } := I2.take (h' := PyProof.Rows.sortedHeap h' l vs out.toArray) (t' := tk) (fun b ob _ e => e) (I.fpOk hl fl) ⟨hlen, out, ep, hv, he'⟩
    refine ⟨.ref l, _, I3, rfl, ?_⟩
    exact g _ _ _ (al.trans (Al.one fl)) (.lst upd_same (hp.mono (Ext.upd (by
      cases q : G2 l with
      | none => rfl
      | some o => rw [x1 _ _ q] at fl; cases fl))))
/-- sorted(d), d a dict -/
theorem cr_srtK {cl : Nat → Addr} {X : Cx} (hc : X.calm = true) (hu : X.A.units + 64 < cLine) : CallR X (.builtin "sorted") (fun us H Q => ∃ (G : Hp) (xs : List (Ky × D)) (a : Addr) (ks : List (Key × V)), us = [.ref a] ∧ Ext G H ∧ Rd H a (.dK ks) ∧ RepKs (kx cl X) G xs ks ∧ sortOk (xs.map fun p => kyD p.1) = true ∧
    Gives (kx cl X) G H (.lst (sortD (xs.map fun p => kyD p.1))) Q) := by
  intro pins s σ H us ws Q I r h
  obtain ⟨G, xs, a, ks, rfl, ex, rd, hr, hs, g⟩ := h
  obtain rfl := Vals.ref1 r
  obtain ⟨z, lo, vs, rel, dd⟩ := dk_rd I.hok rd
  obtain ⟨ep, hat⟩ := dd.dictAt
  have l1 : ks.length = vs.length := rel.length
  have l2 := hr.len
  refine Calls.call_function_entry PyProof.Rows.kind_sorted PyProof.Rows.plain_sorted PyProof.Rows.entry_sorted (PyProof.Rows.args_sorted1 _) ?_
  unfold Builtin.«sorted»
  refine wpAny_bind (m := checkCount "sorted" 1 1 _) (wpAny_pure ?_)
  refine wpAny_bind (PySem.W.kdu_collect (A := X.A.in1) (PySem.W.kdl_dict (knd := mixKind X.prog X.w) (kvs := vs) (ep := ep) lo) (I.ok.hd hc) hat (by omega) fun h' tk acc hk hacc => ?_)
  have keyAt : ∀ (j : Nat) (v : Value) (p : Ky × D), acc.toList[j]? = some v → xs[j]? = some p → RelV (kV (kyOf p.1)) v ∧ okK p.1 := fun j v p e1 e2 => by
    obtain ⟨k, x, f1, f2⟩ := hacc.2 j v (by rw [← Array.getElem?_toList]; exact e1)
    obtain ⟨q, f3, f4, f5, _⟩ := hr.keyAt e2
    obtain ⟨q', f6, f7, _⟩ := kv_at rel f3
    rw [f1] at f6; cases f6
    refine ⟨?_, f5⟩
    rw [← f4, f7]
    exact relV_key f2
  have len : acc.toList.length = xs.length := by rw [Array.length_toList, hacc.1, l2, l1]
  have len' : acc.toList.length = (xs.map fun p => kyD p.1).length := by rw [List.length_map, len]
  refine wpAny_bind (wpAny_newList ?_ (by rw [len, l2]; exact z))
  have hob : (h'.push (PyProof.Rows.seqObj "list" acc.toList.toArray 0)).get? h'.objs.size = some (PyProof.Rows.seqObj "list" acc.toList.toArray 0) := Heap.get?_push_size _ rfl
  have I1 : Inv X pins σ H { s with heap := h', toks := tk } := I.kept hk
  have key := sort_new (cl := cl) (Q := Q) (h' := h'.push (PyProof.Rows.seqObj "list" acc.toList.toArray 0)) (tk := tk) (l := h'.objs.size) (vs := acc.toList) (L := []) hu I1 ex (fun b o e => Heap.get?_push_of_some _ e) (Nat.le_refl _) hob hs
    (fun d hd => by
      obtain ⟨p, _, rfl⟩ := List.mem_map.mp hd
      cases p.1 <;> exact Nat.zero_le _)
    (each_get len' fun j v d e1 e2 => by
      rw [List.getElem?_map] at e2
      cases e3 : xs[j]? with
      | none => rw [e3] at e2; cases e2
      | some p => rw [e3] at e2; cases e2; exact key_reads (keyAt j v p e1 e3).1)
    List.nodup_nil (fun _ h => by simp at h) (fun _ h => by simp at h)
    (fun G2 _ _ => each_get len' fun j v d e1 e2 => by
      rw [List.getElem?_map] at e2
      cases e3 : xs[j]? with
      | none => rw [e3] at e2; cases e2
      | some p => rw [e3] at e2; cases e2; exact ⟨_, (keyAt j v p e1 e3).1, rep_key (keyAt j v p e1 e3).2⟩) g
  refine wpAny_bind (wpAny_holding (wpAny_mono key (fun _ s' x => ?_) fun _ _ e => e))
  exact wpAny_pure ⟨_, rfl, x⟩
/-! ### sorted(d.items()) -/
theorem mt_itemsK {X : Cx} : MtR X "dict.items" (fun x xs H Q => ∃ (a : Addr) (ks : List (Key × V)), x = .ref a ∧ xs = [] ∧ H a = some (.dK ks) ∧ ∀ p, H p = none → Q (.ref p) (upd H p (L2.DX.itemsO p a))) := by
  intro pins s σ H x xs v us Q I rx rxs h
  obtain ⟨a, ks, rfl, rfl, ha, q⟩ := h
  cases rx
  cases rxs
  obtain ⟨z, hd, xs', rel, o, es, ep, ho, hx, hdat, _⟩ := dk_rd I.hok (.inl ha)
  refine DT.callItems (es := es) (ep := ep) hd ⟨o, ho, hx, hdat⟩ ?_
  have at_ := Heap.get?_push_size s.heap (o := { cls := .type "dict_items", data := .fields #[.ref a] }) rfl
  exact ⟨.ref s.heap.objs.size, _, I.laid (t' := s.toks) (o := L2.DX.itemsO s.heap.objs.size a) (fun b u e => Heap.get?_push_of_some _ e) (Nat.le_refl _) (L2.DX.itemsO_ok at_), rfl, q _ (I.hok.fresh (Nat.le_refl _))⟩
/-- a flat value, read -/
theorem flat_reads {K : Fg} {G : Hp} {h : Heap} {d : D} {x : V} {v : Value} (r : Rep K G d x) (hf : d.flat = true) (hv : RelV x v) : Reads h v (toPy d) [] := by
  cases r with
  | non => cases hv; exact .none
  | bl b => cases hv; exact .bool b
  | int i => obtain ⟨t, rfl⟩ := hv; exact .int i t
  | str s _ => obtain ⟨t, rfl⟩ := hv; exact .str _ t
  | _ => cases hf
theorem pairs_at {P : Program} {w : World} {es : List DictEntry} {vs : List (Key × Value)} (h : Pairs (mixKind P w) es vs) : ∀ {j : Nat} {q : Key × Value} {e : DictEntry}, vs[j]? = some q → es[j]? = some e → keyIs q.1 e.key = true ∧ e.val = q.2 := by
  induction h with
  | nil => intro j q e h; simp at h
  | cons h1 h2 _ ih =>
    intro j q e e1 e2
    cases j with
    | zero => simp at e1 e2; subst e1; subst e2; exact ⟨h1, h2⟩
    | succ j => exact ih (j := j) (by simpa using e1) (by simpa using e2)
theorem cr_srtI {cl : Nat → Addr} {X : Cx} (hc : X.calm = true) (hu : X.A.units + 64 < cLine) : CallR X (.builtin "sorted") (fun us H Q => ∃ (G : Hp) (xs : List (Ky × D)) (p a : Addr) (ks : List (Key × V)), us = [.ref p] ∧ Ext G H ∧ H p = some (L2.DX.itemsO p a) ∧ Rd H a (.dK ks) ∧ RepKs (kx cl X) G xs ks ∧ sortOk (xs.map pairD) = true ∧
    (∀ q ∈ xs, q.2.flat = true) ∧ Gives (kx cl X) G H (.lst (sortD (xs.map pairD))) Q) := by
  intro pins s σ H us ws Q I r h
  obtain ⟨G, xs, p, a, ks, rfl, ex, hp, rd, hr, hs, hf, g⟩ := h
  obtain rfl := Vals.ref1 r
  have view : s.heap.IsItemsView p a := (show ObjOk X.prog X.w H s.heap p (L2.DX.itemsO p a) from I.hok p _ hp).1
  obtain ⟨z, lo, vs, rel, o, es, ep, ho, hx, hdat, _, hprs, _⟩ := dk_rd I.hok rd
  have l1 : ks.length = vs.length := rel.length
  have l2 := hr.len
  have l3 : es.size = vs.length := by rw [← hprs.length, Array.length_toList]
  refine DT.sortedI (es := es) (ep := ep) (I.ok.hd hc) view ⟨o, ho, hx, hdat⟩ (by omega) fun h' tk as hk hlt hl made => ?_
  have nd : as.Nodup := List.Pairwise.imp (fun h => Nat.ne_of_lt h) made.rise
  -- the pairs
  have pr : ∀ (j : Nat) (b : Addr) (q : Ky × D), as[j]? = some b → xs[j]? = some q → ∃ (kv vv : Value) (x : V), h'.get? b = some { cls := .type "tuple", data := .seq #[kv, vv] } ∧ RelV (kV (kyOf q.1)) kv ∧ RelV x vv ∧ okK q.1 ∧ Rep (kx cl X) G q.2 x := by
    intro j b q e1 e2
    obtain ⟨en, he, hg⟩ := made.pairs j b e1
    obtain ⟨q', f3, f4, f5, f6⟩ := hr.keyAt e2
    obtain ⟨q2, f7, f8, f9⟩ := kv_at rel f3
    obtain ⟨g1, g2⟩ := pairs_at hprs f7 (by rw [Array.getElem?_toList]; exact he)
    refine ⟨en.key, en.val, q'.2, hg, ?_, by rw [g2]; exact f9, f5, f6⟩
    rw [← f4, f8]
    exact relV_key g1
  have la : as.length = xs.length := by omega
  obtain ⟨us, hul, hus⟩ := list_choose (as.zip xs) (fun j (e : Addr × (Ky × D)) (x : V) => ∃ (kv vv : Value), h'.get? e.1 = some { cls := .type "tuple", data := .seq #[kv, vv] } ∧ RelV (kV (kyOf e.2.1)) kv ∧ RelV x vv ∧ okK e.2.1 ∧ Rep (kx cl X) G e.2.2 x) fun j e he => by
    rw [List.getElem?_zip_eq_some] at he
    obtain ⟨kv, vv, x, q1, q2, q3, q4, q5⟩ := pr j e.1 e.2 he.1 he.2
    exact ⟨x, kv, vv, q1, q2, q3, q4, q5⟩
  have zl : (as.zip xs).length = xs.length := by simp [la]
  -- what is laid
  let L : List (Addr × HO) := ((as.zip xs).zip us).map fun e => (e.1.1, HO.tup [kV (kyOf e.1.2.1), e.2])
  have Lm : L.map (·.1) = as := by
    show (((as.zip xs).zip us).map _).map _ = as
    rw [List.map_map]
    have e1 : ((fun x : Addr × HO => x.1) ∘ fun e : (Addr × (Ky × D)) × V => (e.1.1, HO.tup [kV (kyOf e.1.2.1), e.2])) = (fun y : Addr × (Ky × D) => y.1) ∘ Prod.fst := rfl
    rw [e1, ← List.map_map, List.map_fst_zip (by rw [hul]; exact Nat.le_refl _), show (fun y : Addr × (Ky × D) => y.1) = Prod.fst from rfl, List.map_fst_zip (by omega)]
  have Lat : ∀ (j : Nat) (b : Addr) (q : Ky × D), as[j]? = some b → xs[j]? = some q → ∃ (kv vv : Value) (x : V), h'.get? b = some { cls := .type "tuple", data := .seq #[kv, vv] } ∧ RelV (kV (kyOf q.1)) kv ∧ RelV x vv ∧ okK q.1 ∧ Rep (kx cl X) G q.2 x ∧ (b, HO.tup [kV (kyOf q.1), x]) ∈ L := by
    intro j b q e1 e2
    have ez : (as.zip xs)[j]? = some (b, q) := by rw [List.getElem?_zip_eq_some]; exact ⟨e1, e2⟩
    have : j < us.length := by rw [hul]; exact (List.getElem?_eq_some_iff.mp ez).1
    obtain ⟨x, hx'⟩ : ∃ x, us[j]? = some x := ⟨us[j], List.getElem?_eq_getElem this⟩
    obtain ⟨kv, vv, q1, q2, q3, q4, q5⟩ := hus j _ _ ez hx'
    refine ⟨kv, vv, x, q1, q2, q3, q4, q5, List.mem_map.mpr ⟨((b, q), x), List.mem_of_getElem? (i := j) ?_, rfl⟩⟩
    rw [List.getElem?_zip_eq_some]; exact ⟨ez, hx'⟩
  have Lin : ∀ e ∈ L, ∃ (j : Nat) (q : Ky × D) (kv vv : Value) (x : V), as[j]? = some e.1 ∧ h'.get? e.1 = some { cls := .type "tuple", data := .seq #[kv, vv] } ∧ RelV (kV (kyOf q.1)) kv ∧ RelV x vv ∧ e.2 = .tup [kV (kyOf q.1), x] := by
    intro e he
    obtain ⟨t, ht, rfl⟩ := List.mem_map.mp he
    obtain ⟨j, hj⟩ := List.mem_iff_getElem?.mp ht
    rw [List.getElem?_zip_eq_some] at hj
    obtain ⟨kv, vv, q1, q2, q3, q4, q5⟩ := hus j _ _ hj.1 hj.2
    have hj1 := hj.1
    rw [List.getElem?_zip_eq_some] at hj1
    exact ⟨j, t.1.2, kv, vv, t.2, hj1.1, q1, q2, q3, rfl⟩
  have hob : (h'.push { cls := .type "list", data := .seq (as.map Value.ref).toArray }).get? h'.objs.size = some (PyProof.Rows.seqObj "list" (as.map Value.ref).toArray 0) := Heap.get?_push_size _ rfl
  have len : (as.map Value.ref).length = (xs.map pairD).length := by simp [la]
  have ref_at : ∀ (j : Nat) (v : Value), (as.map Value.ref)[j]? = some v → ∃ b, as[j]? = some b ∧ v = .ref b := fun j v e => by
    rw [List.getElem?_map] at e
    cases e3 : as[j]? with
    | none => rw [e3] at e; cases e
    | some b => rw [e3] at e; cases e; exact ⟨b, rfl, rfl⟩
  have pair_at : ∀ (j : Nat) (d : D), (xs.map pairD)[j]? = some d → ∃ q, xs[j]? = some q ∧ d = pairD q := fun j d e => by
    rw [List.getElem?_map] at e
    cases e3 : xs[j]? with
    | none => rw [e3] at e; cases e
    | some b => rw [e3] at e; cases e; exact ⟨b, rfl, rfl⟩
  refine sort_new (cl := cl) (Q := Q) (L := L) hu I ex (fun b o e => Heap.get?_push_of_some _ (hk b o e)) (Nat.le_of_lt hlt) hob hs ?_ ?_ (by rw [Lm]; exact nd) ?_ ?_ ?_ g
  · intro d hd
    obtain ⟨q, hq, rfl⟩ := List.mem_map.mp hd
    have h1 := hf q hq
    have h2 : (toPy q.2).depth = 0 := by
      cases e : q.2 <;> rw [e] at h1 <;> first | rfl | cases h1
    have h3 : (toPy (kyD q.1)).depth = 0 := by cases q.1 <;> rfl
    show PyData.depthAll [toPy (kyD q.1), toPy q.2] + 1 ≤ 61
    show max (toPy (kyD q.1)).depth (max (toPy q.2).depth 0) + 1 ≤ 61
    omega
  · refine each_get len fun j v d e1 e2 => ?_
    obtain ⟨b, e3, rfl⟩ := ref_at j v e1
    obtain ⟨q, e4, rfl⟩ := pair_at j d e2
    obtain ⟨kv, vv, x, q1, q2, q3, q4, q5, _⟩ := Lat j b q e3 e4
    exact .tuple (Heap.get?_push_of_some _ q1) rfl rfl (.cons (key_reads q2) (.cons (flat_reads q5 (hf q (List.mem_of_getElem? e4)) q3) .nil))
  · intro e he
    obtain ⟨j, q, kv, vv, x, q0, q1, q2, q3, q4⟩ := Lin e he
    refine ⟨Nat.le_of_lt (made.above _ (List.mem_of_getElem? q0)), Nat.ne_of_lt (Heap.lt_size q1), fun h2 H2 kp => ?_⟩
    rw [q4]
    exact ⟨by show 2 ≤ sizeLine; decide, [kv, vv], .cons q2 (.cons q3 .nil), _, kp _ (Heap.get?_push_of_some _ q1), rfl, 0, rfl⟩
  · intro e he
    obtain ⟨j, q, kv, vv, x, q0, q1, _⟩ := Lin e he
    exact Heap.lt_size (Heap.get?_push_of_some _ q1)
  · intro G2 e2 got
    refine each_get len fun j v d e1 e3 => ?_
    obtain ⟨b, e4, rfl⟩ := ref_at j v e1
    obtain ⟨q, e5, rfl⟩ := pair_at j d e3
    obtain ⟨kv, vv, x, q1, q2, q3, q4, q5, q6⟩ := Lat j b q e4 e5
    exact ⟨.ref b, rfl, .tup (.inl (.inl (got _ q6))) (.cons (rep_key q4) (.cons (q5.mono e2) .nil))⟩
end Iv
end
section
set_option autoImplicit false
set_option maxRecDepth 100000
set_option maxHeartbeats 4000000
namespace Iv
open PySem L2
/-! ### bool of an instance -/
theorem bool_new_in {prog : Program} {w : World} {x : Value} : MeetsIn prog w (Builtin.«bool.__new__» ⟨[.type "bool", x], []⟩) (fun A R s => wpAny (model prog w) A.in1 (truthy x) (fun b s' => R (.ok (.ret (.bool b))) s') (fun e s' => R (.error e) s') s) := by
  refine MeetsIn.of_wp fun A R s hs => ?_
  have f1 := PySem.F.conv_sub_bool
  repeat (any_goals (first | assumption | (with_reducible refine wpAny_mono hs ?_ ?_) | wp_step))
  all_goals first | exact fun b s' q => wpAny_pure ⟨_, rfl, q⟩ | exact fun _ _ e => e | skip
section
variable {X : Cx} {CX : CXT} {pins : List (Addr × Obj)} {σ : L2.St} {H : Hp} {s : Shared} {n : Nat} {g C a dx : Addr} {vs : List (Option V)} {sp : Sp} {E : XK}
theorem bool_ins {Q : VK} (hs : PySem.W.findIn X.K (.ref C) "__bool__" = some (some (.ref g))) (hf : PySem.W.isFn X.K (.ref g) = true) (F : FnR X.prog X.w X.K X.mg X.base CX n g sp) (hr : Room (n + 2) X.A) (hx : PassesAt CX X σ E) (I : Inv X pins σ H s) (ha : SlX.Slt H a C dx vs)
    (h : sp [.ref a] H (fun z H' => ∃ b, z = .bl b ∧ Q (.bl b) H') E) : wpAny (model X.prog X.w) X.A (call (.type "bool") [.ref a]) (EP X pins σ Q) X.xe s := by
  obtain ⟨sl, od, _, J, _⟩ := SlX.slt_inst I ha
  obtain ⟨m, hF⟩ := I.fr
  refine PySem.callType_newIn PySem.F.called_bool PySem.F.newNe_bool (PySem.F.typeCall_bool_1 _) (PySem.F.newCall_bool_1 _) (fun obj => PySem.F.args_object_init_2 obj _) PySem.F.entry_bool_new bool_new_in ?_
  refine PySem.W.truthy_K hF I.ok.mod.kin J hs hf ?_
  refine thn (runW (us := [.ref a]) (ws := [.ref a]) F hr.in1.in1 I.env0.in1.in1 hx I (.cons rfl .nil) h) fun w s' ⟨z, H', I', rz, b, eb, qz⟩ => ?_
  subst eb
  cases (show w = Value.bool b from rz)
  exact ⟨typeIs_bool _ _, .bl b, H', I', rfl, qz⟩
end
/-! ### calls that look at the slots -/
def rd1 (f : V → Hp → Prop) : List V → Hp → Prop
  | [v], H => f v H
  | _, _ => False
theorem rd1_d {f : V → Hp → Prop} {vs : List V} {H : Hp} (h : rd1 f vs H) : ∃ v, vs = [v] ∧ f v H := by
  match vs, h with
  | [v], h => exact ⟨v, rfl, h⟩
section
variable {X : Cx} {e : Expr} {x : Str} {p pos : Pos} {ta : TE}
theorem pe_callBS {id : String} {rd : L2.St → V → Hp → VK → Prop} (hc : ∀ (pins : List (Addr × Obj)) (s : Shared) (σ : L2.St) (H : Hp) (v : V) (u : Value) (Q : VK), Inv X pins σ H s → RelV v u → rd σ v H Q → wpAny (model X.prog X.w) X.A (call (.builtin id) [u]) (EP X pins σ Q) X.xe s)
    (hg : Gl X x) (hm : X.mg x = none) (hv : bootBuiltins x = some (.builtin id)) (ha : PE X e ta) (hn : x ≠ "__name__") (hdb : (x == ("__debug__" : Str)) = false) (he : starEach [e] X.env = [(false, eval e X.env)]) :
    PE X (.Call (.Name x p) [e] [] pos) (fun σ H Q => ta σ H fun v H1 => rd σ v H1 Q) := by
  refine ⟨fun pins s σ H Q I h => wpAny_Call_Name_kw (ld_blt I hg hm hv ?_ hn hdb)⟩
  have h' : (tCons ta tNil) σ H (rd1 fun v H1 => rd σ v H1 Q) := h
  refine PyProof.Rows.callWith_builtin1 (thn ((pa_cons ha pa_nil he).run pos pins s σ H _ I h') fun us s1 ⟨vs, H1, I1, r1, q1⟩ => ?_) he rfl
  obtain ⟨v, rfl, q⟩ := rd1_d q1
  obtain ⟨u, rfl, ru⟩ := vals1 r1
  exact hc pins s1 σ H1 v u Q I1 ru q
theorem pe_callTS {T : String} {rd : L2.St → V → Hp → VK → Prop} (hc : ∀ (pins : List (Addr × Obj)) (s : Shared) (σ : L2.St) (H : Hp) (v : V) (u : Value) (Q : VK), Inv X pins σ H s → RelV v u → rd σ v H Q → wpAny (model X.prog X.w) X.A (call (.type T) [u]) (EP X pins σ Q) X.xe s)
    (hg : Gl X x) (hm : X.mg x = none) (hv : bootBuiltins x = some (.type T)) (ha : PE X e ta) (hn : x ≠ "__name__") (hdb : (x == ("__debug__" : Str)) = false) (he : starEach [e] X.env = [(false, eval e X.env)]) :
    PE X (.Call (.Name x p) [e] [] pos) (fun σ H Q => ta σ H fun v H1 => rd σ v H1 Q) := by
  refine ⟨fun pins s σ H Q I h => wpAny_Call_Name_kw (ld_blt I hg hm hv ?_ hn hdb)⟩
  have h' : (tCons ta tNil) σ H (rd1 fun v H1 => rd σ v H1 Q) := h
  refine PyProof.Rows.callWith_type1 (thn ((pa_cons ha pa_nil he).run pos pins s σ H _ I h') fun us s1 ⟨vs, H1, I1, r1, q1⟩ => ?_) he rfl
  obtain ⟨v, rfl, q⟩ := rd1_d q1
  obtain ⟨u, rfl, ru⟩ := vals1 r1
  exact hc pins s1 σ H1 v u Q I1 ru q
end
section
variable {X : Cx} {CX : CXT} {n i : Nat} {f C : Addr} {sp : Sp} {x : Str} {e : Expr} {es : List Expr} {ps pos : Pos} {t : TA} {ES : L2.St → XK}
/-- c(..), c a local name that holds a class -/
theorem pe_mkV (M : Mk X.K C f) (F : FnR X.prog X.w X.K X.mg X.base CX n f sp) (hr : Room (n + 1) X.A) (hN : X.N[i]? = some x) (hv : Vis X.env.scope x) (hx : ∀ σ, PassesAt CX X σ (ES σ)) (ha : PA X (e :: es) t)
    (hd : (x == ("__debug__" : Str)) = false) (hcd : (x == ("__classdict__" : Str)) = false) (h1 : starEach (e :: es) X.env = (false, eval e X.env) :: starEach es X.env) (h2 : (backTo pos (starEach es X.env)).any (·.1) = false) :
    PE X (.Call (.Name x ps) (e :: es) [] pos) (fun σ H Q => σ[i]? = some (some (.ref C)) ∧ t σ H fun vs H1 => ∀ x dx, H1 x = none → H1 dx = none → dx ≠ x → sp (V.ref x :: vs) (upd (upd H1 dx (.xd [])) x (SlX.SlO x C dx [])) (fun v H2 => v = .non ∧ Q (.ref x) H2) (ES σ)) := by
  refine ⟨fun pins s σ H Q I ⟨hs, hw⟩ => wpAny_Call_Name_kw (thn ((pe_var (pos := ps) (i := i) hN hv hd hcd).run pins s σ H (fun v H1 => v = .ref C ∧ H1 = H) I ⟨.ref C, hs, rfl, rfl⟩) fun u s1 ⟨v, H1, I1, r1, ev, eH⟩ => ?_)⟩
  subst ev
  rw [eH] at I1
  cases r1
  refine PySem.W.callWith_K (h₀ := X.base) I.ok.mod.kin M.kp ?_ h1 h2
  exact thn (ha.run pos pins s1 σ H _ I1 hw) fun us s2 ⟨vs, H2, I2, r, q⟩ => ⟨I2.kIn, runMake M F hr (hx σ) I2 r q⟩
/-- x unpacks to these -/
def StarV (K : PySem.W.Frag) (H : Hp) (x : V) (ys : List V) : Prop := ∃ a, x = .ref a ∧ (SqT K H a ys ∨ SqL K H a ys ∨ ∃ ks : List (Key × V), Rd H a (.dK ks) ∧ ys = ks.map fun q => kV q.1)
theorem star_V {pins : List (Addr × Obj)} {σ : L2.St} {H : Hp} {s : Shared} {a : Addr} {ys : List V} {E : Value → Shared → Prop} {Q : List Value → Shared → Prop} (hc : X.calm = true) (I : Inv X pins σ H s) (h : SqT X.K H a ys ∨ SqL X.K H a ys ∨ ∃ ks : List (Key × V), Rd H a (.dK ks) ∧ ys = ks.map fun q => kV q.1)
    (hQ : ∀ us s', Inv X pins σ H s' → Vals ys us → Q us s') : PySem.W.StarOf (model X.prog X.w) X.A E (.ref a) Q s := by
  rcases h with h | h | ⟨ks, rd, rfl⟩
  · exact StX.star_any I (.inl h) hQ
  · exact StX.star_any I (.inr h) hQ
  · obtain ⟨z, lo, vs, rel, dd⟩ := dk_rd I.hok rd
    obtain ⟨ep, hat⟩ := dd.dictAt
    have l1 : ks.length = vs.length := rel.length
    have col : wpAny (model X.prog X.w) X.A (collect (.ref a)) Q E s := by
      refine PySem.W.kdu_collect (A := X.A) (PySem.W.kdl_dict (knd := mixKind X.prog X.w) (kvs := vs) (ep := ep) lo) (I.ok.hd hc) hat (by omega) fun h' tk acc hk hacc => ?_
      refine hQ _ _ (I.kept (t' := tk) hk) ?_
      have len : acc.toList.length = ks.length := by rw [Array.length_toList, hacc.1, l1]
      have all : PySem.W.EachIs (fun (u : Value) (q : Key × V) => RelV (kV q.1) u) acc.toList ks := each_get len fun j v q e1 e2 => by
        obtain ⟨k, x, f1, f2⟩ := hacc.2 j v (by rw [← Array.getElem?_toList]; exact e1)
        obtain ⟨q', f6, f7, _⟩ := kv_at rel e2
        rw [f1] at f6; cases f6
        rw [f7]
        exact relV_key f2
      have mk : ∀ {us : List Value} {qs : List (Key × V)}, PySem.W.EachIs (fun (u : Value) (q : Key × V) => RelV (kV q.1) u) us qs → Vals (qs.map fun q => kV q.1) us := by
        intro us qs h
        induction h with
        | nil => exact .nil
        | cons h _ ih => exact .cons h ih
      exact mk all
    unfold PySem.W.StarOf notIterableAtAll
    exact wpAny_bind (wpAny_specialOf dd.typeIs PySem.F.slot_dict_iter.lookup (wpAny_pure ⟨rfl, col⟩))
theorem pa_starV {te : TE} {p : Pos} (hc : X.calm = true) (he : PE X e te) (hr : PA X es t) (hs : starEach (.Starred e p :: es) X.env = (true, eval e X.env) :: starEach es X.env) :
    PA X (.Starred e p :: es) (fun σ H Q => te σ H fun x H1 => ∃ ys, StarV X.K H1 x ys ∧ t σ H1 fun zs H2 => Q (ys ++ zs) H2) := by
  refine ⟨fun pos pins s σ H Q I h => PySem.W.items_star (thn (he.run pins s σ H _ I h) fun v s1 ⟨y, H1, I1, ry, ys, ⟨a, ey, hx⟩, q⟩ => ?_) hs⟩
  subst ey
  obtain rfl : v = Value.ref a := ry
  refine star_V hc I1 hx fun us s2 I2 rv => ?_
  exact thn (hr.run pos pins s2 σ H1 _ I2 q) fun ws s3 ⟨vs, H3, I3, r3, q3⟩ => ⟨ys ++ vs, H3, I3, rv.append r3, q3⟩
end
end Iv
end
section
set_option autoImplicit false
set_option maxRecDepth 100000
set_option maxHeartbeats 4000000
namespace Iv
open PySem L2
theorem Rl.take {K : Fg} {F G H : Hp} {m : List Addr} {S : Hs} (l : Rl K F G m S H) (k : Nat) : Rl K F G (m.take k) (S.take k) H := by
  refine ⟨l.ext, l.fr, fun a o h => ⟨(l.fd a o h).1, fun hm => (l.fd a o h).2 (List.mem_of_mem_take hm)⟩, fun a ha => l.mh a (List.mem_of_mem_take ha), by simp [l.len], (List.take_sublist k m).nodup l.nd, fun n a o h1 h2 => ?_⟩
  by_cases hn : n < k
  · rw [List.getElem?_take_of_lt hn] at h1 h2
    exact l.ob n a o h1 h2
  · rw [List.getElem?_take_eq_none (by omega)] at h1; cases h1
theorem Grow.take {G G' : Hp} {m m' : List Addr} (g : Grow G m G' m') : Grow G m G' (m'.take m.length) := by
  refine ⟨g.1, fun n a h => ?_⟩
  rw [List.getElem?_take_of_lt (List.getElem?_eq_some_iff.mp h).1]
  exact g.2 n a h
/-- an instance that is met -/
theorem insOf_slt {K : Fg} {F G H : Hp} {m : List Addr} {S : Hs} {c : Nat} {v : Vl} {u : V} (l : Rl K F G m S H) (r : RepV K G m v u) (h : insOf c v S = true) : ∃ a dx vs, u = .ref a ∧ SlX.Slt H a (K.cl c) dx vs := by
  unfold insOf at h
  split at h
  · have e := eq_of_beq h
    subst e
    exact rep_slt l.ext r
  · rename_i n
    obtain ⟨a, ha, rfl⟩ := r
    split at h
    · rename_i c' fs hs
      have e := eq_of_beq h
      subst e
      obtain ⟨_, dx, vs, h2, h3, _, _⟩ := (l.ob n a _ ha hs).ins
      exact ⟨a, dx, vs, rfl, .inr ⟨h2, l.ext _ _ h3⟩⟩
    · cases h
  · cases h
theorem repOs_get {K : Fg} {G : Hp} {fs : List (Option D)} {vs : List (Option V)} (h : RepOs K G fs vs) : ∀ {k : Nat} {d : D}, fs[k]? = some (some d) → ∃ v, vs[k]? = some (some v) ∧ Rep K G d v := by
  induction h with
  | nil => intro k d e; simp at e
  | none _ ih =>
    intro k d e
    cases k with
    | zero => simp at e
    | succ k => simpa using ih (k := k) (by simpa using e)
  | some r _ ih =>
    intro k d e
    cases k with
    | zero => simp at e; subst e; exact ⟨_, rfl, r⟩
    | succ k => simpa using ih (k := k) (by simpa using e)
theorem fldOf_slt {K : Fg} {F G H : Hp} {m : List Addr} {S : Hs} {c k : Nat} {v : Vl} {u : V} {d : D} (l : Rl K F G m S H) (r : RepV K G m v u) (h : fldOf c k v S = some d) : ∃ a dx vs w, u = .ref a ∧ SlX.Slt H a (K.cl c) dx vs ∧ vs[k]? = some (some w) ∧ Rep K G d w := by
  unfold fldOf at h
  split at h
  · rename_i c' fs
    split at h
    · rename_i e
      subst e
      cases r with
      | ins h1 h2 _ q =>
        obtain ⟨w, e1, e2⟩ := q.get h
        exact ⟨_, _, _, w, rfl, .inr ⟨l.ext _ _ h1, l.ext _ _ h2⟩, by rw [List.getElem?_map, e1]; rfl, e2⟩
    · cases h
  · rename_i n
    obtain ⟨a, ha, rfl⟩ := r
    split at h
    · rename_i c' fs hs
      split at h
      · rename_i e
        subst e
        obtain ⟨_, dx, vs, h2, h3, _, h5⟩ := (l.ob n a _ ha hs).ins
        cases e1 : fs[k]? with
        | none => rw [e1] at h; cases h
        | some o =>
          rw [e1] at h
          cases o with
          | none => cases h
          | some d' =>
            cases h
            obtain ⟨w, e2, e3⟩ := repOs_get h5 e1
            exact ⟨a, dx, vs, w, rfl, .inr ⟨h2, l.ext _ _ h3⟩, e2, e3⟩
      · cases h
    · cases h
  · cases h
theorem allD_reps {K : Fg} {G : Hp} {fs : List (Option D)} {vs : List (Option V)} (h : RepOs K G fs vs) : ∀ {xs : List D}, allD fs = some xs → ∃ ws, vs = ws.map some ∧ Reps K G xs ws := by
  induction h with
  | nil => intro xs e; cases e; exact ⟨[], rfl, .nil⟩
  | none _ _ => intro xs e; cases e
  | @some x v fs vs r _ ih =>
    intro xs e
    simp only [allD] at e
    cases q : allD fs with
    | none => rw [q] at e; cases e
    | some ys =>
      rw [q] at e; cases e
      obtain ⟨ws, e1, e2⟩ := ih q
      exact ⟨v :: ws, by rw [e1]; rfl, .cons r e2⟩
/-- dict(pairs) -/
theorem dofL_rep {K : Fg} {G H : Hp} (ex : Ext G H) : ∀ {xs : List D} {vs : List V} {acc kvs : List (Ky × D)} {ks : List (Key × V)}, Reps K G xs vs → RepKs K G acc ks → dofL xs acc = some kvs →
    ∃ (ps : List Addr) (qs : List (Key × V)), vs = ps.map V.ref ∧ Paired (fun p kv => SqT K H p [kV kv.1, kv.2]) ps qs ∧ RepKs K G kvs (mergeK ks qs)
  | [], _, acc, kvs, ks, .nil, ra, h => by simp only [dofL, Option.some.injEq] at h; subst h; exact ⟨[], [], rfl, .nil, ra⟩
  | x :: xs, _, acc, kvs, ks, .cons r t, ra, h => by
    match x, r, h with
    | .tup [k, v], r, h =>
      simp only [dofL] at h
      cases r with
      | tup hs q =>
        cases q with
        | cons q1 q => cases q with
          | cons q2 q =>
            cases q
            cases hk : keyD k with
            | none => rw [hk] at h; cases h
            | some ky =>
              rw [hk] at h
              obtain ⟨rfl, ok⟩ := keyD_V q1 hk
              obtain ⟨ps, qs, e1, e2, e3⟩ := dofL_rep ex t (kput_val ok q2 ra) h
              exact ⟨_ :: ps, (kyOf ky, _) :: qs, by rw [e1]; rfl, .cons (hs.ext ex) e2, e3⟩
section
variable {nm : Nm} {cl : Nat → Addr} {P : Prg} {cal : Cal} {n : Nat} {X : Cx} {W : WX} {e l r : Expr} {es : List Expr} {pos : Pos} {x y z : Ex}
theorem star1 {sc : Scope} {N : List Str} (h : isE nm N sc x e = true) : starEach [e] X.env = [(false, eval e X.env)] := star_e h
theorem e_ptup {k : Nat} (ha : PA X es (TXs nm cl X W (evs P cal x))) : PE X (.Tuple es k pos) (TX nm cl X W (ev P cal (.ptup x))) := by
  refine PE.imp (pe_tupP ha) fun σ H Q ⟨F, G, m, r, S, rl, rv, out⟩ => ?_
  simp only [ev] at out
  refine tX.bind rl rv out fun u1 H1 G1 m1 v1 S1 g1 l1 rv1 r1 out => ?_
  split at out
  · rename_i xs hx
    split at out
    · rename_i hz
      have hl : u1.length ≤ sizeLine := by rw [← r1.length]; exact small_line hz
      have al : ∀ p us, H1 p = none → Al G1 H1 _ _ := fun p us hp => Al.one (o := .frz (tupO us) (.tup u1)) hp
      exact ⟨hl, fun p us hp => Out.gives out l1 _ _ _ (al p us hp) (.ptp ⟨tupO us, us, 0, .inl upd_same, rfl, rfl, rfl, hl⟩ ((dsOf_reps r1 hx).mono ((al p us hp).ext l1.ext).2.1))⟩
    · exact out.elim
  · exact out.elim
theorem e_ptl {p : Pos} {sc : Scope} {N : List Str} (C : Ck nm cl P cal n X W) (h1 : glB X.env.scope ("tuple" : Str) = true) (hs : isE nm N sc x e = true) (ha : PE X e (TX nm cl X W (ev P cal x))) :
    PE X (.Call (.Name ("tuple" : Str) p) [e] [] pos) (TX nm cl X W (ev P cal (.ptl x))) := by
  refine PE.imp (pe_callTy call_tupP (glB_d h1) (C.md.bt .tuple) (by decide +kernel) (pa_cons ha pa_nil (star_e hs)) (by decide +kernel) (by decide +kernel) (star_e hs) rfl) fun σ H Q ⟨F, G, m, r, S, rl, rv, out⟩ => ?_
  simp only [ev] at out
  refine tX.bind rl rv out fun u1 H1 G1 m1 v1 S1 g1 l1 rv1 r1 out => ?_
  split at out
  · cases r1 with
    | lst h1 h2 =>
      refine ⟨_, _, rfl, .of (l1.ext _ _ h1), fun hz q us hq => ?_⟩
      rename_i ws
      have al : Al G1 H1 _ _ := Al.one (o := .frz (tupO us) (.tup ws)) hq
      exact Out.gives out l1 _ _ _ al (.ptp ⟨tupO us, us, 0, .inl upd_same, rfl, rfl, rfl, hz⟩ (h2.mono (al.ext l1.ext).2.1))
  · exact out.elim
theorem e_dof {p : Pos} {sc : Scope} {N : List Str} (C : Ck nm cl P cal n X W) (h1 : glB X.env.scope ("dict" : Str) = true) (hs : isE nm N sc x e = true) (ha : PE X e (TX nm cl X W (ev P cal x))) :
    PE X (.Call (.Name ("dict" : Str) p) [e] [] pos) (TX nm cl X W (ev P cal (.dof x))) := by
  have both : CallR X (.type "dict") (fun xs H Q => (∃ (a : Addr) (ps : List Addr) (kvs : List (Key × V)), xs = [.ref a] ∧ SqP X.K H a (ps.map V.ref) ∧ Paired (fun p kv => SqT X.K H p [kV kv.1, kv.2]) ps kvs ∧ ∀ p, H p = none → Q (.ref p) (upd H p (.dK (mergeK [] kvs)))) ∨
      (∃ (a : Addr) (ps : List Addr) (kvs : List (Key × V)), xs = [.ref a] ∧ SqL X.K H a (ps.map V.ref) ∧ Paired (fun p kv => SqT X.K H p [kV kv.1, kv.2]) ps kvs ∧ ∀ p, H p = none → Q (.ref p) (upd H p (.dK (mergeK [] kvs))))) :=
    fun pins s σ H xs us Q I r h => h.elim (call_dofP C.calm pins s σ H xs us Q I r) (call_dictP C.calm pins s σ H xs us Q I r)
  refine PE.imp (pe_lock (pe_callTy both (glB_d h1) (C.md.bo _ (by decide)) (by decide +kernel) (pa_cons ha pa_nil (star_e hs)) (by decide +kernel) (by decide +kernel) (star_e hs) rfl)) fun σ H Q ⟨F, G, m, r, S, rl, rv, out⟩ => ?_
  simp only [ev] at out
  refine tX.bind rl rv out fun u1 H1 G1 m1 v1 S1 g1 l1 rv1 r1 out => ?_
  have fin : ∀ (xs : List D) (vs : List V), Reps (kx cl X) G1 xs vs → OutV nm.excs X.mg (kx cl X) W F σ G1 m1 Q (R.opt ((dofL xs []).map fun kvs => .d (.dct kvs)) S1) → ∃ (ps : List Addr) (qs : List (Key × V)), vs = ps.map V.ref ∧ Paired (fun p kv => SqT X.K H1 p [kV kv.1, kv.2]) ps qs ∧
      ∀ p, H1 p = none → ∃ p' kvs, V.ref p = .ref p' ∧ upd H1 p (.dK (mergeK [] qs)) p' = some (.dK kvs) ∧ ∀ o, Q (V.ref p) (upd (upd H1 p (.dK (mergeK [] qs))) p' (.frz o (.dK kvs))) := by
    intro xs vs hr out
    cases hd : dofL xs [] with
    | none => rw [hd] at out; exact out.elim
    | some kvs =>
      rw [hd] at out
      obtain ⟨ps, qs, e1, e2, e3⟩ := dofL_rep (K := kx cl X) l1.ext hr .nil hd
      refine ⟨ps, qs, e1, e2, fun p hp => ⟨p, _, rfl, upd_same, fun o => ?_⟩⟩
      rw [upd_upd]
      have al : Al G1 H1 _ _ := Al.one (o := .frz o (.dK (mergeK [] qs))) hp
      exact Out.gives out l1 _ _ _ al (.dct upd_same (e3.mono (al.ext l1.ext).2.1))
  split at out
  · cases r1 with
    | ptp h1 h2 =>
      obtain ⟨ps, qs, rfl, e2, e3⟩ := fin _ _ h2 out
      exact .inl ⟨_, ps, qs, rfl, h1.ext l1.ext, e2, e3⟩
  · cases r1 with
    | lst h1 h2 =>
      obtain ⟨ps, qs, rfl, e2, e3⟩ := fin _ _ h2 out
      exact .inr ⟨_, ps, qs, rfl, .of (l1.ext _ _ h1), e2, e3⟩
  · exact out.elim
end
end Iv
end
section
set_option autoImplicit false
set_option maxRecDepth 100000
set_option maxHeartbeats 4000000
namespace Iv
open PySem L2
section
variable {nm : Nm} {cl : Nat → Addr} {P : Prg} {cal : Cal} {n : Nat} {X : Cx} {W : WX} {e l r : Expr} {es : List Expr} {pos : Pos} {x y z : Ex}
/-! ### d == {} -/
theorem deq0_read {ng : Bool} {σ : L2.St} {H : Hp} {Q : VK} (h : TX nm cl X W (ev P cal (.deq0 ng x)) σ H Q) :
    TX nm cl X W (ev P cal x) σ H fun a H1 => ∀ p, H1 p = none → ∃ a' b ks, a = .ref a' ∧ V.ref p = .ref b ∧ Rd (upd H1 p (.dK [])) a' (.dK ks) ∧ upd H1 p (.dK []) b = some (.dK []) ∧ Q (.bl (if ng then !ks.isEmpty else ks.isEmpty)) (upd H1 p (.dK [])) := by
  obtain ⟨F, G, m, r, S, rl, rv, out⟩ := h
  simp only [ev] at out
  refine tX.bind rl rv out fun u1 H1 G1 m1 v1 S1 g1 l1 rv1 r1 out p hp => ?_
  split at out
  · cases r1 with
    | dct h1 h2 =>
      have al : Al G1 H1 _ _ := Al.one (o := .dK []) hp
      have em : ∀ {xs : List (Ky × D)} {ks : List (Key × V)}, RepKs (kx cl X) G1 xs ks → ks.isEmpty = xs.isEmpty := fun h => by cases h <;> rfl
      refine ⟨_, p, _, rfl, rfl, .inr ⟨_, by rw [upd_ne (ne_of_none (l1.ext _ _ h1) hp)]; exact l1.ext _ _ h1⟩, upd_same, ?_⟩
      rw [em h2]
      exact Out.gives out l1 _ _ _ al (.bl _)
  · exact out.elim
theorem pc_deq0 {ng : Bool} {p : Pos} (C : Ck nm cl P cal n X W) (ha : PE X l (TX nm cl X W (ev P cal x))) : PC X (if ng then .NotEq else .Eq) l (.Dict [] [] p) (TX nm cl X W (ev P cal (.deq0 ng x))) := by
  have key := pc_S (X := X) (op := if ng then .NotEq else .Eq) ha (pe_dnewK (pos := p)) (fun pins s σ H x y v u Q I rx ry h => op_deq0 (ng := ng) (Nat.lt_of_le_of_lt (by omega) C.room.units) pins s σ H x y v u Q I rx ry h)
  exact ⟨fun pins s σ H Q I hw => key.run pins s σ H Q I (deq0_read hw)⟩
theorem e_deq0 {ng : Bool} {p : Pos} (C : Ck nm cl P cal n X W) (ha : PE X l (TX nm cl X W (ev P cal x))) : PE X (.Compare l [if ng then .NotEq else .Eq] [.Dict [] [] p] pos) (TX nm cl X W (ev P cal (.deq0 ng x))) := pe_cmp (pc_deq0 C ha) (by cases ng <;> rfl)
theorem t_deq0 {ng : Bool} {p : Pos} (C : Ck nm cl P cal n X W) (ha : PE X l (TX nm cl X W (ev P cal x))) : PT X (.Compare l [if ng then .NotEq else .Eq] [.Dict [] [] p] pos) (tB (TX nm cl X W (ev P cal (.deq0 ng x)))) := pt_cmp (pc_deq0 C ha) (by cases ng <;> rfl)
/-! ### sorted -/
theorem e_srt {p : Pos} {sc : Scope} {N : List Str} (C : Ck nm cl P cal n X W) (h1 : glB X.env.scope ("sorted" : Str) = true) (hs : isE nm N sc x e = true) (ha : PE X e (TX nm cl X W (ev P cal x))) :
    PE X (.Call (.Name ("sorted" : Str) p) [e] [] pos) (TX nm cl X W (ev P cal (.srt x))) := by
  have both := fun (pins : List (Addr × Obj)) (s : Shared) (σ : L2.St) (H : Hp) (xs : List V) (us : List Value) (Q : VK) (I : Inv X pins σ H s) (r : Vals xs us)
      (h : (∃ (G : Hp) (xs' : List D) (x : V), xs = [x] ∧ Ext G H ∧ Rd' (kx cl X) G H (.lst xs') x ∧ sortOk xs' = true ∧ Gives (kx cl X) G H (.lst (sortD xs')) Q) ∨
        (∃ (G : Hp) (xs' : List (Ky × D)) (a : Addr) (ks : List (Key × V)), xs = [.ref a] ∧ Ext G H ∧ Rd H a (.dK ks) ∧ RepKs (kx cl X) G xs' ks ∧ sortOk (xs'.map fun p => kyD p.1) = true ∧ Gives (kx cl X) G H (.lst (sortD (xs'.map fun p => kyD p.1))) Q)) =>
    h.elim (cr_srtL (cl := cl) C.room.units pins s σ H xs us Q I r) (cr_srtK (cl := cl) C.calm C.room.units pins s σ H xs us Q I r)
  refine PE.imp (pe_callB both (glB_d h1) (C.md.bo _ (by decide)) (by decide +kernel) (pa_cons ha pa_nil (star_e hs)) (by decide +kernel) (by decide +kernel) (star_e hs) rfl) fun σ H Q ⟨F, G, m, r, S, rl, rv, out⟩ => ?_
  simp only [ev] at out
  refine tX.bind rl rv out fun u1 H1 G1 m1 v1 S1 g1 l1 rv1 r1 out => ?_
  unfold srtL at out
  cases ek : rdK v1 S1 with
  | some kvs =>
    rw [ek] at out
    dsimp only at out
    split at out
    · rename_i hso
      obtain ⟨a, ks, rfl, q1, q2⟩ := rdK_rd l1 r1 ek
      exact .inr ⟨G1, kvs, a, ks, rfl, l1.ext, q1, q2, hso, Out.gives out l1⟩
    · exact out.elim
  | none =>
    rw [ek] at out
    cases ev : rdV v1 S1 with
    | none => rw [ev] at out; exact out.elim
    | some d =>
      rw [ev] at out
      cases d with
      | lst xs =>
        dsimp only at out
        split at out
        · rename_i hso
          exact .inl ⟨G1, xs, u1, rfl, l1.ext, rdV_rd l1 r1 ev, hso, Out.gives out l1⟩
        · exact out.elim
      | _ => exact out.elim
theorem e_srti {p ap p2 : Pos} {sc : Scope} {N : List Str} (C : Ck nm cl P cal n X W) (h1 : glB X.env.scope ("sorted" : Str) = true) (h0 : noC0 e = true) (hl : (ap.endLine == p2.line) = true) (ha : PE X e (TX nm cl X W (ev P cal x))) :
    PE X (.Call (.Name ("sorted" : Str) p) [.Call (.Attribute e ("items" : Str) ap) [] [] p2] [] pos) (TX nm cl X W (ev P cal (.srti x))) := by
  have it := pe_bm0 (X := X) (cpos := p2) (apos := ap) PySem.F.plainAttrs_dict PySem.F.slot_dict_items PySem.F.type_dict_items mt_itemsK ha (base_e h0) hl
  refine PE.imp (pe_callB (cr_srtI (cl := cl) C.calm C.room.units) (glB_d h1) (C.md.bo _ (by decide)) (by decide +kernel) (pa_cons it pa_nil rfl) (by decide +kernel) (by decide +kernel) rfl rfl) fun σ H Q ⟨F, G, m, r, S, rl, rv, out⟩ => ?_
  simp only [ev] at out
  refine tX.bind rl rv out fun u1 H1 G1 m1 v1 S1 g1 l1 rv1 r1 out => ?_
  cases v1 with
  | d _ => exact out.elim
  | xc _ _ => exact out.elim
  | loc k =>
    obtain ⟨a, ha, rfl⟩ := r1
    dsimp only at out
    cases es : S1[k]? with
    | none => rw [es] at out; exact out.elim
    | some ob =>
      rw [es] at out
      cases ob with
      | dct kvs =>
        dsimp only at out
        split at out
        · rename_i hso
          have hso := Bool.and_eq_true_iff.mp hso
          obtain ⟨ga, ks, q2, q3⟩ := (l1.ob k a _ ha es).dct
          refine ⟨.inr (.inr (.inl ⟨rfl, .inl ⟨ks, q2⟩⟩)), a, ks, rfl, rfl, q2, fun q hq => ?_⟩
          have al : Al G1 H1 _ _ := Al.one (o := L2.DX.itemsO q a) hq
          have l2 := l1.al al
          refine ⟨_, kvs, q, a, ks, rfl, l2.ext, upd_same, .inl (by rw [upd_ne (ne_of_none q2 hq)]; exact q2), q3.mono (al.ext l1.ext).2.1, hso.1, fun z hz => List.all_eq_true.mp hso.2 z hz, ?_⟩
          exact Out.gives (Out.grow (al.grow l1.ext) out) l2
        · exact out.elim
      | _ => exact out.elim
/-! ### [*a, *b] -/
theorem starL_V {K : Fg} {F G H : Hp} {m : List Addr} {v : Vl} {u : V} {xs : List D} (ex : Ext G H) (r : RepV K G m v u) (h : starL v = some xs) : ∃ ys, StarV K H u ys ∧ Reps K G xs ys := by
  unfold starL at h
  split at h
  · cases h
    cases r with
    | lst h1 h2 => exact ⟨_, ⟨_, rfl, .inr (.inl (.of (ex _ _ h1)))⟩, h2⟩
  · cases h
    cases r with
    | tup h1 h2 => exact ⟨_, ⟨_, rfl, .inl (h1.ext ex)⟩, h2⟩
  · cases h
    cases r with
    | dct h1 h2 =>
      refine ⟨_, ⟨_, rfl, .inr (.inr ⟨_, .inr ⟨_, ex _ _ h1⟩, rfl⟩)⟩, ?_⟩
      have all : ∀ {xs : List (Ky × D)} {ks : List (Key × V)}, RepKs K G xs ks → Reps K G (xs.map fun p => kyD p.1) (ks.map fun q => kV q.1) := by
        intro xs
        induction xs with
        | nil => intro ks h; cases h; exact .nil
        | cons p xs ih =>
          intro ks h
          cases h with
          | cons o _ t => exact .cons (rep_key o) (ih t)
      exact all h2
  · cases h
theorem e_stars {p1 p2 : Pos} (C : Ck nm cl P cal n X W) (ha : PE X l (TX nm cl X W (ev P cal x))) (hb : PE X r (TX nm cl X W (ev P cal y))) : PE X (.List [.Starred l p1, .Starred r p2] pos) (TX nm cl X W (ev P cal (.stars x y))) := by
  refine PE.imp (pe_lst (pa_starV C.calm ha (pa_starV C.calm hb pa_nil rfl) rfl)) fun σ H Q ⟨F, G, m, r, S, rl, rv, out⟩ => ?_
  simp only [ev] at out
  refine tX.bind rl rv out fun u1 H1 G1 m1 v1 S1 g1 l1 rv1 r1 out => ?_
  cases e1 : starL v1 with
  | none => rw [e1] at out; exact out.elim
  | some xs =>
    obtain ⟨ys, q1, q2⟩ := starL_V (F := F) l1.ext r1 e1
    rw [e1] at out
    refine ⟨ys, q1, tX.bind l1 rv1 out fun u2 H2 G2 m2 v2 S2 g2 l2 rv2 r2 out => ?_⟩
    cases e2 : starL v2 with
    | none => rw [e2] at out; exact out.elim
    | some zs =>
      rw [e2] at out
      dsimp only at out
      obtain ⟨ws, q3, q4⟩ := starL_V (F := F) l2.ext r2 e2
      refine ⟨ws, q3, ?_⟩
      split at out
      · rename_i hz
        refine ⟨?_, fun p hp => ?_⟩
        · rw [List.append_nil, List.length_append, ← q2.length, ← q4.length]; exact small_line hz
        · rw [List.append_nil]
          exact (Out.gives out l2).newL l2.ext ((q2.mono g2.1).append q4) hp
      · exact out.elim
end
end Iv
end
section
set_option autoImplicit false
set_option maxRecDepth 100000
set_option maxHeartbeats 4000000
namespace Iv
open PySem L2
section
variable {nm : Nm} {cl : Nat → Addr} {P : Prg} {cal : Cal} {n : Nat} {X : Cx} {W : WX} {e l r : Expr} {es : List Expr} {pos : Pos} {x y z : Ex}
/-! ### fields -/
theorem e_slt {j : Nat} {s : Str} (C : Ck nm cl P cal n X W) (hj : nm.sls[j]? = some s) (h0 : noC0 e = true) (ha : PE X e (TX nm cl X W (ev P cal x))) : PE X (.Attribute e s pos) (TX nm cl X W (ev P cal (.slt j x))) := by
  refine PE.imp (SlX.pe_sl ha (base_e h0)) fun σ H Q ⟨F, G, m, r, S, rl, rv, out⟩ => ?_
  simp only [ev] at out
  refine tX.bind rl rv out fun u1 H1 G1 m1 v1 S1 g1 l1 rv1 r1 out => ?_
  cases hq : P.sls[j]? with
  | none => rw [hq] at out; exact out.elim
  | some q =>
    rw [hq] at out
    dsimp only at out
    obtain ⟨k1, p, k2⟩ := C.md.sl j q s hq hj
    cases hf : fldOf q.1 q.2 v1 S1 with
    | none => rw [hf] at out; exact out.elim
    | some d =>
      rw [hf] at out
      obtain ⟨a, dx, vs, w, rfl, q1, q2, q3⟩ := fldOf_slt l1 r1 hf
      exact ⟨a, _, dx, p, vs, _, w, rfl, q1, k1, k2, q2, (Out.gives out l1).here q3.wk⟩
theorem e_sltp {j : Nat} {s : Str} (C : Ck nm cl P cal n X W) (hj : nm.sls[j]? = some s) (h0 : noC0 e = true) (ha : PE X e (TX nm cl X W (ev P cal x))) : PE X (.Attribute e s pos) (TX nm cl X W (ev P cal (.sltp j x))) := by
  refine PE.imp (SlX.pe_sl ha (base_e h0)) fun σ H Q ⟨F, G, m, r, S, rl, rv, out⟩ => ?_
  simp only [ev] at out
  refine tX.bind rl rv out fun u1 H1 G1 m1 v1 S1 g1 l1 rv1 r1 out => ?_
  cases hq : P.sls[j]? with
  | none => rw [hq] at out; exact out.elim
  | some q =>
    rw [hq] at out
    dsimp only at out
    obtain ⟨k1, p, k2⟩ := C.md.sl j q s hq hj
    cases hf : fldOf q.1 q.2 v1 S1 with
    | none => rw [hf] at out; exact out.elim
    | some d =>
      rw [hf] at out
      obtain ⟨a, dx, vs, w, rfl, q1, q2, q3⟩ := fldOf_slt l1 r1 hf
      exact ⟨a, _, dx, p, vs, _, w, rfl, q1, k1, k2, q2, (Out.gives out l1).here q3⟩
/-! ### C(..) -/
/-- what a make asks, when the arguments are there -/
theorem mk_read {F G H : Hp} {m : List Addr} {S : Hs} {c f : Nat} {vs : List Vl} {us : List V} {σ : L2.St} {Q : VK} {sp : Sp} (l : Rl (kx cl X) F G m S H) (r : RVs (kx cl X) G m vs us) (out : OutV nm.excs X.mg (kx cl X) W F σ G m Q (mkV cal c f vs S))
    (g2 : ∀ (σ : L2.St) (F G : Hp) (m : List Addr) (vs : List Vl) (us : List V) (S : Hs) (H : Hp) (Q : VK), Rl (kx cl X) F G m S H → RVs (kx cl X) G m vs us → OutV nm.excs X.mg (kx cl X) W F σ G m Q (cal f vs S) → f < nm.nf ∧ sp us H Q (WE W σ)) :
    ∀ x dx, H x = none → H dx = none → dx ≠ x → f < nm.nf ∧ sp (V.ref x :: us) (upd (upd H dx (.xd [])) x (SlX.SlO x (cl c) dx [])) (fun v H2 => v = .non ∧ Q (.ref x) H2) (WE W σ) := by
  intro x dx hx hdx hne
  have al : Al G H _ _ := Al.one (o := .xd []) hdx
  have l1 := l.al al
  have hx1 : (upd H dx (.xd [])) x = none := by rw [upd_ne (Ne.symm hne)]; exact hx
  have l2 := l1.new (p := x) (ob := .ins c []) (ho := SlX.SlO x (cl c) dx []) hx1 (ObV.ins (K := kx cl X) upd_same hne .nil)
  have gr : Grow G m (upd G dx (.xd [])) (m ++ [x]) := ⟨(al.ext l.ext).2.1, fun k a h => by rw [List.getElem?_append_left (List.getElem?_eq_some_iff.mp h).1]; exact h⟩
  have hself : (m ++ [x])[S.length]? = some x := by rw [← l.len]; simp
  have rv : RVs (kx cl X) (upd G dx (.xd [])) (m ++ [x]) (.loc S.length :: vs) (V.ref x :: us) := by
    refine .cons ⟨x, hself, rfl⟩ ?_
    have mono : ∀ {vs : List Vl} {us : List V}, RVs (kx cl X) G m vs us → RVs (kx cl X) (upd G dx (.xd [])) (m ++ [x]) vs us := by
      intro vs us h
      induction h with
      | nil => exact .nil
      | cons h _ ih => exact .cons (h.mono gr) ih
    exact mono r
  refine g2 σ F _ _ _ _ _ _ _ l2 rv ?_
  unfold mkV at out
  cases hcal : cal f (.loc S.length :: vs) (S ++ [.ins c []]) with
  | bad => rw [hcal] at out; exact out.elim
  | exc c' fs S3 => rw [hcal] at out; exact fun G' m' H' cls d g' => out G' m' H' cls d (gr.trans g')
  | ok v3 S3 =>
  rw [hcal] at out
  simp only [R.bind] at out
  have o3 := out
  intro G3 m3 H2 u g3 l3 r3
  cases v3 with
  | loc _ => exact o3.elim
  | xc _ _ => exact o3.elim
  | d d =>
  cases d with
  | non =>
    cases r3
    refine ⟨rfl, ?_⟩
    have hm3 : m3[S.length]? = some x := g3.2 _ _ hself
    cases hs : S3[S.length]? with
    | none => rw [hs] at o3; exact o3.elim
    | some ob =>
      rw [hs] at o3
      cases ob with
      | ins c' fs =>
        dsimp only at o3
        split at o3
        · rename_i hc
          subst hc
          cases ha : allD fs with
          | none => rw [ha] at o3; exact o3.elim
          | some xs =>
            rw [ha] at o3
            obtain ⟨z1, dx', vs', z2, z3, z4, z5⟩ := (l3.ob _ x _ hm3 hs).ins
            obtain ⟨ws, rfl, z6⟩ := allD_reps z5 ha
            obtain ⟨ex, l4⟩ := l3.still hm3 z1 z2
            have l5 := l4.take S.length
            rw [List.take_set_of_le (Nat.le_refl _)] at l5
            have gg : Grow G m _ m3 := (gr.trans g3).trans ⟨ex, fun _ _ h => h⟩
            have gt := gg.take
            rw [l.len] at gt
            exact o3 _ _ H2 (.ref x) gt l5 (Rep.ins (K := kx cl X) upd_same (ex _ _ z3) z4 (z6.mono ex))
        · exact o3.elim
      | _ => exact o3.elim
  | _ => exact o3.elim
theorem nil_isA {sc : Scope} {N : List Str} (hs : isA nm N sc x [] = true) : x = .nil := by
  cases x <;> first | rfl | cases hs
theorem e_mk {j : Nat} {s : Str} {p : Pos} {sc : Scope} {N : List Str} (C : Ck nm cl P cal n X W) (hj : nm.mks[j]? = some s) (h1 : glB X.env.scope s = true) (ho : okN s = true) (hs : isA nm N sc x es = true) (ha : PA X es (TXs nm cl X W (evs P cal x))) :
    PE X (.Call (.Name s p) es [] pos) (TX nm cl X W (ev P cal (.mk j x))) := by
  cases hq : P.mks[j]? with
  | none => exact ⟨fun pins s σ H Q I ⟨F, G, m, r, S, rl, rv, out⟩ => by simp only [ev, hq] at out; exact out.elim⟩
  | some q =>
    obtain ⟨sp, g1, g2⟩ := C.go (f := q.2)
    obtain ⟨hf, mk⟩ := C.md.mkk j q hq
    cases es with
    | nil =>
      refine PE.imp (pe_mk0 (ES := WE W) mk (g1 hf) (C.room.mono (by omega)) (glB_d h1) (C.md.mn j q s hq hj) (fun σ => passAt C.tk σ) (okN_d ho).1) fun σ H Q ⟨F, G, m, r, S, rl, rv, out⟩ => ?_
      have e1 := nil_isA hs
      subst e1
      simp only [ev, hq, evs, R.bind] at out
      exact fun a dx z1 z2 z3 => (mk_read rl .nil out g2 a dx z1 z2 z3).2
    | cons e es =>
      obtain ⟨s1, s2⟩ := star_args (X := X) (pos := pos) hs
      refine PE.imp (pe_mk (ES := WE W) mk (g1 hf) (C.room.mono (by omega)) (glB_d h1) (C.md.mn j q s hq hj) (fun σ => passAt C.tk σ) ha (okN_d ho).1 s1 s2) fun σ H Q ⟨F, G, m, r, S, rl, rv, out⟩ => ?_
      simp only [ev, hq] at out
      refine tX.bind rl rv out fun u1 H1 G1 m1 v1 S1 g1 l1 rv1 r1 out => ?_
      exact fun a dx z1 z2 z3 => (mk_read l1 r1 out g2 a dx z1 z2 z3).2
theorem e_mkc {i j : Nat} {s : Str} {p : Pos} {sc : Scope} {N : List Str} (C : Ck nm cl P cal n X W) (hN : X.N[i]? = some s) (hv : visB X.env.scope s = true) (ho : okN s = true) (hs : isA nm N sc x (e :: es) = true) (ha : PA X (e :: es) (TXs nm cl X W (evs P cal x))) :
    PE X (.Call (.Name s p) (e :: es) [] pos) (TX nm cl X W (ev P cal (.mkc i j x))) := by
  cases hq : P.mks[j]? with
  | none => exact ⟨fun pins s σ H Q I ⟨F, G, m, r, S, rl, rv, out⟩ => by
      simp only [ev, hq] at out
      split at out
      · rename_i h; cases h
      · exact out.elim⟩
  | some q =>
    obtain ⟨sp, g1, g2⟩ := C.go (f := q.2)
    obtain ⟨hf, mk⟩ := C.md.mkk j q hq
    obtain ⟨s1, s2⟩ := star_args (X := X) (pos := pos) hs
    refine PE.imp (pe_mkV (ES := WE W) mk (g1 hf) (C.room.mono (by omega)) hN (visB_d hv) (fun σ => passAt C.tk σ) ha (okN_d ho).1 (okN_d ho).2.1 s1 s2) fun σ H Q ⟨F, G, m, r, S, rl, rv, out⟩ => ?_
    simp only [ev, hq] at out
    split at out
    · rename_i c q' hr hq'
      cases hq'
      split at out
      · rename_i hc
        obtain ⟨u, z1, z2⟩ := rv.2 i _ hr (fun _ _ z => by cases z)
        subst hc
        cases z2
        refine ⟨z1, tX.bind rl rv out fun u1 H1 G1 m1 v1 S1 g1 l1 rv1 r1 out => ?_⟩
        exact fun a dx z1 z2 z3 => (mk_read l1 r1 out g2 a dx z1 z2 z3).2
      · exact out.elim
    · exact out.elim
/-! ### methods -/
theorem form_args {sc : Scope} {N : List Str} (hs : isA nm N sc x (e :: es) = true) (hz : es.length < 20) : methodCallForm ((e :: es).length + ([] : List Keyword).length) (backTo pos (starEach (e :: es) X.env)) (backToKw pos (keywordEach [] X.env)) = true := by
  have this : decide ((e :: es).length + ([] : List Keyword).length + 0 < 30) = true := decide_eq_true (by simp; omega)
  show ((backTo pos (starEach (e :: es) X.env)).all (fun x => !x.1) && true && decide ((e :: es).length + ([] : List Keyword).length + 0 < 30)) = true
  rw [(any_star hs).2, this]; rfl
theorem e_mth {j : Nat} {s : Str} {ap : Pos} {sc : Scope} {N : List Str} (C : Ck nm cl P cal n X W) (hj : nm.mts[j]? = some s) (h0 : noC0 l = true) (hl : (ap.endLine == pos.line) = true) (hz : es.length < 20) (hs : isA nm N sc y es = true)
    (ha : PE X l (TX nm cl X W (ev P cal x))) (hb : PA X es (TXs nm cl X W (evs P cal y))) : PE X (.Call (.Attribute l s ap) es [] pos) (TX nm cl X W (ev P cal (.mth j x y))) := by
  cases hq : P.mts[j]? with
  | none => exact ⟨fun pins s σ H Q I ⟨F, G, m, r, S, rl, rv, out⟩ => by simp only [ev, hq] at out; exact out.elim⟩
  | some q =>
    obtain ⟨sp, g1, g2⟩ := C.go (f := q.2)
    obtain ⟨hf, k1, k2⟩ := C.md.mt j q s hq hj
    cases es with
    | nil =>
      refine PE.imp (pe_mth0 (ES := WE W) ha k1 k2 (g1 hf) (C.room.mono (by omega)) (fun σ => passAt C.tk σ) (base_e h0) hl) fun σ H Q ⟨F, G, m, r, S, rl, rv, out⟩ => ?_
      have e1 := nil_isA hs
      subst e1
      simp only [ev, hq] at out
      refine tX.bind rl rv out fun u1 H1 G1 m1 v1 S1 g1 l1 rv1 r1 out => ?_
      split at out
      · rename_i hi
        obtain ⟨a, dx, vs, rfl, sl⟩ := insOf_slt l1 r1 hi
        simp only [evs, R.bind] at out
        exact ⟨a, dx, vs, rfl, sl, (g2 σ F G1 m1 _ _ S1 H1 Q l1 (.cons r1 .nil) out).2⟩
      · exact out.elim
    | cons e es =>
      obtain ⟨s1, s2⟩ := star_args (X := X) (pos := pos) hs
      refine PE.imp (pe_mth (ES := WE W) ha k1 k2 (g1 hf) (C.room.mono (by omega)) (fun σ => passAt C.tk σ) hb s1 s2 (base_e h0) (form_args hs (by simp at hz; omega)) hl) fun σ H Q ⟨F, G, m, r, S, rl, rv, out⟩ => ?_
      simp only [ev, hq] at out
      refine tX.bind rl rv out fun u1 H1 G1 m1 v1 S1 g1 l1 rv1 r1 out => ?_
      split at out
      · rename_i hi
        obtain ⟨a, dx, vs, rfl, sl⟩ := insOf_slt l1 r1 hi
        refine ⟨a, dx, vs, rfl, sl, tX.bind l1 rv1 out fun u2 H2 G2 m2 v2 S2 gg2 l2 rv2 r2 out => ?_⟩
        exact (g2 σ F G2 m2 _ _ S2 H2 Q l2 (.cons (r1.mono gg2) r2) out).2
      · exact out.elim
theorem e_prp {j : Nat} {s : Str} (C : Ck nm cl P cal n X W) (hj : nm.prs[j]? = some s) (h0 : noC0 e = true) (ha : PE X e (TX nm cl X W (ev P cal x))) : PE X (.Attribute e s pos) (TX nm cl X W (ev P cal (.prp j x))) := by
  cases hq : P.prs[j]? with
  | none => exact ⟨fun pins s σ H Q I ⟨F, G, m, r, S, rl, rv, out⟩ => by simp only [ev, hq] at out; exact out.elim⟩
  | some q =>
    obtain ⟨hf, k1, p, k2⟩ := C.md.pr j q s hq hj
    have F := C.md.fn q.2 hf
    refine PE.imp (SlX.pe_propSl (E := fun _ _ _ => False) ha k1 k2.at_ k2.get k2.tk k2.rc F (C.room.mono (by omega)) (fun H s e s' c => by obtain ⟨_, _, _, _, _, _, _, _, _, _, _, _, h⟩ := c; exact h) (base_e h0)) fun σ H Q ⟨F, G, m, r, S, rl, rv, out⟩ => ?_
    simp only [ev, hq] at out
    refine tX.bind rl rv out fun u1 H1 G1 m1 v1 S1 g1 l1 rv1 r1 out => ?_
    split at out
    · rename_i hi
      obtain ⟨a, dx, vs, rfl, sl⟩ := insOf_slt l1 r1 hi
      refine ⟨a, dx, vs, rfl, sl, F, G1, m1, [v1], S1, l1, .cons r1 .nil, ?_⟩
      cases hc : cal q.2 [v1] S1 with
      | ok v S2 => rw [hc] at out; exact out
      | exc _ _ _ => rw [hc] at out; exact out.elim
      | bad => rw [hc] at out; exact out.elim
    · exact out.elim
theorem e_cme {j : Nat} {c s : Str} {ap p : Pos} {sc : Scope} {N : List Str} (C : Ck nm cl P cal n X W) (hj : nm.cms[j]? = some (c, s)) (h1 : glB X.env.scope c = true) (ho : okN c = true) (hl : (ap.endLine == pos.line) = true) (hz : es.length < 20) (hs : isA nm N sc y es = true)
    (hb : PA X es (TXs nm cl X W (evs P cal y))) : PE X (.Call (.Attribute (.Name c p) s ap) es [] pos) (TX nm cl X W (ev P cal (.cme j y))) := by
  cases hq : P.cms[j]? with
  | none => exact ⟨fun pins s σ H Q I ⟨F, G, m, r, S, rl, rv, out⟩ => by simp only [ev, hq] at out; exact out.elim⟩
  | some q =>
    obtain ⟨sp, g1, g2⟩ := C.go (f := q.2)
    obtain ⟨hf, k0, mc, q', k1, k2⟩ := C.md.cm j q c s hq hj
    have hn : PE X (.Name c p) (tC (.ref (cl q.1))) := pe_glob (glB_d h1) k0 rfl (okN_d ho).1
    cases es with
    | nil =>
      refine PE.imp (pe_cm0 (ES := WE W) hn k1 k2 (g1 hf) (C.room.mono (by omega)) (fun σ => passAt C.tk σ) rfl hl) fun σ H Q ⟨F, G, m, r, S, rl, rv, out⟩ => ?_
      have e1 := nil_isA hs
      subst e1
      simp only [ev, hq, evs, R.bind] at out
      exact ⟨rfl, (g2 σ F G m _ _ S H Q rl (.cons (show RepV (kx cl X) G m (.d (.cls q.1)) (.ref (cl q.1)) from Rep.cls (K := kx cl X) q.1) .nil) out).2⟩
    | cons e es =>
      obtain ⟨s1, s2⟩ := star_args (X := X) (pos := pos) hs
      refine PE.imp (pe_cm (ES := WE W) hn k1 k2 (g1 hf) (C.room.mono (by omega)) (fun σ => passAt C.tk σ) hb s1 s2 rfl (form_args hs (by simp at hz; omega)) hl) fun σ H Q ⟨F, G, m, r, S, rl, rv, out⟩ => ?_
      simp only [ev, hq] at out
      refine ⟨rfl, tX.bind rl rv out fun u1 H1 G1 m1 v1 S1 gg1 l1 rv1 r1 out => ?_⟩
      exact (g2 σ F G1 m1 _ _ S1 H1 Q l1 (.cons (show RepV (kx cl X) G1 m1 (.d (.cls q.1)) (.ref (cl q.1)) from Rep.cls (K := kx cl X) q.1) r1) out).2
/-! ### isinstance, len, bool -/
theorem e_isc {j : Nat} {s : Str} {p p2 : Pos} {sc : Scope} {N : List Str} (C : Ck nm cl P cal n X W) (hj : nm.cls[j]? = some s) (h1 : glB X.env.scope ("isinstance" : Str) = true) (h2 : glB X.env.scope s = true) (ho : okN s = true) (hs : isE nm N sc x e = true)
    (ha : PE X e (TX nm cl X W (ev P cal x))) : PE X (.Call (.Name ("isinstance" : Str) p) [e, .Name s p2] [] pos) (TX nm cl X W (ev P cal (.isc j x))) := by
  obtain ⟨k0, k1⟩ := C.md.is j s hj
  have hn : PE X (.Name s p2) (tC (.ref (cl j))) := pe_glob (glB_d h2) k0 rfl (okN_d ho).1
  have both : CallR X (.builtin "isinstance") (fun xs H Q => SlX.rIsiSl X.K (.ref (cl j)) xs H Q ∨ rIsi X.K xs H Q) := fun pins s σ H xs us Q I r h => h.elim (SlX.call_isiSl (.ref (cl j)) pins s σ H xs us Q I r) (call_isi pins s σ H xs us Q I r)
  refine PE.imp (pe_callB both (glB_d h1) (C.md.bo _ (by decide)) (by decide +kernel) (pa_cons ha (pa_cons hn pa_nil) (star_e hs)) (by decide +kernel) (by decide +kernel) (star_e hs) rfl) fun σ H Q ⟨F, G, m, r, S, rl, rv, out⟩ => ?_
  simp only [ev] at out
  refine tX.bind rl rv out fun u1 H1 G1 m1 v1 S1 g1 l1 rv1 r1 out => ?_
  cases v1 with
  | loc _ => exact out.elim
  | xc _ _ => exact out.elim
  | d d =>
  by_cases hb : bareD d = true
  · refine .inr ⟨u1, _, _, _, false, rfl, .own (cl j), tyX_D (Rep.mono l1.ext r1) hb, k1 _ ?_, ?_⟩
    · cases d <;> first | (cases hb; done) | simp [tyD]
    · cases d <;> first | (cases hb; done) | exact (Out.gives out l1).here (.bl false)
  · cases d with
    | ins c fs =>
      dsimp only at out
      cases hi : P.isc c j with
      | none => rw [hi] at out; exact out.elim
      | some b =>
        rw [hi] at out
        obtain ⟨a, dx, vs, rfl, sl⟩ := rep_slt l1.ext r1
        have k := C.md.isc j s c b hj hi
        exact .inl ⟨a, cl c, dx, vs, .ref (cl j), b, rfl, rfl, fun _ h => h, sl, k.s, k.i, k.k, (Out.gives out l1).here (.bl b)⟩
    | _ => first | exact absurd rfl hb | (dsimp only at out; rw [if_neg hb] at out; exact out.elim)
theorem e_olen {p : Pos} {sc : Scope} {N : List Str} (C : Ck nm cl P cal n X W) (h1 : glB X.env.scope ("len" : Str) = true) (hs : isE nm N sc x e = true) (ha : PE X e (TX nm cl X W (ev P cal x))) :
    PE X (.Call (.Name ("len" : Str) p) [e] [] pos) (TX nm cl X W (ev P cal (.olen x))) := by
  refine PE.imp (pe_callBS (id := "len") (rd := fun σ v H Q => ∃ (c f : Nat) (F G : Hp) (m : List Addr) (fs : List D) (S : Hs), P.lnf c = some f ∧ Rl (kx cl X) F G m S H ∧ Rep (kx cl X) G (.ins c fs) v ∧
      OutV nm.excs X.mg (kx cl X) W F σ G m (fun z H' => ∃ i : Int, z = .int i ∧ (0 ≤ i ∧ i < 2 ^ 63) ∧ Q (.int i) H') (cal f [.d (.ins c fs)] S)) (fun pins s σ H v u Q I rv h => ?_) (glB_d h1) (C.md.bt .len) (by decide +kernel) ha (by decide +kernel) (by decide +kernel) (star_e hs)) fun σ H Q ⟨F, G, m, r, S, rl, rv, out⟩ => ?_
  · obtain ⟨c, f, F, G, m, fs, S, hp, l, r1, out⟩ := h
    obtain ⟨sp, g1, g2⟩ := C.go (f := f)
    obtain ⟨k1, k2⟩ := C.md.ln c f hp
    obtain ⟨hf, hs⟩ := g2 σ F G m [.d (.ins c fs)] [v] S H _ l (.cons r1 .nil) out
    obtain ⟨a, dx, vs, rfl, sl⟩ := rep_slt l.ext r1
    obtain rfl : u = Value.ref a := rv
    exact len_ins k1 k2 (g1 hf) (C.room.mono (by omega)) (passAt C.tk σ) I sl hs
  · simp only [ev] at out
    refine tX.bind rl rv out fun u1 H1 G1 m1 v1 S1 g1 l1 rv1 r1 out => ?_
    cases v1 with
    | loc _ => exact out.elim
    | xc _ _ => exact out.elim
    | d d =>
    cases d with
    | ins c fs =>
      dsimp only at out
      cases hp : P.lnf c with
      | none => rw [hp] at out; exact out.elim
      | some f =>
        rw [hp] at out
        refine ⟨c, f, F, G1, m1, fs, S1, hp, l1, r1, (Out.bind (RR := RepV (kx cl X)) out).imp fun u' H' ⟨G3, m3, v3, S3, g3, l3, r3, o3⟩ => ?_⟩
        cases v3 with
        | loc _ => exact o3.elim
        | xc _ _ => exact o3.elim
        | d w =>
        cases w with
        | int i =>
          dsimp only at o3
          split at o3
          · rename_i hz
            cases r3
            exact ⟨i, rfl, hz, (Out.gives o3 l3).here (.int i)⟩
          · exact o3.elim
        | _ => exact o3.elim
    | _ => exact out.elim
theorem e_obool {p : Pos} {sc : Scope} {N : List Str} (C : Ck nm cl P cal n X W) (h1 : glB X.env.scope ("bool" : Str) = true) (hs : isE nm N sc x e = true) (ha : PE X e (TX nm cl X W (ev P cal x))) :
    PE X (.Call (.Name ("bool" : Str) p) [e] [] pos) (TX nm cl X W (ev P cal (.obool x))) := by
  refine PE.imp (pe_callTS (T := "bool") (rd := fun σ v H Q => ∃ (c f : Nat) (F G : Hp) (m : List Addr) (fs : List D) (S : Hs), P.bof c = some f ∧ Rl (kx cl X) F G m S H ∧ Rep (kx cl X) G (.ins c fs) v ∧
      OutV nm.excs X.mg (kx cl X) W F σ G m (fun z H' => ∃ b, z = .bl b ∧ Q (.bl b) H') (cal f [.d (.ins c fs)] S)) (fun pins s σ H v u Q I rv h => ?_) (glB_d h1) (C.md.bt .bool) (by decide +kernel) ha (by decide +kernel) (by decide +kernel) (star_e hs)) fun σ H Q ⟨F, G, m, r, S, rl, rv, out⟩ => ?_
  · obtain ⟨c, f, F, G, m, fs, S, hp, l, r1, out⟩ := h
    obtain ⟨sp, g1, g2⟩ := C.go (f := f)
    obtain ⟨k1, k2⟩ := C.md.bl c f hp
    obtain ⟨hf, hs⟩ := g2 σ F G m [.d (.ins c fs)] [v] S H _ l (.cons r1 .nil) out
    obtain ⟨a, dx, vs, rfl, sl⟩ := rep_slt l.ext r1
    obtain rfl : u = Value.ref a := rv
    exact bool_ins k1 k2 (g1 hf) C.room (passAt C.tk σ) I sl hs
  · simp only [ev] at out
    refine tX.bind rl rv out fun u1 H1 G1 m1 v1 S1 g1 l1 rv1 r1 out => ?_
    cases v1 with
    | loc _ => exact out.elim
    | xc _ _ => exact out.elim
    | d d =>
    cases d with
    | ins c fs =>
      dsimp only at out
      cases hp : P.bof c with
      | none => rw [hp] at out; exact out.elim
      | some f =>
        rw [hp] at out
        refine ⟨c, f, F, G1, m1, fs, S1, hp, l1, r1, (Out.bind (RR := RepV (kx cl X)) out).imp fun u' H' ⟨G3, m3, v3, S3, g3, l3, r3, o3⟩ => ?_⟩
        cases v3 with
        | loc _ => exact o3.elim
        | xc _ _ => exact o3.elim
        | d w =>
        cases w with
        | bl b => cases r3; exact ⟨b, rfl, (Out.gives o3 l3).here (.bl b)⟩
        | _ => exact o3.elim
    | _ => exact out.elim
end
end Iv
end
section
set_option autoImplicit false
set_option maxRecDepth 100000
set_option maxHeartbeats 4000000
namespace Iv
open PySem L2
/-! IvF: str of an own instance, list(x) as a new list, xs.pop(i), list(d.items()), len(d), x is None. -/
section
variable {X : Cx} {CX : CXT} {pins : List (Addr × Obj)} {σ : L2.St} {H : Hp} {s : Shared} {n : Nat} {g C a dx : Addr} {vs : List (Option V)} {sp : Sp} {E : XK}
theorem str_ins {Q : VK} (hs : PySem.W.findIn X.K (.ref C) "__str__" = some (some (.ref g))) (hf : PySem.W.isFn X.K (.ref g) = true) (F : FnR X.prog X.w X.K X.mg X.base CX n g sp) (hr : Room (n + 2) X.A) (hx : PassesAt CX X σ E) (I : Inv X pins σ H s) (ha : SlX.Slt H a C dx vs)
    (h : sp [.ref a] H (fun z H' => ∃ t, z = .str t ∧ Q (.str t) H') E) : wpAny (model X.prog X.w) X.A (call (.type "str") [.ref a]) (EP X pins σ Q) X.xe s := by
  obtain ⟨sl, od, _, J, _⟩ := SlX.slt_inst I ha
  refine PySem.W.kso_call (Nat.lt_of_le_of_lt (Nat.le_add_right _ _) hr.in1.in1.units) I.kIn J hs hf ?_
  refine thn (runW (us := [.ref a]) (ws := [.ref a]) F hr.in1.in1 I.env0.in1.in1 hx I (.cons rfl .nil) h) fun w s' ⟨z, H', I', rz, t, et, qz⟩ => ?_
  subst et
  obtain ⟨tk, rfl⟩ : ∃ tk, w = Value.str t tk := rz
  exact ⟨.str t, H', I', ⟨tk, rfl⟩, qz⟩
end
theorem Reps.erase {K : Fg} {G : Hp} : ∀ {xs : List D} {vs : List V} (i : Nat), Reps K G xs vs → Reps K G (xs.eraseIdx i) (vs.eraseIdx i)
  | _, _, _, .nil => by simp only [List.eraseIdx_nil]; exact .nil
  | _, _, 0, .cons r rs => rs
  | _, _, i + 1, .cons r rs => .cons r (rs.erase i)
theorem seqIdx_plc (n : Nat) (i : Int) : seqIndex? i n = plc i n := by
  unfold seqIndex? plc
  by_cases h : 0 ≤ i
  · rw [if_pos h]
    have h1 : ¬ i < 0 := by omega
    simp only [if_neg h1]
    by_cases h2 : i < (n : Int)
    · rw [if_pos h2, if_pos (by simp [h, h2])]
    · rw [if_neg h2, if_neg (by simp [h2])]
  · rw [if_neg h]
    have h1 : i < 0 := by omega
    simp only [if_pos h1]
    have h3 : i + (n : Int) < n := by omega
    by_cases h2 : 0 ≤ i + (n : Int)
    · rw [if_pos h2, if_pos (by simp [h2, h3])]
    · rw [if_neg h2, if_neg (by simp [h2])]
theorem rep_none {K : Fg} {G : Hp} {d : D} {u : V} (r : Rep K G d u) : decide (u = .non) = (match d with
    | .non => true
    | _ => false) := by
  cases r <;> rfl
/-- the two heaps with more objects -/
theorem Rl.more {K : Fg} {F G G' H H' : Hp} {m : List Addr} {S : Hs} (h : Rl K F G m S H) (e1 : Ext G' H') (e2 : Ext G G') (e3 : Ext H H') (e4 : ∀ a o, G a = none → H a = some o → G' a = none) : Rl K F G' m S H' := by
  refine ⟨e1, fun b o q => e3 _ _ (h.fr b o q), fun b o q => ⟨e4 _ _ (h.fd b o q).1 (h.fr b o q), (h.fd b o q).2⟩, fun b hb => let ⟨o, q⟩ := h.mh b hb; ⟨o, e3 _ _ q⟩, h.len, h.nd, fun n b o hn ho => ?_⟩
  rcases h.ob n b o hn ho with q | ⟨h1, vs, h2, h3⟩
  · exact .inl q
  · exact .inr ⟨e4 _ _ h1 h2, vs, e3 _ _ h2, h3.mono e2⟩
theorem reps_items {K : Fg} {G : Hp} : ∀ {xs : List (Ky × D)} {kvs : List (Key × V)} {ts : List Addr}, RepKs K G xs kvs → Paired (fun t (q : Key × V) => G t = some (.tup [kV q.1, q.2])) ts kvs → Reps K G (xs.map fun p => .tup [kyD p.1, p.2]) (ts.map .ref)
  | _, _, _, .nil, .nil => .nil
  | _, _, _, .cons (k := k) hk r rs, .cons h hs => by
    refine .cons (.tup (.of h) (.cons ?_ (.cons r .nil))) (reps_items rs hs)
    cases k with
    | i n => exact .int n
    | s x => exact .str x hk
section
variable {nm : Nm} {cl : Nat → Addr} {P : Prg} {cal : Cal} {n : Nat} {X : Cx} {W : WX} {e l r : Expr} {es : List Expr} {pos : Pos} {x y z : Ex}
theorem e_ostr {p : Pos} {sc : Scope} {N : List Str} (C : Ck nm cl P cal n X W) (h1 : glB X.env.scope ("str" : Str) = true) (hs : isE nm N sc x e = true) (ha : PE X e (TX nm cl X W (ev P cal x))) :
    PE X (.Call (.Name ("str" : Str) p) [e] [] pos) (TX nm cl X W (ev P cal (.ostr x))) := by
  refine PE.imp (pe_callTS (T := "str") (rd := fun σ v H Q => ∃ (c f : Nat) (F G : Hp) (m : List Addr) (fs : List D) (S : Hs), P.stf c = some f ∧ Rl (kx cl X) F G m S H ∧ Rep (kx cl X) G (.ins c fs) v ∧
      OutV nm.excs X.mg (kx cl X) W F σ G m (fun z H' => ∃ t, z = .str t ∧ Q (.str t) H') (cal f [.d (.ins c fs)] S)) (fun pins s σ H v u Q I rv h => ?_) (glB_d h1) (C.md.bt .str) (by decide +kernel) ha (by decide +kernel) (by decide +kernel) (star_e hs)) fun σ H Q ⟨F, G, m, r, S, rl, rv, out⟩ => ?_
  · obtain ⟨c, f, F, G, m, fs, S, hp, l, r1, out⟩ := h
    obtain ⟨sp, g1, g2⟩ := C.go (f := f)
    obtain ⟨k1, k2⟩ := C.md.sr c f hp
    obtain ⟨hf, hs⟩ := g2 σ F G m [.d (.ins c fs)] [v] S H _ l (.cons r1 .nil) out
    obtain ⟨a, dx, vs, rfl, sl⟩ := rep_slt l.ext r1
    obtain rfl : u = Value.ref a := rv
    exact str_ins k1 k2 (g1 hf) C.room (passAt C.tk σ) I sl hs
  · simp only [ev] at out
    refine tX.bind rl rv out fun u1 H1 G1 m1 v1 S1 g1 l1 rv1 r1 out => ?_
    cases v1 with
    | loc _ => exact out.elim
    | xc _ _ => exact out.elim
    | d d =>
    cases d with
    | ins c fs =>
      dsimp only at out
      cases hp : P.stf c with
      | none => rw [hp] at out; exact out.elim
      | some f =>
        rw [hp] at out
        refine ⟨c, f, F, G1, m1, fs, S1, hp, l1, r1, (Out.bind (RR := RepV (kx cl X)) out).imp fun u' H' ⟨G3, m3, v3, S3, g3, l3, r3, o3⟩ => ?_⟩
        cases v3 with
        | loc _ => exact o3.elim
        | xc _ _ => exact o3.elim
        | d w =>
        cases w with
        | str t => cases r3 with
          | str _ ok => exact ⟨S' t, rfl, (Out.gives o3 l3).here (.str t ok)⟩
        | _ => exact o3.elim
    | _ => exact out.elim
theorem e_newo {p : Pos} {sc : Scope} {N : List Str} (C : Ck nm cl P cal n X W) (h1 : glB X.env.scope ("list" : Str) = true) (hs : isE nm N sc x e = true) (ha : PE X e (TX nm cl X W (ev P cal x))) :
    PE X (.Call (.Name ("list" : Str) p) [e] [] pos) (TX nm cl X W (ev P cal (.newo x))) := by
  refine PE.imp (pe_callTS (T := "list") (rd := fun σ v H Q => ∃ q ys, v = .ref q ∧ (SqL X.K H q ys ∨ SqT X.K H q ys) ∧ ∀ l, H l = none → Q (.ref l) (upd H l (.lst ys))) (fun pins s σ H v u Q I rv h => call_list_of pins s σ H [v] [u] Q I (.cons rv .nil) (by
    obtain ⟨q, ys, rfl, h2, h3⟩ := h
    exact ⟨q, ys, rfl, h2, h3⟩)) (glB_d h1) (C.md.bt .list) (by decide +kernel) ha (by decide +kernel) (by decide +kernel) (star_e hs)) fun σ H Q ⟨F, G, m, r, S, rl, rv, out⟩ => ?_
  simp only [ev] at out
  refine tX.bind rl rv out fun u1 H1 G1 m1 v1 S1 g1 l1 rv1 r1 out => ?_
  have fin : ∀ (xs : List D) (q : Addr) (ys : List V), (SqL X.K H1 q ys ∨ SqT X.K H1 q ys) → Reps (kx cl X) G1 xs ys → OutV nm.excs X.mg (kx cl X) W F σ G1 m1 Q (.ok (.loc S1.length) (S1 ++ [.lst xs])) → ∃ q' ys, V.ref q = .ref q' ∧ (SqL X.K H1 q' ys ∨ SqT X.K H1 q' ys) ∧ ∀ l, H1 l = none → Q (.ref l) (upd H1 l (.lst ys)) := fun xs q ys h1 h2 out => by
    refine ⟨q, ys, rfl, h1, fun p hp => ?_⟩
    refine out G1 (m1 ++ [p]) _ _ ⟨fun _ _ h => h, fun n a h => ?_⟩ (l1.newl hp h2) ⟨p, ?_, rfl⟩
    · rw [List.getElem?_append_left (List.getElem?_eq_some_iff.mp h).1]; exact h
    · rw [← l1.len]; simp
  cases v1 with
  | loc _ => exact out.elim
  | xc _ _ => exact out.elim
  | d d =>
    cases d with
    | lst xs => cases r1 with
      | lst q1 q2 => exact fin xs _ _ (.inl (.of (l1.ext _ _ q1))) q2 out
    | tup xs => cases r1 with
      | tup q1 q2 => exact fin xs _ _ (.inr (q1.ext l1.ext)) q2 out
    | ptp xs => cases r1 with
      | ptp q1 q2 => exact fin xs _ _ (.inr (q1.weak.ext l1.ext)) q2 out
    | _ => exact out.elim
theorem e_pop {i : Nat} {s : Str} {p ap p2 : Pos} {sc : Scope} {N : List Str} (hN : X.N[i]? = some s) (hv : visB X.env.scope s = true) (ho : okN s = true) (hl : (ap.endLine == p2.line) = true) (hs : isE nm N sc x e = true)
    (ha : PE X e (TX nm cl X W (ev P cal x))) : PE X (.Call (.Attribute (.Name s p) ("pop" : Str) ap) [e] [] p2) (TX nm cl X W (ev P cal (.pop i x))) := by
  have s3 : (((backTo p2 (starEach [e] X.env)).all fun x => !x.1) && ((backToKw p2 (keywordEach [] X.env)).all fun x => x.1.isSome) && decide ([e].length + ([] : List Keyword).length + (if ([] : List Keyword).isEmpty then 0 else 1) < 30)) = true := by
    rw [star_e hs]; rfl
  have key := pe_bm (X := X) (cpos := p2) (apos := ap) PySem.F.plainAttrs_list PySem.F.slot_list_pop PySem.F.type_list_pop mt_popAt (pe_var (pos := p) hN (visB_d hv) (okN_d ho).1 (okN_d ho).2.1) (pa_cons ha pa_nil (star_e hs)) rfl s3 hl (star_e hs) rfl
  refine PE.imp key fun σ H Q ⟨F, G, m, r, S, rl, rv, out⟩ => ?_
  simp only [ev] at out
  split at out
  · rename_i k hr
    obtain ⟨u, q1, a, q2, rfl⟩ := rv.2 i _ hr (fun _ _ z => by cases z)
    split at out
    · rename_i ys hk
      obtain ⟨_, ws, q3, _⟩ := (rl.ob k a _ q2 hk).lst
      refine ⟨_, q1, .inl ⟨rfl, _, .of q3⟩, tX.bind rl rv out fun u1 H1 G1 m1 v1 S1 g l1 rv1 r1 out => ?_⟩
      split at out
      · rename_i j zs hk1
        split at out
        · rename_i hj
          cases r1
          obtain ⟨q4, ws1, q5, q6⟩ := (l1.ob k a _ (g.2 _ _ q2) hk1).lst
          cases hp : plc j zs.length with
          | none => rw [hp] at out; exact out.elim
          | some t =>
            rw [hp] at out
            dsimp only at out
            cases hy : zs[t]? with
            | none => rw [hy] at out; exact out.elim
            | some y =>
              rw [hy] at out
              obtain ⟨w, w1, w2⟩ := q6.get hy
              exact ⟨a, ws1, j, t, w, rfl, rfl, q5, hj.1, hj.2, by rw [seqIdx_plc, ← q6.length]; exact hp, w1, out G1 m1 _ w .refl (l1.change (g.2 _ _ q2) hk1 (q6.erase t)) w2⟩
        · exact out.elim
      · exact out.elim
    · exact out.elim
  · exact out.elim
theorem e_dits {p ap p2 : Pos} (C : Ck nm cl P cal n X W) (h1 : glB X.env.scope ("list" : Str) = true) (h0 : noC0 e = true) (hl : (ap.endLine == p2.line) = true) (ha : PE X e (TX nm cl X W (ev P cal x))) :
    PE X (.Call (.Name ("list" : Str) p) [.Call (.Attribute e ("items" : Str) ap) [] [] p2] [] pos) (TX nm cl X W (ev P cal (.dits x))) := by
  refine PE.imp (LiI.pe_listItems C.calm ha (glB_d h1) (C.md.bt .list) (by decide +kernel) (base_e h0) hl rfl) fun σ H Q ⟨F, G, m, r, S, rl, rv, out⟩ => ?_
  simp only [ev] at out
  refine tX.bind rl rv out fun u1 H1 G1 m1 v1 S1 g1 l1 rv1 r1 out => ?_
  cases v1 with
  | d _ => exact out.elim
  | xc _ _ => exact out.elim
  | loc k =>
    obtain ⟨a, ha, rfl⟩ := r1
    dsimp only at out
    cases es : S1[k]? with
    | none => rw [es] at out; exact out.elim
    | some ob =>
      rw [es] at out
      cases ob with
      | dct kvs =>
        dsimp only at out
        obtain ⟨ga, ks, q2, q3⟩ := (l1.ob k a _ ha es).dct
        refine ⟨a, ks, rfl, q2, fun H' p ts w1 w2 w3 w4 w5 w6 => ?_⟩
        classical
        let G' : Hp := fun b => if b = p ∨ b ∈ ts then H' b else G1 b
        have ne : ∀ b o, G1 b = some o → ¬ (b = p ∨ b ∈ ts) := fun b o h1 h2 => by
          have hh := l1.ext b o h1
          rcases h2 with rfl | h2
          · rw [w2] at hh; cases hh
          · rw [w3 b h2] at hh; cases hh
        have eG : Ext G1 G' := fun b o h => by
          show (if b = p ∨ b ∈ ts then H' b else G1 b) = _
          rw [if_neg (ne b o h)]; exact h
        have eX : Ext G' H' := fun b o h => by
          have h : (if b = p ∨ b ∈ ts then H' b else G1 b) = some o := h
          by_cases hb : b = p ∨ b ∈ ts
          · rw [if_pos hb] at h; exact h
          · rw [if_neg hb] at h; exact w1 b o (l1.ext b o h)
        have l2 := l1.more (G' := G') (H' := H') eX eG (fun b o h => w1 b o h) fun b o h1 h2 => by
          show (if b = p ∨ b ∈ ts then H' b else G1 b) = _
          rw [if_neg (fun hb => by
            rcases hb with rfl | hb
            · rw [w2] at h2; cases h2
            · rw [w3 b hb] at h2; cases h2)]
          exact h1
        have gp : G' p = some (.lst (ts.map .ref)) := by
          show (if p = p ∨ p ∈ ts then H' p else G1 p) = _
          rw [if_pos (.inl rfl)]; exact w5
        have gt : Paired (fun t (q : Key × V) => G' t = some (.tup [kV q.1, q.2])) ts ks := by
          have : ∀ {as : List Addr} {ks : List (Key × V)}, (∀ t ∈ as, t ∈ ts) → Paired (fun t (q : Key × V) => H' t = some (.tup [kV q.1, q.2])) as ks → Paired (fun t (q : Key × V) => G' t = some (.tup [kV q.1, q.2])) as ks := by
            intro as ks hm hp
            induction hp with
            | nil => exact .nil
            | cons h _ ih =>
              refine .cons ?_ (ih fun t ht => hm t (List.mem_cons_of_mem _ ht))
              show (if _ = p ∨ _ ∈ ts then H' _ else G1 _) = _
              rw [if_pos (.inr (hm _ (List.mem_cons_self ..)))]; exact h
          exact this (fun _ h => h) w6
        exact out G' m1 H' _ ⟨eG, fun _ _ h => h⟩ l2 (.lst gp (reps_items (q3.mono eG) gt))
      | _ => exact out.elim
theorem e_dln {p : Pos} {sc : Scope} {N : List Str} (C : Ck nm cl P cal n X W) (h1 : glB X.env.scope ("len" : Str) = true) (hs : isE nm N sc x e = true) (ha : PE X e (TX nm cl X W (ev P cal x))) :
    PE X (.Call (.Name ("len" : Str) p) [e] [] pos) (TX nm cl X W (ev P cal (.dln x))) := by
  refine PE.imp (pe_callB call_lenD (glB_d h1) (C.md.bt .len) (by decide +kernel) (pa_cons ha pa_nil (star_e hs)) (by decide +kernel) (by decide +kernel) (star_e hs) rfl) fun σ H Q ⟨F, G, m, r, S, rl, rv, out⟩ => ?_
  simp only [ev] at out
  refine tX.bind rl rv out fun u1 H1 G1 m1 v1 S1 g1 l1 rv1 r1 out => ?_
  cases v1 with
  | d _ => exact out.elim
  | xc _ _ => exact out.elim
  | loc k =>
    obtain ⟨a, ha, rfl⟩ := r1
    dsimp only at out
    cases es : S1[k]? with
    | none => rw [es] at out; exact out.elim
    | some ob =>
      rw [es] at out
      cases ob with
      | dct kvs =>
        dsimp only at out
        obtain ⟨ga, ks, q2, q3⟩ := (l1.ob k a _ ha es).dct
        exact ⟨a, ks, rfl, q2, by rw [← q3.length]; exact (Out.gives out l1).here (.int _)⟩
      | _ => exact out.elim
theorem pc_isn {ng : Bool} {p : Pos} {j : Nat} (ha : PE X l (TX nm cl X W (ev P cal x))) : PC X (if ng then .IsNot else .Is) l (.Constant .none j p) (TX nm cl X W (ev P cal (.isn ng x))) := by
  have key : PC X (if ng then .IsNot else .Is) l (.Constant .none j p) (fun σ H Q => (TX nm cl X W (ev P cal x)) σ H fun x H1 => Q (.bl (if ng then !decide (x = .non) else decide (x = .non))) H1) := by
    cases ng with
    | true => exact pc_notN ha
    | false => exact pc_isN ha
  refine ⟨fun pins s σ H Q I ⟨F, G, m, r, S, rl, rv, out⟩ => key.run pins s σ H Q I ?_⟩
  simp only [ev] at out
  refine tX.bind rl rv out fun u1 H1 G1 m1 v1 S1 g1 l1 rv1 r1 out => ?_
  have go : ∀ b : Bool, decide (u1 = V.non) = b → OutV nm.excs X.mg (kx cl X) W F σ G1 m1 Q (.ok (.d (.bl (if ng then !b else b))) S1) → Q (.bl (if ng then !decide (u1 = .non) else decide (u1 = .non))) H1 := fun b hb out => by
    rw [hb]; exact (Out.gives out l1).here (.bl _)
  cases v1 with
  | xc _ _ => exact out.elim
  | loc k =>
    obtain ⟨a, ha, rfl⟩ := r1
    exact go false rfl (by cases ng <;> exact out)
  | d d =>
    have h := rep_none r1
    cases d <;> exact go _ h (by cases ng <;> exact out)
theorem e_isn {ng : Bool} {p : Pos} {j : Nat} (ha : PE X l (TX nm cl X W (ev P cal x))) : PE X (.Compare l [if ng then .IsNot else .Is] [.Constant .none j p] pos) (TX nm cl X W (ev P cal (.isn ng x))) := pe_cmp (pc_isn ha) (by cases ng <;> rfl)
theorem t_isn {ng : Bool} {p : Pos} {j : Nat} (ha : PE X l (TX nm cl X W (ev P cal x))) : PT X (.Compare l [if ng then .IsNot else .Is] [.Constant .none j p] pos) (tB (TX nm cl X W (ev P cal (.isn ng x)))) := pt_cmp (pc_isn ha) (by cases ng <;> rfl)
end
end Iv
end
section
set_option autoImplicit false
set_option maxRecDepth 100000
set_option maxHeartbeats 4000000
namespace Iv
open PySem L2
section
variable (nm : Nm) (cl : Nat → Addr) (P : Prg) (cal : Cal) (n : Nat)
def SE (x : Ex) : Prop := ∀ (X : Cx) (W : WX) (e : Expr), Ck nm cl P cal n X W → isE nm X.N X.env.scope x e = true → PE X e (TX nm cl X W (ev P cal x))
def ST (x : Ex) : Prop := ∀ (X : Cx) (W : WX) (e : Expr), Ck nm cl P cal n X W → isE nm X.N X.env.scope x e = true → tOk x = true → PT X e (tB (TX nm cl X W (ev P cal x)))
def SW (x : Ex) : Prop := ∀ (X : Cx) (W : WX) (o : PySem.BoolOp) (es : List Expr) (p : Pos), Ck nm cl P cal n X W → isE nm X.N X.env.scope x (.BoolOp o es p) = true → tOk x = true → PW X (.BoolOp o es p) (tB (TX nm cl X W (ev P cal x)))
def SA (x : Ex) : Prop := ∀ (X : Cx) (W : WX) (es : List Expr), Ck nm cl P cal n X W → isA nm X.N X.env.scope x es = true → PA X es (TXs nm cl X W (evs P cal x)) ∧ SJ' nm cl P cal X W x es
def SO (x : Ex) : Prop := ∀ (X : Cx) (W : WX) (e : Option Expr), Ck nm cl P cal n X W → isO nm X.N X.env.scope x e = true → PO X e (tX nm.excs X.mg (kx cl X) W (fun _ _ (a : Option Int) (b : Option Int) => a = b) (evo P cal x))
def SI (x : Ex) : Prop := ∀ (X : Cx) (W : WX) (tg e : Expr), Ck nm cl P cal n X W → isI nm X.N X.env.scope x tg e = true → PI X tg e (TI' nm cl X W (evi P cal x)) ∧ ∀ v, foldedSetIterable e X.env v = pure v
def SC (x : Ex) : Prop := ∀ (X : Cx) (W : WX) (es : List Expr), Ck nm cl P cal n X W → isC nm X.N X.env.scope x es = true → PTs X es (tB (TX nm cl X W (ev P cal x)))
structure Snd (x : Ex) : Prop where
  e : SE nm cl P cal n x
  t : ST nm cl P cal n x
  w : SW nm cl P cal n x
  a : SA nm cl P cal n x
  o : SO nm cl P cal n x
  i : SI nm cl P cal n x
  c : SC nm cl P cal n x
end
section
variable {nm : Nm} {cl : Nat → Addr} {P : Prg} {cal : Cal} {n : Nat}
theorem Snd.pa {x : Ex} (s : Snd nm cl P cal n x) (X : Cx) (W : WX) (es : List Expr) (C : Ck nm cl P cal n X W) (h : isA nm X.N X.env.scope x es = true) : PA X es (TXs nm cl X W (evs P cal x)) := (s.a X W es C h).1
theorem Ck.blk {X : Cx} {W : WX} (C : Ck nm cl P cal n X W) {s : Shared} {H : Hp} {scope : Scope} {Ca : Addr} {ce : List (Str × Addr)} {fp : List Addr} : Ck nm cl P cal n (X.blk s H scope (compEnvC scope ce Ca X.env) fp) noW :=
  ⟨C.calm, C.nodup, takes0, PassesOwn.never, C.room, C.md⟩
theorem ownN_map (N : List Str) (own : List Nat) : (ownN N own).map (fun x => x.2) = own := by
  unfold ownN; rw [List.map_map]; conv => rhs; rw [← List.map_id own]
  rfl
theorem t_plain {X : Cx} {W : WX} {e : Expr} {x : Ex} (h : PE X e (TX nm cl X W (ev P cal x))) (he : ∀ whole, PySem.isTrue e X.env whole = (do let v ← whole; standAt e.pos; holding [v] (truthy v))) : PT X e (tB (TX nm cl X W (ev P cal x))) := pt_val h he
theorem folded_e {sc : Scope} {N : List Str} {x : Ex} {e : Expr} {env : Env} {v : Value} (h : isE nm N sc x e = true) : foldedSetIterable e env v = pure v := by
  cases e with
  | Set _ _ _ => cases x <;> cases h
  | _ => rfl
theorem s_comp {own : List Nat} {t : Tg} {it c x : Ex} (hi : SI nm cl P cal n it) (hc : SC nm cl P cal n c) (hx : SE nm cl P cal n x) {X : Cx} {W : WX} {elt tg iter : Expr} {ifs : List Expr} {scope : Scope} {pos : Pos} (C : Ck nm cl P cal n X W)
    (h1 : isI nm X.N X.env.scope it tg iter = true) (h2 : blkC X.N X.env.scope scope (ownN X.N own) = true) (h3 : isG X.N false (rl X.env.scope scope) t tg = true) (h4 : isC nm X.N (rl X.env.scope scope) c ifs = true) (h5 : isE nm X.N (rl X.env.scope scope) x elt = true) (h6 : tgIn own t = true) :
    PE X (.ListComp elt [⟨tg, iter, ifs, 0⟩] scope pos) (TX nm cl X W (ev P cal (.comp own t it c x))) := by
  obtain ⟨q1, q2⟩ := hi X W tg iter C h1
  have key := pe_lc (X := X) (pos := pos) (own := ownN X.N own) (g := tgR (kx cl X) t) (tt := tB (TX nm cl X noW (ev P cal c))) (te := TX nm cl X noW (ev P cal x)) C.calm C.nodup q1 (blkOk_by h2)
    (fun s H Ca ce fp => g_tg (X := X.blk s H scope (compEnvC scope ce Ca X.env) fp) C.calm C.nodup (fn := false) (fun z => by cases z) t tg h3)
    (fun s H Ca ce fp => hc (X.blk s H scope (compEnvC scope ce Ca X.env) fp) noW ifs C.blk h4)
    (fun s H Ca ce fp => hx (X.blk s H scope (compEnvC scope ce Ca X.env) fp) noW elt C.blk h5) q2
  rw [ownN_map] at key
  exact PE.imp key fun σ H Q h => comp_read rfl h6 h
theorem s_newc {own : List Nat} {t : Tg} {it c x : Ex} (hi : SI nm cl P cal n it) (hc : SC nm cl P cal n c) (hx : SE nm cl P cal n x) {X : Cx} {W : WX} {elt tg iter : Expr} {ifs : List Expr} {scope : Scope} {pos : Pos} (C : Ck nm cl P cal n X W)
    (h1 : isI nm X.N X.env.scope it tg iter = true) (h2 : blkC X.N X.env.scope scope (ownN X.N own) = true) (h3 : isG X.N false (rl X.env.scope scope) t tg = true) (h4 : isC nm X.N (rl X.env.scope scope) c ifs = true) (h5 : isE nm X.N (rl X.env.scope scope) x elt = true) (h6 : tgIn own t = true) :
    PE X (.ListComp elt [⟨tg, iter, ifs, 0⟩] scope pos) (TX nm cl X W (ev P cal (.newc own t it c x))) := by
  obtain ⟨q1, q2⟩ := hi X W tg iter C h1
  have key := pe_lc (X := X) (pos := pos) (own := ownN X.N own) (g := tgR (kx cl X) t) (tt := tB (TX nm cl X noW (ev P cal c))) (te := TX nm cl X noW (ev P cal x)) C.calm C.nodup q1 (blkOk_by h2)
    (fun s H Ca ce fp => g_tg (X := X.blk s H scope (compEnvC scope ce Ca X.env) fp) C.calm C.nodup (fn := false) (fun z => by cases z) t tg h3)
    (fun s H Ca ce fp => hc (X.blk s H scope (compEnvC scope ce Ca X.env) fp) noW ifs C.blk h4)
    (fun s H Ca ce fp => hx (X.blk s H scope (compEnvC scope ce Ca X.env) fp) noW elt C.blk h5) q2
  rw [ownN_map] at key
  exact PE.imp key fun σ H Q h => newc_read rfl h6 h
theorem s_dcmp {own : List Nat} {t : Tg} {it c k v : Ex} (hi : SI nm cl P cal n it) (hc : SC nm cl P cal n c) (hk : SE nm cl P cal n k) (hv : SE nm cl P cal n v) {X : Cx} {W : WX} {key val tg iter : Expr} {ifs : List Expr} {scope : Scope} {pos : Pos} (C : Ck nm cl P cal n X W)
    (h1 : isI nm X.N X.env.scope it tg iter = true) (h2 : blkC X.N X.env.scope scope (ownN X.N own) = true) (h3 : isG X.N false (rl X.env.scope scope) t tg = true) (h4 : isC nm X.N (rl X.env.scope scope) c ifs = true) (h5 : isE nm X.N (rl X.env.scope scope) k key = true) (h5' : isE nm X.N (rl X.env.scope scope) v val = true) (h6 : tgIn own t = true) :
    PE X (.DictComp key val [⟨tg, iter, ifs, 0⟩] scope pos) (TX nm cl X W (ev P cal (.dcmp own t it c k v))) := by
  obtain ⟨q1, q2⟩ := hi X W tg iter C h1
  have key := pe_dc (X := X) (pos := pos) (own := ownN X.N own) (g := tgR (kx cl X) t) (tt := tB (TX nm cl X noW (ev P cal c))) (tk := TX nm cl X noW (ev P cal k)) (tv := TX nm cl X noW (ev P cal v)) C.calm C.nodup q1 (blkOk_by h2)
    (fun s H Ca ce fp => g_tg (X := X.blk s H scope (compEnvC scope ce Ca X.env) fp) C.calm C.nodup (fn := false) (fun z => by cases z) t tg h3)
    (fun s H Ca ce fp => hc (X.blk s H scope (compEnvC scope ce Ca X.env) fp) noW ifs C.blk h4)
    (fun s H Ca ce fp => hk (X.blk s H scope (compEnvC scope ce Ca X.env) fp) noW key C.blk h5)
    (fun s H Ca ce fp => hv (X.blk s H scope (compEnvC scope ce Ca X.env) fp) noW val C.blk h5') q2
  rw [ownN_map] at key
  exact PE.imp (pe_lock key) fun σ H Q h => dcmp_read rfl h6 h
theorem snd_leaf {x : Ex} (he : SE nm cl P cal n x) (ht : ST nm cl P cal n x) (h0 : ∀ N sc es, isA nm N sc x es = false) (h1 : ∀ N sc e, isO nm N sc x e = false) (h2 : ∀ N sc a b, isI nm N sc x a b = false) (h3 : ∀ N sc es, isC nm N sc x es = false) (h4 : ∀ N sc o es p, isE nm N sc x (.BoolOp o es p) = false) : Snd nm cl P cal n x :=
  ⟨he, ht, fun X W o es p C h => (by rw [h4] at h; cases h), fun X W es C h => (by rw [h0] at h; cases h), fun X W e C h => (by rw [h1] at h; cases h), fun X W a b C h => (by rw [h2] at h; cases h), fun X W es C h => (by rw [h3] at h; cases h)⟩
def plainT : Expr → Bool
  | .UnaryOp .Not _ _ => false
  | .BoolOp _ _ _ => false
  | .IfExp _ _ _ _ => false
  | .Compare _ _ _ _ => false
  | _ => true
theorem plainT_d {e : Expr} (h : plainT e = true) (env : Env) (whole : Sem Value) : PySem.isTrue e env whole = (do let v ← whole; standAt e.pos; holding [v] (truthy v)) := by
  cases e with
  | UnaryOp o a p => cases o <;> first | rfl | cases h
  | BoolOp _ _ _ => cases h
  | IfExp _ _ _ _ => cases h
  | Compare _ _ _ _ => cases h
  | _ => rfl
/-- of a term that stands for expressions of a plain make -/
theorem ST.of {x : Ex} (he : SE nm cl P cal n x) (hp : ∀ N sc e, isE nm N sc x e = true → plainT e = true) : ST nm cl P cal n x :=
  fun X W e C h _ => t_plain (he X W e C h) (plainT_d (hp _ _ _ h) X.env)
theorem snd_main : ∀ x : Ex, Snd nm cl P cal n x := by
  intro x
  induction x with
  | var i =>
    have he : SE nm cl P cal n (.var i) := fun X W e C h => by
      cases e with
      | Name s p =>
        simp only [isE, Bool.and_eq_true] at h
        exact e_var (of_decide_eq_true h.1.1) h.1.2 h.2
      | _ => cases h
    exact snd_leaf he (.of he fun N sc e h => by cases e <;> first | rfl | cases h) (fun _ _ _ => rfl) (fun _ _ _ => rfl) (fun _ _ _ _ => rfl) (fun _ _ _ => rfl) (fun _ _ _ _ _ => rfl)
  | glob g =>
    have he : SE nm cl P cal n (.glob g) := fun X W e C h => by
      cases e with
      | Name s p =>
        simp only [isE, Bool.and_eq_true] at h
        exact e_glob C (of_decide_eq_true h.1.1) h.1.2 h.2
      | _ => cases h
    exact snd_leaf he (.of he fun N sc e h => by cases e <;> first | rfl | cases h) (fun _ _ _ => rfl) (fun _ _ _ => rfl) (fun _ _ _ _ => rfl) (fun _ _ _ => rfl) (fun _ _ _ _ _ => rfl)
  | non =>
    have he : SE nm cl P cal n .non := fun X W e C h => by
      cases e with
      | Constant c j p =>
        cases c with
        | none => exact e_const pe_non (fun _ _ => rfl) fun _ => .non
        | _ => cases h
      | _ => cases h
    exact snd_leaf he (.of he fun N sc e h => by cases e <;> first | rfl | cases h) (fun _ _ _ => rfl) (fun _ _ _ => rfl) (fun _ _ _ _ => rfl) (fun _ _ _ => rfl) (fun _ _ _ _ _ => rfl)
  | bl b =>
    have he : SE nm cl P cal n (.bl b) := fun X W e C h => by
      cases e with
      | Constant c j p =>
        cases c with
        | bool c =>
          have : b = c := eq_of_beq h
          subst this
          exact e_const pe_bl (fun _ _ => rfl) fun _ => .bl b
        | _ => cases h
      | _ => cases h
    refine ⟨he, .of he fun N sc e h => (by cases e <;> first | rfl | cases h), fun X W o es p C h => (by cases h), fun X W es C h => (by cases h), fun X W e C h => (by cases h), fun X W a b C h => (by cases h), fun X W es C h => ?_⟩
    cases b with
    | false => cases h
    | true =>
      cases es with
      | nil =>
        exact ⟨fun pins s σ H Q I ⟨F, G, m, r, S, rl, rv, out⟩ => pts_nil.run pins s σ H Q I (by
          obtain ⟨k, e, q⟩ := out G m H (.bl true) .refl rl (.bl true)
          cases e
          exact q)⟩
      | cons _ _ => cases h
  | int i =>
    have he : SE nm cl P cal n (.int i) := fun X W e C h => by
      cases e with
      | Constant c j p =>
        cases c with
        | int c =>
          have : i = c := of_decide_eq_true h
          subst this
          exact e_const pe_int (fun _ _ => rfl) fun _ => .int i
        | _ => cases h
      | _ => cases h
    exact snd_leaf he (.of he fun N sc e h => by cases e <;> first | rfl | cases h) (fun _ _ _ => rfl) (fun _ _ _ => rfl) (fun _ _ _ _ => rfl) (fun _ _ _ => rfl) (fun _ _ _ _ _ => rfl)
  | str s =>
    have he : SE nm cl P cal n (.str s) := fun X W e C h => by
      cases e with
      | Constant c j p =>
        cases c with
        | str c =>
          simp only [isE, Bool.and_eq_true] at h
          have : c = S' s := of_decide_eq_true h.1
          subst this
          exact e_const pe_str (fun _ _ => rfl) fun _ => .str s fun c hc => by simpa using List.all_eq_true.mp h.2 c hc
        | _ => cases h
      | _ => cases h
    exact snd_leaf he (.of he fun N sc e h => by cases e <;> first | rfl | cases h) (fun _ _ _ => rfl) (fun _ _ _ => rfl) (fun _ _ _ _ => rfl) (fun _ _ _ => rfl) (fun _ _ _ _ _ => rfl)
  | nil =>
    have he : SE nm cl P cal n .nil := fun X W e C h => by cases h
    refine ⟨he, fun X W e C h => (by cases h), fun X W o es p C h => (by cases h), fun X W es C h => ?_, fun X W e C h => (by cases h), fun X W a b C h => (by cases h), fun X W es C h => (by cases h)⟩
    cases es with
    | nil => exact ⟨a_nil, j_nil⟩
    | cons _ _ => cases h
  | cons x xs ih1 ih2 =>
    have he : SE nm cl P cal n (.cons x xs) := fun X W e C h => by cases h
    refine ⟨he, fun X W e C h => (by cases h), fun X W o es p C h => (by cases h), fun X W es C h => ?_, fun X W e C h => (by cases h), fun X W a b C h => (by cases h), fun X W es C h => (by cases h)⟩
    cases es with
    | nil => cases h
    | cons e es =>
      simp only [isA, Bool.and_eq_true] at h
      exact ⟨a_cons h.1 (ih1.e X W e C h.1) (ih2.pa X W es C h.2), j_cons (ih1.e X W e C h.1) (ih2.a X W es C h.2).2⟩
  | tup es ih =>
    have he : SE nm cl P cal n (.tup es) := fun X W e C h => by
      cases e with
      | Tuple l k p => exact e_tup (ih.pa X W l C h)
      | _ => cases h
    exact snd_leaf he (.of he fun N sc e h => by cases e <;> first | rfl | cases h) (fun _ _ _ => rfl) (fun _ _ _ => rfl) (fun _ _ _ _ => rfl) (fun _ _ _ => rfl) (fun _ _ _ _ _ => rfl)
  | lst es ih =>
    have he : SE nm cl P cal n (.lst es) := fun X W e C h => by
      cases e with
      | List l p => exact e_lst (ih.pa X W l C h)
      | _ => cases h
    exact snd_leaf he (.of he fun N sc e h => by cases e <;> first | rfl | cases h) (fun _ _ _ => rfl) (fun _ _ _ => rfl) (fun _ _ _ _ => rfl) (fun _ _ _ => rfl) (fun _ _ _ _ _ => rfl)
  | newl es ih =>
    have he : SE nm cl P cal n (.newl es) := fun X W e C h => by
      cases e with
      | List l p => exact e_newl (ih.pa X W l C h)
      | _ => cases h
    exact snd_leaf he (.of he fun N sc e h => by cases e <;> first | rfl | cases h) (fun _ _ _ => rfl) (fun _ _ _ => rfl) (fun _ _ _ _ => rfl) (fun _ _ _ => rfl) (fun _ _ _ _ _ => rfl)
  | frz i =>
    have he : SE nm cl P cal n (.frz i) := fun X W e C h => by
      cases e with
      | Name s p =>
        simp only [isE, Bool.and_eq_true] at h
        exact e_frz (of_decide_eq_true h.1.1) h.1.2 h.2
      | _ => cases h
    exact snd_leaf he (.of he fun N sc e h => by cases e <;> first | rfl | cases h) (fun _ _ _ => rfl) (fun _ _ _ => rfl) (fun _ _ _ _ => rfl) (fun _ _ _ => rfl) (fun _ _ _ _ _ => rfl)
  | bin o a b ih1 ih2 =>
    have he : SE nm cl P cal n (.bin o a b) := fun X W e C h => by
      cases e with
      | BinOp l op r p =>
        simp only [isE, Bool.and_eq_true] at h
        have : op = bop o := of_decide_eq_true h.1.1
        subst this
        exact e_bin C (ih1.e X W l C h.1.2) (ih2.e X W r C h.2)
      | _ => cases h
    exact snd_leaf he (.of he fun N sc e h => by cases e <;> first | rfl | cases h) (fun _ _ _ => rfl) (fun _ _ _ => rfl) (fun _ _ _ _ => rfl) (fun _ _ _ => rfl) (fun _ _ _ _ _ => rfl)
  | neg a ih =>
    have he : SE nm cl P cal n (.neg a) := fun X W e C h => by
      cases e with
      | UnaryOp op l p =>
        cases op with
        | USub => exact e_neg (ih.e X W l C h)
        | _ => cases h
      | _ => cases h
    exact snd_leaf he (.of he fun N sc e h => by
      cases e with
      | UnaryOp op l p => cases op <;> first | rfl | cases h
      | _ => first | rfl | cases h) (fun _ _ _ => rfl) (fun _ _ _ => rfl) (fun _ _ _ _ => rfl) (fun _ _ _ => rfl) (fun _ _ _ _ _ => rfl)
  | cmp o a b ih1 ih2 =>
    have he : SE nm cl P cal n (.cmp o a b) := fun X W e C h => by
      cases e with
      | Compare l ops rs p =>
        match ops, rs, h with
        | [op], [r], h =>
          simp only [isE, Bool.and_eq_true] at h
          have : op = cop o := of_decide_eq_true h.1.1
          subst this
          exact e_cmp C (behind_e h.2 _) (ih1.e X W l C h.1.2) (ih2.e X W r C h.2)
        | [], _, h => cases h
        | [_], [], h => cases h
        | [_], _ :: _ :: _, h => cases h
        | _ :: _ :: _, _, h => cases h
      | _ => cases h
    have ht : ST nm cl P cal n (.cmp o a b) := fun X W e C h _ => by
      cases e with
      | Compare l ops rs p =>
        match ops, rs, h with
        | [op], [r], h =>
          simp only [isE, Bool.and_eq_true] at h
          have : op = cop o := of_decide_eq_true h.1.1
          subst this
          exact t_cmp C (behind_e h.2 _) (ih1.e X W l C h.1.2) (ih2.e X W r C h.2)
        | [], _, h => cases h
        | [_], [], h => cases h
        | [_], _ :: _ :: _, h => cases h
        | _ :: _ :: _, _, h => cases h
      | _ => cases h
    exact snd_leaf he ht (fun _ _ _ => rfl) (fun _ _ _ => rfl) (fun _ _ _ _ => rfl) (fun _ _ _ => rfl) (fun _ _ _ _ _ => rfl)
  | chain o o' a b c ih1 ih2 ih3 =>
    have he : SE nm cl P cal n (.chain o o' a b c) := fun X W e C h => by
      cases e with
      | Compare l ops rs p =>
        match ops, rs, h with
        | [op, op'], [r, r'], h =>
          simp only [isE, Bool.and_eq_true] at h
          have e1 : op = cop o := of_decide_eq_true h.1.1.1.1
          have e2 : op' = cop o' := of_decide_eq_true h.1.1.1.2
          subst e1; subst e2
          exact e_chain C (behind_e h.2 _) (ih1.e X W l C h.1.1.2) (ih2.e X W r C h.1.2) (ih3.e X W r' C h.2)
        | [], _, h => cases h
        | [_], _, h => cases h
        | [_, _], [], h => cases h
        | [_, _], [_], h => cases h
        | [_, _], _ :: _ :: _ :: _, h => cases h
        | _ :: _ :: _ :: _, _, h => cases h
      | _ => cases h
    have ht : ST nm cl P cal n (.chain o o' a b c) := fun X W e C h _ => by
      cases e with
      | Compare l ops rs p =>
        match ops, rs, h with
        | [op, op'], [r, r'], h =>
          simp only [isE, Bool.and_eq_true] at h
          have e1 : op = cop o := of_decide_eq_true h.1.1.1.1
          have e2 : op' = cop o' := of_decide_eq_true h.1.1.1.2
          subst e1; subst e2
          exact t_chain C (behind_e h.2 _) (ih1.e X W l C h.1.1.2) (ih2.e X W r C h.1.2) (ih3.e X W r' C h.2)
        | [], _, h => cases h
        | [_], _, h => cases h
        | [_, _], [], h => cases h
        | [_, _], [_], h => cases h
        | [_, _], _ :: _ :: _ :: _, h => cases h
        | _ :: _ :: _ :: _, _, h => cases h
      | _ => cases h
    exact snd_leaf he ht (fun _ _ _ => rfl) (fun _ _ _ => rfl) (fun _ _ _ _ => rfl) (fun _ _ _ => rfl) (fun _ _ _ _ _ => rfl)
  | not a ih =>
    have he : SE nm cl P cal n (.not a) := fun X W e C h => by
      cases e with
      | UnaryOp op l p =>
        cases op with
        | Not => exact e_not (ih.e X W l C h)
        | _ => cases h
      | _ => cases h
    have ht : ST nm cl P cal n (.not a) := fun X W e C h ho => by
      cases e with
      | UnaryOp op l p =>
        cases op with
        | Not => exact t_not (ih.t X W l C h ho)
        | _ => cases h
      | _ => cases h
    exact snd_leaf he ht (fun _ _ _ => rfl) (fun _ _ _ => rfl) (fun _ _ _ _ => rfl) (fun _ _ _ => rfl) (fun _ _ _ _ _ => rfl)
  | and a b ih1 ih2 =>
    have he : SE nm cl P cal n (.and a b) := fun X W e C h => by
      cases e with
      | BoolOp op es p =>
        match op, es, h with
        | .And, l :: r :: rs, h =>
          simp only [isE, Bool.and_eq_true] at h
          exact e_and (ih1.e X W l C h.1) (ih2.e X W _ C h.2)
        | .And, [], h => cases h
        | .And, [_], h => cases h
        | .Or, _, h => cases h
      | _ => cases h
    have hw : SW nm cl P cal n (.and a b) := fun X W op es p C h ho => by
      match op, es, h with
      | .And, l :: r :: rs, h =>
        simp only [isE, Bool.and_eq_true] at h
        simp only [tOk, Bool.and_eq_true] at ho
        exact w_and (ih1.t X W l C h.1 ho.1) (ih2.w X W _ _ _ C h.2 ho.2)
      | .And, [], h => cases h
      | .And, [_], h => cases h
      | .Or, _, h => cases h
    exact ⟨he, fun X W e C h ho => (by
      cases e with
      | BoolOp op es p => exact (hw X W op es p C h ho).pt
      | _ => cases h), hw, fun X W es C h => (by cases h), fun X W e C h => (by cases h), fun X W a b C h => (by cases h), fun X W es C h => (by cases h)⟩
  | or a b ih1 ih2 =>
    have he : SE nm cl P cal n (.or a b) := fun X W e C h => by
      cases e with
      | BoolOp op es p =>
        match op, es, h with
        | .Or, l :: r :: rs, h =>
          simp only [isE, Bool.and_eq_true] at h
          exact e_or (ih1.e X W l C h.1) (ih2.e X W _ C h.2)
        | .Or, [], h => cases h
        | .Or, [_], h => cases h
        | .And, _, h => cases h
      | _ => cases h
    have hw : SW nm cl P cal n (.or a b) := fun X W op es p C h ho => by
      match op, es, h with
      | .Or, l :: r :: rs, h =>
        simp only [isE, Bool.and_eq_true] at h
        simp only [tOk, Bool.and_eq_true] at ho
        exact w_or (ih1.t X W l C h.1 ho.1) (ih2.w X W _ _ _ C h.2 ho.2)
      | .Or, [], h => cases h
      | .Or, [_], h => cases h
      | .And, _, h => cases h
    exact ⟨he, fun X W e C h ho => (by
      cases e with
      | BoolOp op es p => exact (hw X W op es p C h ho).pt
      | _ => cases h), hw, fun X W es C h => (by cases h), fun X W e C h => (by cases h), fun X W a b C h => (by cases h), fun X W es C h => (by cases h)⟩
  | one a ih =>
    have he : SE nm cl P cal n (.one a) := fun X W e C h => by
      cases e with
      | BoolOp op es p =>
        match es, h with
        | [l], h => exact pe_one (ih.e X W l C h)
        | [], h => cases h
        | _ :: _ :: _, h => cases h
      | _ => cases h
    have hw : SW nm cl P cal n (.one a) := fun X W op es p C h ho => by
      match es, h with
      | [l], h =>
        cases op with
        | And => exact pw_and1 (ih.t X W l C h ho)
        | Or => exact pw_or1 (ih.t X W l C h ho)
      | [], h => cases h
      | _ :: _ :: _, h => cases h
    refine ⟨he, fun X W e C h ho => (by
      cases e with
      | BoolOp op es p => exact (hw X W op es p C h ho).pt
      | _ => cases h), hw, fun X W es C h => (by cases h), fun X W e C h => ?_, fun X W a b C h => ⟨i_one (ih.e X W b C h), fun v => folded_e h⟩, fun X W es C h => ?_⟩
    · cases e with
      | none => cases h
      | some e => exact o_some (ih.e X W e C h)
    · match es, h with
      | [e], h =>
        simp only [isC, Bool.and_eq_true] at h
        exact pts_one (ih.t X W e C h.1 h.2)
      | [], h => cases h
      | _ :: _ :: _, h => cases h
  | ite c a b ih1 ih2 ih3 =>
    have he : SE nm cl P cal n (.ite c a b) := fun X W e C h => by
      cases e with
      | IfExp t l r p =>
        simp only [isE, Bool.and_eq_true] at h
        exact e_ite (ih1.t X W t C h.1.1.1 h.1.1.2) (ih2.e X W l C h.1.2) (ih3.e X W r C h.2)
      | _ => cases h
    exact snd_leaf he (fun X W e C h ho => by cases ho) (fun _ _ _ => rfl) (fun _ _ _ => rfl) (fun _ _ _ _ => rfl) (fun _ _ _ => rfl) (fun _ _ _ _ _ => rfl)
  | call f es ih =>
    have he : SE nm cl P cal n (.call f es) := fun X W e C h => by
      simp only [isE] at h
      split at h
      · rename_i s p l ls p2
        simp only [Bool.and_eq_true] at h
        exact e_call C (of_decide_eq_true h.1.1.1) h.1.1.2 h.1.2 h.2 (ih.pa X W _ C h.2)
      · cases h
    exact snd_leaf he (.of he fun N sc e h => by cases e <;> first | rfl | cases h) (fun _ _ _ => rfl) (fun _ _ _ => rfl) (fun _ _ _ _ => rfl) (fun _ _ _ => rfl) (fun _ _ _ _ _ => rfl)
  | call0 f =>
    have he : SE nm cl P cal n (.call0 f) := fun X W e C h => by
      simp only [isE] at h
      split at h
      · rename_i s p p2
        simp only [Bool.and_eq_true] at h
        exact e_call0 C (of_decide_eq_true h.1.1) h.1.2 h.2
      · cases h
    exact snd_leaf he (.of he fun N sc e h => by cases e <;> first | rfl | cases h) (fun _ _ _ => rfl) (fun _ _ _ => rfl) (fun _ _ _ _ => rfl) (fun _ _ _ => rfl) (fun _ _ _ _ _ => rfl)
  | bi b es ih =>
    have he : SE nm cl P cal n (.bi b es) := fun X W e C h => by
      simp only [isE] at h
      split at h
      · rename_i s p l ls p2
        simp only [Bool.and_eq_true] at h
        have : s = biName b := of_decide_eq_true h.1.1
        subst this
        exact e_bi C h.1.2 h.2 (ih.pa X W _ C h.2)
      · cases h
    exact snd_leaf he (.of he fun N sc e h => by cases e <;> first | rfl | cases h) (fun _ _ _ => rfl) (fun _ _ _ => rfl) (fun _ _ _ _ => rfl) (fun _ _ _ => rfl) (fun _ _ _ _ _ => rfl)
  | isi a t ih =>
    have he : SE nm cl P cal n (.isi a t) := fun X W e C h => by
      simp only [isE] at h
      split at h
      · rename_i s p l y p3 p2
        simp only [Bool.and_eq_true] at h
        have e1 : s = ("isinstance" : Str) := of_decide_eq_true h.1.1.1.1
        have e2 : y = Str.ofString (tyN t) := of_decide_eq_true h.1.1.2
        subst e1; subst e2
        exact e_isi C h.1.1.1.2 h.1.2 (by cases t <;> first | exact C.md.bt .int | exact C.md.bt .str | exact C.md.bt .tuple | exact C.md.bt .list | exact C.md.bo _ (by decide)) h.2 (ih.e X W l C h.2)
      · cases h
    exact snd_leaf he (.of he fun N sc e h => by cases e <;> first | rfl | cases h) (fun _ _ _ => rfl) (fun _ _ _ => rfl) (fun _ _ _ _ => rfl) (fun _ _ _ => rfl) (fun _ _ _ _ _ => rfl)
  | meth m o es ih1 ih2 =>
    have he : SE nm cl P cal n (.meth m o es) := fun X W e C h => by
      simp only [isE] at h
      split at h
      · rename_i ob s ap l ls p2
        simp only [Bool.and_eq_true] at h
        have : s = mtName m := of_decide_eq_true h.1.1.1.1.1
        subst this
        exact e_meth (sc := X.env.scope) (N := X.N) h.1.1.1.1.2 h.1.2 (of_decide_eq_true h.2) h.1.1.2 (ih1.e X W ob C h.1.1.1.2) (ih2.pa X W _ C h.1.1.2)
      · cases h
    exact snd_leaf he (.of he fun N sc e h => by cases e <;> first | rfl | cases h) (fun _ _ _ => rfl) (fun _ _ _ => rfl) (fun _ _ _ _ => rfl) (fun _ _ _ => rfl) (fun _ _ _ _ _ => rfl)
  | ix a i ih1 ih2 =>
    have he : SE nm cl P cal n (.ix a i) := fun X W e C h => by
      cases e with
      | Subscript l r p =>
        simp only [isE, Bool.and_eq_true] at h
        exact e_ix (plainIx_e h.2) (ih1.e X W l C h.1) (ih2.e X W r C h.2)
      | _ => cases h
    exact snd_leaf he (.of he fun N sc e h => by cases e <;> first | rfl | cases h) (fun _ _ _ => rfl) (fun _ _ _ => rfl) (fun _ _ _ _ => rfl) (fun _ _ _ => rfl) (fun _ _ _ _ _ => rfl)
  | sl a lo hi ih1 ih2 ih3 =>
    have he : SE nm cl P cal n (.sl a lo hi) := fun X W e C h => by
      simp only [isE] at h
      split at h
      · rename_i l x y p3 p2
        simp only [Bool.and_eq_true] at h
        exact e_sl (ih1.e X W l C h.1.1) (ih2.o X W x C h.1.2) (ih3.o X W y C h.2)
      · cases h
    exact snd_leaf he (.of he fun N sc e h => by cases e <;> first | rfl | cases h) (fun _ _ _ => rfl) (fun _ _ _ => rfl) (fun _ _ _ _ => rfl) (fun _ _ _ => rfl) (fun _ _ _ _ _ => rfl)
  | no =>
    refine ⟨fun X W e C h => (by cases h), fun X W e C h => (by cases h), fun X W o es p C h => (by cases h), fun X W es C h => (by cases h), fun X W e C h => ?_, fun X W a b C h => (by cases h), fun X W es C h => (by cases h)⟩
    cases e with
    | none => exact o_none
    | some _ => cases h
  | rng a ih =>
    refine ⟨fun X W e C h => (by cases h), fun X W e C h => (by cases h), fun X W o es p C h => (by cases h), fun X W es C h => (by cases h), fun X W e C h => (by cases h), fun X W tg e C h => ?_, fun X W es C h => (by cases h)⟩
    simp only [isI] at h
    split at h
    · rename_i s p l p2
      simp only [Bool.and_eq_true] at h
      have : s = ("range" : Str) := of_decide_eq_true h.1.1
      subst this
      exact ⟨i_rng C h.1.2 h.2 (ih.e X W l C h.2), fun _ => rfl⟩
    · cases h
  | rng2 a b ih1 ih2 =>
    refine ⟨fun X W e C h => (by cases h), fun X W e C h => (by cases h), fun X W o es p C h => (by cases h), fun X W es C h => (by cases h), fun X W e C h => (by cases h), fun X W tg e C h => ?_, fun X W es C h => (by cases h)⟩
    simp only [isI] at h
    split at h
    · rename_i s p l r p2
      simp only [Bool.and_eq_true] at h
      have : s = ("range" : Str) := of_decide_eq_true h.1.1.1
      subst this
      exact ⟨i_rng2 C h.1.1.2 h.1.2 h.2 (ih1.e X W l C h.1.2) (ih2.e X W r C h.2), fun _ => rfl⟩
    · cases h
  | zip a b ih1 ih2 =>
    refine ⟨fun X W e C h => (by cases h), fun X W e C h => (by cases h), fun X W o es p C h => (by cases h), fun X W es C h => (by cases h), fun X W e C h => (by cases h), fun X W tg e C h => ?_, fun X W es C h => (by cases h)⟩
    simp only [isI] at h
    split at h
    · rename_i s p l r p2 _ _ _
      simp only [Bool.and_eq_true] at h
      have : s = ("zip" : Str) := of_decide_eq_true h.1.1.1
      subst this
      exact ⟨i_zip C h.1.1.2 h.1.2 h.2 (ih1.e X W l C h.1.2) (ih2.e X W r C h.2), fun _ => rfl⟩
    · cases h
  | enm a ih =>
    refine ⟨fun X W e C h => (by cases h), fun X W e C h => (by cases h), fun X W o es p C h => (by cases h), fun X W es C h => (by cases h), fun X W e C h => (by cases h), fun X W tg e C h => ?_, fun X W es C h => (by cases h)⟩
    simp only [isI] at h
    split at h
    · rename_i s p l p2 _ _ _
      simp only [Bool.and_eq_true] at h
      have : s = ("enumerate" : Str) := of_decide_eq_true h.1.1
      subst this
      exact ⟨i_enm C h.1.2 h.2 (ih.e X W l C h.2), fun _ => rfl⟩
    · cases h
  | comp own t it c x ih1 ih2 ih3 =>
    have he : SE nm cl P cal n (.comp own t it c x) := fun X W e C h => by
      simp only [isE] at h
      split at h
      · rename_i elt tg iter ifs as scope p
        simp only [Bool.and_eq_true] at h
        have : as = 0 := of_decide_eq_true h.1.1.1.1.1.1
        subst this
        exact s_comp ih1.i ih2.c ih3.e C h.1.1.1.1.1.2 h.1.1.1.1.2 h.1.1.1.2 h.1.1.2 h.1.2 h.2
      · cases h
    exact snd_leaf he (.of he fun N sc e h => by cases e <;> first | rfl | cases h) (fun _ _ _ => rfl) (fun _ _ _ => rfl) (fun _ _ _ _ => rfl) (fun _ _ _ => rfl) (fun _ _ _ _ _ => rfl)
  | vard i =>
    have he : SE nm cl P cal n (.vard i) := fun X W e C h => by
      cases e with
      | Name s p =>
        simp only [isE, Bool.and_eq_true] at h
        exact e_vard (of_decide_eq_true h.1.1) h.1.2 h.2
      | _ => cases h
    exact snd_leaf he (.of he fun N sc e h => by cases e <;> first | rfl | cases h) (fun _ _ _ => rfl) (fun _ _ _ => rfl) (fun _ _ _ _ => rfl) (fun _ _ _ => rfl) (fun _ _ _ _ _ => rfl)
  | varp i =>
    have he : SE nm cl P cal n (.varp i) := fun X W e C h => by
      cases e with
      | Name s p =>
        simp only [isE, Bool.and_eq_true] at h
        exact e_varp (of_decide_eq_true h.1.1) h.1.2 h.2
      | _ => cases h
    exact snd_leaf he (.of he fun N sc e h => by cases e <;> first | rfl | cases h) (fun _ _ _ => rfl) (fun _ _ _ => rfl) (fun _ _ _ _ => rfl) (fun _ _ _ => rfl) (fun _ _ _ _ _ => rfl)
  | ptup es ih =>
    have he : SE nm cl P cal n (.ptup es) := fun X W e C h => by
      cases e with
      | Tuple l k p => exact e_ptup (ih.pa X W l C h)
      | _ => cases h
    exact snd_leaf he (.of he fun N sc e h => by cases e <;> first | rfl | cases h) (fun _ _ _ => rfl) (fun _ _ _ => rfl) (fun _ _ _ _ => rfl) (fun _ _ _ => rfl) (fun _ _ _ _ _ => rfl)
  | ptl a ih =>
    have he : SE nm cl P cal n (.ptl a) := fun X W e C h => by
      simp only [isE] at h
      split at h
      · rename_i s p l p2
        simp only [Bool.and_eq_true] at h
        have : s = ("tuple" : Str) := of_decide_eq_true h.1.1
        subst this
        exact e_ptl C h.1.2 h.2 (ih.e X W l C h.2)
      · cases h
    exact snd_leaf he (.of he fun N sc e h => by cases e <;> first | rfl | cases h) (fun _ _ _ => rfl) (fun _ _ _ => rfl) (fun _ _ _ _ => rfl) (fun _ _ _ => rfl) (fun _ _ _ _ _ => rfl)
  | dix a i ih1 ih2 =>
    have he : SE nm cl P cal n (.dix a i) := fun X W e C h => by
      cases e with
      | Subscript l r p =>
        simp only [isE, Bool.and_eq_true] at h
        exact e_dix C (plainIx_e h.2) (ih1.e X W l C h.1) (ih2.e X W r C h.2)
      | _ => cases h
    exact snd_leaf he (.of he fun N sc e h => by cases e <;> first | rfl | cases h) (fun _ _ _ => rfl) (fun _ _ _ => rfl) (fun _ _ _ _ => rfl) (fun _ _ _ => rfl) (fun _ _ _ _ _ => rfl)
  | dgt d k z ih1 ih2 ih3 =>
    have he : SE nm cl P cal n (.dgt d k z) := fun X W e C h => by
      simp only [isE] at h
      split at h
      · rename_i ob s ap a1 a2 p2
        simp only [Bool.and_eq_true] at h
        have : s = ("get" : Str) := of_decide_eq_true h.1.1.1.1.1
        subst this
        exact e_dgt C h.1.1.1.1.2 h.2 h.1.1.2 h.1.2 (ih1.e X W ob C h.1.1.1.2) (ih2.e X W a1 C h.1.1.2) (ih3.e X W a2 C h.1.2)
      · cases h
    exact snd_leaf he (.of he fun N sc e h => by cases e <;> first | rfl | cases h) (fun _ _ _ => rfl) (fun _ _ _ => rfl) (fun _ _ _ _ => rfl) (fun _ _ _ => rfl) (fun _ _ _ _ _ => rfl)
  | din ng a b ih1 ih2 =>
    have he : SE nm cl P cal n (.din ng a b) := fun X W e C h => by
      simp only [isE] at h
      split at h
      · rename_i l op r p
        simp only [Bool.and_eq_true] at h
        have : op = if ng then .NotIn else .In := of_decide_eq_true h.1.1
        subst this
        exact e_din C (behind_e h.2 _) (ih1.e X W l C h.1.2) (ih2.e X W r C h.2)
      · cases h
    have ht : ST nm cl P cal n (.din ng a b) := fun X W e C h _ => by
      simp only [isE] at h
      split at h
      · rename_i l op r p
        simp only [Bool.and_eq_true] at h
        have : op = if ng then .NotIn else .In := of_decide_eq_true h.1.1
        subst this
        exact t_din C (behind_e h.2 _) (ih1.e X W l C h.1.2) (ih2.e X W r C h.2)
      · cases h
    exact snd_leaf he ht (fun _ _ _ => rfl) (fun _ _ _ => rfl) (fun _ _ _ _ => rfl) (fun _ _ _ => rfl) (fun _ _ _ _ _ => rfl)
  | dct0 =>
    have he : SE nm cl P cal n .dct0 := fun X W e C h => by
      simp only [isE] at h
      split at h
      · rename_i p
        exact e_dct0
      · cases h
    exact snd_leaf he (.of he fun N sc e h => by cases e <;> first | rfl | cases h) (fun _ _ _ => rfl) (fun _ _ _ => rfl) (fun _ _ _ _ => rfl) (fun _ _ _ => rfl) (fun _ _ _ _ _ => rfl)
  | newd =>
    have he : SE nm cl P cal n .newd := fun X W e C h => by
      simp only [isE] at h
      split at h
      · rename_i p
        exact e_newd
      · cases h
    exact snd_leaf he (.of he fun N sc e h => by cases e <;> first | rfl | cases h) (fun _ _ _ => rfl) (fun _ _ _ => rfl) (fun _ _ _ _ => rfl) (fun _ _ _ => rfl) (fun _ _ _ _ _ => rfl)
  | dcmp own t it c k v ih1 ih2 ih3 ih4 =>
    have he : SE nm cl P cal n (.dcmp own t it c k v) := fun X W e C h => by
      simp only [isE] at h
      split at h
      · rename_i key val tg iter ifs as scope p
        simp only [Bool.and_eq_true] at h
        have : as = 0 := of_decide_eq_true h.1.1.1.1.1.1.1
        subst this
        exact s_dcmp ih1.i ih2.c ih3.e ih4.e C h.1.1.1.1.1.1.2 h.1.1.1.1.1.2 h.1.1.1.1.2 h.1.1.1.2 h.1.1.2 h.1.2 h.2
      · cases h
    exact snd_leaf he (.of he fun N sc e h => by cases e <;> first | rfl | cases h) (fun _ _ _ => rfl) (fun _ _ _ => rfl) (fun _ _ _ _ => rfl) (fun _ _ _ => rfl) (fun _ _ _ _ _ => rfl)
  | itm a ih =>
    refine ⟨fun X W e C h => (by cases h), fun X W e C h => (by cases h), fun X W o es p C h => (by cases h), fun X W es C h => (by cases h), fun X W e C h => (by cases h), fun X W tg e C h => ?_, fun X W es C h => (by cases h)⟩
    simp only [isI] at h
    split at h
    · rename_i ob s ap p2 _ _ _
      simp only [Bool.and_eq_true] at h
      have : s = ("items" : Str) := of_decide_eq_true h.1.1.1
      subst this
      exact ⟨i_itm h.1.1.2 h.1.2 (ih.e X W ob C h.2), fun _ => rfl⟩
    · cases h
  | dof a ih =>
    have he : SE nm cl P cal n (.dof a) := fun X W e C h => by
      simp only [isE] at h
      split at h
      · rename_i s p l p2
        simp only [Bool.and_eq_true] at h
        have : s = ("dict" : Str) := of_decide_eq_true h.1.1
        subst this
        exact e_dof C h.1.2 h.2 (ih.e X W l C h.2)
      · cases h
    exact snd_leaf he (.of he fun N sc e h => by cases e <;> first | rfl | cases h) (fun _ _ _ => rfl) (fun _ _ _ => rfl) (fun _ _ _ _ => rfl) (fun _ _ _ => rfl) (fun _ _ _ _ _ => rfl)
  | deq0 ng a ih =>
    have he : SE nm cl P cal n (.deq0 ng a) := fun X W e C h => by
      simp only [isE] at h
      split at h
      · rename_i l op p2 p
        simp only [Bool.and_eq_true] at h
        have : op = if ng then .NotEq else .Eq := of_decide_eq_true h.1
        subst this
        exact e_deq0 C (ih.e X W l C h.2)
      · cases h
    have ht : ST nm cl P cal n (.deq0 ng a) := fun X W e C h _ => by
      simp only [isE] at h
      split at h
      · rename_i l op p2 p
        simp only [Bool.and_eq_true] at h
        have : op = if ng then .NotEq else .Eq := of_decide_eq_true h.1
        subst this
        exact t_deq0 C (ih.e X W l C h.2)
      · cases h
    exact snd_leaf he ht (fun _ _ _ => rfl) (fun _ _ _ => rfl) (fun _ _ _ _ => rfl) (fun _ _ _ => rfl) (fun _ _ _ _ _ => rfl)
  | srt a ih =>
    have he : SE nm cl P cal n (.srt a) := fun X W e C h => by
      simp only [isE] at h
      split at h
      · rename_i s p l p2
        simp only [Bool.and_eq_true] at h
        have : s = ("sorted" : Str) := of_decide_eq_true h.1.1
        subst this
        exact e_srt C h.1.2 h.2 (ih.e X W l C h.2)
      · cases h
    exact snd_leaf he (.of he fun N sc e h => by cases e <;> first | rfl | cases h) (fun _ _ _ => rfl) (fun _ _ _ => rfl) (fun _ _ _ _ => rfl) (fun _ _ _ => rfl) (fun _ _ _ _ _ => rfl)
  | srti a ih =>
    have he : SE nm cl P cal n (.srti a) := fun X W e C h => by
      simp only [isE] at h
      split at h
      · rename_i s p ob y ap p3 p2
        simp only [Bool.and_eq_true] at h
        have : s = ("sorted" : Str) := of_decide_eq_true h.1.1.1.1.1
        subst this
        have : y = ("items" : Str) := of_decide_eq_true h.1.1.1.2
        subst this
        exact e_srti (sc := X.env.scope) (N := X.N) C h.1.1.1.1.2 h.1.1.2 h.1.2 (ih.e X W ob C h.2)
      · cases h
    exact snd_leaf he (.of he fun N sc e h => by cases e <;> first | rfl | cases h) (fun _ _ _ => rfl) (fun _ _ _ => rfl) (fun _ _ _ _ => rfl) (fun _ _ _ => rfl) (fun _ _ _ _ _ => rfl)
  | stars a b ih1 ih2 =>
    have he : SE nm cl P cal n (.stars a b) := fun X W e C h => by
      simp only [isE] at h
      split at h
      · rename_i l p1 r p2 p
        simp only [Bool.and_eq_true] at h
        exact e_stars C (ih1.e X W l C h.1) (ih2.e X W r C h.2)
      · cases h
    exact snd_leaf he (.of he fun N sc e h => by cases e <;> first | rfl | cases h) (fun _ _ _ => rfl) (fun _ _ _ => rfl) (fun _ _ _ _ => rfl) (fun _ _ _ => rfl) (fun _ _ _ _ _ => rfl)
  | mk j es ih =>
    have he : SE nm cl P cal n (.mk j es) := fun X W e C h => by
      simp only [isE] at h
      split at h
      · rename_i s p ls p2
        simp only [Bool.and_eq_true] at h
        exact e_mk C (of_decide_eq_true h.1.1.1) h.1.1.2 h.1.2 h.2 (ih.pa X W ls C h.2)
      · cases h
    exact snd_leaf he (.of he fun N sc e h => by cases e <;> first | rfl | cases h) (fun _ _ _ => rfl) (fun _ _ _ => rfl) (fun _ _ _ _ => rfl) (fun _ _ _ => rfl) (fun _ _ _ _ _ => rfl)
  | mkc i j es ih =>
    have he : SE nm cl P cal n (.mkc i j es) := fun X W e C h => by
      simp only [isE] at h
      split at h
      · rename_i s p l ls p2
        simp only [Bool.and_eq_true] at h
        exact e_mkc C (of_decide_eq_true h.1.1.1) h.1.1.2 h.1.2 h.2 (ih.pa X W (l :: ls) C h.2)
      · cases h
    exact snd_leaf he (.of he fun N sc e h => by cases e <;> first | rfl | cases h) (fun _ _ _ => rfl) (fun _ _ _ => rfl) (fun _ _ _ _ => rfl) (fun _ _ _ => rfl) (fun _ _ _ _ _ => rfl)
  | slt j o ih =>
    have he : SE nm cl P cal n (.slt j o) := fun X W e C h => by
      cases e with
      | Attribute ob s p =>
        simp only [isE, Bool.and_eq_true] at h
        exact e_slt C (of_decide_eq_true h.1.1) h.1.2 (ih.e X W ob C h.2)
      | _ => cases h
    exact snd_leaf he (.of he fun N sc e h => by cases e <;> first | rfl | cases h) (fun _ _ _ => rfl) (fun _ _ _ => rfl) (fun _ _ _ _ => rfl) (fun _ _ _ => rfl) (fun _ _ _ _ _ => rfl)
  | sltp j o ih =>
    have he : SE nm cl P cal n (.sltp j o) := fun X W e C h => by
      cases e with
      | Attribute ob s p =>
        simp only [isE, Bool.and_eq_true] at h
        exact e_sltp C (of_decide_eq_true h.1.1) h.1.2 (ih.e X W ob C h.2)
      | _ => cases h
    exact snd_leaf he (.of he fun N sc e h => by cases e <;> first | rfl | cases h) (fun _ _ _ => rfl) (fun _ _ _ => rfl) (fun _ _ _ _ => rfl) (fun _ _ _ => rfl) (fun _ _ _ _ _ => rfl)
  | mth j o es ih1 ih2 =>
    have he : SE nm cl P cal n (.mth j o es) := fun X W e C h => by
      simp only [isE] at h
      split at h
      · rename_i ob s ap ls p2
        simp only [Bool.and_eq_true] at h
        exact e_mth C (of_decide_eq_true h.1.1.1.1.1) h.1.1.1.1.2 h.1.2 (of_decide_eq_true h.2) h.1.1.2 (ih1.e X W ob C h.1.1.1.2) (ih2.pa X W ls C h.1.1.2)
      · cases h
    exact snd_leaf he (.of he fun N sc e h => by cases e <;> first | rfl | cases h) (fun _ _ _ => rfl) (fun _ _ _ => rfl) (fun _ _ _ _ => rfl) (fun _ _ _ => rfl) (fun _ _ _ _ _ => rfl)
  | prp j o ih =>
    have he : SE nm cl P cal n (.prp j o) := fun X W e C h => by
      cases e with
      | Attribute ob s p =>
        simp only [isE, Bool.and_eq_true] at h
        exact e_prp C (of_decide_eq_true h.1.1) h.1.2 (ih.e X W ob C h.2)
      | _ => cases h
    exact snd_leaf he (.of he fun N sc e h => by cases e <;> first | rfl | cases h) (fun _ _ _ => rfl) (fun _ _ _ => rfl) (fun _ _ _ _ => rfl) (fun _ _ _ => rfl) (fun _ _ _ _ _ => rfl)
  | cme j es ih =>
    have he : SE nm cl P cal n (.cme j es) := fun X W e C h => by
      simp only [isE] at h
      split at h
      · rename_i c p3 s ap ls p2
        simp only [Bool.and_eq_true] at h
        exact e_cme C (of_decide_eq_true h.1.1.1.1.1) h.1.1.1.1.2 h.1.1.1.2 h.1.2 (of_decide_eq_true h.2) h.1.1.2 (ih.pa X W ls C h.1.1.2)
      · cases h
    exact snd_leaf he (.of he fun N sc e h => by cases e <;> first | rfl | cases h) (fun _ _ _ => rfl) (fun _ _ _ => rfl) (fun _ _ _ _ => rfl) (fun _ _ _ => rfl) (fun _ _ _ _ _ => rfl)
  | isc j o ih =>
    have he : SE nm cl P cal n (.isc j o) := fun X W e C h => by
      simp only [isE] at h
      split at h
      · rename_i s p l y p3 p2
        simp only [Bool.and_eq_true] at h
        have e1 : s = ("isinstance" : Str) := of_decide_eq_true h.1.1.1.1.1
        subst e1
        exact e_isc C (of_decide_eq_true h.1.1.1.2) h.1.1.1.1.2 h.1.1.2 h.1.2 h.2 (ih.e X W l C h.2)
      · cases h
    exact snd_leaf he (.of he fun N sc e h => by cases e <;> first | rfl | cases h) (fun _ _ _ => rfl) (fun _ _ _ => rfl) (fun _ _ _ _ => rfl) (fun _ _ _ => rfl) (fun _ _ _ _ _ => rfl)
  | ostr o ih =>
    have he : SE nm cl P cal n (.ostr o) := fun X W e C h => by
      simp only [isE] at h
      split at h
      · rename_i s p l p2
        simp only [Bool.and_eq_true] at h
        have : s = ("str" : Str) := of_decide_eq_true h.1.1
        subst this
        exact e_ostr C h.1.2 h.2 (ih.e X W l C h.2)
      · cases h
    exact snd_leaf he (.of he fun N sc e h => by cases e <;> first | rfl | cases h) (fun _ _ _ => rfl) (fun _ _ _ => rfl) (fun _ _ _ _ => rfl) (fun _ _ _ => rfl) (fun _ _ _ _ _ => rfl)
  | newo o ih =>
    have he : SE nm cl P cal n (.newo o) := fun X W e C h => by
      simp only [isE] at h
      split at h
      · rename_i s p l p2
        simp only [Bool.and_eq_true] at h
        have : s = ("list" : Str) := of_decide_eq_true h.1.1
        subst this
        exact e_newo C h.1.2 h.2 (ih.e X W l C h.2)
      · cases h
    exact snd_leaf he (.of he fun N sc e h => by cases e <;> first | rfl | cases h) (fun _ _ _ => rfl) (fun _ _ _ => rfl) (fun _ _ _ _ => rfl) (fun _ _ _ => rfl) (fun _ _ _ _ _ => rfl)
  | dln o ih =>
    have he : SE nm cl P cal n (.dln o) := fun X W e C h => by
      simp only [isE] at h
      split at h
      · rename_i s p l p2
        simp only [Bool.and_eq_true] at h
        have : s = ("len" : Str) := of_decide_eq_true h.1.1
        subst this
        exact e_dln C h.1.2 h.2 (ih.e X W l C h.2)
      · cases h
    exact snd_leaf he (.of he fun N sc e h => by cases e <;> first | rfl | cases h) (fun _ _ _ => rfl) (fun _ _ _ => rfl) (fun _ _ _ _ => rfl) (fun _ _ _ => rfl) (fun _ _ _ _ _ => rfl)
  | pop i a ih =>
    have he : SE nm cl P cal n (.pop i a) := fun X W e C h => by
      simp only [isE] at h
      split at h
      · rename_i s p y ap l p2
        simp only [Bool.and_eq_true] at h
        have : y = ("pop" : Str) := of_decide_eq_true h.1.1.2
        subst this
        exact e_pop (of_decide_eq_true h.1.1.1.1.1) h.1.1.1.1.2 h.1.1.1.2 h.1.2 h.2 (ih.e X W l C h.2)
      · cases h
    exact snd_leaf he (.of he fun N sc e h => by cases e <;> first | rfl | cases h) (fun _ _ _ => rfl) (fun _ _ _ => rfl) (fun _ _ _ _ => rfl) (fun _ _ _ => rfl) (fun _ _ _ _ _ => rfl)
  | dits a ih =>
    have he : SE nm cl P cal n (.dits a) := fun X W e C h => by
      simp only [isE] at h
      split at h
      · rename_i s p ob y ap p3 p2
        simp only [Bool.and_eq_true] at h
        have : s = ("list" : Str) := of_decide_eq_true h.1.1.1.1.1
        subst this
        have : y = ("items" : Str) := of_decide_eq_true h.1.1.1.2
        subst this
        exact e_dits C h.1.1.1.1.2 h.1.1.2 h.1.2 (ih.e X W ob C h.2)
      · cases h
    exact snd_leaf he (.of he fun N sc e h => by cases e <;> first | rfl | cases h) (fun _ _ _ => rfl) (fun _ _ _ => rfl) (fun _ _ _ _ => rfl) (fun _ _ _ => rfl) (fun _ _ _ _ _ => rfl)
  | isn ng a ih =>
    have he : SE nm cl P cal n (.isn ng a) := fun X W e C h => by
      simp only [isE] at h
      split at h
      · rename_i l op _ p2 p
        simp only [Bool.and_eq_true] at h
        have : op = if ng then .IsNot else .Is := of_decide_eq_true h.1
        subst this
        exact e_isn (ih.e X W l C h.2)
      · cases h
    have ht : ST nm cl P cal n (.isn ng a) := fun X W e C h _ => by
      simp only [isE] at h
      split at h
      · rename_i l op _ p2 p
        simp only [Bool.and_eq_true] at h
        have : op = if ng then .IsNot else .Is := of_decide_eq_true h.1
        subst this
        exact t_isn (ih.e X W l C h.2)
      · cases h
    exact snd_leaf he ht (fun _ _ _ => rfl) (fun _ _ _ => rfl) (fun _ _ _ _ => rfl) (fun _ _ _ => rfl) (fun _ _ _ _ _ => rfl)
  | olen o ih =>
    have he : SE nm cl P cal n (.olen o) := fun X W e C h => by
      simp only [isE] at h
      split at h
      · rename_i s p l p2
        simp only [Bool.and_eq_true] at h
        have : s = ("len" : Str) := of_decide_eq_true h.1.1
        subst this
        exact e_olen C h.1.2 h.2 (ih.e X W l C h.2)
      · cases h
    exact snd_leaf he (.of he fun N sc e h => by cases e <;> first | rfl | cases h) (fun _ _ _ => rfl) (fun _ _ _ => rfl) (fun _ _ _ _ => rfl) (fun _ _ _ => rfl) (fun _ _ _ _ _ => rfl)
  | obool o ih =>
    have he : SE nm cl P cal n (.obool o) := fun X W e C h => by
      simp only [isE] at h
      split at h
      · rename_i s p l p2
        simp only [Bool.and_eq_true] at h
        have : s = ("bool" : Str) := of_decide_eq_true h.1.1
        subst this
        exact e_obool C h.1.2 h.2 (ih.e X W l C h.2)
      · cases h
    exact snd_leaf he (.of he fun N sc e h => by cases e <;> first | rfl | cases h) (fun _ _ _ => rfl) (fun _ _ _ => rfl) (fun _ _ _ _ => rfl) (fun _ _ _ => rfl) (fun _ _ _ _ _ => rfl)
  | newc own t it c x ih1 ih2 ih3 =>
    have he : SE nm cl P cal n (.newc own t it c x) := fun X W e C h => by
      simp only [isE] at h
      split at h
      · rename_i elt tg iter ifs as scope p
        simp only [Bool.and_eq_true] at h
        have : as = 0 := of_decide_eq_true h.1.1.1.1.1.1
        subst this
        exact s_newc ih1.i ih2.c ih3.e C h.1.1.1.1.1.2 h.1.1.1.1.2 h.1.1.1.2 h.1.1.2 h.1.2 h.2
      · cases h
    exact snd_leaf he (.of he fun N sc e h => by cases e <;> first | rfl | cases h) (fun _ _ _ => rfl) (fun _ _ _ => rfl) (fun _ _ _ _ => rfl) (fun _ _ _ => rfl) (fun _ _ _ _ _ => rfl)
  | fld i k =>
    exact ⟨fun X W e C h => (by cases h), fun X W e C h => (by cases h), fun X W o es p C h => (by cases h), fun X W es C h => (by cases h), fun X W e C h => (by cases h), fun X W a b C h => (by cases h), fun X W es C h => (by cases h)⟩
  | repl o c z ih =>
    exact ⟨fun X W e C h => (by cases h), fun X W e C h => (by cases h), fun X W o es p C h => (by cases h), fun X W es C h => (by cases h), fun X W e C h => (by cases h), fun X W a b C h => (by cases h), fun X W es C h => (by cases h)⟩
  | fjoin es ih =>
    have he : SE nm cl P cal n (.fjoin es) := fun X W e C h => by
      simp only [isE] at h
      split at h
      · rename_i v1 v2 vs p
        exact e_fjoin (ih.a X W (v1 :: v2 :: vs) C h).2
      · cases h
    exact snd_leaf he (.of he fun N sc e h => by cases e <;> first | rfl | cases h) (fun _ _ _ => rfl) (fun _ _ _ => rfl) (fun _ _ _ _ => rfl) (fun _ _ _ => rfl) (fun _ _ _ _ _ => rfl)
  | fmt x ih =>
    have he : SE nm cl P cal n (.fmt x) := fun X W e C h => by
      simp only [isE] at h
      split at h
      · rename_i v c p
        simp only [Bool.and_eq_true] at h
        have : c = -1 := of_decide_eq_true h.1
        subst this
        exact e_fmt (ih.e X W v C h.2)
      · cases h
    exact snd_leaf he (.of he fun N sc e h => by cases e <;> first | rfl | cases h) (fun _ _ _ => rfl) (fun _ _ _ => rfl) (fun _ _ _ _ => rfl) (fun _ _ _ => rfl) (fun _ _ _ _ _ => rfl)
  | fmt02 x ih =>
    have he : SE nm cl P cal n (.fmt02 x) := fun X W e C h => by
      simp only [isE] at h
      split at h
      · rename_i v c s j p1 p2 p
        simp only [Bool.and_eq_true] at h
        have e1 : c = -1 := of_decide_eq_true h.1.1
        have e2 : s = S' [48, 50] := of_decide_eq_true h.1.2
        subst e1; subst e2
        exact e_fmt02 C (ih.e X W v C h.2)
      · cases h
    exact snd_leaf he (.of he fun N sc e h => by cases e <;> first | rfl | cases h) (fun _ _ _ => rfl) (fun _ _ _ => rfl) (fun _ _ _ _ => rfl) (fun _ _ _ => rfl) (fun _ _ _ _ _ => rfl)
end
end Iv
end
section
/-! Ivx: statements and calls of the interpreter. -/
namespace Iv
/-- a clause: the class, the name's place, what is handed back -/
structure Hd where
  c : Nat
  i : Option Nat
  e : Ex
inductive St where
  | skip | seq (a b : St)
  | never
  | asg (i : Nat) (e : Ex)
  | asgT (t : Tg) (e : Ex)
  | par2 (i j : Nat) (a b : Ex)
  | par3 (i j k : Nat) (a b c : Ex)
  /-- the same, by a tuple: names that a comprehension reads -/
  | par3c (i j k : Nat) (a b c : Ex)
  | aug (i : Nat) (o : BOp) (e : Ex)
  | setix (i : Nat) (ix e : Ex)
  | app (i : Nat) (e : Ex)
  | setd (i : Nat) (k e : Ex)
  | setsl (j : Nat) (o e : Ex)
  | frzv (i : Nat) (b : St)
  | expr (e : Ex)
  | ret (e : Ex) | retN
  | ite (c : Ex) (a b : St)
  | whl (c : Ex) (b : St)
  | loop (t : Tg) (it : Ex) (b : St)
  | brk | cnt
  | rse (c : Nat) (es : Ex)
  | tri (b : St) (hs : List Hd)

inductive RS where
  | nx (r : Ev) (S : Hs) | ret (v : Vl) (S : Hs) | brk (r : Ev) (S : Hs) | cnt (r : Ev) (S : Hs)
  | exc (c : Nat) (fs : List D) (r : Ev) (S : Hs) | bad

/-- how the arguments come: as they are; with defaults behind; the rest as a tuple -/
inductive Ad where
  | all | dfl (ds : List D) | star
structure Fn where
  np : Nat
  ns : Nat
  body : St
  ad : Ad := .all
def adapt (ad : Ad) (np : Nat) (vs : List Vl) : Option (List Vl) :=
  match ad with
  | .all => some vs
  | .dfl ds => some (vs ++ ds.map .d)
  | .star => match np with
    | 2 => match vs with
      | v :: rest => if rest.length ≤ 5 then (dsOf rest).map fun xs => [v, .d (.tup xs)] else none
      | [] => none
    | _ => none
/-- a slot is set -/
def putF (i : Nat) (x : D) (fs : List (Option D)) : List (Option D) := (fs ++ List.replicate (i + 1 - fs.length) none).set i (some x)
/-- what str() takes in an own error -/
def strD : D → Bool
  | .non => true
  | .bl _ => true
  | .str _ => true
  | .int i => decide (i.natAbs < 2 ^ 1900)
  | _ => false
/-- no caught errors among the names -/
def unx (r : Ev) : Ev := r.map fun o => match o with
  | some (.xc _ _) => none
  | o => o
section
variable (P : Prg) (cal : Cal)
/-- the clauses, one after the other -/
def exh : List Hd → Nat → List D → Ev → Hs → RS
  | [], c, fs, r, S => .exc c fs r S
  | h :: hs, c, fs, r, S => if P.sub c h.c then match ev P cal h.e (match h.i with
      | some i => (unx r).set i (some (.xc c fs))
      | none => unx r) S with
    | .ok v S1 => .ret v S1
    | _ => .bad
    else exh hs c fs r S
def forL (t : Tg) (f : Ev → Hs → RS) : List D → Ev → Hs → RS
  | [], r, S => .nx r S
  | x :: xs, r, S => match asgD t x r with
    | none => .bad
    | some r1 => match f r1 S with
      | .nx r2 S2 => forL t f xs r2 S2
      | .cnt r2 S2 => forL t f xs r2 S2
      | .brk r2 S2 => .nx r2 S2
      | .ret v S2 => .ret v S2
      | .exc c fs r2 S2 => .exc c fs r2 S2
      | .bad => .bad
def whlL (c : Ev → Hs → R Vl) (f : Ev → Hs → RS) : Nat → Ev → Hs → RS
  | 0, _, _ => .bad
  | n + 1, r, S => match c r S with
    | .ok (.d (.bl true)) S1 => match f r S1 with
      | .nx r2 S2 => whlL c f n r2 S2
      | .cnt r2 S2 => whlL c f n r2 S2
      | .brk r2 S2 => .nx r2 S2
      | .ret v S2 => .ret v S2
      | .exc c fs r2 S2 => .exc c fs r2 S2
      | .bad => .bad
    | .ok (.d (.bl false)) S1 => .nx r S1
    | .ok _ _ => .bad
    | .exc c fs S1 => .exc c fs r S1
    | .bad => .bad
/-- an expression's end within a statement -/
def R.st {α : Type} (x : R α) (r : Ev) (k : α → Hs → RS) : RS :=
  match x with
  | .ok a S => k a S
  | .exc c fs S => .exc c fs r S
  | .bad => .bad
def exec : St → Ev → Hs → RS
  | .skip, r, S => .nx r S
  | .never, _, _ => .bad
  | .seq a b, r, S => match exec a r S with
    | .nx r1 S1 => exec b r1 S1
    | .ret v S1 => .ret v S1
    | .brk r1 S1 => .brk r1 S1
    | .cnt r1 S1 => .cnt r1 S1
    | .exc c fs r1 S1 => .exc c fs r1 S1
    | .bad => .bad
  | .asg i e, r, S => (ev P cal e r S).st r fun v S1 => .nx (r.set i (some v)) S1
  | .asgT t e, r, S => (ev P cal e r S).st r fun v S1 => match v with
    | .d x => match asgD t x r with
      | some r1 => .nx r1 S1
      | none => .bad
    | _ => .bad
  | .par2 i j a b, r, S => (ev P cal a r S).st r fun v S1 => (ev P cal b r S1).st r fun w S2 => .nx ((r.set i (some v)).set j (some w)) S2
  | .par3 i j k a b c, r, S => (ev P cal a r S).st r fun v S1 => (ev P cal b r S1).st r fun w S2 => (ev P cal c r S2).st r fun u S3 =>
    .nx (((r.set i (some v)).set j (some w)).set k (some u)) S3
  | .par3c i j k a b c, r, S => (ev P cal a r S).st r fun v S1 => (ev P cal b r S1).st r fun w S2 => (ev P cal c r S2).st r fun u S3 =>
    .nx (((r.set i (some v)).set j (some w)).set k (some u)) S3
  | .aug i o e, r, S => match r[i]? with
    | some (some (.d x)) => (ev P cal e r S).st r fun v S1 => match v with
      | .d y => match augD o x y with
        | some z => .nx (r.set i (some (.d z))) S1
        | none => .bad
      | _ => .bad
    | _ => .bad
  | .setix i k e, r, S => (ev P cal e r S).st r fun v S1 => match r[i]?, v with
    | some (some (.loc n)), .d x => (ev P cal k r S1).st r fun w S2 => match w, S2[n]? with
      | .d (.int j), some (.lst xs) => match plc j xs.length with
        | some p => .nx r (S2.set n (.lst (xs.set p x)))
        | none => .bad
      | _, _ => .bad
    | _, _ => .bad
  | .app i e, r, S => match r[i]? with
    | some (some (.loc n)) => match S[n]? with
      | some (.lst _) => (ev P cal e r S).st r fun v S1 => match v, S1[n]? with
        | .d x, some (.lst xs) => if xs.length < big then .nx r (S1.set n (.lst (xs ++ [x]))) else .bad
        | _, _ => .bad
      | _ => .bad
    | _ => .bad
  | .setd i k e, r, S => (ev P cal e r S).st r fun v S1 => match r[i]?, v with
    | some (some (.loc n)), .d x => (ev P cal k r S1).st r fun w S2 => match w, S2[n]? with
      | .d q, some (.dct kvs) => match keyD q with
        | some q => if kvs.length < big then .nx r (S2.set n (.dct (kput q x kvs))) else .bad
        | none => .bad
      | _, _ => .bad
    | _, _ => .bad
  | .setsl j o e, r, S => (ev P cal e r S).st r fun v S1 => (ev P cal o r S1).st r fun w S2 => match v, w, P.sls[j]? with
    | .d x, .loc n, some q => match S2[n]? with
      | some (.ins c fs) => if c = q.1 then .nx r (S2.set n (.ins c (putF q.2 x fs))) else .bad
      | _ => .bad
    | _, _, _ => .bad
  | .frzv i b, r, S => match r[i]? with
    | some (some (.loc n)) => match S[n]? with
      | some (.lst xs) => exec b (r.set i (some (.d (.lst xs)))) (S.set n .dead)
      | _ => .bad
    | _ => .bad
  | .expr e, r, S => (ev P cal e r S).st r fun _ S1 => .nx r S1
  | .ret e, r, S => (ev P cal e r S).st r fun v S1 => .ret v S1
  | .retN, _, S => .ret (.d .non) S
  | .ite c a b, r, S => (ev P cal c r S).st r fun v S1 => match v with
    | .d (.bl true) => exec a r S1
    | .d (.bl false) => exec b r S1
    | _ => .bad
  | .whl c b, r, S => whlL (fun r S => ev P cal c r S) (fun r S => exec b r S) P.fuel r S
  | .loop t it b, r, S => (evi P cal it r S).st r fun xs S1 => forL t (fun r S => exec b r S) xs r S1
  | .brk, r, S => .brk r S
  | .cnt, r, S => .cnt r S
  | .rse c es, r, S => (evs P cal es r S).st r fun vs S1 => match dsOf vs with
    | some fs => if fs.all strD then .exc c fs r S1 else .bad
    | none => .bad
  | .tri b hs, r, S => match exec b r S with
    | .exc c fs r1 S1 => exh P cal hs c fs r1 S1
    | x => x
/-- a def's body, its arguments, back to the heap ahead where nothing new is handed back -/
def fin (n : Nat) : RS → R Vl
  | .ret (.d x) S => .ok (.d x) (S.take n)
  | .ret v S => .ok v S
  | .nx _ S => .ok (.d .non) (S.take n)
  | .exc c fs _ S => .exc c fs (S.take n)
  | _ => .bad
def runF (f : Fn) (vs : List Vl) (S : Hs) : R Vl :=
  if vs.length = f.np then fin S.length (exec P cal f.body (vs.map some ++ List.replicate (f.ns - f.np) none) S) else .bad
end
/-- a call, at most so deep -/
def call (P : Prg) (fns : List Fn) : Nat → Cal
  | 0, _, _, _ => .bad
  | n + 1, f, vs, S => match fns[f]? with
    | some fn => match adapt fn.ad fn.np vs with
      | some ws => runF P (call P fns n) fn ws S
      | none => .bad
    | none => .bad
end Iv
end
section
set_option autoImplicit false
set_option maxRecDepth 100000
set_option maxHeartbeats 4000000
namespace Iv
open PySem L2
/-! ### statements -/
def OutS (nm : Nm) (cl : Nat → Addr) (X : Cx) (W : WX) (F G : Hp) (m : List Addr) (D : Ends) : RS → Prop
  | .nx r S => ∀ (G' : Hp) (m' : List Addr) (σ' : L2.St) (H' : Hp), Grow G m G' m' → Rl (kx cl X) F G' m' S H' → RlV (kx cl X) G' m' r σ' → D.nx σ' H'
  | .ret v S => ∀ (G' : Hp) (m' : List Addr) (H' : Hp) (u : V), Grow G m G' m' → Rl (kx cl X) F G' m' S H' → RepV (kx cl X) G' m' v u → D.rt u H'
  | .brk r S => ∀ (G' : Hp) (m' : List Addr) (σ' : L2.St) (H' : Hp), Grow G m G' m' → Rl (kx cl X) F G' m' S H' → RlV (kx cl X) G' m' r σ' → D.bk σ' H'
  | .cnt r S => ∀ (G' : Hp) (m' : List Addr) (σ' : L2.St) (H' : Hp), Grow G m G' m' → Rl (kx cl X) F G' m' S H' → RlV (kx cl X) G' m' r σ' → D.ct σ' H'
  | .exc c fs r S => ∀ (G' : Hp) (m' : List Addr) (σ' : L2.St) (H' : Hp) (cls : Value) (d : Option Addr), Grow G m G' m' → Rl (kx cl X) F G' m' S H' → RlV (kx cl X) G' m' r σ' → RepX nm.excs X.mg (kx cl X) G' c fs cls d → W cls d σ' H'
  | .bad => False
def tS (nm : Nm) (cl : Nat → Addr) (X : Cx) (W : WX) (f : Ev → Hs → RS) : TS := fun D σ H => ∃ (F G : Hp) (m : List Addr) (r : Ev) (S : Hs), Rl (kx cl X) F G m S H ∧ RlV (kx cl X) G m r σ ∧ OutS nm cl X W F G m D (f r S)
section
variable {nm : Nm} {cl : Nat → Addr} {P : Prg} {cal : Cal} {n : Nat} {X : Cx} {W : WX} {D : Ends} {F G : Hp} {m : List Addr}
theorem OutS.grow {G1 : Hp} {m1 : List Addr} {x : RS} (g : Grow G m G1 m1) (h : OutS nm cl X W F G m D x) : OutS nm cl X W F G1 m1 D x := by
  cases x with
  | nx r S => exact fun G' m' σ' H' g' => h G' m' σ' H' (g.trans g')
  | ret v S => exact fun G' m' H' u g' => h G' m' H' u (g.trans g')
  | brk r S => exact fun G' m' σ' H' g' => h G' m' σ' H' (g.trans g')
  | cnt r S => exact fun G' m' σ' H' g' => h G' m' σ' H' (g.trans g')
  | exc c fs r S => exact fun G' m' σ' H' cls d g' => h G' m' σ' H' cls d (g.trans g')
  | bad => exact h
theorem tX.st {α β : Type} {RR : Hp → List Addr → α → β → Prop} {f : Ev → Hs → R α} {k : α → Hs → RS} {σ : L2.St} {H : Hp} {r : Ev} {S : Hs} {Q1 : β → Hp → Prop}
    (hl : Rl (kx cl X) F G m S H) (hv : RlV (kx cl X) G m r σ) (h : OutS nm cl X W F G m D (R.st (f r S) r k))
    (q : ∀ u H1 G1 m1 v S1, Grow G m G1 m1 → Rl (kx cl X) F G1 m1 S1 H1 → RlV (kx cl X) G1 m1 r σ → RR G1 m1 v u → OutS nm cl X W F G1 m1 D (k v S1) → Q1 u H1) : tX nm.excs X.mg (kx cl X) W RR f σ H Q1 := by
  refine ⟨F, G, m, r, S, hl, hv, ?_⟩
  cases e : f r S with
  | ok v S1 =>
    rw [e] at h
    exact fun G' m' H' u g l1 r1 => q u H' G' m' v S1 g l1 (hv.mono g) r1 (OutS.grow g h)
  | exc c fs S1 =>
    rw [e] at h
    exact fun G' m' H' cls d g l1 r1 => h G' m' σ H' cls d g l1 (hv.mono g) r1
  | bad => rw [e] at h; exact h.elim
theorem s_skip : PSs X [] (tS nm cl X W (exec P cal .skip)) := PSs.imp pss_nil fun D σ H ⟨F, G, m, r, S, rl, rv, out⟩ => out G m σ H .refl rl rv
theorem s_seq {a b : St} {st : Stmt} {rest : List Stmt} (ha : PS X st (tS nm cl X W (exec P cal a))) (hb : PSs X rest (tS nm cl X W (exec P cal b))) : PSs X (st :: rest) (tS nm cl X W (exec P cal (.seq a b))) := by
  refine PSs.imp (pss_cons ha hb) fun D σ H ⟨F, G, m, r, S, rl, rv, out⟩ => ⟨F, G, m, r, S, rl, rv, ?_⟩
  simp only [exec] at out
  cases e : exec P cal a r S with
  | nx r1 S1 =>
    rw [e] at out
    exact fun G' m' σ' H' g l1 rv1 => ⟨F, G', m', r1, S1, l1, rv1, OutS.grow g out⟩
  | ret v S1 => rw [e] at out; exact out
  | brk r1 S1 => rw [e] at out; exact out
  | cnt r1 S1 => rw [e] at out; exact out
  | exc c fs r1 S1 => rw [e] at out; exact out
  | bad => rw [e] at out; exact out.elim
variable {e : Expr} {x y z : Ex} {pos : Pos}
theorem s_asg {i : Nat} {s : Str} {p : Pos} (C : Ck nm cl P cal n X W) (hi : X.N[i]? = some s) (h1 : L2.Loc X.env.scope s) (h2 : X.fn s = true ∨ X.env.scope.names.lookup s = some .local) (hs : swapsWith e (some (.Name s p)) pos.line X.env = pure false)
    (ha : PE X e (TX nm cl X W (ev P cal x))) : PS X (.Assign [.Name s p] e pos) (tS nm cl X W (exec P cal (.asg i x))) := by
  refine PS.imp (ps_set C.nodup hi h1 ha hs h2) fun D σ H ⟨F, G, m, r, S, rl, rv, out⟩ => ?_
  simp only [exec] at out
  refine tX.st rl rv out fun u H1 G1 m1 v S1 g l1 rv1 r1 out => ?_
  exact out G1 m1 _ H1 .refl l1 (rv1.set i r1)
theorem s_asgT {t : Tg} {tg : Expr} (hg : PG X tg (tgR (kx cl X) t)) (hs : swapsWithSole [tg] e pos.line X.env = pure false) (hw : swappedStores [tg] e X.env = pure none) (he : (assignEach [tg] X.env).map (fun x => x.2) = [assign tg X.env])
    (ha : PE X e (TX nm cl X W (ev P cal x))) : PS X (.Assign [tg] e pos) (tS nm cl X W (exec P cal (.asgT t x))) := by
  refine PS.imp (ps_asg ha hg hs hw he) fun D σ H ⟨F, G, m, r, S, rl, rv, out⟩ => ?_
  simp only [exec] at out
  refine tX.st rl rv out fun u H1 G1 m1 v S1 g l1 rv1 r1 out => ?_
  cases v with
  | d d =>
    dsimp only at out
    cases ha : asgD t d r with
    | none => rw [ha] at out; exact out.elim
    | some r' =>
      rw [ha] at out
      exact ⟨G1, m1, r, r', d, l1.ext, rv1, r1, ha, fun σ' rv' _ => out G1 m1 σ' H1 .refl l1 rv'⟩
  | loc _ => exact out.elim
  | xc _ _ => exact out.elim
theorem s_par2 {i j : Nat} {s t : Str} {px py pt : Pos} {kt k2 : Nat} {pt2 : Pos} {l r : Expr} {sc : Scope} {N : List Str} (C : Ck nm cl P cal n X W) (hi : X.N[i]? = some s) (hj : X.N[j]? = some t) (hij : i ≠ j) (h1 : X.env.scope.names.lookup s = some .local) (h2 : X.env.scope.names.lookup t = some .local)
    (hw : swappedStores [.Tuple [.Name s px, .Name t py] kt pt] (.Tuple [l, r] k2 pt2) X.env = pure (some [s, t])) (q1 : isE nm N sc x l = true) (q2 : isE nm N sc y r = true)
    (ha : PE X l (TX nm cl X W (ev P cal x))) (hb : PE X r (TX nm cl X W (ev P cal y))) : PS X (.Assign [.Tuple [.Name s px, .Name t py] kt pt] (.Tuple [l, r] k2 pt2) pos) (tS nm cl X W (exec P cal (.par2 i j x y))) := by
  refine PS.imp (ps_par C.calm C.nodup hi hj hij h1 h2 (pa_cons ha (pa_cons hb pa_nil (star_e q2)) (star_e q1)) hw rfl) fun D σ H ⟨F, G, m, r, S, rl, rv, out⟩ => ?_
  simp only [exec] at out
  refine tX.st rl rv out fun u H1 G1 m1 v S1 g l1 rv1 r1 out => ?_
  refine tX.st l1 rv1 out fun u2 H2 G2 m2 v2 S2 g2 l2 rv2 r2 out => ?_
  exact ⟨_, _, rfl, out G2 m2 _ H2 .refl l2 ((rv2.set i (r1.mono g2)).set j r2)⟩
theorem s_par3 {i j k : Nat} {s t o : Str} {px py pz pt : Pos} {kt k2 : Nat} {pt2 : Pos} {l r q : Expr} {sc : Scope} {N : List Str} (C : Ck nm cl P cal n X W) (hi : X.N[i]? = some s) (hj : X.N[j]? = some t) (hk : X.N[k]? = some o) (hij : i ≠ j) (hik : i ≠ k) (hjk : j ≠ k)
    (h1 : X.env.scope.names.lookup s = some .local) (h2 : X.env.scope.names.lookup t = some .local) (h3 : X.env.scope.names.lookup o = some .local)
    (hw : swappedStores [.Tuple [.Name s px, .Name t py, .Name o pz] kt pt] (.Tuple [l, r, q] k2 pt2) X.env = pure (some [s, t, o])) (q1 : isE nm N sc x l = true) (q2 : isE nm N sc y r = true) (q3 : isE nm N sc z q = true)
    (ha : PE X l (TX nm cl X W (ev P cal x))) (hb : PE X r (TX nm cl X W (ev P cal y))) (hc : PE X q (TX nm cl X W (ev P cal z))) : PS X (.Assign [.Tuple [.Name s px, .Name t py, .Name o pz] kt pt] (.Tuple [l, r, q] k2 pt2) pos) (tS nm cl X W (exec P cal (.par3 i j k x y z))) := by
  refine PS.imp (ps_par3 C.calm C.nodup hi hj hk hij hik hjk h1 h2 h3 (pa_cons ha (pa_cons hb (pa_cons hc pa_nil (star_e q3)) (star_e q2)) (star_e q1)) hw rfl) fun D σ H ⟨F, G, m, r, S, rl, rv, out⟩ => ?_
  simp only [exec] at out
  refine tX.st rl rv out fun u H1 G1 m1 v S1 g l1 rv1 r1 out => ?_
  refine tX.st l1 rv1 out fun u2 H2 G2 m2 v2 S2 g2 l2 rv2 r2 out => ?_
  refine tX.st l2 rv2 out fun u3 H3 G3 m3 v3 S3 g3 l3 rv3 r3 out => ?_
  exact ⟨_, _, _, rfl, out G3 m3 _ H3 .refl l3 (((rv3.set i (r1.mono (g2.trans g3))).set j (r2.mono g3)).set k r3)⟩
theorem s_par3c {i j k : Nat} {s t o : Str} {px py pz pt : Pos} {kt k2 : Nat} {pt2 : Pos} {l r q : Expr} {sc : Scope} {N : List Str} (C : Ck nm cl P cal n X W) (hi : X.N[i]? = some s) (hj : X.N[j]? = some t) (hk : X.N[k]? = some o) (hf : ∀ x, X.fn x = true)
    (h1 : stB true X.env.scope s = true) (h2 : stB true X.env.scope t = true) (h3 : stB true X.env.scope o = true) (hs : swapsWithSole [.Tuple [.Name s px, .Name t py, .Name o pz] kt pt] (.Tuple [l, r, q] k2 pt2) pos.line X.env = pure false)
    (hw : swappedStores [.Tuple [.Name s px, .Name t py, .Name o pz] kt pt] (.Tuple [l, r, q] k2 pt2) X.env = pure none) (q1 : isE nm N sc x l = true) (q2 : isE nm N sc y r = true) (q3 : isE nm N sc z q = true)
    (ha : PE X l (TX nm cl X W (ev P cal x))) (hb : PE X r (TX nm cl X W (ev P cal y))) (hc : PE X q (TX nm cl X W (ev P cal z))) : PS X (.Assign [.Tuple [.Name s px, .Name t py, .Name o pz] kt pt] (.Tuple [l, r, q] k2 pt2) pos) (tS nm cl X W (exec P cal (.par3c i j k x y z))) := by
  refine PS.imp (ps_asg (pe_tup (pa_cons ha (pa_cons hb (pa_cons hc pa_nil (star_e q3)) (star_e q2)) (star_e q1))) (pg_tup C.calm (n := 3) (pgs_cons (pg_name C.nodup hi (stB_d h1).1 (.inl (hf _))) (pgs_cons (pg_name C.nodup hj (stB_d h2).1 (.inl (hf _))) (pgs_cons (pg_name C.nodup hk (stB_d h3).1 (.inl (hf _))) pgs_nil rfl) rfl) rfl) rfl rfl) hs hw rfl) fun D σ H ⟨F, G, m, r, S, rl, rv, out⟩ => ?_
  simp only [exec] at out
  refine tX.st rl rv out fun u H1 G1 m1 v S1 g l1 rv1 r1 out => ?_
  refine tX.st l1 rv1 out fun u2 H2 G2 m2 v2 S2 g2 l2 rv2 r2 out => ?_
  refine tX.st l2 rv2 out fun u3 H3 G3 m3 v3 S3 g3 l3 rv3 r3 out => ?_
  refine ⟨by show 3 ≤ sizeLine; decide, fun p hp => ⟨p, _, rfl, .of upd_same, rfl, ?_⟩⟩
  have ex : ∀ o : HO, Ext H3 (upd H3 p o) := fun o b w hb => by rw [upd_ne (ne_of_none hb hp)]; exact hb
  have l4 := l3.more (G' := G3) (H' := upd H3 p (.tup [u, u2, u3])) (fun b w hb => ex _ b w (l3.ext b w hb)) (fun _ _ h => h) (ex _) fun _ _ h _ => h
  exact ⟨_, _, rfl, _, _, rfl, _, _, rfl, rfl, out G3 m3 _ _ .refl l4 (((rv3.set i (r1.mono (g2.trans g3))).set j (r2.mono g3)).set k r3)⟩
theorem s_expr (hs : swapsWith e none pos.line X.env = pure false) (ha : PE X e (TX nm cl X W (ev P cal x))) : PS X (.Expr e pos) (tS nm cl X W (exec P cal (.expr x))) := by
  refine PS.imp (ps_expr ha hs) fun D σ H ⟨F, G, m, r, S, rl, rv, out⟩ => ?_
  simp only [exec] at out
  exact tX.st rl rv out fun u H1 G1 m1 v S1 g l1 rv1 r1 out => out G1 m1 σ H1 .refl l1 rv1
theorem s_ret (ha : PE X e (TX nm cl X W (ev P cal x))) : PS X (.Return (some e) pos) (tS nm cl X W (exec P cal (.ret x))) := by
  refine PS.imp (ps_ret ha) fun D σ H ⟨F, G, m, r, S, rl, rv, out⟩ => ?_
  simp only [exec] at out
  exact tX.st rl rv out fun u H1 G1 m1 v S1 g l1 rv1 r1 out => out G1 m1 H1 u .refl l1 r1
theorem s_retN : PS X (.Return none pos) (tS nm cl X W (exec P cal .retN)) := PS.imp ps_retN fun D σ H ⟨F, G, m, r, S, rl, rv, out⟩ => out G m H .non .refl rl .non
theorem s_brk : PS X (.Break pos) (tS nm cl X W (exec P cal .brk)) := PS.imp ps_break fun D σ H ⟨F, G, m, r, S, rl, rv, out⟩ => out G m σ H .refl rl rv
theorem s_cnt : PS X (.Continue pos) (tS nm cl X W (exec P cal .cnt)) := PS.imp ps_continue fun D σ H ⟨F, G, m, r, S, rl, rv, out⟩ => out G m σ H .refl rl rv
theorem s_pass : PS X (.Pass pos) (tS nm cl X W (exec P cal .skip)) := PS.imp ps_pass fun D σ H ⟨F, G, m, r, S, rl, rv, out⟩ => out G m σ H .refl rl rv
theorem s_ite {a b : St} {sa sb : List Stmt} (hc : PT X e (tB (TX nm cl X W (ev P cal x)))) (ha : PSs X sa (tS nm cl X W (exec P cal a))) (hb : PSs X sb (tS nm cl X W (exec P cal b))) : PS X (.If e sa sb pos) (tS nm cl X W (exec P cal (.ite x a b))) := by
  refine PS.imp (ps_if hc ha hb) fun D σ H ⟨F, G, m, r, S, rl, rv, out⟩ => ?_
  simp only [exec] at out
  refine tX.st rl rv out fun u H1 G1 m1 v S1 g l1 rv1 r1 out => ?_
  split at out
  · cases r1; exact ⟨true, rfl, iteT ⟨F, G1, m1, r, S1, l1, rv1, out⟩⟩
  · cases r1; exact ⟨false, rfl, iteF ⟨F, G1, m1, r, S1, l1, rv1, out⟩⟩
  · exact out.elim
theorem s_whl {b : St} {sb : List Stmt} (C : Ck nm cl P cal n X W) (hc : PT X e (tB (TX nm cl X W (ev P cal x)))) (hb : PSs X sb (tS nm cl X W (exec P cal b))) : PS X (.While e sb [] pos) (tS nm cl X W (exec P cal (.whl x b))) := by
  refine PS.imp (ps_while C.po hc hb) fun D σ H ⟨F, G, m, r, S, rl, rv, out⟩ => ?_
  simp only [exec] at out
  let WV : Nat → L2.St → Hp → Prop := fun k σ H => ∃ (G2 : Hp) (m2 : List Addr) (r2 : Ev) (S2 : Hs), Rl (kx cl X) F G2 m2 S2 H ∧ RlV (kx cl X) G2 m2 r2 σ ∧ OutS nm cl X W F G2 m2 D (whlL (fun r S => ev P cal x r S) (fun r S => exec P cal b r S) k r2 S2)
  refine ⟨WV, ⟨P.fuel, G, m, r, S, rl, rv, out⟩, ?_⟩
  rintro k σ2 H2 ⟨G2, m2, r2, S2, l2, rv2, out2⟩
  cases k with
  | zero => exact out2.elim
  | succ k =>
    simp only [whlL] at out2
    refine ⟨F, G2, m2, r2, S2, l2, rv2, ?_⟩
    cases hx : ev P cal x r2 S2 with
    | bad => rw [hx] at out2; exact out2.elim
    | exc c fs S3 =>
      rw [hx] at out2
      exact fun G' m' H' cls d g l1 r1 => out2 G' m' σ2 H' cls d g l1 (rv2.mono g) r1
    | ok v S3 =>
      rw [hx] at out2
      intro G3 m3 H3 u g3 l3 r3
      split at out2
      · rename_i S4 heq
        cases heq
        cases r3
        refine ⟨true, rfl, iteT ⟨WV k, fun σ' H' w => ⟨k, Nat.lt_succ_self _, w⟩, F, G3, m3, r2, S3, l3, rv2.mono g3, ?_⟩⟩
        cases hb : exec P cal b r2 S3 with
        | nx r4 S4 =>
          rw [hb] at out2
          exact fun G' m' σ' H' g l1 rv1 => ⟨G', m', r4, S4, l1, rv1, OutS.grow (g3.trans g) out2⟩
        | cnt r4 S4 =>
          rw [hb] at out2
          exact fun G' m' σ' H' g l1 rv1 => ⟨G', m', r4, S4, l1, rv1, OutS.grow (g3.trans g) out2⟩
        | brk r4 S4 =>
          rw [hb] at out2
          exact fun G' m' σ' H' g l1 rv1 => out2 G' m' σ' H' (g3.trans g) l1 rv1
        | ret v S4 =>
          rw [hb] at out2
          exact fun G' m' H' u g l1 r1 => out2 G' m' H' u (g3.trans g) l1 r1
        | exc c fs r4 S4 =>
          rw [hb] at out2
          exact fun G' m' σ' H' cls d g l1 rv1 r1 => out2 G' m' σ' H' cls d (g3.trans g) l1 rv1 r1
        | bad => rw [hb] at out2; exact out2.elim
      · rename_i S4 heq
        cases heq
        cases r3
        exact ⟨false, rfl, iteF (out2 G3 m3 σ2 H3 g3 l3 (rv2.mono g3))⟩
      · exact out2.elim
      · rename_i heq; cases heq
      · rename_i heq; cases heq
theorem s_loop {b : St} {t : Tg} {it : Ex} {sb : List Stmt} {tg iter : Expr} (C : Ck nm cl P cal n X W) (hi : PI X tg iter (TI' nm cl X W (evi P cal it))) (hf : ∀ v, foldedSetIterable iter X.env v = pure v) (hg : PG X tg (tgR (kx cl X) t)) (hb : PSs X sb (tS nm cl X W (exec P cal b))) :
    PS X (.For tg iter sb [] pos) (tS nm cl X W (exec P cal (.loop t it b))) := by
  refine PS.imp (ps_for C.po C.calm hi hg hb hf) fun D σ H ⟨F, G, m, r, S, rl, rv, out⟩ => ?_
  simp only [exec] at out
  refine tX.st rl rv out fun J H1 G1 m1 xs S1 g1 l1 rv1 r1 out => ?_
  let IV : Nat → L2.St → Hp → Prop := fun i σ H => i ≤ xs.length ∧ ∃ (G2 : Hp) (m2 : List Addr) (r2 : Ev) (S2 : Hs), Grow G1 m1 G2 m2 ∧ Rl (kx cl X) F G2 m2 S2 H ∧ RlV (kx cl X) G2 m2 r2 σ ∧ OutS nm cl X W F G2 m2 D (forL t (fun r S => exec P cal b r S) (xs.drop i) r2 S2)
  refine ⟨fun i k σ H => k = xs.length - i ∧ IV i σ H, ⟨xs.length, by simp, Nat.zero_le _, G1, m1, r, S1, .refl, l1, rv1, by simpa using out⟩, ?_⟩
  rintro i k σ2 H2 ⟨rfl, hi, G2, m2, r2, S2, g2, l2, rv2, out2⟩
  by_cases hlt : i < xs.length
  · right
    refine ⟨r1.go i H2 (g2.1.trans l2.ext) hlt, IV (i + 1), fun σ' H' iv => ⟨xs.length - (i + 1), by omega, rfl, iv⟩, fun x H3 hy => ?_⟩
    have hd : xs[i]? = some xs[i] := by simp [hlt]
    obtain ⟨G3, al, rep⟩ := r1.yld i G2 H2 x H3 _ g2.1 l2.ext hd hy
    have l3 := l2.al al
    have gr3 : Grow G2 m2 G3 m2 := al.grow l2.ext
    have hdrop : xs.drop i = xs[i] :: xs.drop (i + 1) := List.drop_eq_getElem_cons hlt
    rw [hdrop] at out2
    simp only [forL] at out2
    cases ha : asgD t xs[i] r2 with
    | none => rw [ha] at out2; exact out2.elim
    | some r3 =>
      rw [ha] at out2
      dsimp only at out2
      refine ⟨G3, m2, r2, r3, _, l3.ext, rv2.mono gr3, rep, ha, fun σ3 rv3 _ => ⟨F, G3, m2, r3, S2, l3, rv3, ?_⟩⟩
      cases hb : exec P cal b r3 S2 with
      | nx r4 S4 =>
        rw [hb] at out2
        exact fun G' m' σ' H' g l1 rv1 => ⟨by omega, G', m', r4, S4, (g2.trans gr3).trans g, l1, rv1, OutS.grow (gr3.trans g) out2⟩
      | cnt r4 S4 =>
        rw [hb] at out2
        exact fun G' m' σ' H' g l1 rv1 => ⟨by omega, G', m', r4, S4, (g2.trans gr3).trans g, l1, rv1, OutS.grow (gr3.trans g) out2⟩
      | brk r4 S4 =>
        rw [hb] at out2
        exact fun G' m' σ' H' g l1 rv1 => out2 G' m' σ' H' (gr3.trans g) l1 rv1
      | ret v S4 =>
        rw [hb] at out2
        exact fun G' m' H' u g l1 r1 => out2 G' m' H' u (gr3.trans g) l1 r1
      | exc c fs r4 S4 =>
        rw [hb] at out2
        exact fun G' m' σ' H' cls d g l1 rv1 r1 => out2 G' m' σ' H' cls d (gr3.trans g) l1 rv1 r1
      | bad => rw [hb] at out2; exact out2.elim
  · left
    have e : i = xs.length := by omega
    subst e
    refine ⟨r1.stop _ H2 (g2.1.trans l2.ext) (Nat.le_refl _) (Nat.le_refl _), ?_⟩
    rw [List.drop_length] at out2
    exact out2 G2 m2 σ2 H2 .refl l2 rv2
end
end Iv
end
section
set_option autoImplicit false
set_option maxRecDepth 100000
set_option maxHeartbeats 4000000
namespace Iv
open PySem L2
def rA (K : Fg) (o : BOp) : R2 := fun x y H Q => ∃ (G : Hp) (a b d : D), Ext G H ∧ Rep K G a x ∧ Rep K G b y ∧ augD o a b = some d ∧ ∀ v, Rep K G d v → Q v H
section
variable {nm : Nm} {cl : Nat → Addr} {P : Prg} {cal : Cal} {n : Nat} {X : Cx} {W : WX} {e : Expr} {x y z : Ex} {pos : Pos}
theorem ip_rA (o : BOp) : PIp X (bop o) (rA (kx cl X) o) := by
  intro pins s σ H x y v u Q I rx ry h
  obtain ⟨G, a, b, d, e, ha, hb, hd, g⟩ := h
  cases o with
  | add =>
    cases ha <;> cases hb <;> simp only [augD, reduceCtorEq, Option.some.injEq] at hd
    · subst hd; exact iop_add pins s σ H _ _ v u Q I rx ry ⟨_, _, rfl, rfl, g _ (.int _)⟩
    · rename_i o1 _ o2
      split at hd
      · rename_i hz
        simp only [Option.some.injEq] at hd; subst hd
        exact iop_add_str pins s σ H _ _ v u Q I rx ry ⟨_, _, rfl, rfl, by rw [S'_length, S'_length]; exact small_line hz, by rw [S'_append]; exact g _ (.str _ fun c hc => (List.mem_append.mp hc).elim (o1 c) (o2 c))⟩
      · cases hd
  | sub =>
    cases ha <;> cases hb <;> simp only [augD, reduceCtorEq, Option.some.injEq] at hd
    subst hd; exact iop_sub pins s σ H _ _ v u Q I rx ry ⟨_, _, rfl, rfl, g _ (.int _)⟩
  | mul =>
    cases ha <;> cases hb <;> simp only [augD, reduceCtorEq] at hd
    split at hd
    · rename_i i j hz
      simp only [Option.some.injEq] at hd; subst hd
      exact iop_mul pins s σ H _ _ v u Q I rx ry ⟨_, _, rfl, rfl, hz.elim (fun z => .inl ⟨by omega, by omega⟩) (fun z => .inr ⟨by omega, by omega⟩), g _ (.int _)⟩
    · cases hd
  | fdiv => cases ha <;> cases hb <;> simp only [augD, reduceCtorEq] at hd
  | mod => cases ha <;> cases hb <;> simp only [augD, reduceCtorEq] at hd
  | pow => cases ha <;> cases hb <;> simp only [augD, reduceCtorEq] at hd
theorem s_aug {i : Nat} {o : BOp} {s : Str} {p : Pos} (C : Ck nm cl P cal n X W) (hi : X.N[i]? = some s) (h1 : L2.Loc X.env.scope s) (h2 : X.fn s = true ∨ X.env.scope.names.lookup s = some .local)
    (ha : PE X e (TX nm cl X W (ev P cal x))) : PS X (.AugAssign (.Name s p) (bop o) e pos) (tS nm cl X W (exec P cal (.aug i o x))) := by
  refine PS.imp (ps_aug C.nodup hi h1 ha (ip_rA (cl := cl) o) h2) fun D σ H ⟨F, G, m, r, S, rl, rv, out⟩ => ?_
  simp only [exec] at out
  split at out
  · rename_i a hr
    obtain ⟨u, q1, q2⟩ := rv.2 i _ hr (fun _ _ z => by cases z)
    refine ⟨u, q1, tX.st rl rv out fun u1 H1 G1 m1 v1 S1 g l1 rv1 r1 out => ?_⟩
    cases v1 with
    | d b =>
      dsimp only at out
      cases hd : augD o a b with
      | none => rw [hd] at out; exact out.elim
      | some d =>
        rw [hd] at out
        exact ⟨G1, a, b, d, l1.ext, Rep.mono g.1 q2, r1, hd, fun v rv => out G1 m1 _ H1 .refl l1 (rv1.set i (v := .d d) rv)⟩
    | loc _ => exact out.elim
    | xc _ _ => exact out.elim
  · exact out.elim
theorem s_app {i : Nat} {s : Str} {p ap p2 : Pos} {sc : Scope} {N : List Str} (hN : X.N[i]? = some s) (hv : visB X.env.scope s = true) (ho : okN s = true) (hl : (ap.endLine == p2.line) = true) (hs : isE nm N sc x e = true)
    (ha : PE X e (TX nm cl X W (ev P cal x))) : PS X (.Expr (.Call (.Attribute (.Name s p) ("append" : Str) ap) [e] [] p2) pos) (tS nm cl X W (exec P cal (.app i x))) := by
  have s3 : (((backTo p2 (starEach [e] X.env)).all fun x => !x.1) && ((backToKw p2 (keywordEach [] X.env)).all fun x => x.1.isSome) && decide ([e].length + ([] : List Keyword).length + (if ([] : List Keyword).isEmpty then 0 else 1) < 30)) = true := by
    rw [star_e hs]; rfl
  have key := pe_bm (X := X) (cpos := p2) (apos := ap) PySem.F.plainAttrs_list PySem.F.slot_list_append PySem.F.type_list_append mt_append (pe_var (pos := p) hN (visB_d hv) (okN_d ho).1 (okN_d ho).2.1) (pa_cons ha pa_nil (star_e hs)) rfl s3 hl (star_e hs) rfl
  refine PS.imp (ps_expr key rfl) fun D σ H ⟨F, G, m, r, S, rl, rv, out⟩ => ?_
  simp only [exec] at out
  split at out
  · rename_i k hr
    obtain ⟨u, q1, a, q2, rfl⟩ := rv.2 i _ hr (fun _ _ z => by cases z)
    split at out
    · rename_i ys hk
      obtain ⟨_, ws, q3, _⟩ := (rl.ob k a _ q2 hk).lst
      refine ⟨_, q1, .inl ⟨rfl, _, .of q3⟩, tX.st rl rv out fun u1 H1 G1 m1 v1 S1 g l1 rv1 r1 out => ?_⟩
      split at out
      · rename_i b zs hk1
        split at out
        · rename_i hz
          obtain ⟨q4, ws1, q5, q6⟩ := (l1.ob k a _ (g.2 _ _ q2) hk1).lst
          refine ⟨a, ws1, u1, rfl, rfl, q5, ?_, out G1 m1 σ _ .refl (l1.change (g.2 _ _ q2) hk1 (q6.append (.cons r1 .nil))) rv1⟩
          rw [← q6.length, sizeLine_eq]
          have : zs.length < 1000000 := hz
          omega
        · exact out.elim
      · exact out.elim
    · exact out.elim
  · exact out.elim
theorem s_setix {i : Nat} {s : Str} {p p2 : Pos} {k : Expr} (hN : X.N[i]? = some s) (hv : visB X.env.scope s = true) (ho : okN s = true)
    (hs : swapsWithSole [.Subscript (.Name s p) k p2] e pos.line X.env = pure false) (hw : swappedStores [.Subscript (.Name s p) k p2] e X.env = pure none)
    (hA : ∀ v, assign (.Subscript (.Name s p) k p2) X.env v = (do
      let ov ← holding [v] (eval (.Name s p) X.env)
      let iv ← holding [v, ov] (eval k X.env)
      standAt p2
      holding [v, ov, iv] (setItem ov iv v)
      release [v, ov, iv] []))
    (ha : PE X e (TX nm cl X W (ev P cal x))) (hb : PE X k (TX nm cl X W (ev P cal y))) : PS X (.Assign [.Subscript (.Name s p) k p2] e pos) (tS nm cl X W (exec P cal (.setix i y x))) := by
  refine PS.imp (ps_asg ha (pg_sub (pe_var (pos := p) hN (visB_d hv) (okN_d ho).1 (okN_d ho).2.1) hb set_list hA) hs hw rfl) fun D σ H ⟨F, G, m, r, S, rl, rv, out⟩ => ?_
  simp only [exec] at out
  refine tX.st rl rv out fun u1 H1 G1 m1 v1 S1 g1 l1 rv1 r1 out => ?_
  split at out
  · rename_i k b hr
    obtain ⟨u, q1, a, q2, rfl⟩ := rv1.2 i _ hr (fun _ _ z => by cases z)
    refine ⟨_, q1, tX.st l1 rv1 out fun u2 H2 G2 m2 v2 S2 g2 l2 rv2 r2 out => ?_⟩
    split at out
    · rename_i j zs hk1
      cases r2
      obtain ⟨q4, ws1, q5, q6⟩ := (l2.ob k a _ (g2.2 _ _ q2) hk1).lst
      cases hp : plc j zs.length with
      | none => rw [hp] at out; exact out.elim
      | some t =>
        rw [hp] at out
        exact ⟨a, ws1, j, t, rfl, rfl, q5, by rw [ixN_plc, ← q6.length]; exact hp, out G2 m2 σ _ .refl (l2.change (g2.2 _ _ q2) hk1 (q6.set (Rep.mono g2.1 r1) t)) rv2⟩
    · exact out.elim
  · exact out.elim
theorem repOs_len {K : Fg} {G : Hp} {fs : List (Option D)} {vs : List (Option V)} (h : RepOs K G fs vs) : fs.length = vs.length := by
  induction h with
  | nil => rfl
  | none _ ih => simp [ih]
  | some _ _ ih => simp [ih]
theorem repOs_app {K : Fg} {G : Hp} {fs : List (Option D)} {vs : List (Option V)} (h : RepOs K G fs vs) (k : Nat) : RepOs K G (fs ++ List.replicate k none) (vs ++ List.replicate k none) := by
  induction h with
  | nil =>
    induction k with
    | zero => exact .nil
    | succ k ih => exact .none ih
  | none _ ih => exact .none ih
  | some r _ ih => exact .some r ih
theorem repOs_set {K : Fg} {G : Hp} {fs : List (Option D)} {vs : List (Option V)} (h : RepOs K G fs vs) {d : D} {v : V} (r : Rep K G d v) : ∀ k : Nat, RepOs K G (fs.set k (some d)) (vs.set k (some v)) := by
  induction h with
  | nil => intro k; exact .nil
  | none t ih =>
    intro k
    cases k with
    | zero => exact .some r t
    | succ k => exact .none (ih k)
  | some q t ih =>
    intro k
    cases k with
    | zero => exact .some r t
    | succ k => exact .some q (ih k)
theorem repOs_put {K : Fg} {G : Hp} {fs : List (Option D)} {vs : List (Option V)} (h : RepOs K G fs vs) {d : D} {v : V} (r : Rep K G d v) (k : Nat) : RepOs K G (putF k d fs) (SlX.putS k v vs) := by
  unfold putF SlX.putS
  rw [repOs_len h]
  exact repOs_set (repOs_app h _) r k
/-- self.f = e -/
theorem s_setsl {j : Nat} {s : Str} {o : Expr} {p2 : Pos} (C : Ck nm cl P cal n X W) (hj : nm.sls[j]? = some s) (hs : swapsWith e (some (.Attribute o s p2)) pos.line X.env = pure false) (ha : PE X o (TX nm cl X W (ev P cal y))) (hb : PE X e (TX nm cl X W (ev P cal x))) :
    PS X (.Assign [.Attribute o s p2] e pos) (tS nm cl X W (exec P cal (.setsl j y x))) := by
  refine PS.imp (SlX.ps_sl ha hb hs) fun D σ H ⟨F, G, m, r, S, rl, rv, out⟩ => ?_
  simp only [exec] at out
  refine tX.st rl rv out fun u1 H1 G1 m1 v1 S1 g1 l1 rv1 r1 out => ?_
  refine tX.st l1 rv1 out fun u2 H2 G2 m2 v2 S2 g2 l2 rv2 r2 out => ?_
  cases v1 with
  | loc _ => exact out.elim
  | xc _ _ => exact out.elim
  | d d =>
  cases v2 with
  | d _ => exact out.elim
  | xc _ _ => exact out.elim
  | loc k =>
  cases hq : P.sls[j]? with
  | none => rw [hq] at out; exact out.elim
  | some q =>
  rw [hq] at out
  dsimp only at out
  obtain ⟨a, ha2, rfl⟩ := r2
  cases hk : S2[k]? with
  | none => rw [hk] at out; exact out.elim
  | some ob =>
  rw [hk] at out
  cases ob with
  | ins c fs =>
    dsimp only at out
    split at out
    · rename_i hc
      subst hc
      obtain ⟨k1, p, k2⟩ := C.md.sl j q s hq hj
      obtain ⟨z1, dx, vs, z2, z3, z4, z5⟩ := (l2.ob k a _ ha2 hk).ins
      have hdx := l2.ext _ _ z3
      refine ⟨a, _, dx, p, vs, _, rfl, .inr ⟨z2, hdx⟩, k1, k2, ?_⟩
      have eH : SlX.slH H2 a (cl q.1) dx (SlX.putS q.2 u1 vs) = upd H2 a (SlX.SlO a (cl q.1) dx (SlX.putS q.2 u1 vs)) := by
        unfold SlX.slH
        funext b
        by_cases h1 : b = a
        · subst h1; rw [upd_same, upd_same]
        · rw [upd_ne h1, upd_ne h1]
          by_cases h2 : b = dx
          · subst h2; rw [upd_same]; exact hdx.symm
          · rw [upd_ne h2]
      rw [eH]
      exact out G2 m2 σ _ .refl (l2.turn ha2 z1 (ObV.ins (K := kx cl X) z3 z4 (repOs_put z5 (Rep.mono g2.1 r1) q.2))) rv2
    · exact out.elim
  | _ => exact out.elim
/-- d[k] = e -/
theorem s_setd {i : Nat} {s : Str} {p p2 : Pos} {k : Expr} (C : Ck nm cl P cal n X W) (hN : X.N[i]? = some s) (hv : visB X.env.scope s = true) (ho : okN s = true)
    (hs : swapsWithSole [.Subscript (.Name s p) k p2] e pos.line X.env = pure false) (hw : swappedStores [.Subscript (.Name s p) k p2] e X.env = pure none)
    (hA : ∀ v, assign (.Subscript (.Name s p) k p2) X.env v = (do
      let ov ← holding [v] (eval (.Name s p) X.env)
      let iv ← holding [v, ov] (eval k X.env)
      standAt p2
      holding [v, ov, iv] (setItem ov iv v)
      release [v, ov, iv] []))
    (ha : PE X e (TX nm cl X W (ev P cal x))) (hb : PE X k (TX nm cl X W (ev P cal y))) : PS X (.Assign [.Subscript (.Name s p) k p2] e pos) (tS nm cl X W (exec P cal (.setd i y x))) := by
  refine PS.imp (ps_asg ha (pg_sub (pe_var (pos := p) hN (visB_d hv) (okN_d ho).1 (okN_d ho).2.1) hb (set_dict (Nat.lt_of_le_of_lt (by omega) C.room.units)) hA) hs hw rfl) fun D σ H ⟨F, G, m, r, S, rl, rv, out⟩ => ?_
  simp only [exec] at out
  refine tX.st rl rv out fun u1 H1 G1 m1 v1 S1 g1 l1 rv1 r1 out => ?_
  split at out
  · rename_i k b hr
    obtain ⟨u, q1, a, q2, rfl⟩ := rv1.2 i _ hr (fun _ _ z => by cases z)
    refine ⟨_, q1, tX.st l1 rv1 out fun u2 H2 G2 m2 v2 S2 g2 l2 rv2 r2 out => ?_⟩
    split at out
    · rename_i d kvs hk1
      cases hq : keyD d with
      | none => rw [hq] at out; exact out.elim
      | some q =>
        rw [hq] at out
        dsimp only at out
        split at out
        · rename_i hz
          obtain ⟨rfl, ok⟩ := keyD_V r2 hq
          obtain ⟨q4, ks, q5, q6⟩ := (l2.ob k a _ (g2.2 _ _ q2) hk1).dct
          refine ⟨a, _, rfl, DPut.k q5 ?_, out G2 m2 σ _ .refl (l2.turn (g2.2 _ _ q2) q4 (.dct (kput_val ok (Rep.mono g2.1 r1) q6))) rv2⟩
          rw [← q6.len, sizeLine_eq]
          have : kvs.length < 1000000 := hz
          omega
        · exact out.elim
    · exact out.elim
  · exact out.elim
/-- a name's list becomes data -/
theorem s_frzv {i : Nat} {b : St} {rest : List Stmt} (hb : PSs X rest (tS nm cl X W (exec P cal b))) : PSs X rest (tS nm cl X W (exec P cal (.frzv i b))) := by
  refine PSs.imp hb fun D σ H ⟨F, G, m, r, S, rl, rv, out⟩ => ?_
  simp only [exec] at out
  split at out
  · rename_i k hr
    obtain ⟨u, q1, a, q2, rfl⟩ := rv.2 i _ hr (fun _ _ z => by cases z)
    split at out
    · rename_i xs hs
      obtain ⟨G', ex, l', rp⟩ := rl.freeze q2 hs
      have g : Grow G m G' m := ⟨ex, fun _ _ h => h⟩
      have rv' := rv.mono g
      refine ⟨F, G', m, _, _, l', ⟨by rw [List.length_set]; exact rv'.1, fun j v e nx => ?_⟩, OutS.grow g out⟩
      by_cases hj : i = j
      · subst hj
        rw [List.getElem?_set_self (List.getElem?_eq_some_iff.mp hr).1] at e
        cases e
        exact ⟨_, q1, rp⟩
      · rw [List.getElem?_set_ne hj] at e
        exact rv'.2 j v e nx
    · exact out.elim
  · exact out.elim
/-- name = [..], the name a local -/
theorem s_asgC {own : List Nat} {t : Tg} {it c : Ex} (hi : SI nm cl P cal n it) (hc : SC nm cl P cal n c) (hx : SE nm cl P cal n x) {i : Nat} {s : Str} {py spos : Pos} {elt tg iter : Expr} {ifs : List Expr} {scope : Scope} (C : Ck nm cl P cal n X W)
    (hN : X.N[i]? = some s) (hl : X.env.scope.names.lookup s = some .local)
    (hsw : swapsWith (.ListComp elt [⟨tg, iter, ifs, 0⟩] scope pos) (some (.Name s py)) spos.line X.env = pure true)
    (h1 : isI nm X.N X.env.scope it tg iter = true) (h2 : blkC X.N X.env.scope scope (ownN X.N own) = true) (h3 : isG X.N false (rl X.env.scope scope) t tg = true) (h4 : isC nm X.N (rl X.env.scope scope) c ifs = true) (h5 : isE nm X.N (rl X.env.scope scope) x elt = true) (h6 : tgIn own t = true) :
    PS X (.Assign [.Name s py] (.ListComp elt [⟨tg, iter, ifs, 0⟩] scope pos) spos) (tS nm cl X W (exec P cal (.asg i (.comp own t it c x)))) := by
  obtain ⟨q1, q2⟩ := hi X W tg iter C h1
  have key := ps_setLc (X := X) (pos := pos) (own := ownN X.N own) (g := tgR (kx cl X) t) (tt := tB (TX nm cl X noW (ev P cal c))) (te := TX nm cl X noW (ev P cal x)) C.calm C.nodup hN hl hsw q1 (blkOk_by h2)
    (fun s H Ca ce fp => g_tg (X := X.blk s H scope (compEnvC scope ce Ca X.env) fp) C.calm C.nodup (fn := false) (fun z => by cases z) t tg h3)
    (fun s H Ca ce fp => hc (X.blk s H scope (compEnvC scope ce Ca X.env) fp) noW ifs C.blk h4)
    (fun s H Ca ce fp => hx (X.blk s H scope (compEnvC scope ce Ca X.env) fp) noW elt C.blk h5) q2
  rw [ownN_map] at key
  refine PS.imp key fun D σ H ⟨F, G, m, r, S, rl, rv, out⟩ => ?_
  simp only [exec] at out
  refine comp_read rfl h6 ?_
  refine tX.st rl rv out fun u H1 G1 m1 v S1 g l1 rv1 r1 out => ?_
  exact out G1 m1 _ H1 .refl l1 (rv1.set i r1)
theorem s_asgN {own : List Nat} {t : Tg} {it c : Ex} (hi : SI nm cl P cal n it) (hc : SC nm cl P cal n c) (hx : SE nm cl P cal n x) {i : Nat} {s : Str} {py spos : Pos} {elt tg iter : Expr} {ifs : List Expr} {scope : Scope} (C : Ck nm cl P cal n X W)
    (hN : X.N[i]? = some s) (hl : X.env.scope.names.lookup s = some .local)
    (hsw : swapsWith (.ListComp elt [⟨tg, iter, ifs, 0⟩] scope pos) (some (.Name s py)) spos.line X.env = pure true)
    (h1 : isI nm X.N X.env.scope it tg iter = true) (h2 : blkC X.N X.env.scope scope (ownN X.N own) = true) (h3 : isG X.N false (rl X.env.scope scope) t tg = true) (h4 : isC nm X.N (rl X.env.scope scope) c ifs = true) (h5 : isE nm X.N (rl X.env.scope scope) x elt = true) (h6 : tgIn own t = true) :
    PS X (.Assign [.Name s py] (.ListComp elt [⟨tg, iter, ifs, 0⟩] scope pos) spos) (tS nm cl X W (exec P cal (.asg i (.newc own t it c x)))) := by
  obtain ⟨q1, q2⟩ := hi X W tg iter C h1
  have key := ps_setLc (X := X) (pos := pos) (own := ownN X.N own) (g := tgR (kx cl X) t) (tt := tB (TX nm cl X noW (ev P cal c))) (te := TX nm cl X noW (ev P cal x)) C.calm C.nodup hN hl hsw q1 (blkOk_by h2)
    (fun s H Ca ce fp => g_tg (X := X.blk s H scope (compEnvC scope ce Ca X.env) fp) C.calm C.nodup (fn := false) (fun z => by cases z) t tg h3)
    (fun s H Ca ce fp => hc (X.blk s H scope (compEnvC scope ce Ca X.env) fp) noW ifs C.blk h4)
    (fun s H Ca ce fp => hx (X.blk s H scope (compEnvC scope ce Ca X.env) fp) noW elt C.blk h5) q2
  rw [ownN_map] at key
  refine PS.imp key fun D σ H ⟨F, G, m, r, S, rl, rv, out⟩ => ?_
  simp only [exec] at out
  refine newc_read rfl h6 ?_
  refine tX.st rl rv out fun u H1 G1 m1 v S1 g l1 rv1 r1 out => ?_
  exact out G1 m1 _ H1 .refl l1 (rv1.set i r1)
end
end Iv
end
section
set_option autoImplicit false
set_option maxRecDepth 100000
set_option maxHeartbeats 4000000
namespace Iv
open PySem L2
/-! ### raise and try -/
theorem RepX.mono {xs : List Xc} {mg : Str → Option Value} {K : Fg} {G G' : Hp} (e : Ext G G') {c : Nat} {fs : List D} {cls : Value} {d : Option Addr} (h : RepX xs mg K G c fs cls d) : RepX xs mg K G' c fs cls d := by
  obtain ⟨x, C, h1, h2, h3, h4⟩ := h
  refine ⟨x, C, h1, h2, h3, ?_⟩
  cases hf : x.fld with
  | none => rw [hf] at h4; exact h4
  | some f =>
    rw [hf] at h4
    match fs, h4 with
    | [y], ⟨da, v, q1, q2, q3⟩ => exact ⟨da, v, q1, e _ _ q2, q3.mono e⟩
theorem RlV.unx {K : Fg} {G : Hp} {m : List Addr} {r : Ev} {σ : L2.St} (h : RlV K G m r σ) : RlV K G m (unx r) σ := by
  refine ⟨by simp [Iv.unx, h.1], fun i v e n => h.2 i v ?_ n⟩
  unfold Iv.unx at e
  rw [List.getElem?_map] at e
  cases q : r[i]? with
  | none => rw [q] at e; cases e
  | some o =>
    rw [q] at e
    cases o with
    | none => cases e
    | some w =>
      cases w with
      | d x => exact e
      | loc k => exact e
      | xc c fs => cases e
theorem unx_no {r : Ev} {i c : Nat} {fs : List D} : (unx r)[i]? ≠ some (some (.xc c fs)) := by
  unfold Iv.unx
  rw [List.getElem?_map]
  cases q : r[i]? with
  | none => intro z; cases z
  | some o =>
    cases o with
    | none => intro z; cases z
    | some w => cases w <;> (intro z; cases z)
section
variable {nm : Nm} {cl : Nat → Addr} {P : Prg} {cal : Cal} {n : Nat} {X : Cx} {W : WX} {D : Ends}
/-- the caught errors among the names: a, of the class cls, its dict d; k: the clause's class -/
def HX (nm : Nm) (cl : Nat → Addr) (X : Cx) (a : Addr) (cls : Value) (d : Option Addr) (k : Nat) (G : Hp) (r : Ev) (σ : L2.St) : Prop :=
  ∀ (i c : Nat) (fs : List Iv.D), r[i]? = some (some (.xc c fs)) → σ[i]? = some (some (.ref a)) ∧ nm.sub c k = true ∧ RepX nm.excs X.mg (kx cl X) G c fs cls d
/-- a reading in a suite -/
def tH {α β : Type} (nm : Nm) (cl : Nat → Addr) (X : Cx) (a : Addr) (cls : Value) (d : Option Addr) (k : Nat) (RR : Hp → List Addr → α → β → Prop) (f : Ev → Hs → R α) : L2.St → Hp → (β → Hp → Prop) → Prop := fun σ H Q =>
  ∃ (F G : Hp) (m : List Addr) (r : Ev) (S : Hs), Rl (kx cl X) F G m S H ∧ RlV (kx cl X) G m r σ ∧ HX nm cl X a cls d k G r σ ∧ Out nm.excs X.mg (kx cl X) noW F RR σ G m Q (f r S)
theorem HX.mono {a : Addr} {cls : Value} {d : Option Addr} {k : Nat} {G G' : Hp} {r : Ev} {σ : L2.St} (e : Ext G G') (h : HX nm cl X a cls d k G r σ) : HX nm cl X a cls d k G' r σ := fun i c fs q => let ⟨h1, h2, h3⟩ := h i c fs q; ⟨h1, h2, h3.mono e⟩
theorem tH.bind {α β γ δ : Type} {a : Addr} {cls : Value} {d : Option Addr} {k : Nat} {RR : Hp → List Addr → α → β → Prop} {RR2 : Hp → List Addr → γ → δ → Prop} {f : Ev → Hs → R α} {kk : α → Hs → R γ} {σ : L2.St} {F G H : Hp} {m : List Addr} {r : Ev} {S : Hs} {Q : δ → Hp → Prop} {Q1 : β → Hp → Prop}
    (hl : Rl (kx cl X) F G m S H) (hv : RlV (kx cl X) G m r σ) (hx : HX nm cl X a cls d k G r σ) (h : Out nm.excs X.mg (kx cl X) noW F RR2 σ G m Q ((f r S).bind kk))
    (q : ∀ u H1 G1 m1 v S1, Grow G m G1 m1 → Rl (kx cl X) F G1 m1 S1 H1 → RlV (kx cl X) G1 m1 r σ → HX nm cl X a cls d k G1 r σ → RR G1 m1 v u → Out nm.excs X.mg (kx cl X) noW F RR2 σ G1 m1 Q (kk v S1) → Q1 u H1) : tH nm cl X a cls d k RR f σ H Q1 :=
  ⟨F, G, m, r, S, hl, hv, hx, (Out.bind (RR := RR) h).imp fun u H1 ⟨G1, m1, v, S1, g, r1, r2, o⟩ => q u H1 G1 m1 v S1 g r1 (hv.mono g) (hx.mono g.1) r2 o⟩
theorem h_const {a : Addr} {cls : Value} {d : Option Addr} {k : Nat} {X' : Cx} {x : Ex} {c : PySem.Const} {j : Nat} {v : V} {y : Iv.D} {pos : Pos} (h : PE X' (.Constant c j pos) (tC v)) (hx : ∀ r S, ev P cal x r S = .ok (.d y) S) (hr : ∀ G, Rep (kx cl X) G y v) : PE X' (.Constant c j pos) (tH nm cl X a cls d k (RepV (kx cl X)) (ev P cal x)) :=
  PE.imp h fun σ H Q ⟨F, G, m, r, S, rl, rv, hx', out⟩ => by
    rw [hx] at out
    exact out G m H v .refl rl (hr G)
theorem starH {nm : Nm} {N : List Str} {sc : Scope} {k : Nat} {x : Ex} {e : Expr} {es : List Expr} {env : Env} (h : isH nm N sc k x e = true) : starEach (e :: es) env = (false, eval e env) :: starEach es env := by
  cases e with
  | Starred _ _ => cases x <;> cases h
  | _ => rfl
theorem hotE {a : Addr} {oe : Obj} {cls : Value} {d : Option Addr} {k : Nat} {pn : List (Addr × Obj)} (hz : Zc cls d oe) (hf : ∃ vs, oe.data = .fields vs) (hX : ∀ (c : Nat) (e : Xc), nm.excs[c]? = some e → X.mg e.name = some (.ref (xa cl c)) ∧ ExK X.prog X.K (xa cl c) e) :
    ∀ x : Ex, (∀ e, isH nm X.N X.env.scope k x e = true → PE (X.suite a ((a, oe) :: pn)) e (tH nm cl X a cls d k (RepV (kx cl X)) (ev P cal x))) ∧
      ∀ es, isHs nm X.N X.env.scope k x es = true → PA (X.suite a ((a, oe) :: pn)) es (tH nm cl X a cls d k (RVs (kx cl X)) (evs P cal x)) := by
  intro x
  induction x with
  | non =>
    refine ⟨fun e h => ?_, fun es h => (by cases h)⟩
    cases e with
    | Constant c j p =>
      cases c with
      | none => exact h_const pe_non (fun _ _ => rfl) fun _ => .non
      | _ => cases h
    | _ => cases h
  | bl b =>
    refine ⟨fun e h => ?_, fun es h => (by cases h)⟩
    cases e with
    | Constant c j p =>
      cases c with
      | bool c =>
        have : b = c := eq_of_beq h
        subst this
        exact h_const pe_bl (fun _ _ => rfl) fun _ => .bl b
      | _ => cases h
    | _ => cases h
  | int i =>
    refine ⟨fun e h => ?_, fun es h => (by cases h)⟩
    cases e with
    | Constant c j p =>
      cases c with
      | int c =>
        have : i = c := of_decide_eq_true h
        subst this
        exact h_const pe_int (fun _ _ => rfl) fun _ => .int i
      | _ => cases h
    | _ => cases h
  | str s =>
    refine ⟨fun e h => ?_, fun es h => (by cases h)⟩
    cases e with
    | Constant c j p =>
      cases c with
      | str c =>
        simp only [isH, Bool.and_eq_true] at h
        have : c = S' s := of_decide_eq_true h.1
        subst this
        exact h_const pe_str (fun _ _ => rfl) fun _ => .str s fun c hc => by simpa using List.all_eq_true.mp h.2 c hc
      | _ => cases h
    | _ => cases h
  | nil =>
    refine ⟨fun e h => (by cases h), fun es h => ?_⟩
    cases es with
    | nil =>
      refine PA.imp pa_nil fun σ H Q ⟨F, G, m, r, S, rl, rv, hx, out⟩ => ?_
      simp only [evs] at out
      exact out G m H [] .refl rl .nil
    | cons _ _ => cases h
  | cons x xs ih1 ih2 =>
    refine ⟨fun e h => (by cases h), fun es h => ?_⟩
    cases es with
    | nil => cases h
    | cons e es =>
      simp only [isHs, Bool.and_eq_true] at h
      refine PA.imp (pa_cons (ih1.1 e h.1) (ih2.2 es h.2) (starH h.1)) fun σ H Q ⟨F, G, m, r, S, rl, rv, hx, out⟩ => ?_
      simp only [evs] at out
      refine tH.bind rl rv hx out fun u1 H1 G1 m1 v1 S1 g1 l1 rv1 hx1 r1 out => ?_
      refine tH.bind l1 rv1 hx1 out fun u2 H2 G2 m2 v2 S2 g2 l2 rv2 hx2 r2 out => ?_
      exact out G2 m2 H2 _ .refl l2 (.cons (r1.mono g2) r2)
  | tup es ih =>
    refine ⟨fun e h => ?_, fun es h => (by cases h)⟩
    cases e with
    | Tuple l kk p =>
      refine PE.imp (pe_tup (ih.2 l h)) fun σ H Q ⟨F, G, m, r, S, rl, rv, hx, out⟩ => ?_
      simp only [ev] at out
      refine tH.bind rl rv hx out fun u1 H1 G1 m1 v1 S1 g1 l1 rv1 hx1 r1 out => ?_
      split at out
      · rename_i xs hxs
        split at out
        · rename_i hz
          exact ⟨by rw [← r1.length]; exact small_line hz, fun p hp => (Out.gives out l1).newT l1.ext (dsOf_reps r1 hxs) hp⟩
        · exact out.elim
      · exact out.elim
    | _ => cases h
  | fld i kk =>
    refine ⟨fun e h => ?_, fun es h => (by cases h)⟩
    match e, h with
    | .Attribute (.Name x p) f p2, h =>
      simp only [isH, Bool.and_eq_true, decide_eq_true_eq] at h
      obtain ⟨⟨⟨⟨h1, h2⟩, h3⟩, h4⟩, h5⟩ := h
      subst h1
      refine ⟨fun pins s σ H Q I hh => ?_⟩
      obtain ⟨F, G, m, r, S, rl, rv, hx, out⟩ := hh
      simp only [ev] at out
      split at out
      · rename_i c fs hr
        obtain ⟨q1, q2, x, C, q3, q4, q5, q6⟩ := hx i c fs hr
        have hlt : c < nm.excs.length := (List.getElem?_eq_some_iff.mp q3).1
        have hfl := List.all_eq_true.mp h5 c (List.mem_range.mpr hlt)
        rw [q2, q3] at hfl
        have hfl : x.fld = some f := by simpa using hfl
        obtain ⟨w1, w2⟩ := hX c x q3
        rw [q4] at w1
        have hC : C = xa cl c := by have := Option.some.inj w1; cases this; rfl
        subst hC
        subst q5
        unfold ExK at w2
        rw [hfl] at w2 q6
        obtain ⟨_, _, _, _, _, _, w3, w4⟩ := w2
        match fs, q6, out with
        | [y], ⟨da, v, z1, z2, z3⟩, out =>
          refine (pe_xf (X := X) (te := tVar i) w3 w4 hz hf (pe_var h2 (visB_d h3) (okN_d h4).1 (okN_d h4).2.1) rfl).run pins s σ H Q I ?_
          exact ⟨.ref a, q1, rfl, rfl, da, [(f, v)], v, z1, rl.ext _ _ z2, by simp [List.lookup], out G m H v .refl rl z3⟩
      · exact out.elim
  | _ => exact ⟨fun e h => (by cases h), fun es h => (by cases h)⟩
/-! ### raise -/
theorem s_rse0 {c j : Nat} {s m : Str} {y : Xc} {p p2 pos2 pos : Pos} (C : Ck nm cl P cal n X W) (hc : nm.excs[c]? = some y) (hn : y.name = s) (hf : y.fld = none) (hg : glB X.env.scope s = true) (ho : okN s = true) :
    PS X (.Raise (some (.Call (.Name s p) [.Constant (.str m) j p2] [] pos2)) none pos) (tS nm cl X W (exec P cal (.rse c .nil))) := by
  obtain ⟨gC, k⟩ := C.md.ex c y hc
  unfold ExK at k
  rw [hf] at k
  obtain ⟨B, newId, i, bmB, k1, k2, k3, k4, k5⟩ := k
  subst hn
  refine PS.imp (ps_raise C.calm C.tk (pmk_own k1 k2 gC k3 (raises_own k4 k5) (glB_d hg) (okN_d ho).1)) fun D σ H ⟨F, G, mm, r, S, rl, rv, out⟩ => ?_
  simp only [exec, evs, R.st, dsOf, List.all_nil, if_true] at out
  exact out G mm σ H _ none .refl rl rv ⟨y, _, hc, gC, rfl, by rw [hf]⟩
theorem strV_of {K : Fg} {G : Hp} {x : Iv.D} {u : V} (h : strD x = true) (r : Rep K G x u) : StrV u := by
  cases r with
  | non => exact .inl rfl
  | bl b => exact .inr (.inl ⟨b, rfl⟩)
  | int i => exact .inr (.inr (.inl ⟨i, rfl, Nat.lt_of_lt_of_le (log2_of (of_decide_eq_true h) (by decide)) (by decide)⟩))
  | str s o => exact .inr (.inr (.inr ⟨_, rfl⟩))
  | _ => cases h
theorem s_rse1 {c : Nat} {s f : Str} {y : Xc} {x : Ex} {e : Expr} {p pos2 pos : Pos} (C : Ck nm cl P cal n X W) (hc : nm.excs[c]? = some y) (hn : y.name = s) (hf : y.fld = some f) (hg : glB X.env.scope s = true) (ho : okN s = true) (hs : isE nm X.N X.env.scope x e = true)
    (he : PE X e (TX nm cl X W (ev P cal x))) : PS X (.Raise (some (.Call (.Name s p) [e] [] pos2)) none pos) (tS nm cl X W (exec P cal (.rse c (.cons x .nil)))) := by
  obtain ⟨gC, k⟩ := C.md.ex c y hc
  unfold ExK at k
  rw [hf] at k
  obtain ⟨B, newId, i, bmB, k1, k2, k3, k4⟩ := k
  subst hn
  refine PS.imp (ps_raise C.calm C.tk (pmk_X k1 k2 (C.room.mono (Nat.zero_le _)) gC (glB_d hg) he (star_e hs) (okN_d ho).1)) fun D σ H ⟨F, G, mm, r, S, rl, rv, out⟩ => ?_
  have out2 : OutS nm cl X W F G mm D (R.st (ev P cal x r S) r fun v S1 => match dsOf [v] with
      | some fs => if fs.all strD then .exc c fs r S1 else .bad
      | none => .bad) := by
    simp only [exec, evs] at out
    cases q : ev P cal x r S with
    | ok v S1 => rw [q] at out; exact out
    | exc c' fs S1 => rw [q] at out; exact out
    | bad => rw [q] at out; exact out
  refine tX.st rl rv out2 fun u1 H1 G1 m1 v1 S1 g1 l1 rv1 r1 out => ?_
  cases v1 with
  | d z =>
    simp only [dsOf, Option.map_some, List.all_cons, List.all_nil, Bool.and_true] at out
    by_cases hz : strD z = true
    · rw [if_pos hz] at out
      refine ⟨strV_of hz r1, fun d hd => ?_⟩
      have al : Al G1 H1 (upd G1 d (.xd [(f, u1)])) (upd H1 d (.xd [(f, u1)])) := Al.one hd
      have r1' : Rep (kx cl X) G1 z u1 := r1
      exact out _ _ _ _ _ _ (al.grow l1.ext) (l1.al al) (rv1.mono (al.grow l1.ext)) ⟨y, _, hc, gC, rfl, by rw [hf]; exact ⟨d, u1, rfl, upd_same, r1'.mono (al.ext l1.ext).2.1⟩⟩
    · rw [if_neg hz] at out; exact out.elim
  | loc _ => exact out.elim
  | xc _ _ => exact out.elim
/-! ### try -/
def isCl (nm : Nm) (N : List Str) (sc : Scope) : List Hd → List ExceptHandler → Bool
  | [], [] => true
  | h :: hs, .ExceptHandler (some (.Name x _)) o [.Return (some e) _] _ :: hds => (match nm.excs[h.c]? with
      | some y => decide (y.name = x)
      | none => false) && glB sc x && okN x && isH nm N sc h.c h.e e && (match h.i, o with
      | none, none => true
      | some i, some n => decide (N[i]? = some n) && decide (sc.names.lookup n = some .local)
      | _, _ => false) && isCl nm N sc hs hds
  | _, _ => false
def clT (nm : Nm) (cl : Nat → Addr) (P : Prg) (cal : Cal) (X : Cx) (h : Hd) : ClT := (.ref (xa cl h.c), h.i, fun a cls d => fun D σ H => tH nm cl X a cls d h.c (RepV (kx cl X)) (ev P cal h.e) σ H fun u H' => D.rt u H')
theorem kind_lookup {env : Env} {x : Str} (h : env.scope.kind = .function) : env.kindOf x = env.scope.names.lookup x := by
  first
    | rfl
    | simp [Env.kindOf, h]
theorem cl_ok (C : Ck nm cl P cal n X W) (hk : X.env.scope.kind = .function) : ∀ (hs : List Hd) (hds : List ExceptHandler), isCl nm X.N X.env.scope hs hds = true → ClOk X hds (hs.map (clT nm cl P cal X)) ∧ ∀ h ∈ hs, ∃ y, nm.excs[h.c]? = some y := by
  intro hs
  induction hs with
  | nil =>
    intro hds q
    cases hds with
    | nil => exact ⟨.nil, fun _ q => by simp at q⟩
    | cons _ _ => cases q
  | cons h hs ih =>
    intro hds q
    unfold isCl at q
    split at q
    · rename_i z1 z2
      cases z2
    · rename_i h0 hs0 x np o e rp pp hds z1
      cases z1
      simp only [Bool.and_eq_true] at q
      obtain ⟨⟨⟨⟨⟨q1, q2⟩, q3⟩, q4⟩, q5⟩, q6⟩ := q
      obtain ⟨r1, r2⟩ := ih hds q6
      cases hy : nm.excs[h.c]? with
      | none => rw [hy] at q1; cases q1
      | some y =>
        rw [hy] at q1
        have hn : y.name = x := of_decide_eq_true q1
        subst hn
        obtain ⟨gC, _⟩ := C.md.ex h.c y hy
        have nms : Names X y.name (.ref (xa cl h.c)) := ⟨glB_d q2, (okN_d q3).1, .inl gC⟩
        have hsu : ∀ (a : Addr) (oe : Obj) (cls : Value) (d : Option Addr) (pn : List (Addr × Obj)), Zc cls d oe → (∃ vs, oe.data = .fields vs) → PSs (X.suite a ((a, oe) :: pn)) [.Return (some e) rp] ((clT nm cl P cal X h).2.2 a cls d) := fun a oe cls d pn hz hf =>
          PSs.imp (pss_one (ps_ret ((hotE hz hf C.md.ex h.e).1 e q4))) fun D σ H z => z
        refine ⟨?_, fun h' hm => ?_⟩
        · cases hi : h.i with
          | none =>
            rw [hi] at q5
            cases o with
            | none =>
              have := ClOk.bare (np := np) (pp := pp) nms hsu r1
              simpa [clT, hi] using this
            | some _ => cases q5
          | some i =>
            rw [hi] at q5
            cases o with
            | none => cases q5
            | some nn =>
              have q5 := Bool.and_eq_true_iff.mp q5
              have := ClOk.named (np := np) (pp := pp) nms (of_decide_eq_true q5.1) ((kind_lookup hk).trans (of_decide_eq_true q5.2)) hsu r1
              simpa [clT, hi] using this
        · rcases List.mem_cons.mp hm with rfl | hm
          · exact ⟨y, hy⟩
          · exact r2 h' hm
    · cases q
theorem RlV.setx {K : Fg} {G : Hp} {m : List Addr} {r : Ev} {σ : L2.St} (h : RlV K G m r σ) (i c : Nat) (fs : List Iv.D) (o : Option V) : RlV K G m (r.set i (some (.xc c fs))) (σ.set i o) := by
  refine ⟨by simp [h.1], fun j w e nx => ?_⟩
  by_cases hj : i = j
  · subst hj
    by_cases hl : i < r.length
    · rw [List.getElem?_set_self hl] at e
      cases e
      exact absurd rfl (nx c fs)
    · rw [List.getElem?_eq_none (by simp; omega)] at e; cases e
  · rw [List.getElem?_set_ne hj] at e
    obtain ⟨u', h1, h2⟩ := h.2 j w e nx
    exact ⟨u', by rw [List.getElem?_set_ne hj]; exact h1, h2⟩
theorem Out.of_hot {F G : Hp} {m : List Addr} {σ : L2.St} {x : R Vl} (h : OutS nm cl X W F G m D (match x with
    | .ok v S => .ret v S
    | _ => .bad)) : Out nm.excs X.mg (kx cl X) noW F (RepV (kx cl X)) σ G m (fun u H' => D.rt u H') x := by
  cases x with
  | ok v S => exact h
  | exc c fs S => exact h.elim
  | bad => exact h
theorem exh_ok (C : Ck nm cl P cal n X W) : ∀ (hs : List Hd), (∀ h ∈ hs, ∃ y, nm.excs[h.c]? = some y) → ∀ {c : Nat} {fs : List Iv.D} {r : Ev} {S : Hs} {F G : Hp} {m : List Addr} {σ : L2.St} {H : Hp} {cls : Value} {d : Option Addr}, OutS nm cl X W F G m D (exh P cal hs c fs r S) → Rl (kx cl X) F G m S H → RlV (kx cl X) G m r σ → RepX nm.excs X.mg (kx cl X) G c fs cls d →
    wCl X.K W D (hs.map (clT nm cl P cal X)) cls d σ H
  | [], _, c, fs, r, S, F, G, m, σ, H, cls, d, out, rl, rv, rx => out G m σ H cls d .refl rl rv rx
  | h :: hs, hv, c, fs, r, S, F, G, m, σ, H, cls, d, out, rl, rv, rx => by
    obtain ⟨y, hy⟩ := hv h (List.mem_cons_self ..)
    obtain ⟨x, Cx', q3, q4, q5, q6⟩ := id rx
    obtain ⟨w1, w2⟩ := C.md.ex c x q3
    rw [q4] at w1
    have hC : Cx' = xa cl c := by have := Option.some.inj w1; cases this; rfl
    subst hC
    subst q5
    refine ⟨nm.sub c h.c, C.md.sb c h.c x y q3 hy, fun hb a ha => ?_, fun hb => ?_⟩
    · simp only [exh, C.md.ps, hb, if_true] at out
      cases hi : h.i with
      | none =>
        rw [hi] at out
        refine ⟨F, G, m, unx r, S, rl, rv.unx, fun i c' fs' q => absurd q unx_no, Out.of_hot out⟩
      | some i =>
        rw [hi] at out
        refine ⟨F, G, m, (unx r).set i (some (.xc c fs)), S, rl, rv.unx.setx i c fs (some (.ref a)), fun j c' fs' q => ?_, Out.of_hot (D := D) out⟩
        by_cases hj : i = j
        · subst hj
          by_cases hl : i < (unx r).length
          · rw [List.getElem?_set_self hl] at q
            cases q
            exact ⟨by rw [List.getElem?_set_self (by rw [← rv.unx.1]; exact hl)], hb, rx⟩
          · rw [List.getElem?_eq_none (by simp; omega)] at q; cases q
        · rw [List.getElem?_set_ne hj] at q
          exact absurd q unx_no
    · simp only [exh, C.md.ps, hb, if_false, Bool.false_eq_true] at out
      exact exh_ok C hs (fun h' hm => hv h' (List.mem_cons_of_mem _ hm)) out rl rv rx
theorem s_tri {b : St} {hs : List Hd} {body : List Stmt} {h₀ : ExceptHandler} {hds : List ExceptHandler} {pos : Pos} (C : Ck nm cl P cal n X W) (h1 : X.stack = X.env :: X.outer) (h2 : X.env.frame = some X.env.locals) (hk : X.env.scope.kind = .function)
    (hb : ∀ (W' : WX) (pn : List (Addr × Obj)) (xe : Value → Shared → Prop), Takes (X.tr pn xe) W' → PassesOwn (model X.prog X.w) X.A X.env xe → PSs (X.tr pn xe) body (tS nm cl X W' (exec P cal b))) (hc : isCl nm X.N X.env.scope hs (h₀ :: hds) = true) :
    PS X (.Try body (h₀ :: hds) [] [] pos) (tS nm cl X W (exec P cal (.tri b hs))) := by
  obtain ⟨k1, k2⟩ := cl_ok C hk hs _ hc
  refine PS.imp (ps_tryCl h1 h2 C.nodup C.tk hb k1) fun D σ H ⟨F, G, m, r, S, rl, rv, out⟩ => ⟨F, G, m, r, S, rl, rv, ?_⟩
  simp only [exec] at out
  cases e : exec P cal b r S with
  | nx r1 S1 => rw [e] at out; exact out
  | ret v S1 => rw [e] at out; exact out
  | brk r1 S1 => rw [e] at out; exact out
  | cnt r1 S1 => rw [e] at out; exact out
  | bad => rw [e] at out; exact out
  | exc c fs r1 S1 =>
    rw [e] at out
    exact fun G' m' σ' H' cls d g l1 rv1 rx => exh_ok C hs k2 (OutS.grow g out) l1 rv1 rx
end
end Iv
end
section
set_option autoImplicit false
set_option maxRecDepth 100000
set_option maxHeartbeats 4000000
namespace Iv
open PySem L2
/-! ### the check of statements -/
def isStar : Expr → Bool
  | .Starred _ _ => true
  | _ => false
def nmL (sc : Scope) (line : Nat) : Expr → Option Str
  | .Name x q => if (sc.names.lookup x == some .local && q.line == line) then some x else none
  | _ => none
def swN (sc : Scope) (ts vs : List Expr) : Option (Option (List Str)) :=
  if ((ts.length == 2 || ts.length == 3) && vs.length == ts.length && !vs.any isStar) = false then some none else
  let ns := ts.filterMap (nmL sc ((ts.head?.map (·.pos.line)).getD 0))
  if ns.length != ts.length || ns.eraseDups.length != ns.length then some none
  else if vs.all (foldedForSure 8) then some none
  else if vs.all (constantsAlone 8) then none else some (some ns)
theorem swapped_eq {env : Env} {ts vs : List Expr} {k k2 : Nat} {p p2 : Pos} {r : Option (List Str)} (hk : env.scope.kind = .function) (h : swN env.scope ts vs = some r) :
    swappedStores [.Tuple ts k p] (.Tuple vs k2 p2) env = pure r := by
  have hb : (env.blockKind != .function) = false := by unfold Env.blockKind; rw [hk]; rfl
  unfold swN at h
  show (if (!(ts.length == 2 || ts.length == 3) || vs.length != ts.length || env.blockKind != ScopeKind.function) = true then (pure none : Sem (Option (List Str))) else
    if vs.any isStar = true then pure none else
    (fun ns : List Str => if (ns.length != ts.length || ns.eraseDups.length != ns.length) = true then (pure none : Sem (Option (List Str))) else
      if vs.all (foldedForSure 8) = true then pure none else
      if vs.all (constantsAlone 8) = true then (unsupported "assign.tuple-of-constant-expressions:order-of-the-stores" >>= fun (_ : Unit) => pure (some ns)) else pure (some ns))
      (ts.filterMap (nmL env.scope ((ts.head?.map (·.pos.line)).getD 0)))) = pure r
  rw [hb, Bool.or_false]
  by_cases c1 : ((ts.length == 2 || ts.length == 3) && vs.length == ts.length && !vs.any isStar) = false
  · rw [if_pos c1] at h
    cases h
    by_cases d1 : (!(ts.length == 2 || ts.length == 3) || vs.length != ts.length) = true
    · rw [if_pos d1]
    · rw [if_neg d1]
      have d2 : vs.any isStar = true := by
        cases q : vs.any isStar with
        | true => rfl
        | false =>
          exfalso
          rw [Bool.not_eq_true, Bool.or_eq_false_iff] at d1
          have a1 : (ts.length == 2 || ts.length == 3) = true := by have q := d1.1; rwa [Bool.not_eq_false'] at q
          have a2 : (vs.length == ts.length) = true := by simpa [bne] using d1.2
          rw [a1, a2, q] at c1
          cases c1
      rw [if_pos d2]
  · rw [if_neg c1] at h
    rw [Bool.not_eq_false, Bool.and_eq_true, Bool.and_eq_true] at c1
    rw [if_neg (by rw [c1.1.1]; simp [bne, c1.1.2]), if_neg (by simpa using c1.2)]
    dsimp only at h ⊢
    split at h
    · rename_i d; rw [if_pos d]; cases h; rfl
    · rename_i d; rw [if_neg d]
      split at h
      · rename_i d; rw [if_pos d]; cases h; rfl
      · rename_i d; rw [if_neg d]
        split at h
        · cases h
        · rename_i d; rw [if_neg d]; cases h; rfl
/-- what swapsWith says of a store to a name -/
def swB (sc : Scope) (x : Str) (l : Nat) : Expr → Bool
  | .ListComp _ _ s p => decide (sc.names.lookup x = some .local) && (l == p.line) && !(s.names.any fun y => y.1 == x && (y.2 == .local || y.2 == .cell))
  | .SetComp _ _ s p => decide (sc.names.lookup x = some .local) && (l == p.line) && !(s.names.any fun y => y.1 == x && (y.2 == .local || y.2 == .cell))
  | .DictComp _ _ _ s p => decide (sc.names.lookup x = some .local) && (l == p.line) && !(s.names.any fun y => y.1 == x && (y.2 == .local || y.2 == .cell))
  | _ => false
theorem swaps_eq {env : Env} {x : Str} {px : Pos} {e : Expr} {l : Nat} (hk : env.scope.kind = .function) : swapsWith e (some (.Name x px)) l env = pure (swB env.scope x px.line e) := by
  have hb : (env.blockKind == .function) = true := by unfold Env.blockKind; rw [hk]; rfl
  have hd : ∀ o : Option NameKind, (o == some NameKind.local) = decide (o = some .local) := fun o => by
    cases o with
    | none => rfl
    | some k => cases k <;> rfl
  cases e <;> first
    | rfl
    | (show (pure (env.blockKind == .function && env.scope.names.lookup x == some .local && px.line == _ && !_) : Sem Bool) = _
       rw [hb, hd]; rfl)
def isComp : Expr → Bool
  | .ListComp _ _ _ _ => true
  | .SetComp _ _ _ _ => true
  | .DictComp _ _ _ _ _ => true
  | _ => false
theorem noSwap {e : Expr} {t : Option Expr} {l : Nat} {env : Env} (h : isComp e = false) : swapsWith e t l env = pure false := by
  cases e <;> first | rfl | cases h
def isTup : Expr → Bool
  | .Tuple _ _ _ => true
  | _ => false
section
variable (nm : Nm) (N : List Str) (sc : Scope)
mutual
def isS : St → Stmt → Bool
  | .never, _ => true
  | .skip, st => match st with
    | .Pass _ => true
    | _ => false
  | .asg i e, st => match st with
    | .Assign [.Name x px] v _ => decide (N[i]? = some x) && stB true sc x && isE nm N sc e v && (match e with
      | .comp _ _ _ _ _ => true
      | .newc _ _ _ _ _ => true
      | _ => !swB sc x px.line v)
    | _ => false
  | .asgT t e, st => match st with
    | .Assign [.Tuple ts _ _] v _ => isG N true sc t (.Tuple ts 0 ⟨0, 0, 0, 0⟩) && isE nm N sc e v && !isComp v && (match v with
      | .Tuple vs _ _ => swN sc ts vs == some none
      | _ => true)
    | _ => false
  | .par2 i j a b, st => match st with
    | .Assign [.Tuple [.Name x px, .Name y py] k p] (.Tuple [l, r] _ _) _ => decide (N[i]? = some x) && decide (N[j]? = some y) && !decide (i = j) && decide (sc.names.lookup x = some .local) && decide (sc.names.lookup y = some .local) &&
        (swN sc [.Name x px, .Name y py] [l, r] == some (some [x, y])) && isE nm N sc a l && isE nm N sc b r
    | _ => false
  | .par3 i j k a b c, st => match st with
    | .Assign [.Tuple [.Name x px, .Name y py, .Name z pz] _ _] (.Tuple [l, r, q] _ _) _ => decide (N[i]? = some x) && decide (N[j]? = some y) && decide (N[k]? = some z) && !decide (i = j) && !decide (i = k) && !decide (j = k) &&
        decide (sc.names.lookup x = some .local) && decide (sc.names.lookup y = some .local) && decide (sc.names.lookup z = some .local) &&
        (swN sc [.Name x px, .Name y py, .Name z pz] [l, r, q] == some (some [x, y, z])) && isE nm N sc a l && isE nm N sc b r && isE nm N sc c q
    | _ => false
  | .par3c i j k a b c, st => match st with
    | .Assign [.Tuple [.Name x px, .Name y py, .Name z pz] _ _] (.Tuple [l, r, q] _ _) _ => decide (N[i]? = some x) && decide (N[j]? = some y) && decide (N[k]? = some z) &&
        stB true sc x && stB true sc y && stB true sc z &&
        (swN sc [.Name x px, .Name y py, .Name z pz] [l, r, q] == some none) && isE nm N sc a l && isE nm N sc b r && isE nm N sc c q
    | _ => false
  | .aug i o e, st => match st with
    | .AugAssign (.Name x _) op v _ => decide (N[i]? = some x) && stB true sc x && decide (op = bop o) && isE nm N sc e v
    | _ => false
  | .setix i k e, st => match st with
    | .Assign [.Subscript (.Name x _) q _] v _ => decide (N[i]? = some x) && visB sc x && okN x && isE nm N sc k q && isE nm N sc e v && !isComp v
    | _ => false
  | .setd i k e, st => match st with
    | .Assign [.Subscript (.Name x _) q _] v _ => decide (N[i]? = some x) && visB sc x && okN x && isE nm N sc k q && isE nm N sc e v && !isComp v
    | _ => false
  | .setsl j o e, st => match st with
    | .Assign [.Attribute ob x _] v _ => decide (nm.sls[j]? = some x) && isE nm N sc o ob && isE nm N sc e v && !isComp v
    | _ => false
  | .app i e, st => match st with
    | .Expr (.Call (.Attribute (.Name x _) a ap) [v] [] p) _ => decide (N[i]? = some x) && visB sc x && okN x && decide (a = ("append" : Str)) && (ap.endLine == p.line) && isE nm N sc e v
    | _ => false
  | .expr e, st => match st with
    | .Expr v _ => isE nm N sc e v && !isComp v
    | _ => false
  | .ret e, st => match st with
    | .Return (some v) _ => isE nm N sc e v
    | _ => false
  | .retN, st => match st with
    | .Return none _ => true
    | _ => false
  | .ite c a b, st => match st with
    | .If t l r _ => isE nm N sc c t && tOk c && isSs a l && isSs b r
    | _ => false
  | .whl c b, st => match st with
    | .While t l [] _ => isE nm N sc c t && tOk c && isSs b l
    | _ => false
  | .loop t it b, st => match st with
    | .For tg iter l [] _ => isG N true sc t tg && isI nm N sc it tg iter && isSs b l
    | _ => false
  | .rse c es, st => match st with
    | .Raise (some (.Call (.Name x _) [a] [] _)) none _ => (match nm.excs[c]? with
      | some y => decide (y.name = x) && (match y.fld, es with
        | none, .nil => (match a with
          | .Constant (.str _) _ _ => true
          | _ => false)
        | some _, .cons z .nil => isE nm N sc z a
        | _, _ => false)
      | none => false) && glB sc x && okN x
    | _ => false
  | .tri b hs, st => match st with
    | .Try l (h₀ :: hds) [] [] _ => isSs b l && isCl nm N sc hs (h₀ :: hds)
    | _ => false
  | .brk, st => match st with
    | .Break _ => true
    | _ => false
  | .cnt, st => match st with
    | .Continue _ => true
    | _ => false
  | _, _ => false
def isSs : St → List Stmt → Bool
  | .skip, l => l.isEmpty
  | .frzv _ b, l => isSs b l
  | .seq a b, l => match l with
    | st :: rest => isS a st && isSs b rest
    | [] => false
  | _, _ => false
end
end
end Iv
end
section
set_option autoImplicit false
set_option maxRecDepth 100000
set_option maxHeartbeats 4000000
namespace Iv
open PySem L2
section
variable {nm : Nm} {cl : Nat → Addr} {P : Prg} {cal : Cal} {n : Nat}
structure CkS (nm : Nm) (cl : Nat → Addr) (P : Prg) (cal : Cal) (n : Nat) (X : Cx) (W : WX) : Prop where
  ck : Ck nm cl P cal n X W
  kd : X.env.scope.kind = .function
  fn : ∀ x, X.fn x = true
  st : X.stack = X.env :: X.outer
  fr : X.env.frame = some X.env.locals
structure SndS (nm : Nm) (cl : Nat → Addr) (P : Prg) (cal : Cal) (n : Nat) (a : St) : Prop where
  s : ∀ (X : Cx) (W : WX) (st : Stmt), CkS nm cl P cal n X W → isS nm X.N X.env.scope a st = true → PS X st (tS nm cl X W (exec P cal a))
  ss : ∀ (X : Cx) (W : WX) (l : List Stmt), CkS nm cl P cal n X W → isSs nm X.N X.env.scope a l = true → PSs X l (tS nm cl X W (exec P cal a))
theorem stB_fn {X : Cx} {W : WX} (C : CkS nm cl P cal n X W) {x : Str} (h : stB true X.env.scope x = true) : L2.Loc X.env.scope x ∧ (X.fn x = true ∨ X.env.scope.names.lookup x = some .local) :=
  ⟨(stB_d h).1, .inl (C.fn x)⟩
theorem swappedNot {e : Expr} {tg : Expr} {env : Env} (h : isTup e = false) : swappedStores [tg] e env = pure none := by
  cases tg <;> first | rfl | (cases e <;> first | rfl | cases h)
theorem isG_tup {N : List Str} {sc : Scope} {fn : Bool} {t : Tg} {ts : List Expr} {k k' : Nat} {p p' : Pos} (h : isG N fn sc t (.Tuple ts k p) = true) : isG N fn sc t (.Tuple ts k' p') = true := by
  cases t <;> first | exact h | cases h
theorem noSwapS {e : Expr} {t : Expr} {l : Nat} {env : Env} (h : isComp e = false) : swapsWithSole [t] e l env = pure false := by
  show swapsWith e (some t) l env = pure false
  exact noSwap h
theorem sndS : ∀ a : St, SndS nm cl P cal n a := by
  intro a
  induction a with
  | skip =>
    refine ⟨fun X W st C h => ?_, fun X W l C h => ?_⟩
    · cases st with
      | Pass p => exact s_pass
      | _ => cases h
    · cases l with
      | nil => exact s_skip
      | cons _ _ => cases h
  | never => exact ⟨fun X W st C h => PS.imp ps_never fun D σ H ⟨F, G, m, r, S, rl, rv, out⟩ => out.elim, fun X W l C h => (by cases h)⟩
  | seq a b ih1 ih2 =>
    refine ⟨fun X W st C h => (by cases h), fun X W l C h => ?_⟩
    cases l with
    | nil => cases h
    | cons st rest =>
      simp only [isSs, Bool.and_eq_true] at h
      exact s_seq (ih1.s X W st C h.1) (ih2.ss X W rest C h.2)
  | asg i e =>
    refine ⟨fun X W st C h => ?_, fun X W l C h => (by cases h)⟩
    unfold isS at h
    split at h
    · rename_i x px v p
      simp only [Bool.and_eq_true] at h
      obtain ⟨⟨⟨h1, h2⟩, h3⟩, h4⟩ := h
      obtain ⟨l1, l2⟩ := stB_fn C h2
      by_cases hw : swB X.env.scope x px.line v = true
      · -- stored from within a comprehension
        cases e with
        | comp own t it c y =>
          match v, h3, hw with
          | .ListComp elt [⟨tg, iter, ifs, as⟩] scope q, h3, hw =>
            simp only [isE, Bool.and_eq_true] at h3
            have : as = 0 := of_decide_eq_true h3.1.1.1.1.1.1
            subst this
            have hl : X.env.scope.names.lookup x = some .local := by
              simp only [swB, Bool.and_eq_true] at hw
              exact of_decide_eq_true hw.1.1
            exact s_asgC (snd_main it).i (snd_main c).c (snd_main y).e C.ck (of_decide_eq_true h1) hl (by rw [swaps_eq C.kd, hw]) h3.1.1.1.1.1.2 h3.1.1.1.1.2 h3.1.1.1.2 h3.1.1.2 h3.1.2 h3.2
        | newc own t it c y =>
          match v, h3, hw with
          | .ListComp elt [⟨tg, iter, ifs, as⟩] scope q, h3, hw =>
            simp only [isE, Bool.and_eq_true] at h3
            have : as = 0 := of_decide_eq_true h3.1.1.1.1.1.1
            subst this
            have hl : X.env.scope.names.lookup x = some .local := by
              simp only [swB, Bool.and_eq_true] at hw
              exact of_decide_eq_true hw.1.1
            exact s_asgN (snd_main it).i (snd_main c).c (snd_main y).e C.ck (of_decide_eq_true h1) hl (by rw [swaps_eq C.kd, hw]) h3.1.1.1.1.1.2 h3.1.1.1.1.2 h3.1.1.1.2 h3.1.1.2 h3.1.2 h3.2
        | _ => rw [hw] at h4; cases h4
      · exact s_asg C.ck (of_decide_eq_true h1) l1 l2 (by rw [swaps_eq C.kd, Bool.not_eq_true _ |>.mp hw]) ((snd_main e).e X W v C.ck h3)
    · cases h
  | asgT t e =>
    refine ⟨fun X W st C h => ?_, fun X W l C h => (by cases h)⟩
    unfold isS at h
    split at h
    · rename_i ts k q v p
      simp only [Bool.and_eq_true] at h
      obtain ⟨⟨⟨h1, h2⟩, h3⟩, h4⟩ := h
      have h3' : isComp v = false := by simpa using h3
      refine s_asgT (g_tg C.ck.calm C.ck.nodup (fun _ => C.fn) t _ (isG_tup h1)) (noSwapS h3') ?_ rfl ((snd_main e).e X W v C.ck h2)
      cases v with
      | Tuple vs k2 p2 => exact swapped_eq C.kd (eq_of_beq h4)
      | _ => rfl
    · cases h
  | par2 i j a b =>
    refine ⟨fun X W st C h => ?_, fun X W l C h => (by cases h)⟩
    unfold isS at h
    split at h
    · rename_i x px y py k q l r k2 q2 p
      simp only [Bool.and_eq_true] at h
      obtain ⟨⟨⟨⟨⟨⟨⟨h1, h2⟩, h3⟩, h4⟩, h5⟩, h6⟩, h7⟩, h8⟩ := h
      exact s_par2 C.ck (of_decide_eq_true h1) (of_decide_eq_true h2) (by simpa using h3) (of_decide_eq_true h4) (of_decide_eq_true h5) (swapped_eq C.kd (eq_of_beq h6)) h7 h8 ((snd_main a).e X W l C.ck h7) ((snd_main b).e X W r C.ck h8)
    · cases h
  | par3 i j k a b c =>
    refine ⟨fun X W st C h => ?_, fun X W l C h => (by cases h)⟩
    unfold isS at h
    split at h
    · rename_i x px y py z pz k q l r o k2 q2 p
      simp only [Bool.and_eq_true] at h
      obtain ⟨⟨⟨⟨⟨⟨⟨⟨⟨⟨⟨⟨h1, h2⟩, h3⟩, h4⟩, h5⟩, h6⟩, h7⟩, h8⟩, h9⟩, h10⟩, h11⟩, h12⟩, h13⟩ := h
      exact s_par3 C.ck (of_decide_eq_true h1) (of_decide_eq_true h2) (of_decide_eq_true h3) (by simpa using h4) (by simpa using h5) (by simpa using h6) (of_decide_eq_true h7) (of_decide_eq_true h8) (of_decide_eq_true h9) (swapped_eq C.kd (eq_of_beq h10)) h11 h12 h13 ((snd_main a).e X W l C.ck h11) ((snd_main b).e X W r C.ck h12) ((snd_main c).e X W o C.ck h13)
    · cases h
  | par3c i j k a b c =>
    refine ⟨fun X W st C h => ?_, fun X W l C h => (by cases h)⟩
    unfold isS at h
    split at h
    · rename_i x px y py z pz k q l r o k2 q2 p
      simp only [Bool.and_eq_true] at h
      obtain ⟨⟨⟨⟨⟨⟨⟨⟨⟨h1, h2⟩, h3⟩, h4⟩, h5⟩, h6⟩, h7⟩, h8⟩, h9⟩, h10⟩ := h
      exact s_par3c C.ck (of_decide_eq_true h1) (of_decide_eq_true h2) (of_decide_eq_true h3) C.fn h4 h5 h6 (noSwapS rfl) (swapped_eq C.kd (eq_of_beq h7)) h8 h9 h10 ((snd_main a).e X W l C.ck h8) ((snd_main b).e X W r C.ck h9) ((snd_main c).e X W o C.ck h10)
    · cases h
  | aug i o e =>
    refine ⟨fun X W st C h => ?_, fun X W l C h => (by cases h)⟩
    unfold isS at h
    split at h
    · rename_i x px op v p
      simp only [Bool.and_eq_true] at h
      obtain ⟨⟨⟨h1, h2⟩, h3⟩, h4⟩ := h
      obtain ⟨l1, l2⟩ := stB_fn C h2
      have : op = bop o := of_decide_eq_true h3
      subst this
      exact s_aug C.ck (of_decide_eq_true h1) l1 l2 ((snd_main e).e X W v C.ck h4)
    · cases h
  | setix i k e =>
    refine ⟨fun X W st C h => ?_, fun X W l C h => (by cases h)⟩
    unfold isS at h
    split at h
    · rename_i x px q pq v p
      simp only [Bool.and_eq_true] at h
      obtain ⟨⟨⟨⟨⟨h1, h2⟩, h3⟩, h4⟩, h5⟩, h6⟩ := h
      have h6' : isComp v = false := by simpa using h6
      refine s_setix (of_decide_eq_true h1) h2 h3 (noSwapS h6') ?_ ?_ ((snd_main e).e X W v C.ck h5) ((snd_main k).e X W q C.ck h4)
      · rfl
      · intro u
        cases q with
        | Slice _ _ _ _ => cases k <;> cases h4
        | _ => rfl
    · cases h
  | setd i k e =>
    refine ⟨fun X W st C h => ?_, fun X W l C h => (by cases h)⟩
    unfold isS at h
    split at h
    · rename_i x px q pq v p
      simp only [Bool.and_eq_true] at h
      obtain ⟨⟨⟨⟨⟨h1, h2⟩, h3⟩, h4⟩, h5⟩, h6⟩ := h
      have h6' : isComp v = false := by simpa using h6
      refine s_setd C.ck (of_decide_eq_true h1) h2 h3 (noSwapS h6') ?_ ?_ ((snd_main e).e X W v C.ck h5) ((snd_main k).e X W q C.ck h4)
      · rfl
      · intro u
        cases q with
        | Slice _ _ _ _ => cases k <;> cases h4
        | _ => rfl
    · cases h
  | setsl j o e =>
    refine ⟨fun X W st C h => ?_, fun X W l C h => (by cases h)⟩
    unfold isS at h
    split at h
    · rename_i ob x px v p
      simp only [Bool.and_eq_true] at h
      obtain ⟨⟨⟨h1, h2⟩, h3⟩, h4⟩ := h
      have h4' : isComp v = false := by simpa using h4
      exact s_setsl C.ck (of_decide_eq_true h1) (noSwap h4') ((snd_main o).e X W ob C.ck h2) ((snd_main e).e X W v C.ck h3)
    · cases h
  | frzv i b ih =>
    refine ⟨fun X W st C h => (by cases h), fun X W l C h => ?_⟩
    have h' : isSs nm X.N X.env.scope b l = true := h
    exact s_frzv (ih.ss X W l C h')
  | app i e =>
    refine ⟨fun X W st C h => ?_, fun X W l C h => (by cases h)⟩
    unfold isS at h
    split at h
    · rename_i x px a ap v q p
      simp only [Bool.and_eq_true] at h
      obtain ⟨⟨⟨⟨⟨h1, h2⟩, h3⟩, h4⟩, h5⟩, h6⟩ := h
      have : a = ("append" : Str) := of_decide_eq_true h4
      subst this
      exact s_app (of_decide_eq_true h1) h2 h3 h5 h6 ((snd_main e).e X W v C.ck h6)
    · cases h
  | expr e =>
    refine ⟨fun X W st C h => ?_, fun X W l C h => (by cases h)⟩
    cases st with
    | Expr v p =>
      simp only [isS, Bool.and_eq_true] at h
      have h6' : isComp v = false := by simpa using h.2
      exact s_expr (noSwap h6') ((snd_main e).e X W v C.ck h.1)
    | _ => cases h
  | ret e =>
    refine ⟨fun X W st C h => ?_, fun X W l C h => (by cases h)⟩
    unfold isS at h
    split at h
    · rename_i v p
      exact s_ret ((snd_main e).e X W v C.ck h)
    · cases h
  | retN =>
    refine ⟨fun X W st C h => ?_, fun X W l C h => (by cases h)⟩
    unfold isS at h
    split at h
    · rename_i p
      exact s_retN
    · cases h
  | ite c a b ih1 ih2 =>
    refine ⟨fun X W st C h => ?_, fun X W l C h => (by cases h)⟩
    cases st with
    | If t l r p =>
      simp only [isS, Bool.and_eq_true] at h
      obtain ⟨⟨⟨h1, h2⟩, h3⟩, h4⟩ := h
      exact s_ite ((snd_main c).t X W t C.ck h1 h2) (ih1.ss X W l C h3) (ih2.ss X W r C h4)
    | _ => cases h
  | whl c b ih =>
    refine ⟨fun X W st C h => ?_, fun X W l C h => (by cases h)⟩
    unfold isS at h
    split at h
    · rename_i t l p
      simp only [Bool.and_eq_true] at h
      exact s_whl C.ck ((snd_main c).t X W t C.ck h.1.1 h.1.2) (ih.ss X W l C h.2)
    · cases h
  | loop t it b ih =>
    refine ⟨fun X W st C h => ?_, fun X W l C h => (by cases h)⟩
    unfold isS at h
    split at h
    · rename_i tg iter l p
      simp only [Bool.and_eq_true] at h
      obtain ⟨q1, q2⟩ := (snd_main it).i X W tg iter C.ck h.1.2
      exact s_loop C.ck q1 q2 (g_tg C.ck.calm C.ck.nodup (fun _ => C.fn) t _ h.1.1) (ih.ss X W l C h.2)
    · cases h
  | brk =>
    refine ⟨fun X W st C h => ?_, fun X W l C h => (by cases h)⟩
    cases st with
    | Break p => exact s_brk
    | _ => cases h
  | cnt =>
    refine ⟨fun X W st C h => ?_, fun X W l C h => (by cases h)⟩
    cases st with
    | Continue p => exact s_cnt
    | _ => cases h
  | rse c es =>
    refine ⟨fun X W st C h => ?_, fun X W l C h => (by cases h)⟩
    unfold isS at h
    split at h
    · rename_i x px a p2 p
      simp only [Bool.and_eq_true] at h
      obtain ⟨⟨h1, h2⟩, h3⟩ := h
      cases hy : nm.excs[c]? with
      | none => rw [hy] at h1; cases h1
      | some y =>
        rw [hy] at h1
        simp only [Bool.and_eq_true, decide_eq_true_eq] at h1
        obtain ⟨h4, h5⟩ := h1
        cases hf : y.fld with
        | none =>
          rw [hf] at h5
          cases es with
          | nil =>
            cases a with
            | Constant cc j pp =>
              cases cc with
              | str m => exact s_rse0 C.ck hy h4 hf h2 h3
              | _ => cases h5
            | _ => cases h5
          | _ => cases h5
        | some f =>
          rw [hf] at h5
          match es, h5 with
          | .cons z .nil, h5 => exact s_rse1 C.ck hy h4 hf h2 h3 h5 ((snd_main z).e X W a C.ck h5)
    · cases h
  | tri b hs ih =>
    refine ⟨fun X W st C h => ?_, fun X W l C h => (by cases h)⟩
    unfold isS at h
    split at h
    · rename_i l h₀ hds p
      simp only [Bool.and_eq_true] at h
      refine s_tri C.ck C.st C.fr C.kd (fun W' pn xe tk po => ?_) h.2
      have C' : CkS nm cl P cal n (X.tr pn xe) W' := ⟨⟨C.ck.calm, C.ck.nodup, tk, po, C.ck.room, C.ck.md⟩, C.kd, C.fn, C.st, C.fr⟩
      exact ih.ss (X.tr pn xe) W' l C' h.1
    · cases h
end
end Iv
end
section
set_option autoImplicit false
set_option maxRecDepth 100000
set_option maxHeartbeats 4000000
namespace Iv
open PySem L2
/-! ### where a token is out: str.replace -/
theorem PET.imp {X : Cx} {e : Expr} {t t' : TE} (h : PET X e t) (k : ∀ σ H Q, t' σ H Q → t σ H Q) : PET X e t' := fun pins s σ H Q z I hw => h pins s σ H Q z I (k _ _ _ hw)
theorem PAT.imp {X : Cx} {e : List Expr} {t t' : TA} (h : PAT X e t) (k : ∀ σ H Q, t' σ H Q → t σ H Q) : PAT X e t' := fun p pins s σ H Q z I hw => h p pins s σ H Q z I (k _ _ _ hw)
theorem PST.imp {X : Cx} {e : Stmt} {t t' : TS} (h : PST X e t) (k : ∀ D σ H, t' D σ H → t D σ H) : PST X e t' := fun pins s σ H D z I hw => h pins s σ H D z I (k _ _ _ hw)
theorem PSsT.imp {X : Cx} {e : List Stmt} {t t' : TS} (h : PSsT X e t) (k : ∀ D σ H, t' D σ H → t D σ H) : PSsT X e t' := fun pins s σ H D z I hw => h pins s σ H D z I (k _ _ _ hw)
theorem replC_L {c : Nat} {z : Cs} : ∀ s : Cs, StrLaws.replL [c] z s = replC c z s
  | [] => StrLaws.replL_nil
  | x :: xs => by
    by_cases h : x = c
    · subst h
      rw [StrLaws.replL_hit (by simp) (by simp)]
      simp only [replC, if_true]
      rw [show (x :: xs).drop ([x] : Cs).length = xs from rfl, replC_L xs]
    · rw [StrLaws.replL_miss (by simpa using h)]
      simp only [replC, if_neg h]
      rw [replC_L xs]
theorem repl_S {c : Nat} {z s : Cs} : Txt.replace (S' s) (S' [c]) (S' z) = S' (replC c z s) := by
  rw [← S'_toList (Txt.replace (S' s) (S' [c]) (S' z)), StrLaws.replace_list (by simp [S'_length]), S'_list, S'_list, S'_list, replC_L]
theorem okc_repl {c : Nat} {z : Cs} (hz : Okc z) : ∀ {s : Cs}, Okc s → Okc (replC c z s)
  | [], h => h
  | x :: xs, h => by
    have h1 : Okc xs := fun c hc => h c (List.mem_cons_of_mem _ hc)
    simp only [replC]
    split
    · exact fun c hc => (List.mem_append.mp hc).elim (hz c) (okc_repl hz h1 c)
    · exact fun c hc => (List.mem_cons.mp hc).elim (fun e => e ▸ h x (List.mem_cons_self ..)) (okc_repl hz h1 c)
section
variable {nm : Nm} {cl : Nat → Addr} {P : Prg} {cal : Cal} {n : Nat} {X : Cx} {W : WX} {e l r : Expr} {es : List Expr} {pos : Pos} {x y z : Ex}
theorem te_repl {o : Ex} {c : Nat} {z : Cs} {ap p1 p2 : Pos} {j k : Nat} (h0 : noC0 l = true) (hl : (ap.endLine == pos.line) = true) (hz : ¬ z = [c]) (oz : Okc z) (ho : PE X l (TX nm cl X W (ev P cal o))) :
    PET X (.Call (.Attribute l "replace" ap) [.Constant (.str (S' [c])) j p1, .Constant (.str (S' z)) k p2] [] pos) (TX nm cl X W (ev P cal (.repl o c z))) := by
  have hyz : (S' [c] == S' z) = false := beq_eq_false_iff_ne.mpr fun q => hz (S'_inj q).symm
  refine PET.imp (CwR.pet_replC ho hyz rfl (base_e h0) hl) fun σ H Q ⟨F, G, m, r, S, rl, rv, out⟩ => ?_
  simp only [ev] at out
  refine tX.bind rl rv out fun u1 H1 G1 m1 v1 S1 g1 l1 rv1 r1 out => ?_
  split at out
  · rename_i s
    split at out
    · rename_i hs
      cases r1 with
      | str _ os =>
        refine ⟨S' s, rfl, ?_, ?_⟩
        · rw [S'_length, S'_length]
          have := Nat.mul_le_mul (show s.length + 1 ≤ 1001 by omega) hs.2
          omega
        · rw [repl_S]
          exact out G1 m1 H1 _ .refl l1 (.str _ (okc_repl oz os))
    · exact out.elim
  · exact out.elim
theorem pet_bmT {T id : String} {name : Str} {o e : Expr} {es : List Expr} {to : TE} {t : TA} {ap cp : Pos} {r : V → List V → Hp → VK → Prop} (pa : PlainAttrs T) (slot : Slot T name id) (hty : typeOf (.builtin id) = pure (.type "method_descriptor")) (hm : MtR X id r) (ho : PET X o to) (ha : PA X (e :: es) t)
    (hbase : attributeBase o name X.env (eval o X.env) = eval o X.env)
    (hfew : ((backTo cp (starEach (e :: es) X.env)).all (fun x => !x.1) && (backToKw cp (keywordEach [] X.env)).all (fun x => x.1.isSome) && decide ((e :: es).length + ([] : List Keyword).length + (if ([] : List Keyword).isEmpty then 0 else 1) < 30)) = true)
    (hline : (ap.endLine == cp.line) = true) (hs : starEach (e :: es) X.env = (false, eval e X.env) :: starEach es X.env) (hpl : (backTo cp (starEach es X.env)).any (fun x => x.1) = false) :
    PET X (.Call (.Attribute o name ap) (e :: es) [] cp) (tBM X.K T r to t) := by
  intro pins s σ H Q z I h
  refine wpAny_Call_method_late hbase hfew hline rfl (thn (ho pins s σ H _ z I h) fun v s1 ⟨y, H1, I1, r1, ty, q1⟩ => ?_)
  obtain ⟨h1, h2⟩ := tyV_is I1 r1 ty
  refine ⟨T, id, pa, slot, hty, h1, h2, ?_⟩
  have hA := ha.run cp pins s1 σ H1 _ I1 q1
  rw [hs] at hA ⊢
  refine Calls.callWith_builtin (by show (false || (backTo cp (starEach es X.env)).any (fun x => x.1)) = false; rw [hpl]; rfl) (Calls.evalArgs_plain ?_)
  exact thn hA fun us s2 ⟨vs, H2, I2, r2, q2⟩ => hm pins s2 σ H2 y vs v us Q I2 r1 r2 q2
theorem meth_read {m : Mt} {σ : L2.St} {H : Hp} {Q : VK} (h : TX nm cl X W (ev P cal (.meth m x y)) σ H Q) : tBM (kx cl X) "str" (rMt (kx cl X) m) (TX nm cl X W (ev P cal x)) (TXs nm cl X W (evs P cal y)) σ H Q := by
  obtain ⟨F, G, m', r, S, rl, rv, out⟩ := h
  simp only [ev] at out
  refine tX.bind rl rv out fun u1 H1 G1 m1 v1 S1 g1 l1 rv1 r1 out => ?_
  split at out
  · cases r1 with
    | str s os =>
      refine ⟨rfl, tX.bind l1 rv1 out fun u2 H2 G2 m2 v2 S2 g2 l2 rv2 r2 out => ?_⟩
      split at out
      · rename_i xs hx
        obtain ⟨d, hd, g⟩ := Out.optD out l2
        exact ⟨G2, _, xs, d, l2.ext, .str _ os, rdVs_rd l2 r2 hx, hd, g⟩
      · exact out.elim
  · exact out.elim
theorem te_meth {m : Mt} {ap : Pos} {sc' : Scope} {N' : List Str} (h0 : noC0 l = true) (hl : (ap.endLine == pos.line) = true) (hz : es.length < 20) (hs : isA nm N' sc' y (e :: es) = true)
    (ha : PET X l (TX nm cl X W (ev P cal x))) (hb : PA X (e :: es) (TXs nm cl X W (evs P cal y))) : PET X (.Call (.Attribute l (mtName m) ap) (e :: es) [] pos) (TX nm cl X W (ev P cal (.meth m x y))) := by
  obtain ⟨s1, s2⟩ := star_args (X := X) (pos := pos) hs
  have s3 : (((backTo pos (starEach (e :: es) X.env)).all fun x => !x.1) && ((backToKw pos (keywordEach [] X.env)).all fun x => x.1.isSome) && decide ((e :: es).length + ([] : List Keyword).length + (if ([] : List Keyword).isEmpty then 0 else 1) < 30)) = true := by
    rw [(any_star hs).2]
    have : decide ((e :: es).length + ([] : List Keyword).length + (if ([] : List Keyword).isEmpty then 0 else 1) < 30) = true := decide_eq_true (by simp; omega)
    rw [this]; rfl
  have key : PET X (.Call (.Attribute l (mtName m) ap) (e :: es) [] pos) (tBM (kx cl X) "str" (rMt (kx cl X) m) (TX nm cl X W (ev P cal x)) (TXs nm cl X W (evs P cal y))) := by
    have hr := mr_mt (cl := cl) (X := X) m
    cases m
    · exact pet_bmT PySem.F.plainAttrs_str PySem.F.slot_str_split PySem.F.type_str_split hr ha hb (base_e h0) s3 hl s1 s2
    · exact pet_bmT PySem.F.plainAttrs_str PySem.F.slot_str_join PySem.F.type_str_join hr ha hb (base_e h0) s3 hl s1 s2
    · exact pet_bmT PySem.F.plainAttrs_str PySem.F.slot_str_startswith PySem.F.type_str_startswith hr ha hb (base_e h0) s3 hl s1 s2
    · exact pet_bmT PySem.F.plainAttrs_str PySem.F.slot_str_lstrip PySem.F.type_str_lstrip hr ha hb (base_e h0) s3 hl s1 s2
    · exact pet_bmT PySem.F.plainAttrs_str PySem.F.slot_str_rstrip PySem.F.type_str_rstrip hr ha hb (base_e h0) s3 hl s1 s2
  exact PET.imp key fun σ H Q h => meth_read h
theorem te_lst (ha : PAT X es (TXs nm cl X W (evs P cal x))) : PET X (.List es pos) (TX nm cl X W (ev P cal (.lst x))) := by
  refine PET.imp (pet_lst ha) fun σ H Q ⟨F, G, m, r, S, rl, rv, out⟩ => ?_
  simp only [ev] at out
  refine tX.bind rl rv out fun u1 H1 G1 m1 v1 S1 g1 l1 rv1 r1 out => ?_
  split at out
  · rename_i xs hx
    split at out
    · rename_i hz
      exact ⟨by rw [← r1.length]; exact small_line hz, fun p hp => (Out.gives out l1).newL l1.ext (dsOf_reps r1 hx) hp⟩
    · exact out.elim
  · exact out.elim
theorem star_t {sc : Scope} {N : List Str} {env : Env} (h : isTE nm N sc x e = true) : starEach (e :: es) env = (false, eval e env) :: starEach es env := by
  cases e with
  | Starred _ _ => cases x <;> cases h
  | _ => rfl
theorem sndTE : ∀ x : Ex, (∀ (X : Cx) (W : WX) (e : Expr), Ck nm cl P cal n X W → isTE nm X.N X.env.scope x e = true → PET X e (TX nm cl X W (ev P cal x))) ∧
    (∀ (X : Cx) (W : WX) (es : List Expr), Ck nm cl P cal n X W → isTA nm X.N X.env.scope x es = true → PAT X es (TXs nm cl X W (evs P cal x))) := by
  intro x
  induction x with
  | repl o c z ih =>
    refine ⟨fun X W e C h => ?_, fun X W es C h => (by cases h)⟩
    match e, h with
    | .Call (.Attribute ob s ap) [.Constant (.str s1) j p1, .Constant (.str s2) k p2] [] p, h =>
      simp only [isTE, Bool.and_eq_true, decide_eq_true_eq, Bool.not_eq_true', decide_eq_false_iff_not] at h
      obtain ⟨⟨⟨⟨⟨⟨⟨rfl, h2⟩, h3⟩, rfl⟩, rfl⟩, h6⟩, h7⟩, h8⟩ := h
      exact te_repl h2 h3 h6 (fun c hc => by simpa using List.all_eq_true.mp h7 c hc) ((snd_main o).e X W ob C h8)
  | meth m o es ih1 ih2 =>
    refine ⟨fun X W e C h => ?_, fun X W es C h => (by cases h)⟩
    match e, h with
    | .Call (.Attribute ob s ap) (l :: ls) [] p, h =>
      simp only [isTE, Bool.and_eq_true, decide_eq_true_eq] at h
      obtain ⟨⟨⟨⟨⟨rfl, h2⟩, h3⟩, h4⟩, h5⟩, h6⟩ := h
      exact te_meth h2 h5 h6 h4 (ih1.1 X W ob C h3) ((snd_main es).pa X W (l :: ls) C h4)
  | lst es ih =>
    refine ⟨fun X W e C h => ?_, fun X W es C h => (by cases h)⟩
    match e, h with
    | .List l p, h => exact te_lst (ih.2 X W l C h)
  | nil =>
    refine ⟨fun X W e C h => CwR.PET.of ((snd_main _).e X W e C h), fun X W es C h => ?_⟩
    cases es with
    | nil => exact fun pos pins s σ H Q z I hw => a_nil.run pos pins s σ H Q I hw
    | cons _ _ => cases h
  | cons a b ih1 ih2 =>
    refine ⟨fun X W e C h => CwR.PET.of ((snd_main _).e X W e C h), fun X W es C h => ?_⟩
    cases es with
    | nil => cases h
    | cons e es =>
      simp only [isTA, Bool.and_eq_true] at h
      refine PAT.imp (pat_cons (ih1.1 X W e C h.1) (ih2.2 X W es C h.2) (star_t h.1)) fun σ H Q ⟨F, G, m, r, S, rl, rv, out⟩ => ?_
      simp only [evs] at out
      refine tX.bind rl rv out fun u1 H1 G1 m1 v1 S1 g1 l1 rv1 r1 out => ?_
      refine tX.bind l1 rv1 out fun u2 H2 G2 m2 v2 S2 g2 l2 rv2 r2 out => ?_
      exact out G2 m2 H2 _ .refl l2 (.cons (r1.mono g2) r2)
  | _ => exact ⟨fun X W e C h => CwR.PET.of ((snd_main _).e X W e C h), fun X W es C h => (by cases h)⟩
end
/-- suites where a token is out -/
def isSsT (nm : Nm) (N : List Str) (sc : Scope) : Iv.St → List Stmt → Bool
  | .skip, l => l.isEmpty
  | .seq (.ret e) b, l => match l with
    | .Return (some v) p :: rest => isTE nm N sc e v && isSsT nm N sc b rest
    | _ => false
  | .seq a b, l => match l with
    | st :: rest => isS nm N sc a st && isSsT nm N sc b rest
    | [] => false
  | _, _ => false
section
variable {nm : Nm} {cl : Nat → Addr} {P : Prg} {cal : Cal} {n : Nat}
theorem ts_seq {X : Cx} {W : WX} {a b : Iv.St} {st : Stmt} {rest : List Stmt} (ha : PST X st (tS nm cl X W (exec P cal a))) (hb : PSsT X rest (tS nm cl X W (exec P cal b))) : PSsT X (st :: rest) (tS nm cl X W (exec P cal (.seq a b))) := by
  refine PSsT.imp (psst_cons ha hb) fun D σ H ⟨F, G, m, r, S, rl, rv, out⟩ => ⟨F, G, m, r, S, rl, rv, ?_⟩
  simp only [exec] at out
  cases e : exec P cal a r S with
  | nx r1 S1 =>
    rw [e] at out
    exact fun G' m' σ' H' g l1 rv1 => ⟨F, G', m', r1, S1, l1, rv1, OutS.grow g out⟩
  | ret v S1 => rw [e] at out; exact out
  | brk r1 S1 => rw [e] at out; exact out
  | cnt r1 S1 => rw [e] at out; exact out
  | exc c fs r1 S1 => rw [e] at out; exact out
  | bad => rw [e] at out; exact out.elim
theorem sndST : ∀ (a : Iv.St) (X : Cx) (W : WX) (l : List Stmt), CkS nm cl P cal n X W → isSsT nm X.N X.env.scope a l = true → PSsT X l (tS nm cl X W (exec P cal a)) := by
  intro a
  induction a with
  | skip =>
    intro X W l C h
    cases l with
    | nil => exact PSsT.of s_skip
    | cons _ _ => cases h
  | seq a b ih1 ih2 =>
    intro X W l C h
    cases l with
    | nil => cases a <;> cases h
    | cons st rest =>
      by_cases hr : (∃ e, a = .ret e) 
      · obtain ⟨e, rfl⟩ := hr
        cases st with
        | Return v p =>
          cases v with
          | none => cases h
          | some v =>
            simp only [isSsT, Bool.and_eq_true] at h
            refine ts_seq (PST.imp (CwR.pst_ret ((sndTE e).1 X W v C.ck h.1)) fun D σ H ⟨F, G, m, r, S, rl, rv, out⟩ => ?_) (ih2 X W rest C h.2)
            simp only [exec] at out
            exact tX.st rl rv out fun u H1 G1 m1 v S1 g l1 rv1 r1 out => out G1 m1 H1 u .refl l1 r1
        | _ => cases h
      · have h' : (isS nm X.N X.env.scope a st && isSsT nm X.N X.env.scope b rest) = true := by
          cases a <;> first | exact h | exact absurd ⟨_, rfl⟩ hr
        rw [Bool.and_eq_true] at h'
        exact ts_seq (PST.of ((sndS a).s X W st C h'.1)) (ih2 X W rest C h'.2)
  | _ => intro X W l C h; cases h
end
end Iv
end
section
set_option autoImplicit false
set_option maxRecDepth 100000
set_option maxHeartbeats 4000000
namespace Iv
open PySem L2
/-! ### calls -/
theorem rlv_start {K : Fg} {G : Hp} {m : List Addr} {vs : List Vl} {us : List V} {N : List Str} {k : Nat} (r : RVs K G m vs us) (hk : k + us.length = N.length) : RlV K G m (vs.map some ++ List.replicate k none) (L2.start N us) := by
  have hl := r.length
  unfold L2.start
  refine ⟨by simp; omega, fun i v e n => ?_⟩
  by_cases hi : i < vs.length
  · rw [List.getElem?_append_left (by simpa using hi), List.getElem?_map] at e
    cases h : vs[i]? with
    | none => rw [h] at e; cases e
    | some w =>
      rw [h] at e; cases e
      have : ∃ u, us[i]? = some u ∧ RepV K G m v u := by
        clear hl hk n hi
        induction r generalizing i with
        | nil => simp at h
        | cons q r ih =>
          cases i with
          | zero => simp at h; subst h; exact ⟨_, rfl, q⟩
          | succ i => simpa using ih i (by simpa using h)
      obtain ⟨u, h1, h2⟩ := this
      exact ⟨u, by rw [List.getElem?_append_left (by simp; omega), List.getElem?_map, h1]; rfl, h2⟩
  · rw [List.getElem?_append_right (by simp; omega)] at e
    exfalso
    rw [List.getElem?_replicate] at e
    split at e <;> cases e
/-! ### a def's object, looked at -/
def pnames (p : Arguments) : List Str := p.args.map (·.arg) ++ (match p.vararg with | some a => [a.arg] | none => [])
def plainP (p : Arguments) : Bool := p.posonlyargs.isEmpty && p.kwonlyargs.isEmpty && p.kwarg.isNone
def scOk (N ps : List Str) (sc : Scope) : Bool := decide (sc.kind = .function) && !sc.isCoroutine && !sc.isGenerator && decide (N.Nodup) && decide (N.take ps.length = ps) &&
  ps.all (fun x => decide (sc.names.lookup x = some .local) || decide (sc.names.lookup x = some .cell)) && sc.names.all fun y => !decide (y.2 = .free)
theorem scOk_d {N ps : List Str} {sc : Scope} (h : scOk N ps sc = true) : FnScope N ps sc := by
  unfold scOk at h
  simp only [Bool.and_eq_true, decide_eq_true_eq, Bool.not_eq_true'] at h
  obtain ⟨⟨⟨⟨⟨⟨h1, h2⟩, h3⟩, h4⟩, h5⟩, h6⟩, h7⟩ := h
  refine ⟨h1, h2, h3, h4, h5, fun x hx => ?_, fun y hy => ?_⟩
  · have := List.all_eq_true.mp h6 x hx
    simpa using this
  · have := List.all_eq_true.mp h7 y hy
    simpa using this
def isAll : Ad → Bool
  | .all => true
  | _ => false
/-- the def at a is the def fn -/
def okFn (nm : Nm) (K : PySem.W.Frag) (fn : Fn) (N : List Str) (a : Addr) : Bool := match K.lookup a with
  | some ⟨_, _, .func fd, _⟩ => match fd.body with
    | .stmts body => decide (fd.globals = mainGlobals) && fd.closure.isEmpty && decide (fd.builtins = builtinsNs) && PySem.W.codeIn K fd.code fd.qualname && plainP fd.params && scOk N (pnames fd.params) fd.scope &&
      decide ((pnames fd.params).length = fn.np) && decide (N.length = fn.ns) && decide (fn.np ≤ fn.ns) && (isSs nm N fd.scope fn.body body || (isSsT nm N fd.scope fn.body body && (fd.scope.names.all fun y => !decide (y.2 = .cell)) && decide (1 ≤ fn.np) && isAll fn.ad))
    | _ => false
  | _ => false
section
variable {nm : Nm} {cl : Nat → Addr} {P : Prg} {fns : List Fn} {n : Nat} {prog : Program} {w : World} {K : PySem.W.Frag} {mg : Str → Option Value} {base : Heap}
/-- the promise of the whole arguments -/
def spR (nm : Nm) (mg : Str → Option Value) (K : Fg) (P : Prg) (cal : Cal) (fn : Fn) : Sp := fun us H Q E => us.length = fn.np ∧
  ∃ (F G : Hp) (m : List Addr) (vs : List Vl) (S : Hs), Rl K F G m S H ∧ RVs K G m vs us ∧ OutV nm.excs mg K (fun cls d _ H => E cls d H) F [] G m Q (runF P cal fn vs S)
/-- what the body does -/
theorem body_read {fn : Fn} {N ps : List Str} {qual : Str} {scope : Scope} {a : Addr} {cal : Cal} (M : Md nm cl P cal n prog w K mg base) (S : FnScope N ps scope) (h1 : fn.np ≤ fn.ns) (h2 : fn.ns = N.length)
    (cdv : Value) (A : Around) (outer : List Env) (s : Shared) (H : Hp) (vs : List V) (Q : VK) (E : XK) (hr : Room (3 * n + 2) (A.deeper (PyProof.Rows.envOfC qual scope s.heap.objs.size a cdv))) (h : spR nm mg ⟨K, cl⟩ P cal fn vs H Q E) :
    CkS nm cl P cal n (cxOf (L2.CX prog w) prog w K mg base N qual scope a cdv A outer s H E) (fun cls d _ H => E cls d H) ∧
      tS nm cl (cxOf (L2.CX prog w) prog w K mg base N qual scope a cdv A outer s H E) (fun cls d _ H => E cls d H) (exec P cal fn.body) { nx := fun _ H' => Q .non H', rt := Q } (start N vs) H := by
  obtain ⟨hl, F0, G, m, ds, S0, l0, rv0, out⟩ := h
  let X : Cx := cxOf (L2.CX prog w) prog w K mg base N qual scope a cdv A outer s H E
  have ck : CkS nm cl P cal n X (fun cls d _ H => E cls d H) := ⟨⟨rfl, S.nd, takes_of rfl rfl rfl rfl, passes_of rfl, hr, M⟩, S.kind, fun _ => rfl, rfl, rfl⟩
  refine ⟨ck, ?_⟩
  have hd : ds.length = fn.np := by rw [rv0.length]; exact hl
  refine ⟨F0, G, m, ds.map some ++ List.replicate (fn.ns - fn.np) none, S0, l0, rlv_start rv0 (by rw [hl, ← h2]; omega), ?_⟩
  simp only [runF, hd, if_true] at out
  have hm : S0.length = m.length := l0.len.symm
  cases e : exec P cal fn.body (ds.map some ++ List.replicate (fn.ns - fn.np) none) S0 with
  | nx r1 S1 =>
    rw [e] at out
    simp only [fin, hm] at out
    exact fun G' m' σ' H' g l1 rv1 => out G' _ H' .non g.take (l1.take _) .non
  | ret v S1 =>
    rw [e] at out
    cases v with
    | d d =>
      simp only [fin, hm] at out
      exact fun G' m' H' u g l1 r1 => out G' _ H' u g.take (l1.take _) r1
    | loc k =>
      simp only [fin] at out
      exact fun G' m' H' u g l1 r1 => out G' m' H' u g l1 r1
    | xc c fs =>
      simp only [fin] at out
      exact fun G' m' H' u g l1 r1 => out G' m' H' u g l1 r1
  | brk r1 S1 => rw [e] at out; exact out.elim
  | cnt r1 S1 => rw [e] at out; exact out.elim
  | exc c fs r1 S1 =>
    rw [e] at out
    simp only [fin, hm] at out
    exact fun G' m' σ' H' cls d g l1 rv1 rx => out G' _ H' cls d g.take (l1.take _) rx
  | bad => rw [e] at out; exact out.elim
theorem body_sound {fn : Fn} {N ps : List Str} {body : List Stmt} {qual : Str} {scope : Scope} {a : Addr} {cal : Cal} (M : Md nm cl P cal n prog w K mg base) (S : FnScope N ps scope) (h1 : fn.np ≤ fn.ns) (h2 : fn.ns = N.length) (hb : isSs nm N scope fn.body body = true)
    (cdv : Value) (A : Around) (outer : List Env) (s : Shared) (H : Hp) (vs : List V) (Q : VK) (E : XK) (hr : Room (3 * n + 2) (A.deeper (PyProof.Rows.envOfC qual scope s.heap.objs.size a cdv))) (h : spR nm mg ⟨K, cl⟩ P cal fn vs H Q E) :
    ∃ t, PSs (cxOf (L2.CX prog w) prog w K mg base N qual scope a cdv A outer s H E) body t ∧ t { nx := fun _ H' => Q .non H', rt := Q } (start N vs) H :=
  let ⟨ck, t⟩ := body_read M S h1 h2 cdv A outer s H vs Q E hr h
  ⟨_, (sndS fn.body).ss _ _ body ck hb, t⟩
theorem body_soundT {fn : Fn} {N ps : List Str} {body : List Stmt} {qual : Str} {scope : Scope} {a : Addr} {cal : Cal} (M : Md nm cl P cal n prog w K mg base) (S : FnScope N ps scope) (h1 : fn.np ≤ fn.ns) (h2 : fn.ns = N.length) (hb : isSsT nm N scope fn.body body = true)
    (cdv : Value) (A : Around) (outer : List Env) (s : Shared) (H : Hp) (vs : List V) (Q : VK) (E : XK) (hr : Room (3 * n + 2) (A.deeper (PyProof.Rows.envOfC qual scope s.heap.objs.size a cdv))) (h : spR nm mg ⟨K, cl⟩ P cal fn vs H Q E) :
    ∃ t, PSsT (cxOf (L2.CX prog w) prog w K mg base N qual scope a cdv A outer s H E) body t ∧ t { nx := fun _ H' => Q .non H', rt := Q } (start N vs) H :=
  let ⟨ck, t⟩ := body_read M S h1 h2 cdv A outer s H vs Q E hr h
  ⟨_, sndST fn.body _ _ body ck hb, t⟩
/-- what okFn says -/
theorem okFn_d {fn : Fn} {N : List Str} {a : Addr} (h : okFn nm K fn N a = true) : ∃ (oc : Value) (od : Option Addr) (name qual : Str) (params : Arguments) (body : List Stmt) (scope : Scope) (dV kV doc pm : Value) (an : Option Addr) (cdv ct : Value) (osl : Array (Option Value)),
    K.lookup a = some ⟨oc, od, .func (PySem.W.fnOf name qual params body scope dV kV doc pm an cdv ct), osl⟩ ∧ PySem.W.codeIn K cdv qual = true ∧ plainP params = true ∧ FnScope N (pnames params) scope ∧ (pnames params).length = fn.np ∧ N.length = fn.ns ∧ fn.np ≤ fn.ns ∧ (isSs nm N scope fn.body body = true ∨ (isSsT nm N scope fn.body body = true ∧ (∀ y ∈ scope.names, y.2 ≠ .cell) ∧ 1 ≤ (pnames params).length ∧ isAll fn.ad = true)) := by
  unfold okFn at h
  split at h
  · rename_i oc od fd osl hk
    obtain ⟨name, qual, params, fb, scope, globals, closure, dV, kV, doc, pm, an, cdv, ct, bi⟩ := fd
    dsimp only at h
    split at h
    · rename_i fb0 body
      simp only [Bool.and_eq_true, decide_eq_true_eq, List.isEmpty_iff] at h
      obtain ⟨⟨⟨⟨⟨⟨⟨⟨⟨h1, h2⟩, h3⟩, h4⟩, h5⟩, h6⟩, h7⟩, h8⟩, h9⟩, h10⟩ := h
      subst h1; subst h2; subst h3

      refine ⟨oc, od, name, qual, params, body, scope, dV, kV, doc, pm, an, cdv, ct, osl, hk, h4, h5, scOk_d h6, h7, h8, h9, ?_⟩
      rw [Bool.or_eq_true, Bool.and_eq_true, Bool.and_eq_true, Bool.and_eq_true] at h10
      refine h10.imp id fun z => ⟨z.1.1.1, fun y hy e => ?_, by rw [h7]; exact of_decide_eq_true z.1.2, z.2⟩
      have := List.all_eq_true.mp z.1.1.2 y hy
      simp [e] at this
    · cases h
  · cases h
/-! ### how the arguments come -/
theorem lookup_zip : ∀ {ps : List Str} {us : List Value} {x : Str} {u : Value} {j : Nat}, ps.Nodup → ps[j]? = some x → us[j]? = some u → (ps.zip us).lookup x = some u
  | [], _, _, _, _, _, e, _ => by simp at e
  | p :: ps, [], _, _, j, _, _, e => by simp at e
  | p :: ps, v :: us, x, u, 0, _, e1, e2 => by
    simp at e1 e2; subst e1; subst e2
    simp [List.lookup]
  | p :: ps, v :: us, x, u, j + 1, nd, e1, e2 => by
    rw [List.nodup_cons] at nd
    have hx : ps[j]? = some x := by simpa using e1
    have ne : x ≠ p := fun e => nd.1 (e ▸ List.mem_of_getElem? hx)
    rw [List.zip_cons_cons, List.lookup_cons, beq_eq_false_iff_ne.mpr ne]
    exact lookup_zip nd.2 hx (by simpa using e2)
theorem filter_zip : ∀ (qs ps : List Str) (us ws : List Value), (∀ (j : Nat) (x : Str) (u : Value), qs[j]? = some x → ws[j]? = some u → (ps.zip us).lookup x = some u) → qs.length = ws.length → (qs.filterMap fun x => ((ps.zip us).lookup x).map (x, ·)) = qs.zip ws
  | [], _, _, [], _, _ => rfl
  | [], _, _, _ :: _, _, h => by simp at h
  | _ :: _, _, _, [], _, h => by simp at h
  | q :: qs, ps, us, v :: ws, h, hl => by
    have h0 := h 0 q v rfl rfl
    rw [List.filterMap_cons, h0]
    simp only [Option.map_some]
    rw [filter_zip qs ps us ws (fun j x u e1 e2 => h (j + 1) x u (by simpa using e1) (by simpa using e2)) (by simpa using hl)]
    rfl
theorem missing_zip {qs ps : List Str} {us : List Value} (nd : ps.Nodup) (hl : ps.length ≤ us.length) (hq : ∀ x ∈ qs, x ∈ ps) : (qs.filter fun x => ((ps.zip us).lookup x).isNone) = [] := by
  rw [List.filter_eq_nil_iff]
  intro x hx
  obtain ⟨j, hj⟩ := List.mem_iff_getElem?.mp (hq x hx)
  have hjl : j < us.length := Nat.lt_of_lt_of_le (List.getElem?_eq_some_iff.mp hj).1 hl
  rw [lookup_zip nd hj (List.getElem?_eq_getElem hjl)]
  simp
theorem binds_all {name qual : Str} {params : Arguments} {body : List Stmt} {scope : Scope} {kV doc pm cdv ct : Value} {an : Option Addr} (hp : plainP params = true) (hv : params.vararg = none) (nd : (params.args.map (·.arg)).Nodup) (us : List Value) (hl : us.length = (params.args.map (·.arg)).length) :
    bindArgs (PySem.W.fnOf name qual params body scope .none kV doc pm an cdv ct) ⟨us, []⟩ = pure ((params.args.map (·.arg)).zip us) := by
  unfold plainP at hp
  simp only [Bool.and_eq_true, List.isEmpty_iff, Option.isNone_iff_eq_none] at hp
  obtain ⟨⟨h1, h2⟩, h3⟩ := hp
  unfold bindArgs
  simp only [PySem.W.fnOf, h1, h2, h3, hv, List.map_nil, List.nil_append, List.append_nil]
  generalize params.args.map (·.arg) = ps at nd hl ⊢
  have hn : ¬ (ps.length < us.length) := by omega
  have e1 : (ps.filter fun n => ((ps.zip us).lookup n).isNone) = [] := missing_zip nd (by omega) fun x hx => hx
  have e2 := filter_zip ps ps us us (fun j x u f1 f2 => lookup_zip nd f1 f2) hl.symm
  have e3 : (notAStandIn Value.none : Sem Unit) = pure () := rfl
  have e4 : (ps.take ps.length) = ps := List.take_length
  simp [seqItems?, hn, e1, e2, e3, e4]
theorem binds_dfl {name qual : Str} {params : Arguments} {body : List Stmt} {scope : Scope} {kV doc pm cdv ct d : Value} {an : Option Addr} {T : Addr} {o : Obj} {k : Nat} {qs : List Str} {q : Str} (hp : plainP params = true) (hv : params.vararg = none) (hps : params.args.map (·.arg) = qs ++ [q]) (nd : (qs ++ [q]).Nodup)
    (lT : K.lookup T = some o) (oT : o.data = .seq #[d] k) (s : Shared) (X : K.In s.heap) (us ws : List Value) (hw : (us.length = qs.length + 1 ∧ ws = us) ∨ (us.length = qs.length ∧ ws = us ++ [d])) :
    BindsTo s (PySem.W.fnOf name qual params body scope (.ref T) kV doc pm an cdv ct) ⟨us, []⟩ ((qs ++ [q]).zip ws) := by
  unfold plainP at hp
  simp only [Bool.and_eq_true, List.isEmpty_iff, Option.isNone_iff_eq_none] at hp
  obtain ⟨⟨h1, h2⟩, h3⟩ := hp
  refine BindsTo.of_looks fun M => ?_
  unfold bindArgs
  simp only [PySem.W.fnOf, h1, h2, h3, hv, List.map_nil, List.nil_append, List.append_nil, hps]
  have hlw : ws.length = qs.length + 1 := by rcases hw with ⟨a, rfl⟩ | ⟨a, rfl⟩ <;> simp [a]
  have hn : ¬ ((qs ++ [q]).length < us.length) := by rcases hw with ⟨a, _⟩ | ⟨a, _⟩ <;> simp [a]
  have e1 : (qs.filter fun n => (((qs ++ [q]).zip us).lookup n).isNone) = [] := by
    rw [List.filter_eq_nil_iff]
    intro x hx
    obtain ⟨j, hj⟩ := List.mem_iff_getElem?.mp hx
    have hjq : j < qs.length := (List.getElem?_eq_some_iff.mp hj).1
    have hjl : j < us.length := by rcases hw with ⟨a, _⟩ | ⟨a, _⟩ <;> omega
    rw [lookup_zip nd (j := j) (by rw [List.getElem?_append_left hjq]; exact hj) (List.getElem?_eq_getElem hjl)]
    simp
  have e2 := filter_zip (qs ++ [q]) (qs ++ [q]) ws ws (fun j x u f1 f2 => lookup_zip nd f1 f2) (by simp [hlw])
  simp only [List.forIn_nil, pure_bind]
  refine looks_items X lT oT (PySem.W.Looks.of_pure ?_)
  simp only [Option.getD_some]
  have e5 : (qs ++ [q]).take ((qs ++ [q]).length - 1) = qs := by simp
  have e6 : (qs ++ [q]).drop ((qs ++ [q]).length - 1) = [q] := by simp
  have e7 : ([d] : List Value).drop (1 - (qs ++ [q]).length) = [d] := by simp
  have hn' : ¬ (qs.length + 1 < us.length) := by simpa using hn
  rcases hw with ⟨a, e⟩ | ⟨a, e⟩
  · rw [e] at e2 ⊢
    have lq : (((qs ++ [q]).zip us).lookup q) = some (us[qs.length]'(by omega)) := lookup_zip nd (j := qs.length) (by simp) (List.getElem?_eq_getElem (by omega))
    simp [-List.filterMap_append, hn', e1, e2, e5, e6, e7, lq]
  · rw [e] at e2 ⊢
    have lq : (((qs ++ [q]).zip us).lookup q) = none := by
      rw [show (qs ++ [q]).zip us = qs.zip us by
        rw [← List.append_nil us, List.zip_append a.symm]; simp]
      rw [List.nodup_append] at nd
      have hq : q ∉ qs := fun hm => nd.2.2 q hm q (by simp) rfl
      clear e1 e2 e5 e6 e7 hn hn' hlw hps nd a e
      induction qs generalizing us with
      | nil => rfl
      | cons p qs ih =>
        cases us with
        | nil => rfl
        | cons u us =>
          rw [List.zip_cons_cons, List.lookup_cons, beq_eq_false_iff_ne.mpr (fun e => hq (by simp [e]))]
          exact ih us fun hm => hq (List.mem_cons_of_mem _ hm)
    have ez : (qs ++ [q]).zip us ++ [(q, d)] = (qs ++ [q]).zip (us ++ [d]) := by
      rw [show (qs ++ [q]).zip us = qs.zip us by
        rw [← List.append_nil us, List.zip_append a.symm]; simp]
      rw [List.zip_append a.symm]; rfl
    simp [-List.filterMap_append, hn', e1, e5, e6, e7, lq, ez, e2]
theorem binds_star {name qual : Str} {params : Arguments} {body : List Stmt} {scope : Scope} {kV doc pm cdv ct : Value} {an : Option Addr} {pa : Str} {va : Arg} (hp : plainP params = true) (hv : params.vararg = some va) (hps : params.args.map (·.arg) = [pa]) (u : Value) (rest : List Value) :
    bindArgs (PySem.W.fnOf name qual params body scope .none kV doc pm an cdv ct) ⟨u :: rest, []⟩ = (newTuple rest >>= fun t => pure [(pa, u), (va.arg, t)]) := by
  unfold plainP at hp
  simp only [Bool.and_eq_true, List.isEmpty_iff, Option.isNone_iff_eq_none] at hp
  obtain ⟨⟨h1, h2⟩, h3⟩ := hp
  unfold bindArgs
  simp only [PySem.W.fnOf, h1, h2, h3, hv, List.map_nil, List.nil_append, List.append_nil, hps]
  have e3 : (notAStandIn Value.none : Sem Unit) = pure () := rfl
  simp [seqItems?, e3, List.lookup]
/-! ### static data -/
def repS (K : PySem.W.Frag) : D → Value → Bool
  | .non, .none => true
  | .bl b, .bool c => b == c
  | .int i, .int j _ => decide (i = j)
  | .str s, .str x _ => decide (x = S' s) && s.all fun c => decide (c < 1114112)
  | .ptp [], .ref b => match K.lookup b with
    | some ⟨.type t, none, .seq its _, _⟩ => decide (t = "tuple") && its.isEmpty
    | _ => false
  | _, _ => false
theorem repS_d {d : D} {u : Value} (h : repS K d u = true) : ∃ v, RelV v u ∧ ∀ G, Rep ⟨K, cl⟩ G d v := by
  unfold repS at h
  split at h
  · exact ⟨.non, rfl, fun _ => .non⟩
  · rename_i b c
    have e := eq_of_beq h
    subst e
    exact ⟨.bl b, rfl, fun _ => .bl b⟩
  · rename_i i j t
    have e : i = j := of_decide_eq_true h
    subst e
    exact ⟨.int i, ⟨t, rfl⟩, fun _ => .int i⟩
  · rename_i s x t
    rw [Bool.and_eq_true] at h
    have e : x = S' s := of_decide_eq_true h.1
    subst e
    exact ⟨.str (S' s), ⟨t, rfl⟩, fun _ => .str s fun c hc => by simpa using List.all_eq_true.mp h.2 c hc⟩
  · rename_i b
    split at h
    · rename_i t its k sl hk
      rw [Bool.and_eq_true] at h
      have e : t = "tuple" := of_decide_eq_true h.1
      subst e
      have hi : its = #[] := by simpa using h.2
      subst hi
      exact ⟨.ref b, rfl, fun _ => .ptp ⟨_, [], k, .inr ⟨hk, .nil⟩, rfl, rfl, rfl, by simp⟩ .nil⟩
    · cases h
  · cases h
/-- the arguments of the def at a come so -/
def okAd (K : PySem.W.Frag) (ad : Ad) (a : Addr) : Bool := match K.lookup a with
  | some ⟨_, _, .func fd, _⟩ => match ad with
    | .all => fd.params.vararg.isNone && (match fd.defaults with
      | .none => true
      | .ref T => match K.lookup T with
        | some ⟨_, _, .seq its _, _⟩ => decide (its.size = 1) && !fd.params.args.isEmpty
        | _ => false
      | _ => false)
    | .dfl ds => fd.params.vararg.isNone && (match fd.defaults with
      | .ref T => match K.lookup T with
        | some ⟨_, _, .seq its _, _⟩ => !fd.params.args.isEmpty && (match ds, its.toList with
          | [d], [u] => repS K d u
          | _, _ => false)
        | _ => false
      | _ => false)
    | .star => match fd.defaults with
      | .none => fd.params.vararg.isSome && decide (fd.params.args.length = 1)
      | _ => false
  | _ => false
theorem cx_new : CXNew (L2.CX prog w) := by
  intro outer s H h2 p rest E e s' kp hp hn c
  obtain ⟨a, B, H', cls, d, q1, q2, q3, q4, q5, q6, q7, q8⟩ := c
  have ne : ∀ b o, s.heap.get? b = some o → b ≠ p := fun b o e => Nat.ne_of_lt (Nat.lt_of_lt_of_le (Heap.lt_size e) hp)
  have nh : ∀ b o, H b = some o → upd H p (.tup rest) b = some o := fun b o e => by rw [upd_ne (ne_of_none e hn)]; exact e
  refine ⟨a, B, H', cls, d, q1, q2, q3, ⟨fun b o e1 e2 => q4.keep b o (kp b o e1) (by rw [upd_ne (ne b o e1)]; exact e2), fun b o e1 => q4.slot b o (kp b o e1), fun b o e1 e2 => q4.free b o (kp b o e1) (by rw [upd_ne (ne b o e1)]; exact e2), fun b o e1 => q4.there b o (kp b o e1),
    fun b xs e1 => q4.tups b xs (nh _ _ e1), fun b o xs e1 => q4.frzs b o xs (nh _ _ e1), fun b ps e1 => q4.tbls b ps (nh _ _ e1)⟩, q5, q6, q7, q8⟩
theorem Paired.split {α β : Type} {R : α → β → Prop} : ∀ {as : List α} {bs : List β} {cs : List α} {ds : List β}, Paired R as bs → Paired R cs ds → Paired R (as ++ cs) (bs ++ ds)
  | _, _, _, _, .nil, h => h
  | _, _, _, _, .cons h t, q => .cons h (Paired.split t q)
theorem reps_rvs {K : Fg} {G : Hp} {m : List Addr} : ∀ {ds : List D} {vs : List V}, Reps K G ds vs → RVs K G m (ds.map .d) vs
  | _, _, .nil => .nil
  | _, _, .cons h t => .cons h (reps_rvs t)
/-- from the object of a def to what a call of it does -/
theorem fn_R {f : Nat} {fn : Fn} {N : List Str} {a : Addr} (M : Md nm cl P (call P fns n) n prog w K mg base) (hf : fns[f]? = some fn) (h : okFn nm K fn N a = true) (ha : okAd K fn.ad a = true) :
    FnR prog w K mg base (L2.CX prog w) (3 * (n + 1)) a (spC nm mg ⟨K, cl⟩ (call P fns (n + 1) f)) := by
  obtain ⟨oc, od, name, qual, params, body, scope, dV, kV, doc, pm, an, cdv, ct, osl, lk, hcd, hpl, S, h7, h8, h9, h10⟩ := okFn_d h
  unfold okAd at ha
  rw [lk] at ha
  dsimp only at ha
  have hcall : ∀ vs S', call P fns (n + 1) f vs S' = match adapt fn.ad fn.np vs with
      | some ws => runF P (call P fns n) fn ws S'
      | none => .bad := fun vs S' => by first | (simp only [call, hf]; done) | (simp only [call, hf]; rfl)
  have F : FnOk prog w K mg base (L2.CX prog w) (3 * n + 3) a (PySem.W.fnOf name qual params body scope dV kV doc pm an cdv ct) (pnames params) (spR nm mg ⟨K, cl⟩ P (call P fns n) fn) :=
    h10.elim (fun z => fn_of (k := 3 * n + 2) lk hcd S (fun vs H Q E q => by rw [h7]; exact q.1) fun A outer s H vs Q E hr q => body_sound M S h9 h8.symm z cdv A outer s H vs Q E hr q)
      fun z => fn_ofT (k := 3 * n + 2) lk hcd S z.2.1 z.2.2.1 (fun vs H Q E q => by rw [h7]; exact q.1) fun A outer s H vs Q E hr q => body_soundT M S h9 h8.symm z.1 cdv A outer s H vs Q E hr q
  have runLen : ∀ {ws : List Vl} {S' : Hs} {σ : L2.St} {F G : Hp} {m : List Addr} {Q : VK} {W : WX}, OutV nm.excs mg ⟨K, cl⟩ W F σ G m Q (runF P (call P fns n) fn ws S') → ws.length = fn.np := fun {ws S' σ F G m Q W} o => by
    by_cases e : ws.length = fn.np
    · exact e
    · simp only [runF, e, if_false] at o; exact o.elim
  cases had : fn.ad with
  | all =>
    rw [had] at ha
    simp only [Bool.and_eq_true, Option.isNone_iff_eq_none] at ha
    have hpn : pnames params = params.args.map (·.arg) := by unfold pnames; rw [ha.1]; simp
    have nd : (params.args.map (·.arg)).Nodup := by
      have := S.pre
      rw [← hpn, ← S.pre]
      exact (List.take_sublist _ _).nodup S.nd
    have bnd : Binds K (PySem.W.fnOf name qual params body scope dV kV doc pm an cdv ct) (pnames params) [] := by
      intro s us X hl
      rw [List.append_nil] at hl ⊢
      rw [hpn] at hl ⊢
      have h2 := ha.2
      cases dV with
      | none => exact .of_eq (binds_all hpl ha.1 nd us hl)
      | ref T =>
        dsimp only at h2
        split at h2
        · rename_i oc' od' its k sl hT
          simp only [Bool.and_eq_true, decide_eq_true_eq, Bool.not_eq_true', List.isEmpty_eq_false_iff] at h2
          obtain ⟨d, hd⟩ : ∃ d, its = #[d] := by
            obtain ⟨l⟩ := its
            match l, h2.1 with
            | [d], _ => exact ⟨d, rfl⟩
          subst hd
          have hne : params.args.map (·.arg) ≠ [] := by simpa using h2.2
          obtain ⟨qs, q, hq⟩ : ∃ qs q, params.args.map (·.arg) = qs ++ [q] := ⟨_, _, (List.dropLast_concat_getLast hne).symm⟩
          rw [hq] at hl nd ⊢
          exact binds_dfl hpl ha.1 hq nd hT rfl s X us us (.inl ⟨by simpa using hl, rfl⟩)
        · cases h2
      | _ => cases h2
    refine (F.raw bnd .nil).mono (by omega) |>.imp fun vs H Q E ⟨F0, G, m, ds, S', l, r, out⟩ => ?_
    rw [hcall, had] at out
    simp only [adapt] at out
    have hl := runLen out
    refine ⟨by rw [List.append_nil, ← r.length]; exact hl, F0, G, m, ds, S', l, by rw [List.append_nil]; exact r, out⟩
  | dfl ds0 =>
    rw [had] at ha
    simp only [Bool.and_eq_true, Option.isNone_iff_eq_none] at ha
    have hpn : pnames params = params.args.map (·.arg) := by unfold pnames; rw [ha.1]; simp
    have nd : (params.args.map (·.arg)).Nodup := by
      rw [← hpn, ← S.pre]
      exact (List.take_sublist _ _).nodup S.nd
    have h2 := ha.2
    cases dV with
    | ref T =>
      dsimp only at h2
      split at h2
      · rename_i oc' od' its k sl hT
        rw [Bool.and_eq_true] at h2
        have h3 := h2.2
        split at h3
        · rename_i d u hits
          have hi : its = #[u] := by
            obtain ⟨l⟩ := its
            simp at hits
            subst hits
            rfl
          subst hi
          have hne : params.args.map (·.arg) ≠ [] := by simpa using h2.1
          obtain ⟨qs, q, hq⟩ : ∃ qs q, params.args.map (·.arg) = qs ++ [q] := ⟨_, _, (List.dropLast_concat_getLast hne).symm⟩
          obtain ⟨v, rv, rep⟩ := repS_d (cl := cl) h3
          have bnd : Binds K (PySem.W.fnOf name qual params body scope (.ref T) kV doc pm an cdv ct) (pnames params) [u] := by
            intro s us X hl
            rw [hpn] at hl ⊢
            rw [hq] at hl nd ⊢
            exact binds_dfl hpl ha.1 hq nd hT rfl s X us (us ++ [u]) (.inr ⟨by simpa using hl, rfl⟩)
          refine (F.raw (dvs := [v]) bnd (.cons rv .nil)).mono (by omega) |>.imp fun vs H Q E ⟨F0, G, m, ds, S', l, r, out⟩ => ?_
          rw [hcall, had] at out
          simp only [adapt, List.map_cons, List.map_nil] at out
          have hl := runLen out
          have r2 : RVs ⟨K, cl⟩ G m (ds ++ [.d d]) (vs ++ [v]) := Paired.split r (.cons (show RepV ⟨K, cl⟩ G m (.d d) v from rep G) .nil)
          exact ⟨by rw [← r2.length]; exact hl, F0, G, m, _, S', l, r2, out⟩
        · cases h3
      · cases h2
    | _ => cases h2
  | star =>
    rw [had] at ha
    dsimp only at ha
    cases dV with
    | none =>
      simp only [Bool.and_eq_true, decide_eq_true_eq, Option.isSome_iff_exists] at ha
      obtain ⟨⟨va, hva⟩, hlen⟩ := ha
      obtain ⟨pa, hpa⟩ : ∃ pa, params.args.map (·.arg) = [pa] := by
        match hh : params.args, hlen with
        | [x], _ => exact ⟨x.arg, rfl⟩
      have hpn : pnames params = [pa, va.arg] := by unfold pnames; rw [hva, hpa]; rfl
      have S' := S
      rw [hpn] at S'
      have h10 : isSs nm N scope fn.body body = true := h10.elim id fun z => (by have y := z.2.2.2; rw [had] at y; cases y)
      have FV := fn_ofV (CX := L2.CX prog w) (P := prog) (w := w) (mg := mg) (base := base) (k := 3 * n + 2) (nmax := 5) (sp := spR nm mg ⟨K, cl⟩ P (call P fns n) fn) lk hcd S' (by decide) (fun u rest _ => binds_star hpl hva hpa u rest) cx_new
        (fun A outer s H vs Q E hr q => body_sound M S' h9 h8.symm h10 cdv A outer s H vs Q E hr q)
      refine FV.mono (by omega) |>.imp fun vs H Q E ⟨F0, G, m, ds, S0, l, r, out⟩ => ?_
      rw [hcall, had] at out
      have hnp : fn.np = 2 := by rw [← h7, hpn]; rfl
      rw [hnp] at out
      cases r with
      | nil => simp only [adapt] at out; exact out.elim
      | @cons v u ds us r0 rs =>
        simp only [adapt] at out
        split at out
        · rename_i ws hws
          split at hws
          · rename_i h5
            cases hd : dsOf ds with
            | none => rw [hd] at hws; cases hws
            | some xs =>
              rw [hd] at hws
              cases hws
              refine ⟨u, us, rfl, by rw [← rs.length]; exact h5, fun p hp => ?_⟩
              have al : Al G H _ _ := Al.one (o := .tup us) hp
              refine ⟨by rw [hnp]; rfl, F0, _, m, _, S0, l.al al, .cons (r0.mono (al.grow l.ext)) (.cons (show RepV ⟨K, cl⟩ _ m (.d (.tup xs)) (.ref p) from .tup (.inl (.inl upd_same)) ((dsOf_reps rs hd).mono (al.ext l.ext).2.1)) .nil), Out.grow (al.grow l.ext) out⟩
          · cases hws
        · exact out.elim
    | _ => cases ha
end
end Iv
end
section
set_option autoImplicit false
set_option maxRecDepth 100000
set_option maxHeartbeats 4000000
namespace Iv
open PySem PySem.W PySem.Calls
/-! ### a look at the classes of errors -/
structure Bas where
  B : String
  newId : String
  i : String
  bmB : List Value
def bases : List Bas := [
  ⟨"ValueError", "ValueError.__new__", "ValueError.__init__", [.type "ValueError", .type "Exception", .type "BaseException", .type "object"]⟩,
  ⟨"LookupError", "LookupError.__new__", "LookupError.__init__", [.type "LookupError", .type "Exception", .type "BaseException", .type "object"]⟩,
  ⟨"IndexError", "IndexError.__new__", "IndexError.__init__", [.type "IndexError", .type "LookupError", .type "Exception", .type "BaseException", .type "object"]⟩,
  ⟨"OverflowError", "OverflowError.__new__", "OverflowError.__init__", [.type "OverflowError", .type "ArithmeticError", .type "Exception", .type "BaseException", .type "object"]⟩]
theorem bases_ok {b : Bas} (h : b ∈ bases) : BasF b.B b.newId b.i b.bmB := by
  simp only [bases, List.mem_cons, List.not_mem_nil, or_false] at h
  rcases h with rfl | rfl | rfl | rfl
  · exact ⟨F.excBase_ValueError, F.store_ValueError, kxs_ValueError⟩
  · exact ⟨F.excBase_LookupError, F.store_LookupError, kxs_LookupError⟩
  · exact ⟨F.excBase_IndexError, F.store_IndexError, kxs_IndexError⟩
  · exact ⟨F.excBase_OverflowError, F.store_OverflowError, kxs_OverflowError⟩
/-- the two statements of such an __init__ -/
def iniBody (a b f : Str) : List Stmt → Bool
  | [.Expr (.Call (.Attribute (.Call (.Name x0 _) [] [] _) x1 p2) [.Call (.Name x3 _) [.Name x4 _] [] _] [] p6) _, .Assign [.Attribute (.Name x8 _) x9 _] (.Name x10 _) _] =>
    decide (x0 = "super") && decide (x1 = "__init__") && decide (x3 = "str") && decide (x4 = b) && decide (x8 = a) && decide (x9 = f) && decide (x10 = b) && (p2.endLine == p6.line)
  | _ => false
theorem iniBody_d {a b f : Str} {l : List Stmt} (h : iniBody a b f l = true) : ∃ p : Fin 12 → Pos, l = [.Expr (.Call (.Attribute (.Call (.Name "super" (p 0)) [] [] (p 1)) "__init__" (p 2)) [.Call (.Name "str" (p 3)) [.Name b (p 4)] [] (p 5)] [] (p 6)) (p 7),
    .Assign [.Attribute (.Name a (p 8)) f (p 9)] (.Name b (p 10)) (p 11)] ∧ ((p 2).endLine == (p 6).line) = true := by
  unfold iniBody at h
  split at h
  · rename_i x0 p0 p1 x1 p2 x3 p3 x4 p4 p5 p6 p7 x8 p8 x9 p9 x10 p10 p11
    simp only [Bool.and_eq_true, decide_eq_true_eq] at h
    obtain ⟨⟨⟨⟨⟨⟨⟨rfl, rfl⟩, rfl⟩, rfl⟩, rfl⟩, rfl⟩, rfl⟩, hl⟩ := h
    refine ⟨fun k => match k.val with
      | 0 => p0 | 1 => p1 | 2 => p2 | 3 => p3 | 4 => p4 | 5 => p5 | 6 => p6 | 7 => p7 | 8 => p8 | 9 => p9 | 10 => p10 | _ => p11, rfl, hl⟩
  · cases h
def iniB (prog : Program) (K : Frag) (C fI : Addr) (f : Str) : Bool := match K.lookup fI with
  | some ⟨_, _, .func fd, _⟩ => match fd.body, fd.closure, fd.code, fd.params.args with
    | .stmts body, [(cx, cc)], .ref cda, [a, b] => iniBody a.arg b.arg f body && decide (cx = "__class__") && decide (fd.globals = mainGlobals) && decide (fd.builtins = builtinsNs) && (match fd.defaults with | .none => true | _ => false) &&
      fd.params.posonlyargs.isEmpty && fd.params.kwonlyargs.isEmpty && fd.params.vararg.isNone && fd.params.kwarg.isNone && !decide (a.arg = b.arg) && !(a.arg == ("__debug__" : Str)) && !(b.arg == ("__debug__" : Str)) &&
      codeIn K (.ref cda) fd.qualname && (match K.lookup cda with
        | some ⟨_, _, .fields vs, _⟩ => (match vs[2]? with
          | some (Value.str file _) => (prog.main.file : Str) == file
          | _ => false)
        | _ => false) && (match K.lookup cc with
        | some ⟨_, _, .cell (some (.ref D)), _⟩ => decide (D = C)
        | _ => false) && decide (fd.scope.kind = .function) && !fd.scope.isCoroutine && !fd.scope.isGenerator && (fd.scope.names.all fun y => !decide (y.2 = .cell)) &&
      decide (fd.scope.names.lookup a.arg = some .local) && decide (fd.scope.names.lookup b.arg = some .local) && decide (fd.scope.names.lookup ("super" : Str) = some .globalImplicit) && decide (fd.scope.names.lookup ("str" : Str) = some .globalImplicit) &&
      decide (fd.scope.names.lookup ("__class__" : Str) = some .free)
    | _, _, _, _ => false
  | _ => false
theorem iniB_d {prog : Program} {K : Frag} {C fI : Addr} {f : Str} (h : iniB prog K C fI f = true) : Nonempty (IniK prog K C fI f) := by
  unfold iniB at h
  split at h
  · rename_i oc od fd osl hk
    obtain ⟨name, qual, params, fb, scope, globals, closure, dV, kV, doc, pm, an, cdv, ct, bi⟩ := fd
    dsimp only at h
    split at h
    · rename_i body cx cc cda a b ha
      simp only [Bool.and_eq_true, decide_eq_true_eq, List.isEmpty_iff, Option.isNone_iff_eq_none, Bool.not_eq_true', decide_eq_false_iff_not] at h
      obtain ⟨⟨⟨⟨⟨⟨⟨⟨⟨⟨⟨⟨⟨⟨⟨⟨⟨⟨⟨⟨⟨⟨⟨h1, h2⟩, h3⟩, h4⟩, h5⟩, h6⟩, h7⟩, h8⟩, h9⟩, h10⟩, h11⟩, h12⟩, h13⟩, h14⟩, h15⟩, h16⟩, h17⟩, h18⟩, h19⟩, h20⟩, h21⟩, h22⟩, h23⟩, h24⟩ := h
      subst h2 h3 h4
      obtain ⟨p, rfl, hl⟩ := iniBody_d h1
      have e5 : dV = .none := by
        cases dV <;> first | rfl | cases h5
      subst e5
      split at h14
      · rename_i ccl cdd vs ccs hr
        split at h14
        · rename_i file tf hvs
          split at h15
          · rename_i cl cld D csl hc
            have e15 : D = C := of_decide_eq_true h15
            subst e15
            exact ⟨{ oc := oc, od := od, osl := osl, name := name, qual := qual, pa := a, pb := b, kd := [], doc := doc, pm := pm, an := an, kV := kV, ct := ct, scope := scope, params := params, cc := cc, cda := cda, vs := vs, file := file, tf := tf, ccl := ccl, cdd := cdd, ccs := ccs, cl := cl, cld := cld, csl := csl, p := p,
                     at_ := hk, pos := h6, args := ha, kwo := h7, va := h8, kwa := h9, ne := h10, da := h11, db := h12, code := h13, rec_ := hr, hvs := hvs, hfile := h14, cell := hc, kind := h16, co := h17, gen := h18,
                     nocell := fun x hx e => (by have := List.all_eq_true.mp h19 x hx; simp [e] at this), la := h20, lb := h21, ls := h22, lt := h23, lc := h24, ln := hl }⟩
          · cases h15
        · cases h14
      · cases h14
    · cases h
  · cases h
def xnB (prog : Program) (K : Frag) (b : Bas) (C : Addr) (f : Str) : Bool := excInitIn K C b.bmB b.newId && keepIn K (.ref C) && excOver K C b.bmB && hasDictIn K C && (subIn K (.ref C) (.type "BaseException") == some true) && (typeIn K (.ref C) == some (.type "type")) &&
  (findIn K (.ref C) "__setattr__" == some (some (.builtin "object.__setattr__"))) && (takerIn K C f == some none) && (subIn K (.ref C) (.type b.B) == some true) && (mroIn K C (.ref C) == some true) && (nsIn K mainGlobals "super" == some none) && (nsIn K mainGlobals "str" == some none) &&
  (ks_superIn K C C "__init__" == some (some (.builtin b.i))) && (nsIn K cStatics "thirdparty.any" == some none) && !(prog.main.scope.names.lookup ("super" : Str)).isSome && (match findIn K (.ref C) "__init__" with
    | some (some (.ref fI)) => isFn K (.ref fI) && iniB prog K C fI f
    | _ => false)
theorem xnB_d {prog : Program} {K : Frag} {b : Bas} {C : Addr} {f : Str} (h : xnB prog K b C f = true) : XnK prog K b.B b.newId b.i b.bmB C f := by
  unfold xnB at h
  simp only [Bool.and_eq_true, beq_iff_eq, Bool.not_eq_true'] at h
  obtain ⟨⟨⟨⟨⟨⟨⟨⟨⟨⟨⟨⟨⟨⟨⟨h1, h2⟩, h3⟩, h4⟩, h5⟩, h6⟩, h7⟩, h8⟩, h9⟩, h10⟩, h11⟩, h12⟩, h13⟩, h14⟩, h15⟩, h16⟩ := h
  split at h16
  · rename_i fI hf
    rw [Bool.and_eq_true] at h16
    exact ⟨h1, h2, h3, h4, h5, h6, h7, h8, h9, h10, h11, h12, h13, h14, h15, fI, hf, h16.1, iniB_d h16.2⟩
  · cases h16
/-- an error without own __init__ -/
def xpB (K : Frag) (b : Bas) (C : Addr) : Bool := excIn K C b.bmB b.newId && keepIn K (.ref C) && (subIn K (.ref C) (.type "BaseException") == some true) && (typeIn K (.ref C) == some (.type "type"))
end Iv
end
section
set_option autoImplicit false
set_option maxRecDepth 100000
set_option maxHeartbeats 4000000
namespace Iv
open PySem L2
/-! ### the text as data: tables, and a look at the written part -/
/-- where a def stands -/
inductive Wh where
  | glo (x : Str) | met (c : Nat) (x : Str) | prp (c : Nat) (x : Str) | cmt (c : Nat) (x : Str)
structure Tb where
  fns : List Fn
  Ns : List (List Str)
  wh : List Wh
  /-- global defs: the first ones -/
  gfn : List Str
  globs : List (Str × D)
  cls : List Str
  excs : List Xc
  fuel : Nat
  mks : List (Nat × Nat)
  /-- fields, methods, properties: the name, the class, the place or def -/
  sls : List (Str × Nat × Nat)
  mts : List (Str × Nat × Nat)
  prs : List (Str × Nat × Nat)
  cms : List (Str × Nat × Nat)
  ops : List (BOp × Nat × Nat)
  eqs : List (Nat × Nat)
  lns : List (Nat × Nat)
  bls : List (Nat × Nat)
  sts : List (Nat × Nat) := []
  /-- isinstance: the class, of which, the answer -/
  isc : List (Nat × Nat × Bool)
  /-- errors: the class, the one above it (each above itself too) -/
  subs : List (Nat × Nat) := []
def Tb.sb (t : Tb) (a b : Nat) : Bool := t.subs.any fun q => decide (q.1 = a) && decide (q.2 = b)
def Tb.nm (t : Tb) : Nm := { fns := t.gfn, globs := t.globs.map (·.1), excs := t.excs, nf := t.fns.length, mks := t.mks.map (fun q => t.cls.getD q.1 ("" : Str)), sls := t.sls.map (·.1), mts := t.mts.map (·.1), prs := t.prs.map (·.1), cms := t.cms.map (fun q => (t.cls.getD q.2.1 ("" : Str), q.1)), cls := t.cls, sub := t.sb }
def Tb.prg (t : Tb) : Prg where
  globs := t.globs.map (·.2)
  sub := t.sb
  fuel := t.fuel
  mks := t.mks
  sls := t.sls.map (·.2)
  mts := t.mts.map (·.2)
  prs := t.prs.map (·.2)
  cms := t.cms.map (·.2)
  isc := fun c j => (t.isc.find? fun q => decide (q.1 = c) && decide (q.2.1 = j)).map (·.2.2)
  opf := fun o c => (t.ops.find? fun q => decide (q.1 = o) && decide (q.2.1 = c)).map (·.2.2)
  eqf := fun c => (t.eqs.find? fun q => decide (q.1 = c)).map (·.2)
  lnf := fun c => (t.lns.find? fun q => decide (q.1 = c)).map (·.2)
  bof := fun c => (t.bls.find? fun q => decide (q.1 = c)).map (·.2)
  stf := fun c => (t.sts.find? fun q => decide (q.1 = c)).map (·.2)
section
variable (t : Tb) (K : PySem.W.Frag)
def gA (x : Str) : Addr := match PySem.W.nsIn K mainGlobals x with
  | some (some (.ref a)) => a
  | _ => 0
def clA (c : Nat) : Addr := match t.cls[c]? with
  | some x => gA K x
  | none => 0
def whA : Wh → Addr
  | .glo x => gA K x
  | .met c x => match PySem.W.findIn K (.ref (clA t K c)) x with
    | some (some (.ref a)) => a
    | _ => 0
  | .prp c x => match PySem.W.findIn K (.ref (clA t K c)) x with
    | some (some (.ref p)) => (match PySem.W.recIn K p "property" with
      | some (.ref g :: _) => g
      | _ => 0)
    | _ => 0
  | .cmt c x => match PySem.W.findIn K (.ref (clA t K c)) x with
    | some (some (.ref p)) => (match PySem.W.recIn K p "classmethod" with
      | some (.ref g :: _) => g
      | _ => 0)
    | _ => 0
/-- where the classes and the defs stand -/
def clK : Nat → Addr := fun i => if i < 4096 then clA t K i else if i < 8192 then (match t.wh[i - 4096]? with
  | some w => whA t K w
  | none => 0) else match t.excs[i - 8192]? with
  | some e => gA K e.name
  | none => 0
abbrev atB (c f : Nat) (x : Str) : Bool := PySem.W.findIn K (.ref (clK t K c)) x == some (some (.ref (fa (clK t K) f))) && PySem.W.isFn K (.ref (fa (clK t K) f))
def sclsB (c : Nat) : Bool := PySem.W.plainGet K (clK t K c) Str.empty && PySem.W.isClsIn K (clK t K c) && PySem.W.plainOver K (clK t K c) && (PySem.W.findIn K (.ref (clK t K c)) "__setattr__" == some (some (.builtin "object.__setattr__")))
def sisiB (c : Nat) : Bool := (PySem.W.findIn K (.ref (clK t K c)) "__class__" == some (some (.builtin "object.__class__"))) && (PySem.W.specialIn K (.builtin "object.__class__") "__get__" == some (some (.builtin "getset_descriptor.__get__"))) &&
  (PySem.W.takesIn K (.builtin "object.__class__") == some true) && (PySem.W.mroIn K (clK t K c) (.type "object") == some true)
def glB' (x : Str) (a : Addr) : Bool := PySem.W.nsIn K mainGlobals x == some (some (.ref a))
def fnB : Bool := (List.range t.fns.length).all fun f => match t.fns[f]?, t.Ns[f]? with
  | some fn, some N => okFn t.nm K fn N (fa (clK t K) f) && okAd K fn.ad (fa (clK t K) f)
  | _, _ => false
def gfB : Bool := decide (t.gfn.length ≤ t.fns.length) && (List.range t.gfn.length).all fun f => match t.gfn[f]? with
  | some x => glB' K x (fa (clK t K) f) && PySem.W.keepIn K (.ref (fa (clK t K) f))
  | none => false
def glsB : Bool := t.globs.all fun p => match PySem.W.nsIn K mainGlobals p.1 with
  | some (some u) => repS K p.2 u
  | _ => false
def freeB : Bool := (["len", "int", "str", "abs", "max", "min", "sum", "divmod", "tuple", "list", "all", "any", "bool", "isinstance", "range", "zip", "enumerate", "dict", "sorted"] : List Str).all fun x => PySem.W.nsIn K mainGlobals x == some none
def opB : Bool := t.ops.all fun q => PySem.W.selfFirst K (clK t K q.2.1) && atB t K q.2.1 q.2.2 (PySem.dunder (bop q.1).info.2) &&
  (match PySem.W.findIn K (.ref (clK t K q.2.1)) (dunderR (bop q.1).info.2) with
    | some none => true
    | some (some (.ref _)) => true
    | _ => false) && (PySem.W.findIn K (.type "int") (PySem.dunder (bop q.1).info.2)).isSome && (PySem.W.findIn K (.type "int") (dunderR (bop q.1).info.2)).isSome && (PySem.W.subIn K (.type "int") (.ref (clK t K q.2.1)) == some false)
def eqB : Bool := t.eqs.all fun q => atB t K q.1 q.2 "__eq__" && (PySem.W.findIn K (.ref (clK t K q.1)) "__ne__" == some (some (.builtin "object.__ne__"))) && PySem.W.plainOver K (clK t K q.1)
def lnB : Bool := t.lns.all fun q => atB t K q.1 q.2 "__len__"
def blB : Bool := (t.bls.all fun q => atB t K q.1 q.2 "__bool__") && (t.sts.all fun q => atB t K q.1 q.2 "__str__")
def mkB : Bool := t.mks.all fun q => decide (q.2 < t.fns.length) && PySem.W.makesIn K (clK t K q.1) && atB t K q.1 q.2 "__init__" && PySem.W.keepIn K (.ref (clK t K q.1)) && glB' K (t.cls.getD q.1 ("" : Str)) (clK t K q.1)
def slB : Bool := t.sls.all fun q => sclsB t K q.2.1 && (match PySem.W.findIn K (.ref (clK t K q.2.1)) q.1 with
  | some (some (.ref p)) => (PySem.W.specialIn K (.ref p) "__get__" == some (some (.builtin "member_descriptor.__get__"))) && (PySem.W.takesIn K (.ref p) == some true) && (PySem.W.typeIn K (.ref p) == some (.type "member_descriptor")) && (PySem.W.slotIn K p (clK t K q.2.1) == some q.2.2) && decide (q.2.2 < 1000)
  | _ => false)
def mtB : Bool := t.mts.all fun q => decide (q.2.2 < t.fns.length) && sclsB t K q.2.1 && atB t K q.2.1 q.2.2 q.1 && PySem.W.keepIn K (.ref (fa (clK t K) q.2.2))
def prB : Bool := t.prs.all fun q => decide (q.2.2 < t.fns.length) && sclsB t K q.2.1 && (match PySem.W.findIn K (.ref (clK t K q.2.1)) q.1 with
  | some (some (.ref p)) => (PySem.W.specialIn K (.ref p) "__get__" == some (some (.builtin "property.__get__"))) && (PySem.W.takesIn K (.ref p) == some true) && (match PySem.W.recIn K p "property" with
    | some (.ref g :: _) => decide (g = fa (clK t K) q.2.2)
    | _ => false)
  | _ => false)
def cmB : Bool := t.cms.all fun q => decide (q.2.2 < t.fns.length) && glB' K (t.cls.getD q.2.1 ("" : Str)) (clK t K q.2.1) && PySem.W.readsIn K (clK t K q.2.1) (.type "type") && (PySem.W.specialIn K (.ref (clK t K q.2.1)) "__getattribute__" == some (some (.builtin "type.__getattribute__"))) &&
  (match PySem.W.findCls K (.ref (clK t K q.2.1)) (.type "type") q.1 with
    | some (.get (.builtin b) (.ref p) .none (.ref C)) => decide (b = "classmethod.__get__") && decide (C = clK t K q.2.1) && (match PySem.W.recIn K p "classmethod" with
      | some (.ref g :: _) => decide (g = fa (clK t K) q.2.2)
      | _ => false)
    | _ => false) && PySem.W.fnIn K (fa (clK t K) q.2.2)
def isB : Bool := (List.range t.cls.length).all fun j => match t.cls[j]? with
  | some x => glB' K x (clK t K j) && (["NoneType", "bool", "int", "str", "tuple", "list", "dict"] : List String).all fun T => PySem.W.kitOne K (.type T) (.ref (clK t K j)) == some false
  | none => false
def iscB : Bool := t.isc.all fun q => sclsB t K q.1 && sisiB t K q.1 && (PySem.W.kitOne K (.ref (clK t K q.1)) (.ref (clK t K q.2.1)) == some q.2.2)
/-- the whole look -/
def look : Bool := fnB t K && gfB t K && glsB t K && freeB K && opB t K && eqB t K && lnB t K && blB t K && mkB t K && slB t K && mtB t K && prB t K && cmB t K && isB t K && iscB t K
/-- the look at the errors -/
def exB (prog : Program) : Bool := (List.range t.excs.length).all fun c => match t.excs[c]? with
  | some e => glB' K e.name (xa (clK t K) c) && (match bases[e.bs]?, e.fld with
    | some b, none => xpB K b (xa (clK t K) c)
    | some b, some f => xnB prog K b (xa (clK t K) c) f && L2.xfB K (xa (clK t K) c) && (PySem.W.findIn K (.ref (xa (clK t K) c)) f == some none)
    | none, _ => false)
  | none => false
def sbB : Bool := (List.range t.excs.length).all fun c => (List.range t.excs.length).all fun c' => PySem.W.exmOne K (.ref (xa (clK t K) c)) (.ref (xa (clK t K) c')) == some (t.sb c c')
def dgB : Bool := PySem.W.nsOkIn K cStatics && (PySem.W.nsIn K cStatics "sys.int_max_str_digits" == some none)
def lookX (prog : Program) : Bool := exB t K prog && sbB t K && dgB K
end
end Iv
end
section
set_option autoImplicit false
set_option maxRecDepth 100000
set_option maxHeartbeats 4000000
namespace Iv
open PySem L2
section
variable {t : Tb} {K : PySem.W.Frag} {prog : Program} {w : World} {mg : Str → Option Value} {h base : Heap}
theorem all_range {n : Nat} {p : Nat → Bool} (h : (List.range n).all p = true) {i : Nat} (hi : i < n) : p i = true := List.all_eq_true.mp h i (List.mem_range.mpr hi)
theorem map_get {α β : Type} {f : α → β} {l : List α} {j : Nat} {y : β} (h : (l.map f)[j]? = some y) : ∃ x, l[j]? = some x ∧ f x = y := by
  rw [List.getElem?_map] at h
  cases e : l[j]? with
  | none => rw [e] at h; cases h
  | some x => rw [e] at h; cases h; exact ⟨x, rfl, rfl⟩
theorem all_get {α : Type} {l : List α} {p : α → Bool} (h : l.all p = true) {j : Nat} {x : α} (hx : l[j]? = some x) : p x = true := List.all_eq_true.mp h x (List.mem_of_getElem? hx)
theorem find_map {α β : Type} {l : List α} {p : α → Bool} {f : α → β} {y : β} (h : (l.find? p).map f = some y) : ∃ x, x ∈ l ∧ p x = true ∧ f x = y := by
  cases e : l.find? p with
  | none => rw [e] at h; cases h
  | some x => rw [e] at h; cases h; exact ⟨x, List.mem_of_find?_eq_some e, List.find?_some e, rfl⟩
theorem scls_d {c : Nat} (h : sclsB t K c = true) : SlX.SCls K (clK t K c) := by
  unfold sclsB at h
  simp only [Bool.and_eq_true, beq_iff_eq] at h
  exact ⟨h.1.1.1, h.1.1.2, h.1.2, h.2⟩
theorem gl_d (X : K.In h) (G : h.Ns mainGlobals mg) {x : Str} {a : Addr} (e : glB' K x a = true) : mg x = some (.ref a) := PySem.W.mg_of X G (beq_iff_eq.mp e)
theorem free_d (X : K.In h) (G : h.Ns mainGlobals mg) {x : Str} (e : (PySem.W.nsIn K mainGlobals x == some none) = true) : mg x = none := PySem.W.mg_none_of X G (beq_iff_eq.mp e)
/-- the look says all that is asked -/
theorem md_all (X : K.In h) (G : h.Ns mainGlobals mg) (lk : look t K = true) (lx : lookX t K prog = true) : ∀ n : Nat, Md t.nm (clK t K) t.prg (call t.prg t.fns n) n prog w K mg base := by
  unfold look at lk
  simp only [Bool.and_eq_true] at lk
  obtain ⟨⟨⟨⟨⟨⟨⟨⟨⟨⟨⟨⟨⟨⟨l1, l2⟩, l3⟩, l4⟩, l5⟩, l6⟩, l7⟩, l8⟩, l9⟩, l10⟩, l11⟩, l12⟩, l13⟩, l14⟩, l15⟩ := lk
  have lx' := lx
  unfold lookX at lx'
  simp only [Bool.and_eq_true] at lx'
  obtain ⟨⟨x1, x2⟩, x3⟩ := lx'
  have free : ∀ x ∈ (["len", "int", "str", "abs", "max", "min", "sum", "divmod", "tuple", "list", "all", "any", "bool", "isinstance", "range", "zip", "enumerate", "dict", "sorted"] : List Str), mg x = none := fun x hx => free_d X G (List.all_eq_true.mp l4 x hx)
  have fnd : ∀ f : Nat, f < t.fns.length → ∃ fn N, t.fns[f]? = some fn ∧ okFn t.nm K fn N (fa (clK t K) f) = true ∧ okAd K fn.ad (fa (clK t K) f) = true := fun f hf => by
    have q := all_range l1 hf
    split at q
    · rename_i fn N e1 e2
      rw [Bool.and_eq_true] at q
      exact ⟨fn, N, e1, q.1, q.2⟩
    · cases q
  have atd : ∀ {c f : Nat} {x : Str}, atB t K c f x = true → PySem.W.findIn K (.ref (clK t K c)) x = some (some (.ref (fa (clK t K) f))) ∧ PySem.W.isFn K (.ref (fa (clK t K) f)) = true := fun {c f x} q => by
    have q' := Bool.and_eq_true_iff.mp q
    exact ⟨beq_iff_eq.mp q'.1, q'.2⟩
  have rest : ∀ (cal : Cal) (n : Nat), (∀ f : Nat, f < t.nm.nf → FnR prog w K mg base (L2.CX prog w) (3 * n) (fa (clK t K) f) (spC t.nm mg ⟨K, clK t K⟩ (cal f))) → (∀ f : Nat, ¬ f < t.nm.nf → ∀ vs S, cal f vs S = .bad) → Md t.nm (clK t K) t.prg cal n prog w K mg base := by
    intro cal n hfn hbad
    refine ⟨hfn, hbad, fun f x e => ?_, fun g x d e1 e2 => ?_, fun b => ?_, fun x hx => ?_, fun o c f e => ?_, fun c f e => ?_, fun c f e => ?_, fun c f e => ?_, fun c f e => ?_, fun j q e => ?_, fun j q x e1 e2 => ?_, fun j q x e1 e2 => ?_, fun j q x e1 e2 => ?_, fun j q x e1 e2 => ?_, fun j q c x e1 e2 => ?_, fun j x e => ?_, fun j x c b e1 e2 => ?_, fun c e h => ?_, fun c c' e e' h h' => ?_, rfl, ?_⟩
    · -- global defs
      unfold gfB at l2
      rw [Bool.and_eq_true] at l2
      have hlt : f < t.gfn.length := (List.getElem?_eq_some_iff.mp e).1
      have q := all_range l2.2 hlt
      have e' : t.gfn[f]? = some x := e
      rw [e'] at q
      have q := Bool.and_eq_true_iff.mp q
      exact ⟨Nat.lt_of_lt_of_le hlt (of_decide_eq_true l2.1), gl_d X G q.1, q.2⟩
    · obtain ⟨p, p1, p2⟩ := map_get (l := t.globs) e1
      have e2' : (t.globs.map (·.2))[g]? = some d := e2
      rw [List.getElem?_map, p1] at e2'
      cases e2'
      have q := all_get l3 p1
      rw [p2] at q
      split at q
      · rename_i u hu
        obtain ⟨v, h1, h2⟩ := repS_d (cl := clK t K) q
        exact ⟨u, v, PySem.W.mg_of X G hu, h1, h2⟩
      · cases q
    · cases b <;> exact free _ (by decide)
    · refine free x ?_
      have : x ∈ (["isinstance", "range", "zip", "enumerate", "bool", "dict", "sorted"] : List Str) := hx
      simp only [List.mem_cons, List.not_mem_nil, or_false] at this ⊢
      rcases this with h | h | h | h | h | h | h <;> simp [h]
    · obtain ⟨q, q1, q2, q3⟩ := find_map (l := t.ops) e
      have z := List.all_eq_true.mp l5 q q1
      simp only [Bool.and_eq_true, decide_eq_true_eq] at q2
      obtain ⟨rfl, rfl⟩ := q2
      subst q3
      simp only [Bool.and_eq_true, beq_iff_eq, Option.isSome_iff_exists] at z
      obtain ⟨⟨⟨⟨⟨z1, z2⟩, z3⟩, ⟨z4, z4'⟩⟩, ⟨z5, z5'⟩⟩, z6⟩ := z
      refine ⟨⟨z1, z2.1, z2.2⟩, ?_, ⟨z4, z5, z4', z5'⟩, z6⟩
      split at z3
      · rename_i hz; exact ⟨none, hz, .inl rfl⟩
      · rename_i g hz; exact ⟨_, hz, .inr ⟨g, rfl⟩⟩
      · cases z3
    · obtain ⟨q, q1, q2, q3⟩ := find_map (l := t.eqs) e
      have z := List.all_eq_true.mp l6 q q1
      have q2 : q.1 = c := of_decide_eq_true q2
      subst q2; subst q3
      simp only [Bool.and_eq_true, beq_iff_eq] at z
      exact ⟨z.1.1.1, z.1.1.2, z.1.2, z.2⟩
    · obtain ⟨q, q1, q2, q3⟩ := find_map (l := t.lns) e
      have z := List.all_eq_true.mp l7 q q1
      have q2 : q.1 = c := of_decide_eq_true q2
      subst q2; subst q3
      exact atd z
    · obtain ⟨q, q1, q2, q3⟩ := find_map (l := t.bls) e
      have z := List.all_eq_true.mp (Bool.and_eq_true_iff.mp l8).1 q q1
      have q2 : q.1 = c := of_decide_eq_true q2
      subst q2; subst q3
      exact atd z
    · obtain ⟨q, q1, q2, q3⟩ := find_map (l := t.sts) e
      have z := List.all_eq_true.mp (Bool.and_eq_true_iff.mp l8).2 q q1
      have q2 : q.1 = c := of_decide_eq_true q2
      subst q2; subst q3
      exact atd z
    · have z := all_get l9 (show t.mks[j]? = some q from e)
      simp only [Bool.and_eq_true, decide_eq_true_eq] at z
      obtain ⟨⟨⟨⟨z1, z2⟩, z3⟩, z4⟩, z5⟩ := z
      have a := atd (Bool.and_eq_true_iff.mpr z3)
      exact ⟨z1, ⟨z2, a.1, a.2, z4⟩⟩
    · have z := all_get l9 (show t.mks[j]? = some q from e1)
      simp only [Bool.and_eq_true, decide_eq_true_eq] at z
      obtain ⟨p, p1, p2⟩ := map_get (l := t.mks) e2
      rw [show t.mks[j]? = some q from e1] at p1
      cases p1
      rw [← p2]
      exact gl_d X G z.2
    · obtain ⟨p, p1, p2⟩ := map_get (l := t.sls) e1
      obtain ⟨p', p3, p4⟩ := map_get (l := t.sls) e2
      rw [p1] at p3; cases p3
      subst p2; subst p4
      have z := Bool.and_eq_true_iff.mp (all_get l10 p1)
      refine ⟨scls_d z.1, ?_⟩
      have z2 := z.2
      split at z2
      · rename_i r hr
        simp only [Bool.and_eq_true, beq_iff_eq, decide_eq_true_eq] at z2
        obtain ⟨⟨⟨⟨y1, y2⟩, y3⟩, y4⟩, y5⟩ := z2
        exact ⟨r, hr, y1, y2, y3, y4, y5⟩
      · cases z2
    · obtain ⟨p, p1, p2⟩ := map_get (l := t.mts) e1
      obtain ⟨p', p3, p4⟩ := map_get (l := t.mts) e2
      rw [p1] at p3; cases p3
      subst p2; subst p4
      have z := all_get l11 p1
      rw [Bool.and_eq_true, Bool.and_eq_true, Bool.and_eq_true] at z
      obtain ⟨⟨⟨z1, z2⟩, z3⟩, z4⟩ := z
      have a := atd z3
      exact ⟨of_decide_eq_true z1, scls_d z2, a.1, a.2, z4⟩
    · obtain ⟨p, p1, p2⟩ := map_get (l := t.prs) e1
      obtain ⟨p', p3, p4⟩ := map_get (l := t.prs) e2
      rw [p1] at p3; cases p3
      subst p2; subst p4
      have z := all_get l12 p1
      rw [Bool.and_eq_true, Bool.and_eq_true] at z
      obtain ⟨⟨z1, z2⟩, z3⟩ := z
      refine ⟨of_decide_eq_true z1, scls_d z2, ?_⟩
      split at z3
      · rename_i r hr
        rw [Bool.and_eq_true, Bool.and_eq_true] at z3
        obtain ⟨⟨y1, y2⟩, y3⟩ := z3
        split at y3
        · rename_i g rst hg
          have : g = fa (clK t K) p.2.2 := of_decide_eq_true y3
          subst this
          exact ⟨r, hr, beq_iff_eq.mp y1, beq_iff_eq.mp y2, rst, hg⟩
        · cases y3
      · cases z3
    · obtain ⟨p, p1, p2⟩ := map_get (l := t.cms) e1
      obtain ⟨p', p3, p4⟩ := map_get (l := t.cms) e2
      rw [p1] at p3; cases p3
      subst p2
      cases p4
      have z := all_get l13 p1
      simp only [Bool.and_eq_true] at z
      obtain ⟨⟨⟨⟨⟨z1, z2⟩, z3⟩, z4⟩, z5⟩, z6⟩ := z
      refine ⟨of_decide_eq_true z1, gl_d X G z2, .type "type", ?_⟩
      split at z5
      · rename_i b r C hr
        simp only [Bool.and_eq_true, decide_eq_true_eq] at z5
        obtain ⟨⟨y1, y2⟩, y3⟩ := z5
        subst y1; subst y2
        split at y3
        · rename_i g rst hg
          have : g = fa (clK t K) p.2.2 := of_decide_eq_true y3
          subst this
          exact ⟨r, ⟨z3, beq_iff_eq.mp z4⟩, hr, ⟨rst, hg⟩, z6⟩
        · cases y3
      · cases z5
    · have e' : t.cls[j]? = some x := e
      have hlt : j < t.cls.length := (List.getElem?_eq_some_iff.mp e').1
      have q := all_range l14 hlt
      rw [e'] at q
      have q := Bool.and_eq_true_iff.mp q
      exact ⟨gl_d X G q.1, fun T hT => beq_iff_eq.mp (List.all_eq_true.mp q.2 T hT)⟩
    · obtain ⟨q, q1, q2, q3⟩ := find_map (l := t.isc) e2
      have z := List.all_eq_true.mp l15 q q1
      simp only [Bool.and_eq_true, decide_eq_true_eq] at q2
      obtain ⟨rfl, rfl⟩ := q2
      subst q3
      simp only [Bool.and_eq_true] at z
      have y := z.1.2
      unfold sisiB at y
      simp only [Bool.and_eq_true, beq_iff_eq] at y
      exact ⟨scls_d z.1.1, ⟨y.1.1.1, y.1.1.2, y.1.2, y.2⟩, beq_iff_eq.mp z.2⟩
    · have h : t.excs[c]? = some e := h
      have q := all_range x1 (List.getElem?_eq_some_iff.mp h).1
      rw [h] at q
      have q := Bool.and_eq_true_iff.mp q
      refine ⟨gl_d X G q.1, ?_⟩
      have q2 := q.2
      unfold ExK
      split at q2
      · rename_i b hb hf
        rw [hf]
        unfold xpB at q2
        simp only [Bool.and_eq_true, beq_iff_eq] at q2
        exact ⟨_, _, _, _, (bases_ok (List.mem_of_getElem? hb)).fb, q2.1.1.1, q2.1.1.2, q2.1.2, q2.2⟩
      · rename_i b f hb hf
        rw [hf]
        simp only [Bool.and_eq_true, beq_iff_eq] at q2
        exact ⟨_, _, _, _, bases_ok (List.mem_of_getElem? hb), xnB_d q2.1.1, L2.xfB_ok q2.1.2, q2.2⟩
      · cases q2
    · have h : t.excs[c]? = some e := h
      have h' : t.excs[c']? = some e' := h'
      have q := all_range (all_range x2 (List.getElem?_eq_some_iff.mp h).1) (List.getElem?_eq_some_iff.mp h').1
      exact beq_iff_eq.mp q
    · unfold dgB at x3
      have q := Bool.and_eq_true_iff.mp x3
      exact ⟨q.1, beq_iff_eq.mp q.2⟩
  intro n
  induction n with
  | zero =>
    refine rest _ 0 (fun f hf A outer s H us vs Q E hr e0 rv q => ?_) fun f _ vs S => rfl
    obtain ⟨_, _, _, _, _, _, _, o⟩ := q
    exact o.elim
  | succ n ih =>
    refine rest _ (n + 1) (fun f hf => ?_) fun f hf vs S => ?_
    · obtain ⟨fn, N, e1, e2, e3⟩ := fnd f hf
      exact fn_R ih e1 e2 e3
    · have : t.fns[f]? = none := List.getElem?_eq_none (Nat.le_of_not_lt hf)
      simp only [call, this]
end
end Iv
end
section
set_option autoImplicit false
set_option maxRecDepth 100000
set_option maxHeartbeats 4000000
namespace Iv
open PySem L2
def lawB (t : Tb) (K : PySem.W.Frag) (f : Nat) (x : Str) : Bool := match K.lookup (fa (clK t K) f) with
  | some ⟨_, _, .func fd, _⟩ => (match fd.defaults with | .none => true | _ => false) && decide (pnames fd.params = [x]) && fd.params.vararg.isNone
  | _ => false
theorem walk {l : PySem.W.OpenLaw} {q : Program} {loose : List Str} {XP : (Str → Option Value) → Heap → Prop} {YP : World → Heap → Prop} {d : DefRec} {K : Params → PySem.W.Frag} (t : Tb) (f : Nat) (fn : Fn) (n : Nat) (x : Str)
    (hn : l.most = some 63) (hdf : d.params.defaults = []) (hr : Room (3 * n + 3) callerA) (hY : ∀ (w : World) (h : Heap), YP w h → (K w.params).In h) (hf : t.fns[f]? = some fn) (hg : t.gfn[f]? = some d.name)
    (lk : ∀ p, look t (K p) = true) (lx : ∀ p, lookX t (K p) l.prog = true) (lb : ∀ p, lawB t (K p) f x = true) (law : ∀ ns : List Int, ns.length ≤ 63 → ∃ S, runF t.prg (call t.prg t.fns n) fn [.d (.ro (ns.map .int))] [] = .ok (.d (.bl true)) S) :
    PySem.W.WalkO q loose XP YP l.row.toRowW d [] (fun f vs => PySem.call f vs) := by
  refine L2.walk_of (n := 63) (k := 3 * n + 3) (x := x) (CX := fun w => L2.CX l.prog w) (sp := fun w => fun us H Q E => us.length = 1 ∧ ∃ (mg : Str → Option Value) (F G : Hp) (m : List Addr) (vs : List Vl) (S : Hs), Rl ⟨K w.params, clK t (K w.params)⟩ F G m S H ∧ RVs ⟨K w.params, clK t (K w.params)⟩ G m vs us ∧ ∃ S', runF t.prg (call t.prg t.fns n) fn vs S = .ok (.d (.bl true)) S' ∧ ∀ H', Q (.bl true) H')
    hn (by decide) hdf hr hY (fun w mg a h X G hmg => ?_) (fun w H a ns hl _ hS => ?_) (fun w H s e s' c => ?_)
  · have lk' := lk w.params
    have lk2 := lk'
    unfold look at lk2
    simp only [Bool.and_eq_true] at lk2
    obtain ⟨⟨⟨⟨⟨⟨⟨⟨⟨⟨⟨⟨⟨⟨l1, l2⟩, l3⟩, l4⟩, l5⟩, l6⟩, l7⟩, l8⟩, l9⟩, l10⟩, l11⟩, l12⟩, l13⟩, l14⟩, l15⟩ := lk2
    have hlt : f < t.fns.length := (List.getElem?_eq_some_iff.mp hf).1
    have q1 := all_range l1 hlt
    rw [hf] at q1
    split at q1
    · rename_i fn' N e1 e2
      cases e1
      rw [Bool.and_eq_true] at q1
      unfold gfB at l2
      rw [Bool.and_eq_true] at l2
      have q2 := all_range l2.2 (List.getElem?_eq_some_iff.mp hg).1
      rw [hg] at q2
      have q2 := Bool.and_eq_true_iff.mp q2
      have hm := gl_d X G q2.1
      rw [hmg] at hm
      cases hm
      obtain ⟨oc, od, name, qual, params, body, scope, dV, kV, doc, pm, an, cdv, ct, osl, lkp, hcd, hpl, S, h7, h8, h9, h10⟩ := okFn_d q1.1
      have b := lb w.params
      unfold lawB at b
      rw [lkp] at b
      simp only [Bool.and_eq_true, decide_eq_true_eq, Option.isNone_iff_eq_none] at b
      obtain ⟨⟨b1, b2⟩, b3⟩ := b
      cases dV with
      | none =>
        have hpn : pnames params = params.args.map (·.arg) := by unfold pnames; rw [b3]; simp
        refine ⟨PySem.W.fnOf name qual params body scope .none kV doc pm an cdv ct, fun s u => ?_, fun base _ _ => ?_⟩
        rotate_left
        · have S' := S
          rw [b2] at S'
          have hnp : fn.np = 1 := by rw [← h7, b2]; rfl
          rcases h10 with h10 | h10
          · refine fn_of (k := 3 * n + 2) lkp hcd S' (fun vs H Q E q => by rw [q.1]; rfl) fun A outer s H vs Q E hrm q => ?_
            obtain ⟨z1, _, F0, G0, m, ds, S0, l0, r0, S1, e1, e2⟩ := q
            refine body_sound (mg := mg) (prog := l.prog) (w := w) (md_all X G lk' (lx w.params) n) S' h9 h8.symm h10 cdv A outer s H vs Q E hrm ⟨by rw [hnp]; exact z1, F0, G0, m, ds, S0, l0, r0, ?_⟩
            rw [e1]
            intro G' m' H' u g' l' r'
            cases r'
            exact e2 H'
          · refine fn_ofT (k := 3 * n + 2) lkp hcd S' h10.2.1 (Nat.le_refl 1) (fun vs H Q E q => by rw [q.1]; rfl) fun A outer s H vs Q E hrm q => ?_
            obtain ⟨z1, _, F0, G0, m, ds, S0, l0, r0, S1, e1, e2⟩ := q
            refine body_soundT (mg := mg) (prog := l.prog) (w := w) (md_all X G lk' (lx w.params) n) S' h9 h8.symm h10.1 cdv A outer s H vs Q E hrm ⟨by rw [hnp]; exact z1, F0, G0, m, ds, S0, l0, r0, ?_⟩
            rw [e1]
            intro G' m' H' u g' l' r'
            cases r'
            exact e2 H'
        · have e := binds_all (name := name) (qual := qual) (body := body) (scope := scope) (kV := kV) (doc := doc) (pm := pm) (cdv := cdv) (ct := ct) (an := an) hpl b3 (by
            rw [← hpn, b2]; simp) [u] (by rw [← hpn, b2]; rfl)
          rw [← hpn, b2] at e
          exact .of_eq e
      | _ => cases b1
    · cases q1
  · refine ⟨rfl, fun _ => none, fun _ => none, H, [], [.d (.ro (ns.map .int))], [], ⟨fun _ _ h => h, (fun _ _ h => by cases h), (fun _ _ h => by cases h), (fun _ h => by cases h), rfl, List.nodup_nil, (fun n a o h => by cases h)⟩, .cons ?_ .nil, ?_⟩
    · exact Rep.ro (K := ⟨K w.params, clK t (K w.params)⟩) hS (reps_of_ints ns)
    · obtain ⟨S', e⟩ := law ns hl
      exact ⟨S', e, fun _ => rfl⟩
  · obtain ⟨_, _, _, _, _, _, _, _, _, _, _, _, h⟩ := c
    exact h
end Iv
end
section
set_option maxRecDepth 100000
namespace K03
open Iv
/-! the bodies as terms, printed by gen2.py -/
def b_is_integer : Iv.St := (.seq (.ret (.and (.isi (.var 0) .int) (.and (.not (.isi (.var 0) .bool)) (.one (.chain .lt .lt (.neg (.glob 0)) (.var 0) (.glob 0)))))) .skip)
def b_is_from : Iv.St := (.seq (.ret (.and (.call 0 (.cons (.var 0) .nil)) (.one (.chain .le .le (.var 1) (.var 0) (.var 2))))) .skip)
def b_begins_with_letter : Iv.St := (.seq (.ite (.or (.not (.isi (.var 0) .str)) (.or (.not (.chain .le .le (.int 1) (.bi .len (.cons (.var 0) .nil)) (.var 1))) (.one (.cmp .notin (.ix (.var 0) (.int 0)) (.glob 1))))) (.seq (.ret (.bl false)) .skip) .skip) (.seq (.ret (.bi .all (.cons (.comp [2] (.nm 2) (.one (.var 0)) (.bl true) (.or (.cmp .isin (.var 2) (.glob 1)) (.one (.cmp .isin (.var 2) (.glob 2))))) .nil))) .skip))
def b_is_kind : Iv.St := (.seq (.ret (.and (.call 2 (.cons (.var 0) (.cons (.glob 4) .nil))) (.one (.cmp .ne (.var 0) (.glob 3))))) .skip)
def b_are_ascending : Iv.St := (.seq (.ret (.bi .all (.cons (.comp [1, 2] (.tp (.cons (.nm 1) (.cons (.nm 2) .nil))) (.zip (.var 0) (.sl (.var 0) (.one (.int 1)) .no)) (.bl true) (.cmp .lt (.var 1) (.var 2))) .nil))) .skip)
def b_are_pairs : Iv.St := (.seq (.ite (.or (.not (.isi (.var 0) .tup)) (.one (.cmp .gt (.bi .len (.cons (.var 0) .nil)) (.glob 5)))) (.seq (.ret (.bl false)) .skip) .skip) (.seq (.loop (.nm 1) (.one (.var 0)) (.seq (.ite (.or (.not (.isi (.var 1) .tup)) (.or (.cmp .ne (.bi .len (.cons (.var 1) .nil)) (.int 2)) (.or (.not (.call 3 (.cons (.ix (.var 1) (.int 0)) .nil))) (.one (.not (.call 1 (.cons (.ix (.var 1) (.int 1)) (.cons (.int 1) (.cons (.glob 6) .nil))))))))) (.seq (.ret (.bl false)) .skip) .skip) .skip)) (.seq (.ret (.call 4 (.cons (.comp [1] (.nm 1) (.one (.var 0)) (.bl true) (.ix (.var 1) (.int 0))) .nil))) .skip)))
def b_text_of_pairs : Iv.St := (.seq (.ret (.ite (.cmp .ne (.var 0) (.tup .nil)) (.meth .join (.str [44, 32]) (.cons (.comp [1, 2] (.tp (.cons (.nm 1) (.cons (.nm 2) .nil))) (.one (.var 0)) (.bl true) (.fjoin (.cons (.fmt (.var 1)) (.cons (.str [32]) (.cons (.fmt (.var 2)) .nil))))) .nil)) (.glob 3))) .skip)
def b_behind_blanks : Iv.St := (.seq (.whl (.and (.cmp .lt (.var 1) (.bi .len (.cons (.var 0) .nil))) (.one (.cmp .eq (.ix (.var 0) (.var 1)) (.glob 7)))) (.seq (.aug 1 .add (.int 1)) .skip)) (.seq (.ret (.var 1)) .skip))
def b_require_sign : Iv.St := (.seq (.ite (.or (.cmp .eq (.var 1) (.bi .len (.cons (.var 0) .nil))) (.one (.cmp .notin (.ix (.var 0) (.var 1)) (.var 2)))) (.seq (.rse 0 (.cons (.var 1) .nil)) .skip) .skip) .skip)
def b_behind_run : Iv.St := (.seq (.asg 4 (.var 1)) (.seq (.whl (.and (.cmp .lt (.var 4) (.bi .len (.cons (.var 0) .nil))) (.and (.cmp .lt (.bin .sub (.var 4) (.var 1)) (.var 3)) (.one (.cmp .isin (.ix (.var 0) (.var 4)) (.var 2))))) (.seq (.aug 4 .add (.int 1)) .skip)) (.seq (.ret (.var 4)) .skip)))
def b_entry_at : Iv.St := (.seq (.expr (.call 8 (.cons (.var 0) (.cons (.var 1) (.cons (.glob 1) .nil))))) (.seq (.asg 2 (.call 9 (.cons (.var 0) (.cons (.var 1) (.cons (.bin .add (.glob 1) (.glob 2)) (.cons (.glob 4) .nil)))))) (.seq (.expr (.call 8 (.cons (.var 0) (.cons (.var 2) (.cons (.glob 7) .nil))))) (.seq (.ite (.cmp .eq (.sl (.var 0) (.one (.var 1)) (.one (.var 2))) (.glob 3)) (.seq (.rse 0 (.cons (.var 2) .nil)) .skip) .skip) (.seq (.asg 3 (.call 7 (.cons (.var 0) (.cons (.var 2) .nil)))) (.seq (.expr (.call 8 (.cons (.var 0) (.cons (.var 3) (.cons (.sl (.glob 2) (.one (.int 1)) .no) .nil))))) (.seq (.asg 4 (.call 9 (.cons (.var 0) (.cons (.var 3) (.cons (.glob 2) (.cons (.glob 8) .nil)))))) (.seq (.ret (.tup (.cons (.sl (.var 0) (.one (.var 1)) (.one (.var 2))) (.cons (.var 1) (.cons (.bi .int (.cons (.sl (.var 0) (.one (.var 3)) (.one (.var 4))) .nil)) (.cons (.var 3) (.cons (.var 4) .nil))))))) .skip))))))))
def b_entries_in : Iv.St := (.seq (.par2 1 2 (.newl .nil) (.int 0)) (.seq (.whl (.bl true) (.seq (.asg 3 (.call 10 (.cons (.var 0) (.cons (.call 7 (.cons (.var 0) (.cons (.var 2) .nil))) .nil)))) (.seq (.app 1 (.var 3)) (.seq (.asg 2 (.call 7 (.cons (.var 0) (.cons (.ix (.var 3) (.int 4)) .nil)))) (.seq (.ite (.cmp .eq (.var 2) (.bi .len (.cons (.var 0) .nil))) (.seq .brk .skip) .skip) (.seq (.expr (.call 8 (.cons (.var 0) (.cons (.var 2) (.cons (.glob 9) .nil))))) (.seq (.aug 2 .add (.int 1)) .skip))))))) (.seq (.ret (.frz 1)) .skip)))
def b_is_nothing_ahead : Iv.St := (.seq (.asg 1 (.call 7 (.cons (.var 0) (.cons (.int 0) .nil)))) (.seq (.ret (.cmp .eq (.sl (.var 0) (.one (.var 1)) (.one (.call 9 (.cons (.var 0) (.cons (.var 1) (.cons (.bin .add (.glob 1) (.glob 2)) (.cons (.glob 4) .nil))))))) (.glob 3))) .skip))
def b_pairs_in : Iv.St := (.seq (.ite (.call 12 (.cons (.var 0) .nil)) (.seq (.asg 1 (.call 7 (.cons (.var 0) (.cons (.bin .add (.call 7 (.cons (.var 0) (.cons (.int 0) .nil))) (.bi .len (.cons (.glob 3) .nil))) .nil)))) (.seq (.ite (.cmp .lt (.var 1) (.bi .len (.cons (.var 0) .nil))) (.seq (.rse 0 (.cons (.var 1) .nil)) .skip) .skip) (.seq (.ret (.lst .nil)) .skip))) .skip) (.seq (.asg 2 .newd) (.seq (.loop (.tp (.cons (.nm 3) (.cons (.nm 4) (.cons (.nm 5) (.cons (.nm 6) (.cons (.nm 1) .nil)))))) (.one (.call 11 (.cons (.var 0) .nil))) (.seq (.ite (.or (.din false (.var 3) (.var 2)) (.one (.cmp .eq (.dln (.var 2)) (.glob 5)))) (.seq (.rse 0 (.cons (.var 4) .nil)) .skip) .skip) (.seq (.ite (.cmp .gt (.var 5) (.glob 6)) (.seq (.rse 0 (.cons (.var 6) .nil)) .skip) .skip) (.seq (.setd 2 (.var 3) (.var 5)) .skip)))) (.seq (.ret (.dits (.var 2))) .skip))))
def b__law_dice : Iv.St := (.seq (.asg 2 (.ite (.cmp .lt (.var 1) (.bi .len (.cons (.var 0) .nil))) (.bi .int (.cons (.ix (.var 0) (.var 1)) .nil)) (.bin .add (.bin .mul (.int 71) (.var 1)) (.int 31)))) (.seq (.asg 3 (.bin .mod (.bi .max2 (.cons (.int 0) (.cons (.bin .sub (.bi .abs (.cons (.var 2) .nil)) (.bin .pow (.int 10) (.int 16))) .nil))) (.bin .mul (.bin .pow (.int 10) (.int 60)) (.bin .pow (.int 10) (.int 60))))) (.seq (.ret (.newl (.cons (.var 3) (.cons (.bin .add (.bin .add (.bin .add (.bin .mul (.bin .mod (.bi .abs (.cons (.var 2) .nil)) (.int 1152921504606846697)) (.int 59)) (.bin .mul (.int 821) (.var 1))) (.bin .mul (.int 37) (.bi .int (.cons (.cmp .lt (.var 2) (.int 0)) .nil)))) (.int 5)) (.cons (.int 0) .nil))))) .skip)))
def b__law_roll : Iv.St := (.seq (.ite (.cmp .gt (.ix (.var 0) (.int 0)) (.int 0)) (.seq (.asg 2 (.bin .mod (.bi .int (.cons (.ix (.var 0) (.int 0)) .nil)) (.var 1))) (.seq (.setix 0 (.int 0) (.bin .fdiv (.ix (.var 0) (.int 0)) (.var 1))) (.seq (.ret (.var 2)) .skip))) .skip) (.seq (.setix 0 (.int 2) (.bin .add (.ix (.var 0) (.int 2)) (.int 1))) (.seq (.asg 3 (.bin .mod (.bi .int (.cons (.bin .add (.ix (.var 0) (.int 1)) (.bin .mul (.int 67867967) (.ix (.var 0) (.int 2)))) .nil)) (.int 2305843009213693561))) (.seq (.asg 4 (.bin .add (.bin .mul (.bin .mod (.bi .int (.cons (.bin .add (.bin .mul (.var 3) (.var 3)) (.bin .mul (.int 101) (.ix (.var 0) (.int 2)))) .nil)) (.int 2305843009213693907)) (.int 7368847)) (.var 3))) (.seq (.ret (.bin .mod (.bi .int (.cons (.bin .fdiv (.var 4) (.int 65536)) .nil)) (.var 1))) .skip)))))
def b__law_pick : Iv.St := (.seq (.ret (.ix (.var 1) (.call 15 (.cons (.var 0) (.cons (.bi .len (.cons (.var 1) .nil)) .nil))))) .skip)
def b__law_mixed : Iv.St := (.seq (.par2 2 3 (.newo (.var 1)) (.newl .nil)) (.seq (.loop (.nm 4) (.rng (.bi .len (.cons (.var 1) .nil))) (.seq (.app 3 (.pop 2 (.call 15 (.cons (.var 0) (.cons (.bi .len (.cons (.var 2) .nil)) .nil))))) .skip)) (.seq (.ret (.frz 3)) .skip)))
def b__law_words : Iv.St := (.seq (.ret (.comp [1] (.nm 1) (.one (.meth .split (.var 0) (.cons (.str [32]) .nil))) (.one (.cmp .ne (.var 1) (.str []))) (.var 1))) .skip)
def b__law_is_kind : Iv.St := (.seq (.asg 1 (.comp [2] (.nm 2) (.one (.var 0)) (.one (.cmp .notin (.var 2) (.str [97, 98, 99, 100, 101, 102, 103, 104, 105, 106, 107, 108, 109, 110, 111, 112, 113, 114, 115, 116, 117, 118, 119, 120, 121, 122, 48, 49, 50, 51, 52, 53, 54, 55, 56, 57]))) (.var 2))) (.seq (.ret (.and (.chain .le .le (.int 1) (.bi .len (.cons (.var 0) .nil)) (.int 8)) (.and (.cmp .eq (.var 1) (.lst .nil)) (.one (.cmp .notin (.ix (.var 0) (.int 0)) (.str [48, 49, 50, 51, 52, 53, 54, 55, 56, 57])))))) .skip))
def b__law_is_number : Iv.St := (.seq (.ret (.and (.chain .le .le (.int 1) (.bi .len (.cons (.var 0) .nil)) (.int 7)) (.and (.cmp .eq (.comp [1] (.nm 1) (.one (.var 0)) (.one (.cmp .notin (.var 1) (.str [48, 49, 50, 51, 52, 53, 54, 55, 56, 57]))) (.var 1)) (.lst .nil)) (.one (.cmp .ne (.ix (.var 0) (.int 0)) (.str [48])))))) .skip)
def b__law_is_entry : Iv.St := (.seq (.asg 1 (.call 18 (.cons (.var 0) .nil))) (.seq (.ite (.or (.cmp .ne (.bi .len (.cons (.var 1) .nil)) (.int 2)) (.or (.not (.call 19 (.cons (.ix (.var 1) (.int 0)) .nil))) (.one (.cmp .eq (.ix (.var 1) (.int 0)) (.str [110, 111, 116, 104, 105, 110, 103]))))) (.seq (.ret (.bl false)) .skip) .skip) (.seq (.ret (.call 20 (.cons (.ix (.var 1) (.int 1)) .nil))) .skip)))
def b__law_goes_on : Iv.St := (.seq (.asg 1 (.meth .split (.var 0) (.cons (.str [44]) .nil))) (.seq (.asg 2 (.call 18 (.cons (.ix (.var 1) (.neg (.int 1))) .nil))) (.seq (.ite (.or (.and (.cmp .eq (.bi .len (.cons (.var 1) .nil)) (.int 1)) (.one (.cmp .eq (.var 2) (.lst (.cons (.str [110, 111, 116, 104, 105, 110, 103]) .nil))))) (.one (.cmp .eq (.var 2) (.lst .nil)))) (.seq (.ret (.cmp .eq (.comp [3] (.nm 3) (.one (.sl (.var 1) .no (.one (.neg (.int 1))))) (.one (.not (.call 21 (.cons (.var 3) .nil)))) (.var 3)) (.lst .nil))) .skip) .skip) (.seq (.ite (.or (.cmp .ne (.comp [3] (.nm 3) (.one (.sl (.var 1) .no (.one (.neg (.int 1))))) (.one (.not (.call 21 (.cons (.var 3) .nil)))) (.var 3)) (.lst .nil)) (.one (.not (.call 19 (.cons (.ix (.var 2) (.int 0)) .nil))))) (.seq (.ret (.bl false)) .skip) .skip) (.seq (.ite (.and (.cmp .eq (.ix (.var 2) (.int 0)) (.str [110, 111, 116, 104, 105, 110, 103])) (.one (.or (.cmp .gt (.bi .len (.cons (.var 2) .nil)) (.int 1)) (.one (.cmp .eq (.ix (.ix (.var 1) (.neg (.int 1))) (.neg (.int 1))) (.str [32])))))) (.seq (.ret (.bl false)) .skip) .skip) (.seq (.ret (.or (.cmp .eq (.bi .len (.cons (.var 2) .nil)) (.int 1)) (.one (.and (.cmp .eq (.bi .len (.cons (.var 2) .nil)) (.int 2)) (.one (.call 20 (.cons (.ix (.var 2) (.int 1)) .nil))))))) .skip))))))
def b__law_due : Iv.St := (.seq (.loop (.nm 1) (.rng (.bi .len (.cons (.var 0) .nil))) (.seq (.ite (.not (.call 22 (.cons (.sl (.var 0) .no (.one (.bin .add (.var 1) (.int 1)))) .nil))) (.seq (.ret (.tup (.cons (.str [115, 112, 111, 116]) (.cons (.var 1) .nil)))) .skip) .skip) .skip)) (.seq (.par3c 2 3 4 (.meth .split (.var 0) (.cons (.str [44]) .nil)) .newd (.int 0)) (.seq (.ite (.cmp .eq (.call 18 (.cons (.var 0) .nil)) (.lst (.cons (.str [110, 111, 116, 104, 105, 110, 103]) .nil))) (.seq (.ret (.tup (.cons (.str [112, 97, 105, 114, 115]) (.cons (.ptup .nil) .nil)))) .skip) .skip) (.seq (.ite (.not (.call 21 (.cons (.ix (.var 2) (.neg (.int 1))) .nil))) (.seq (.ret (.tup (.cons (.str [115, 112, 111, 116]) (.cons (.bi .len (.cons (.var 0) .nil)) .nil)))) .skip) .skip) (.seq (.loop (.nm 5) (.one (.var 2)) (.seq (.asgT (.tp (.cons (.nm 6) (.cons (.nm 7) .nil))) (.call 18 (.cons (.var 5) .nil))) (.seq (.ite (.din false (.var 6) (.var 3)) (.seq (.ret (.tup (.cons (.str [115, 112, 111, 116]) (.cons (.bin .sub (.bin .add (.var 4) (.bi .len (.cons (.var 5) .nil))) (.bi .len (.cons (.meth .lstrip (.var 5) (.cons (.str [32]) .nil)) .nil))) .nil)))) .skip) .skip) (.seq (.ite (.cmp .gt (.bi .int (.cons (.var 7) .nil)) (.int 1000000)) (.seq (.ret (.tup (.cons (.str [115, 112, 111, 116]) (.cons (.bin .sub (.bin .add (.var 4) (.bi .len (.cons (.meth .rstrip (.var 5) (.cons (.str [32]) .nil)) .nil))) (.bi .len (.cons (.var 7) .nil))) .nil)))) .skip) .skip) (.seq (.setd 3 (.var 6) (.bi .int (.cons (.var 7) .nil))) (.seq (.asg 4 (.bin .add (.bin .add (.var 4) (.bi .len (.cons (.var 5) .nil))) (.int 1))) .skip)))))) (.seq (.ret (.tup (.cons (.str [112, 97, 105, 114, 115]) (.cons (.ptl (.comp [6] (.nm 6) (.one (.srt (.var 3))) (.bl true) (.tup (.cons (.var 6) (.cons (.dix (.var 3) (.var 6)) .nil))))) .nil)))) .skip))))))
def b__law_told : Iv.St := (.seq (.tri (.seq (.ret (.tup (.cons (.str [112, 97, 105, 114, 115]) (.cons (.prp 0 (.cme 0 (.cons (.var 0) .nil))) .nil)))) .skip) [⟨0, some 1, (.tup (.cons (.str [115, 112, 111, 116]) (.cons (.fld 1 0) .nil)))⟩]) .skip)
def b__law_blanks : Iv.St := (.seq (.ret (.bin .mul (.str [32]) (.call 16 (.cons (.var 0) (.cons (.lst (.cons (.int 0) (.cons (.int 0) (.cons (.int 1) (.cons (.int 2) .nil))))) .nil))))) .skip)
def b__law_drawn : Iv.St := (.seq (.ite (.cmp .eq (.call 15 (.cons (.var 0) (.cons (.int 12) .nil))) (.int 0)) (.seq (.ret (.bin .add (.bin .add (.call 25 (.cons (.var 0) .nil)) (.str [110, 111, 116, 104, 105, 110, 103])) (.call 25 (.cons (.var 0) .nil)))) .skip) .skip) (.seq (.par2 1 2 (.newl .nil) (.lst (.cons (.int 1) (.cons (.int 2) (.cons (.int 10) (.cons (.int 1000000) (.cons (.int 1000001) (.cons (.int 9999999) .nil)))))))) (.seq (.loop (.nm 3) (.rng (.bin .add (.int 1) (.call 15 (.cons (.var 0) (.cons (.int 5) .nil))))) (.seq (.asg 4 (.call 16 (.cons (.var 0) (.cons (.lst (.cons (.str [97]) (.cons (.str [99, 111, 114, 101]) (.cons (.str [109, 101, 109]) (.cons (.str [108, 49]) (.cons (.str [110, 111, 116, 104, 105, 110, 103, 115]) (.cons (.str [110, 111, 116, 104, 105, 110]) (.cons (.str [120, 55, 121]) (.cons (.str [122, 122, 122, 122, 122, 122, 122, 122]) (.cons (.bin .add (.str [98]) (.bi .str (.cons (.var 3) .nil))) .nil)))))))))) .nil)))) (.seq (.asg 5 (.bi .str (.cons (.call 16 (.cons (.var 0) (.cons (.sl (.var 2) .no (.one (.ite (.cmp .eq (.call 15 (.cons (.var 0) (.cons (.int 4) .nil))) (.int 0)) (.int 6) (.int 4)))) .nil))) .nil))) (.seq (.asg 6 (.bin .add (.bin .add (.bin .add (.call 25 (.cons (.var 0) .nil)) (.var 4)) (.str [32])) (.call 25 (.cons (.var 0) .nil)))) (.seq (.app 1 (.bin .add (.bin .add (.var 6) (.var 5)) (.call 25 (.cons (.var 0) .nil)))) .skip))))) (.seq (.ret (.meth .join (.str [44]) (.cons (.var 1) .nil))) .skip))))
def b__law_spoilt : Iv.St := (.seq (.par2 2 3 (.call 15 (.cons (.var 0) (.cons (.bin .add (.bi .len (.cons (.var 1) .nil)) (.int 1)) .nil))) (.call 15 (.cons (.var 0) (.cons (.int 3) .nil)))) (.seq (.asg 4 (.call 16 (.cons (.var 0) (.cons (.lst (.cons (.str [48]) (.cons (.str [53]) (.cons (.str [97]) (.cons (.str [44]) (.cons (.str [32]) (.cons (.str [75]) (.cons (.str [45]) (.cons (.str [110, 111, 116, 104, 105, 110, 103]) (.cons (.str [32, 49, 32]) (.cons (.str [48, 48, 48, 48, 48, 48, 48, 48]) (.cons (.str [44, 32]) .nil)))))))))))) .nil)))) (.seq (.ret (.bin .add (.bin .add (.sl (.var 1) .no (.one (.var 2))) (.ite (.cmp .ne (.var 3) (.int 1)) (.var 4) (.str []))) (.sl (.var 1) (.one (.bin .add (.var 2) (.bi .int (.cons (.cmp .gt (.var 3) (.int 0)) .nil)))) .no))) .skip)))
def b__law_right : Iv.St := (.seq (.loop (.nm 1) (.rng (.int 6)) (.seq (.asg 2 (.call 26 (.cons (.var 0) .nil))) (.seq (.loop (.nm 3) (.rng (.bi .max2 (.cons (.int 0) (.cons (.bin .sub (.var 1) (.int 3)) .nil)))) (.seq (.asg 2 (.call 27 (.cons (.var 0) (.cons (.var 2) .nil)))) .skip)) (.seq (.asg 4 (.call 23 (.cons (.var 2) .nil))) (.seq (.ite (.cmp .ne (.call 24 (.cons (.var 2) .nil)) (.vard 4)) (.seq (.ret (.bl false)) .skip) .skip) (.seq (.ite (.cmp .eq (.ix (.vard 4) (.int 0)) (.str [112, 97, 105, 114, 115])) (.seq (.asg 5 (.mk 0 (.cons (.ix (.varp 4) (.int 1)) .nil))) (.seq (.ite (.or (.cmp .ne (.cme 0 (.cons (.ostr (.var 5)) .nil)) (.var 5)) (.one (.cmp .ne (.ostr (.cme 0 (.cons (.var 2) .nil))) (.ostr (.var 5))))) (.seq (.ret (.bl false)) .skip) .skip) (.seq (.asg 6 (.meth .join (.str [32, 44, 32]) (.cons (.comp [7, 8] (.tp (.cons (.nm 7) (.cons (.nm 8) .nil))) (.one (.call 17 (.cons (.var 0) (.cons (.bi .list (.cons (.ix (.vard 4) (.int 1)) .nil)) .nil)))) (.bl true) (.bin .add (.bin .add (.var 7) (.str [32, 32])) (.bi .str (.cons (.var 8) .nil)))) .nil))) (.seq (.ite (.and (.cmp .ne (.ix (.vard 4) (.int 1)) (.tup .nil)) (.one (.cmp .ne (.cme 0 (.cons (.var 6) .nil)) (.var 5)))) (.seq (.ret (.bl false)) .skip) .skip) .skip)))) .skip) .skip)))))) (.seq (.ret (.bl true)) .skip))
def b_law : Iv.St := (.seq (.loop (.nm 1) (.rng (.bi .max2 (.cons (.int 1) (.cons (.bi .min2 (.cons (.int 3) (.cons (.bi .len (.cons (.var 0) .nil)) .nil))) .nil)))) (.seq (.ite (.not (.call 28 (.cons (.call 14 (.cons (.var 0) (.cons (.var 1) .nil))) .nil))) (.seq (.ret (.bl false)) .skip) .skip) .skip)) (.seq (.asg 2 (.comp [3] (.nm 3) (.rng2 (.int 10) (.int 71)) (.bl true) (.bin .add (.bin .add (.str [107]) (.bi .str (.cons (.var 3) .nil))) (.str [32, 49])))) (.seq (.ite (.or (.cmp .ne (.call 24 (.cons (.meth .join (.str [44, 32]) (.cons (.var 2) .nil)) .nil)) (.tup (.cons (.str [115, 112, 111, 116]) (.cons (.bin .add (.bi .len (.cons (.meth .join (.str [44, 32]) (.cons (.sl (.var 2) .no (.one (.int 60))) .nil)) .nil)) (.int 2)) .nil)))) (.one (.cmp .ne (.bi .len (.cons (.ix (.call 24 (.cons (.meth .join (.str [44]) (.cons (.sl (.var 2) .no (.one (.int 60))) .nil)) .nil)) (.int 1)) .nil)) (.int 60)))) (.seq (.ret (.bl false)) .skip) .skip) (.seq (.asg 4 (.lst (.cons (.str []) (.cons (.str [32]) (.cons (.str [110, 111, 116, 104, 105, 110, 103, 32, 49]) (.cons (.str [99, 111, 114, 101, 32, 49, 44]) (.cons (.str [99, 111, 114, 101, 32, 49, 44, 32, 110, 111, 116, 104, 105, 110, 103, 32]) (.cons (.str [99, 111, 114, 101, 32, 48]) (.cons (.str [99, 111, 114, 101, 32, 49, 32, 50]) (.cons (.str [110, 111, 116, 104, 105, 110, 103, 49, 32, 51]) (.cons (.str [99, 111, 114, 101, 32, 49, 44, 99, 111, 114, 101, 32, 49, 48, 48, 48, 48, 48, 49]) .nil))))))))))) (.seq (.asg 5 (.lst (.cons (.tup (.cons (.str [115, 112, 111, 116]) (.cons (.int 0) .nil))) (.cons (.tup (.cons (.str [115, 112, 111, 116]) (.cons (.int 1) .nil))) (.cons (.tup (.cons (.str [115, 112, 111, 116]) (.cons (.int 8) .nil))) (.cons (.tup (.cons (.str [115, 112, 111, 116]) (.cons (.int 7) .nil))) (.cons (.tup (.cons (.str [115, 112, 111, 116]) (.cons (.int 15) .nil))) (.cons (.tup (.cons (.str [115, 112, 111, 116]) (.cons (.int 5) .nil))) (.cons (.tup (.cons (.str [115, 112, 111, 116]) (.cons (.int 7) .nil))) .nil))))))))) (.seq (.asg 5 (.bin .add (.var 5) (.lst (.cons (.tup (.cons (.str [112, 97, 105, 114, 115]) (.cons (.tup (.cons (.tup (.cons (.str [110, 111, 116, 104, 105, 110, 103, 49]) (.cons (.int 3) .nil))) .nil)) .nil))) (.cons (.tup (.cons (.str [115, 112, 111, 116]) (.cons (.int 7) .nil))) .nil))))) (.seq (.ret (.cmp .eq (.comp [6] (.nm 6) (.one (.var 4)) (.bl true) (.call 24 (.cons (.var 6) .nil))) (.var 5))) .skip)))))))
def b_AmountsD_initD : Iv.St := (.seq (.ite (.not (.call 5 (.cons (.var 1) .nil))) (.seq .never .skip) .skip) (.seq (.setsl 0 (.var 0) (.varp 1)) (.seq (.setsl 1 (.var 0) (.dof (.varp 1))) .skip)))
def b_Amounts_of_text : Iv.St := (.seq (.ite (.not (.isi (.var 1) .str)) (.seq (.rse 0 (.cons .non .nil)) .skip) .skip) (.seq (.ret (.mkc 0 0 (.cons (.ptl (.srt (.call 13 (.cons (.var 1) .nil)))) .nil))) .skip))
def b_Amounts_pairs : Iv.St := (.seq (.ret (.slt 0 (.var 0))) .skip)
def b_AmountsD_eqD : Iv.St := (.seq (.ret (.and (.isc 0 (.var 1)) (.one (.cmp .eq (.slt 0 (.var 0)) (.slt 0 (.var 1)))))) .skip)
def b_AmountsD_strD : Iv.St := (.seq (.ret (.bi .str (.cons (.call 6 (.cons (.slt 0 (.var 0)) .nil)) .nil))) .skip)
def fns0 : List Iv.Fn := [⟨1, 1, b_is_integer, .all⟩, ⟨3, 3, b_is_from, .all⟩, ⟨2, 3, b_begins_with_letter, .all⟩, ⟨1, 1, b_is_kind, .all⟩, ⟨1, 3, b_are_ascending, .all⟩, ⟨1, 2, b_are_pairs, .all⟩, ⟨1, 3, b_text_of_pairs, .all⟩, ⟨2, 2, b_behind_blanks, .all⟩, ⟨3, 3, b_require_sign, .all⟩, ⟨4, 5, b_behind_run, .all⟩, ⟨2, 5, b_entry_at, .all⟩, ⟨1, 4, b_entries_in, .all⟩, ⟨1, 2, b_is_nothing_ahead, .all⟩, ⟨1, 7, b_pairs_in, .all⟩, ⟨2, 4, b__law_dice, .all⟩, ⟨2, 5, b__law_roll, .all⟩, ⟨2, 2, b__law_pick, .all⟩, ⟨2, 5, b__law_mixed, .all⟩, ⟨1, 2, b__law_words, .all⟩, ⟨1, 3, b__law_is_kind, .all⟩, ⟨1, 2, b__law_is_number, .all⟩, ⟨1, 2, b__law_is_entry, .all⟩, ⟨1, 4, b__law_goes_on, .all⟩, ⟨1, 8, b__law_due, .all⟩, ⟨1, 2, b__law_told, .all⟩, ⟨1, 1, b__law_blanks, .all⟩, ⟨1, 7, b__law_drawn, .all⟩, ⟨2, 5, b__law_spoilt, .all⟩, ⟨1, 9, b__law_right, .all⟩, ⟨1, 7, b_law, .all⟩, ⟨2, 2, b_AmountsD_initD, .all⟩, ⟨2, 2, b_Amounts_of_text, .all⟩, ⟨1, 1, b_Amounts_pairs, .all⟩, ⟨2, 2, b_AmountsD_eqD, .all⟩, ⟨1, 1, b_AmountsD_strD, .all⟩]
def P0 : Iv.Prg where
  globs := [(.int (1000000000000000000000000000000000000000000000000000000000000)), (.str [97, 98, 99, 100, 101, 102, 103, 104, 105, 106, 107, 108, 109, 110, 111, 112, 113, 114, 115, 116, 117, 118, 119, 120, 121, 122]), (.str [48, 49, 50, 51, 52, 53, 54, 55, 56, 57]), (.str [110, 111, 116, 104, 105, 110, 103]), (.int (8)), (.int (60)), (.int (1000000)), (.str [32]), (.int (7)), (.str [44])]
  sub := fun a b => ([(0, 0)] : List (Nat × Nat)).any fun q => decide (q.1 = a) && decide (q.2 = b)
  fuel := 1000
  mks := [(0, 30)]
  sls := [(0, 0), (0, 1)]
  mts := []
  prs := [(0, 32)]
  cms := [(0, 31)]
  isc := fun c j => (([(0, 0, true)] : List (Nat × Nat × Bool)).find? fun q => decide (q.1 = c) && decide (q.2.1 = j)).map (·.2.2)
  opf := fun o c => (([] : List (Iv.BOp × Nat × Nat)).find? fun q => decide (q.1 = o) && decide (q.2.1 = c)).map (·.2.2)
  eqf := fun c => (([(0, 33)] : List (Nat × Nat)).find? fun q => decide (q.1 = c)).map (·.2)
  lnf := fun c => (([] : List (Nat × Nat)).find? fun q => decide (q.1 = c)).map (·.2)
  bof := fun c => (([] : List (Nat × Nat)).find? fun q => decide (q.1 = c)).map (·.2)
  stf := fun c => (([(0, 34)] : List (Nat × Nat)).find? fun q => decide (q.1 = c)).map (·.2)
end K03
end
section
set_option maxRecDepth 100000
namespace K03
open PySem L2 Iv
def tb : Tb where
  fns := fns0
  Ns := [(["value"] : List Str), (["value", "least", "most"] : List Str), (["value", "most", "sign"] : List Str), (["value"] : List Str), (["items", "one", "other"] : List Str), (["value", "pair"] : List Str), (["pairs", "kind", "number"] : List Str), (["text", "spot"] : List Str), (["text", "spot", "signs"] : List Str), (["text", "spot", "signs", "most", "end"] : List Str), (["text", "spot", "behind", "begin", "end"] : List Str), (["text", "found", "spot", "entry"] : List Str), (["text", "spot"] : List Str), (["text", "end", "found", "kind", "at_kind", "number", "at_number"] : List Str), (["_law_script", "_law_spot", "_law_cell", "_law_left"] : List Str), (["_law_dice_here", "_law_total", "_law_found", "_law_one", "_law_two"] : List Str), (["_law_dice_here", "_law_items"] : List Str), (["_law_dice_here", "_law_items", "_law_left", "_law_found", "_law_turn"] : List Str), (["_law_text", "_law_word"] : List Str), (["_law_word", "_law_rest", "_law_sign"] : List Str), (["_law_word", "_law_sign"] : List Str), (["_law_part", "_law_words_here"] : List Str), (["_law_text", "_law_parts", "_law_words_here", "_law_part"] : List Str), (["_law_text", "_law_at", "_law_parts", "_law_found", "_law_begin", "_law_part", "_law_kind", "_law_number"] : List Str), (["_law_text", "e"] : List Str), (["_law_dice_here"] : List Str), (["_law_dice_here", "_law_parts", "_law_numbers", "_law_turn", "_law_kind", "_law_number", "_law_part"] : List Str), (["_law_dice_here", "_law_text", "_law_at", "_law_way", "_law_sign"] : List Str), (["_law_dice_here", "_law_turn", "_law_text", "_law_lap", "_law_due_here", "_law_amounts", "_law_mixed_here", "_law_kind", "_law_number"] : List Str), (["_law_script", "_law_spot", "_law_many", "_law_number", "_law_texts", "_law_due_here", "_law_text"] : List Str), (["self", "pairs"] : List Str), (["cls", "text"] : List Str), (["self"] : List Str), (["self", "other"] : List Str), (["self"] : List Str)]
  wh := [.glo "is_integer", .glo "is_from", .glo "begins_with_letter", .glo "is_kind", .glo "are_ascending", .glo "are_pairs", .glo "text_of_pairs", .glo "behind_blanks", .glo "require_sign", .glo "behind_run", .glo "entry_at", .glo "entries_in", .glo "is_nothing_ahead", .glo "pairs_in", .glo "_law_dice", .glo "_law_roll", .glo "_law_pick", .glo "_law_mixed", .glo "_law_words", .glo "_law_is_kind", .glo "_law_is_number", .glo "_law_is_entry", .glo "_law_goes_on", .glo "_law_due", .glo "_law_told", .glo "_law_blanks", .glo "_law_drawn", .glo "_law_spoilt", .glo "_law_right", .glo "law", .met 0 "__init__", .cmt 0 "of_text", .prp 0 "pairs", .met 0 "__eq__", .met 0 "__str__"]
  gfn := ["is_integer", "is_from", "begins_with_letter", "is_kind", "are_ascending", "are_pairs", "text_of_pairs", "behind_blanks", "require_sign", "behind_run", "entry_at", "entries_in", "is_nothing_ahead", "pairs_in", "_law_dice", "_law_roll", "_law_pick", "_law_mixed", "_law_words", "_law_is_kind", "_law_is_number", "_law_is_entry", "_law_goes_on", "_law_due", "_law_told", "_law_blanks", "_law_drawn", "_law_spoilt", "_law_right", "law"]
  globs := [("GREATEST", (.int (1000000000000000000000000000000000000000000000000000000000000))), ("LETTERS", (.str [97, 98, 99, 100, 101, 102, 103, 104, 105, 106, 107, 108, 109, 110, 111, 112, 113, 114, 115, 116, 117, 118, 119, 120, 121, 122])), ("DIGITS", (.str [48, 49, 50, 51, 52, 53, 54, 55, 56, 57])), ("NOTHING", (.str [110, 111, 116, 104, 105, 110, 103])), ("MAX_KIND", (.int (8))), ("MAX_KINDS", (.int (60))), ("MAX_AMOUNT", (.int (1000000))), ("BLANK", (.str [32])), ("MAX_DIGITS", (.int (7))), ("COMMA", (.str [44]))]
  cls := ["Amounts"]
  excs := [⟨"ParseError", some "spot", 0⟩]
  fuel := 1000
  subs := [(0, 0)]
  mks := [(0, 30)]
  sls := [("own_pairs", 0, 0), ("own_table", 0, 1)]
  mts := []
  prs := [("pairs", 0, 32)]
  cms := [("of_text", 0, 31)]
  ops := []
  eqs := [(0, 33)]
  lns := []
  bls := []
  sts := [(0, 34)]
  isc := [(0, 0, true)]
theorem tb_prg : tb.prg = P0 := rfl
theorem tb_fns : tb.fns = fns0 := rfl
end K03
end
section
set_option maxRecDepth 100000
set_option maxHeartbeats 1000000
set_option exponentiation.threshold 2000
/-! Pw: ways through the interpreter that hold for every program. -/
namespace Pw
open Iv
theorem compL_all {f : D → Hs → R (Option D)} {S : Hs} {p : D → Bool} {g : D → D} : ∀ {xs acc : List D}, (∀ x ∈ xs, f x S = .ok (if p x then some (g x) else none) S) → compL f xs acc S = .ok (acc ++ (xs.filter p).map g) S
  | [], acc, _ => by simp [compL]
  | x :: xs, acc, h => by
    simp only [compL, h x List.mem_cons_self]
    have ih := fun acc => compL_all (acc := acc) (fun y hy => h y (List.mem_cons_of_mem _ hy))
    by_cases q : p x = true
    · rw [if_pos q]; dsimp only; rw [ih, List.filter_cons_of_pos q]; simp
    · rw [if_neg q]; dsimp only; rw [ih, List.filter_cons_of_neg q]
theorem compL_map {f : D → Hs → R (Option D)} {S : Hs} {g : D → D} {xs acc : List D} (h : ∀ x ∈ xs, f x S = .ok (some (g x)) S) : compL f xs acc S = .ok (acc ++ xs.map g) S := by
  rw [compL_all (p := fun _ => true) (g := g) (fun x hx => by rw [h x hx]; simp), List.filter_eq_self.mpr (fun _ _ => rfl)]
theorem kput_new {k : Ky} {v : D} {xs : List (Ky × D)} (h : ∀ p ∈ xs, p.1 ≠ k) : kput k v xs = xs ++ [(k, v)] := by
  unfold kput
  rw [if_neg]
  rw [List.any_eq_true]
  rintro ⟨p, hp, e⟩
  exact h p hp (of_decide_eq_true e)
theorem dcmpL_all {f : D → Hs → R (Option (Ky × D))} {S : Hs} {p : D → Bool} {g : D → Ky × D} : ∀ {xs : List D} {acc : List (Ky × D)}, (∀ x ∈ xs, f x S = .ok (if p x then some (g x) else none) S) → (acc.map (·.1) ++ ((xs.filter p).map fun x => (g x).1)).Nodup →
    dcmpL f xs acc S = .ok (acc ++ (xs.filter p).map g) S
  | [], acc, _, _ => by simp [dcmpL]
  | x :: xs, acc, h, nd => by
    simp only [dcmpL, h x List.mem_cons_self]
    by_cases q : p x = true
    · rw [if_pos q]; dsimp only
      rw [List.filter_cons_of_pos q] at nd ⊢
      rw [kput_new, dcmpL_all (fun y hy => h y (List.mem_cons_of_mem _ hy))]
      · simp
      · simpa using nd
      · intro a ha e
        rw [List.nodup_append] at nd
        exact nd.2.2 a.1 (List.mem_map_of_mem ha) (g x).1 (by simp) e
    · rw [if_neg q]; dsimp only
      rw [List.filter_cons_of_neg q] at nd ⊢
      exact dcmpL_all (fun y hy => h y (List.mem_cons_of_mem _ hy)) nd
/-! ### amounts -/
theorem bools_true {α : Type} : ∀ xs : List α, bools (xs.map fun _ => D.bl true) = some (xs.map fun _ => true)
  | [] => rfl
  | x :: xs => by simp [bools, bools_true xs]
theorem allB_true {α : Type} : ∀ xs : List α, allB (xs.map fun _ => true) = true
  | [] => rfl
  | x :: xs => by simp [allB, allB_true xs]
theorem forL_all {t : Tg} {f : Ev → Hs → RS} {S : Hs} {I : Ev → Prop} : ∀ {xs : List D} {r : Ev}, I r → (∀ x ∈ xs, ∀ r, I r → ∃ r1 r2, asgD t x r = some r1 ∧ f r1 S = .nx r2 S ∧ I r2) → ∃ r', forL t f xs r S = .nx r' S ∧ I r'
  | [], r, hI, _ => ⟨r, rfl, hI⟩
  | x :: xs, r, hI, h => by
    obtain ⟨r1, r2, h1, h2, h3⟩ := h x List.mem_cons_self r hI
    obtain ⟨r', h4, h5⟩ := forL_all h3 (fun y hy => h y (List.mem_cons_of_mem _ hy))
    exact ⟨r', by simp only [forL, h1, h2, h4], h5⟩
variable {P : Prg} {cal : Cal} {r r1 : Ev} {S S1 S2 : Hs}
theorem x_nx {a b : St} {r r1 : Ev} {S S1 : Hs} (h : exec P cal a r S = .nx r1 S1) : exec P cal (.seq a b) r S = exec P cal b r1 S1 := by simp only [exec, h]
theorem x_ret {a b : St} {r : Ev} {S S1 : Hs} {v : Vl} (h : exec P cal a r S = .ret v S1) : exec P cal (.seq a b) r S = .ret v S1 := by simp only [exec, h]
theorem x_loop {t : Tg} {it : Ex} {b : St} {r : Ev} {S S1 : Hs} {xs : List D} (h : evi P cal it r S = .ok xs S1) : exec P cal (.loop t it b) r S = forL t (fun r S => exec P cal b r S) xs r S1 := by simp only [exec, h, R.st]
theorem x_if {e : Ex} {a b : St} {r : Ev} {S S1 : Hs} {q : Bool} (h : ev P cal e r S = .ok (.d (.bl q)) S1) : exec P cal (.ite e a b) r S = if q then exec P cal a r S1 else exec P cal b r S1 := by
  cases q <;> simp only [exec, h, R.st] <;> rfl
theorem x_asg {e : Ex} {i : Nat} {r : Ev} {S S1 : Hs} {v : Vl} (h : ev P cal e r S = .ok v S1) : exec P cal (.asg i e) r S = .nx (r.set i (some v)) S1 := by simp only [exec, h, R.st]
theorem x_expr {e : Ex} {r : Ev} {S S1 : Hs} {v : Vl} (h : ev P cal e r S = .ok v S1) : exec P cal (.expr e) r S = .nx r S1 := by simp only [exec, h, R.st]
theorem x_retv {e : Ex} {r : Ev} {S S1 : Hs} {v : Vl} (h : ev P cal e r S = .ok v S1) : exec P cal (.ret e) r S = .ret v S1 := by simp only [exec, h, R.st]
theorem e_comp {own : List Nat} {t : Tg} {it c e : Ex} {r : Ev} {S S1 : Hs} {xs : List D} (p : D → Bool) (g : D → D) (h : evi P cal it r S = .ok xs S1) (hb : xs.length ≤ 1000000)
    (hx : ∀ x ∈ xs, ∃ r1, asgD t x (wipes r own) = some r1 ∧ ev P cal c r1 S1 = .ok (.d (.bl (p x))) S1 ∧ (p x = true → ev P cal e r1 S1 = .ok (.d (g x)) S1)) :
    ev P cal (.comp own t it c e) r S = .ok (.d (.lst ((xs.filter p).map g))) S1 := by
  simp only [ev, h, R.bind, if_neg (show ¬ big < xs.length from Nat.not_lt.mpr hb)]
  rw [compL_all (p := p) (g := g) fun x hm => ?_]
  · simp
  · obtain ⟨r1, h1, h2, h3⟩ := hx x hm
    simp only [h1, h2, R.bind]
    cases q : p x with
    | true => simp only [h3 q, if_true]
    | false => simp
theorem e_dcmp {own : List Nat} {t : Tg} {it c k e : Ex} {r : Ev} {S S1 : Hs} {xs : List D} (p : D → Bool) (g : D → Ky × D) (h : evi P cal it r S = .ok xs S1) (hb : xs.length ≤ 1000000)
    (hx : ∀ x ∈ xs, ∃ r1 y, asgD t x (wipes r own) = some r1 ∧ ev P cal c r1 S1 = .ok (.d (.bl (p x))) S1 ∧ (p x = true → ev P cal k r1 S1 = .ok (.d y) S1 ∧ keyD y = some (g x).1 ∧ ev P cal e r1 S1 = .ok (.d (g x).2) S1))
    (nd : ((xs.filter p).map fun x => (g x).1).Nodup) : ev P cal (.dcmp own t it c k e) r S = .ok (.d (.dct ((xs.filter p).map g))) S1 := by
  simp only [ev, h, R.bind, if_neg (show ¬ big < xs.length from Nat.not_lt.mpr hb)]
  rw [dcmpL_all (p := p) (g := g) (fun x hm => ?_) (by simpa using nd)]
  · simp
  · obtain ⟨r1, y, h1, h2, h3⟩ := hx x hm
    simp only [h1, h2, R.bind]
    cases q : p x with
    | true =>
      obtain ⟨a1, a2, a3⟩ := h3 q
      simp only [a1, a2, a3, if_true]
    | false => simp
theorem v_nil : evs P cal .nil r S = .ok [] S := by simp only [evs]
theorem v_cons {e es : Ex} {v : Vl} {vs : List Vl} (h : ev P cal e r S = .ok v S1) (h2 : evs P cal es r S1 = .ok vs S2) : evs P cal (.cons e es) r S = .ok (v :: vs) S2 := by simp only [evs, h, h2, R.bind]
theorem v_one {e : Ex} {v : Vl} (h : ev P cal e r S = .ok v S1) : evs P cal (.cons e .nil) r S = .ok [v] S1 := v_cons h v_nil
theorem v_var {i : Nat} {x : D} (h : r[i]? = some (some (.d x))) : ev P cal (.var i) r S = .ok (.d x.wk) S := by simp only [ev, h]
theorem v_loc {i n : Nat} (h : r[i]? = some (some (.loc n))) : ev P cal (.var i) r S = .ok (.loc n) S := by simp only [ev, h]
theorem v_call {f : Nat} {es : Ex} {vs : List Vl} {x : R Vl} (h : evs P cal es r S = .ok vs S1) (h2 : cal f vs S1 = x) : ev P cal (.call f es) r S = x := by simp only [ev, h, R.bind, h2]
theorem v_not {a : Ex} {q : Bool} (h : ev P cal a r S = .ok (.d (.bl q)) S1) : ev P cal (.not a) r S = .ok (.d (.bl (!q))) S1 := by simp only [ev, h, R.bind]
theorem v_and {a b : Ex} {p q : Bool} (h : ev P cal a r S = .ok (.d (.bl p)) S) (h2 : p = true → ev P cal b r S = .ok (.d (.bl q)) S) : ev P cal (.and a b) r S = .ok (.d (.bl (p && q))) S := by
  cases p with
  | true => simp only [ev, h, R.bind, h2 rfl, Bool.true_and]
  | false => simp only [ev, h, R.bind, Bool.false_and]
theorem v_or {a b : Ex} {p q : Bool} (h : ev P cal a r S = .ok (.d (.bl p)) S) (h2 : p = false → ev P cal b r S = .ok (.d (.bl q)) S) : ev P cal (.or a b) r S = .ok (.d (.bl (p || q))) S := by
  cases p with
  | true => simp only [ev, h, R.bind, Bool.true_or]
  | false => simp only [ev, h, R.bind, h2 rfl, Bool.false_or]
theorem v_1 {a : Ex} {x : R Vl} (h : ev P cal a r S = x) : ev P cal (.one a) r S = x := by simp only [ev, h]
theorem x_no {e : Ex} (h : ev P cal e r S = .ok (.d (.bl false)) S) : exec P cal (.ite e (.seq (.ret (.bl false)) .skip) .skip) r S = .nx r S := by
  rw [x_if h]; simp [exec]
theorem v_no {a : Ex} {p : Bool} (h : ev P cal a r S = .ok (.d (.bl p)) S) (hp : p = true) : ev P cal (.not a) r S = .ok (.d (.bl false)) S := by rw [v_not h, hp]; rfl
theorem v_ors {a b : Ex} (h : ev P cal a r S = .ok (.d (.bl false)) S) (h2 : ev P cal b r S = .ok (.d (.bl false)) S) : ev P cal (.or a b) r S = .ok (.d (.bl false)) S := v_or h fun _ => h2
theorem v_ands {a b : Ex} (h : ev P cal a r S = .ok (.d (.bl true)) S) (h2 : ev P cal b r S = .ok (.d (.bl true)) S) : ev P cal (.and a b) r S = .ok (.d (.bl true)) S := v_and h fun _ => h2
theorem v_neb {a b : Ex} {p q : Bool} (ha : ev P cal a r S = .ok (.d (.bl p)) S) (hb : ev P cal b r S = .ok (.d (.bl q)) S) : ev P cal (.cmp .ne a b) r S = .ok (.d (.bl (!(p == q)))) S := by
  simp only [ev, ha, hb, R.bind, rdV, cmpD, D.plain, D.eqv, Bool.and_self, if_true, Option.map_some, R.opt]
theorem v_eqb {a b : Ex} {p q : Bool} (ha : ev P cal a r S = .ok (.d (.bl p)) S) (hb : ev P cal b r S = .ok (.d (.bl q)) S) : ev P cal (.cmp .eq a b) r S = .ok (.d (.bl (p == q))) S := by
  simp only [ev, ha, hb, R.bind, rdV, cmpD, D.plain, D.eqv, Bool.and_self, if_true, Option.map_some, R.opt]
theorem v_eqi {a b : Ex} {p q : Int} (ha : ev P cal a r S = .ok (.d (.int p)) S) (hb : ev P cal b r S = .ok (.d (.int q)) S) : ev P cal (.cmp .eq a b) r S = .ok (.d (.bl (p == q))) S := by
  simp only [ev, ha, hb, R.bind, rdV, cmpD, D.plain, D.eqv, Bool.and_self, if_true, Option.map_some, R.opt]
theorem v_int {i : Int} : ev P cal (.int i) r S = .ok (.d (.int i)) S := by simp only [ev]
/-! ### amounts, at the depth k + 6 -/
theorem v_addi {a b : Ex} {i j : Int} (ha : ev P cal a r S = .ok (.d (.int i)) S) (hb : ev P cal b r S = .ok (.d (.int j)) S) : ev P cal (.bin .add a b) r S = .ok (.d (.int (i + j))) S := by
  simp only [ev, ha, hb, R.bind, binD, Option.map_some, R.opt]
theorem v_vi {i : Nat} {x : Int} (h : r[i]? = some (some (.d (.int x)))) : ev P cal (.var i) r S = .ok (.d (.int x)) S := v_var h
theorem x_go {e : Ex} {b : St} (h : ev P cal e r S = .ok (.d (.bl false)) S) : exec P cal (.ite e b .skip) r S = .nx r S := by
  rw [x_if h]; simp [exec]
theorem v_ixl {i n : Nat} {j : Int} {xs : List D} {x : D} (h : r[i]? = some (some (.loc n))) (hS : S[n]? = some (.lst xs)) (hx : ixD (.lst xs) (.int j) = some x) : ev P cal (.ix (.var i) (.int j)) r S = .ok (.d x) S := by
  rw [ev, v_loc h]
  simp only [R.bind, ev, rdV, hS, hx, Option.map_some, R.opt]
theorem v_ixd {i : Nat} {j : Int} {xs : List D} {x : D} (h : r[i]? = some (some (.d (.lst xs)))) (hx : ixD (.lst xs) (.int j) = some x) : ev P cal (.ix (.var i) (.int j)) r S = .ok (.d x) S := by
  rw [ev, v_var h]
  simp only [R.bind, ev, rdV, D.wk, hx, Option.map_some, R.opt]
theorem x_app {i n : Nat} {e : Ex} {xs : List D} {x : D} (h : r[i]? = some (some (.loc n))) (hS : S[n]? = some (.lst xs)) (he : ev P cal e r S = .ok (.d x) S) (hl : xs.length < big) : exec P cal (.app i e) r S = .nx r (S.set n (.lst (xs ++ [x]))) := by
  simp only [exec, h, hS, he, R.st, hl, if_true]
theorem x_frz {i n : Nat} {b : St} {xs : List D} (h : r[i]? = some (some (.loc n))) (hS : S[n]? = some (.lst xs)) : exec P cal (.frzv i b) r S = exec P cal b (r.set i (some (.d (.lst xs)))) (S.set n .dead) := by
  simp only [exec, h, hS]
section
variable {a b : Ex} {i j : Int}
theorem v_b {o : BOp} {z : Int} (ha : ev P cal a r S = .ok (.d (.int i)) S) (hb : ev P cal b r S = .ok (.d (.int j)) S) (h : binD o (.int i) (.int j) = some (.int z)) : ev P cal (.bin o a b) r S = .ok (.d (.int z)) S := by
  simp only [ev, ha, hb, R.bind, h, Option.map_some, R.opt]
theorem v_bi1 {f : Bi} {x y : D} (ha : ev P cal a r S = .ok (.d x) S) (h : biD f [x] = some y) : ev P cal (.bi f (.cons a .nil)) r S = .ok (.d y) S := by
  simp only [ev, v_one ha, R.bind, rdVs, rdV, Option.map_some, Option.bind_some, h, R.opt]
theorem v_bi2 {f : Bi} {x y z : D} (ha : ev P cal a r S = .ok (.d x) S) (hb : ev P cal b r S = .ok (.d y) S) (h : biD f [x, y] = some z) : ev P cal (.bi f (.cons a (.cons b .nil))) r S = .ok (.d z) S := by
  simp only [ev, v_cons ha (v_one hb), R.bind, rdVs, rdV, Option.map_some, Option.bind_some, h, R.opt]
theorem v_lt (ha : ev P cal a r S = .ok (.d (.int i)) S) (hb : ev P cal b r S = .ok (.d (.int j)) S) : ev P cal (.cmp .lt a b) r S = .ok (.d (.bl (decide (i < j)))) S := by
  simp only [ev, ha, hb, R.bind, rdV, cmpD, Option.map_some, R.opt]
end
theorem forL_S {t : Tg} {f : Ev → Hs → RS} {I : Nat → Ev → Hs → Prop} : ∀ {xs : List D} {r : Ev} {S : Hs} {i : Nat}, I i r S → (∀ j x, xs[j]? = some x → ∀ r S, I (i + j) r S → ∃ r1 r2 S2, asgD t x r = some r1 ∧ f r1 S = .nx r2 S2 ∧ I (i + j + 1) r2 S2) → ∃ r' S', forL t f xs r S = .nx r' S' ∧ I (i + xs.length) r' S'
  | [], r, S, i, hI, _ => ⟨r, S, rfl, hI⟩
  | x :: xs, r, S, i, hI, h => by
    obtain ⟨r1, r2, S2, h1, h2, h3⟩ := h 0 x rfl r S hI
    obtain ⟨r', S', h4, h5⟩ := forL_S (i := i + 1) (r := r2) (S := S2) (xs := xs) h3 (fun j y hy r S hI => by
      have e : i + 1 + j = i + (j + 1) := by omega
      rw [e] at hI ⊢
      exact h (j + 1) y (by simpa using hy) r S hI)
    refine ⟨r', S', by simp only [forL, h1, h2, h4], ?_⟩
    have e : i + (x :: xs).length = i + 1 + xs.length := by simp; omega
    rw [e]; exact h5
inductive Ea (Rel : D → Option D → Prop) : List D → List (Option D) → Prop
  | nil : Ea Rel [] []
  | cons {x : D} {o : Option D} {xs : List D} {os : List (Option D)} : Rel x o → Ea Rel xs os → Ea Rel (x :: xs) (o :: os)
theorem compL_S {f : D → Hs → R (Option D)} {I : Hs → Prop} {Rel : D → Option D → Prop} : ∀ {xs acc : List D} {S : Hs}, I S → (∀ x ∈ xs, ∀ S, I S → ∃ o S', f x S = .ok o S' ∧ I S' ∧ Rel x o) → ∃ os S', compL f xs acc S = .ok (acc ++ os.filterMap id) S' ∧ I S' ∧ Ea Rel xs os
  | [], acc, S, hI, _ => ⟨[], S, by simp [compL], hI, .nil⟩
  | x :: xs, acc, S, hI, h => by
    obtain ⟨o, S1, h1, h2, h3⟩ := h x List.mem_cons_self S hI
    cases o with
    | none =>
      obtain ⟨os, S', a, b, d⟩ := compL_S (acc := acc) h2 (fun y hy => h y (List.mem_cons_of_mem _ hy))
      exact ⟨none :: os, S', by simp only [compL, h1, a]; simp, b, .cons h3 d⟩
    | some y =>
      obtain ⟨os, S', a, b, d⟩ := compL_S (acc := acc ++ [y]) h2 (fun y hy => h y (List.mem_cons_of_mem _ hy))
      exact ⟨some y :: os, S', by simp only [compL, h1, a]; simp, b, .cons h3 d⟩
def turn (cal : Cal) (own : List Nat) (t : Tg) (c e : Ex) (r : Ev) : D → Hs → R (Option D) := fun x S2 => match asgD t x (wipes r own) with
  | none => .bad
  | some r1 => (ev P cal c r1 S2).bind fun k S3 => match k with
    | .d (.bl true) => (ev P cal e r1 S3).bind fun y S4 => match y with
      | .d y => .ok (some y) S4
      | _ => .bad
    | .d (.bl false) => .ok none S3
    | _ => .bad
theorem ev_comp0 {own : List Nat} {t : Tg} {it c e : Ex} {r : Ev} {S : Hs} : ev P cal (.comp own t it c e) r S = (evi P cal it r S).bind fun xs S1 => if big < xs.length then .bad else (compL (turn (P := P) cal own t c e r) xs [] S1).bind fun ys S5 => .ok (.d (.lst ys)) S5 := rfl
theorem ev_newc0 {own : List Nat} {t : Tg} {it c e : Ex} {r : Ev} {S : Hs} : ev P cal (.newc own t it c e) r S = (evi P cal it r S).bind fun xs S1 => if big < xs.length then .bad else (compL (turn (P := P) cal own t c e r) xs [] S1).bind fun ys S5 => .ok (.loc S5.length) (S5 ++ [.lst ys]) := rfl
theorem compS {own : List Nat} {t : Tg} {it c e : Ex} {r : Ev} {S S1 : Hs} {xs : List D} {I : Hs → Prop} (Rel : D → Option D → Prop) (h : evi P cal it r S = .ok xs S1) (hb : xs.length ≤ 1000000) (hI : I S1)
    (hx : ∀ x ∈ xs, ∀ S, I S → ∃ r1 S3 b, asgD t x (wipes r own) = some r1 ∧ ev P cal c r1 S = .ok (.d (.bl b)) S3 ∧ ((b = false ∧ I S3 ∧ Rel x none) ∨ (b = true ∧ ∃ y S4, ev P cal e r1 S3 = .ok (.d y) S4 ∧ I S4 ∧ Rel x (some y)))) :
    ∃ os S', ev P cal (.comp own t it c e) r S = .ok (.d (.lst (os.filterMap id))) S' ∧ ev P cal (.newc own t it c e) r S = .ok (.loc S'.length) (S' ++ [.lst (os.filterMap id)]) ∧ I S' ∧ Ea Rel xs os := by
  obtain ⟨os, S', a, b, d⟩ := compL_S (f := turn (P := P) cal own t c e r) (I := I) (Rel := Rel) (xs := xs) (acc := []) (S := S1) hI (fun x hm S hIS => by
    obtain ⟨r1, S3, b, h1, h2, h3⟩ := hx x hm S hIS
    rcases h3 with ⟨rfl, q1, q2⟩ | ⟨rfl, y, S4, q1, q2, q3⟩
    · exact ⟨none, S3, by simp only [turn, h1, h2, R.bind], q1, q2⟩
    · exact ⟨some y, S4, by simp only [turn, h1, h2, q1, R.bind], q2, q3⟩)
  rw [List.nil_append] at a
  refine ⟨os, S', ?_, ?_, b, d⟩
  · rw [ev_comp0, h]; simp only [R.bind, if_neg (show ¬ big < xs.length from Nat.not_lt.mpr hb), a]
  · rw [ev_newc0, h]; simp only [R.bind, if_neg (show ¬ big < xs.length from Nat.not_lt.mpr hb), a]
theorem fin_len {x : D} {S S' : Hs} (h : S'.length = S.length) : fin S.length (.ret (.d x) S') = .ok (.d x) S' := by
  simp only [fin]; rw [List.take_of_length_le (by omega)]
def Dice (n : Nat) (S : Hs) : Prop := ∃ a b d : Int, S[n]? = some (.lst [.int a, .int b, .int d])
theorem mulL {i j : Int} (h : i.natAbs < 2 ^ 64) : mulOk i j = true := by simp only [mulOk, decide_eq_true h, Bool.true_or]
theorem mulR {i j : Int} (h : j.natAbs < 2 ^ 64) : mulOk i j = true := by simp only [mulOk, decide_eq_true h, Bool.true_or, Bool.or_true]
theorem b_mul {i j : Int} (h : mulOk i j = true) : binD .mul (.int i) (.int j) = some (.int (i * j)) := by simp only [binD, h, if_true]
theorem b_mod {i j : Int} (h : 0 < j) : binD .mod (.int i) (.int j) = some (.int (i % j)) := by simp only [binD, h, if_true]
theorem b_div {i j : Int} (h : 0 < j) (h' : j < 2 ^ 1000) : binD .fdiv (.int i) (.int j) = some (.int (i / j)) := by simp only [binD, h, h', and_self, if_true]
def Near (n : Nat) (S S' : Hs) : Prop := Dice n S' ∧ S'.length = S.length ∧ ∀ j, j ≠ n → S'[j]? = S[j]?
theorem Near.trans {n : Nat} {A B C : Hs} (h : Near n A B) (g : Near n B C) : Near n A C := ⟨g.1, g.2.1.trans h.2.1, fun j hj => (g.2.2 j hj).trans (h.2.2 j hj)⟩
theorem hide {x : R Vl} {z : Int} (h : x = .ok (.d (.int z)) S) : ∃ m : Int, x = .ok (.d (.int m)) S := ⟨z, h⟩
def t60 : Int := 10 ^ 60
theorem p60 : binD .pow (.int 10) (.int 60) = some (.int t60) := rfl
theorem t60_mul : mulOk t60 t60 = true := by decide
theorem t60_pos : 0 < t60 * t60 := by decide
theorem p16 : binD .pow (.int 10) (.int 16) = some (.int (10 ^ 16)) := rfl
theorem upTo_mem : ∀ {n : Nat} {a : Int} {x : D}, x ∈ upTo n a → ∃ i, x = .int i ∧ a ≤ i ∧ i < a + n
  | 0, _, _, h => by cases h
  | n + 1, a, x, h => by
    rcases List.mem_cons.mp h with rfl | h
    · exact ⟨a, rfl, by omega, by omega⟩
    · obtain ⟨i, e, h1, h2⟩ := upTo_mem h
      exact ⟨i, e, by omega, by omega⟩
end Pw
end
section
set_option maxRecDepth 100000
set_option maxHeartbeats 1000000
set_option exponentiation.threshold 2000
/-! Pw2: the dice of the laws. -/
namespace Pw
open Iv
variable {P : Prg} {fns : List Fn} {cal : Cal} {k : Nat} {r : Ev} {S : Hs}
theorem call_all {f : Nat} {fn : Fn} {vs : List Vl} (h : fns[f]? = some fn) (had : fn.ad = .all) (hl : vs.length = fn.np) : call P fns (k + 1) f vs S = fin S.length (exec P (call P fns k) fn.body (vs.map some ++ List.replicate (fn.ns - fn.np) none) S) := by
  simp only [call, h, had, adapt, runF, hl, if_true]
theorem fin_ret (x : D) (S : Hs) : fin S.length (.ret (.d x) S) = .ok (.d x) S := by simp [fin]
theorem fin_nx (r : Ev) (S : Hs) : fin S.length (.nx r S) = .ok (.d .non) S := by simp [fin]
theorem fin_exc (c : Nat) (fs : List D) (r : Ev) (S : Hs) : fin S.length (.exc c fs r S) = .exc c fs S := by simp [fin]
def b_dice : St := (.seq (.asg 2 (.ite (.cmp .lt (.var 1) (.bi .len (.cons (.var 0) .nil))) (.bi .int (.cons (.ix (.var 0) (.var 1)) .nil)) (.bin .add (.bin .mul (.int 71) (.var 1)) (.int 31)))) (.seq (.asg 3 (.bin .mod (.bi .max2 (.cons (.int 0) (.cons (.bin .sub (.bi .abs (.cons (.var 2) .nil)) (.bin .pow (.int 10) (.int 16))) .nil))) (.bin .mul (.bin .pow (.int 10) (.int 60)) (.bin .pow (.int 10) (.int 60))))) (.seq (.ret (.newl (.cons (.var 3) (.cons (.bin .add (.bin .add (.bin .add (.bin .mul (.bin .mod (.bi .abs (.cons (.var 2) .nil)) (.int 1152921504606846697)) (.int 59)) (.bin .mul (.int 821) (.var 1))) (.bin .mul (.int 37) (.bi .int (.cons (.cmp .lt (.var 2) (.int 0)) .nil)))) (.int 5)) (.cons (.int 0) .nil))))) .skip)))
def b_roll : St := (.seq (.ite (.cmp .gt (.ix (.var 0) (.int 0)) (.int 0)) (.seq (.asg 2 (.bin .mod (.bi .int (.cons (.ix (.var 0) (.int 0)) .nil)) (.var 1))) (.seq (.setix 0 (.int 0) (.bin .fdiv (.ix (.var 0) (.int 0)) (.var 1))) (.seq (.ret (.var 2)) .skip))) .skip) (.seq (.setix 0 (.int 2) (.bin .add (.ix (.var 0) (.int 2)) (.int 1))) (.seq (.asg 3 (.bin .mod (.bi .int (.cons (.bin .add (.ix (.var 0) (.int 1)) (.bin .mul (.int 67867967) (.ix (.var 0) (.int 2)))) .nil)) (.int 2305843009213693561))) (.seq (.asg 4 (.bin .add (.bin .mul (.bin .mod (.bi .int (.cons (.bin .add (.bin .mul (.var 3) (.var 3)) (.bin .mul (.int 101) (.ix (.var 0) (.int 2)))) .nil)) (.int 2305843009213693907)) (.int 7368847)) (.var 3))) (.seq (.ret (.bin .mod (.bi .int (.cons (.bin .fdiv (.var 4) (.int 65536)) .nil)) (.var 1))) .skip)))))
def b_pick (f : Nat) : St := (.seq (.ret (.ix (.var 1) (.call f (.cons (.var 0) (.cons (.bi .len (.cons (.var 1) .nil)) .nil))))) .skip)
theorem roll {f n : Nat} {t : Int} (hf : fns[f]? = some ⟨2, 5, b_roll, .all⟩) (h0 : 0 < t) (h1 : t < 1000000000) (hd : Dice n S) : ∃ v S', call P fns (k + 1) f [.loc n, .d (.int t)] S = .ok (.d (.int v)) S' ∧ 0 ≤ v ∧ v < t ∧ Near n S S' := by
  obtain ⟨a, b, d, hS⟩ := hd
  have hn : n < S.length := (List.getElem?_eq_some_iff.mp hS).1
  have fd : ∀ x : Int, binD .fdiv (.int x) (.int t) = some (.int (x / t)) := fun x => b_div h0 (Int.lt_trans h1 (by decide))
  have md : ∀ x : Int, binD .mod (.int x) (.int t) = some (.int (x % t)) := fun x => b_mod h0
  rw [call_all hf rfl rfl]
  show ∃ v S', fin S.length (exec P (call P fns k) b_roll [some (.loc n), some (.d (.int t)), none, none, none] S) = .ok (.d (.int v)) S' ∧ _
  by_cases ha : 0 < a
  · refine ⟨a % t, S.set n (.lst [.int (a / t), .int b, .int d]), ?_, Int.emod_nonneg _ (by omega), Int.emod_lt_of_pos _ h0, ⟨a / t, b, d, by simp [hn]⟩, by simp, fun j hj => by simp [Ne.symm hj]⟩
    have e : exec P (call P fns k) b_roll [some (.loc n), some (.d (.int t)), none, none, none] S = .ret (.d (.int (a % t))) (S.set n (.lst [.int (a / t), .int b, .int d])) := by
      simp [b_roll, exec, ev, evs, R.st, R.bind, D.wk, rdV, hS, ixD, plc, R.opt, cmpD, ha, rdVs, biD, md, fd]
    rw [e]
    simp only [fin]
    rw [List.take_of_length_le (by simp)]
  · have e : ∃ v, exec P (call P fns k) b_roll [some (.loc n), some (.d (.int t)), none, none, none] S = .ret (.d (.int (v % t))) (S.set n (.lst [.int a, .int b, .int (d + 1)])) := by
      unfold b_roll
      rw [x_nx (r1 := [some (.loc n), some (.d (.int t)), none, none, none]) (S1 := S) (by
        rw [x_if (q := false) (S1 := S) (by simp [ev, R.bind, rdV, hS, ixD, plc, R.opt, cmpD]; omega)]
        simp [exec])]
      rw [x_nx (r1 := [some (.loc n), some (.d (.int t)), none, none, none]) (S1 := S.set n (.lst [.int a, .int b, .int (d + 1)])) (by simp [exec, ev, R.st, R.bind, rdV, hS, ixD, plc, R.opt, binD])]
      have hS' : (S.set n (.lst [.int a, .int b, .int (d + 1)]))[n]? = some (.lst [.int a, .int b, .int (d + 1)]) := by simp [hn]
      generalize S.set n (.lst [.int a, .int b, .int (d + 1)]) = S' at hS' ⊢
      obtain ⟨x, hx, e3⟩ : ∃ x : Int, x.natAbs < 2 ^ 64 ∧ ev P (call P fns k) (.bin .mod (.bi .int (.cons (.bin .add (.ix (.var 0) (.int 1)) (.bin .mul (.int 67867967) (.ix (.var 0) (.int 2)))) .nil)) (.int 2305843009213693561)) [some (.loc n), some (.d (.int t)), none, none, none] S' = .ok (.d (.int x)) S' := by
        refine ⟨(b + 67867967 * (d + 1)) % 2305843009213693561, ?_, ?_⟩
        · have h1 := Int.emod_nonneg (b + 67867967 * (d + 1)) (show (2305843009213693561 : Int) ≠ 0 by decide)
          have h2 := Int.emod_lt_of_pos (b + 67867967 * (d + 1)) (show (0 : Int) < 2305843009213693561 by decide)
          omega
        · have k1 := b_mul (i := 67867967) (j := d + 1) (mulL (by decide))
          have q1 := b_mod (i := b + 67867967 * (d + 1)) (j := 2305843009213693561) (by decide)
          have k0 : binD .add (.int b) (.int (67867967 * (d + 1))) = some (.int (b + 67867967 * (d + 1))) := rfl
          simp [ev, evs, R.bind, rdV, hS', ixD, plc, R.opt, k1, k0, rdVs, biD, q1]
      rw [x_nx (x_asg e3)]
      obtain ⟨y, e4⟩ : ∃ y : Int, ev P (call P fns k) (.bin .add (.bin .mul (.bin .mod (.bi .int (.cons (.bin .add (.bin .mul (.var 3) (.var 3)) (.bin .mul (.int 101) (.ix (.var 0) (.int 2)))) .nil)) (.int 2305843009213693907)) (.int 7368847)) (.var 3)) [some (.loc n), some (.d (.int t)), none, some (.d (.int x)), none] S' = .ok (.d (.int y)) S' := by
        refine ⟨(x * x + 101 * (d + 1)) % 2305843009213693907 * 7368847 + x, ?_⟩
        have k1 := b_mul (i := 101) (j := d + 1) (mulL (by decide))
        have k2 := b_mul (i := x) (j := x) (mulL hx)
        have k0 : binD .add (.int (x * x)) (.int (101 * (d + 1))) = some (.int (x * x + 101 * (d + 1))) := rfl
        have q1 := b_mod (i := x * x + 101 * (d + 1)) (j := 2305843009213693907) (by decide)
        have k4 := b_mul (i := (x * x + 101 * (d + 1)) % 2305843009213693907) (j := 7368847) (mulR (by decide))
        have k5 : binD .add (.int ((x * x + 101 * (d + 1)) % 2305843009213693907 * 7368847)) (.int x) = some (.int ((x * x + 101 * (d + 1)) % 2305843009213693907 * 7368847 + x)) := rfl
        simp [ev, evs, R.bind, D.wk, rdV, hS', ixD, plc, R.opt, k1, k2, k0, rdVs, biD, q1, k4, k5]
      show ∃ v, exec P (call P fns k) _ [some (.loc n), some (.d (.int t)), none, some (.d (.int x)), none] S' = _
      rw [x_nx (x_asg e4)]
      refine ⟨y / 65536, x_ret (x_retv ?_)⟩
      have q3 := b_div (i := y) (j := 65536) (by decide) (by decide)
      simp [ev, evs, R.bind, D.wk, R.opt, q3, rdVs, rdV, biD, md]
    obtain ⟨v, e⟩ := e
    refine ⟨v % t, S.set n (.lst [.int a, .int b, .int (d + 1)]), ?_, Int.emod_nonneg _ (by omega), Int.emod_lt_of_pos _ h0, ⟨a, b, d + 1, by simp [hn]⟩, by simp, fun j hj => by simp [Ne.symm hj]⟩
    rw [e]
    simp only [fin]
    rw [List.take_of_length_le (by simp)]

theorem v_ro {i : Nat} {xs : List D} (h : r[i]? = some (some (.d (.ro xs)))) : ev P cal (.var i) r S = .ok (.d (.ro xs)) S := v_var h
theorem dice {f : Nat} {ns : List Int} {i : Int} (hf : fns[f]? = some ⟨2, 4, b_dice, .all⟩) (h0 : 0 ≤ i) : ∃ a b, call P fns (k + 1) f [.d (.ro (ns.map .int)), .d (.int i)] S = .ok (.loc S.length) (S ++ [.lst [.int a, .int b, .int 0]]) := by
  rw [call_all hf rfl rfl]
  show ∃ a b, fin S.length (exec P (call P fns k) b_dice [some (.d (.ro (ns.map .int))), some (.d (.int i)), none, none] S) = _
  unfold b_dice
  have N : ∀ {y z : Option Vl}, ev P (call P fns k) (.var 0) [some (.d (.ro (ns.map .int))), some (.d (.int i)), y, z] S = .ok (.d (.ro (ns.map .int))) S := v_ro rfl
  have I : ∀ {y z : Option Vl}, ev P (call P fns k) (.var 1) [some (.d (.ro (ns.map .int))), some (.d (.int i)), y, z] S = .ok (.d (.int i)) S := v_vi rfl
  have hl : biD .len [.ro (ns.map .int)] = some (.int ns.length) := by simp [biD]
  obtain ⟨s, hs⟩ : ∃ s : Int, ev P (call P fns k) (.ite (.cmp .lt (.var 1) (.bi .len (.cons (.var 0) .nil))) (.bi .int (.cons (.ix (.var 0) (.var 1)) .nil)) (.bin .add (.bin .mul (.int 71) (.var 1)) (.int 31))) [some (.d (.ro (ns.map .int))), some (.d (.int i)), none, none] S = .ok (.d (.int s)) S := by
    have C := v_lt (I (y := none) (z := none)) (v_bi1 N hl)
    by_cases q : i < (ns.length : Int)
    · rw [decide_eq_true q] at C
      have hn : i.toNat < ns.length := by omega
      refine ⟨ns[i.toNat], ?_⟩
      have hx : ixD (.ro (ns.map .int)) (.int i) = some (.int ns[i.toNat]) := by
        simp [ixD, plc, h0, q, hn]
      have X : ev P (call P fns k) (.ix (.var 0) (.var 1)) [some (.d (.ro (ns.map .int))), some (.d (.int i)), none, none] S = .ok (.d (.int ns[i.toNat])) S := by
        rw [ev, N]; simp only [R.bind]; rw [I]; simp only [rdV, hx, Option.map_some, R.opt]
      have Y := v_bi1 (f := .int) X (y := .int ns[i.toNat]) rfl
      rw [ev, C]
      simp only [R.bind, Y]
    · rw [decide_eq_false q] at C
      refine ⟨71 * i + 31, ?_⟩
      have Y := v_b (o := .add) (v_b (o := .mul) (v_int (i := 71)) (I (y := none) (z := none)) (b_mul (mulL (by decide)))) (v_int (i := 31)) rfl
      rw [ev, C]
      simp only [R.bind, Y]
  rw [x_nx (x_asg hs)]
  show ∃ a b, fin S.length (exec P (call P fns k) _ [some (.d (.ro (ns.map .int))), some (.d (.int i)), some (.d (.int s)), none] S) = _
  have W : ∀ {z : Option Vl}, ev P (call P fns k) (.var 2) [some (.d (.ro (ns.map .int))), some (.d (.int i)), some (.d (.int s)), z] S = .ok (.d (.int s)) S := v_vi rfl
  have Ab := v_bi1 (f := .abs) (W (z := none)) rfl
  have Ab2 := fun m : Int => v_bi1 (f := .abs) (W (z := some (.d (.int m)))) rfl
  have M := v_b (o := .mod) (v_bi2 (f := .max2) (v_int (i := 0)) (v_b (o := .sub) Ab (v_b (o := .pow) (v_int (i := 10)) (v_int (i := 16)) p16) rfl) rfl) (v_b (o := .mul) (v_b (o := .pow) (v_int (i := 10)) (v_int (i := 60)) p60) (v_b (o := .pow) (v_int (i := 10)) (v_int (i := 60)) p60) (b_mul t60_mul)) (b_mod t60_pos)
  obtain ⟨m, M⟩ := hide M
  rw [x_nx (x_asg M)]
  show ∃ a b, fin S.length (exec P (call P fns k) _ [some (.d (.ro (ns.map .int))), some (.d (.int i)), some (.d (.int s)), some (.d (.int m))] S) = _
  have V3 : ev P (call P fns k) (.var 3) [some (.d (.ro (ns.map .int))), some (.d (.int i)), some (.d (.int s)), some (.d (.int m))] S = .ok (.d (.int m)) S := v_vi rfl
  have Lt := v_bi1 (f := .int) (v_lt (W (z := some (.d (.int m)))) (v_int (i := 0))) rfl
  have Q := v_b (o := .add) (v_b (o := .add) (v_b (o := .add) (v_b (o := .mul) (v_b (o := .mod) (Ab2 m) (v_int (i := 1152921504606846697)) (b_mod (by decide))) (v_int (i := 59)) (b_mul (mulR (by decide)))) (v_b (o := .mul) (v_int (i := 821)) I (b_mul (mulL (by decide)))) rfl) (v_b (o := .mul) (v_int (i := 37)) Lt (b_mul (mulL (by decide)))) rfl) (v_int (i := 5)) rfl
  obtain ⟨q, Q⟩ := hide Q
  refine ⟨m, q, ?_⟩
  have E := v_cons V3 (v_cons Q (v_one (v_int (i := 0))))
  have F : ∀ {es : Ex} {x y : Int} {r : Ev}, evs P (call P fns k) es r S = .ok [.d (.int x), .d (.int y), .d (.int 0)] S → ev P (call P fns k) (.newl es) r S = .ok (.loc S.length) (S ++ [.lst [.int x, .int y, .int 0]]) := fun h => by
    rw [ev, h]; simp [R.bind, dsOf, big]
  rw [x_ret (x_retv (F E))]
  rfl

theorem pick {f g n : Nat} {xs : List D} (hf : fns[f]? = some ⟨2, 5, b_roll, .all⟩) (hg : fns[g]? = some ⟨2, 2, b_pick f, .all⟩) (h0 : 0 < xs.length) (h1 : xs.length < 1000) (hd : Dice n S) : ∃ v S', call P fns (k + 2) g [.loc n, .d (.lst xs)] S = .ok (.d v) S' ∧ v ∈ xs ∧ Near n S S' := by
  obtain ⟨v, S', e1, h2, h3, h4⟩ := roll (k := k) (P := P) hf (t := (xs.length : Int)) (by omega) (by omega) hd
  rw [call_all hg rfl rfl]
  show ∃ v S', fin S.length (exec P (call P fns (k + 1)) (b_pick f) [some (.loc n), some (.d (.lst xs))] S) = .ok (.d v) S' ∧ _
  have hv : v.toNat < xs.length := by omega
  have e2 : evs P (call P fns (k + 1)) (.cons (.var 0) (.cons (.bi .len (.cons (.var 1) .nil)) .nil)) [some (.loc n), some (.d (.lst xs))] S = .ok [.loc n, .d (.int xs.length)] S := by
    simp [evs, ev, R.bind, D.wk, rdVs, rdV, biD, R.opt]
  refine ⟨xs[v.toNat], S', ?_, List.getElem_mem hv, h4⟩
  have hx : ixD (.lst xs) (.int v) = some xs[v.toNat] := by
    have : v < (xs.length : Int) := h3
    simp [ixD, plc, h2, this, hv]
  have e3 : exec P (call P fns (k + 1)) (b_pick f) [some (.loc n), some (.d (.lst xs))] S = .ret (.d xs[v.toNat]) S' := by
    unfold b_pick
    refine x_ret (x_retv ?_)
    rw [ev, v_var rfl]
    simp only [R.bind, D.wk]
    rw [v_call e2 e1]
    simp only [rdV, hx, Option.map_some, R.opt]
  rw [e3]
  exact fin_len h4.2.1
theorem e_rng {P : Prg} {cal : Cal} {a : Ex} {r : Ev} {S1 : Hs} {j : Int} (h : ev P cal a r S = .ok (.d (.int j)) S1) (h0 : 0 ≤ j) (hn : j ≤ 1000000) : evi P cal (.rng a) r S = .ok (upTo j.toNat 0) S1 := by
  rw [evi, h]
  simp only [R.bind]
  rw [if_pos ⟨by omega, by omega⟩]
theorem e_rng2 {P : Prg} {cal : Cal} {a b : Ex} {r : Ev} {S1 S2 : Hs} {i j : Int} (h : ev P cal a r S = .ok (.d (.int i)) S1) (h2 : ev P cal b r S1 = .ok (.d (.int j)) S2) (h0 : 0 ≤ i) (h1 : 0 ≤ j) (hi : i ≤ 1000000) (hn : j ≤ 1000000) : evi P cal (.rng2 a b) r S = .ok (upTo (j - i).toNat i) S2 := by
  rw [evi, h]
  simp only [R.bind, h2]
  rw [if_pos ⟨by omega, by omega, by omega, by omega⟩]
theorem dsOf_map : ∀ vs : List D, dsOf (vs.map .d) = some vs
  | [] => rfl
  | v :: vs => by simp [dsOf, dsOf_map vs]
section
variable {S1 S2 : Hs} {a b : Ex}
theorem v_addS {i j : Int} (ha : ev P cal a r S = .ok (.d (.int i)) S1) (hb : ev P cal b r S1 = .ok (.d (.int j)) S2) : ev P cal (.bin .add a b) r S = .ok (.d (.int (i + j))) S2 := by
  simp only [ev, ha, hb, R.bind, binD, Option.map_some, R.opt]
theorem v_addsS {x y : Cs} (ha : ev P cal a r S = .ok (.d (.str x)) S1) (hb : ev P cal b r S1 = .ok (.d (.str y)) S2) (h : x.length + y.length ≤ big) : ev P cal (.bin .add a b) r S = .ok (.d (.str (x ++ y))) S2 := by
  simp only [ev, ha, hb, R.bind, binD, if_pos h, Option.map_some, R.opt]
theorem v_str {s : Cs} : ev P cal (.str s) r S = .ok (.d (.str s)) S := by simp only [ev]
theorem v_lstS {es : Ex} {vs : List D} (h : evs P cal es r S = .ok (vs.map .d) S1) (hl : vs.length ≤ 1000000) : ev P cal (.lst es) r S = .ok (.d (.lst vs)) S1 := by
  simp only [ev, h, R.bind, dsOf_map]
  rw [if_pos (by rw [List.length_map]; exact hl)]
theorem x_par2 {i j : Nat} {v w : Vl} (ha : ev P cal a r S = .ok v S1) (hb : ev P cal b r S1 = .ok w S2) : exec P cal (.par2 i j a b) r S = .nx ((r.set i (some v)).set j (some w)) S2 := by
  simp only [exec, ha, hb, R.st]
theorem v_chain {o o' : COp} {d : Ex} {x y z : D} {q : Bool} (ha : ev P cal a r S = .ok (.d x) S) (hb : ev P cal b r S = .ok (.d y) S) (hd : ev P cal d r S = .ok (.d z) S) (h1 : cmpD o x y = some true) (h2 : cmpD o' y z = some q) : ev P cal (.chain o o' a b d) r S = .ok (.d (.bl q)) S := by
  simp only [ev, ha, hb, hd, R.bind, h1, h2, Option.map_some, R.opt]
theorem j_cons {e es : Ex} {acc s t : Cs} (h : ev P cal e r S = .ok (.d (.str s)) S) (hl : (acc ++ s).length ≤ big) (h2 : evj P cal es (acc ++ s) r S = .ok t S) : evj P cal (.cons e es) acc r S = .ok t S := by
  simp only [evj, h, R.bind, if_pos hl, h2]
theorem j_nil {acc : Cs} : evj P cal .nil acc r S = .ok acc S := by simp only [evj]
theorem v_fjoin {es : Ex} {t : Cs} (h : evj P cal es [] r S = .ok t S) : ev P cal (.fjoin es) r S = .ok (.d (.str t)) S := by simp only [ev, h, R.bind]
theorem v_iteS {d : Ex} {q : Bool} {v : R Vl} (hd : ev P cal d r S = .ok (.d (.bl q)) S1) (h : ev P cal (if q then a else b) r S1 = v) : ev P cal (.ite d a b) r S = v := by
  cases q <;> simp only [ev, hd, R.bind] <;> exact h
end
end Pw
end
section
set_option maxRecDepth 100000
set_option maxHeartbeats 1000000
namespace K03
open Iv Pw
/-! ### texts of amounts, sign by sign -/
def isL (c : Nat) : Bool := decide (97 ≤ c ∧ c ≤ 122)
def isD (c : Nat) : Bool := decide (48 ≤ c ∧ c ≤ 57)
def isN (c : Nat) : Bool := decide (49 ≤ c ∧ c ≤ 57)
def isA (c : Nat) : Bool := isL c || isD c
def NOTH : Cs := [110, 111, 116, 104, 105, 110, 103]
inductive Stt where
  | s0 (f : Bool) | k (f : Bool) (s : Cs) | nb | b (s : Cs) | n (s d : Cs) | e (s d : Cs)
  deriving DecidableEq
def stp : Stt → Nat → Option Stt
  | .s0 f, c => if c = 32 then some (.s0 f) else if isL c then some (.k f [c]) else none
  | .k f s, c => if isA c then (if s.length < 8 then some (.k f (s ++ [c])) else none) else if c = 32 then (if s = NOTH then (if f then some .nb else none) else some (.b s)) else none
  | .nb, c => if c = 32 then some .nb else none
  | .b s, c => if c = 32 then some (.b s) else if isN c then some (.n s [c]) else none
  | .n s d, c => if isD c then (if d.length < 7 then some (.n s (d ++ [c])) else none) else if c = 32 then some (.e s d) else if c = 44 then some (.s0 false) else none
  | .e s d, c => if c = 32 then some (.e s d) else if c = 44 then some (.s0 false) else none
def runS : Stt → Cs → Option Stt
  | st, [] => some st
  | st, c :: cs => (stp st c).bind fun st' => runS st' cs
def fb : Stt → Cs → Option Nat
  | _, [] => none
  | st, c :: cs => match stp st c with
    | none => some 0
    | some st' => (fb st' cs).map (· + 1)
theorem fb_none : ∀ (t : Cs) (st : Stt), (fb st t).isNone = (runS st t).isSome
  | [], st => rfl
  | c :: cs, st => by
    simp only [fb, runS]
    cases stp st c with
    | none => rfl
    | some st' =>
      simp only [Option.bind_some, ← fb_none cs st']
      cases fb st' cs <;> rfl
theorem fb_take : ∀ (t : Cs) (st : Stt) (j : Nat), fb st (t.take j) = match fb st t with
    | some z => if z < j then some z else none
    | none => none
  | [], st, j => by simp [fb]
  | c :: cs, st, 0 => by
    simp only [List.take_zero, fb]
    split <;> first | rfl | simp
  | c :: cs, st, j + 1 => by
    rw [List.take_succ_cons]
    simp only [fb]
    cases stp st c with
    | none => simp
    | some st' =>
      simp only [fb_take cs st' j]
      cases fb st' cs with
      | none => rfl
      | some z =>
        simp only [Option.map_some]
        by_cases q : z < j
        · rw [if_pos q, if_pos (by omega)]; rfl
        · rw [if_neg q, if_neg (by omega)]; rfl
theorem fb_lt : ∀ (t : Cs) (st : Stt) (z : Nat), fb st t = some z → z < t.length
  | [], st, z, h => by cases h
  | c :: cs, st, z, h => by
    simp only [fb] at h
    cases e : stp st c with
    | none => rw [e] at h; cases h; simp
    | some st' =>
      rw [e] at h
      dsimp only at h
      cases e2 : fb st' cs with
      | none => rw [e2] at h; cases h
      | some y => rw [e2] at h; cases h; have := fb_lt cs st' y e2; simp; omega
theorem runS_append : ∀ (a b : Cs) (st : Stt), runS st (a ++ b) = (runS st a).bind fun st' => runS st' b
  | [], b, st => rfl
  | c :: a, b, st => by
    simp only [List.cons_append, runS]
    cases stp st c with
    | none => rfl
    | some st' => exact runS_append a b st'
theorem runS_snoc (a : Cs) (c : Nat) (st : Stt) : runS st (a ++ [c]) = (runS st a).bind fun st' => stp st' c := by
  rw [runS_append]
  congr 1
  funext st'
  simp only [runS]
  cases stp st' c <;> rfl
/-! ### kinds and numbers -/
def kindB : Cs → Bool
  | [] => false
  | x :: xs => isL x && xs.all isA && decide (xs.length ≤ 7)
def numB : Cs → Bool
  | [] => false
  | x :: xs => isN x && xs.all isD && decide (xs.length ≤ 6)
theorem isL_A {c : Nat} (h : isL c = true) : isA c = true := by simp [isA, h]
theorem isN_D {c : Nat} (h : isN c = true) : isD c = true := by simp [isN, isD] at h ⊢; omega
theorem isA_32 : isA 32 = false := by decide
theorem isD_32 : isD 32 = false := by decide
theorem kind_snoc {x : Nat} {xs : Cs} {c : Nat} : kindB (x :: xs ++ [c]) = (kindB (x :: xs) && (isA c && decide ((x :: xs).length < 8))) := by
  simp only [kindB, List.cons_append, List.all_append, List.all_cons, List.all_nil, Bool.and_true, List.length_append, List.length_cons, List.length_nil]
  by_cases h : xs.length + 1 < 8
  · rw [decide_eq_true (show xs.length + (0 + 1) ≤ 7 by omega), decide_eq_true (show xs.length ≤ 7 by omega), decide_eq_true h]
    cases isL x <;> cases xs.all isA <;> cases isA c <;> rfl
  · rw [decide_eq_false (show ¬ xs.length + (0 + 1) ≤ 7 by omega), decide_eq_false h]
    simp
theorem num_snoc {x : Nat} {xs : Cs} {c : Nat} : numB (x :: xs ++ [c]) = (numB (x :: xs) && (isD c && decide ((x :: xs).length < 7))) := by
  simp only [numB, List.cons_append, List.all_append, List.all_cons, List.all_nil, Bool.and_true, List.length_append, List.length_cons, List.length_nil]
  by_cases h : xs.length + 1 < 7
  · rw [decide_eq_true (show xs.length + (0 + 1) ≤ 6 by omega), decide_eq_true (show xs.length ≤ 6 by omega), decide_eq_true h]
    cases isN x <;> cases xs.all isD <;> cases isD c <;> rfl
  · rw [decide_eq_false (show ¬ xs.length + (0 + 1) ≤ 6 by omega), decide_eq_false h]
    simp
/-! ### a part: its words -/
/-- the state behind a part with the whole words W and the open word q -/
def stOf (f : Bool) : List Cs → Cs → Option Stt
  | [], [] => some (.s0 f)
  | [], q => if kindB q then some (.k f q) else none
  | [w], [] => if kindB w then (if w = NOTH then (if f then some .nb else none) else some (.b w)) else none
  | [w], q => if kindB w && !decide (w = NOTH) && numB q then some (.n w q) else none
  | [w, d], [] => if kindB w && !decide (w = NOTH) && numB d then some (.e w d) else none
  | _, _ => none
theorem st_word {f : Bool} {W : List Cs} {q : Cs} {c : Nat} (h : c ≠ 32) (h2 : c ≠ 44) : stOf f W (q ++ [c]) = (stOf f W q).bind fun st => stp st c := by
  match W, q with
  | [], [] =>
    simp only [List.nil_append, stOf, Option.bind_some, stp, if_neg h, kindB, List.all_nil, List.length_nil, Bool.and_true, decide_eq_true (Nat.zero_le 7)]
  | [], x :: xs =>
    have e : x :: xs ++ [c] = x :: (xs ++ [c]) := rfl
    rw [e]
    simp only [stOf]
    rw [← e, kind_snoc]
    cases hk : kindB (x :: xs) with
    | false => simp
    | true =>
      simp only [Bool.true_and, if_true, Option.bind_some, stp, if_neg h]
      cases isA c with
      | false => simp
      | true =>
        by_cases hl : (x :: xs).length < 8
        · rw [decide_eq_true hl, if_pos hl]; simp
        · rw [decide_eq_false hl, if_neg hl]; simp
  | [w], [] =>
    simp only [List.nil_append, stOf]
    cases hk : kindB w with
    | false => simp
    | true =>
      by_cases hw : w = NOTH
      · rw [if_pos rfl, if_pos hw, decide_eq_true hw]
        cases f <;> simp [stp, h]
      · rw [if_pos rfl, if_neg hw, decide_eq_false hw]
        simp only [Option.bind_some, stp, if_neg h, numB, List.all_nil, List.length_nil, Bool.and_true, decide_eq_true (Nat.zero_le 6), Bool.not_false, Bool.true_and]
  | [w], x :: xs =>
    have e : x :: xs ++ [c] = x :: (xs ++ [c]) := rfl
    rw [e]
    simp only [stOf]
    rw [← e, num_snoc]
    cases hk : (kindB w && !decide (w = NOTH)) with
    | false => simp
    | true =>
      cases hn : numB (x :: xs) with
      | false => simp
      | true =>
        simp only [Bool.true_and, if_true, Option.bind_some, stp, if_neg h, if_neg h2]
        cases isD c with
        | false => simp
        | true =>
          by_cases hl : (x :: xs).length < 7
          · rw [decide_eq_true hl, if_pos hl]; simp
          · rw [decide_eq_false hl, if_neg hl]; simp
  | [w, d], [] =>
    simp only [List.nil_append, stOf]
    cases (kindB w && !decide (w = NOTH) && numB d) with
    | false => rfl
    | true => simp [stp, h, h2]
  | [w, d], x :: xs => simp [stOf]
  | _ :: _ :: _ :: _, q => cases q <;> simp [stOf]
/-- the words when a blank comes -/
def push (W : List Cs) (q : Cs) : List Cs := if q = [] then W else W ++ [q]
theorem st_blank {f : Bool} {W : List Cs} {q : Cs} : stOf f (push W q) [] = (stOf f W q).bind fun st => stp st 32 := by
  match W, q with
  | [], [] => simp [push, stOf, stp]
  | [], x :: xs =>
    simp only [push, if_neg (List.cons_ne_nil x xs), List.nil_append, stOf]
    cases hk : kindB (x :: xs) with
    | false => simp
    | true => simp [stp, isA_32]
  | [w], [] =>
    simp only [push, if_true, stOf]
    cases hk : kindB w with
    | false => simp
    | true =>
      by_cases hw : w = NOTH
      · rw [if_pos rfl, if_pos hw]
        cases f <;> simp [stp]
      · rw [if_pos rfl, if_neg hw]; simp [stp]
  | [w], x :: xs =>
    simp only [push, if_neg (List.cons_ne_nil x xs), List.cons_append, List.nil_append, stOf]
    cases (kindB w && !decide (w = NOTH) && numB (x :: xs)) with
    | false => rfl
    | true => simp [stp, isD_32]
  | [w, d], [] =>
    simp only [push, if_true, stOf]
    cases (kindB w && !decide (w = NOTH) && numB d) with
    | false => rfl
    | true => simp [stp]
  | [w, d], x :: xs => simp [push, stOf]
  | _ :: _ :: _ :: _, q => cases q <;> simp [push, stOf]
/-- the words of a part, from the left: the whole ones, the open one -/
def wq : Cs → List Cs × Cs → List Cs × Cs
  | [], a => a
  | c :: cs, (W, q) => if c = 32 then wq cs (push W q, []) else wq cs (W, q ++ [c])
theorem run_wq {f : Bool} : ∀ (p : Cs) (W : List Cs) (q : Cs), (∀ c ∈ p, c ≠ 44) → ((stOf f W q).bind fun st => runS st p) = stOf f (wq p (W, q)).1 (wq p (W, q)).2
  | [], W, q, _ => by cases h : stOf f W q <;> simp [wq, runS, h]
  | c :: cs, W, q, h => by
    have h2 : ∀ x ∈ cs, x ≠ 44 := fun x hx => h x (List.mem_cons_of_mem _ hx)
    by_cases hc : c = 32
    · subst hc
      have ih := run_wq (f := f) cs (push W q) [] h2
      simp only [wq, if_true]
      rw [← ih, st_blank]
      cases stOf f W q <;> simp [runS]
    · have ih := run_wq (f := f) cs W (q ++ [c]) h2
      simp only [wq, if_neg hc]
      rw [← ih, st_word hc (h c (List.mem_cons_self ..))]
      cases stOf f W q <;> simp [runS]
theorem run_part {f : Bool} {p : Cs} (h : ∀ c ∈ p, c ≠ 44) : runS (.s0 f) p = stOf f (wq p ([], [])).1 (wq p ([], [])).2 := by
  have := run_wq (f := f) p [] [] h
  simpa [stOf] using this
/-- all words of a part -/
def wds (p : Cs) : List Cs := push (wq p ([], [])).1 (wq p ([], [])).2
end K03
end
section
set_option maxRecDepth 100000
set_option maxHeartbeats 1000000
namespace K03
open Iv Pw
/-! ### words by split -/
theorem split_ne {c : Nat} : ∀ t : Cs, splitC c t ≠ []
  | [] => by simp [splitC]
  | x :: xs => by
    unfold splitC
    split
    · simp
    · split <;> simp
def hd (q : Cs) : List Cs → List Cs
  | [] => [q]
  | s :: ss => (q ++ s) :: ss
theorem hd_nil {c : Nat} (t : Cs) : hd [] (splitC c t) = splitC c t := by
  cases h : splitC c t with
  | nil => exact absurd h (split_ne t)
  | cons s ss => simp [hd]
theorem split_sep {c : Nat} {t : Cs} : splitC c (c :: t) = [] :: splitC c t := by simp [splitC]
theorem hd_cons {c x : Nat} {q t : Cs} (h : x ≠ c) : hd q (splitC c (x :: t)) = hd (q ++ [x]) (splitC c t) := by
  simp only [splitC, if_neg h]
  cases e : splitC c t with
  | nil => exact absurd e (split_ne t)
  | cons s ss => simp [hd]
def ne (q : Cs) : Bool := !decide (q = [])
theorem push_eq (W : List Cs) (q : Cs) : push W q = W ++ [q].filter ne := by
  unfold push ne
  by_cases h : q = []
  · simp [h]
  · simp [h]
theorem wq_split : ∀ (p : Cs) (W : List Cs) (q : Cs), push (wq p (W, q)).1 (wq p (W, q)).2 = W ++ (hd q (splitC 32 p)).filter ne
  | [], W, q => by simp only [wq, splitC, hd, List.append_nil, push_eq]
  | c :: cs, W, q => by
    by_cases hc : c = 32
    · subst hc
      simp only [wq, if_true]
      rw [wq_split cs (push W q) [], split_sep, hd_nil, push_eq]
      simp only [hd, List.append_nil, List.append_assoc]
      congr 1
      rw [← List.filter_append]; rfl
    · simp only [wq, if_neg hc]
      rw [wq_split cs W (q ++ [c]), hd_cons hc]
theorem wds_split (p : Cs) : wds p = (splitC 32 p).filter ne := by
  unfold wds
  rw [wq_split, hd_nil, List.nil_append]
/-- whether a part ends with a blank -/
theorem wq_tr : ∀ (p : Cs) (W : List Cs) (q : Cs), decide ((wq p (W, q)).2 = []) = (match p.getLast? with
    | none => decide (q = [])
    | some c => decide (c = 32))
  | [], W, q => rfl
  | [c], W, q => by
    by_cases hc : c = 32
    · simp [wq, hc]
    · simp [wq, hc]
  | c :: d :: cs, W, q => by
    have e : (c :: d :: cs).getLast? = (d :: cs).getLast? := by simp [List.getLast?_cons_cons]
    rw [e]
    by_cases hc : c = 32
    · have ih := wq_tr (d :: cs) (push W q) []
      rw [wq, if_pos hc, ih]
      cases h : (d :: cs).getLast? with
      | none => simp at h
      | some x => rfl
    · have ih := wq_tr (d :: cs) W (q ++ [c])
      rw [wq, if_neg hc, ih]
      cases h : (d :: cs).getLast? with
      | none => simp at h
      | some x => rfl
/-! ### the parts between commas -/
def entW : List Cs → Bool
  | [w, d] => kindB w && !decide (w = NOTH) && numB d
  | _ => false
def entB (p : Cs) : Bool := entW (wds p)
theorem isA_44 : isA 44 = false := by decide
theorem isD_44 : isD 44 = false := by decide
theorem st_comma {f : Bool} {W : List Cs} {q : Cs} : ((stOf f W q).bind fun st => stp st 44) = if entW (push W q) then some (.s0 false) else none := by
  match W, q with
  | [], [] => simp [push, stOf, stp, entW, isL]
  | [], x :: xs =>
    simp only [push, if_neg (List.cons_ne_nil x xs), List.nil_append, stOf, entW]
    cases hk : kindB (x :: xs) with
    | false => simp
    | true => simp [stp, isA_44]
  | [w], [] =>
    simp only [push, if_true, stOf, entW]
    cases hk : kindB w with
    | false => simp
    | true =>
      by_cases hw : w = NOTH
      · rw [if_pos rfl, if_pos hw]
        cases f <;> simp [stp]
      · rw [if_pos rfl, if_neg hw]; simp [stp, isN]
  | [w], x :: xs =>
    simp only [push, if_neg (List.cons_ne_nil x xs), List.cons_append, List.nil_append, stOf, entW]
    cases (kindB w && !decide (w = NOTH) && numB (x :: xs)) with
    | false => rfl
    | true => simp [stp, isD_44]
  | [w, d], [] =>
    simp only [push, if_true, stOf, entW]
    cases (kindB w && !decide (w = NOTH) && numB d) with
    | false => rfl
    | true => simp [stp]
  | [w, d], x :: xs => simp [push, stOf, entW]
  | _ :: _ :: _ :: _, q => cases q <;> simp [push, stOf, entW]
def lastB (f : Bool) (ws : List Cs) (tr : Bool) : Bool :=
  match ws with
  | [] => true
  | w :: rest => (f && decide (ws = [NOTH])) || (kindB w && (!(decide (w = NOTH) && (decide (rest ≠ []) || tr)) && (match rest with
    | [] => true
    | [d] => numB d
    | _ => false)))
theorem kind_NOTH : kindB NOTH = true := by decide
theorem st_last {f : Bool} {W : List Cs} {q : Cs} : (stOf f W q).isSome = lastB f (push W q) (decide (q = [])) := by
  match W, q with
  | [], [] => simp [push, stOf, lastB]
  | [], x :: xs =>
    simp only [push, if_neg (List.cons_ne_nil x xs), List.nil_append, stOf, lastB, decide_eq_false (List.cons_ne_nil x xs)]
    by_cases hw : x :: xs = NOTH
    · rw [hw, kind_NOTH]; simp
    · cases hk : kindB (x :: xs) with
      | false => simp [hw]
      | true => simp
  | [w], [] =>
    simp only [push, if_true, stOf, lastB]
    by_cases hw : w = NOTH
    · subst hw
      rw [kind_NOTH]
      cases f <;> simp
    · cases hk : kindB w with
      | false => simp [hw]
      | true => simp [hw]
  | [w], x :: xs =>
    simp only [push, if_neg (List.cons_ne_nil x xs), List.cons_append, List.nil_append, stOf, lastB]
    by_cases hw : w = NOTH
    · simp [hw]
    · cases hk : kindB w <;> cases hn : numB (x :: xs) <;> simp [hw]
  | [w, d], [] =>
    simp only [push, if_true, stOf, lastB]
    by_cases hw : w = NOTH
    · simp [hw]
    · cases hk : kindB w <;> cases hn : numB d <;> simp [hw]
  | [w, d], x :: xs => simp [push, stOf, lastB]
  | a :: b :: d :: r, q => cases q <;> simp [push, stOf, lastB]
def trB (p : Cs) : Bool := match p.getLast? with
  | none => true
  | some c => decide (c = 32)
theorem run_last {f : Bool} {p : Cs} (h : ∀ c ∈ p, c ≠ 44) : (runS (.s0 f) p).isSome = lastB f (wds p) (trB p) := by
  rw [run_part h, st_last, wq_tr]
  congr 1
theorem run_comma {f : Bool} {p : Cs} (h : ∀ c ∈ p, c ≠ 44) : ((runS (.s0 f) p).bind fun st => stp st 44) = if entB p then some (.s0 false) else none := by
  rw [run_part h, st_comma]; rfl
def goP : Bool → List Cs → Bool
  | _, [] => true
  | f, [p] => lastB f (wds p) (trB p)
  | _, p :: q :: ps => entB p && goP false (q :: ps)
theorem run_go : ∀ (t p : Cs) (f : Bool), (∀ c ∈ p, c ≠ 44) → (runS (.s0 f) (p ++ t)).isSome = goP f (hd p (splitC 44 t))
  | [], p, f, h => by
    simp only [splitC, hd, List.append_nil, goP]
    exact run_last h
  | c :: cs, p, f, h => by
    by_cases hc : c = 44
    · subst hc
      rw [split_sep, runS_append]
      have ih := run_go cs [] false (fun _ h => by cases h)
      rw [List.nil_append, hd_nil] at ih
      have e := run_comma (f := f) h
      simp only [hd, List.append_nil]
      obtain ⟨s, ss, hs⟩ : ∃ s ss, splitC 44 cs = s :: ss := by
        cases hs : splitC 44 cs with
        | nil => exact absurd hs (split_ne cs)
        | cons s ss => exact ⟨s, ss, rfl⟩
      rw [hs] at ih ⊢
      simp only [goP, runS]
      cases hr : runS (.s0 f) p with
      | none =>
        rw [hr] at e
        cases he : entB p with
        | true => rw [he] at e; cases e
        | false => rfl
      | some st =>
        rw [hr] at e
        simp only [Option.bind_some] at e ⊢
        rw [e]
        cases he : entB p with
        | true => simp only [if_true, Option.bind_some, Bool.true_and]; exact ih
        | false => rfl
    · rw [hd_cons hc]
      have : p ++ c :: cs = p ++ [c] ++ cs := by simp
      rw [this]
      exact run_go cs (p ++ [c]) f fun x hx => by
        rcases List.mem_append.mp hx with hx | hx
        · exact h x hx
        · simp at hx; subst hx; exact hc
theorem goP_last : ∀ (ps : List Cs) (f : Bool) (hne : ps ≠ []), goP f ps = (ps.dropLast.all entB && lastB (f && decide (ps.length = 1)) (wds (ps.getLast hne)) (trB (ps.getLast hne)))
  | [], f, h => absurd rfl h
  | [p], f, _ => by simp [goP]
  | p :: q :: ps, f, h => by
    have ih := goP_last (q :: ps) false (by simp)
    simp only [goP, ih, List.dropLast_cons₂, List.all_cons, List.length_cons, Bool.false_and, List.getLast_cons_cons]
    have : decide (ps.length + 1 + 1 = 1) = false := decide_eq_false (by omega)
    rw [this, Bool.and_false, Bool.and_assoc]
/-- what goes on, by parts -/
theorem alive_parts (t : Cs) : (fb (.s0 true) t).isNone = ((splitC 44 t).dropLast.all entB && lastB (decide ((splitC 44 t).length = 1)) (wds ((splitC 44 t).getLast (split_ne t))) (trB ((splitC 44 t).getLast (split_ne t)))) := by
  rw [fb_none]
  have := run_go t [] true (fun _ h => by cases h)
  rw [List.nil_append, hd_nil] at this
  rw [this, goP_last _ _ (split_ne t), Bool.true_and]
end K03
end
section
set_option maxRecDepth 100000
set_option maxHeartbeats 1000000
namespace K03
open Iv Pw
/-! ### the program's reading, in pieces -/
def run (p : Nat → Bool) : Nat → Cs → Nat
  | 0, _ => 0
  | _ + 1, [] => 0
  | m + 1, c :: cs => if p c then run p m cs + 1 else 0
def bl : Cs → Nat
  | [] => 0
  | c :: cs => if c = 32 then bl cs + 1 else 0
theorem run_le (p : Nat → Bool) : ∀ (m : Nat) (t : Cs), run p m t ≤ t.length ∧ run p m t ≤ m
  | 0, _ => by simp [run]
  | _ + 1, [] => by simp [run]
  | m + 1, c :: cs => by
    simp only [run]
    have := run_le p m cs
    split <;> simp <;> omega
theorem bl_le : ∀ t : Cs, bl t ≤ t.length
  | [] => by simp [bl]
  | c :: cs => by
    simp only [bl]
    have := bl_le cs
    split <;> simp <;> omega
theorem fb_append : ∀ (a b : Cs) (st st' : Stt), runS st a = some st' → fb st (a ++ b) = (fb st' b).map (· + a.length)
  | [], b, st, st', h => by
    cases h
    simp
  | c :: a, b, st, st', h => by
    simp only [runS] at h
    cases e : stp st c with
    | none => rw [e] at h; cases h
    | some st1 =>
      rw [e] at h
      simp only [List.cons_append, fb, e]
      rw [fb_append a b st1 st' h]
      cases fb st' b with
      | none => rfl
      | some z => simp only [Option.map_some, List.length_cons]; congr 1
/-- blanks -/
theorem run_bl {st : Stt} (h : stp st 32 = some st) : ∀ t : Cs, runS st (t.take (bl t)) = some st
  | [] => rfl
  | c :: cs => by
    by_cases hc : c = 32
    · subst hc
      simp only [bl, if_true, List.take_succ_cons, runS, h, Option.bind_some]
      exact run_bl h cs
    · simp only [bl, if_neg hc, List.take_zero]; rfl
theorem bl_head : ∀ (t : Cs) (c : Nat) (cs : Cs), t.drop (bl t) = c :: cs → c ≠ 32
  | [], c, cs, h => by simp [bl] at h
  | x :: xs, c, cs, h => by
    by_cases hx : x = 32
    · subst hx
      simp only [bl, if_true, List.drop_succ_cons] at h
      exact bl_head xs c cs h
    · simp only [bl, if_neg hx, List.drop_zero] at h
      cases h; exact hx
theorem run_head (p : Nat → Bool) : ∀ (m : Nat) (t : Cs) (c : Nat) (cs : Cs), t.drop (run p m t) = c :: cs → p c = false ∨ run p m t = m
  | 0, t, c, cs, h => .inr rfl
  | m + 1, [], c, cs, h => by simp at h
  | m + 1, x :: xs, c, cs, h => by
    by_cases hx : p x = true
    · simp only [run, if_pos hx, List.drop_succ_cons] at h ⊢
      rcases run_head p m xs c cs h with q | q
      · exact .inl q
      · exact .inr (by rw [q])
    · simp only [run, if_neg hx, List.drop_zero] at h ⊢
      cases h
      exact .inl (by simpa using hx)
theorem run_k {f : Bool} : ∀ (m : Nat) (t s : Cs), s.length + m = 8 → runS (.k f s) (t.take (run isA m t)) = some (.k f (s ++ t.take (run isA m t)))
  | 0, t, s, h => by simp [run, runS]
  | m + 1, [], s, h => by simp [runS]
  | m + 1, c :: cs, s, h => by
    by_cases hc : isA c = true
    · have ih := run_k (f := f) m cs (s ++ [c]) (by simp; omega)
      simp only [run, if_pos hc, List.take_succ_cons, runS, stp, if_pos (show s.length < 8 by omega), Option.bind_some]
      rw [ih]; simp
    · simp [run, hc, runS]
theorem run_n {s : Cs} : ∀ (m : Nat) (t d : Cs), d.length + m = 7 → runS (.n s d) (t.take (run isD m t)) = some (.n s (d ++ t.take (run isD m t)))
  | 0, t, d, h => by simp [run, runS]
  | m + 1, [], d, h => by simp [runS]
  | m + 1, c :: cs, d, h => by
    by_cases hc : isD c = true
    · have ih := run_n (s := s) m cs (d ++ [c]) (by simp; omega)
      simp only [run, if_pos hc, List.take_succ_cons, runS, stp, if_pos (show d.length < 7 by omega), Option.bind_some]
      rw [ih]; simp
    · simp [run, hc, runS]
abbrev Ent := Cs × Nat × Cs × Nat
def entP (u : Cs) (pos : Nat) : Except Nat (Ent × Nat × Cs) :=
  match u with
  | [] => .error pos
  | c :: _ => if isL c then
      match u.drop (run isA 8 u) with
      | [] => .error (pos + run isA 8 u)
      | x :: _ => if x = 32 then
          if u.take (run isA 8 u) = NOTH then .error (pos + run isA 8 u) else
          match (u.drop (run isA 8 u)).drop (bl (u.drop (run isA 8 u))) with
          | [] => .error (pos + run isA 8 u + bl (u.drop (run isA 8 u)))
          | y :: ys => if isN y then .ok ((u.take (run isA 8 u), pos, (y :: ys).take (run isD 7 (y :: ys)), pos + run isA 8 u + bl (u.drop (run isA 8 u))), pos + run isA 8 u + bl (u.drop (run isA 8 u)) + run isD 7 (y :: ys), (y :: ys).drop (run isD 7 (y :: ys)))
            else .error (pos + run isA 8 u + bl (u.drop (run isA 8 u)))
        else .error (pos + run isA 8 u)
    else .error pos
def done : Stt → Bool
  | .n _ _ => true
  | .e _ _ => true
  | _ => false
/-- what the machine says of a text that is left -/
def says (st : Stt) (t : Cs) (pos : Nat) (z : Nat) : Prop := fb st t = some (z - pos) ∧ pos ≤ z ∨ (fb st t = none ∧ z = pos + t.length ∧ ∃ st', runS st t = some st' ∧ done st' = false)
theorem says_append {st st' : Stt} {a b : Cs} {pos z : Nat} (h : runS st a = some st') (hs : says st' b (pos + a.length) z) : says st (a ++ b) pos z := by
  rcases hs with ⟨h1, h2⟩ | ⟨h1, h2, st2, h3, h4⟩
  · refine .inl ⟨?_, by omega⟩
    rw [fb_append a b st st' h, h1]
    simp only [Option.map_some]
    congr 1; omega
  · refine .inr ⟨?_, by rw [h2, List.length_append]; omega, st2, ?_, h4⟩
    · rw [fb_append a b st st' h, h1]; rfl
    · rw [runS_append, h]; exact h3
theorem says_bad {st : Stt} {c : Nat} {cs : Cs} {pos : Nat} (h : stp st c = none) : says st (c :: cs) pos pos := .inl ⟨by simp [fb, h], Nat.le_refl _⟩
theorem says_end {st : Stt} {pos : Nat} (h : done st = false) : says st [] pos pos := .inr ⟨rfl, rfl, st, rfl, h⟩
theorem take_len {α : Type} {t : List α} {n : Nat} (h : n ≤ t.length) : (t.take n).length = n := by rw [List.length_take]; omega
theorem run_all (p : Nat → Bool) : ∀ (m : Nat) (t : Cs), (t.take (run p m t)).all p = true
  | 0, t => by simp [run]
  | m + 1, [] => by simp
  | m + 1, c :: cs => by
    by_cases hc : p c = true
    · simp only [run, if_pos hc, List.take_succ_cons, List.all_cons]; rw [hc, Bool.true_and]; exact run_all p m cs
    · simp [run, hc]
theorem ent_says {u : Cs} {pos : Nat} (hu : ∀ c cs, u = c :: cs → c ≠ 32) : match entP u pos with
    | .error z => says (.s0 false) u pos z
    | .ok (e, q, r) => ∃ pre, u = pre ++ r ∧ q = pos + pre.length ∧ runS (.s0 false) pre = some (.n e.1 e.2.2.1) ∧ e.2.1 = pos ∧ kindB e.1 = true ∧ e.1 ≠ NOTH ∧ numB e.2.2.1 = true ∧ (∃ j, pre = e.1 ++ List.replicate j 32 ++ e.2.2.1 ∧ 0 < j ∧ e.2.2.2 = pos + e.1.length + j) ∧ (∀ c cs, r = c :: cs → isD c = false ∨ e.2.2.1.length = 7) := by
  unfold entP
  cases u with
  | nil => exact says_end rfl
  | cons c cs =>
    dsimp only
    by_cases hc : isL c = true
    · rw [if_pos hc]
      have h32 : c ≠ 32 := hu c cs rfl
      have hm : run isA 8 (c :: cs) = run isA 7 cs + 1 := by simp only [run, if_pos (isL_A hc)]
      obtain ⟨hl1, hl2⟩ := run_le isA 8 (c :: cs)
      have hk : runS (.s0 false) ((c :: cs).take (run isA 8 (c :: cs))) = some (.k false ((c :: cs).take (run isA 8 (c :: cs)))) := by
        rw [hm, List.take_succ_cons]
        simp only [runS, stp, if_neg h32, if_pos hc, Option.bind_some]
        rw [run_k 7 cs [c] rfl]; rfl
      have hkind : kindB ((c :: cs).take (run isA 8 (c :: cs))) = true := by
        rw [hm, List.take_succ_cons]
        simp only [kindB, hc, run_all, Bool.true_and]
        have := run_le isA 7 cs
        exact decide_eq_true (by rw [List.length_take]; omega)
      have hhead := run_head isA 8 (c :: cs)
      have hlen : ((c :: cs).take (run isA 8 (c :: cs))).length = run isA 8 (c :: cs) := take_len hl1
      have hsp : (c :: cs) = (c :: cs).take (run isA 8 (c :: cs)) ++ (c :: cs).drop (run isA 8 (c :: cs)) := (List.take_append_drop _ _).symm
      generalize hK : (c :: cs).take (run isA 8 (c :: cs)) = K at *
      generalize hR : (c :: cs).drop (run isA 8 (c :: cs)) = R at *
      generalize run isA 8 (c :: cs) = m at *
      rw [hsp]
      cases R with
      | nil =>
        refine says_append hk ?_
        rw [hlen]
        exact says_end rfl
      | cons x xs =>
        dsimp only
        by_cases hx : x = 32
        · subst hx
          rw [if_pos rfl]
          by_cases hN : K = NOTH
          · rw [if_pos hN]
            refine says_append hk ?_
            rw [hlen]
            exact says_bad (by simp [stp, isA_32, hN])
          · rw [if_neg hN]
            have hb : bl (32 :: xs) = bl xs + 1 := by simp [bl]
            have hbl := bl_le xs
            have hrb : runS (.k false K) ((32 :: xs).take (bl (32 :: xs))) = some (.b K) := by
              rw [hb, List.take_succ_cons]
              have e1 : stp (.k false K) 32 = some (.b K) := by simp [stp, isA_32, hN]
              simp only [runS, e1, Option.bind_some]
              exact run_bl (by simp [stp]) xs
            have hhd := bl_head (32 :: xs)
            have hlb : ((32 :: xs).take (bl (32 :: xs))).length = bl (32 :: xs) := take_len (bl_le _)
            have hrep : (32 :: xs).take (bl (32 :: xs)) = List.replicate (bl (32 :: xs)) 32 := by
              have : ∀ t : Cs, t.take (bl t) = List.replicate (bl t) 32 := by
                intro t
                induction t with
                | nil => rfl
                | cons a t ih =>
                  by_cases ha : a = 32
                  · subst ha; simp only [bl, if_true, List.take_succ_cons, ih, List.replicate_succ]
                  · simp [bl, ha]
              exact this _
            have hsp2 : 32 :: xs = (32 :: xs).take (bl (32 :: xs)) ++ (32 :: xs).drop (bl (32 :: xs)) := (List.take_append_drop _ _).symm
            have hpos : 0 < bl (32 :: xs) := by rw [hb]; omega
            rw [hrep] at hsp2 hrb hlb
            generalize hj : bl (32 :: xs) = j at *
            generalize hR2 : (32 :: xs).drop j = R2 at *
            rw [hsp2]
            cases R2 with
            | nil =>
              refine says_append hk (says_append hrb ?_)
              rw [hlen, hlb]
              exact says_end rfl
            | cons y ys =>
              dsimp only
              have hy32 := hhd y ys rfl
              by_cases hy : isN y = true
              · rw [if_pos hy]
                dsimp only
                obtain ⟨hd1, hd2⟩ := run_le isD 7 (y :: ys)
                have hdm : run isD 7 (y :: ys) = run isD 6 ys + 1 := by simp only [run, if_pos (isN_D hy)]
                refine ⟨K ++ (List.replicate j 32 ++ (y :: ys).take (run isD 7 (y :: ys))), ?_, ?_, ?_, rfl, hkind, hN, ?_, ⟨j, by simp only [List.append_assoc], hpos, by rw [hlen]⟩, ?_⟩
                · simp only [List.append_assoc, List.take_append_drop]
                · simp only [List.length_append, hlen, hlb, take_len hd1]; omega
                · rw [runS_append, hk]
                  simp only [Option.bind_some]
                  rw [runS_append, hrb]
                  simp only [Option.bind_some]
                  rw [hdm, List.take_succ_cons]
                  simp only [runS, stp, if_neg hy32, if_pos hy, Option.bind_some]
                  rw [run_n 6 ys [y] rfl]; rfl
                · rw [hdm, List.take_succ_cons]
                  simp only [numB, hy, run_all, Bool.true_and]
                  have := run_le isD 6 ys
                  exact decide_eq_true (by rw [List.length_take]; omega)
                · intro z zs hz
                  rcases run_head isD 7 (y :: ys) z zs hz with q | q
                  · exact .inl q
                  · right; rw [take_len hd1]; exact q
              · rw [if_neg hy]
                have hy : isN y = false := by simpa using hy
                refine says_append hk (says_append hrb ?_)
                rw [hlen, hlb]
                exact says_bad (by simp [stp, hy32, hy])
        · rw [if_neg hx]
          refine says_append hk ?_
          rw [hlen]
          refine says_bad ?_
          rcases hhead x xs rfl with q | q
          · simp [stp, q, hx]
          · have : ¬ K.length < 8 := by omega
            cases hA : isA x with
            | true => simp only [stp, hA, if_true, if_neg this]
            | false => simp [stp, hA, hx]
    · rw [if_neg hc]
      have hc : isL c = false := by simpa using hc
      exact says_bad (by simp [stp, hu c cs rfl, hc])
end K03
end
section
set_option maxRecDepth 100000
set_option maxHeartbeats 1000000
namespace K03
open Iv Pw
theorem wq_append : ∀ (a b : Cs) (x : List Cs × Cs), wq (a ++ b) x = wq b (wq a x)
  | [], b, x => rfl
  | c :: a, b, (W, q) => by
    simp only [List.cons_append, wq]
    split <;> exact wq_append a b _
theorem wq_word : ∀ (w : Cs) (W : List Cs) (q : Cs), (∀ c ∈ w, c ≠ 32) → wq w (W, q) = (W, q ++ w)
  | [], W, q, _ => by simp [wq]
  | c :: w, W, q, h => by
    simp only [wq, if_neg (h c (List.mem_cons_self ..))]
    rw [wq_word w W (q ++ [c]) fun x hx => h x (List.mem_cons_of_mem _ hx)]
    simp
theorem wq_rep : ∀ (j : Nat) (W : List Cs), wq (List.replicate j 32) (W, []) = (W, [])
  | 0, W => rfl
  | j + 1, W => by
    simp only [List.replicate_succ, wq, if_true, push]
    exact wq_rep j W
theorem wq_rep1 {j : Nat} {W : List Cs} {q : Cs} (h : 0 < j) : wq (List.replicate j 32) (W, q) = (push W q, []) := by
  cases j with
  | zero => omega
  | succ j =>
    simp only [List.replicate_succ, wq, if_true]
    exact wq_rep j _
theorem bl_rep : ∀ (j : Nat) (t : Cs), (∀ c cs, t = c :: cs → c ≠ 32) → bl (List.replicate j 32 ++ t) = j
  | 0, [], h => rfl
  | 0, c :: cs, h => by simp [bl, h c cs rfl]
  | j + 1, t, h => by simp [List.replicate_succ, bl, bl_rep j t h]
theorem take_bl : ∀ t : Cs, t.take (bl t) = List.replicate (bl t) 32
  | [] => rfl
  | a :: t => by
    by_cases ha : a = 32
    · subst ha; simp only [bl, if_true, List.take_succ_cons, take_bl t, List.replicate_succ]
    · simp [bl, ha]
theorem bl_split (t : Cs) : t = List.replicate (bl t) 32 ++ t.drop (bl t) := by
  rw [← take_bl, List.take_append_drop]
theorem kind_A {w : Cs} (h : kindB w = true) : w ≠ [] ∧ (∀ c ∈ w, isA c = true) := by
  cases w with
  | nil => cases h
  | cons x xs =>
    simp only [kindB, Bool.and_eq_true, List.all_eq_true] at h
    refine ⟨by simp, fun c hc => ?_⟩
    rcases List.mem_cons.mp hc with rfl | hc
    · exact isL_A h.1.1
    · exact h.1.2 c hc
theorem num_D {d : Cs} (h : numB d = true) : d ≠ [] ∧ (∀ c ∈ d, isD c = true) := by
  cases d with
  | nil => cases h
  | cons x xs =>
    simp only [numB, Bool.and_eq_true, List.all_eq_true] at h
    refine ⟨by simp, fun c hc => ?_⟩
    rcases List.mem_cons.mp hc with rfl | hc
    · exact isN_D h.1.1
    · exact h.1.2 c hc
theorem A_ne {c : Nat} (h : isA c = true) : c ≠ 32 ∧ c ≠ 44 := by
  constructor <;> (intro e; subst e; revert h; decide)
theorem D_ne {c : Nat} (h : isD c = true) : c ≠ 32 ∧ c ≠ 44 := by
  constructor <;> (intro e; subst e; revert h; decide)
/-- a part that is an entry -/
def mkPart (j0 : Nat) (w : Cs) (j : Nat) (d : Cs) (j1 : Nat) : Cs := List.replicate j0 32 ++ (w ++ (List.replicate j 32 ++ (d ++ List.replicate j1 32)))
theorem part_wds {j0 j j1 : Nat} {w d : Cs} (hw : kindB w = true) (hj : 0 < j) (hd' : numB d = true) : wds (mkPart j0 w j d j1) = [w, d] := by
  obtain ⟨w1, w2⟩ := kind_A hw
  obtain ⟨d1, d2⟩ := num_D hd'
  unfold wds mkPart
  rw [wq_append, wq_rep, wq_append, wq_word w _ _ (fun c hc => (A_ne (w2 c hc)).1), wq_append, wq_rep1 hj, wq_append, wq_word d _ _ (fun c hc => (D_ne (d2 c hc)).1)]
  simp only [List.nil_append, push, if_neg w1]
  cases j1 with
  | zero => simp [wq, push, d1]
  | succ j1 => rw [wq_rep1 (by omega)]; simp [push, d1]
theorem part_comma {j0 j j1 : Nat} {w d : Cs} (hw : kindB w = true) (hd' : numB d = true) : ∀ c ∈ mkPart j0 w j d j1, c ≠ 44 := by
  intro c hc
  unfold mkPart at hc
  simp only [List.mem_append, List.mem_replicate] at hc
  rcases hc with h | h | h | h | h
  · omega
  · exact (A_ne ((kind_A hw).2 c h)).2
  · omega
  · exact (D_ne ((num_D hd').2 c h)).2
  · omega
theorem part_bl {j0 j j1 : Nat} {w d : Cs} (hw : kindB w = true) : bl (mkPart j0 w j d j1) = j0 := by
  unfold mkPart
  refine bl_rep j0 _ fun c cs h => ?_
  obtain ⟨w1, w2⟩ := kind_A hw
  cases w with
  | nil => exact absurd rfl w1
  | cons x xs =>
    have e := (List.cons.inj h).1
    rw [← e]; exact (A_ne (w2 x (List.mem_cons_self ..))).1
theorem part_br {j0 j j1 : Nat} {w d : Cs} (hd' : numB d = true) : bl (mkPart j0 w j d j1).reverse = j1 := by
  unfold mkPart
  simp only [List.reverse_append, List.reverse_replicate, List.append_assoc]
  refine bl_rep j1 _ fun c cs h => ?_
  obtain ⟨d1, d2⟩ := num_D hd'
  cases hr : d.reverse with
  | nil => exact absurd (List.reverse_eq_nil_iff.mp hr) d1
  | cons x xs =>
    rw [hr] at h
    have e := (List.cons.inj h).1
    rw [← e]
    exact (D_ne (d2 x (List.mem_reverse.mp (by rw [hr]; exact List.mem_cons_self ..)))).1
theorem part_len {j0 j j1 : Nat} {w d : Cs} : (mkPart j0 w j d j1).length = j0 + w.length + j + d.length + j1 := by
  unfold mkPart
  simp only [List.length_append, List.length_replicate]
  omega
def entOf (o : Nat) (p : Cs) : Ent := match wds p with
  | [w, d] => (w, o + bl p, d, o + (p.length - bl p.reverse) - d.length)
  | _ => ([], 0, [], 0)
def entsP : Nat → List Cs → List Ent
  | _, [] => []
  | o, p :: ps => entOf o p :: entsP (o + p.length + 1) ps
theorem ent_part {j0 j j1 o : Nat} {w d : Cs} (hw : kindB w = true) (hj : 0 < j) (hd' : numB d = true) : entOf o (mkPart j0 w j d j1) = (w, o + j0, d, o + j0 + w.length + j) := by
  unfold entOf
  rw [part_wds hw hj hd']
  dsimp only
  rw [part_bl hw, part_br hd', part_len]
  congr 3
  omega
theorem split_none : ∀ {t : Cs}, (∀ c ∈ t, c ≠ 44) → splitC 44 t = [t]
  | [], _ => rfl
  | c :: cs, h => by
    simp only [splitC, if_neg (h c (List.mem_cons_self ..)), split_none fun x hx => h x (List.mem_cons_of_mem _ hx)]
theorem split_app : ∀ {p t : Cs}, (∀ c ∈ p, c ≠ 44) → splitC 44 (p ++ 44 :: t) = p :: splitC 44 t
  | [], t, _ => by simp [splitC]
  | c :: cs, t, h => by
    simp only [List.cons_append, splitC, if_neg (h c (List.mem_cons_self ..)), split_app fun x hx => h x (List.mem_cons_of_mem _ hx)]
def entsR : Nat → Cs → Nat → Except Nat (List Ent)
  | 0, _, pos => .error pos
  | f + 1, u, pos => match entP (u.drop (bl u)) (pos + bl u) with
    | .error z => .error z
    | .ok (e, q, r) => match r.drop (bl r) with
      | [] => .ok [e]
      | c :: cs => if c = 44 then match entsR f cs (q + bl r + 1) with
          | .error z => .error z
          | .ok es => .ok (e :: es)
        else .error (q + bl r)
theorem run_bl2 {st st' : Stt} (h1 : stp st 32 = some st') (h2 : stp st' 32 = some st') {j : Nat} (hj : 0 < j) : runS st (List.replicate j 32) = some st' := by
  cases j with
  | zero => omega
  | succ j =>
    simp only [List.replicate_succ, runS, h1, Option.bind_some]
    have := run_bl h2 (List.replicate j 32)
    have e : bl (List.replicate j 32) = j := by simpa using bl_rep j [] (fun _ _ h => by cases h)
    rw [e, List.take_of_length_le (by simp)] at this
    exact this
/-- blanks behind a number -/
theorem run_tail {w d : Cs} (j : Nat) : ∃ st, runS (.n w d) (List.replicate j 32) = some st ∧ done st = true ∧ (∀ c, c ≠ 32 → (0 < j ∨ isD c = false ∨ d.length = 7) → stp st c = if c = 44 then some (.s0 false) else none) := by
  cases j with
  | zero =>
    refine ⟨.n w d, rfl, rfl, fun c hc h => ?_⟩
    rcases h with h | h | h
    · omega
    · simp [stp, h, hc]
    · cases hD : isD c with
      | false => simp [stp, hD, hc]
      | true =>
        have h44 := (D_ne hD).2
        have h7 : ¬ d.length < 7 := by omega
        simp only [stp, hD, if_true, if_neg h7, if_neg h44]
  | succ j =>
    refine ⟨.e w d, run_bl2 (by simp [stp, isD_32]) (by simp [stp]) (by omega), rfl, fun c hc h => ?_⟩
    simp [stp, hc]
theorem ents_says : ∀ (f : Nat) (u : Cs) (pos : Nat), u.length < f → match entsR f u pos with
    | .error z => says (.s0 false) u pos z
    | .ok es => (∃ st, runS (.s0 false) u = some st ∧ done st = true) ∧ es = entsP pos (splitC 44 u)
  | 0, u, pos, h => by omega
  | f + 1, u, pos, h => by
    have hb := bl_split u
    have hbl := bl_le u
    have hs0 : runS (.s0 false) (List.replicate (bl u) 32) = some (.s0 false) := by
      rw [← take_bl]; exact run_bl (by simp [stp]) u
    have he := ent_says (u := u.drop (bl u)) (pos := pos + bl u) (bl_head u)
    unfold entsR
    cases hp : entP (u.drop (bl u)) (pos + bl u) with
    | error z =>
      rw [hp] at he
      dsimp only at he ⊢
      rw [hb]
      exact says_append hs0 (by rw [List.length_replicate]; exact he)
    | ok o =>
      obtain ⟨⟨w, kp, d, np⟩, q, r⟩ := o
      rw [hp] at he
      dsimp only at he ⊢
      obtain ⟨pre, h1, h2, h3, h4, h5, h6, h7, ⟨j, h8, h9, h10⟩, h11⟩ := he
      have hr := bl_split r
      obtain ⟨st, t1, t2, t3⟩ := run_tail (w := w) (d := d) (bl r)
      have hu : u = mkPart (bl u) w j d (bl r) ++ r.drop (bl r) := by
        have : u = List.replicate (bl u) 32 ++ (pre ++ (List.replicate (bl r) 32 ++ r.drop (bl r))) := by
          rw [← hr, ← h1, ← hb]
        rw [h8] at this
        refine this.trans ?_
        unfold mkPart
        simp only [List.append_assoc]
      have hrun : runS (.s0 false) (mkPart (bl u) w j d (bl r)) = some st := by
        have e : mkPart (bl u) w j d (bl r) = List.replicate (bl u) 32 ++ (pre ++ List.replicate (bl r) 32) := by
          rw [h8]; unfold mkPart; simp only [List.append_assoc]
        rw [e, runS_append, hs0]
        simp only [Option.bind_some]
        rw [runS_append, h3]
        exact t1
      have hq : q + bl r = pos + (mkPart (bl u) w j d (bl r)).length := by
        rw [part_len, h2, h8]
        simp only [List.length_append, List.length_replicate]
        omega
      have hne : entOf pos (mkPart (bl u) w j d (bl r)) = (w, kp, d, np) := by
        rw [ent_part h5 h9 h7, h4, h10]
      cases hR : r.drop (bl r) with
      | nil =>
        rw [hR, List.append_nil] at hu
        dsimp only
        refine ⟨⟨st, by rw [hu]; exact hrun, t2⟩, ?_⟩
        have e : splitC 44 u = [mkPart (bl u) w j d (bl r)] := by
          rw [show splitC 44 u = splitC 44 (mkPart (bl u) w j d (bl r)) from congrArg _ hu]
          exact split_none (part_comma h5 h7)
        rw [e]
        simp only [entsP, hne]
      | cons c cs =>
        dsimp only
        have hc32 := bl_head r c cs hR
        have hst := t3 c hc32 (by
          by_cases hj1 : 0 < bl r
          · exact .inl hj1
          · have e0 : bl r = 0 := by omega
            rw [e0, List.drop_zero] at hR
            exact .inr (h11 c cs hR))
        rw [hR] at hu
        by_cases hc : c = 44
        · subst hc
          rw [if_pos rfl]
          have hl2 : cs.length < f := by
            have := congrArg List.length hu
            simp only [List.length_append, List.length_cons] at this
            omega
          have ih := ents_says f cs (q + bl r + 1) hl2
          have e : splitC 44 u = mkPart (bl u) w j d (bl r) :: splitC 44 cs := by
            rw [show splitC 44 u = splitC 44 (mkPart (bl u) w j d (bl r) ++ 44 :: cs) from congrArg _ hu]
            exact split_app (part_comma h5 h7)
          have hrun2 : runS (.s0 false) (mkPart (bl u) w j d (bl r) ++ [44]) = some (.s0 false) := by
            rw [runS_snoc, hrun]; simp only [Option.bind_some, hst, if_true]
          have hu2 : u = (mkPart (bl u) w j d (bl r) ++ [44]) ++ cs := by
            rw [List.append_assoc]; exact hu
          cases hi : entsR f cs (q + bl r + 1) with
          | error z =>
            rw [hi] at ih
            dsimp only at ih ⊢
            rw [hu2]
            refine says_append hrun2 ?_
            rw [List.length_append, ← Nat.add_assoc, ← hq]
            exact ih
          | ok es =>
            rw [hi] at ih
            dsimp only at ih ⊢
            obtain ⟨⟨st2, s1, s2⟩, s3⟩ := ih
            refine ⟨⟨st2, by rw [hu2, runS_append, hrun2]; exact s1, s2⟩, ?_⟩
            rw [e]
            simp only [entsP, hne, s3, hq]
        · rw [if_neg hc]
          rw [hu]
          refine says_append hrun ?_
          rw [hq]
          exact says_bad (by rw [hst, if_neg hc])
end K03
end
section
set_option maxRecDepth 100000
set_option maxHeartbeats 1000000
set_option exponentiation.threshold 2000
namespace K03
open Iv Pw
abbrev c (k : Nat) : Cal := call P0 fns0 k
variable {k : Nat} {S : Hs}
theorem ca {f : Nat} {fn : Fn} {vs : List Vl} (h : fns0[f]? = some fn) (had : fn.ad = .all) (hl : vs.length = fn.np) : c (k + 1) f vs S = fin S.length (exec P0 (c k) fn.body (vs.map some ++ List.replicate (fn.ns - fn.np) none) S) := call_all h had hl
theorem v_len {P : Prg} {cal : Cal} {r : Ev} {i : Nat} {t : Cs} (h : r[i]? = some (some (.d (.str t)))) (hl : t.length ≤ 1000000) : ev P cal (.bi .len (.cons (.var i) .nil)) r S = .ok (.d (.int t.length)) S :=
  v_bi1 (v_var h) (by simp only [biD, D.wk, if_pos (show t.length ≤ big from hl)])
theorem drop_get {t : Cs} {e x : Nat} {xs : Cs} (h : t.drop e = x :: xs) : t[e]? = some x ∧ e < t.length := by
  have h1 : t[e]? = some x := by
    have := congrArg List.head? h
    simpa [List.head?_drop] using this
  exact ⟨h1, (List.getElem?_eq_some_iff.mp h1).1⟩
theorem v_at {P : Prg} {cal : Cal} {r : Ev} {i j : Nat} {t xs : Cs} {e x : Nat} (h1 : r[i]? = some (some (.d (.str t)))) (h2 : r[j]? = some (some (.d (.int e)))) (hl : t.length ≤ 1000000) (hd' : t.drop e = x :: xs) : ev P cal (.ix (.var i) (.var j)) r S = .ok (.d (.str [x])) S := by
  obtain ⟨g1, g2⟩ := drop_get hd'
  have hp : plc (e : Int) t.length = some e := by
    unfold plc
    rw [if_pos (Int.natCast_nonneg _), if_pos (by omega), Int.toNat_natCast]
  have hix : ixD (.str t) (.int e) = some (.str [x]) := by simp only [ixD, if_pos (show t.length ≤ big from hl), hp, Option.bind_some, g1, Option.map_some]
  rw [ev, v_var h1]
  simp only [R.bind, D.wk]
  rw [v_vi h2]
  simp only [rdV, hix, Option.map_some, R.opt]
theorem v_eqs {P : Prg} {cal : Cal} {r : Ev} {a b : Ex} {x y : Cs} (ha : ev P cal a r S = .ok (.d (.str x)) S) (hb : ev P cal b r S = .ok (.d (.str y)) S) : ev P cal (.cmp .eq a b) r S = .ok (.d (.bl (decide (x = y)))) S := by
  have q : (x == y) = decide (x = y) := by
    by_cases h : x = y
    · rw [decide_eq_true h, h]; simp
    · rw [decide_eq_false h]; exact beq_eq_false_iff_ne.mpr h
  simp only [ev, ha, hb, R.bind, rdV, cmpD, D.plain, D.eqv, Bool.and_self, if_true, Option.map_some, R.opt, q]
theorem v_eqn {P : Prg} {cal : Cal} {r : Ev} {a b : Ex} {x y : Nat} (ha : ev P cal a r S = .ok (.d (.int x)) S) (hb : ev P cal b r S = .ok (.d (.int y)) S) : ev P cal (.cmp .eq a b) r S = .ok (.d (.bl (decide (x = y)))) S := by
  rw [v_eqi ha hb]
  congr 3
  by_cases h : x = y
  · rw [decide_eq_true h, h]; simp
  · rw [decide_eq_false h]; exact beq_eq_false_iff_ne.mpr (by omega)
theorem v_in1 {P : Prg} {cal : Cal} {r : Ev} {a b : Ex} {x : Nat} {z : Cs} (ha : ev P cal a r S = .ok (.d (.str [x])) S) (hb : ev P cal b r S = .ok (.d (.str z)) S) : ev P cal (.cmp .isin a b) r S = .ok (.d (.bl (z.contains x))) S := by
  simp only [ev, ha, hb, R.bind, rdV, cmpD, inD, Option.map_some, R.opt]
theorem v_notin1 {P : Prg} {cal : Cal} {r : Ev} {a b : Ex} {x : Nat} {z : Cs} (ha : ev P cal a r S = .ok (.d (.str [x])) S) (hb : ev P cal b r S = .ok (.d (.str z)) S) : ev P cal (.cmp .notin a b) r S = .ok (.d (.bl (!z.contains x))) S := by
  simp only [ev, ha, hb, R.bind, rdV, cmpD, inD, Option.map_some, R.opt]
def LT : Cs := [97, 98, 99, 100, 101, 102, 103, 104, 105, 106, 107, 108, 109, 110, 111, 112, 113, 114, 115, 116, 117, 118, 119, 120, 121, 122]
def DG : Cs := [48, 49, 50, 51, 52, 53, 54, 55, 56, 57]
theorem g1 {cal : Cal} {r : Ev} : ev P0 cal (.glob 1) r S = .ok (.d (.str LT)) S := by simp only [ev, P0, List.getElem?_cons_zero, List.getElem?_cons_succ]; rfl
theorem g2 {cal : Cal} {r : Ev} : ev P0 cal (.glob 2) r S = .ok (.d (.str DG)) S := by simp only [ev, P0, List.getElem?_cons_zero, List.getElem?_cons_succ]; rfl
theorem g3 {cal : Cal} {r : Ev} : ev P0 cal (.glob 3) r S = .ok (.d (.str NOTH)) S := by simp only [ev, P0, List.getElem?_cons_zero, List.getElem?_cons_succ]; rfl
theorem g4 {cal : Cal} {r : Ev} : ev P0 cal (.glob 4) r S = .ok (.d (.int 8)) S := by simp only [ev, P0, List.getElem?_cons_zero, List.getElem?_cons_succ]
theorem g5 {cal : Cal} {r : Ev} : ev P0 cal (.glob 5) r S = .ok (.d (.int 60)) S := by simp only [ev, P0, List.getElem?_cons_zero, List.getElem?_cons_succ]
theorem g6 {cal : Cal} {r : Ev} : ev P0 cal (.glob 6) r S = .ok (.d (.int 1000000)) S := by simp only [ev, P0, List.getElem?_cons_zero, List.getElem?_cons_succ]
theorem g7 {cal : Cal} {r : Ev} : ev P0 cal (.glob 7) r S = .ok (.d (.str [32])) S := by simp only [ev, P0, List.getElem?_cons_zero, List.getElem?_cons_succ]
theorem g8 {cal : Cal} {r : Ev} : ev P0 cal (.glob 8) r S = .ok (.d (.int 7)) S := by simp only [ev, P0, List.getElem?_cons_zero, List.getElem?_cons_succ]
theorem g9 {cal : Cal} {r : Ev} : ev P0 cal (.glob 9) r S = .ok (.d (.str [44])) S := by simp only [ev, P0, List.getElem?_cons_zero, List.getElem?_cons_succ]
theorem LT_c (x : Nat) : LT.contains x = isL x := by
  unfold LT isL
  by_cases h : 97 ≤ x ∧ x ≤ 122
  · rw [decide_eq_true h]; simp; omega
  · rw [decide_eq_false h]; simp; omega
theorem DG_c (x : Nat) : DG.contains x = isD x := by
  unfold DG isD
  by_cases h : 48 ≤ x ∧ x ≤ 57
  · rw [decide_eq_true h]; simp; omega
  · rw [decide_eq_false h]; simp; omega
theorem DG1_c (x : Nat) : (DG.drop 1).contains x = isN x := by
  show List.contains [49, 50, 51, 52, 53, 54, 55, 56, 57] x = _
  unfold isN
  by_cases h : 49 ≤ x ∧ x ≤ 57
  · rw [decide_eq_true h]; simp; omega
  · rw [decide_eq_false h]; simp; omega
theorem LD_c (x : Nat) : (LT ++ DG).contains x = isA x := by
  rw [isA, ← LT_c, ← DG_c]
  simp
/-! ### behind_blanks -/
def cb : Ex := .and (.cmp .lt (.var 1) (.bi .len (.cons (.var 0) .nil))) (.one (.cmp .eq (.ix (.var 0) (.var 1)) (.glob 7)))
theorem bb_loop {cal : Cal} {t : Cs} (hl : t.length ≤ 500) : ∀ (rest : Cs) (e f : Nat), t.drop e = rest → rest.length < f →
    whlL (fun r S => ev P0 cal cb r S) (fun r S => exec P0 cal (.seq (.aug 1 .add (.int 1)) .skip) r S) f [some (.d (.str t)), some (.d (.int e))] S = .nx [some (.d (.str t)), some (.d (.int ((e + bl rest : Nat) : Int)))] S
  | rest, e, 0, h, hf => by omega
  | [], e, f + 1, h, hf => by
    have hle : t.length ≤ e := List.drop_eq_nil_iff.mp h
    have e1 : ev P0 cal (.cmp .lt (.var 1) (.bi .len (.cons (.var 0) .nil))) [some (.d (.str t)), some (.d (.int e))] S = .ok (.d (.bl (decide ((e : Int) < t.length)))) S := v_lt (v_vi rfl) (v_len rfl (by omega))
    rw [decide_eq_false (by omega)] at e1
    have e2 : ev P0 cal cb [some (.d (.str t)), some (.d (.int e))] S = .ok (.d (.bl false)) S := v_and (q := false) e1 fun z => by cases z
    simp only [whlL, e2]
    rfl
  | x :: xs, e, f + 1, h, hf => by
    obtain ⟨_, hlt⟩ := drop_get h
    have e1 : ev P0 cal (.cmp .lt (.var 1) (.bi .len (.cons (.var 0) .nil))) [some (.d (.str t)), some (.d (.int e))] S = .ok (.d (.bl (decide ((e : Int) < t.length)))) S := v_lt (v_vi rfl) (v_len rfl (by omega))
    rw [decide_eq_true (by omega)] at e1
    have e2 : ev P0 cal cb [some (.d (.str t)), some (.d (.int e))] S = .ok (.d (.bl (true && decide (([x] : Cs) = [32])))) S := v_and e1 fun _ => v_1 (v_eqs (v_at (i := 0) (j := 1) rfl rfl (by omega) h) g7)
    by_cases hx : x = 32
    · subst hx
      have e3 : ev P0 cal cb [some (.d (.str t)), some (.d (.int e))] S = .ok (.d (.bl true)) S := by rw [e2]; rfl
      have hb : exec P0 cal (.seq (.aug 1 .add (.int 1)) .skip) [some (.d (.str t)), some (.d (.int e))] S = .nx [some (.d (.str t)), some (.d (.int ((e + 1 : Nat) : Int)))] S := by
        simp [exec, ev, R.st, augD]
      have ih := bb_loop hl (cal := cal) xs (e + 1) f (by rw [← List.drop_drop, h]; rfl) (by simp at hf; omega)
      have hbl : bl (32 :: xs) = bl xs + 1 := by simp [bl]
      rw [hbl, show e + (bl xs + 1) = e + 1 + bl xs by omega]
      simp only [whlL, e3, hb, ih]
    · have e3 : ev P0 cal cb [some (.d (.str t)), some (.d (.int e))] S = .ok (.d (.bl false)) S := by rw [e2]; simp [hx]
      simp only [whlL, e3, bl, if_neg hx]; rfl
theorem behind_blanks {t : Cs} {e : Nat} (hl : t.length ≤ 500) : c (k + 1) 7 [.d (.str t), .d (.int e)] S = .ok (.d (.int ((e + bl (t.drop e) : Nat) : Int))) S := by
  rw [ca (fn := ⟨2, 2, b_behind_blanks, .all⟩) rfl rfl rfl, ← fin_ret]
  congr 1
  show exec P0 (c k) b_behind_blanks [some (.d (.str t)), some (.d (.int e))] S = _
  unfold b_behind_blanks
  have h := bb_loop (S := S) hl (cal := c k) (t.drop e) e 1000 rfl (by rw [List.length_drop]; omega)
  have hw : exec P0 (c k) (.whl cb (.seq (.aug 1 .add (.int 1)) .skip)) [some (.d (.str t)), some (.d (.int e))] S = .nx [some (.d (.str t)), some (.d (.int ((e + bl (t.drop e) : Nat) : Int)))] S := by
    simp only [exec]; exact h
  refine (x_nx hw).trans ?_
  exact x_ret (x_retv (v_vi rfl))
/-! ### require_sign -/
theorem strD_nat {n : Nat} (h : n < 2 ^ 64) : strD (.int n) = true := by
  show decide ((n : Int).natAbs < 2 ^ 1900) = true
  have : (2 : Nat) ^ 64 ≤ 2 ^ 1900 := Nat.pow_le_pow_right (by decide) (by decide)
  exact decide_eq_true (by simp only [Int.natAbs_natCast]; omega)
theorem x_exc {P : Prg} {cal : Cal} {a b : St} {r r1 : Ev} {S S1 : Hs} {e : Nat} {fs : List D} (h : exec P cal a r S = .exc e fs r1 S1) : exec P cal (.seq a b) r S = .exc e fs r1 S1 := by simp only [exec, h]
theorem x_brk {P : Prg} {cal : Cal} {a b : St} {r r1 : Ev} {S S1 : Hs} (h : exec P cal a r S = .brk r1 S1) : exec P cal (.seq a b) r S = .brk r1 S1 := by simp only [exec, h]
theorem x_rse {P : Prg} {cal : Cal} {e : Ex} {i : Nat} {r : Ev} {S : Hs} {x : D} (h : ev P cal e r S = .ok (.d x) S) (hx : strD x = true) : exec P cal (.rse i (.cons e .nil)) r S = .exc i [x] r S := by
  simp only [exec, v_one h, R.st, dsOf, Option.map_some, List.all_cons, List.all_nil, hx, Bool.and_self, if_true]
theorem require_sign {t z : Cs} {e : Nat} (hl : t.length ≤ 500) (he : e ≤ t.length) : c (k + 1) 8 [.d (.str t), .d (.int e), .d (.str z)] S = match t.drop e with
    | [] => .exc 0 [.int e] S
    | x :: _ => if z.contains x then .ok (.d .non) S else .exc 0 [.int e] S := by
  rw [ca (fn := ⟨3, 3, b_require_sign, .all⟩) rfl rfl rfl]
  show fin S.length (exec P0 (c k) b_require_sign [some (.d (.str t)), some (.d (.int e)), some (.d (.str z))] S) = _
  unfold b_require_sign
  have e1 : ev P0 (c k) (.cmp .eq (.var 1) (.bi .len (.cons (.var 0) .nil))) [some (.d (.str t)), some (.d (.int e)), some (.d (.str z))] S = .ok (.d (.bl (decide (e = t.length)))) S := v_eqn (v_vi rfl) (v_len rfl (by omega))
  have hb64 : e < 2 ^ 64 := by
    have : (2 : Nat) ^ 64 = 18446744073709551616 := by decide
    omega
  have bad : ∀ {a : Ex}, ev P0 (c k) a [some (.d (.str t)), some (.d (.int e)), some (.d (.str z))] S = .ok (.d (.bl true)) S → fin S.length (exec P0 (c k) (.seq (.ite a (.seq (.rse 0 (.cons (.var 1) .nil)) .skip) .skip) .skip) [some (.d (.str t)), some (.d (.int e)), some (.d (.str z))] S) = .exc 0 [.int e] S := fun h => by
    refine (congrArg (fin S.length) (x_exc (r1 := [some (.d (.str t)), some (.d (.int e)), some (.d (.str z))]) (S1 := S) (e := 0) (fs := [.int e]) ?_)).trans (fin_exc ..)
    rw [x_if h, if_pos rfl]
    exact x_exc (x_rse (v_vi (x := (e : Int)) rfl) (strD_nat hb64))
  cases hd' : t.drop e with
  | nil =>
    have hle : t.length ≤ e := List.drop_eq_nil_iff.mp hd'
    rw [decide_eq_true (by omega)] at e1
    exact bad (v_or e1 (q := false) fun h => by cases h)
  | cons x xs =>
    obtain ⟨_, hlt⟩ := drop_get hd'
    rw [decide_eq_false (by omega)] at e1
    have e2 := v_or e1 fun _ => v_1 (v_notin1 (v_at (i := 0) (j := 1) rfl rfl (by omega) hd') (v_var (i := 2) (x := .str z) rfl))
    dsimp only
    cases hz : z.contains x with
    | true =>
      rw [hz] at e2
      rw [if_pos rfl, x_nx (x_go e2)]
      simp only [exec]
      exact fin_nx ..
    | false =>
      rw [hz] at e2
      rw [if_neg (by decide)]
      exact bad e2
/-! ### behind_run -/
def cr : Ex := .and (.cmp .lt (.var 4) (.bi .len (.cons (.var 0) .nil))) (.and (.cmp .lt (.bin .sub (.var 4) (.var 1)) (.var 3)) (.one (.cmp .isin (.ix (.var 0) (.var 4)) (.var 2))))
def Br (t z : Cs) (b m e : Nat) : Ev := [some (.d (.str t)), some (.d (.int b)), some (.d (.str z)), some (.d (.int m)), some (.d (.int e))]
theorem br_loop {cal : Cal} {t z : Cs} {b m : Nat} {p : Nat → Bool} (hp : ∀ x, z.contains x = p x) (hl : t.length ≤ 500) : ∀ (rest : Cs) (e f : Nat), t.drop e = rest → b ≤ e → e ≤ b + m → rest.length < f →
    whlL (fun r S => ev P0 cal cr r S) (fun r S => exec P0 cal (.seq (.aug 4 .add (.int 1)) .skip) r S) f (Br t z b m e) S = .nx (Br t z b m (e + run p (m - (e - b)) rest)) S
  | rest, e, 0, h, _, _, hf => by omega
  | [], e, f + 1, h, h1, h2, hf => by
    have hle : t.length ≤ e := List.drop_eq_nil_iff.mp h
    have e1 : ev P0 cal (.cmp .lt (.var 4) (.bi .len (.cons (.var 0) .nil))) (Br t z b m e) S = .ok (.d (.bl (decide ((e : Int) < t.length)))) S := v_lt (v_vi rfl) (v_len rfl (by omega))
    rw [decide_eq_false (by omega)] at e1
    have e2 : ev P0 cal cr (Br t z b m e) S = .ok (.d (.bl false)) S := v_and (q := false) e1 fun z => by cases z
    have : run p (m - (e - b)) [] = 0 := by cases m - (e - b) <;> rfl
    simp only [whlL, e2, this]
    rfl
  | x :: xs, e, f + 1, h, h1, h2, hf => by
    obtain ⟨_, hlt⟩ := drop_get h
    have e1 : ev P0 cal (.cmp .lt (.var 4) (.bi .len (.cons (.var 0) .nil))) (Br t z b m e) S = .ok (.d (.bl (decide ((e : Int) < t.length)))) S := v_lt (v_vi rfl) (v_len rfl (by omega))
    rw [decide_eq_true (by omega)] at e1
    have e2 : ev P0 cal (.cmp .lt (.bin .sub (.var 4) (.var 1)) (.var 3)) (Br t z b m e) S = .ok (.d (.bl (decide ((e : Int) - b < m)))) S := v_lt (v_b (v_vi rfl) (v_vi rfl) rfl) (v_vi rfl)
    have e3 := v_in1 (S := S) (P := P0) (cal := cal) (r := Br t z b m e) (v_at (i := 0) (j := 4) rfl rfl (by omega) h) (v_var (i := 2) (x := .str z) rfl)
    have e4 : ev P0 cal cr (Br t z b m e) S = _ := v_and e1 fun _ => v_and e2 fun _ => v_1 e3
    rw [hp, Bool.true_and] at e4
    by_cases hc : e - b < m ∧ p x = true
    · rw [decide_eq_true (by omega), hc.2, Bool.true_and] at e4
      have hb : exec P0 cal (.seq (.aug 4 .add (.int 1)) .skip) (Br t z b m e) S = .nx (Br t z b m (e + 1)) S := by
        simp [exec, ev, Br, R.st, augD]
      have ih := br_loop (cal := cal) (z := z) (b := b) (m := m) hp hl xs (e + 1) f (by rw [← List.drop_drop, h]; rfl) (by omega) (by omega) (by simp at hf; omega)
      simp only [whlL, e4, hb, ih]
      have e0 : m - (e - b) = (m - (e + 1 - b)) + 1 := by omega
      rw [e0]
      simp only [run, if_pos hc.2]
      congr 2
      omega
    · have hz : (decide ((e : Int) - b < m) && p x) = false := by
        cases hx : p x with
        | false => simp
        | true =>
          rw [decide_eq_false (by have : ¬ e - b < m := fun z => hc ⟨z, hx⟩; omega)]; rfl
      rw [hz] at e4
      simp only [whlL, e4]
      have : run p (m - (e - b)) (x :: xs) = 0 := by
        cases hm : m - (e - b) with
        | zero => rfl
        | succ j =>
          simp only [run]
          rw [if_neg (fun z => hc ⟨by omega, z⟩)]
      rw [this]; rfl
theorem behind_run {t z : Cs} {e m : Nat} {p : Nat → Bool} (hp : ∀ x, z.contains x = p x) (hl : t.length ≤ 500) : c (k + 1) 9 [.d (.str t), .d (.int e), .d (.str z), .d (.int m)] S = .ok (.d (.int ((e + run p m (t.drop e) : Nat) : Int))) S := by
  rw [ca (fn := ⟨4, 5, b_behind_run, .all⟩) rfl rfl rfl, ← fin_ret]
  congr 1
  show exec P0 (c k) b_behind_run [some (.d (.str t)), some (.d (.int e)), some (.d (.str z)), some (.d (.int m)), none] S = _
  unfold b_behind_run
  rw [x_nx (x_asg (v_vi (i := 1) (x := (e : Int)) rfl))]
  have h := br_loop (S := S) hp hl (cal := c k) (b := e) (m := m) (t.drop e) e 1000 rfl (Nat.le_refl _) (by omega) (by rw [List.length_drop]; omega)
  rw [Nat.sub_self, Nat.sub_zero] at h
  have hw : exec P0 (c k) (.whl cr (.seq (.aug 4 .add (.int 1)) .skip)) (Br t z e m e) S = .nx (Br t z e m (e + run p m (t.drop e))) S := by
    simp only [exec]; exact h
  refine (x_nx hw).trans ?_
  exact x_ret (x_retv (v_vi rfl))
end K03
end
section
set_option maxRecDepth 100000
set_option maxHeartbeats 1000000
set_option exponentiation.threshold 2000
namespace K03
open Iv Pw
variable {k : Nat} {S : Hs}
def val (p : Cs) : Nat := (numOf p 0).getD 0
theorem numOf_dig : ∀ {p : Cs} (a : Nat), (∀ c ∈ p, isD c = true) → ∃ v, numOf p a = some v
  | [], a, _ => ⟨a, rfl⟩
  | c :: cs, a, h => by
    have h1 : 48 ≤ c ∧ c ≤ 57 := by simpa [isD] using h c (List.mem_cons_self ..)
    simp only [numOf, if_pos h1]
    exact numOf_dig _ fun x hx => h x (List.mem_cons_of_mem _ hx)
theorem int_num {p : Cs} (h : numB p = true) (hl : p.length ≤ 640) : biD .int [.str p] = some (.int (val p)) := by
  obtain ⟨h1, h2⟩ := num_D h
  obtain ⟨v, e⟩ := numOf_dig 0 h2
  have e2 : numOf p 0 = some (val p) := by simp [val, e]
  simp only [biD, if_pos (show p ≠ [] ∧ p.length ≤ 640 from ⟨h1, hl⟩), e2]
  rfl
theorem num_len {p : Cs} (h : numB p = true) : p.length ≤ 7 := by
  cases p with
  | nil => simp
  | cons x xs =>
    simp only [numB, Bool.and_eq_true, decide_eq_true_eq] at h
    simp only [List.length_cons]; omega
theorem kind_len {p : Cs} (h : kindB p = true) : p.length ≤ 8 := by
  cases p with
  | nil => simp
  | cons x xs =>
    simp only [kindB, Bool.and_eq_true, decide_eq_true_eq] at h
    simp only [List.length_cons]; omega
theorem cut_nat (t : Cs) (b e : Nat) (h1 : b ≤ e) (h2 : e ≤ t.length) : cutL t (some (b : Int)) (some (e : Int)) = (t.drop b).take (e - b) := by
  simp only [cutL, highD, lowD, if_pos (Int.natCast_nonneg _), Int.toNat_natCast]
  rw [Nat.min_eq_left h2, Nat.min_eq_left (Nat.le_trans h1 h2), List.drop_take]
theorem v_cut {P : Prg} {cal : Cal} {r : Ev} {i j l : Nat} {t : Cs} {b e : Nat} (h1 : r[i]? = some (some (.d (.str t)))) (h2 : r[j]? = some (some (.d (.int b)))) (h3 : r[l]? = some (some (.d (.int e)))) (hl : t.length ≤ 1000000) (hb : b ≤ e) (he : e ≤ t.length) : ev P cal (.sl (.var i) (.one (.var j)) (.one (.var l))) r S = .ok (.d (.str ((t.drop b).take (e - b)))) S := by
  rw [ev, v_var h1]
  simp only [R.bind, D.wk, evo]
  rw [v_vi h2]
  simp only [R.bind]
  rw [v_vi h3]
  simp only [R.bind, rdV, slD, if_pos (show t.length ≤ big from hl), cut_nat t b e hb he, Option.map_some, R.opt]
def entD (e : Ent) : D := .tup [.str e.1, .int e.2.1, .int (val e.2.2.1), .int e.2.2.2, .int ((e.2.2.2 + e.2.2.1.length : Nat) : Int)]
def Et (t : Cs) (i : Nat) (x y z : Option Vl) : Ev := [some (.d (.str t)), some (.d (.int i)), x, y, z]
theorem v_ld {cal : Cal} {r : Ev} : ev P0 cal (.bin .add (.glob 1) (.glob 2)) r S = .ok (.d (.str (LT ++ DG))) S := v_addsS g1 g2 (by decide)
theorem v_d1 {cal : Cal} {r : Ev} : ev P0 cal (.sl (.glob 2) (.one (.int 1)) .no) r S = .ok (.d (.str (DG.drop 1))) S := by
  rw [ev, g2]
  simp only [R.bind, evo, ev, rdV, slD]
  rw [if_pos (by decide)]
  rfl
theorem x_call_exc {f : Nat} {es : Ex} {cal : Cal} {vs : List Vl} {r : Ev} {z : Nat} {l : List D} (h : evs P0 cal es r S = .ok vs S) (h2 : cal f vs S = .exc z l S) : exec P0 cal (.expr (.call f es)) r S = .exc z l r S := by
  simp only [exec, v_call h h2, R.st]
theorem entry_at {t : Cs} {i : Nat} (hl : t.length ≤ 500) (hi : i ≤ t.length) : c (k + 2) 10 [.d (.str t), .d (.int i)] S = match entP (t.drop i) i with
    | .error z => .exc 0 [.int z] S
    | .ok (e, _, _) => .ok (.d (entD e)) S := by
  rw [ca (fn := ⟨2, 5, b_entry_at, .all⟩) rfl rfl rfl]
  show fin S.length (exec P0 (c (k + 1)) b_entry_at (Et t i none none none) S) = _
  unfold b_entry_at entP
  have hlen : (t.drop i).length = t.length - i := List.length_drop ..
  have a1 : ∀ {x y z : Option Vl}, ev P0 (c (k + 1)) (.var 0) (Et t i x y z) S = .ok (.d (.str t)) S := fun {x y z} => v_var (i := 0) (x := .str t) rfl
  have a2 : ∀ {x y z : Option Vl}, ev P0 (c (k + 1)) (.var 1) (Et t i x y z) S = .ok (.d (.int i)) S := fun {x y z} => v_vi rfl
  have r1 := require_sign (k := k) (S := S) (z := LT) hl hi
  cases hu : t.drop i with
  | nil =>
    rw [hu] at r1
    dsimp only at r1 ⊢
    exact (congrArg (fin S.length) (x_exc (x_call_exc (v_cons a1 (v_cons a2 (v_one g1))) r1))).trans (fin_exc ..)
  | cons a u =>
    rw [hu] at r1
    dsimp only at r1 ⊢
    rw [LT_c] at r1
    by_cases ha : isL a = true
    · rw [if_pos ha] at r1 ⊢
      rw [x_nx (x_expr (v_call (v_cons a1 (v_cons a2 (v_one g1))) r1))]
      have b1 := behind_run (k := k) (S := S) (t := t) (z := LT ++ DG) (e := i) (m := 8) LD_c hl
      rw [hu] at b1
      obtain ⟨m1, m2⟩ := run_le isA 8 (a :: u)
      have ml : (a :: u).length = t.length - i := by rw [← hu]; exact hlen
      rw [ml] at m1
      rw [x_nx (x_asg (v_call (v_cons a1 (v_cons a2 (v_cons v_ld (v_one g4)))) b1))]
      have hdm : t.drop (i + run isA 8 (a :: u)) = (a :: u).drop (run isA 8 (a :: u)) := by rw [← List.drop_drop, hu]
      have htk : (t.drop i).take (i + run isA 8 (a :: u) - i) = (a :: u).take (run isA 8 (a :: u)) := by rw [hu]; congr 1; omega
      have hes := ent_says (u := a :: u) (pos := i) (fun c cs h => by cases h; intro e; subst e; revert ha; decide)
      unfold entP at hes
      dsimp only at hes
      rw [if_pos ha] at hes
      generalize hm : run isA 8 (a :: u) = m at *
      show fin S.length (exec P0 (c (k + 1)) _ (Et t i (some (.d (.int ((i + m : Nat) : Int)))) none none) S) = _
      have a3 : ∀ {y z : Option Vl}, ev P0 (c (k + 1)) (.var 2) (Et t i (some (.d (.int ((i + m : Nat) : Int)))) y z) S = .ok (.d (.int ((i + m : Nat) : Int))) S := fun {y z} => v_vi rfl
      have r2 := require_sign (k := k) (S := S) (z := [32]) hl (show i + m ≤ t.length by omega)
      rw [hdm] at r2
      cases hR : (a :: u).drop m with
      | nil =>
        rw [hR] at r2
        dsimp only at r2 ⊢
        exact (congrArg (fin S.length) (x_exc (x_call_exc (v_cons a1 (v_cons a3 (v_one g7))) r2))).trans (fin_exc ..)
      | cons x xs =>
        rw [hR] at r2 hes
        dsimp only at r2 hes ⊢
        have hc1 : List.contains [32] x = decide (x = 32) := by
          by_cases h : x = 32 <;> simp [h]
        rw [hc1] at r2
        by_cases hx : x = 32
        · rw [decide_eq_true hx, if_pos rfl] at r2
          rw [if_pos hx] at hes ⊢
          rw [x_nx (x_expr (v_call (v_cons a1 (v_cons a3 (v_one g7))) r2))]
          have e1 : ev P0 (c (k + 1)) (.cmp .eq (.sl (.var 0) (.one (.var 1)) (.one (.var 2))) (.glob 3)) (Et t i (some (.d (.int ((i + m : Nat) : Int)))) none none) S = .ok (.d (.bl (decide ((a :: u).take m = NOTH)))) S := by
            have := v_eqs (v_cut (S := S) (P := P0) (cal := c (k + 1)) (r := Et t i (some (.d (.int ((i + m : Nat) : Int)))) none none) (i := 0) (j := 1) (l := 2) (t := t) (b := i) (e := i + m) rfl rfl rfl (by omega) (by omega) (by omega)) g3
            rw [htk] at this
            exact this
          have h64 : (2 : Nat) ^ 64 = 18446744073709551616 := by decide
          by_cases hN : (a :: u).take m = NOTH
          · rw [if_pos hN]
            rw [decide_eq_true hN] at e1
            refine (congrArg (fin S.length) (x_exc (r1 := Et t i (some (.d (.int ((i + m : Nat) : Int)))) none none) (S1 := S) (e := 0) (fs := [.int ((i + m : Nat) : Int)]) ?_)).trans (fin_exc ..)
            rw [x_if e1, if_pos rfl]
            exact x_exc (x_rse a3 (strD_nat (by omega)))
          · rw [if_neg hN] at hes ⊢
            rw [decide_eq_false hN] at e1
            rw [x_nx (x_go e1)]
            have b2 := behind_blanks (k := k) (S := S) (t := t) (e := i + m) hl
            rw [hdm, hR] at b2
            have hj := bl_le (x :: xs)
            have hRl : (x :: xs).length = t.length - i - m := by rw [← hR, ← hu, List.length_drop, hlen]
            rw [x_nx (x_asg (v_call (v_cons a1 (v_one a3)) b2))]
            have hdj : t.drop (i + m + bl (x :: xs)) = (x :: xs).drop (bl (x :: xs)) := by rw [← List.drop_drop, hdm, hR]
            generalize hjj : bl (x :: xs) = j at *
            show fin S.length (exec P0 (c (k + 1)) _ (Et t i (some (.d (.int ((i + m : Nat) : Int)))) (some (.d (.int ((i + m + j : Nat) : Int)))) none) S) = _
            have a4 : ∀ {z : Option Vl}, ev P0 (c (k + 1)) (.var 3) (Et t i (some (.d (.int ((i + m : Nat) : Int)))) (some (.d (.int ((i + m + j : Nat) : Int)))) z) S = .ok (.d (.int ((i + m + j : Nat) : Int))) S := fun {z} => v_vi rfl
            have r3 := require_sign (k := k) (S := S) (z := DG.drop 1) hl (show i + m + j ≤ t.length by omega)
            rw [hdj] at r3
            cases hR2 : (x :: xs).drop j with
            | nil =>
              rw [hR2] at r3
              dsimp only at r3 ⊢
              exact (congrArg (fin S.length) (x_exc (x_call_exc (v_cons a1 (v_cons a4 (v_one v_d1))) r3))).trans (fin_exc ..)
            | cons y ys =>
              rw [hR2] at r3 hes
              dsimp only at r3 hes ⊢
              rw [DG1_c] at r3
              by_cases hy : isN y = true
              · rw [if_pos hy] at r3 hes ⊢
                rw [x_nx (x_expr (v_call (v_cons a1 (v_cons a4 (v_one v_d1))) r3))]
                have b3 := behind_run (k := k) (S := S) (t := t) (z := DG) (e := i + m + j) (m := 7) DG_c hl
                rw [hdj, hR2] at b3
                obtain ⟨d1, d2⟩ := run_le isD 7 (y :: ys)
                have hRl2 : (y :: ys).length = t.length - i - m - j := by rw [← hR2, List.length_drop, hRl]
                rw [x_nx (x_asg (v_call (v_cons a1 (v_cons a4 (v_cons g2 (v_one g8)))) b3))]
                dsimp only at hes
                obtain ⟨pre, _, _, _, _, _, _, hnum, _, _⟩ := hes
                generalize hdd : run isD 7 (y :: ys) = d at *
                show fin S.length (exec P0 (c (k + 1)) _ (Et t i (some (.d (.int ((i + m : Nat) : Int)))) (some (.d (.int ((i + m + j : Nat) : Int)))) (some (.d (.int ((i + m + j + d : Nat) : Int))))) S) = _
                have c1 := v_cut (S := S) (P := P0) (cal := c (k + 1)) (r := Et t i (some (.d (.int ((i + m : Nat) : Int)))) (some (.d (.int ((i + m + j : Nat) : Int)))) (some (.d (.int ((i + m + j + d : Nat) : Int))))) (i := 0) (j := 1) (l := 2) (t := t) (b := i) (e := i + m) rfl rfl rfl (by omega) (by omega) (by omega)
                rw [htk] at c1
                have c2 := v_cut (S := S) (P := P0) (cal := c (k + 1)) (r := Et t i (some (.d (.int ((i + m : Nat) : Int)))) (some (.d (.int ((i + m + j : Nat) : Int)))) (some (.d (.int ((i + m + j + d : Nat) : Int))))) (i := 0) (j := 3) (l := 4) (t := t) (b := i + m + j) (e := i + m + j + d) rfl rfl rfl (by omega) (by omega) (by omega)
                have htd : (t.drop (i + m + j)).take (i + m + j + d - (i + m + j)) = (y :: ys).take d := by rw [hdj, hR2]; congr 1; omega
                rw [htd] at c2
                have c3 := v_bi1 (f := .int) c2 (int_num hnum (by have := num_len hnum; omega))
                have c4 : ev P0 (c (k + 1)) (.var 4) (Et t i (some (.d (.int ((i + m : Nat) : Int)))) (some (.d (.int ((i + m + j : Nat) : Int)))) (some (.d (.int ((i + m + j + d : Nat) : Int))))) S = .ok (.d (.int ((i + m + j + d : Nat) : Int))) S := v_vi rfl
                have hdl : ((y :: ys).take d).length = d := take_len d1
                have c5 : ev P0 (c (k + 1)) (.tup (.cons (.sl (.var 0) (.one (.var 1)) (.one (.var 2))) (.cons (.var 1) (.cons (.bi .int (.cons (.sl (.var 0) (.one (.var 3)) (.one (.var 4))) .nil)) (.cons (.var 3) (.cons (.var 4) .nil)))))) (Et t i (some (.d (.int ((i + m : Nat) : Int)))) (some (.d (.int ((i + m + j : Nat) : Int)))) (some (.d (.int ((i + m + j + d : Nat) : Int))))) S = .ok (.d (entD ((a :: u).take m, i, (y :: ys).take d, i + m + j))) S := by
                  rw [ev, v_cons c1 (v_cons a2 (v_cons c3 (v_cons a4 (v_one c4))))]
                  simp only [R.bind, dsOf, Option.map_some, List.length_cons, List.length_nil]
                  rw [if_pos (by decide)]
                  unfold entD
                  dsimp only
                  rw [hdl]
                rw [x_ret (x_retv c5)]
                exact fin_ret ..
              · rw [if_neg hy] at r3 ⊢
                exact (congrArg (fin S.length) (x_exc (x_call_exc (v_cons a1 (v_cons a4 (v_one v_d1))) r3))).trans (fin_exc ..)
        · rw [decide_eq_false hx, if_neg (by decide)] at r2
          rw [if_neg hx]
          exact (congrArg (fin S.length) (x_exc (x_call_exc (v_cons a1 (v_cons a3 (v_one g7))) r2))).trans (fin_exc ..)
    · rw [if_neg ha] at r1 ⊢
      exact (congrArg (fin S.length) (x_exc (x_call_exc (v_cons a1 (v_cons a2 (v_one g1))) r1))).trans (fin_exc ..)
end K03
end
section
set_option maxRecDepth 100000
set_option maxHeartbeats 1000000
set_option exponentiation.threshold 2000
namespace K03
open Iv Pw
variable {k : Nat} {S : Hs}
def at' (S : Hs) (L : List D) : Hs := S ++ [.lst L]
theorem at_get {L : List D} : (at' S L)[S.length]? = some (.lst L) := by simp [at']
theorem at_set {L L' : List D} : (at' S L).set S.length (.lst L') = at' S L' := by simp [at', List.set_append]
theorem at_take {L : List D} : (at' S L).take S.length = S := by simp [at']
def eb : St := (.seq (.asg 3 (.call 10 (.cons (.var 0) (.cons (.call 7 (.cons (.var 0) (.cons (.var 2) .nil))) .nil)))) (.seq (.app 1 (.var 3)) (.seq (.asg 2 (.call 7 (.cons (.var 0) (.cons (.ix (.var 3) (.int 4)) .nil)))) (.seq (.ite (.cmp .eq (.var 2) (.bi .len (.cons (.var 0) .nil))) (.seq .brk .skip) .skip) (.seq (.expr (.call 8 (.cons (.var 0) (.cons (.var 2) (.cons (.glob 9) .nil))))) (.seq (.aug 2 .add (.int 1)) .skip))))))
theorem b_entries_eq : b_entries_in = (.seq (.par2 1 2 (.newl .nil) (.int 0)) (.seq (.whl (.bl true) eb) (.seq (.ret (.frz 1)) .skip))) := rfl
def En (t : Cs) (n i : Nat) (z : Option Vl) : Ev := [some (.d (.str t)), some (.loc n), some (.d (.int i)), z]
theorem x_asg_exc {e : Ex} {i : Nat} {cal : Cal} {r : Ev} {z : Nat} {l : List D} {S S1 : Hs} (h : ev P0 cal e r S = .exc z l S1) : exec P0 cal (.asg i e) r S = .exc z l r S1 := by
  simp only [exec, h, R.st]
theorem entries_loop {t : Cs} (hl : t.length ≤ 500) : ∀ (f i : Nat) (acc : List Ent) (z : Option Vl), i ≤ t.length → acc.length ≤ i → (t.drop i).length < f →
    match entsR f (t.drop i) i with
    | .error e => ∃ r' L, whlL (fun r S => ev P0 (c (k + 2)) (.bl true) r S) (fun r S => exec P0 (c (k + 2)) eb r S) f (En t S.length i z) (at' S (acc.map entD)) = .exc 0 [.int e] r' (at' S L)
    | .ok es => ∃ i' z', whlL (fun r S => ev P0 (c (k + 2)) (.bl true) r S) (fun r S => exec P0 (c (k + 2)) eb r S) f (En t S.length i z) (at' S (acc.map entD)) = .nx (En t S.length i' z') (at' S ((acc ++ es).map entD))
  | 0, i, acc, z, hi, ha, hf => by omega
  | f + 1, i, acc, z, hi, ha, hf => by
    have hbt : ∀ {r : Ev} {L : Hs}, ev P0 (c (k + 2)) (.bl true) r L = .ok (.d (.bl true)) L := by intro r L; simp only [ev]
    have hb := bl_le (t.drop i)
    have hlen : (t.drop i).length = t.length - i := List.length_drop ..
    have b1 := behind_blanks (k := k + 1) (S := at' S (acc.map entD)) (t := t) (e := i) hl
    have a1 : ∀ {i : Nat} {z : Option Vl} {L : Hs}, ev P0 (c (k + 2)) (.var 0) (En t S.length i z) L = .ok (.d (.str t)) L := fun {i z L} => v_var (i := 0) (x := .str t) rfl
    have a2 : ∀ {i : Nat} {z : Option Vl} {L : Hs}, ev P0 (c (k + 2)) (.var 2) (En t S.length i z) L = .ok (.d (.int i)) L := fun {i z L} => v_vi rfl
    have e0 := v_call (v_cons (a1 (i := i) (z := z)) (v_one a2)) b1
    have en := entry_at (k := k) (S := at' S (acc.map entD)) (t := t) (i := i + bl (t.drop i)) hl (by omega)
    have hes := ent_says (u := (t.drop i).drop (bl (t.drop i))) (pos := i + bl (t.drop i)) (bl_head (t.drop i))
    have hdd : t.drop (i + bl (t.drop i)) = (t.drop i).drop (bl (t.drop i)) := by rw [List.drop_drop]
    rw [hdd] at en
    unfold entsR
    cases hp : entP ((t.drop i).drop (bl (t.drop i))) (i + bl (t.drop i)) with
    | error e =>
      rw [hp] at en
      dsimp only at en ⊢
      refine ⟨En t S.length i z, acc.map entD, ?_⟩
      simp only [whlL, hbt]
      have : exec P0 (c (k + 2)) eb (En t S.length i z) (at' S (acc.map entD)) = .exc 0 [.int e] (En t S.length i z) (at' S (acc.map entD)) := by
        unfold eb
        exact x_exc (x_asg_exc (v_call (v_cons a1 (v_one e0)) en))
      rw [this]
    | ok o =>
      obtain ⟨⟨w, kp, d, np⟩, q, r⟩ := o
      rw [hp] at en hes
      dsimp only at en hes ⊢
      obtain ⟨pre, h1, h2, h3, h4, h5, h6, h7, ⟨j, h8, h9, h10⟩, h11⟩ := hes
      have hq : q = np + d.length := by
        rw [h2, h8, h10]
        simp only [List.length_append, List.length_replicate]
        omega
      have hr : t.drop q = r := by
        have : t.drop q = ((t.drop i).drop (bl (t.drop i))).drop pre.length := by
          rw [List.drop_drop, List.drop_drop, h2]
          congr 1; omega
        rw [this, h1, List.drop_left]
      have hpl : pre.length + r.length = t.length - i - bl (t.drop i) := by
        have := congrArg List.length h1
        rw [List.length_append, List.length_drop, hlen] at this
        omega
      have hpos : 0 < pre.length := by rw [h8]; simp only [List.length_append, List.length_replicate]; omega
      have hbr := bl_le r
      have s1 : exec P0 (c (k + 2)) (.asg 3 (.call 10 (.cons (.var 0) (.cons (.call 7 (.cons (.var 0) (.cons (.var 2) .nil))) .nil)))) (En t S.length i z) (at' S (acc.map entD)) = .nx (En t S.length i (some (.d (entD (w, kp, d, np))))) (at' S (acc.map entD)) := x_asg (v_call (v_cons a1 (v_one e0)) en)
      have s2 : exec P0 (c (k + 2)) (.app 1 (.var 3)) (En t S.length i (some (.d (entD (w, kp, d, np))))) (at' S (acc.map entD)) = .nx (En t S.length i (some (.d (entD (w, kp, d, np))))) (at' S ((acc ++ [(w, kp, d, np)]).map entD)) := by
        rw [x_app (n := S.length) (xs := acc.map entD) (x := entD (w, kp, d, np)) rfl at_get (v_var (i := 3) (x := entD (w, kp, d, np)) rfl) (by rw [List.length_map]; have : big = 1000000 := rfl; omega), at_set]
        simp
      have e4 : ∀ {L : Hs}, ev P0 (c (k + 2)) (.ix (.var 3) (.int 4)) (En t S.length i (some (.d (entD (w, kp, d, np))))) L = .ok (.d (.int q)) L := fun {L} => by
        rw [ev, v_var (i := 3) (x := entD (w, kp, d, np)) rfl]
        simp only [R.bind, ev, D.wk, entD, rdV]
        rw [← hq]
        rfl
      have b2 := behind_blanks (k := k + 1) (S := at' S ((acc ++ [(w, kp, d, np)]).map entD)) (t := t) (e := q) hl
      rw [hr] at b2
      have s3 : exec P0 (c (k + 2)) (.asg 2 (.call 7 (.cons (.var 0) (.cons (.ix (.var 3) (.int 4)) .nil)))) (En t S.length i (some (.d (entD (w, kp, d, np))))) (at' S ((acc ++ [(w, kp, d, np)]).map entD)) = .nx (En t S.length (q + bl r) (some (.d (entD (w, kp, d, np))))) (at' S ((acc ++ [(w, kp, d, np)]).map entD)) := x_asg (v_call (v_cons a1 (v_one e4)) b2)
      have e5 : ev P0 (c (k + 2)) (.cmp .eq (.var 2) (.bi .len (.cons (.var 0) .nil))) (En t S.length (q + bl r) (some (.d (entD (w, kp, d, np))))) (at' S ((acc ++ [(w, kp, d, np)]).map entD)) = .ok (.d (.bl (decide (q + bl r = t.length)))) (at' S ((acc ++ [(w, kp, d, np)]).map entD)) := v_eqn a2 (v_len rfl (by omega))
      have hdr : t.drop (q + bl r) = r.drop (bl r) := by rw [← List.drop_drop, hr]
      have hrl : r.length = t.length - q := by omega
      have pre3 : ∀ rest : St, exec P0 (c (k + 2)) (.seq (.asg 3 (.call 10 (.cons (.var 0) (.cons (.call 7 (.cons (.var 0) (.cons (.var 2) .nil))) .nil)))) (.seq (.app 1 (.var 3)) (.seq (.asg 2 (.call 7 (.cons (.var 0) (.cons (.ix (.var 3) (.int 4)) .nil)))) rest))) (En t S.length i z) (at' S (acc.map entD)) = exec P0 (c (k + 2)) rest (En t S.length (q + bl r) (some (.d (entD (w, kp, d, np))))) (at' S ((acc ++ [(w, kp, d, np)]).map entD)) := fun rest => by
        rw [x_nx s1, x_nx s2, x_nx s3]
      cases hR : r.drop (bl r) with
      | nil =>
        have hend : q + bl r = t.length := by
          have := List.drop_eq_nil_iff.mp hR
          omega
        dsimp only
        refine ⟨q + bl r, some (.d (entD (w, kp, d, np))), ?_⟩
        have : exec P0 (c (k + 2)) eb (En t S.length i z) (at' S (acc.map entD)) = .brk (En t S.length (q + bl r) (some (.d (entD (w, kp, d, np))))) (at' S ((acc ++ [(w, kp, d, np)]).map entD)) := by
          unfold eb
          rw [pre3]
          refine x_brk ?_
          rw [x_if e5, decide_eq_true hend, if_pos rfl]
          simp only [exec]
        simp only [whlL, hbt, this]
      | cons x xs =>
        have hlt : q + bl r < t.length := by
          rcases Nat.lt_or_ge (q + bl r) t.length with h | h
          · exact h
          · rw [← hdr, List.drop_eq_nil_iff.mpr h] at hR; cases hR
        dsimp only
        have r4 := require_sign (k := k + 1) (S := at' S ((acc ++ [(w, kp, d, np)]).map entD)) (z := [44]) hl (show q + bl r ≤ t.length by omega)
        rw [hdr, hR] at r4
        dsimp only at r4
        have hc1 : List.contains [44] x = decide (x = 44) := by
          by_cases h : x = 44 <;> simp [h]
        rw [hc1] at r4
        have e6 : exec P0 (c (k + 2)) (.ite (.cmp .eq (.var 2) (.bi .len (.cons (.var 0) .nil))) (.seq .brk .skip) .skip) (En t S.length (q + bl r) (some (.d (entD (w, kp, d, np))))) (at' S ((acc ++ [(w, kp, d, np)]).map entD)) = .nx (En t S.length (q + bl r) (some (.d (entD (w, kp, d, np))))) (at' S ((acc ++ [(w, kp, d, np)]).map entD)) := by
          rw [x_if e5, decide_eq_false (by omega)]; simp [exec]
        by_cases hx : x = 44
        · rw [decide_eq_true hx, if_pos rfl] at r4
          rw [if_pos hx]
          have hd2 : t.drop (q + bl r + 1) = xs := by
            rw [← List.drop_drop, hdr, hR]; rfl
          have hfl : xs.length < f := by
            rw [← hd2, List.length_drop]; omega
          have ih := entries_loop hl f (q + bl r + 1) (acc ++ [(w, kp, d, np)]) (some (.d (entD (w, kp, d, np)))) (by omega) (by simp only [List.length_append, List.length_cons, List.length_nil]; omega) (by rw [hd2]; exact hfl)
          rw [hd2] at ih
          have hstep : exec P0 (c (k + 2)) eb (En t S.length i z) (at' S (acc.map entD)) = .nx (En t S.length (q + bl r + 1) (some (.d (entD (w, kp, d, np))))) (at' S ((acc ++ [(w, kp, d, np)]).map entD)) := by
            unfold eb
            rw [pre3, x_nx e6, x_nx (x_expr (v_call (v_cons a1 (v_cons a2 (v_one g9))) r4))]
            simp [exec, ev, En, R.st, augD]
          simp only [whlL, hbt, hstep]
          cases hi2 : entsR f xs (q + bl r + 1) with
          | error e => rw [hi2] at ih; exact ih
          | ok es =>
            rw [hi2] at ih
            obtain ⟨i', z', ih⟩ := ih
            refine ⟨i', z', ?_⟩
            have e9 : acc ++ [(w, kp, d, np)] ++ es = acc ++ (w, kp, d, np) :: es := by simp
            rw [e9] at ih
            exact ih
        · rw [decide_eq_false hx, if_neg (by decide)] at r4
          rw [if_neg hx]
          dsimp only
          refine ⟨En t S.length (q + bl r) (some (.d (entD (w, kp, d, np)))), (acc ++ [(w, kp, d, np)]).map entD, ?_⟩
          have : exec P0 (c (k + 2)) eb (En t S.length i z) (at' S (acc.map entD)) = .exc 0 [.int ((q + bl r : Nat) : Int)] (En t S.length (q + bl r) (some (.d (entD (w, kp, d, np))))) (at' S ((acc ++ [(w, kp, d, np)]).map entD)) := by
            unfold eb
            rw [pre3, x_nx e6]
            exact x_exc (x_call_exc (v_cons a1 (v_cons a2 (v_one g9))) r4)
          simp only [whlL, hbt, this]
theorem entries_in {t : Cs} (hl : t.length ≤ 500) : c (k + 3) 11 [.d (.str t)] S = match entsR 1000 t 0 with
    | .error z => .exc 0 [.int z] S
    | .ok es => .ok (.d (.lst (es.map entD))) S := by
  rw [ca (fn := ⟨1, 4, b_entries_in, .all⟩) rfl rfl rfl]
  show fin S.length (exec P0 (c (k + 2)) b_entries_in [some (.d (.str t)), none, none, none] S) = _
  rw [b_entries_eq]
  have e1 : exec P0 (c (k + 2)) (.par2 1 2 (.newl .nil) (.int 0)) [some (.d (.str t)), none, none, none] S = .nx (En t S.length 0 none) (at' S (([] : List Ent).map entD)) := by
    simp [exec, ev, evs, R.st, R.bind, dsOf, big, En, at']
  rw [x_nx e1]
  have o := entries_loop (k := k) (S := S) hl 1000 0 [] none (Nat.zero_le _) (Nat.le_refl _) (by rw [List.drop_zero]; omega)
  rw [List.drop_zero] at o
  cases hp : entsR 1000 t 0 with
  | error z =>
    rw [hp] at o
    obtain ⟨r', L, e⟩ := o
    have : exec P0 (c (k + 2)) (.whl (.bl true) eb) (En t S.length 0 none) (at' S (([] : List Ent).map entD)) = .exc 0 [.int z] r' (at' S L) := by simp only [exec]; exact e
    rw [x_exc this]
    simp only [fin, at_take]
  | ok es =>
    rw [hp] at o
    obtain ⟨i', z', e⟩ := o
    rw [List.nil_append] at e
    have : exec P0 (c (k + 2)) (.whl (.bl true) eb) (En t S.length 0 none) (at' S (([] : List Ent).map entD)) = .nx (En t S.length i' z') (at' S (es.map entD)) := by simp only [exec]; exact e
    rw [x_nx this]
    have e3 : ev P0 (c (k + 2)) (.frz 1) (En t S.length i' z') (at' S (es.map entD)) = .ok (.d (.lst (es.map entD))) ((at' S (es.map entD)).set S.length .dead) := by
      simp only [ev, En, List.getElem?_cons_succ, List.getElem?_cons_zero, at_get]
    rw [x_ret (x_retv e3)]
    simp only [fin]
    congr 1
    rw [List.take_set_of_le (Nat.le_refl _), at_take]
end K03
end
section
set_option maxRecDepth 100000
set_option maxHeartbeats 1000000
set_option exponentiation.threshold 2000
namespace K03
open Iv Pw
variable {k : Nat} {S : Hs}
/-! ### pairs_in -/
def nothB (t : Cs) : Bool := decide ((t.drop (bl t)).take (run isA 8 (t.drop (bl t))) = NOTH)
theorem v_cutE {P : Prg} {cal : Cal} {r : Ev} {i j : Nat} {t : Cs} {b e : Nat} {x : Ex} (h1 : r[i]? = some (some (.d (.str t)))) (h2 : r[j]? = some (some (.d (.int b)))) (h3 : ev P cal x r S = .ok (.d (.int e)) S) (hl : t.length ≤ 1000000) (hb : b ≤ e) (he : e ≤ t.length) : ev P cal (.sl (.var i) (.one (.var j)) (.one x)) r S = .ok (.d (.str ((t.drop b).take (e - b)))) S := by
  rw [ev, v_var h1]
  simp only [R.bind, D.wk, evo]
  rw [v_vi h2]
  simp only [R.bind]
  rw [h3]
  simp only [R.bind, rdV, slD, if_pos (show t.length ≤ big from hl), cut_nat t b e hb he, Option.map_some, R.opt]
theorem is_nothing {t : Cs} (hl : t.length ≤ 500) : c (k + 2) 12 [.d (.str t)] S = .ok (.d (.bl (nothB t))) S := by
  rw [ca (fn := ⟨1, 2, b_is_nothing_ahead, .all⟩) rfl rfl rfl, ← fin_ret]
  congr 1
  show exec P0 (c (k + 1)) b_is_nothing_ahead [some (.d (.str t)), none] S = _
  unfold b_is_nothing_ahead
  have b1 := behind_blanks (k := k) (S := S) (t := t) (e := 0) hl
  rw [List.drop_zero, Nat.zero_add] at b1
  have hb := bl_le t
  have z0 : ev P0 (c (k + 1)) (.int 0) [some (.d (.str t)), none] S = .ok (.d (.int ((0 : Nat) : Int))) S := v_int
  rw [x_nx (x_asg (v_call (v_cons (v_var (i := 0) (x := .str t) rfl) (v_one z0)) b1))]
  show exec P0 (c (k + 1)) _ [some (.d (.str t)), some (.d (.int (bl t : Nat)))] S = _
  have b2 := behind_run (k := k) (S := S) (t := t) (z := LT ++ DG) (e := bl t) (m := 8) LD_c hl
  have hr := run_le isA 8 (t.drop (bl t))
  have hlen : (t.drop (bl t)).length = t.length - bl t := List.length_drop ..
  have e2 : ev P0 (c (k + 1)) (.call 9 (.cons (.var 0) (.cons (.var 1) (.cons (.bin .add (.glob 1) (.glob 2)) (.cons (.glob 4) .nil))))) [some (.d (.str t)), some (.d (.int (bl t : Nat)))] S = _ := v_call (v_cons (v_var (i := 0) (x := .str t) rfl) (v_cons (v_vi (i := 1) (x := ((bl t : Nat) : Int)) rfl) (v_cons v_ld (v_one g4)))) b2
  have e3 := v_eqs (v_cutE (i := 0) (j := 1) (t := t) (b := bl t) rfl rfl e2 (by omega) (by omega) (by omega)) g3
  rw [Nat.add_sub_cancel_left] at e3
  exact x_ret (x_retv e3)
theorem v_dln {P : Prg} {cal : Cal} {r : Ev} {S S1 : Hs} {d : Ex} {n : Nat} {kvs : List (Ky × D)} (h : ev P cal d r S = .ok (.loc n) S1) (hS : S1[n]? = some (.dct kvs)) : ev P cal (.dln d) r S = .ok (.d (.int kvs.length)) S1 := by
  simp only [ev, h, R.bind, hS]
theorem v_dits {P : Prg} {cal : Cal} {r : Ev} {S S1 : Hs} {d : Ex} {n : Nat} {kvs : List (Ky × D)} (h : ev P cal d r S = .ok (.loc n) S1) (hS : S1[n]? = some (.dct kvs)) : ev P cal (.dits d) r S = .ok (.d (.lst (kvs.map fun p => .tup [kyD p.1, p.2]))) S1 := by
  simp only [ev, h, R.bind, hS]
def chkE : List (Cs × Nat) → List Ent → Except Nat (List (Cs × Nat))
  | seen, [] => .ok seen
  | seen, (w, kp, d, np) :: es => if (seen.any fun p => decide (p.1 = w)) = true ∨ seen.length = 60 then .error kp else if 1000000 < val d then .error np else chkE (seen ++ [(w, val d)]) es
def kvD (ps : List (Cs × Nat)) : List (Ky × D) := ps.map fun p => (.s p.1, .int p.2)
def prD (p : Cs × Nat) : D := .tup [.str p.1, .int p.2]
theorem kget_any (w : Cs) : ∀ ps : List (Cs × Nat), (kget (.s w) (kvD ps)).isSome = ps.any fun p => decide (p.1 = w)
  | [] => rfl
  | p :: ps => by
    have ih := kget_any w ps
    simp only [kvD, List.map_cons, kget, List.any_cons] at ih ⊢
    by_cases h : p.1 = w
    · rw [if_pos (by rw [h]), decide_eq_true h]; rfl
    · rw [if_neg (by intro e; cases e; exact h rfl), decide_eq_false h, Bool.false_or, ← ih]
theorem any_no {w : Cs} {ps : List (Cs × Nat)} (h : (ps.any fun p => decide (p.1 = w)) = false) : ∀ p ∈ kvD ps, p.1 ≠ Ky.s w := by
  intro p hp e
  obtain ⟨q, hq, rfl⟩ := List.mem_map.mp hp
  have := List.any_eq_false.mp h q hq
  simp only [decide_eq_true_eq] at this
  cases e
  exact this rfl
def da (S : Hs) (L : List (Ky × D)) : Hs := S ++ [.dct L]
theorem da_get {L : List (Ky × D)} : (da S L)[S.length]? = some (.dct L) := by simp [da]
theorem da_set {L L' : List (Ky × D)} : (da S L).set S.length (.dct L') = da S L' := by simp [da, List.set_append]
theorem da_take {L : List (Ky × D)} : (da S L).take S.length = S := by simp [da]
def Pe (t : Cs) (n : Nat) (x1 x3 x4 x5 x6 : Option Vl) : Ev := [some (.d (.str t)), x1, some (.loc n), x3, x4, x5, x6]
def pt : Tg := .tp (.cons (.nm 3) (.cons (.nm 4) (.cons (.nm 5) (.cons (.nm 6) (.cons (.nm 1) .nil)))))
def pb : St := (.seq (.ite (.or (.din false (.var 3) (.var 2)) (.one (.cmp .eq (.dln (.var 2)) (.glob 5)))) (.seq (.rse 0 (.cons (.var 4) .nil)) .skip) .skip) (.seq (.ite (.cmp .gt (.var 5) (.glob 6)) (.seq (.rse 0 (.cons (.var 6) .nil)) .skip) .skip) (.seq (.setd 2 (.var 3) (.var 5)) .skip)))
theorem pairs_loop {cal : Cal} {t : Cs} : ∀ (es : List Ent) (seen : List (Cs × Nat)) (x1 x3 x4 x5 x6 : Option Vl), seen.length ≤ 60 → (∀ e ∈ es, e.2.1 ≤ 1000 ∧ e.2.2.2 ≤ 1000) →
    match chkE seen es with
    | .error z => ∃ r' L, forL pt (fun r S => exec P0 cal pb r S) (es.map entD) (Pe t S.length x1 x3 x4 x5 x6) (da S (kvD seen)) = .exc 0 [.int z] r' (da S L)
    | .ok ps => ∃ y1 y3 y4 y5 y6, forL pt (fun r S => exec P0 cal pb r S) (es.map entD) (Pe t S.length x1 x3 x4 x5 x6) (da S (kvD seen)) = .nx (Pe t S.length y1 y3 y4 y5 y6) (da S (kvD ps))
  | [], seen, x1, x3, x4, x5, x6, hs, hb => ⟨x1, x3, x4, x5, x6, rfl⟩
  | (w, kp, d, np) :: es, seen, x1, x3, x4, x5, x6, hs, hb => by
    have hbe := hb _ (List.mem_cons_self ..)
    dsimp only at hbe
    have h64 : (2 : Nat) ^ 64 = 18446744073709551616 := by decide
    have hasg : asgD pt (entD (w, kp, d, np)) (Pe t S.length x1 x3 x4 x5 x6) = some (Pe t S.length (some (.d (.int ((np + d.length : Nat) : Int)))) (some (.d (.str w))) (some (.d (.int kp))) (some (.d (.int (val d)))) (some (.d (.int np)))) := rfl
    generalize hr : Pe t S.length (some (.d (.int ((np + d.length : Nat) : Int)))) (some (.d (.str w))) (some (.d (.int kp))) (some (.d (.int (val d)))) (some (.d (.int np))) = r at hasg
    have r2 : r[2]? = some (some (.loc S.length)) := by rw [← hr]; rfl
    have r3 : r[3]? = some (some (.d (.str w))) := by rw [← hr]; rfl
    have r4 : r[4]? = some (some (.d (.int kp))) := by rw [← hr]; rfl
    have r5 : r[5]? = some (some (.d (.int (val d)))) := by rw [← hr]; rfl
    have r6 : r[6]? = some (some (.d (.int np))) := by rw [← hr]; rfl
    have e1 : ev P0 cal (.din false (.var 3) (.var 2)) r (da S (kvD seen)) = .ok (.d (.bl (seen.any fun p => decide (p.1 = w)))) (da S (kvD seen)) := by
      rw [ev, v_var (x := .str w) r3]
      simp only [R.bind, D.wk]
      rw [v_loc r2]
      simp only [rdK, da_get, keyD, Option.map_some, R.opt, kget_any]
      rfl
    have e2 : ev P0 cal (.cmp .eq (.dln (.var 2)) (.glob 5)) r (da S (kvD seen)) = .ok (.d (.bl (decide (seen.length = 60)))) (da S (kvD seen)) := by
      have q : ev P0 cal (.dln (.var 2)) r (da S (kvD seen)) = .ok (.d (.int ((seen.length : Nat) : Int))) (da S (kvD seen)) := by
        rw [v_dln (v_loc r2) da_get]
        simp only [kvD, List.length_map]
      have q60 : ev P0 cal (.glob 5) r (da S (kvD seen)) = .ok (.d (.int ((60 : Nat) : Int))) (da S (kvD seen)) := g5
      exact v_eqn q q60
    have e3 := v_or e1 fun _ => v_1 e2
    simp only [List.map_cons, forL, hasg]
    unfold chkE
    by_cases hc : (seen.any fun p => decide (p.1 = w)) = true ∨ seen.length = 60
    · rw [if_pos hc]
      have hor : ((seen.any fun p => decide (p.1 = w)) || decide (seen.length = 60)) = true := by
        rw [Bool.or_eq_true, decide_eq_true_eq]; exact hc
      rw [hor] at e3
      refine ⟨r, kvD seen, ?_⟩
      have : exec P0 cal pb r (da S (kvD seen)) = .exc 0 [.int kp] r (da S (kvD seen)) := by
        unfold pb
        refine x_exc ?_
        rw [x_if e3, if_pos rfl]
        exact x_exc (x_rse (v_vi r4) (strD_nat (by omega)))
      rw [this]
    · rw [if_neg hc]
      have hno : (seen.any fun p => decide (p.1 = w)) = false := by
        cases h : (seen.any fun p => decide (p.1 = w)) with
        | true => exact absurd (.inl h) hc
        | false => rfl
      have hn60 : seen.length ≠ 60 := fun h => hc (.inr h)
      rw [hno, decide_eq_false hn60] at e3
      have e4 : ev P0 cal (.cmp .gt (.var 5) (.glob 6)) r (da S (kvD seen)) = .ok (.d (.bl (decide ((1000000 : Int) < val d)))) (da S (kvD seen)) := by
        rw [ev, v_vi r5]
        simp only [R.bind]
        rw [g6]
        simp only [rdV, cmpD, Option.map_some, R.opt]
      by_cases hv : 1000000 < val d
      · rw [if_pos hv]
        rw [decide_eq_true (by omega)] at e4
        refine ⟨r, kvD seen, ?_⟩
        have : exec P0 cal pb r (da S (kvD seen)) = .exc 0 [.int np] r (da S (kvD seen)) := by
          unfold pb
          rw [x_nx (x_go e3)]
          refine x_exc ?_
          rw [x_if e4, if_pos rfl]
          exact x_exc (x_rse (v_vi r6) (strD_nat (by omega)))
        rw [this]
      · rw [if_neg hv]
        rw [decide_eq_false (by omega)] at e4
        have hkv : kput (.s w) (.int (val d)) (kvD seen) = kvD (seen ++ [(w, val d)]) := by
          rw [kput_new (any_no hno)]
          simp [kvD]
        have : exec P0 cal pb r (da S (kvD seen)) = .nx r (da S (kvD (seen ++ [(w, val d)]))) := by
          unfold pb
          rw [x_nx (x_go e3), x_nx (x_go e4)]
          have s1 : exec P0 cal (.setd 2 (.var 3) (.var 5)) r (da S (kvD seen)) = .nx r (da S (kvD (seen ++ [(w, val d)]))) := by
            simp only [exec]
            rw [v_vi r5]
            simp only [R.st, r2]
            rw [v_var (x := .str w) r3]
            simp only [D.wk, da_get, keyD]
            rw [if_pos (by simp only [kvD, List.length_map]; have : big = 1000000 := rfl; omega), da_set, hkv]
          rw [x_nx s1]
          simp only [exec]
        rw [this]
        dsimp only
        rw [← hr]
        exact pairs_loop es (seen ++ [(w, val d)]) _ _ _ _ _ (by simp only [List.length_append, List.length_cons, List.length_nil]; omega) fun e he => hb e (List.mem_cons_of_mem _ he)
def parse (t : Cs) : Except Nat (List (Cs × Nat)) :=
  if nothB t then (if bl t + 7 + bl (t.drop (bl t + 7)) < t.length then .error (bl t + 7 + bl (t.drop (bl t + 7))) else .ok [])
  else match entsR 1000 t 0 with
    | .error z => .error z
    | .ok es => chkE [] es
theorem nothB_len {t : Cs} (h : nothB t = true) : bl t + 7 ≤ t.length := by
  unfold nothB at h
  have h := congrArg List.length (of_decide_eq_true h)
  rw [List.length_take, List.length_drop] at h
  have : NOTH.length = 7 := rfl
  have := bl_le t
  omega
theorem entsP_bound : ∀ (ps : List Cs) (o m : Nat), (o + (ps.map fun p => p.length + 1).sum ≤ m) → ∀ e ∈ entsP o ps, e.2.1 ≤ m ∧ e.2.2.2 ≤ m
  | [], o, m, h, e, he => by cases he
  | p :: ps, o, m, h, e, he => by
    simp only [List.map_cons, List.sum_cons] at h
    rcases List.mem_cons.mp he with rfl | he
    · unfold entOf
      have := bl_le p
      split
      · dsimp only; omega
      · dsimp only; omega
    · exact entsP_bound ps (o + p.length + 1) m (by omega) e he
theorem split_sum : ∀ t : Cs, ((splitC 44 t).map fun p => p.length + 1).sum = t.length + 1
  | [] => rfl
  | x :: xs => by
    have ih := split_sum xs
    by_cases h : x = 44
    · subst h
      rw [split_sep]
      simp only [List.map_cons, List.sum_cons, ih, List.length_nil, List.length_cons]
      omega
    · simp only [splitC, if_neg h]
      cases e : splitC 44 xs with
      | nil => exact absurd e (split_ne xs)
      | cons s ss =>
        rw [e] at ih
        simp only [List.map_cons, List.sum_cons, List.length_cons] at ih ⊢
        omega
theorem pairs_in {t : Cs} (hl : t.length ≤ 500) : c (k + 4) 13 [.d (.str t)] S = match parse t with
    | .error z => .exc 0 [.int z] S
    | .ok ps => .ok (.d (.lst (ps.map prD))) S := by
  rw [ca (fn := ⟨1, 7, b_pairs_in, .all⟩) rfl rfl rfl]
  show fin S.length (exec P0 (c (k + 3)) b_pairs_in [some (.d (.str t)), none, none, none, none, none, none] S) = _
  unfold b_pairs_in parse
  have h64 : (2 : Nat) ^ 64 = 18446744073709551616 := by decide
  have hb := bl_le t
  have cN : ∀ {r : Ev}, r[0]? = some (some (.d (.str t))) → ev P0 (c (k + 3)) (.call 12 (.cons (.var 0) .nil)) r S = .ok (.d (.bl (nothB t))) S := fun h => v_call (v_one (v_var h)) (is_nothing (k := k + 1) hl)
  have a0 : ev P0 (c (k + 3)) (.var 0) [some (.d (.str t)), none, none, none, none, none, none] S = .ok (.d (.str t)) S := v_var (i := 0) (x := .str t) rfl
  cases hN : nothB t with
  | true =>
    have hN7 := nothB_len hN
    rw [if_pos rfl]
    have cN' := cN (r := [some (.d (.str t)), none, none, none, none, none, none]) rfl
    rw [hN] at cN'
    have b1 := behind_blanks (k := k + 2) (S := S) (t := t) (e := 0) hl
    rw [List.drop_zero, Nat.zero_add] at b1
    have b2 := behind_blanks (k := k + 2) (S := S) (t := t) (e := bl t + 7) hl
    have hb2 := bl_le (t.drop (bl t + 7))
    rw [List.length_drop] at hb2
    have z0 : ev P0 (c (k + 3)) (.int 0) [some (.d (.str t)), none, none, none, none, none, none] S = .ok (.d (.int ((0 : Nat) : Int))) S := v_int
    have e1 : ev P0 (c (k + 3)) (.bin .add (.call 7 (.cons (.var 0) (.cons (.int 0) .nil))) (.bi .len (.cons (.glob 3) .nil))) [some (.d (.str t)), none, none, none, none, none, none] S = .ok (.d (.int ((bl t + 7 : Nat) : Int))) S := v_addS (v_call (v_cons a0 (v_one z0)) b1) (v_bi1 (f := .len) g3 rfl)
    have e2 := v_call (v_cons a0 (v_one e1)) b2
    generalize hz : bl t + 7 + bl (t.drop (bl t + 7)) = z at e2
    have e3 : ev P0 (c (k + 3)) (.cmp .lt (.var 1) (.bi .len (.cons (.var 0) .nil))) [some (.d (.str t)), some (.d (.int (z : Nat))), none, none, none, none, none] S = .ok (.d (.bl (decide ((z : Int) < t.length)))) S := v_lt (v_vi rfl) (v_len rfl (by omega))
    by_cases hzl : z < t.length
    · rw [if_pos hzl]
      rw [decide_eq_true (by omega)] at e3
      have hx : exec P0 (c (k + 3)) (.ite (.call 12 (.cons (.var 0) .nil)) (.seq (.asg 1 (.call 7 (.cons (.var 0) (.cons (.bin .add (.call 7 (.cons (.var 0) (.cons (.int 0) .nil))) (.bi .len (.cons (.glob 3) .nil))) .nil)))) (.seq (.ite (.cmp .lt (.var 1) (.bi .len (.cons (.var 0) .nil))) (.seq (.rse 0 (.cons (.var 1) .nil)) .skip) .skip) (.seq (.ret (.lst .nil)) .skip))) .skip) [some (.d (.str t)), none, none, none, none, none, none] S = .exc 0 [.int z] [some (.d (.str t)), some (.d (.int (z : Nat))), none, none, none, none, none] S := by
        rw [x_if cN', if_pos rfl, x_nx (x_asg e2)]
        show exec P0 (c (k + 3)) _ [some (.d (.str t)), some (.d (.int (z : Nat))), none, none, none, none, none] S = _
        refine x_exc ?_
        rw [x_if e3, if_pos rfl]
        exact x_exc (x_rse (v_vi rfl) (strD_nat (by omega)))
      exact (congrArg (fin S.length) (x_exc hx)).trans (fin_exc ..)
    · rw [if_neg hzl]
      rw [decide_eq_false (by omega)] at e3
      have e4 : ev P0 (c (k + 3)) (.lst .nil) [some (.d (.str t)), some (.d (.int (z : Nat))), none, none, none, none, none] S = .ok (.d (.lst [])) S := v_lstS (vs := []) v_nil (by decide)
      have hx : exec P0 (c (k + 3)) (.ite (.call 12 (.cons (.var 0) .nil)) (.seq (.asg 1 (.call 7 (.cons (.var 0) (.cons (.bin .add (.call 7 (.cons (.var 0) (.cons (.int 0) .nil))) (.bi .len (.cons (.glob 3) .nil))) .nil)))) (.seq (.ite (.cmp .lt (.var 1) (.bi .len (.cons (.var 0) .nil))) (.seq (.rse 0 (.cons (.var 1) .nil)) .skip) .skip) (.seq (.ret (.lst .nil)) .skip))) .skip) [some (.d (.str t)), none, none, none, none, none, none] S = .ret (.d (.lst [])) S := by
        rw [x_if cN', if_pos rfl, x_nx (x_asg e2)]
        show exec P0 (c (k + 3)) _ [some (.d (.str t)), some (.d (.int (z : Nat))), none, none, none, none, none] S = _
        rw [x_nx (x_go e3)]
        exact x_ret (x_retv e4)
      exact (congrArg (fin S.length) (x_ret hx)).trans (fin_ret ..)
  | false =>
    rw [if_neg (by decide)]
    have cN' := cN (r := [some (.d (.str t)), none, none, none, none, none, none]) rfl
    rw [hN] at cN'
    rw [x_nx (x_go cN')]
    have en : ev P0 (c (k + 3)) .newd [some (.d (.str t)), none, none, none, none, none, none] S = .ok (.loc S.length) (da S (kvD [])) := by simp only [ev]; rfl
    rw [x_nx (x_asg en)]
    show fin S.length (exec P0 (c (k + 3)) (.seq (.loop pt (.one (.call 11 (.cons (.var 0) .nil))) pb) (.seq (.ret (.dits (.var 2))) .skip)) (Pe t S.length none none none none none) (da S (kvD []))) = _
    have ei := entries_in (k := k) (S := da S (kvD [])) hl
    have ec : ev P0 (c (k + 3)) (.call 11 (.cons (.var 0) .nil)) (Pe t S.length none none none none none) (da S (kvD [])) = _ := v_call (v_one (v_var (i := 0) (x := .str t) rfl)) ei
    have hsays := ents_says 1000 t 0 (by omega)
    cases hp : entsR 1000 t 0 with
    | error z =>
      rw [hp] at ec
      dsimp only at ec ⊢
      have : exec P0 (c (k + 3)) (.loop pt (.one (.call 11 (.cons (.var 0) .nil))) pb) (Pe t S.length none none none none none) (da S (kvD [])) = .exc 0 [.int z] (Pe t S.length none none none none none) (da S (kvD [])) := by
        simp only [exec, evi, ec, R.bind, R.st]
      rw [x_exc this]
      simp only [fin, da_take]
    | ok es =>
      rw [hp] at ec hsays
      dsimp only at ec hsays ⊢
      have hes := hsays.2
      have hbd : ∀ e ∈ es, e.2.1 ≤ 1000 ∧ e.2.2.2 ≤ 1000 := fun e he => by
        rw [hes] at he
        exact entsP_bound _ 0 1000 (by rw [split_sum]; omega) e he
      have eit : evi P0 (c (k + 3)) (.one (.call 11 (.cons (.var 0) .nil))) (Pe t S.length none none none none none) (da S (kvD [])) = .ok (es.map entD) (da S (kvD [])) := by
        simp only [evi, ec, R.bind]
      have lp := pairs_loop (S := S) (cal := c (k + 3)) (t := t) es [] none none none none none (Nat.zero_le _) hbd
      have el := x_loop (t := pt) (b := pb) eit
      cases hk : chkE [] es with
      | error z =>
        rw [hk] at lp
        obtain ⟨r', L, lp⟩ := lp
        rw [lp] at el
        rw [x_exc el]
        simp only [fin, da_take]
      | ok ps =>
        rw [hk] at lp
        obtain ⟨y1, y3, y4, y5, y6, lp⟩ := lp
        rw [lp] at el
        rw [x_nx el]
        have ed := v_dits (P := P0) (cal := c (k + 3)) (d := .var 2) (v_loc (r := Pe t S.length y1 y3 y4 y5 y6) (S := da S (kvD ps)) (i := 2) (n := S.length) rfl) da_get
        rw [x_ret (x_retv ed)]
        simp only [fin, da_take, kvD, List.map_map]
        rfl
end K03
end
section
set_option maxRecDepth 100000
set_option maxHeartbeats 1000000
set_option exponentiation.threshold 2000
namespace K03
open Iv Pw
variable {k : Nat} {S : Hs}
/-! ### the law's words, kinds, numbers, entries -/
def unS (x : D) : Cs := match x with
  | .str s => s
  | _ => []
theorem filt_str (f : Cs → Bool) : ∀ l : List Cs, ((l.map D.str).filter fun x => f (unS x)).map (fun x => x) = (l.filter f).map .str
  | [] => rfl
  | q :: l => by
    have ih := filt_str f l
    simp only [List.map_id'] at ih ⊢
    simp only [List.map_cons, List.filter_cons]
    show (if f q = true then _ else _) = _
    by_cases h : f q = true
    · rw [if_pos h, if_pos h, List.map_cons, ih]
    · rw [if_neg h, if_neg h, ih]
theorem split_len : ∀ (c : Nat) (t : Cs), (splitC c t).length ≤ t.length + 1
  | c, [] => by simp [splitC]
  | c, x :: xs => by
    have := split_len c xs
    unfold splitC
    split
    · simp; omega
    · split
      · simp
      · rename_i p ps hp; rw [hp] at this; simp at this ⊢; omega
theorem v_split {P : Prg} {cal : Cal} {r : Ev} {e : Ex} {t : Cs} {x : Nat} (h : ev P cal e r S = .ok (.d (.str t)) S) (hl : t.length ≤ 1000) (hx : x < 256) : ev P cal (.meth .split e (.cons (.str [x]) .nil)) r S = .ok (.d (.lst ((splitC x t).map .str))) S := by
  rw [ev, h]
  simp only [R.bind, evs, ev, rdVs, rdV, Option.map_some, Option.bind_some, mtD]
  rw [if_pos ⟨hl, hx⟩]
  rfl
theorem v_lt2 {P : Prg} {cal : Cal} {r : Ev} {a b : Ex} {o : COp} {x y : D} {q : Bool} (ha : ev P cal a r S = .ok (.d x) S) (hb : ev P cal b r S = .ok (.d y) S) (hx : ∀ c fs, x ≠ .ins c fs) (h : cmpD o x y = some q) : ev P cal (.cmp o a b) r S = .ok (.d (.bl q)) S := by
  cases x with
  | ins c fs => exact absurd rfl (hx c fs)
  | _ => simp only [ev, ha, hb, R.bind, rdV, h, Option.map_some, R.opt]
theorem law_words {t : Cs} (hl : t.length ≤ 500) : c (k + 1) 18 [.d (.str t)] S = .ok (.d (.lst ((wds t).map .str))) S := by
  rw [ca (fn := ⟨1, 2, b__law_words, .all⟩) rfl rfl rfl, ← fin_ret]
  congr 1
  show exec P0 (c k) b__law_words [some (.d (.str t)), none] S = _
  unfold b__law_words
  refine x_ret (x_retv ?_)
  have es := v_split (S := S) (P := P0) (cal := c k) (r := [some (.d (.str t)), none]) (e := .var 0) (t := t) (x := 32) (v_var (i := 0) (x := .str t) rfl) (by omega) (by decide)
  have q := e_comp (P := P0) (cal := c k) (own := [1]) (t := .nm 1) (it := .one (.meth .split (.var 0) (.cons (.str [32]) .nil))) (c := .one (.cmp .ne (.var 1) (.str []))) (e := .var 1) (r := [some (.d (.str t)), none]) (S := S) (S1 := S) (xs := (splitC 32 t).map .str) (fun x => ne (unS x)) (fun x => x) (by rw [evi, es]; simp only [R.bind]) (by rw [List.length_map]; have := split_len 32 t; omega) (fun x hx => by
    obtain ⟨w, hw, rfl⟩ := List.mem_map.mp hx
    refine ⟨_, rfl, ?_, fun _ => by simp [wipes, ev, D.wk]⟩
    refine v_1 ?_
    refine v_lt2 (x := .str w) (v_var (x := .str w) (by simp [wipes])) v_str (fun _ _ h => by cases h) ?_
    show some (!(w == ([] : Cs))) = some (!decide (w = []))
    cases w <;> rfl)
  rw [filt_str, ← wds_split] at q
  exact q
theorem v_chain0 {P : Prg} {cal : Cal} {r : Ev} {a b d : Ex} {o o' : COp} {x y : D} (ha : ev P cal a r S = .ok (.d x) S) (hb : ev P cal b r S = .ok (.d y) S) (h1 : cmpD o x y = some false) : ev P cal (.chain o o' a b d) r S = .ok (.d (.bl false)) S := by
  simp only [ev, ha, hb, R.bind, h1]
theorem v_between {P : Prg} {cal : Cal} {r : Ev} {i : Nat} {w : Cs} {m : Nat} (h : r[i]? = some (some (.d (.str w)))) (hl : w.length ≤ 1000) : ev P cal (.chain .le .le (.int 1) (.bi .len (.cons (.var i) .nil)) (.int m)) r S = .ok (.d (.bl (decide (1 ≤ w.length) && decide (w.length ≤ m)))) S := by
  have e := v_len (S := S) (P := P) (cal := cal) h (by omega)
  by_cases h1 : 1 ≤ w.length
  · rw [decide_eq_true h1, Bool.true_and]
    refine v_chain v_int e v_int ?_ ?_
    · simp only [cmpD]; rw [decide_eq_true (by omega)]
    · simp only [cmpD]; congr 1
      by_cases h2 : w.length ≤ m
      · rw [decide_eq_true h2, decide_eq_true (by omega)]
      · rw [decide_eq_false h2, decide_eq_false (by omega)]
  · rw [decide_eq_false h1, Bool.false_and]
    refine v_chain0 v_int e ?_
    simp only [cmpD]; rw [decide_eq_false (by omega)]
theorem v_filter {cal : Cal} {r : Ev} {i j : Nat} {w z : Cs} {p : Nat → Bool} (hp : ∀ x, z.contains x = p x) (h : r[i]? = some (some (.d (.str w)))) (hij : i ≠ j) (hj : j < r.length) (hl : w.length ≤ 1000) : ev P0 cal (.comp [j] (.nm j) (.one (.var i)) (.one (.cmp .notin (.var j) (.str z))) (.var j)) r S = .ok (.d (.lst ((w.filter fun x => !p x).map fun x => .str [x]))) S := by
  have q := e_comp (P := P0) (cal := cal) (own := [j]) (t := .nm j) (it := .one (.var i)) (c := .one (.cmp .notin (.var j) (.str z))) (e := .var j) (r := r) (S := S) (S1 := S) (xs := w.map fun x => .str [x]) (fun x => match unS x with
      | [a] => !p a
      | _ => false) (fun x => x) (by rw [evi, v_var h]; simp only [R.bind, D.wk]) (by rw [List.length_map]; omega) (fun x hx => by
    obtain ⟨a, ha, rfl⟩ := List.mem_map.mp hx
    have hjv : (((wipes r [j]).set j (some (.d (.str [a])))))[j]? = some (some (.d (.str [a]))) := by simp [wipes, hj]
    refine ⟨(wipes r [j]).set j (some (.d (.str [a]))), rfl, ?_, fun _ => v_var (x := .str [a]) hjv⟩
    refine v_1 ?_
    have := v_notin1 (S := S) (P := P0) (cal := cal) (r := (wipes r [j]).set j (some (.d (.str [a])))) (a := .var j) (b := .str z) (x := a) (z := z) (v_var (x := .str [a]) hjv) v_str
    rw [hp] at this
    exact this)
  rw [q]
  congr 3
  have : ∀ l : Cs, (((l.map fun x => D.str [x]).filter fun x => match unS x with
      | [a] => !p a
      | _ => false).map fun x => x) = (l.filter fun x => !p x).map fun x => .str [x] := by
    intro l
    induction l with
    | nil => rfl
    | cons a l ih =>
      simp only [List.map_id'] at ih ⊢
      simp only [List.map_cons, List.filter_cons]
      show (if (!p a) = true then _ else _) = _
      by_cases h : (!p a) = true
      · rw [if_pos h, if_pos h, List.map_cons, ih]
      · rw [if_neg h, if_neg h, ih]
  exact this w
theorem plains_one : ∀ (l : Cs) (n : Nat), D.plains (l.map fun x => .str [x]) n = true
  | [], n => rfl
  | x :: l, n => by
    have := plains_one l n
    show (D.plain (.str [x]) n && D.plains (l.map fun x => .str [x]) n) = true
    rw [this]; rfl
theorem v_empty {P : Prg} {cal : Cal} {r : Ev} {e : Ex} {l : Cs} (h : ev P cal e r S = .ok (.d (.lst (l.map fun x => .str [x]))) S) : ev P cal (.cmp .eq e (.lst .nil)) r S = .ok (.d (.bl l.isEmpty)) S := by
  have e4 : ev P cal (.lst .nil) r S = .ok (.d (.lst [])) S := v_lstS (vs := []) v_nil (by decide)
  refine v_lt2 h e4 (fun _ _ h => by cases h) ?_
  have q : D.plain (.lst (l.map fun x => .str [x])) deep = true := plains_one l 29
  simp only [cmpD, q]
  cases l <;> rfl
theorem filt_all {p : Nat → Bool} : ∀ w : Cs, (w.filter fun x => !p x).isEmpty = w.all p
  | [] => rfl
  | x :: w => by
    have ih := filt_all (p := p) w
    simp only [List.filter_cons, List.all_cons]
    cases p x with
    | true => simpa using ih
    | false => rfl
theorem v_head {P : Prg} {cal : Cal} {r : Ev} {i x : Nat} {w : Cs} (h : r[i]? = some (some (.d (.str (x :: w))))) (hl : w.length ≤ 1000) : ev P cal (.ix (.var i) (.int 0)) r S = .ok (.d (.str [x])) S := by
  rw [ev, v_var h]
  simp only [R.bind, D.wk, ev, rdV, ixD]
  rw [if_pos (by have : big = 1000000 := rfl; simp only [List.length_cons]; omega)]
  simp [plc, R.opt]
theorem law_is_kind {w : Cs} (hl : w.length ≤ 500) : c (k + 1) 19 [.d (.str w)] S = .ok (.d (.bl (kindB w))) S := by
  rw [ca (fn := ⟨1, 3, b__law_is_kind, .all⟩) rfl rfl rfl, ← fin_ret]
  congr 1
  show exec P0 (c k) b__law_is_kind [some (.d (.str w)), none, none] S = _
  unfold b__law_is_kind
  have f := v_filter (S := S) (cal := c k) (r := [some (.d (.str w)), none, none]) (i := 0) (j := 2) (w := w) (z := LT ++ DG) LD_c rfl (by decide) (by simp) (by omega)
  refine (x_nx (x_asg f)).trans ?_
  refine x_ret (x_retv ?_)
  show ev P0 (c k) _ [some (.d (.str w)), some (.d (.lst ((w.filter fun x => !isA x).map fun x => .str [x]))), none] S = _
  have e1 := v_between (S := S) (P := P0) (cal := c k) (r := [some (.d (.str w)), some (.d (.lst ((w.filter fun x => !isA x).map fun x => .str [x]))), none]) (i := 0) (w := w) (m := 8) rfl (by omega)
  have e2 := v_empty (S := S) (P := P0) (cal := c k) (v_var (r := [some (.d (.str w)), some (.d (.lst ((w.filter fun x => !isA x).map fun x => .str [x]))), none]) (i := 1) (x := .lst ((w.filter fun x => !isA x).map fun x => .str [x])) rfl)
  rw [filt_all] at e2
  cases w with
  | nil => exact v_and (q := false) e1 fun h => by cases h
  | cons x xs =>
    have e3 := v_notin1 (S := S) (P := P0) (cal := c k) (v_head (r := [some (.d (.str (x :: xs))), some (.d (.lst (((x :: xs).filter fun x => !isA x).map fun x => .str [x]))), none]) (i := 0) (x := x) (w := xs) rfl (by simp at hl; omega)) (v_str (s := DG))
    have := v_and e1 fun _ => v_and e2 fun _ => v_1 e3
    refine this.trans ?_
    congr 3
    rw [DG_c]
    simp only [kindB, List.all_cons, List.length_cons]
    have h1 : decide (1 ≤ xs.length + 1) = true := decide_eq_true (by omega)
    have h2 : decide (xs.length + 1 ≤ 8) = decide (xs.length ≤ 7) := by congr 1; exact propext ⟨fun _ => by omega, fun _ => by omega⟩
    rw [h1, h2, isA]
    have h3 : isL x = true → isD x = false := fun h => by simp [isL, isD] at h ⊢; omega
    cases hL : isL x <;> cases hD : isD x <;> cases xs.all isA <;> cases decide (xs.length ≤ 7) <;> first | rfl | (rw [h3 hL] at hD; cases hD)
theorem law_is_number {w : Cs} (hl : w.length ≤ 500) : c (k + 1) 20 [.d (.str w)] S = .ok (.d (.bl (numB w))) S := by
  rw [ca (fn := ⟨1, 2, b__law_is_number, .all⟩) rfl rfl rfl, ← fin_ret]
  congr 1
  show exec P0 (c k) b__law_is_number [some (.d (.str w)), none] S = _
  unfold b__law_is_number
  have f := v_filter (S := S) (cal := c k) (r := [some (.d (.str w)), none]) (i := 0) (j := 1) (w := w) (z := DG) DG_c rfl (by decide) (by simp) (by omega)
  refine x_ret (x_retv ?_)
  have e1 := v_between (S := S) (P := P0) (cal := c k) (r := [some (.d (.str w)), none]) (i := 0) (w := w) (m := 7) rfl (by omega)
  have e2 := v_empty f
  rw [filt_all] at e2
  cases w with
  | nil => exact v_and (q := false) e1 fun h => by cases h
  | cons x xs =>
    have e3 : ev P0 (c k) (.cmp .ne (.ix (.var 0) (.int 0)) (.str [48])) [some (.d (.str (x :: xs))), none] S = .ok (.d (.bl (!decide (x = 48)))) S := by
      refine v_lt2 (v_head (r := [some (.d (.str (x :: xs))), none]) (i := 0) (x := x) (w := xs) rfl (by simp at hl; omega)) (v_str (s := [48])) (fun _ _ h => by cases h) ?_
      by_cases h : x = 48 <;> simp [cmpD, D.plain, D.eqv, h]
    have := v_and e1 fun _ => v_and e2 fun _ => v_1 e3
    refine this.trans ?_
    congr 3
    simp only [numB, List.all_cons, List.length_cons]
    have h1 : decide (1 ≤ xs.length + 1) = true := decide_eq_true (by omega)
    have h2 : decide (xs.length + 1 ≤ 7) = decide (xs.length ≤ 6) := by congr 1; exact propext ⟨fun _ => by omega, fun _ => by omega⟩
    have h3 : (isD x && !decide (x = 48)) = isN x := by
      unfold isD isN
      by_cases h : x = 48
      · subst h; rfl
      · rw [decide_eq_false h]
        by_cases h2 : 48 ≤ x ∧ x ≤ 57
        · rw [decide_eq_true h2, decide_eq_true (by omega)]; rfl
        · rw [decide_eq_false h2, decide_eq_false (by omega)]; rfl
    rw [h1, h2, ← h3]
    cases isD x <;> cases decide (x = 48) <;> cases xs.all isD <;> cases decide (xs.length ≤ 6) <;> rfl
end K03
end
section
set_option maxRecDepth 100000
set_option maxHeartbeats 1000000
set_option exponentiation.threshold 2000
namespace K03
open Iv Pw
variable {k : Nat} {S : Hs}
theorem split_mem {x : Nat} : ∀ (t : Cs) (q : Cs), q ∈ splitC x t → q.length ≤ t.length
  | [], q, h => by simp [splitC] at h; simp [h]
  | a :: cs, q, h => by
    unfold splitC at h
    split at h
    · rcases List.mem_cons.mp h with rfl | h
      · simp
      · have := split_mem cs q h; simp; omega
    · split at h
      · simp at h; subst h; simp
      · rename_i p ps hp
        rcases List.mem_cons.mp h with rfl | h
        · have := split_mem cs p (by rw [hp]; exact List.mem_cons_self ..); simp; omega
        · have := split_mem cs q (by rw [hp]; exact List.mem_cons_of_mem _ h); simp; omega
theorem wds_le {t w : Cs} (h : w ∈ wds t) : w.length ≤ t.length := by
  rw [wds_split] at h
  exact split_mem t w (List.mem_filter.mp h).1
theorem wds_count (t : Cs) : (wds t).length ≤ t.length + 1 := by
  rw [wds_split]
  exact Nat.le_trans (List.length_filter_le ..) (split_len 32 t)
theorem v_ixw {P : Prg} {cal : Cal} {r : Ev} {i n : Nat} {ws : List Cs} {w : Cs} (h : r[i]? = some (some (.d (.lst (ws.map .str))))) (hw : ws[n]? = some w) : ev P cal (.ix (.var i) (.int n)) r S = .ok (.d (.str w)) S := by
  have hn := (List.getElem?_eq_some_iff.mp hw).1
  refine v_ixd h ?_
  have hp : plc (n : Int) (ws.map D.str).length = some n := by
    unfold plc
    rw [if_pos (Int.natCast_nonneg _), if_pos (by rw [List.length_map]; omega), Int.toNat_natCast]
  simp only [ixD, hp, Option.bind_some, List.getElem?_map, hw, Option.map_some]
theorem v_lenl {P : Prg} {cal : Cal} {r : Ev} {i : Nat} {ws : List Cs} (h : r[i]? = some (some (.d (.lst (ws.map .str))))) : ev P cal (.bi .len (.cons (.var i) .nil)) r S = .ok (.d (.int (ws.length : Nat))) S :=
  v_bi1 (v_var h) (by simp only [biD, D.wk, List.length_map])
theorem v_int' {P : Prg} {cal : Cal} {r : Ev} {n : Nat} : ev P cal (.int (n : Int)) r S = .ok (.d (.int (n : Nat))) S := v_int
theorem v_nen {P : Prg} {cal : Cal} {r : Ev} {a b : Ex} {x y : Nat} (ha : ev P cal a r S = .ok (.d (.int x)) S) (hb : ev P cal b r S = .ok (.d (.int y)) S) : ev P cal (.cmp .ne a b) r S = .ok (.d (.bl (!decide (x = y)))) S := by
  refine v_lt2 ha hb (fun _ _ h => by cases h) ?_
  by_cases h : x = y
  · subst h; simp [cmpD, D.plain, D.eqv]
  · have : ((x : Int) == (y : Int)) = false := beq_eq_false_iff_ne.mpr (by omega)
    simp [cmpD, D.plain, D.eqv, h, this]
theorem v_gtn {P : Prg} {cal : Cal} {r : Ev} {a b : Ex} {x y : Nat} (ha : ev P cal a r S = .ok (.d (.int x)) S) (hb : ev P cal b r S = .ok (.d (.int y)) S) : ev P cal (.cmp .gt a b) r S = .ok (.d (.bl (decide (y < x)))) S := by
  refine v_lt2 ha hb (fun _ _ h => by cases h) ?_
  simp only [cmpD]
  congr 1
  by_cases h : y < x
  · rw [decide_eq_true h, decide_eq_true (by omega)]
  · rw [decide_eq_false h, decide_eq_false (by omega)]
theorem x_retb {cal : Cal} {r : Ev} {q : Bool} {rest : St} : exec P0 cal (.seq (.ret (.bl q)) rest) r S = .ret (.d (.bl q)) S := x_ret (x_retv (by simp only [ev]))
theorem law_is_entry {t : Cs} (hl : t.length ≤ 500) : c (k + 2) 21 [.d (.str t)] S = .ok (.d (.bl (entB t))) S := by
  rw [ca (fn := ⟨1, 2, b__law_is_entry, .all⟩) rfl rfl rfl, ← fin_ret]
  congr 1
  show exec P0 (c (k + 1)) b__law_is_entry [some (.d (.str t)), none] S = _
  unfold b__law_is_entry
  rw [x_nx (x_asg (v_call (v_one (v_var (i := 0) (x := .str t) rfl)) (law_words hl)))]
  show exec P0 (c (k + 1)) _ [some (.d (.str t)), some (.d (.lst ((wds t).map .str)))] S = _
  have hmem : ∀ w ∈ wds t, w.length ≤ 500 := fun w hw => Nat.le_trans (wds_le hw) hl
  unfold entB
  generalize wds t = ws at hmem
  have e1 : ev P0 (c (k + 1)) (.cmp .ne (.bi .len (.cons (.var 1) .nil)) (.int 2)) [some (.d (.str t)), some (.d (.lst (ws.map .str)))] S = .ok (.d (.bl (!decide (ws.length = 2)))) S := v_nen (v_lenl rfl) (v_int' (n := 2))
  by_cases h2 : ws.length = 2
  · rw [decide_eq_true h2] at e1
    match ws, h2 with
    | [w, d], _ =>
      have a0 : ev P0 (c (k + 1)) (.ix (.var 1) (.int 0)) [some (.d (.str t)), some (.d (.lst (([w, d] : List Cs).map .str)))] S = .ok (.d (.str w)) S := v_ixw (n := 0) (ws := [w, d]) rfl rfl
      have a1 : ev P0 (c (k + 1)) (.ix (.var 1) (.int 1)) [some (.d (.str t)), some (.d (.lst (([w, d] : List Cs).map .str)))] S = .ok (.d (.str d)) S := v_ixw (n := 1) (ws := [w, d]) rfl rfl
      have e2 := v_not (v_call (v_one a0) (law_is_kind (k := k) (S := S) (hmem w (by simp))))
      have e3 : ev P0 (c (k + 1)) (.cmp .eq (.ix (.var 1) (.int 0)) (.str [110, 111, 116, 104, 105, 110, 103])) [some (.d (.str t)), some (.d (.lst (([w, d] : List Cs).map .str)))] S = .ok (.d (.bl (decide (w = NOTH)))) S := v_eqs a0 (v_str (s := NOTH))
      have e4 := v_or e1 fun _ => v_or e2 fun _ => v_1 e3
      simp only [Bool.not_true, Bool.false_or] at e4
      simp only [entW]
      cases hq : (!kindB w || decide (w = NOTH)) with
      | true =>
        rw [hq] at e4
        refine (x_ret (v := .d (.bl false)) (S1 := S) ?_).trans ?_
        · rw [x_if e4, if_pos rfl]; exact x_retb
        · have : (kindB w && !decide (w = NOTH)) = false := (show ∀ a b : Bool, (!a || b) = true → (a && !b) = false by decide) _ _ hq
          rw [this]; rfl
      | false =>
        rw [hq] at e4
        rw [x_nx (x_go e4)]
        have : (kindB w && !decide (w = NOTH)) = true := (show ∀ a b : Bool, (!a || b) = false → (a && !b) = true by decide) _ _ hq
        rw [this, Bool.true_and]
        exact x_ret (x_retv (v_call (v_one a1) (law_is_number (hmem d (by simp)))))
  · rw [decide_eq_false h2] at e1
    have e4 := v_or (b := (.or (.not (.call 19 (.cons (.ix (.var 1) (.int 0)) .nil))) (.one (.cmp .eq (.ix (.var 1) (.int 0)) (.str [110, 111, 116, 104, 105, 110, 103]))))) e1 (q := false) fun h => by cases h
    refine (x_ret (v := .d (.bl false)) (S1 := S) ?_).trans ?_
    · rw [x_if e4, if_pos (by rfl)]; exact x_retb
    · match ws, h2 with
      | [], _ => rfl
      | [a], _ => rfl
      | [a, b], h => exact absurd rfl h
      | a :: b :: d :: r, _ => rfl
end K03
end
section
set_option maxRecDepth 100000
set_option maxHeartbeats 1000000
set_option exponentiation.threshold 2000
namespace K03
open Iv Pw
variable {k : Nat} {S : Hs}
theorem cut_last (l : List D) : cutL l none (some (-1)) = l.dropLast := by
  simp only [cutL, highD, lowD]
  rw [if_neg (by decide), List.dropLast_eq_take]
  simp only [List.drop_zero]
  congr 1
  omega
theorem plains_str : ∀ (l : List Cs) (n : Nat), D.plains (l.map .str) n = true
  | [], n => rfl
  | q :: qs, n => by
    have := plains_str qs n
    show (D.plain (.str q) n && D.plains (qs.map .str) n) = true
    rw [this]
    rfl
theorem eqvs_str : ∀ (l m : List Cs), D.eqvs (l.map .str) (m.map .str) = decide (l = m)
  | [], [] => rfl
  | [], q :: m => rfl
  | q :: l, [] => rfl
  | q :: l, p :: m => by
    have ih := eqvs_str l m
    show (D.eqv (.str q) (.str p) && D.eqvs (l.map .str) (m.map .str)) = _
    rw [ih]
    show ((q == p) && decide (l = m)) = _
    by_cases h : q = p
    · subst h
      by_cases h2 : l = m
      · simp [h2]
      · simp [h2]
    · rw [beq_eq_false_iff_ne.mpr h, Bool.false_and, decide_eq_false (by intro e; cases e; exact h rfl)]
theorem v_eql {P : Prg} {cal : Cal} {r : Ev} {a b : Ex} {l m : List Cs} (ha : ev P cal a r S = .ok (.d (.lst (l.map .str))) S) (hb : ev P cal b r S = .ok (.d (.lst (m.map .str))) S) : ev P cal (.cmp .eq a b) r S = .ok (.d (.bl (decide (l = m)))) S := by
  refine v_lt2 ha hb (fun _ _ h => by cases h) ?_
  have q1 : D.plain (.lst (l.map .str)) deep = true := plains_str l 29
  have q2 : D.plain (.lst (m.map .str)) deep = true := plains_str m 29
  have q3 : D.eqv (.lst (l.map .str)) (.lst (m.map .str)) = decide (l = m) := eqvs_str l m
  simp only [cmpD, q1, q2, q3, Bool.and_self, if_true]
theorem v_nel {P : Prg} {cal : Cal} {r : Ev} {a b : Ex} {l m : List Cs} (ha : ev P cal a r S = .ok (.d (.lst (l.map .str))) S) (hb : ev P cal b r S = .ok (.d (.lst (m.map .str))) S) : ev P cal (.cmp .ne a b) r S = .ok (.d (.bl (!decide (l = m)))) S := by
  refine v_lt2 ha hb (fun _ _ h => by cases h) ?_
  have q1 : D.plain (.lst (l.map .str)) deep = true := plains_str l 29
  have q2 : D.plain (.lst (m.map .str)) deep = true := plains_str m 29
  have q3 : D.eqv (.lst (l.map .str)) (.lst (m.map .str)) = decide (l = m) := eqvs_str l m
  simp only [cmpD, q1, q2, q3, Bool.and_self, if_true]
theorem v_nol {P : Prg} {cal : Cal} {r : Ev} : ev P cal (.lst .nil) r S = .ok (.d (.lst (([] : List Cs).map .str))) S := v_lstS (vs := []) v_nil (by decide)
theorem v_lastp {P : Prg} {cal : Cal} {r : Ev} {i : Nat} {ps : List Cs} {p : Cs} (h : r[i]? = some (some (.d (.lst (ps.map .str))))) (hp : ps.getLast? = some p) : ev P cal (.ix (.var i) (.neg (.int 1))) r S = .ok (.d (.str p)) S := by
  have hne : ps ≠ [] := fun e => by rw [e] at hp; cases hp
  have hpos : 0 < ps.length := List.length_pos_iff.mpr hne
  have hx : ixD (.lst (ps.map .str)) (.int (-1)) = some (.str p) := by
    have : plc (-1) (ps.map D.str).length = some (ps.length - 1) := by
      unfold plc
      rw [if_neg (by decide), List.length_map, if_pos (by omega)]
      congr 1; omega
    simp only [ixD, this, Option.bind_some, List.getElem?_map]
    rw [← List.getLast?_eq_getElem?, hp]; rfl
  rw [ev, v_var h]
  simp only [R.bind, D.wk, ev, rdV, hx, Option.map_some, R.opt]
theorem v_lastc {P : Prg} {cal : Cal} {r : Ev} {a : Ex} {p : Cs} {x : Nat} (h : ev P cal a r S = .ok (.d (.str p)) S) (hp : p.getLast? = some x) (hl : p.length ≤ 1000) : ev P cal (.ix a (.neg (.int 1))) r S = .ok (.d (.str [x])) S := by
  have hne : p ≠ [] := fun e => by rw [e] at hp; cases hp
  have hpos : 0 < p.length := List.length_pos_iff.mpr hne
  have hx : ixD (.str p) (.int (-1)) = some (.str [x]) := by
    have : plc (-1) p.length = some (p.length - 1) := by
      unfold plc
      rw [if_neg (by decide), if_pos (by omega)]
      congr 1; omega
    simp only [ixD, this, Option.bind_some]
    rw [if_pos (by have : big = 1000000 := rfl; omega), ← List.getLast?_eq_getElem?, hp]; rfl
  rw [ev, h]
  simp only [R.bind, ev, rdV, hx, Option.map_some, R.opt]
theorem filt_emp {p : Cs → Bool} : ∀ l : List Cs, decide (l.filter (fun q => !p q) = []) = l.all p
  | [] => rfl
  | q :: l => by
    have ih := filt_emp (p := p) l
    simp only [List.filter_cons, List.all_cons]
    cases h : p q with
    | true => simpa using ih
    | false => rfl
def F (ps : List Cs) : List Cs := ps.dropLast.filter fun q => !entB q
theorem v_F {r : Ev} {ps : List Cs} (h1 : r[1]? = some (some (.d (.lst (ps.map .str))))) (h3 : 3 < r.length) (hl : ∀ p ∈ ps, p.length ≤ 500) (hc : ps.length ≤ 1000) : ev P0 (c (k + 3)) (.comp [3] (.nm 3) (.one (.sl (.var 1) .no (.one (.neg (.int 1))))) (.one (.not (.call 21 (.cons (.var 3) .nil)))) (.var 3)) r S = .ok (.d (.lst ((F ps).map .str))) S := by
  have e0 : ev P0 (c (k + 3)) (.sl (.var 1) .no (.one (.neg (.int 1)))) r S = .ok (.d (.lst (ps.dropLast.map .str))) S := by
    rw [ev, v_var h1]
    simp only [R.bind, D.wk, evo, ev, rdV, slD, cut_last, Option.map_some, R.opt, List.map_dropLast]
  have q := e_comp (P := P0) (cal := c (k + 3)) (own := [3]) (t := .nm 3) (it := .one (.sl (.var 1) .no (.one (.neg (.int 1))))) (c := .one (.not (.call 21 (.cons (.var 3) .nil)))) (e := .var 3) (r := r) (S := S) (S1 := S) (xs := ps.dropLast.map .str) (fun x => !entB (unS x)) (fun x => x) (by rw [evi, e0]; simp only [R.bind]) (by rw [List.length_map, List.length_dropLast]; omega) (fun x hx => by
    obtain ⟨w, hw, rfl⟩ := List.mem_map.mp hx
    have hjv : ((wipes r [3]).set 3 (some (.d (.str w))))[3]? = some (some (.d (.str w))) := by simp [wipes, h3]
    refine ⟨_, rfl, ?_, fun _ => v_var (x := .str w) hjv⟩
    refine v_1 (v_not (v_call (v_one (v_var (x := .str w) hjv)) (law_is_entry (k := k + 1) (hl w (List.dropLast_subset _ hw))))))
  rw [filt_str (fun q => !entB q)] at q
  exact q
theorem law_goes_on {t : Cs} (hl : t.length ≤ 500) : c (k + 4) 22 [.d (.str t)] S = .ok (.d (.bl (fb (.s0 true) t).isNone)) S := by
  rw [ca (fn := ⟨1, 4, b__law_goes_on, .all⟩) rfl rfl rfl, ← fin_ret]
  congr 1
  show exec P0 (c (k + 3)) b__law_goes_on [some (.d (.str t)), none, none, none] S = _
  rw [alive_parts]
  obtain ⟨p, hp⟩ : ∃ p, (splitC 44 t).getLast? = some p := by
    cases h : (splitC 44 t).getLast? with
    | none => exact absurd (List.getLast?_eq_none_iff.mp h) (split_ne t)
    | some q => exact ⟨q, rfl⟩
  have hgl : (splitC 44 t).getLast (split_ne t) = p := by
    rw [List.getLast?_eq_some_getLast (split_ne t)] at hp
    exact Option.some.inj hp
  rw [hgl]
  have hmem : ∀ q ∈ splitC 44 t, q.length ≤ 500 := fun q hq => Nat.le_trans (split_mem t q hq) hl
  have hpl : p.length ≤ 500 := hmem p (List.mem_of_getLast? hp)
  have hcnt := split_len 44 t
  have es := v_split (S := S) (P := P0) (cal := c (k + 3)) (r := [some (.d (.str t)), none, none, none]) (e := .var 0) (t := t) (x := 44) (v_var (i := 0) (x := .str t) rfl) (by omega) (by decide)
  have hF := filt_emp (p := entB) (splitC 44 t).dropLast
  have hFd : F (splitC 44 t) = (splitC 44 t).dropLast.filter fun q => !entB q := rfl
  rw [← hFd] at hF
  clear hgl hFd
  generalize splitC 44 t = ps at *
  unfold b__law_goes_on
  rw [x_nx (x_asg es)]
  show exec P0 (c (k + 3)) _ [some (.d (.str t)), some (.d (.lst (ps.map .str))), none, none] S = _
  rw [x_nx (x_asg (v_call (v_one (v_lastp (r := [some (.d (.str t)), some (.d (.lst (ps.map .str))), none, none]) (i := 1) rfl hp)) (law_words (k := k + 2) hpl)))]
  have hwl : ∀ w ∈ wds p, w.length ≤ 500 := fun w hw => Nat.le_trans (wds_le hw) hpl
  have hpe : wds p ≠ [] → p ≠ [] := fun h e => by subst e; exact h rfl
  generalize wds p = ws at *
  show exec P0 (c (k + 3)) _ [some (.d (.str t)), some (.d (.lst (ps.map .str))), some (.d (.lst (ws.map .str))), none] S = _
  generalize hr : ([some (.d (.str t)), some (.d (.lst (ps.map .str))), some (.d (.lst (ws.map .str))), none] : Ev) = r
  have r1 : r[1]? = some (some (.d (.lst (ps.map .str)))) := by rw [← hr]; rfl
  have r2 : r[2]? = some (some (.d (.lst (ws.map .str)))) := by rw [← hr]; rfl
  have r3 : 3 < r.length := by rw [← hr]; simp
  have f0 := v_F (S := S) (k := k) r1 r3 hmem (by omega)
  have a1 : ev P0 (c (k + 3)) (.cmp .eq (.bi .len (.cons (.var 1) .nil)) (.int 1)) r S = .ok (.d (.bl (decide (ps.length = 1)))) S := v_eqn (v_lenl r1) (v_int' (n := 1))
  have a2 : ev P0 (c (k + 3)) (.cmp .eq (.var 2) (.lst (.cons (.str [110, 111, 116, 104, 105, 110, 103]) .nil))) r S = .ok (.d (.bl (decide (ws = [NOTH])))) S := v_eql (v_var (x := .lst (ws.map .str)) r2) (v_lstS (vs := [.str NOTH]) (v_one v_str) (by decide))
  have a3 : ev P0 (c (k + 3)) (.cmp .eq (.var 2) (.lst .nil)) r S = .ok (.d (.bl (decide (ws = [])))) S := v_eql (v_var (x := .lst (ws.map .str)) r2) v_nol
  have a4 := v_or (v_and a1 fun _ => v_1 a2) fun _ => v_1 a3
  have b1 := v_eql f0 v_nol
  rw [hF] at b1
  have b2 := v_nel f0 v_nol
  rw [hF] at b2
  cases hA : (decide (ps.length = 1) && decide (ws = [NOTH]) || decide (ws = [])) with
  | true =>
    rw [hA] at a4
    refine (x_ret (v := .d (.bl (ps.dropLast.all entB))) (S1 := S) ?_).trans ?_
    · rw [x_if a4, if_pos rfl]
      exact x_ret (x_retv b1)
    · have : lastB (decide (ps.length = 1)) ws (trB p) = true := by
        cases ws with
        | nil => rfl
        | cons w rest =>
          have h2 : decide (w :: rest = []) = false := by simp
          rw [h2, Bool.or_false] at hA
          simp only [lastB, hA, Bool.true_or]
      rw [this, Bool.and_true]
  | false =>
    rw [hA] at a4
    rw [x_nx (x_go a4)]
    cases hws : ws with
    | nil => rw [hws] at hA; simp at hA
    | cons w rest =>
      have hw1 : (decide (ps.length = 1) && decide (ws = [NOTH])) = false := (Bool.or_eq_false_iff.mp hA).1
      rw [hws] at hw1
      have i0 : ev P0 (c (k + 3)) (.ix (.var 2) (.int 0)) r S = .ok (.d (.str w)) S := v_ixw (n := 0) r2 (by rw [hws]; rfl)
      have c1 := v_or b2 fun _ => v_1 (v_not (v_call (v_one i0) (law_is_kind (k := k + 2) (S := S) (hwl w (by rw [hws]; exact List.mem_cons_self ..)))))
      simp only [lastB, hw1, Bool.false_or]
      cases hB : (!(ps.dropLast.all entB) || !kindB w) with
      | true =>
        rw [hB] at c1
        refine (x_ret (v := .d (.bl false)) (S1 := S) ?_).trans ?_
        · rw [x_if c1, if_pos rfl]; exact x_retb
        · have : ∀ a b d : Bool, (!a || !b) = true → (a && (b && d)) = false := by decide
          rw [this _ _ _ hB]
      | false =>
        rw [hB] at c1
        rw [x_nx (x_go c1)]
        have hal : ps.dropLast.all entB = true := by
          have : ∀ a b : Bool, (!a || !b) = false → a = true := by decide
          exact this _ _ hB
        have hkd : kindB w = true := by
          have : ∀ a b : Bool, (!a || !b) = false → b = true := by decide
          exact this _ _ hB
        rw [hal, hkd, Bool.true_and, Bool.true_and]
        have d1 : ev P0 (c (k + 3)) (.cmp .eq (.ix (.var 2) (.int 0)) (.str [110, 111, 116, 104, 105, 110, 103])) r S = .ok (.d (.bl (decide (w = NOTH)))) S := v_eqs i0 (v_str (s := NOTH))
        have d2 : ev P0 (c (k + 3)) (.cmp .gt (.bi .len (.cons (.var 2) .nil)) (.int 1)) r S = .ok (.d (.bl (decide (1 < ws.length)))) S := v_gtn (v_lenl r2) (v_int' (n := 1))
        obtain ⟨x, hx⟩ : ∃ x, p.getLast? = some x := by
          have hpe' := hpe (by rw [hws]; simp)
          cases h : p.getLast? with
          | none => exact absurd (List.getLast?_eq_none_iff.mp h) hpe'
          | some x => exact ⟨x, rfl⟩
        have htr : trB p = decide (x = 32) := by unfold trB; rw [hx]
        have d3 : ev P0 (c (k + 3)) (.cmp .eq (.ix (.ix (.var 1) (.neg (.int 1))) (.neg (.int 1))) (.str [32])) r S = .ok (.d (.bl (trB p))) S := by
          have := v_eqs (P := P0) (cal := c (k + 3)) (S := S) (v_lastc (v_lastp r1 hp) hx (by omega)) (v_str (s := [32]))
          rw [htr]
          refine this.trans ?_
          congr 3
          by_cases h : x = 32 <;> simp [h]
        have d4 := v_and d1 fun _ => v_1 (v_or d2 fun _ => v_1 d3)
        have hlen : decide (1 < ws.length) = decide (rest ≠ []) := by
          rw [hws]
          cases rest with
          | nil => rfl
          | cons a b => simp
        rw [hlen] at d4
        cases hC : (decide (w = NOTH) && (decide (rest ≠ []) || trB p)) with
        | true =>
          rw [hC] at d4
          refine (x_ret (v := .d (.bl false)) (S1 := S) ?_).trans rfl
          rw [x_if d4, if_pos rfl]; exact x_retb
        | false =>
          rw [hC] at d4
          rw [x_nx (x_go d4)]
          simp only [Bool.not_false, Bool.true_and]
          have f1 : ev P0 (c (k + 3)) (.cmp .eq (.bi .len (.cons (.var 2) .nil)) (.int 1)) r S = .ok (.d (.bl (decide (ws.length = 1)))) S := v_eqn (v_lenl r2) (v_int' (n := 1))
          have f2 : ev P0 (c (k + 3)) (.cmp .eq (.bi .len (.cons (.var 2) .nil)) (.int 2)) r S = .ok (.d (.bl (decide (ws.length = 2)))) S := v_eqn (v_lenl r2) (v_int' (n := 2))
          refine x_ret (x_retv ?_)
          match rest, hws with
          | [], hws =>
            rw [hws] at f1
            exact v_or (q := false) f1 fun h => by cases h
          | [d], hws =>
            have i1 : ev P0 (c (k + 3)) (.ix (.var 2) (.int 1)) r S = .ok (.d (.str d)) S := v_ixw (n := 1) r2 (by rw [hws]; rfl)
            have f3 := v_call (v_one i1) (law_is_number (k := k + 2) (S := S) (hwl d (by rw [hws]; simp)))
            rw [hws] at f1 f2
            exact v_or f1 fun _ => v_1 (v_and f2 fun _ => v_1 f3)
          | a :: b :: l, hws =>
            rw [hws] at f1 f2
            have q1 : decide ((w :: a :: b :: l).length = 1) = false := decide_eq_false (by simp)
            have q2 : decide ((w :: a :: b :: l).length = 2) = false := decide_eq_false (by simp)
            rw [q1] at f1
            rw [q2] at f2
            exact v_or f1 fun _ => v_1 (v_and (q := false) f2 fun h => by cases h)
end K03
end
section
set_option maxRecDepth 100000
set_option maxHeartbeats 1000000
set_option exponentiation.threshold 2000
namespace K03
open Iv Pw
variable {k : Nat} {S : Hs}
theorem split_no : ∀ (t p : Cs), p ∈ splitC 44 t → ∀ c ∈ p, c ≠ 44
  | [], p, h, c, hc => by simp [splitC] at h; subst h; cases hc
  | x :: xs, p, h, c, hc => by
    unfold splitC at h
    split at h
    · rcases List.mem_cons.mp h with rfl | h
      · cases hc
      · exact split_no xs p h c hc
    · rename_i hx
      split at h
      · simp at h; subst h; simp at hc; subst hc; exact hx
      · rename_i q qs hq
        rcases List.mem_cons.mp h with rfl | h
        · rcases List.mem_cons.mp hc with rfl | hc
          · exact hx
          · exact split_no xs q (by rw [hq]; exact List.mem_cons_self ..) c hc
        · exact split_no xs p (by rw [hq]; exact List.mem_cons_of_mem _ h) c hc
theorem entW_form {ws : List Cs} (h : entW ws = true) : ∃ w d, ws = [w, d] ∧ kindB w = true ∧ w ≠ NOTH ∧ numB d = true := by
  match ws, h with
  | [w, d], h =>
    simp only [entW, Bool.and_eq_true, Bool.not_eq_true', decide_eq_false_iff_not] at h
    exact ⟨w, d, rfl, h.1.1, h.1.2, h.2⟩
theorem st_done {f : Bool} {W : List Cs} {q : Cs} (h : entW (push W q) = true) : ∃ st, stOf f W q = some st ∧ done st = true := by
  obtain ⟨w, d, e, h1, h2, h3⟩ := entW_form h
  have hc : (kindB w && !decide (w = NOTH) && numB d) = true := by rw [h1, h3, decide_eq_false h2]; rfl
  match W, q with
  | [], [] => simp [push] at e
  | [], x :: xs => simp [push] at e
  | [a], [] => simp [push] at e
  | [a], x :: xs =>
    simp [push] at e
    obtain ⟨rfl, rfl⟩ := e
    exact ⟨.n a (x :: xs), by simp only [stOf, hc, if_true], rfl⟩
  | [a, b], [] =>
    simp [push] at e
    obtain ⟨rfl, rfl⟩ := e
    exact ⟨.e a b, by simp only [stOf, hc, if_true], rfl⟩
  | [a, b], x :: xs => simp [push] at e
  | a :: b :: g :: r, [] => simp [push] at e
  | a :: b :: g :: r, x :: xs => simp [push] at e
theorem ent_run {f : Bool} {p : Cs} (h : entB p = true) (hc : ∀ c ∈ p, c ≠ 44) : ∃ st, runS (.s0 f) p = some st ∧ done st = true := by
  rw [run_part hc]
  exact st_done h
theorem part_form {p : Cs} (h : entB p = true) (hc : ∀ c ∈ p, c ≠ 44) : ∃ j0 w j d j1, p = mkPart j0 w j d j1 ∧ kindB w = true ∧ w ≠ NOTH ∧ 0 < j ∧ numB d = true := by
  obtain ⟨st, h1, h2⟩ := ent_run (f := false) h hc
  have no : ∀ z, ¬ says (.s0 false) p 0 z := fun z hz => by
    rcases hz with ⟨q1, _⟩ | ⟨_, _, st', q1, q2⟩
    · have := fb_none p (.s0 false)
      rw [q1, h1] at this
      cases this
    · rw [h1] at q1; cases q1
      rw [h2] at q2; cases q2
  have hs0 : runS (.s0 false) (List.replicate (bl p) 32) = some (.s0 false) := by
    rw [← take_bl]; exact run_bl (by simp [stp]) p
  have hb := bl_split p
  have he := ent_says (u := p.drop (bl p)) (pos := 0 + bl p) (bl_head p)
  cases hp : entP (p.drop (bl p)) (0 + bl p) with
  | error z =>
    rw [hp] at he
    dsimp only at he
    have : says (.s0 false) p 0 z := by
      rw [hb]
      exact says_append hs0 (by rw [List.length_replicate]; exact he)
    exact absurd this (no z)
  | ok o =>
    obtain ⟨⟨w, kp, d, np⟩, q, r⟩ := o
    rw [hp] at he
    dsimp only at he
    obtain ⟨pre, e1, e2, e3, e4, e5, e6, e7, ⟨j, e8, e9, e10⟩, e11⟩ := he
    have hr := bl_split r
    cases hR : r.drop (bl r) with
    | nil =>
      rw [hR, List.append_nil] at hr
      refine ⟨bl p, w, j, d, bl r, ?_, e5, e6, e9, e7⟩
      have : p = List.replicate (bl p) 32 ++ (pre ++ List.replicate (bl r) 32) := by
        rw [← hr, ← e1, ← hb]
      refine this.trans ?_
      rw [e8]
      unfold mkPart
      simp only [List.append_assoc]
    | cons c cs =>
      exfalso
      have hc32 := bl_head r c cs hR
      obtain ⟨st1, t1, t2, t3⟩ := run_tail (w := w) (d := d) (bl r)
      have hst := t3 c hc32 (by
        by_cases hj1 : 0 < bl r
        · exact .inl hj1
        · have e0 : bl r = 0 := by omega
          rw [e0, List.drop_zero] at hR
          exact .inr (e11 c cs hR))
      have hp2 : p = (List.replicate (bl p) 32 ++ (pre ++ List.replicate (bl r) 32)) ++ c :: cs := by
        have : p = List.replicate (bl p) 32 ++ (pre ++ (List.replicate (bl r) 32 ++ c :: cs)) := by
          rw [← hR, ← hr, ← e1, ← hb]
        refine this.trans ?_
        simp only [List.append_assoc]
      have hc44 : c ≠ 44 := hc c (by rw [hp2]; simp)
      rw [if_neg hc44] at hst
      have hrun : runS (.s0 false) (List.replicate (bl p) 32 ++ (pre ++ List.replicate (bl r) 32)) = some st1 := by
        rw [runS_append, hs0]
        simp only [Option.bind_some]
        rw [runS_append, e3]
        exact t1
      have : says (.s0 false) p 0 (0 + (List.replicate (bl p) 32 ++ (pre ++ List.replicate (bl r) 32)).length) := by
        rw [hp2]
        refine says_append hrun ?_
        rw [← hp2]
        exact says_bad hst
      exact no _ this
/-! ### due: the first loop -/
def spotD (z : Nat) : D := .tup [.str [115, 112, 111, 116], .int z]
def D1 (t : Cs) (x : Option Vl) : Ev := [some (.d (.str t)), x, none, none, none, none, none, none]
def l1b : St := (.seq (.ite (.not (.call 22 (.cons (.sl (.var 0) .no (.one (.bin .add (.var 1) (.int 1)))) .nil))) (.seq (.ret (.tup (.cons (.str [115, 112, 111, 116]) (.cons (.var 1) .nil)))) .skip) .skip) .skip)
theorem cut_hi (t : Cs) (n : Nat) : cutL t none (some (n : Int)) = t.take n := by
  simp only [cutL, lowD, highD, if_pos (Int.natCast_nonneg n), Int.toNat_natCast, List.drop_zero]
  rcases Nat.le_total n t.length with h | h
  · rw [Nat.min_eq_left h]
  · rw [Nat.min_eq_right h, List.take_of_length_le h, List.take_length]
theorem v_spot {cal : Cal} {r : Ev} {e : Ex} {i : Nat} (h : ev P0 cal e r S = .ok (.d (.int i)) S) : ev P0 cal (.tup (.cons (.str [115, 112, 111, 116]) (.cons e .nil))) r S = .ok (.d (spotD i)) S := by
  rw [ev, v_cons v_str (v_one h)]
  simp only [R.bind, dsOf, Option.map_some, List.length_cons, List.length_nil]
  rw [if_pos (by decide)]; rfl
theorem loop1 {t : Cs} (hl : t.length ≤ 500) : ∀ (m j : Nat) (x : Option Vl), j + m = t.length → (∀ z, fb (.s0 true) t = some z → j ≤ z) →
    ∃ x', forL (.nm 1) (fun r S => exec P0 (c (k + 4)) l1b r S) (upTo m j) (D1 t x) S = match fb (.s0 true) t with
      | some z => .ret (.d (spotD z)) S
      | none => .nx (D1 t x') S
  | 0, j, x, hj, hz => by
    refine ⟨x, ?_⟩
    cases q : fb (.s0 true) t with
    | none => rfl
    | some z =>
      have := hz z q
      have := fb_lt t (.s0 true) z q
      omega
  | m + 1, j, x, hj, hz => by
    have hasg : asgD (.nm 1) (.int j) (D1 t x) = some (D1 t (some (.d (.int j)))) := rfl
    have hb : t.length ≤ big := by have : big = 1000000 := rfl; omega
    have e0 : ev P0 (c (k + 4)) (.sl (.var 0) .no (.one (.bin .add (.var 1) (.int 1)))) (D1 t (some (.d (.int j)))) S = .ok (.d (.str (t.take (j + 1)))) S := by
      rw [ev, v_var (i := 0) (x := .str t) rfl]
      simp only [R.bind, D.wk, evo]
      rw [v_b (o := .add) (v_vi (i := 1) (x := (j : Int)) rfl) (v_int (i := 1)) rfl]
      simp only [R.bind, rdV, slD, if_pos hb]
      have : ((j : Int) + 1) = ((j + 1 : Nat) : Int) := rfl
      rw [this, cut_hi]; rfl
    have e1 := v_not (v_call (v_one e0) (law_goes_on (k := k) (S := S) (t := t.take (j + 1)) (by rw [List.length_take]; omega)))
    rw [fb_take] at e1
    simp only [upTo, forL, hasg]
    have go : (∀ z, fb (.s0 true) t = some z → j + 1 ≤ z) → exec P0 (c (k + 4)) l1b (D1 t (some (.d (.int j)))) S = .nx (D1 t (some (.d (.int j)))) S := fun hz' => by
      unfold l1b
      have e1' : ev P0 (c (k + 4)) (.not (.call 22 (.cons (.sl (.var 0) .no (.one (.bin .add (.var 1) (.int 1)))) .nil))) (D1 t (some (.d (.int j)))) S = .ok (.d (.bl false)) S := by
        rw [e1]
        cases q : fb (.s0 true) t with
        | none => rfl
        | some z => have := hz' z q; dsimp only; rw [if_neg (by omega)]; rfl
      rw [x_nx (r1 := D1 t (some (.d (.int j)))) (S1 := S) (by rw [x_if e1']; simp [exec])]
      simp only [exec]
    by_cases hq : fb (.s0 true) t = some j
    · refine ⟨x, ?_⟩
      rw [hq]
      have : exec P0 (c (k + 4)) l1b (D1 t (some (.d (.int j)))) S = .ret (.d (spotD j)) S := by
        unfold l1b
        rw [hq] at e1
        dsimp only at e1
        rw [if_pos (by omega)] at e1
        refine x_ret ?_
        rw [x_if e1, if_pos (by rfl)]
        exact x_ret (x_retv (v_spot (v_vi (x := (j : Int)) rfl)))
      rw [this]
    · have hz' : ∀ z, fb (.s0 true) t = some z → j + 1 ≤ z := fun z q => by
        have := hz z q
        have : z ≠ j := fun e => hq (e ▸ q)
        omega
      rw [go hz']
      exact loop1 hl m (j + 1) _ (by omega) hz'
end K03
end
section
set_option maxRecDepth 100000
set_option maxHeartbeats 1000000
set_option exponentiation.threshold 2000
namespace K03
open Iv Pw
variable {k : Nat} {S : Hs}
theorem dropW_bl : ∀ p : Cs, p.dropWhile (fun x => x == 32) = p.drop (bl p)
  | [] => rfl
  | x :: xs => by
    by_cases h : x = 32
    · subst h; simp [bl, dropW_bl xs]
    · have : (x == 32) = false := beq_eq_false_iff_ne.mpr h
      simp [bl, h, this]
theorem v_lstrip {P : Prg} {cal : Cal} {r : Ev} {i : Nat} {p : Cs} (h : r[i]? = some (some (.d (.str p)))) (hl : p.length ≤ 1000) : ev P cal (.bi .len (.cons (.meth .lstrip (.var i) (.cons (.str [32]) .nil)) .nil)) r S = .ok (.d (.int ((p.length - bl p : Nat) : Int))) S := by
  have e : ev P cal (.meth .lstrip (.var i) (.cons (.str [32]) .nil)) r S = .ok (.d (.str (p.drop (bl p)))) S := by
    rw [ev, v_var h]
    simp only [R.bind, D.wk, evs, ev, rdVs, rdV, Option.map_some, Option.bind_some, mtD]
    rw [if_pos (by have : big = 1000000 := rfl; omega), dropW_bl]
    rfl
  refine v_bi1 e ?_
  simp only [biD, List.length_drop]
  rw [if_pos (by have : big = 1000000 := rfl; omega)]
theorem v_rstrip {P : Prg} {cal : Cal} {r : Ev} {i : Nat} {p : Cs} (h : r[i]? = some (some (.d (.str p)))) (hl : p.length ≤ 1000) : ev P cal (.bi .len (.cons (.meth .rstrip (.var i) (.cons (.str [32]) .nil)) .nil)) r S = .ok (.d (.int ((p.length - bl p.reverse : Nat) : Int))) S := by
  have e : ev P cal (.meth .rstrip (.var i) (.cons (.str [32]) .nil)) r S = .ok (.d (.str (p.reverse.drop (bl p.reverse)).reverse)) S := by
    rw [ev, v_var h]
    simp only [R.bind, D.wk, evs, ev, rdVs, rdV, Option.map_some, Option.bind_some, mtD]
    rw [if_pos (by have : big = 1000000 := rfl; omega), dropW_bl]
    rfl
  refine v_bi1 e ?_
  simp only [biD, List.length_reverse, List.length_drop]
  rw [if_pos (by have : big = 1000000 := rfl; omega)]
def chkL : List (Cs × Nat) → List Ent → Except Nat (List (Cs × Nat))
  | seen, [] => .ok seen
  | seen, (w, kp, d, np) :: es => if (seen.any fun p => decide (p.1 = w)) = true then .error kp else if 1000000 < val d then .error np else chkL (seen ++ [(w, val d)]) es
theorem chk_EL : ∀ (es : List Ent) (seen : List (Cs × Nat)), seen.length + es.length ≤ 60 → chkE seen es = chkL seen es
  | [], seen, _ => rfl
  | (w, kp, d, np) :: es, seen, h => by
    simp only [List.length_cons] at h
    have ih := chk_EL es (seen ++ [(w, val d)]) (by simp only [List.length_append, List.length_cons, List.length_nil]; omega)
    simp only [chkE, chkL, ih]
    by_cases hc : (seen.any fun p => decide (p.1 = w)) = true
    · rw [if_pos hc, if_pos (.inl hc)]
    · rw [if_neg hc, if_neg (fun q => q.elim hc (by omega))]
def l2b : St := (.seq (.asgT (.tp (.cons (.nm 6) (.cons (.nm 7) .nil))) (.call 18 (.cons (.var 5) .nil))) (.seq (.ite (.din false (.var 6) (.var 3)) (.seq (.ret (.tup (.cons (.str [115, 112, 111, 116]) (.cons (.bin .sub (.bin .add (.var 4) (.bi .len (.cons (.var 5) .nil))) (.bi .len (.cons (.meth .lstrip (.var 5) (.cons (.str [32]) .nil)) .nil))) .nil)))) .skip) .skip) (.seq (.ite (.cmp .gt (.bi .int (.cons (.var 7) .nil)) (.int 1000000)) (.seq (.ret (.tup (.cons (.str [115, 112, 111, 116]) (.cons (.bin .sub (.bin .add (.var 4) (.bi .len (.cons (.meth .rstrip (.var 5) (.cons (.str [32]) .nil)) .nil))) (.bi .len (.cons (.var 7) .nil))) .nil)))) .skip) .skip) (.seq (.setd 3 (.var 6) (.bi .int (.cons (.var 7) .nil))) (.seq (.asg 4 (.bin .add (.bin .add (.var 4) (.bi .len (.cons (.var 5) .nil))) (.int 1))) .skip)))))
def D2 (t : Cs) (x1 : Option Vl) (ps : List Cs) (n b : Nat) (x5 x6 x7 : Option Vl) : Ev := [some (.d (.str t)), x1, some (.d (.lst (ps.map .str))), some (.loc n), some (.d (.int b)), x5, x6, x7]
theorem loop2 {t : Cs} {x1 : Option Vl} {ps : List Cs} : ∀ (rest : List Cs) (b : Nat) (seen : List (Cs × Nat)) (x5 x6 x7 : Option Vl), (∀ p ∈ rest, p.length ≤ 500 ∧ entB p = true ∧ ∀ c ∈ p, c ≠ 44) → seen.length + rest.length ≤ 1000 →
    match chkL seen (entsP b rest) with
    | .error z => ∃ L, forL (.nm 5) (fun r S => exec P0 (c (k + 4)) l2b r S) (rest.map .str) (D2 t x1 ps S.length b x5 x6 x7) (da S (kvD seen)) = .ret (.d (spotD z)) (da S L)
    | .ok qs => ∃ b' y5 y6 y7, forL (.nm 5) (fun r S => exec P0 (c (k + 4)) l2b r S) (rest.map .str) (D2 t x1 ps S.length b x5 x6 x7) (da S (kvD seen)) = .nx (D2 t x1 ps S.length b' y5 y6 y7) (da S (kvD qs))
  | [], b, seen, x5, x6, x7, h, hn => ⟨b, x5, x6, x7, rfl⟩
  | p :: rest, b, seen, x5, x6, x7, h, hn => by
    obtain ⟨hpl, hpe, hpc⟩ := h p (List.mem_cons_self ..)
    obtain ⟨j0, w, j, d, j1, hp, hw, hwN, hj, hd'⟩ := part_form hpe hpc
    have hwd : wds p = [w, d] := by rw [hp]; exact part_wds hw hj hd'
    have heo : entOf b p = (w, b + bl p, d, b + (p.length - bl p.reverse) - d.length) := by unfold entOf; rw [hwd]
    have hdl := num_len hd'
    have hdr : d.length ≤ p.length - bl p.reverse := by
      rw [hp, part_br hd', part_len]; omega
    have hbl := bl_le p
    simp only [List.length_cons] at hn
    have hasg : asgD (.nm 5) (.str p) (D2 t x1 ps S.length b x5 x6 x7) = some (D2 t x1 ps S.length b (some (.d (.str p))) x6 x7) := rfl
    have s1 : exec P0 (c (k + 4)) (.asgT (.tp (.cons (.nm 6) (.cons (.nm 7) .nil))) (.call 18 (.cons (.var 5) .nil))) (D2 t x1 ps S.length b (some (.d (.str p))) x6 x7) (da S (kvD seen)) = .nx (D2 t x1 ps S.length b (some (.d (.str p))) (some (.d (.str w))) (some (.d (.str d)))) (da S (kvD seen)) := by
      have e := v_call (v_one (v_var (S := da S (kvD seen)) (P := P0) (cal := c (k + 4)) (r := D2 t x1 ps S.length b (some (.d (.str p))) x6 x7) (i := 5) (x := .str p) rfl)) (law_words (k := k + 3) hpl)
      rw [hwd] at e
      simp only [exec, e, R.st]
      rfl
    generalize hr : D2 t x1 ps S.length b (some (.d (.str p))) (some (.d (.str w))) (some (.d (.str d))) = r at s1
    have r3 : r[3]? = some (some (.loc S.length)) := by rw [← hr]; rfl
    have r4 : r[4]? = some (some (.d (.int b))) := by rw [← hr]; rfl
    have r5 : r[5]? = some (some (.d (.str p))) := by rw [← hr]; rfl
    have r6 : r[6]? = some (some (.d (.str w))) := by rw [← hr]; rfl
    have r7 : r[7]? = some (some (.d (.str d))) := by rw [← hr]; rfl
    have e1 : ev P0 (c (k + 4)) (.din false (.var 6) (.var 3)) r (da S (kvD seen)) = .ok (.d (.bl (seen.any fun p => decide (p.1 = w)))) (da S (kvD seen)) := by
      rw [ev, v_var (x := .str w) r6]
      simp only [R.bind, D.wk]
      rw [v_loc r3]
      simp only [rdK, da_get, keyD, Option.map_some, R.opt, kget_any]
      rfl
    have ein : ∀ {L : Hs}, ev P0 (c (k + 4)) (.bi .int (.cons (.var 7) .nil)) r L = .ok (.d (.int (val d : Nat))) L := fun {L} => v_bi1 (v_var (x := .str d) r7) (int_num hd' (by omega))
    simp only [List.map_cons, forL, hasg, entsP, heo]
    unfold chkL
    by_cases hc : (seen.any fun p => decide (p.1 = w)) = true
    · rw [if_pos hc]
      rw [hc] at e1
      refine ⟨kvD seen, ?_⟩
      have : exec P0 (c (k + 4)) l2b (D2 t x1 ps S.length b (some (.d (.str p))) x6 x7) (da S (kvD seen)) = .ret (.d (spotD (b + bl p))) (da S (kvD seen)) := by
        unfold l2b
        rw [x_nx s1]
        refine x_ret ?_
        rw [x_if e1, if_pos rfl]
        refine x_ret (x_retv (v_spot ?_))
        have a := v_b (o := .sub) (v_addS (v_vi (S := da S (kvD seen)) (P := P0) (cal := c (k + 4)) r4) (v_len r5 (by omega))) (v_lstrip r5 (by omega)) rfl
        rw [a]
        congr 3
        omega
      rw [this]
    · rw [if_neg hc]
      have hno : (seen.any fun p => decide (p.1 = w)) = false := Bool.not_eq_true _ |>.mp hc
      rw [hno] at e1
      have e4 : ev P0 (c (k + 4)) (.cmp .gt (.bi .int (.cons (.var 7) .nil)) (.int 1000000)) r (da S (kvD seen)) = .ok (.d (.bl (decide (1000000 < val d)))) (da S (kvD seen)) := v_gtn ein (v_int' (n := 1000000))
      by_cases hv : 1000000 < val d
      · rw [if_pos hv]
        rw [decide_eq_true hv] at e4
        refine ⟨kvD seen, ?_⟩
        have : exec P0 (c (k + 4)) l2b (D2 t x1 ps S.length b (some (.d (.str p))) x6 x7) (da S (kvD seen)) = .ret (.d (spotD (b + (p.length - bl p.reverse) - d.length))) (da S (kvD seen)) := by
          unfold l2b
          rw [x_nx s1, x_nx (x_go e1)]
          refine x_ret ?_
          rw [x_if e4, if_pos rfl]
          refine x_ret (x_retv (v_spot ?_))
          have a := v_b (o := .sub) (v_addS (v_vi (S := da S (kvD seen)) (P := P0) (cal := c (k + 4)) r4) (v_rstrip r5 (by omega))) (v_len r7 (by omega)) rfl
          rw [a]
          congr 3
          omega
        rw [this]
      · rw [if_neg hv]
        rw [decide_eq_false hv] at e4
        have hkv : kput (.s w) (.int (val d)) (kvD seen) = kvD (seen ++ [(w, val d)]) := by
          rw [kput_new (any_no hno)]
          simp [kvD]
        have : exec P0 (c (k + 4)) l2b (D2 t x1 ps S.length b (some (.d (.str p))) x6 x7) (da S (kvD seen)) = .nx (D2 t x1 ps S.length (b + p.length + 1) (some (.d (.str p))) (some (.d (.str w))) (some (.d (.str d)))) (da S (kvD (seen ++ [(w, val d)]))) := by
          unfold l2b
          rw [x_nx s1, x_nx (x_go e1), x_nx (x_go e4)]
          have s2 : exec P0 (c (k + 4)) (.setd 3 (.var 6) (.bi .int (.cons (.var 7) .nil))) r (da S (kvD seen)) = .nx r (da S (kvD (seen ++ [(w, val d)]))) := by
            simp only [exec]
            rw [ein]
            simp only [R.st, r3]
            rw [v_var (x := .str w) r6]
            simp only [D.wk, da_get, keyD]
            rw [if_pos (by simp only [kvD, List.length_map]; have : big = 1000000 := rfl; omega), da_set, hkv]
          rw [x_nx s2]
          have e5 := v_addS (v_addS (v_vi (S := da S (kvD (seen ++ [(w, val d)]))) (P := P0) (cal := c (k + 4)) r4) (v_len r5 (by omega))) (v_int (i := 1))
          rw [x_nx (x_asg e5), ← hr]
          simp only [exec]
          rfl
        rw [this]
        dsimp only
        exact loop2 rest (b + p.length + 1) (seen ++ [(w, val d)]) _ _ _ (fun q hq => h q (List.mem_cons_of_mem _ hq)) (by simp only [List.length_append, List.length_cons, List.length_nil]; omega)
end K03
end
section
set_option maxRecDepth 100000
set_option maxHeartbeats 1000000
set_option exponentiation.threshold 2000
namespace K03
open Iv Pw
variable {k : Nat} {S : Hs}
def srtP (ps : List (Cs × Nat)) : List (Cs × Nat) := ps.mergeSort fun a b => !ltCs b.1 a.1
theorem srt_mem {ps : List (Cs × Nat)} {p : Cs × Nat} : p ∈ srtP ps ↔ p ∈ ps := List.mem_mergeSort
theorem lt_irr : ∀ a : Cs, ltCs a a = false
  | [] => rfl
  | x :: xs => by simp [ltCs, lt_irr xs]
theorem sort_keys (ps : List (Cs × Nat)) : sortD (ps.map fun p => .str p.1) = (srtP ps).map fun p => .str p.1 := by
  unfold sortD srtP
  rw [List.map_mergeSort]
  intro a _ b _
  rfl
theorem key_inj : ∀ {ps : List (Cs × Nat)}, (ps.map (·.1)).Nodup → ∀ a ∈ ps, ∀ b ∈ ps, a.1 = b.1 → a = b
  | [], _, a, ha, _, _, _ => by cases ha
  | p :: ps, nd, a, ha, b, hb, h => by
    simp only [List.map_cons, List.nodup_cons] at nd
    rcases List.mem_cons.mp ha with ea | ha'
    · rcases List.mem_cons.mp hb with eb | hb'
      · rw [ea, eb]
      · exact absurd (by rw [← ea, h]; exact List.mem_map_of_mem hb') nd.1
    · rcases List.mem_cons.mp hb with eb | hb'
      · exact absurd (by rw [← eb, ← h]; exact List.mem_map_of_mem ha') nd.1
      · exact key_inj nd.2 a ha' b hb' h
theorem sort_pairs {ps : List (Cs × Nat)} (nd : (ps.map (·.1)).Nodup) : sortD (ps.map prD) = (srtP ps).map prD := by
  unfold sortD srtP
  rw [List.map_mergeSort]
  intro a ha b hb
  congr 1
  show ltCs b.1 a.1 = D.lts [.str b.1, .int b.2] [.str a.1, .int a.2]
  simp only [D.lts]
  by_cases h : b.1 = a.1
  · have : b = a := key_inj nd b hb a ha h
    subst this
    simp [D.eqv, D.lt, lt_irr]
  · have e : D.eqv (.str b.1) (.str a.1) = false := by simp [D.eqv, h]
    rw [e]; rfl
theorem ok_keys {ps : List (Cs × Nat)} (h : ps.length ≤ 1000) : sortOk (ps.map fun p => .str p.1) = true := by
  unfold sortOk alikeAll
  have : ps.length ≤ 1000000 := by omega
  simp [List.all_map, D.alike, D.plain, notTup, Function.comp_def, this]
theorem ok_pairs {ps : List (Cs × Nat)} (h : ps.length ≤ 1000) : sortOk (ps.map prD) = true := by
  unfold sortOk alikeAll prD
  have : ps.length ≤ 1000000 := by omega
  simp [List.all_map, D.alike, D.alikes, D.plain, D.plains, notTup, tup1, Function.comp_def, this]
theorem kget_mem {ps : List (Cs × Nat)} (nd : (ps.map (·.1)).Nodup) : ∀ p ∈ ps, kget (.s p.1) (kvD ps) = some (.int p.2) := by
  induction ps with
  | nil => intro p hp; cases hp
  | cons q ps ih =>
    intro p hp
    simp only [List.map_cons, List.nodup_cons] at nd
    simp only [kvD, List.map_cons, kget]
    rcases List.mem_cons.mp hp with e | hp'
    · rw [e, if_pos rfl]
    · rw [if_neg (fun e => by
        have : q.1 = p.1 := by injection e
        exact nd.1 (by rw [this]; exact List.mem_map_of_mem hp'))]
      exact ih nd.2 p hp'
theorem chkL_nd : ∀ (es : List Ent) (seen qs : List (Cs × Nat)), (seen.map (·.1)).Nodup → chkL seen es = .ok qs → (qs.map (·.1)).Nodup ∧ qs.length = seen.length + es.length
  | [], seen, qs, h, e => by simp only [chkL, Except.ok.injEq] at e; subst e; exact ⟨h, by simp⟩
  | (w, kp, d, np) :: es, seen, qs, h, e => by
    simp only [chkL] at e
    split at e
    · cases e
    · rename_i hc
      split at e
      · cases e
      · have ih := chkL_nd es (seen ++ [(w, val d)]) qs (by
          rw [List.map_append, List.nodup_append]
          refine ⟨h, by simp, fun a ha b hb => ?_⟩
          simp only [List.map_cons, List.map_nil, List.mem_singleton] at hb
          subst hb
          obtain ⟨q, hq, rfl⟩ := List.mem_map.mp ha
          intro e2
          exact hc (List.any_eq_true.mpr ⟨q, hq, decide_eq_true e2⟩)) e
        refine ⟨ih.1, ?_⟩
        rw [ih.2]; simp only [List.length_append, List.length_cons, List.length_nil]; omega
def pairsD (ps : List (Cs × Nat)) : D := .tup [.str [112, 97, 105, 114, 115], .ptp (ps.map prD)]
def dueE (t : Cs) : Except Nat (List (Cs × Nat)) := match fb (.s0 true) t with
  | some z => .error z
  | none => if wds t = [NOTH] then .ok [] else
    match (splitC 44 t).getLast? with
    | none => .error 0
    | some p => if entB p then chkL [] (entsP 0 (splitC 44 t)) else .error t.length
def dueD (t : Cs) : D := match dueE t with
  | .error z => spotD z
  | .ok ps => pairsD (srtP ps)
end K03
end
section
set_option maxRecDepth 100000
set_option maxHeartbeats 1000000
set_option exponentiation.threshold 2000
namespace K03
open Iv Pw
variable {k : Nat} {S : Hs}
def gK (qs : List (Cs × Nat)) (x : D) : D := .tup [x, (kget (.s (unS x)) (kvD qs)).getD .non]
def lst3 : Ex := .comp [6] (.nm 6) (.one (.srt (.var 3))) (.bl true) (.tup (.cons (.var 6) (.cons (.dix (.var 3) (.var 6)) .nil)))
theorem b_due_eq : b__law_due = (.seq (.loop (.nm 1) (.rng (.bi .len (.cons (.var 0) .nil))) l1b) (.seq (.par3c 2 3 4 (.meth .split (.var 0) (.cons (.str [44]) .nil)) .newd (.int 0)) (.seq (.ite (.cmp .eq (.call 18 (.cons (.var 0) .nil)) (.lst (.cons (.str [110, 111, 116, 104, 105, 110, 103]) .nil))) (.seq (.ret (.tup (.cons (.str [112, 97, 105, 114, 115]) (.cons (.ptup .nil) .nil)))) .skip) .skip) (.seq (.ite (.not (.call 21 (.cons (.ix (.var 2) (.neg (.int 1))) .nil))) (.seq (.ret (.tup (.cons (.str [115, 112, 111, 116]) (.cons (.bi .len (.cons (.var 0) .nil)) .nil)))) .skip) .skip) (.seq (.loop (.nm 5) (.one (.var 2)) l2b) (.seq (.ret (.tup (.cons (.str [112, 97, 105, 114, 115]) (.cons (.ptl lst3) .nil)))) .skip)))))) := rfl
theorem x_par3c {cal : Cal} {r : Ev} {S S1 S2 S3 : Hs} {i j l : Nat} {a b e : Ex} {v w u : Vl} (h1 : ev P0 cal a r S = .ok v S1) (h2 : ev P0 cal b r S1 = .ok w S2) (h3 : ev P0 cal e r S2 = .ok u S3) : exec P0 cal (.par3c i j l a b e) r S = .nx (((r.set i (some v)).set j (some w)).set l (some u)) S3 := by
  simp only [exec, h1, h2, h3, R.st]
theorem fin_da {x : D} {L : List (Ky × D)} : fin S.length (.ret (.d x) (da S L)) = .ok (.d x) S := by simp only [fin, da_take]
theorem v_lst3 {t : Cs} {x1 x5 x6 x7 : Option Vl} {ps : List Cs} {b : Nat} {qs : List (Cs × Nat)} (nd : (qs.map (·.1)).Nodup) (hq : qs.length ≤ 1000) : ev P0 (c (k + 4)) lst3 (D2 t x1 ps S.length b x5 x6 x7) (da S (kvD qs)) = .ok (.d (.lst ((srtP qs).map prD))) (da S (kvD qs)) := by
  have es : ev P0 (c (k + 4)) (.srt (.var 3)) (D2 t x1 ps S.length b x5 x6 x7) (da S (kvD qs)) = .ok (.d (.lst ((srtP qs).map fun p => .str p.1))) (da S (kvD qs)) := by
    have e1 : srtL (.loc S.length) (da S (kvD qs)) = some (qs.map fun p => .str p.1) := by
      simp only [srtL, rdK, da_get, kvD, List.map_map]
      rfl
    rw [ev, v_loc (i := 3) (n := S.length) rfl]
    simp only [R.bind, e1]
    rw [if_pos (ok_keys hq), sort_keys]
  have hsl : (srtP qs).length = qs.length := List.length_mergeSort _
  have q := e_comp (P := P0) (cal := c (k + 4)) (own := [6]) (t := .nm 6) (it := .one (.srt (.var 3))) (c := .bl true) (e := .tup (.cons (.var 6) (.cons (.dix (.var 3) (.var 6)) .nil))) (r := D2 t x1 ps S.length b x5 x6 x7) (S := da S (kvD qs)) (S1 := da S (kvD qs)) (xs := (srtP qs).map fun p => .str p.1) (fun _ => true) (gK qs) (by rw [evi, es]; simp only [R.bind]) (by rw [List.length_map, hsl]; omega) (fun x hx => by
    obtain ⟨p, hp, rfl⟩ := List.mem_map.mp hx
    have hk := kget_mem nd p (srt_mem.mp hp)
    refine ⟨D2 t x1 ps S.length b x5 (some (.d (.str p.1))) x7, rfl, by simp only [ev], fun _ => ?_⟩
    have a1 : ev P0 (c (k + 4)) (.var 6) (D2 t x1 ps S.length b x5 (some (.d (.str p.1))) x7) (da S (kvD qs)) = .ok (.d (.str p.1)) (da S (kvD qs)) := v_var (i := 6) (x := .str p.1) rfl
    have a2 : ev P0 (c (k + 4)) (.dix (.var 3) (.var 6)) (D2 t x1 ps S.length b x5 (some (.d (.str p.1))) x7) (da S (kvD qs)) = .ok (.d (.int p.2)) (da S (kvD qs)) := by
      rw [ev, v_loc (i := 3) (n := S.length) rfl]
      simp only [R.bind]
      rw [a1]
      simp only [rdK, da_get, keyD, Option.bind_some, hk, Option.map_some, R.opt]
    rw [ev, v_cons a1 (v_one a2)]
    simp only [R.bind, dsOf, Option.map_some, List.length_cons, List.length_nil]
    rw [if_pos (by decide)]
    simp only [gK, unS, hk, Option.getD_some])
  rw [List.filter_eq_self.mpr (fun _ _ => rfl)] at q
  unfold lst3
  rw [q]
  congr 3
  rw [List.map_map]
  refine List.map_congr_left fun p hp => ?_
  have hk := kget_mem nd p (srt_mem.mp hp)
  simp only [Function.comp_apply, gK, unS, hk, Option.getD_some, prD]
theorem v_pairs {cal : Cal} {r : Ev} {e : Ex} {xs : List D} (h : ev P0 cal e r S = .ok (.d (.ptp xs)) S) : ev P0 cal (.tup (.cons (.str [112, 97, 105, 114, 115]) (.cons e .nil))) r S = .ok (.d (.tup [.str [112, 97, 105, 114, 115], .ptp xs])) S := by
  rw [ev, v_cons v_str (v_one h)]
  simp only [R.bind, dsOf, Option.map_some, List.length_cons, List.length_nil]
  rw [if_pos (by decide)]
theorem goP_all : ∀ (ps : List Cs) (f : Bool), goP f ps = true → ∀ p ∈ ps.dropLast, entB p = true
  | [], f, _, p, hp => by cases hp
  | [q], f, _, p, hp => by cases hp
  | q :: q2 :: ps, f, h, p, hp => by
    simp only [goP, Bool.and_eq_true] at h
    rw [List.dropLast_cons₂] at hp
    rcases List.mem_cons.mp hp with rfl | hp
    · exact h.1
    · exact goP_all (q2 :: ps) false h.2 p hp
theorem all_ent {t p : Cs} (h : fb (.s0 true) t = none) (hp : (splitC 44 t).getLast? = some p) (he : entB p = true) : ∀ q ∈ splitC 44 t, entB q = true := by
  have h1 := fb_none t (.s0 true)
  rw [h] at h1
  have h2 := run_go t [] true (fun _ h => by cases h)
  rw [List.nil_append, hd_nil, ← h1] at h2
  intro q hq
  have hs : splitC 44 t = (splitC 44 t).dropLast ++ [p] := by
    obtain ⟨ys, e⟩ := List.getLast?_eq_some_iff.mp hp
    rw [e, List.dropLast_concat]
  rw [hs] at hq
  rcases List.mem_append.mp hq with hq | hq
  · exact goP_all _ _ h2.symm q hq
  · simp only [List.mem_singleton] at hq; rw [hq]; exact he
theorem law_due {t : Cs} (hl : t.length ≤ 500) : c (k + 5) 23 [.d (.str t)] S = .ok (.d (dueD t)) S := by
  rw [ca (fn := ⟨1, 8, b__law_due, .all⟩) rfl rfl rfl]
  show fin S.length (exec P0 (c (k + 4)) b__law_due (D1 t none) S) = _
  rw [b_due_eq]
  have eit : evi P0 (c (k + 4)) (.rng (.bi .len (.cons (.var 0) .nil))) (D1 t none) S = .ok (upTo t.length ((0 : Nat) : Int)) S := by
    have e := e_rng (cal := c (k + 4)) (v_len (S := S) (P := P0) (cal := c (k + 4)) (r := D1 t none) (i := 0) (t := t) rfl (by omega)) (by omega) (by omega)
    rw [Int.toNat_natCast] at e
    exact e
  obtain ⟨x1, h1⟩ := loop1 (k := k) (S := S) hl t.length 0 none (by omega) (fun _ _ => Nat.zero_le _)
  have el := x_loop (t := .nm 1) (b := l1b) eit
  rw [h1] at el
  unfold dueD dueE
  cases hf : fb (.s0 true) t with
  | some z =>
    rw [hf] at el
    exact (congrArg (fin S.length) (x_ret el)).trans (fin_ret ..)
  | none =>
    rw [hf] at el
    dsimp only at el ⊢
    rw [x_nx el]
    have es := v_split (S := S) (P := P0) (cal := c (k + 4)) (r := D1 t x1) (e := .var 0) (t := t) (x := 44) (v_var (i := 0) (x := .str t) rfl) (by omega) (by decide)
    have s3 : exec P0 (c (k + 4)) (.par3c 2 3 4 (.meth .split (.var 0) (.cons (.str [44]) .nil)) .newd (.int 0)) (D1 t x1) S = .nx (D2 t x1 (splitC 44 t) S.length 0 none none none) (da S (kvD [])) := by
      have en : ev P0 (c (k + 4)) .newd (D1 t x1) S = .ok (.loc S.length) (da S (kvD [])) := by simp only [ev]; rfl
      exact x_par3c es en (v_int (i := 0))
    rw [x_nx s3]
    have a0 : ∀ {b : Nat} {x5 x6 x7 : Option Vl} {L : Hs}, ev P0 (c (k + 4)) (.var 0) (D2 t x1 (splitC 44 t) S.length b x5 x6 x7) L = .ok (.d (.str t)) L := fun {b x5 x6 x7 L} => v_var (i := 0) (x := .str t) rfl
    have e4 : ev P0 (c (k + 4)) (.cmp .eq (.call 18 (.cons (.var 0) .nil)) (.lst (.cons (.str [110, 111, 116, 104, 105, 110, 103]) .nil))) (D2 t x1 (splitC 44 t) S.length 0 none none none) (da S (kvD [])) = .ok (.d (.bl (decide (wds t = [NOTH])))) (da S (kvD [])) := v_eql (v_call (v_one a0) (law_words (k := k + 3) hl)) (v_lstS (vs := [.str NOTH]) (v_one v_str) (by decide))
    by_cases hN : wds t = [NOTH]
    · rw [if_pos hN]
      rw [decide_eq_true hN] at e4
      refine (congrArg (fin S.length) (x_ret (v := .d (pairsD [])) (S1 := da S (kvD [])) ?_)).trans ?_
      · rw [x_if e4, if_pos rfl]
        refine x_ret (x_retv (v_pairs (xs := []) ?_))
        simp only [ev, evs, R.bind, dsOf, List.length_nil]
        rw [if_pos (by decide)]
      · rw [fin_da]
        have : srtP [] = [] := by simp [srtP]
        dsimp only
        rw [this]
    · rw [if_neg hN]
      rw [decide_eq_false hN] at e4
      rw [x_nx (x_go e4)]
      obtain ⟨p, hp⟩ : ∃ p, (splitC 44 t).getLast? = some p := by
        cases h : (splitC 44 t).getLast? with
        | none => exact absurd (List.getLast?_eq_none_iff.mp h) (split_ne t)
        | some q => exact ⟨q, rfl⟩
      have hpm : p ∈ splitC 44 t := List.mem_of_getLast? hp
      have hpl : p.length ≤ 500 := Nat.le_trans (split_mem t p hpm) hl
      rw [hp]
      dsimp only
      have e5 := v_not (v_call (v_one (v_lastp (S := da S (kvD [])) (P := P0) (cal := c (k + 4)) (r := D2 t x1 (splitC 44 t) S.length 0 none none none) (i := 2) rfl hp)) (law_is_entry (k := k + 2) hpl))
      cases he : entB p with
      | false =>
        rw [he] at e5
        rw [if_neg (by decide)]
        refine (congrArg (fin S.length) (x_ret (v := .d (spotD t.length)) (S1 := da S (kvD [])) ?_)).trans fin_da
        rw [x_if e5, if_pos (by rfl)]
        exact x_ret (x_retv (v_spot (v_len rfl (by omega))))
      | true =>
        rw [he] at e5
        rw [if_pos rfl, x_nx (x_go e5)]
        have hall := all_ent hf hp he
        have hcnt := split_len 44 t
        have lp := loop2 (k := k) (S := S) (t := t) (x1 := x1) (ps := splitC 44 t) (splitC 44 t) 0 [] none none none (fun q hq => ⟨Nat.le_trans (split_mem t q hq) hl, hall q hq, split_no t q hq⟩) (by simp only [List.length_nil]; omega)
        have eit2 : evi P0 (c (k + 4)) (.one (.var 2)) (D2 t x1 (splitC 44 t) S.length 0 none none none) (da S (kvD [])) = .ok ((splitC 44 t).map .str) (da S (kvD [])) := by
          rw [evi, v_var (i := 2) (x := .lst ((splitC 44 t).map .str)) rfl]; simp only [R.bind, D.wk]
        have el2 := x_loop (t := .nm 5) (b := l2b) eit2
        cases hk : chkL [] (entsP 0 (splitC 44 t)) with
        | error z =>
          rw [hk] at lp
          obtain ⟨L, lp⟩ := lp
          rw [lp] at el2
          exact (congrArg (fin S.length) (x_ret el2)).trans fin_da
        | ok qs =>
          rw [hk] at lp
          obtain ⟨b', y5, y6, y7, lp⟩ := lp
          rw [lp] at el2
          rw [x_nx el2]
          obtain ⟨nd, ln⟩ := chkL_nd _ [] qs (by simp) hk
          have hel : ∀ (ps : List Cs) (o : Nat), (entsP o ps).length = ps.length := by
            intro ps
            induction ps with
            | nil => intro o; rfl
            | cons q ps ih => intro o; simp [entsP, ih]
          rw [hel] at ln
          have e6 := v_lst3 (S := S) (k := k) (t := t) (x1 := x1) (x5 := y5) (x6 := y6) (x7 := y7) (ps := splitC 44 t) (b := b') nd (by simp only [List.length_nil] at ln; omega)
          have e7 : ev P0 (c (k + 4)) (.ptl lst3) (D2 t x1 (splitC 44 t) S.length b' y5 y6 y7) (da S (kvD qs)) = .ok (.d (.ptp ((srtP qs).map prD))) (da S (kvD qs)) := by
            simp only [ev, e6, R.bind]
          exact (congrArg (fin S.length) (x_ret (x_retv (v_pairs e7)))).trans fin_da
end K03
end
section
set_option maxRecDepth 100000
set_option maxHeartbeats 1000000
set_option exponentiation.threshold 2000
namespace K03
open Iv Pw
/-! ### the program's reading is the law's -/
theorem run_final : ∀ (t p : Cs) (f : Bool) (st : Stt), (∀ c ∈ p, c ≠ 44) → runS (.s0 f) (p ++ t) = some st → ∃ f' q, (hd p (splitC 44 t)).getLast? = some q ∧ (∀ c ∈ q, c ≠ 44) ∧ runS (.s0 f') q = some st
  | [], p, f, st, h, hr => by
    rw [List.append_nil] at hr
    exact ⟨f, p, by simp [splitC, hd], h, hr⟩
  | c :: cs, p, f, st, h, hr => by
    by_cases hc : c = 44
    · subst hc
      have e := run_comma (f := f) h
      have : p ++ 44 :: cs = (p ++ [44]) ++ cs := by simp
      rw [this, runS_append, runS_snoc, e] at hr
      cases he : entB p with
      | false => rw [he] at hr; cases hr
      | true =>
        rw [he] at hr
        simp only [if_true, Option.bind_some] at hr
        obtain ⟨f', q, h1, h2, h3⟩ := run_final cs [] false st (fun _ h => by cases h) hr
        rw [hd_nil] at h1
        refine ⟨f', q, ?_, h2, h3⟩
        rw [split_sep]
        simp only [hd, List.append_nil]
        cases hs : splitC 44 cs with
        | nil => exact absurd hs (split_ne cs)
        | cons s ss => rw [hs] at h1; rw [List.getLast?_cons_cons]; exact h1
    · rw [hd_cons hc]
      have : p ++ c :: cs = p ++ [c] ++ cs := by simp
      rw [this] at hr
      exact run_final cs (p ++ [c]) f st (fun x hx => by
        rcases List.mem_append.mp hx with hx | hx
        · exact h x hx
        · simp at hx; subst hx; exact hc) hr
theorem done_ent {f : Bool} {W : List Cs} {q : Cs} {st : Stt} (h : stOf f W q = some st) (hd' : done st = true) : entW (push W q) = true := by
  match W, q with
  | [], [] => simp only [stOf, Option.some.injEq] at h; subst h; cases hd'
  | [], x :: xs =>
    simp only [stOf] at h
    split at h
    · cases h; cases hd'
    · cases h
  | [w], [] =>
    simp only [stOf] at h
    split at h
    · split at h
      · split at h
        · cases h; cases hd'
        · cases h
      · cases h; cases hd'
    · cases h
  | [w], x :: xs =>
    simp only [stOf] at h
    split at h
    · rename_i hc
      simp only [push, if_neg (List.cons_ne_nil x xs), List.cons_append, List.nil_append, entW]
      exact hc
    · cases h
  | [w, d], [] =>
    simp only [stOf] at h
    split at h
    · rename_i hc
      simp only [push, if_true, entW]
      exact hc
    · cases h
  | [w, d], x :: xs => simp [stOf] at h
  | a :: b :: g :: r, q => cases q <;> simp [stOf] at h
/-- the last part is an entry exactly if the machine is done -/
theorem last_done {t : Cs} {st : Stt} {f : Bool} (h : runS (.s0 f) t = some st) : ∃ q, (splitC 44 t).getLast? = some q ∧ entB q = done st := by
  have := run_final t [] f st (fun _ h => by cases h) h
  rw [hd_nil] at this
  obtain ⟨f', q, h1, h2, h3⟩ := this
  refine ⟨q, h1, ?_⟩
  cases hd' : done st with
  | true =>
    rw [run_part h2] at h3
    exact done_ent h3 hd'
  | false =>
    cases he : entB q with
    | false => rfl
    | true =>
      obtain ⟨st2, q1, q2⟩ := ent_run (f := f') he h2
      rw [h3] at q1; cases q1
      rw [hd'] at q2; cases q2
theorem wds_blank (j : Nat) (t : Cs) : wds (List.replicate j 32 ++ t) = wds t := by
  unfold wds
  rw [wq_append, wq_rep]
theorem wds_first {w t : Cs} (hw : w ≠ []) (hc : ∀ c ∈ w, c ≠ 32) : wds (w ++ 32 :: t) = w :: wds t := by
  rw [wds_split, wds_split]
  have : splitC 32 (w ++ 32 :: t) = w :: splitC 32 t := by
    clear hw
    induction w with
    | nil => simp [splitC]
    | cons x xs ih =>
      simp only [List.cons_append, splitC, if_neg (hc x (List.mem_cons_self ..)), ih fun c h => hc c (List.mem_cons_of_mem _ h)]
  rw [this, List.filter_cons]
  simp [ne, hw]
theorem wds_word {w : Cs} (hw : w ≠ []) (hc : ∀ c ∈ w, c ≠ 32) : wds w = [w] := by
  unfold wds
  rw [wq_word w _ _ hc]
  simp [push, hw]
theorem wds_rep (j : Nat) : wds (List.replicate j 32) = [] := by
  unfold wds
  rw [wq_rep]; rfl
theorem wds_wordb {w : Cs} (j : Nat) (hw : w ≠ []) (hc : ∀ c ∈ w, c ≠ 32) : wds (w ++ List.replicate j 32) = [w] := by
  cases j with
  | zero => rw [List.replicate_zero, List.append_nil]; exact wds_word hw hc
  | succ j => rw [List.replicate_succ, wds_first hw hc, wds_rep]
theorem NOTH_A : ∀ c ∈ NOTH, c ≠ 32 := by decide
/-- the first part of a text: blanks, a run of letters and figures -/
theorem noth_yes {t : Cs} (h : nothB t = true) : dueE t = if bl t + 7 + bl (t.drop (bl t + 7)) < t.length then .error (bl t + 7 + bl (t.drop (bl t + 7))) else .ok [] := by
  have h7 := nothB_len h
  unfold nothB at h
  have hK := of_decide_eq_true h
  have hb := bl_split t
  have hrl := run_le isA 8 (t.drop (bl t))
  have hm : run isA 8 (t.drop (bl t)) = 7 := by
    have := congrArg List.length hK
    rw [take_len hrl.1] at this
    exact this
  have hhead := run_head isA 8 (t.drop (bl t))
  rw [hm] at hK hhead
  have hdd : (t.drop (bl t)).drop 7 = t.drop (bl t + 7) := by rw [List.drop_drop]
  rw [hdd] at hhead
  have hu : t.drop (bl t) = NOTH ++ t.drop (bl t + 7) := by
    rw [← hK, ← hdd, List.take_append_drop]
  have ht : t = List.replicate (bl t) 32 ++ (NOTH ++ t.drop (bl t + 7)) := by rw [← hu, ← hb]
  have hs0 : runS (.s0 true) (List.replicate (bl t) 32) = some (.s0 true) := by
    rw [← take_bl]; exact run_bl (by simp [stp]) t
  have hkN : runS (.s0 true) NOTH = some (.k true NOTH) := by decide
  have hl : t.length = bl t + 7 + (t.drop (bl t + 7)).length := by rw [List.length_drop]; omega
  have hr := bl_split (t.drop (bl t + 7))
  have hbr := bl_le (t.drop (bl t + 7))
  have hwr := bl_head (t.drop (bl t + 7))
  generalize t.drop (bl t + 7) = r at *
  generalize bl t = a at *
  have hrun : ∃ st, runS (.s0 true) (List.replicate a 32 ++ (NOTH ++ List.replicate (bl r) 32)) = some st ∧ (bl r = 0 ∧ st = .k true NOTH ∨ 0 < bl r ∧ st = .nb) := by
    rw [runS_append, hs0]
    simp only [Option.bind_some]
    rw [runS_append, hkN]
    simp only [Option.bind_some]
    cases hj : bl r with
    | zero => exact ⟨.k true NOTH, rfl, .inl ⟨rfl, rfl⟩⟩
    | succ j => exact ⟨.nb, run_bl2 (by decide) (by decide) (by omega), .inr ⟨by omega, rfl⟩⟩
  obtain ⟨st, hst, hcase⟩ := hrun
  have hpl : (List.replicate a 32 ++ (NOTH ++ List.replicate (bl r) 32)).length = a + 7 + bl r := by
    simp only [List.length_append, List.length_replicate]
    have : NOTH.length = 7 := rfl
    omega
  have ht2 : t = (List.replicate a 32 ++ (NOTH ++ List.replicate (bl r) 32)) ++ r.drop (bl r) := by
    refine ht.trans ?_
    simp only [List.append_assoc]
    rw [← hr]
  have hf := fb_append (List.replicate a 32 ++ (NOTH ++ List.replicate (bl r) 32)) (r.drop (bl r)) (.s0 true) st hst
  rw [← ht2, hpl] at hf
  unfold dueE
  cases hR : r.drop (bl r) with
  | nil =>
    have hrlen : r.length = bl r := by
      have := List.drop_eq_nil_iff.mp hR
      omega
    rw [hR] at hf
    have hf' : fb (.s0 true) t = none := by rw [hf]; rfl
    rw [hf', if_neg (show ¬ a + 7 + bl r < t.length by omega)]
    dsimp only
    have hw : wds t = [NOTH] := by
      rw [ht2, hR, List.append_nil, wds_blank]
      exact wds_wordb _ (by decide) NOTH_A
    rw [if_pos hw]
  | cons x xs =>
    have hx32 := hwr x xs hR
    have hlen : bl r < r.length := by
      rcases Nat.lt_or_ge (bl r) r.length with q | q
      · exact q
      · rw [List.drop_eq_nil_iff.mpr q] at hR; cases hR
    rw [hR] at hf
    have hbad : stp st x = none := by
      rcases hcase with ⟨q1, q2⟩ | ⟨q1, q2⟩
      · subst q2
        rw [q1, List.drop_zero] at hR
        rcases hhead x xs hR with q | q
        · simp [stp, q, hx32]
        · exact absurd q (by decide)
      · subst q2; simp [stp, hx32]
    have hf' : fb (.s0 true) t = some (a + 7 + bl r) := by rw [hf]; simp [fb, hbad]
    rw [hf']
    dsimp only
    rw [if_pos (by omega)]
end K03
end
section
set_option maxRecDepth 100000
set_option maxHeartbeats 1000000
set_option exponentiation.threshold 2000
namespace K03
open Iv Pw
theorem sim {t : Cs} (h : nothB t = false) : fb (.s0 true) t = fb (.s0 false) t ∧ (fb (.s0 false) t = none → wds t ≠ [NOTH] ∧ ∃ s1 s2, runS (.s0 true) t = some s1 ∧ runS (.s0 false) t = some s2 ∧ done s1 = done s2) := by
  have hb := bl_split t
  have hs0 : ∀ f, runS (.s0 f) (List.replicate (bl t) 32) = some (.s0 f) := fun f => by
    rw [← take_bl]; exact run_bl (by simp [stp]) t
  have hhd := bl_head t
  have hwd := wds_blank (bl t) (t.drop (bl t))
  rw [← hb] at hwd
  have hfb : ∀ f, fb (.s0 f) t = (fb (.s0 f) (t.drop (bl t))).map (· + (List.replicate (bl t) 32).length) := fun f => by
    have := fb_append (List.replicate (bl t) 32) (t.drop (bl t)) (.s0 f) (.s0 f) (hs0 f)
    rwa [← hb] at this
  have hrs : ∀ f, runS (.s0 f) t = runS (.s0 f) (t.drop (bl t)) := fun f => by
    have := runS_append (List.replicate (bl t) 32) (t.drop (bl t)) (.s0 f)
    rw [← hb, hs0 f] at this
    exact this
  unfold nothB at h
  rw [hfb true, hfb false, hrs true, hrs false, hwd]
  generalize t.drop (bl t) = u at *
  cases hu : u with
  | nil => exact ⟨rfl, fun _ => ⟨by decide, .s0 true, .s0 false, rfl, rfl, rfl⟩⟩
  | cons c cs =>
    rw [hu] at h
    have hc32 := hhd c cs hu
    by_cases hc : isL c = true
    · have hm : run isA 8 (c :: cs) = run isA 7 cs + 1 := by simp only [run, if_pos (isL_A hc)]
      obtain ⟨hl1, hl2⟩ := run_le isA 8 (c :: cs)
      have hk : ∀ f, runS (.s0 f) ((c :: cs).take (run isA 8 (c :: cs))) = some (.k f ((c :: cs).take (run isA 8 (c :: cs)))) := fun f => by
        rw [hm, List.take_succ_cons]
        simp only [runS, stp, if_neg hc32, if_pos hc, Option.bind_some]
        rw [run_k 7 cs [c] rfl]; rfl
      have hKn : (c :: cs).take (run isA 8 (c :: cs)) ≠ [] := by rw [hm]; simp
      have hK32 : ∀ x ∈ (c :: cs).take (run isA 8 (c :: cs)), x ≠ 32 := fun x hx => (A_ne (List.all_eq_true.mp (run_all isA 8 (c :: cs)) x hx)).1
      have hhead := run_head isA 8 (c :: cs)
      have hlen : ((c :: cs).take (run isA 8 (c :: cs))).length = run isA 8 (c :: cs) := take_len hl1
      have hsp : (c :: cs) = (c :: cs).take (run isA 8 (c :: cs)) ++ (c :: cs).drop (run isA 8 (c :: cs)) := (List.take_append_drop _ _).symm
      have hKN : (c :: cs).take (run isA 8 (c :: cs)) ≠ NOTH := of_decide_eq_false h
      generalize hKK : (c :: cs).take (run isA 8 (c :: cs)) = K at *
      generalize hRR : (c :: cs).drop (run isA 8 (c :: cs)) = R at *
      generalize run isA 8 (c :: cs) = m at *
      rw [hsp]
      have f1 : ∀ f, fb (.s0 f) (K ++ R) = (fb (.k f K) R).map (· + K.length) := fun f => fb_append K R (.s0 f) (.k f K) (hk f)
      have f2 : ∀ f, runS (.s0 f) (K ++ R) = runS (.k f K) R := fun f => by rw [runS_append, hk f]; rfl
      rw [f1 true, f1 false, f2 true, f2 false]
      cases R with
      | nil =>
        refine ⟨rfl, fun _ => ⟨?_, .k true K, .k false K, rfl, rfl, rfl⟩⟩
        rw [List.append_nil, wds_word hKn hK32]
        intro e; exact hKN (List.cons.inj e).1
      | cons x xs =>
        by_cases hx : x = 32
        · subst hx
          have e1 : ∀ f, stp (.k f K) 32 = some (.b K) := fun f => by simp [stp, isA_32, hKN]
          have g1 : ∀ f, fb (.k f K) (32 :: xs) = (fb (.b K) xs).map (· + 1) := fun f => by simp only [fb, e1 f]
          have g2 : ∀ f, runS (.k f K) (32 :: xs) = runS (.b K) xs := fun f => by simp only [runS, e1 f, Option.bind_some]
          rw [g1 true, g1 false, g2 true, g2 false]
          refine ⟨rfl, fun hn => ⟨?_, ?_⟩⟩
          · rw [wds_first hKn hK32]
            intro e; exact hKN (List.cons.inj e).1
          · have hn2 : fb (.b K) xs = none := by
              cases hq : fb (.b K) xs with
              | none => rfl
              | some z => rw [hq] at hn; cases hn
            have := fb_none xs (.b K)
            rw [hn2] at this
            cases hq : runS (.b K) xs with
            | none => rw [hq] at this; cases this
            | some s => exact ⟨s, s, rfl, rfl, rfl⟩
        · have e1 : ∀ f, stp (.k f K) x = none := fun f => by
            rcases hhead x xs rfl with q | q
            · simp [stp, q, hx]
            · have : ¬ K.length < 8 := by omega
              cases hA : isA x with
              | true => simp only [stp, hA, if_true, if_neg this]
              | false => simp [stp, hA, hx]
          have g1 : ∀ f, fb (.k f K) (x :: xs) = some 0 := fun f => by simp only [fb, e1 f]
          rw [g1 true, g1 false]
          exact ⟨rfl, fun hn => by cases hn⟩
    · have hc : isL c = false := by simpa using hc
      have e1 : ∀ f, stp (.s0 f) c = none := fun f => by simp [stp, hc32, hc]
      have g1 : ∀ f, fb (.s0 f) (c :: cs) = some 0 := fun f => by simp only [fb, e1 f]
      rw [g1 true, g1 false]
      exact ⟨rfl, fun hn => by cases hn⟩
theorem noth_no {t : Cs} (h : nothB t = false) (hl : t.length < 1000) : dueE t = match entsR 1000 t 0 with
    | .error z => .error z
    | .ok es => chkL [] es := by
  obtain ⟨h1, h2⟩ := sim h
  have hs := ents_says 1000 t 0 hl
  unfold dueE
  rw [h1]
  cases hp : entsR 1000 t 0 with
  | error z =>
    rw [hp] at hs
    dsimp only at hs ⊢
    rcases hs with ⟨q1, _⟩ | ⟨q1, q2, st, q3, q4⟩
    · rw [q1]; rfl
    · obtain ⟨w1, s1, s2, r1, r2, r3⟩ := h2 q1
      rw [q1]
      dsimp only
      rw [if_neg w1]
      rw [r2] at q3; cases q3
      obtain ⟨q, g1, g2⟩ := last_done r1
      rw [g1]
      dsimp only
      rw [g2, r3, q4, q2, Nat.zero_add]
      rfl
  | ok es =>
    rw [hp] at hs
    dsimp only at hs ⊢
    obtain ⟨⟨st, q1, q2⟩, q3⟩ := hs
    have hn : fb (.s0 false) t = none := by
      have := fb_none t (.s0 false)
      rw [q1] at this
      cases hq : fb (.s0 false) t with
      | none => rfl
      | some z => rw [hq] at this; cases this
    obtain ⟨w1, s1, s2, r1, r2, r3⟩ := h2 hn
    rw [hn]
    dsimp only
    rw [if_neg w1]
    rw [r2] at q1; cases q1
    obtain ⟨q, g1, g2⟩ := last_done r1
    rw [g1]
    dsimp only
    rw [g2, r3, q2, if_pos rfl, q3]
theorem ent_len {p : Cs} (h : entB p = true) (hc : ∀ c ∈ p, c ≠ 44) : 3 ≤ p.length := by
  obtain ⟨j0, w, j, d, j1, rfl, hw, _, hj, hd'⟩ := part_form h hc
  rw [part_len]
  have h1 : 0 < w.length := List.length_pos_iff.mpr (kind_A hw).1
  have h2 : 0 < d.length := List.length_pos_iff.mpr (num_D hd').1
  omega
theorem sum_ge : ∀ ps : List Cs, (∀ p ∈ ps, 3 ≤ p.length) → 4 * ps.length ≤ (ps.map fun p => p.length + 1).sum
  | [], _ => by simp
  | p :: ps, h => by
    have ih := sum_ge ps fun q hq => h q (List.mem_cons_of_mem _ hq)
    have := h p (List.mem_cons_self ..)
    simp only [List.map_cons, List.sum_cons, List.length_cons]
    omega
theorem entsP_len : ∀ (ps : List Cs) (o : Nat), (entsP o ps).length = ps.length
  | [], o => rfl
  | p :: ps, o => by simp [entsP, entsP_len ps]
/-- the program's reading is the law's -/
theorem parse_due {t : Cs} (hl : t.length ≤ 500) (hc : (splitC 44 t).length ≤ 60) : parse t = dueE t := by
  unfold parse
  cases h : nothB t with
  | true => rw [if_pos rfl, noth_yes h]
  | false =>
    rw [if_neg (by decide), noth_no h (by omega)]
    have hs := ents_says 1000 t 0 (by omega)
    cases hp : entsR 1000 t 0 with
    | error z => rfl
    | ok es =>
      rw [hp] at hs
      dsimp only at hs ⊢
      refine chk_EL es [] ?_
      obtain ⟨⟨st, q1, q2⟩, q3⟩ := hs
      obtain ⟨h1, h2⟩ := sim h
      have hn : fb (.s0 false) t = none := by
        have := fb_none t (.s0 false)
        rw [q1] at this
        cases hq : fb (.s0 false) t with
        | none => rfl
        | some z => rw [hq] at this; cases this
      obtain ⟨q, g1, g2⟩ := last_done q1
      rw [q3, entsP_len]
      simp only [List.length_nil]; omega
end K03
end
section
set_option maxRecDepth 100000
set_option maxHeartbeats 1000000
set_option exponentiation.threshold 2000
namespace K03
open Iv Pw
variable {k : Nat} {S : Hs}
/-! ### amounts are made -/
theorem begins {w : Cs} (h : kindB w = true) : c (k + 1) 2 [.d (.str w), .d (.int 8)] S = .ok (.d (.bl true)) S := by
  rw [ca (fn := ⟨2, 3, b_begins_with_letter, .all⟩) rfl rfl rfl, ← fin_ret]
  congr 1
  show exec P0 (c k) b_begins_with_letter [some (.d (.str w)), some (.d (.int 8)), none] S = _
  unfold b_begins_with_letter
  have hlen := kind_len h
  obtain ⟨_, hA⟩ := kind_A h
  cases w with
  | nil => cases h
  | cons x xs =>
    have hx : isL x = true := by simp only [kindB, Bool.and_eq_true] at h; exact h.1.1
    simp only [List.length_cons] at hlen
    have W : ev P0 (c k) (.var 0) [some (.d (.str (x :: xs))), some (.d (.int 8)), none] S = .ok (.d (.str (x :: xs))) S := v_var (i := 0) (x := .str (x :: xs)) rfl
    have e1 : ev P0 (c k) (.isi (.var 0) .str) [some (.d (.str (x :: xs))), some (.d (.int 8)), none] S = .ok (.d (.bl true)) S := by
      rw [ev, W]; simp only [R.bind, isiD, isTy, Option.map_some, R.opt]
    have e2 : ev P0 (c k) (.chain .le .le (.int 1) (.bi .len (.cons (.var 0) .nil)) (.var 1)) [some (.d (.str (x :: xs))), some (.d (.int 8)), none] S = .ok (.d (.bl true)) S :=
      v_chain v_int (v_len rfl (by simp only [List.length_cons]; omega)) (v_vi (i := 1) (x := 8) rfl) (by simp only [cmpD, List.length_cons]; rw [decide_eq_true (by omega)]) (by simp only [cmpD, List.length_cons]; rw [decide_eq_true (by omega)])
    have e3 := v_notin1 (S := S) (P := P0) (cal := c k) (v_head (r := [some (.d (.str (x :: xs))), some (.d (.int 8)), none]) (i := 0) (x := x) (w := xs) rfl (by omega)) g1
    rw [LT_c, hx] at e3
    rw [x_nx (x_go (v_ors (v_not e1) (v_ors (v_not e2) (v_1 e3))))]
    have q := e_comp (P := P0) (cal := c k) (own := [2]) (t := .nm 2) (it := .one (.var 0)) (c := .bl true) (e := .or (.cmp .isin (.var 2) (.glob 1)) (.one (.cmp .isin (.var 2) (.glob 2)))) (r := [some (.d (.str (x :: xs))), some (.d (.int 8)), none]) (S := S) (S1 := S) (xs := (x :: xs).map fun y => .str [y]) (fun _ => true) (fun _ => .bl true) (by rw [evi, W]; simp only [R.bind]) (by simp only [List.length_map, List.length_cons]; omega) (fun y hy => by
      obtain ⟨a, ha, rfl⟩ := List.mem_map.mp hy
      refine ⟨[some (.d (.str (x :: xs))), some (.d (.int 8)), some (.d (.str [a]))], rfl, by simp only [ev], fun _ => ?_⟩
      have V : ev P0 (c k) (.var 2) [some (.d (.str (x :: xs))), some (.d (.int 8)), some (.d (.str [a]))] S = .ok (.d (.str [a])) S := v_var (i := 2) (x := .str [a]) rfl
      have i1 := v_in1 V g1
      have i2 := v_in1 V g2
      rw [LT_c] at i1
      rw [DG_c] at i2
      have := v_or i1 fun _ => v_1 i2
      refine this.trans ?_
      have hq := hA a ha
      unfold isA at hq
      rw [hq])
    rw [List.filter_eq_self.mpr (fun _ _ => rfl)] at q
    refine x_ret (x_retv (v_bi1 q ?_))
    rw [List.map_map]
    simp only [biD]
    have : ((x :: xs).map ((fun _ => D.bl true) ∘ fun y => D.str [y])) = (x :: xs).map fun _ => D.bl true := rfl
    rw [this, bools_true]
    simp only [Option.map_some, allB_true]
theorem is_kind {w : Cs} (h : kindB w = true) (hN : w ≠ NOTH) : c (k + 2) 3 [.d (.str w)] S = .ok (.d (.bl true)) S := by
  rw [ca (fn := ⟨1, 1, b_is_kind, .all⟩) rfl rfl rfl, ← fin_ret]
  congr 1
  show exec P0 (c (k + 1)) b_is_kind [some (.d (.str w))] S = _
  unfold b_is_kind
  refine x_ret (x_retv ?_)
  have W : ev P0 (c (k + 1)) (.var 0) [some (.d (.str w))] S = .ok (.d (.str w)) S := v_var (i := 0) (x := .str w) rfl
  have e2 : ev P0 (c (k + 1)) (.cmp .ne (.var 0) (.glob 3)) [some (.d (.str w))] S = .ok (.d (.bl true)) S := by
    refine v_lt2 W g3 (fun _ _ h => by cases h) ?_
    have : (w == NOTH) = false := beq_eq_false_iff_ne.mpr hN
    simp [cmpD, D.plain, D.eqv, this]
  exact v_ands (v_call (v_cons W (v_one g4)) (begins h)) (v_1 e2)
end K03
end
section
set_option maxRecDepth 100000
set_option maxHeartbeats 1000000
set_option exponentiation.threshold 2000
namespace K03
open Iv Pw
variable {k : Nat} {S : Hs}
theorem zip_asc : ∀ {l : List Cs}, l.Pairwise (fun a b => ltCs a b = true) → ∀ x ∈ zipD (l.map .str) ((l.map D.str).drop 1), ∃ a b, x = .tup [.str a, .str b] ∧ ltCs a b = true
  | [], _, x, h => by simp [zipD] at h
  | [a], _, x, h => by simp [zipD] at h
  | a :: b :: l, hp, x, h => by
    have h' : x ∈ zipD (D.str a :: D.str b :: l.map .str) (D.str b :: l.map .str) := by simpa using h
    simp only [zipD, List.mem_cons] at h'
    rw [List.pairwise_cons] at hp
    rcases h' with rfl | h'
    · exact ⟨a, b, rfl, hp.1 b List.mem_cons_self⟩
    · exact zip_asc hp.2 x (by simpa using h')
theorem are_asc {k : Nat} {S : Hs} {l : List Cs} (h : l.Pairwise (fun a b => ltCs a b = true)) (hl : l.length ≤ 60) : c (k + 1) 4 [.d (.lst (l.map .str))] S = .ok (.d (.bl true)) S := by
  rw [ca (fn := ⟨1, 3, b_are_ascending, .all⟩) rfl rfl rfl, ← fin_ret]
  congr 1
  have hcut : cutL (l.map D.str) (some 1) none = (l.map D.str).drop 1 := by
    cases l with
    | nil => rfl
    | cons a l =>
      simp only [cutL, highD, lowD, List.map_cons, List.length_cons, List.length_map]
      rw [List.take_of_length_le (by simp)]
      simp
  have hz : ∀ (xs ys : List D), (zipD xs ys).length ≤ xs.length := by
    intro xs
    induction xs with
    | nil => intro ys; simp [zipD]
    | cons x xs ih => intro ys; cases ys with
      | nil => simp [zipD]
      | cons y ys => simp only [zipD, List.length_cons]; have := ih ys; omega
  have hb : ¬ (big < (zipD (l.map D.str) ((l.map D.str).drop 1)).length) := by
    have := hz (l.map D.str) ((l.map D.str).drop 1)
    rw [List.length_map] at this
    have e : big = 1000000 := rfl
    omega
  simp only [b_are_ascending, exec, ev, evs, evi, evo, R.st, R.bind, List.map_cons, List.map_nil, List.cons_append, List.nil_append, List.getElem?_cons_zero, D.wk, rdV, slD, R.opt, Option.map_some, hcut, if_neg hb]
  rw [compL_map (g := fun _ => D.bl true) (fun x hx => by
    obtain ⟨a, b, rfl, hab⟩ := zip_asc h x hx
    simp [asgD, asgL, wipes, List.replicate, D.wk, cmpD, rdV, R.opt, R.bind, ev, hab])]
  simp [rdVs, rdV, biD, bools_true, allB_true, R.opt]
theorem is_integer {n : Int} (h0 : 0 ≤ n) (h1 : n ≤ 1000000) : c (k + 1) 0 [.d (.int n)] S = .ok (.d (.bl true)) S := by
  rw [ca (fn := ⟨1, 1, b_is_integer, .all⟩) rfl rfl rfl, ← fin_ret]
  congr 1
  show exec P0 (c k) b_is_integer [some (.d (.int n))] S = _
  unfold b_is_integer
  refine x_ret (x_retv ?_)
  have V : ev P0 (c k) (.var 0) [some (.d (.int n))] S = .ok (.d (.int n)) S := v_vi rfl
  have e1 : ev P0 (c k) (.isi (.var 0) .int) [some (.d (.int n))] S = .ok (.d (.bl true)) S := by
    rw [ev, V]; simp only [R.bind, isiD, isTy, Option.map_some, R.opt]
  have e2 : ev P0 (c k) (.isi (.var 0) .bool) [some (.d (.int n))] S = .ok (.d (.bl false)) S := by
    rw [ev, V]; simp only [R.bind, isiD, isTy, Option.map_some, R.opt]
  have e4 : ev P0 (c k) (.glob 0) [some (.d (.int n))] S = .ok (.d (.int (1000000000000000000000000000000000000000000000000000000000000))) S := by
    simp only [ev, P0, List.getElem?_cons_zero]
  have e3 : ev P0 (c k) (.neg (.glob 0)) [some (.d (.int n))] S = .ok (.d (.int (-1000000000000000000000000000000000000000000000000000000000000))) S := by
    rw [ev, e4]; simp only [R.bind]
  have e5 := v_chain (o := .lt) (o' := .lt) (q := true) e3 V e4 (by simp only [cmpD]; rw [decide_eq_true (by omega)]) (by simp only [cmpD]; rw [decide_eq_true (by omega)])
  exact v_ands e1 (v_ands (v_not e2) (v_1 e5))
theorem is_from {n : Int} (h0 : 1 ≤ n) (h1 : n ≤ 1000000) : c (k + 2) 1 [.d (.int n), .d (.int 1), .d (.int 1000000)] S = .ok (.d (.bl true)) S := by
  rw [ca (fn := ⟨3, 3, b_is_from, .all⟩) rfl rfl rfl, ← fin_ret]
  congr 1
  show exec P0 (c (k + 1)) b_is_from [some (.d (.int n)), some (.d (.int 1)), some (.d (.int 1000000))] S = _
  unfold b_is_from
  refine x_ret (x_retv ?_)
  have V : ev P0 (c (k + 1)) (.var 0) [some (.d (.int n)), some (.d (.int 1)), some (.d (.int 1000000))] S = .ok (.d (.int n)) S := v_vi rfl
  have e5 := v_chain (o := .le) (o' := .le) (q := true) (v_vi (P := P0) (cal := c (k + 1)) (i := 1) (x := 1) (S := S) (r := [some (.d (.int n)), some (.d (.int 1)), some (.d (.int 1000000))]) rfl) V (v_vi (i := 2) (x := 1000000) rfl) (by simp only [cmpD]; rw [decide_eq_true (by omega)]) (by simp only [cmpD]; rw [decide_eq_true (by omega)])
  exact v_ands (v_call (v_one V) (is_integer (by omega) h1)) (v_1 e5)
end K03
end
section
set_option maxRecDepth 100000
set_option maxHeartbeats 1000000
set_option exponentiation.threshold 2000
namespace K03
open Iv Pw
variable {k : Nat} {S : Hs}
/-- pairs that amounts are made of -/
structure Good (ps : List (Cs × Nat)) : Prop where
  each : ∀ p ∈ ps, kindB p.1 = true ∧ p.1 ≠ NOTH ∧ 1 ≤ p.2 ∧ p.2 ≤ 1000000
  asc : (ps.map (·.1)).Pairwise fun a b => ltCs a b = true
  len : ps.length ≤ 60
def ab : St := (.seq (.ite (.or (.not (.isi (.var 1) .tup)) (.or (.cmp .ne (.bi .len (.cons (.var 1) .nil)) (.int 2)) (.or (.not (.call 3 (.cons (.ix (.var 1) (.int 0)) .nil))) (.one (.not (.call 1 (.cons (.ix (.var 1) (.int 1)) (.cons (.int 1) (.cons (.glob 6) .nil))))))))) (.seq (.ret (.bl false)) .skip) .skip) .skip)
theorem b_are_eq : b_are_pairs = (.seq (.ite (.or (.not (.isi (.var 0) .tup)) (.one (.cmp .gt (.bi .len (.cons (.var 0) .nil)) (.glob 5)))) (.seq (.ret (.bl false)) .skip) .skip) (.seq (.loop (.nm 1) (.one (.var 0)) ab) (.seq (.ret (.call 4 (.cons (.comp [1] (.nm 1) (.one (.var 0)) (.bl true) (.ix (.var 1) (.int 0))) .nil))) .skip))) := rfl
theorem are_pairs {ps : List (Cs × Nat)} (h : Good ps) : c (k + 3) 5 [.d (.tup (ps.map prD))] S = .ok (.d (.bl true)) S := by
  rw [ca (fn := ⟨1, 2, b_are_pairs, .all⟩) rfl rfl rfl, ← fin_ret]
  congr 1
  show exec P0 (c (k + 2)) b_are_pairs [some (.d (.tup (ps.map prD))), none] S = _
  rw [b_are_eq]
  have hlen := h.len
  have V : ∀ {x : Option Vl}, ev P0 (c (k + 2)) (.var 0) [some (.d (.tup (ps.map prD))), x] S = .ok (.d (.tup (ps.map prD))) S := fun {x} => v_var (i := 0) (x := .tup (ps.map prD)) rfl
  have e1 : ev P0 (c (k + 2)) (.isi (.var 0) .tup) [some (.d (.tup (ps.map prD))), none] S = .ok (.d (.bl true)) S := by
    rw [ev, V]; simp only [R.bind, isiD, isTy, Option.map_some, R.opt]
  have e2 : ev P0 (c (k + 2)) (.cmp .gt (.bi .len (.cons (.var 0) .nil)) (.glob 5)) [some (.d (.tup (ps.map prD))), none] S = .ok (.d (.bl false)) S := by
    have l : ev P0 (c (k + 2)) (.bi .len (.cons (.var 0) .nil)) [some (.d (.tup (ps.map prD))), none] S = .ok (.d (.int ((ps.length : Nat) : Int))) S := v_bi1 V (by simp only [biD, List.length_map])
    have q60 : ev P0 (c (k + 2)) (.glob 5) [some (.d (.tup (ps.map prD))), none] S = .ok (.d (.int ((60 : Nat) : Int))) S := g5
    have := v_gtn l q60
    rwa [decide_eq_false (by omega)] at this
  rw [x_nx (x_go (v_ors (v_not e1) (v_1 e2)))]
  have eit : evi P0 (c (k + 2)) (.one (.var 0)) [some (.d (.tup (ps.map prD))), none] S = .ok (ps.map prD) S := by rw [evi, V]; simp only [R.bind]
  obtain ⟨r', hf, x', rfl⟩ := forL_all (t := .nm 1) (f := fun r S => exec P0 (c (k + 2)) ab r S) (S := S) (I := fun r => ∃ x, r = [some (.d (.tup (ps.map prD))), x]) (xs := ps.map prD) (r := [some (.d (.tup (ps.map prD))), none]) ⟨none, rfl⟩ (by
    rintro y hy r ⟨x, rfl⟩
    obtain ⟨p, hp, rfl⟩ := List.mem_map.mp hy
    obtain ⟨k1, k2, k3, k4⟩ := h.each p hp
    refine ⟨[some (.d (.tup (ps.map prD))), some (.d (prD p))], [some (.d (.tup (ps.map prD))), some (.d (prD p))], rfl, ?_, _, rfl⟩
    have V1 : ev P0 (c (k + 2)) (.var 1) [some (.d (.tup (ps.map prD))), some (.d (prD p))] S = .ok (.d (prD p)) S := v_var (i := 1) (x := prD p) rfl
    have a1 : ev P0 (c (k + 2)) (.isi (.var 1) .tup) [some (.d (.tup (ps.map prD))), some (.d (prD p))] S = .ok (.d (.bl true)) S := by
      rw [ev, V1]; simp only [R.bind, prD, isiD, isTy, Option.map_some, R.opt]
    have a2 : ev P0 (c (k + 2)) (.cmp .ne (.bi .len (.cons (.var 1) .nil)) (.int 2)) [some (.d (.tup (ps.map prD))), some (.d (prD p))] S = .ok (.d (.bl false)) S := by
      have l : ev P0 (c (k + 2)) (.bi .len (.cons (.var 1) .nil)) [some (.d (.tup (ps.map prD))), some (.d (prD p))] S = .ok (.d (.int ((2 : Nat) : Int))) S := v_bi1 V1 rfl
      exact v_nen l (v_int' (n := 2))
    have i0 : ev P0 (c (k + 2)) (.ix (.var 1) (.int 0)) [some (.d (.tup (ps.map prD))), some (.d (prD p))] S = .ok (.d (.str p.1)) S := by
      rw [ev, V1]; simp only [R.bind, ev, rdV]; rfl
    have i1 : ev P0 (c (k + 2)) (.ix (.var 1) (.int 1)) [some (.d (.tup (ps.map prD))), some (.d (prD p))] S = .ok (.d (.int p.2)) S := by
      rw [ev, V1]; simp only [R.bind, ev, rdV]; rfl
    have a3 := v_not (v_call (v_one i0) (is_kind (k := k) (S := S) k1 k2))
    have a4 := v_not (v_call (v_cons i1 (v_cons (v_int (i := 1)) (v_one g6))) (is_from (k := k) (S := S) (n := (p.2 : Int)) (by omega) (by omega)))
    show exec P0 (c (k + 2)) ab _ S = _
    unfold ab
    rw [x_nx (x_go (v_ors (v_not a1) (v_ors a2 (v_ors a3 (v_1 a4)))))]
    simp only [exec])
  rw [x_nx ((x_loop eit).trans hf)]
  have q := e_comp (P := P0) (cal := c (k + 2)) (own := [1]) (t := .nm 1) (it := .one (.var 0)) (c := .bl true) (e := .ix (.var 1) (.int 0)) (r := [some (.d (.tup (ps.map prD))), x']) (S := S) (S1 := S) (xs := ps.map prD) (fun _ => true) (fun x => match x with
      | .tup (y :: _) => y
      | y => y) (by rw [evi, V]; simp only [R.bind]) (by simp only [List.length_map]; omega) (fun y hy => by
    obtain ⟨p, hp, rfl⟩ := List.mem_map.mp hy
    refine ⟨[some (.d (.tup (ps.map prD))), some (.d (prD p))], rfl, by simp only [ev], fun _ => ?_⟩
    rw [ev, v_var (i := 1) (x := prD p) rfl]; simp only [R.bind, ev, rdV]; rfl)
  rw [List.filter_eq_self.mpr (fun _ _ => rfl), List.map_map] at q
  have hm : (ps.map ((fun x => match x with
      | .tup (y :: _) => y
      | y => y) ∘ prD)) = (ps.map (·.1)).map .str := by
    rw [List.map_map]; rfl
  rw [hm] at q
  exact x_ret (x_retv (v_call (v_one q) (are_asc (k := k + 1) h.asc (by rw [List.length_map]; omega))))
end K03
end
section
set_option maxRecDepth 100000
set_option maxHeartbeats 1000000
set_option exponentiation.threshold 2000
namespace K03
open Iv Pw
variable {k : Nat} {S : Hs}
theorem asc_nd {l : List Cs} (h : l.Pairwise fun a b => ltCs a b = true) : l.Nodup :=
  h.imp fun {a b} h e => by subst e; rw [lt_irr] at h; cases h
theorem dofL_kv : ∀ {ps : List (Cs × Nat)} {acc : List (Ky × D)}, (acc.map (·.1) ++ (ps.map (·.1)).map Ky.s).Nodup → dofL (ps.map prD) acc = some (acc ++ kvD ps)
  | [], acc, _ => by simp [dofL, kvD]
  | p :: ps, acc, nd => by
    simp only [List.map_cons, prD, dofL, keyD]
    rw [kput_new]
    · have := dofL_kv (ps := ps) (acc := acc ++ [(.s p.1, .int p.2)]) (by simpa using nd)
      rw [this]; simp [kvD]
    · intro a ha e
      rw [List.nodup_append] at nd
      exact nd.2.2 a.1 (List.mem_map_of_mem ha) (.s p.1) (by simp) e
theorem map_s_nodup {l : List Cs} (h : l.Nodup) : (l.map Ky.s).Nodup :=
  List.pairwise_map.mpr (List.Pairwise.imp (fun {a b} ne e => ne (by cases e; rfl)) h)
def amt (ps : List (Cs × Nat)) : D := .ins 0 [.ptp (ps.map prD), .dct (kvD ps)]
theorem init {ps : List (Cs × Nat)} (h : Good ps) : c (k + 4) 30 [.loc S.length, .d (.ptp (ps.map prD))] (S ++ [.ins 0 []]) = .ok (.d .non) (S ++ [.ins 0 [some (.ptp (ps.map prD)), some (.dct (kvD ps))]]) := by
  rw [ca (fn := ⟨2, 2, b_AmountsD_initD, .all⟩) rfl rfl rfl]
  have e := are_pairs (k := k) (S := S ++ [.ins 0 []]) h
  have d := dofL_kv (ps := ps) (acc := []) (by simpa using map_s_nodup (asc_nd h.asc))
  rw [List.nil_append] at d
  have e2 : exec P0 (c (k + 3)) b_AmountsD_initD [some (.loc S.length), some (.d (.ptp (ps.map prD)))] (S ++ [.ins 0 []]) = .nx [some (.loc S.length), some (.d (.ptp (ps.map prD)))] (S ++ [.ins 0 [some (.ptp (ps.map prD)), some (.dct (kvD ps))]]) := by
    unfold b_AmountsD_initD
    simp [exec, ev, evs, R.st, R.bind, D.wk, e, P0, d, R.opt, putF]
  show fin (S ++ [Ob.ins 0 []]).length (exec P0 (c (k + 3)) b_AmountsD_initD [some (.loc S.length), some (.d (.ptp (ps.map prD)))] (S ++ [.ins 0 []])) = _
  rw [e2]
  simp only [fin]
  rw [List.take_of_length_le (by simp)]
theorem mk {ps : List (Cs × Nat)} (h : Good ps) : mkV (c (k + 4)) 0 30 [.d (.ptp (ps.map prD))] S = .ok (.d (amt ps)) S := by
  unfold mkV
  rw [init h]
  simp [R.bind, allD, amt]
theorem pairs {ps : List (Cs × Nat)} : c (k + 1) 32 [.d (amt ps)] S = .ok (.d (.tup (ps.map prD))) S := by
  rw [ca (fn := ⟨1, 1, b_Amounts_pairs, .all⟩) rfl rfl rfl, ← fin_ret]
  refine congrArg (fin S.length) ?_
  show exec P0 (c k) b_Amounts_pairs [some (.d (amt ps))] S = _
  unfold b_Amounts_pairs
  simp [exec, ev, R.st, R.bind, P0, fldOf, amt, D.wk, R.opt]
end K03
end
section
set_option maxRecDepth 100000
set_option maxHeartbeats 1000000
set_option exponentiation.threshold 2000
namespace K03
open Iv Pw
theorem lt_asym : ∀ {a b : Cs}, ltCs a b = true → ltCs b a = false
  | [], [], h => by simp [ltCs] at h
  | [], _ :: _, _ => rfl
  | _ :: _, [], h => by simp [ltCs] at h
  | x :: a, y :: b, h => by
    simp only [ltCs] at h ⊢
    split at h
    · rw [if_neg (by omega), if_neg (by omega)]
    · split at h
      · rename_i e; subst e
        rw [if_neg (by omega), if_pos rfl]
        exact lt_asym h
      · cases h
theorem lt_neg : ∀ {a b c : Cs}, ltCs c a = true → ltCs b a = true ∨ ltCs c b = true
  | a, b, [], h => by
    cases a with
    | nil => simp [ltCs] at h
    | cons x a => cases b with
      | nil => exact .inl rfl
      | cons y b => exact .inr rfl
  | [], b, _ :: _, h => by simp [ltCs] at h
  | x :: a, [], z :: c, h => .inl rfl
  | x :: a, y :: b, z :: c, h => by
    simp only [ltCs] at h ⊢
    by_cases h1 : y < x
    · rw [if_pos h1]; exact .inl rfl
    · by_cases h2 : z < y
      · right; rw [if_pos h2]
      · rw [if_neg h1, if_neg h2]
        by_cases h3 : z < x
        · omega
        · rw [if_neg h3] at h
          by_cases h4 : z = x
          · rw [if_pos h4] at h
            have h5 : y = x := by omega
            have h6 : z = y := by omega
            rw [if_pos h5, if_pos h6]
            exact lt_neg h
          · rw [if_neg h4] at h; cases h
theorem lt_tri : ∀ {a b : Cs}, ltCs b a = false → a ≠ b → ltCs a b = true
  | [], [], _, h => absurd rfl h
  | [], _ :: _, _, _ => rfl
  | _ :: _, [], h, _ => by simp [ltCs] at h
  | x :: a, y :: b, h, ne => by
    simp only [ltCs] at h ⊢
    by_cases h1 : x < y
    · rw [if_pos h1]
    · rw [if_neg h1]
      by_cases h2 : x = y
      · subst h2
        rw [if_neg (by omega), if_pos rfl] at h
        rw [if_pos rfl]
        exact lt_tri h fun e => ne (by rw [e])
      · rw [if_pos (by omega)] at h; cases h
theorem asc_one : ∀ {l m : List Cs}, l.Perm m → l.Pairwise (fun a b => ltCs a b = true) → m.Pairwise (fun a b => ltCs a b = true) → l = m
  | [], m, p, _, _ => by rw [List.nil_perm.mp p]
  | a :: l, [], p, _, _ => by simp at p
  | a :: l, b :: m, p, hl, hm => by
    rw [List.pairwise_cons] at hl hm
    have e : a = b := by
      by_cases q : a = b
      · exact q
      · have h1 : a ∈ b :: m := p.subset List.mem_cons_self
        have h2 : b ∈ a :: l := p.symm.subset List.mem_cons_self
        have h3 := hm.1 a ((List.mem_cons.mp h1).resolve_left q)
        have h4 := hl.1 b ((List.mem_cons.mp h2).resolve_left fun z => q z.symm)
        rw [lt_asym h3] at h4; cases h4
    subst e
    rw [asc_one (List.Perm.cons_inv p) hl.2 hm.2]
theorem numOf_ge : ∀ (t : Cs) (a v : Nat), numOf t a = some v → a ≤ v
  | [], a, v, h => by cases h; exact Nat.le_refl _
  | x :: xs, a, v, h => by
    simp only [numOf] at h
    split at h
    · have := numOf_ge xs _ v h; omega
    · cases h
theorem val_pos {d : Cs} (h : numB d = true) : 1 ≤ val d := by
  obtain ⟨h1, h2⟩ := num_D h
  obtain ⟨v, e⟩ := numOf_dig 0 h2
  have e2 : val d = v := by simp [val, e]
  rw [e2]
  cases d with
  | nil => exact absurd rfl h1
  | cons x xs =>
    have hx : isN x = true := by simp only [numB, Bool.and_eq_true] at h; exact h.1.1
    have hx2 : 49 ≤ x ∧ x ≤ 57 := by simpa [isN] using hx
    simp only [numOf, if_pos (show 48 ≤ x ∧ x ≤ 57 by omega)] at e
    have := numOf_ge xs _ v e
    omega
theorem chkL_good : ∀ (es : List Ent) (seen qs : List (Cs × Nat)), (∀ e ∈ es, kindB e.1 = true ∧ e.1 ≠ NOTH ∧ numB e.2.2.1 = true) → (∀ p ∈ seen, kindB p.1 = true ∧ p.1 ≠ NOTH ∧ 1 ≤ p.2 ∧ p.2 ≤ 1000000) → chkL seen es = .ok qs → ∀ p ∈ qs, kindB p.1 = true ∧ p.1 ≠ NOTH ∧ 1 ≤ p.2 ∧ p.2 ≤ 1000000
  | [], seen, qs, he, hs, h => by simp only [chkL, Except.ok.injEq] at h; subst h; exact hs
  | (w, kp, d, np) :: es, seen, qs, he, hs, h => by
    simp only [chkL] at h
    split at h
    · cases h
    · split at h
      · cases h
      · rename_i hv
        obtain ⟨q1, q2, q3⟩ := he _ (List.mem_cons_self ..)
        refine chkL_good es _ qs (fun e hm => he e (List.mem_cons_of_mem _ hm)) (fun p hp => ?_) h
        rcases List.mem_append.mp hp with hp | hp
        · exact hs p hp
        · simp only [List.mem_singleton] at hp
          subst hp
          exact ⟨q1, q2, val_pos q3, by dsimp only; omega⟩
theorem ents_good : ∀ (ps : List Cs) (o : Nat), (∀ p ∈ ps, entB p = true) → ∀ e ∈ entsP o ps, kindB e.1 = true ∧ e.1 ≠ NOTH ∧ numB e.2.2.1 = true
  | [], o, _, e, he => by cases he
  | p :: ps, o, h, e, he => by
    rcases List.mem_cons.mp he with rfl | he
    · obtain ⟨w, d, e1, e2, e3, e4⟩ := entW_form (h p (List.mem_cons_self ..))
      unfold entOf
      rw [e1]
      exact ⟨e2, e3, e4⟩
    · exact ents_good ps _ (fun q hq => h q (List.mem_cons_of_mem _ hq)) e he
end K03
end
section
set_option maxRecDepth 100000
set_option maxHeartbeats 1000000
set_option exponentiation.threshold 2000
namespace K03
open Iv Pw
theorem srt_asc {ps : List (Cs × Nat)} (nd : (ps.map (·.1)).Nodup) : ((srtP ps).map (·.1)).Pairwise fun a b => ltCs a b = true := by
  have hp : (srtP ps).Perm ps := List.mergeSort_perm ..
  have nd' : ((srtP ps).map (·.1)).Nodup := (hp.map _).nodup_iff.mpr nd
  have hs : (srtP ps).Pairwise fun a b => (!ltCs b.1 a.1) = true := by
    refine List.pairwise_mergeSort (le := fun a b : Cs × Nat => !ltCs b.1 a.1) ?_ ?_ ps
    · intro a b d h1 h2
      simp only [Bool.not_eq_true'] at h1 h2 ⊢
      cases h : ltCs d.1 a.1 with
      | false => rfl
      | true =>
        rcases lt_neg (b := b.1) h with q | q
        · rw [q] at h1; cases h1
        · rw [q] at h2; cases h2
    · intro a b
      cases h : ltCs b.1 a.1 with
      | false => rfl
      | true => simp only [lt_asym h]; rfl
  rw [List.pairwise_map]
  have nd2 : (srtP ps).Pairwise fun a b => a.1 ≠ b.1 := by
    have := nd'
    unfold List.Nodup at this
    rwa [List.pairwise_map] at this
  exact (List.Pairwise.and hs nd2).imp fun {a b} h => lt_tri (by simpa using h.1) h.2
theorem good_srt {ps : List (Cs × Nat)} (nd : (ps.map (·.1)).Nodup) (h : ∀ p ∈ ps, kindB p.1 = true ∧ p.1 ≠ NOTH ∧ 1 ≤ p.2 ∧ p.2 ≤ 1000000) (hl : ps.length ≤ 60) : Good (srtP ps) :=
  ⟨fun p hp => h p (srt_mem.mp hp), srt_asc nd, by
    have : (srtP ps).length = ps.length := List.length_mergeSort _
    omega⟩
end K03
end
section
set_option maxRecDepth 100000
set_option maxHeartbeats 1000000
set_option exponentiation.threshold 2000
namespace K03
open Iv Pw
variable {k : Nat} {S : Hs}
theorem due_good {t : Cs} {ps : List (Cs × Nat)} (hc : (splitC 44 t).length ≤ 60) (h : dueE t = .ok ps) : (ps.map (·.1)).Nodup ∧ (∀ p ∈ ps, kindB p.1 = true ∧ p.1 ≠ NOTH ∧ 1 ≤ p.2 ∧ p.2 ≤ 1000000) ∧ ps.length ≤ (splitC 44 t).length := by
  unfold dueE at h
  cases hf : fb (.s0 true) t with
  | some z => rw [hf] at h; cases h
  | none =>
    rw [hf] at h
    dsimp only at h
    split at h
    · cases h
      exact ⟨List.nodup_nil, (fun p hp => by cases hp), Nat.zero_le _⟩
    · split at h
      · cases h
      · rename_i p hp
        split at h
        · rename_i he
          have hall := all_ent hf hp he
          obtain ⟨nd, ln⟩ := chkL_nd _ [] ps (by simp) h
          refine ⟨nd, chkL_good _ [] ps (ents_good _ 0 hall) (fun p hp => by cases hp) h, ?_⟩
          rw [ln, entsP_len]
          simp only [List.length_nil]; omega
        · cases h
theorem of_textX {t : Cs} {x : Except Nat (List (Cs × Nat))} (hl : t.length ≤ 500) (hpx : parse t = x) (hgx : ∀ ps, x = .ok ps → (ps.map (·.1)).Nodup ∧ (∀ p ∈ ps, kindB p.1 = true ∧ p.1 ≠ NOTH ∧ 1 ≤ p.2 ∧ p.2 ≤ 1000000) ∧ ps.length ≤ 60) : c (k + 5) 31 [.d (.cls 0), .d (.str t)] S = match x with
    | .error z => .exc 0 [.int z] S
    | .ok ps => .ok (.d (amt (srtP ps))) S := by
  rw [ca (fn := ⟨2, 2, b_Amounts_of_text, .all⟩) rfl rfl rfl]
  show fin S.length (exec P0 (c (k + 4)) b_Amounts_of_text [some (.d (.cls 0)), some (.d (.str t))] S) = _
  unfold b_Amounts_of_text
  have V : ev P0 (c (k + 4)) (.var 1) [some (.d (.cls 0)), some (.d (.str t))] S = .ok (.d (.str t)) S := v_var (i := 1) (x := .str t) rfl
  have e1 : ev P0 (c (k + 4)) (.isi (.var 1) .str) [some (.d (.cls 0)), some (.d (.str t))] S = .ok (.d (.bl true)) S := by
    rw [ev, V]; simp only [R.bind, isiD, isTy, Option.map_some, R.opt]
  rw [x_nx (x_go (v_not e1))]
  have hp := pairs_in (k := k) (S := S) (t := t) (by omega)
  rw [hpx] at hp
  have ec := v_call (v_one V) hp
  cases x with
  | error z =>
    dsimp only at ec ⊢
    have e2 : ev P0 (c (k + 4)) (.mkc 0 0 (.cons (.ptl (.srt (.call 13 (.cons (.var 1) .nil)))) .nil)) [some (.d (.cls 0)), some (.d (.str t))] S = .exc 0 [.int z] S := by
      have e3 : ev P0 (c (k + 4)) (.srt (.call 13 (.cons (.var 1) .nil))) [some (.d (.cls 0)), some (.d (.str t))] S = .exc 0 [.int z] S := by
        rw [ev, ec]; rfl
      have e4 : ev P0 (c (k + 4)) (.ptl (.srt (.call 13 (.cons (.var 1) .nil)))) [some (.d (.cls 0)), some (.d (.str t))] S = .exc 0 [.int z] S := by
        rw [ev, e3]; rfl
      have e5 : evs P0 (c (k + 4)) (.cons (.ptl (.srt (.call 13 (.cons (.var 1) .nil)))) .nil) [some (.d (.cls 0)), some (.d (.str t))] S = .exc 0 [.int z] S := by
        rw [evs, e4]; rfl
      have hm : P0.mks[0]? = some (0, 30) := rfl
      simp only [ev, List.getElem?_cons_zero, hm, e5, if_true, R.bind]
    have : exec P0 (c (k + 4)) (.ret (.mkc 0 0 (.cons (.ptl (.srt (.call 13 (.cons (.var 1) .nil)))) .nil))) [some (.d (.cls 0)), some (.d (.str t))] S = .exc 0 [.int z] [some (.d (.cls 0)), some (.d (.str t))] S := by
      simp only [exec, e2, R.st]
    exact (congrArg (fin S.length) (x_exc this)).trans (fin_exc ..)
  | ok ps =>
    dsimp only at ec ⊢
    obtain ⟨nd, hg, hn⟩ := hgx ps rfl
    have e3 : ev P0 (c (k + 4)) (.srt (.call 13 (.cons (.var 1) .nil))) [some (.d (.cls 0)), some (.d (.str t))] S = .ok (.d (.lst ((srtP ps).map prD))) S := by
      rw [ev, ec]
      simp only [R.bind, srtL, rdK, rdV]
      rw [if_pos (ok_pairs (by omega)), sort_pairs nd]
    have e4 : ev P0 (c (k + 4)) (.ptl (.srt (.call 13 (.cons (.var 1) .nil)))) [some (.d (.cls 0)), some (.d (.str t))] S = .ok (.d (.ptp ((srtP ps).map prD))) S := by
      rw [ev, e3]; rfl
    have hm : P0.mks[0]? = some (0, 30) := rfl
    have e2 : ev P0 (c (k + 4)) (.mkc 0 0 (.cons (.ptl (.srt (.call 13 (.cons (.var 1) .nil)))) .nil)) [some (.d (.cls 0)), some (.d (.str t))] S = .ok (.d (amt (srtP ps))) S := by
      simp only [ev, List.getElem?_cons_zero, hm, v_one e4, if_true, R.bind]
      exact mk (good_srt nd hg hn)
    rw [x_ret (x_retv e2)]
    exact fin_ret ..
theorem of_text {t : Cs} (hl : t.length ≤ 500) (hc : (splitC 44 t).length ≤ 60) : c (k + 5) 31 [.d (.cls 0), .d (.str t)] S = match dueE t with
    | .error z => .exc 0 [.int z] S
    | .ok ps => .ok (.d (amt (srtP ps))) S :=
  of_textX hl (parse_due hl hc) fun ps h => by
    obtain ⟨h1, h2, h3⟩ := due_good hc h
    exact ⟨h1, h2, by omega⟩
end K03
end
section
set_option maxRecDepth 100000
set_option maxHeartbeats 1000000
set_option exponentiation.threshold 2000
namespace K03
open Iv Pw
variable {k : Nat} {S : Hs}
def toldE (x : Except Nat (List (Cs × Nat))) : D := match x with
  | .error z => spotD z
  | .ok ps => .tup [.str [112, 97, 105, 114, 115], .tup ((srtP ps).map prD)]
def toldD (t : Cs) : D := toldE (dueE t)
theorem law_toldX {t : Cs} {x : Except Nat (List (Cs × Nat))} (hl : t.length ≤ 500) (hpx : parse t = x) (hgx : ∀ ps, x = .ok ps → (ps.map (·.1)).Nodup ∧ (∀ p ∈ ps, kindB p.1 = true ∧ p.1 ≠ NOTH ∧ 1 ≤ p.2 ∧ p.2 ≤ 1000000) ∧ ps.length ≤ 60) : c (k + 6) 24 [.d (.str t)] S = .ok (.d (toldE x)) S := by
  rw [ca (fn := ⟨1, 2, b__law_told, .all⟩) rfl rfl rfl, ← fin_ret]
  refine congrArg (fin S.length) ?_
  show exec P0 (c (k + 5)) b__law_told [some (.d (.str t)), none] S = _
  unfold b__law_told toldE
  have hm : P0.cms[0]? = some (0, 31) := rfl
  have hq : P0.prs[0]? = some (0, 32) := rfl
  have ho := of_textX (k := k) (S := S) hl hpx hgx
  have ec : ev P0 (c (k + 5)) (.cme 0 (.cons (.var 0) .nil)) [some (.d (.str t)), none] S = c (k + 5) 31 [.d (.cls 0), .d (.str t)] S := by
    simp only [ev, hm, v_one (v_var (P := P0) (cal := c (k + 5)) (S := S) (r := [some (.d (.str t)), none]) (i := 0) (x := .str t) rfl), R.bind, D.wk]
  rw [ho] at ec
  cases x with
  | ok ps =>
    dsimp only at ec ⊢
    have ep : ev P0 (c (k + 5)) (.prp 0 (.cme 0 (.cons (.var 0) .nil))) [some (.d (.str t)), none] S = .ok (.d (.tup ((srtP ps).map prD))) S := by
      have hi : insOf 0 (.d (amt (srtP ps))) S = true := rfl
      rw [ev]
      simp only [hq, ec, R.bind, hi, if_true]
      rw [pairs (k := k + 4)]
      rfl
    have e1 : ev P0 (c (k + 5)) (.tup (.cons (.str [112, 97, 105, 114, 115]) (.cons (.prp 0 (.cme 0 (.cons (.var 0) .nil))) .nil))) [some (.d (.str t)), none] S = .ok (.d (.tup [.str [112, 97, 105, 114, 115], .tup ((srtP ps).map prD)])) S := by
      rw [ev, v_cons v_str (v_one ep)]
      simp only [R.bind, dsOf, Option.map_some, List.length_cons, List.length_nil]
      rw [if_pos (by decide)]
    refine x_ret ?_
    simp only [exec, e1, R.st]
  | error z =>
    dsimp only at ec ⊢
    have ep : ev P0 (c (k + 5)) (.prp 0 (.cme 0 (.cons (.var 0) .nil))) [some (.d (.str t)), none] S = .exc 0 [.int z] S := by
      rw [ev]
      simp only [hq, ec, R.bind]
    have e1 : ev P0 (c (k + 5)) (.tup (.cons (.str [112, 97, 105, 114, 115]) (.cons (.prp 0 (.cme 0 (.cons (.var 0) .nil))) .nil))) [some (.d (.str t)), none] S = .exc 0 [.int z] S := by
      have e0 : evs P0 (c (k + 5)) (.cons (.str [112, 97, 105, 114, 115]) (.cons (.prp 0 (.cme 0 (.cons (.var 0) .nil))) .nil)) [some (.d (.str t)), none] S = .exc 0 [.int z] S := by
        rw [evs, v_str]
        simp only [R.bind]
        rw [evs, ep]
        rfl
      rw [ev, e0]; rfl
    refine x_ret ?_
    have e2 : ev P0 (c (k + 5)) (.tup (.cons (.str [115, 112, 111, 116]) (.cons (.fld 1 0) .nil))) [some (.d (.str t)), some (.xc 0 [.int z])] S = .ok (.d (spotD z)) S := by
      refine v_spot ?_
      simp [ev, R.opt]
    have hsub : P0.sub 0 0 = true := by decide
    simp only [exec, e1, R.st, exh, hsub, if_true]
    show (match ev P0 (c (k + 5)) (.tup (.cons (.str [115, 112, 111, 116]) (.cons (.fld 1 0) .nil))) [some (.d (.str t)), some (.xc 0 [.int z])] S with
      | .ok v S1 => RS.ret v S1
      | _ => .bad) = _
    rw [e2]
theorem law_told {t : Cs} (hl : t.length ≤ 500) (hc : (splitC 44 t).length ≤ 60) : c (k + 6) 24 [.d (.str t)] S = .ok (.d (toldD t)) S :=
  law_toldX hl (parse_due hl hc) fun ps h => by
    obtain ⟨h1, h2, h3⟩ := due_good hc h
    exact ⟨h1, h2, by omega⟩
end K03
end
section
set_option maxRecDepth 100000
set_option maxHeartbeats 1000000
set_option exponentiation.threshold 2000
namespace K03
open Iv Pw
variable {k : Nat} {S : Hs}
/-! ### numbers, written -/
theorem digs_len : ∀ (m f n : Nat) (acc : Cs), n < 10 ^ (m + 1) → (digs f n acc).length ≤ acc.length + m + 1
  | m, 0, n, acc, h => by simp only [digs]; omega
  | m, f + 1, n, acc, h => by
    simp only [digs]
    by_cases hn : n < 10
    · rw [if_pos hn]; simp only [List.length_cons]; omega
    · rw [if_neg hn]
      cases m with
      | zero => omega
      | succ m =>
        have := digs_len m f (n / 10) ((48 + n % 10) :: acc) (by
          have : 10 ^ (m + 1 + 1) = 10 * 10 ^ (m + 1) := by rw [Nat.pow_succ]; omega
          rw [this] at h
          exact Nat.div_lt_of_lt_mul h)
        simp only [List.length_cons] at this
        omega
theorem dig_val {n : Nat} (h : n < 10) (a : Nat) (cs : Cs) : numOf ((48 + n) :: cs) a = numOf cs (a * 10 + n) := by
  simp only [numOf]
  rw [if_pos (by omega)]
  congr 2; omega
theorem digs_num : ∀ (f n : Nat) (acc : Cs), n < f → numOf (digs f n acc) 0 = numOf acc n
  | 0, n, acc, h => by omega
  | f + 1, n, acc, h => by
    simp only [digs]
    by_cases hn : n < 10
    · rw [if_pos hn, dig_val hn]; congr 1; omega
    · rw [if_neg hn, digs_num f _ _ (by omega), dig_val (by omega)]; congr 1; omega
theorem digs_D : ∀ (f n : Nat) (acc : Cs), acc.all isD = true → (digs f n acc).all isD = true
  | 0, n, acc, h => h
  | f + 1, n, acc, h => by
    simp only [digs]
    by_cases hn : n < 10
    · rw [if_pos hn, List.all_cons, h]; simp [isD]; omega
    · rw [if_neg hn]; refine digs_D f _ _ ?_; rw [List.all_cons, h]; simp [isD]; omega
theorem digs_N : ∀ (f n : Nat) (acc : Cs), n < f → 1 ≤ n → ∃ x xs, digs f n acc = x :: xs ∧ isN x = true
  | 0, n, acc, h, _ => by omega
  | f + 1, n, acc, h, h1 => by
    simp only [digs]
    by_cases hn : n < 10
    · rw [if_pos hn]; exact ⟨_, _, rfl, by simp [isN]; omega⟩
    · rw [if_neg hn]; exact digs_N f _ _ (by omega) (by omega)
theorem dec_val (n : Nat) : val (decN n) = n := by
  unfold val decN
  rw [digs_num _ _ _ (by omega)]; rfl
theorem dec_len {n : Nat} (h : n < 10000000) : (decN n).length ≤ 7 := by
  have := digs_len 6 (n + 1) n [] (by omega)
  simpa [decN] using this
theorem dec_num {n : Nat} (h1 : 1 ≤ n) (h : n < 10000000) : numB (decN n) = true := by
  obtain ⟨x, xs, e, hx⟩ := digs_N (n + 1) n [] (by omega) h1
  have hD := digs_D (n + 1) n [] rfl
  have hl := dec_len h
  unfold decN at hl ⊢
  rw [e] at hD hl ⊢
  rw [List.all_cons] at hD
  simp only [numB, hx, (Bool.and_eq_true _ _ ▸ hD).2, Bool.true_and, decide_eq_true_eq]
  simp only [List.length_cons] at hl; omega
theorem decI_nat (n : Nat) : decI (n : Int) = decN n := by
  unfold decI
  rw [if_neg (by omega)]; rfl
/-! ### what is written is read -/
theorem split_has {x : Nat} : ∀ {t : Cs} {y : Nat}, y ∈ t → y ≠ x → ∃ w ∈ splitC x t, y ∈ w
  | [], y, h, _ => by cases h
  | z :: zs, y, h, hy => by
    by_cases hz : z = x
    · subst hz
      rcases List.mem_cons.mp h with rfl | h
      · exact absurd rfl hy
      · obtain ⟨w, a, b⟩ := split_has h hy
        exact ⟨w, by rw [split_sep]; exact List.mem_cons_of_mem _ a, b⟩
    · simp only [splitC, if_neg hz]
      cases e : splitC x zs with
      | nil => exact absurd e (split_ne zs)
      | cons s ss =>
        dsimp only
        rcases List.mem_cons.mp h with rfl | h
        · exact ⟨_, List.mem_cons_self .., List.mem_cons_self ..⟩
        · obtain ⟨w, a, b⟩ := split_has h hy
          rw [e] at a
          rcases List.mem_cons.mp a with rfl | a
          · exact ⟨_, List.mem_cons_self .., List.mem_cons_of_mem _ b⟩
          · exact ⟨w, List.mem_cons_of_mem _ a, b⟩
theorem wds_noth {t : Cs} (h : wds t = [NOTH]) : ∀ c ∈ t, c ≠ 44 := by
  intro y hy e
  subst e
  obtain ⟨w, a, b⟩ := split_has (x := 32) hy (by decide)
  have hw : w ∈ wds t := by
    rw [wds_split]
    refine List.mem_filter.mpr ⟨a, ?_⟩
    unfold ne
    cases w with
    | nil => cases b
    | cons z zs => rfl
  rw [h] at hw
  rw [List.mem_singleton.mp hw] at b
  exact absurd b (by decide)
theorem last_ok {f : Bool} {p : Cs} (h : entB p = true) : lastB f (wds p) (trB p) = true := by
  obtain ⟨w, d, e, h1, h2, h3⟩ := entW_form h
  rw [e]
  simp [lastB, h1, h2, h3]
theorem ent_mk {j0 w j d j1} (hw : kindB w = true) (hN : w ≠ NOTH) (hj : 0 < j) (hd' : numB d = true) : entB (mkPart j0 w j d j1) = true := by
  unfold entB
  rw [part_wds hw hj hd']
  simp [entW, hw, hN, hd']
/-- parts that are written so: the pairs, with blanks -/
inductive Wr : List Cs → List (Cs × Nat) → Prop
  | nil : Wr [] []
  | cons {qs ps} (j0 : Nat) (p : Cs × Nat) (j j1 : Nat) : 0 < j → Wr qs ps → Wr (mkPart j0 p.1 j (decN p.2) j1 :: qs) (p :: ps)
def Okp (p : Cs × Nat) : Prop := kindB p.1 = true ∧ p.1 ≠ NOTH ∧ 1 ≤ p.2 ∧ p.2 ≤ 1000000
theorem wr_ent : ∀ {qs ps}, Wr qs ps → (∀ p ∈ ps, Okp p) → (∀ q ∈ qs, entB q = true) ∧ qs.length = ps.length
  | _, _, .nil, _ => ⟨(fun _ h => by cases h), rfl⟩
  | _, _, .cons j0 p j j1 hj w, h => by
    obtain ⟨a, b, d, e⟩ := h p (List.mem_cons_self ..)
    obtain ⟨i1, i2⟩ := wr_ent w fun p hp => h p (List.mem_cons_of_mem _ hp)
    refine ⟨fun q hq => ?_, by simp [i2]⟩
    rcases List.mem_cons.mp hq with rfl | hq
    · exact ent_mk a b hj (dec_num d (by omega))
    · exact i1 q hq
theorem wr_chk : ∀ {qs ps}, Wr qs ps → (∀ p ∈ ps, Okp p) → ∀ (o : Nat) (seen : List (Cs × Nat)), ((seen ++ ps).map (·.1)).Nodup → chkL seen (entsP o qs) = .ok (seen ++ ps)
  | _, _, .nil, _, o, seen, _ => by simp [entsP, chkL]
  | _, _, .cons (qs := qs) (ps := ps) j0 p j j1 hj w, h, o, seen, nd => by
    obtain ⟨a, b, d, e⟩ := h p (List.mem_cons_self ..)
    have hn := dec_num d (by omega)
    simp only [entsP, ent_part a hj hn, chkL]
    rw [if_neg ?_, if_neg (by rw [dec_val]; omega), dec_val, wr_chk w (fun p hp => h p (List.mem_cons_of_mem _ hp))]
    · simp
    · simpa using nd
    · intro hx
      obtain ⟨q, hq, e2⟩ := List.any_eq_true.mp hx
      rw [List.map_append, List.nodup_append] at nd
      exact nd.2.2 q.1 (List.mem_map_of_mem hq) p.1 (by simp) (of_decide_eq_true e2)
theorem read_parts {t : Cs} {qs : List Cs} {ps : List (Cs × Nat)} (hs : splitC 44 t = qs) (w : Wr qs ps) (h : ∀ p ∈ ps, Okp p) (nd : (ps.map (·.1)).Nodup) : dueE t = .ok ps := by
  obtain ⟨h1, h2⟩ := wr_ent w h
  have hf : fb (.s0 true) t = none := by
    have := alive_parts t
    have hl : ∀ f, lastB f (wds ((splitC 44 t).getLast (split_ne t))) (trB ((splitC 44 t).getLast (split_ne t))) = true := fun f =>
      last_ok (h1 _ (by rw [← hs]; exact List.getLast_mem _))
    rw [hl, Bool.and_true] at this
    rw [List.all_eq_true.mpr (fun q hq => h1 q (by rw [← hs]; exact List.dropLast_subset _ hq))] at this
    exact Option.isNone_iff_eq_none.mp this
  unfold dueE
  rw [hf]
  dsimp only
  rw [if_neg ?_]
  · cases hg : (splitC 44 t).getLast? with
    | none => exact absurd (List.getLast?_eq_none_iff.mp hg) (split_ne t)
    | some p =>
      dsimp only
      rw [if_pos (h1 p (by rw [← hs]; exact List.mem_of_getLast? hg)), hs]
      have := wr_chk w h 0 [] (by simpa using nd)
      simpa using this
  · intro e
    have h44 := wds_noth e
    have e2 := split_none h44
    have := h1 t (by rw [← hs, e2]; exact List.mem_singleton.mpr rfl)
    unfold entB at this
    rw [e] at this
    exact absurd this (by decide)
end K03
end
section
set_option maxRecDepth 100000
set_option maxHeartbeats 1000000
set_option exponentiation.threshold 2000
namespace K03
open Iv Pw
variable {k : Nat} {S : Hs}
theorem plains_pr : ∀ (ps : List (Cs × Nat)) (n : Nat), D.plains (ps.map prD) (n + 1) = true
  | [], n => by simp only [List.map_nil, D.plains]
  | p :: ps, n => by
    simp only [List.map_cons, D.plains, plains_pr ps n, prD, D.plain, Bool.and_self]
theorem eqvs_pr : ∀ (ps : List (Cs × Nat)), D.eqvs (ps.map prD) (ps.map prD) = true
  | [] => by simp only [List.map_nil, D.eqvs]
  | p :: ps => by
    simp only [List.map_cons, D.eqvs, eqvs_pr ps, prD, D.eqv, beq_self_eq_true, Bool.and_self]
theorem wkds_pr : ∀ (ps : List (Cs × Nat)), D.wkds (ps.map prD) = ps.map prD
  | [] => by simp only [List.map_nil, D.wkds]
  | p :: ps => by
    simp only [List.map_cons, D.wkds, wkds_pr ps, prD, D.wkd]
theorem pl_pr (ps : List (Cs × Nat)) : D.plain (.tup (ps.map prD)) deep = true := plains_pr ps 28
theorem eq_pr (ps : List (Cs × Nat)) : D.eqv (.tup (ps.map prD)) (.tup (ps.map prD)) = true := by
  simp only [D.eqv, eqvs_pr]
theorem pl_told (x : Except Nat (List (Cs × Nat))) : D.plain (toldE x) deep = true := by
  cases x with
  | error z => rfl
  | ok ps =>
    show (true && (D.plains ((srtP ps).map prD) 28 && true)) = true
    rw [plains_pr _ 27]; rfl
theorem eq_told (x : Except Nat (List (Cs × Nat))) : D.eqv (toldE x) (toldE x) = true := by
  cases x with
  | error z => simp [toldE, spotD, D.eqv, D.eqvs]
  | ok ps => simp [toldE, D.eqv, D.eqvs, eqvs_pr]
theorem wkd_due (t : Cs) : (dueD t).wkd = toldD t := by
  unfold dueD toldD
  cases dueE t with
  | error z => simp only [spotD, toldE, D.wkd, D.wkds]
  | ok ps => simp only [pairsD, toldE, D.wkd, D.wkds, wkds_pr]
/-! ### == and str -/
theorem amt_eq {ps : List (Cs × Nat)} : c (k + 1) 33 [.d (amt ps), .d (amt ps)] S = .ok (.d (.bl true)) S := by
  rw [ca (fn := ⟨2, 2, b_AmountsD_eqD, .all⟩) rfl rfl rfl, ← fin_ret]
  refine congrArg (fin S.length) ?_
  show exec P0 (c k) b_AmountsD_eqD [some (.d (amt ps)), some (.d (amt ps))] S = _
  unfold b_AmountsD_eqD
  refine x_ret (x_retv ?_)
  have hq : P0.sls[0]? = some (0, 0) := rfl
  have hi : P0.isc 0 0 = some true := rfl
  have V : ∀ i, i = 0 ∨ i = 1 → ev P0 (c k) (.var i) [some (.d (amt ps)), some (.d (amt ps))] S = .ok (.d (amt ps)) S := by
    rintro i (rfl | rfl) <;> exact v_var (x := amt ps) rfl
  have L : ∀ i, i = 0 ∨ i = 1 → ev P0 (c k) (.slt 0 (.var i)) [some (.d (amt ps)), some (.d (amt ps))] S = .ok (.d (.tup (ps.map prD))) S := by
    intro i h
    rw [ev, V i h]
    simp only [R.bind, hq]
    rfl
  refine v_ands ?_ (v_1 ?_)
  · rw [ev, V 1 (.inr rfl)]
    simp only [R.bind, amt, hi]
  · rw [ev, L 0 (.inl rfl)]
    simp only [R.bind]
    rw [L 1 (.inr rfl)]
    simp only [rdV, cmpD, pl_pr, eq_pr, Bool.and_self, if_true, Option.map_some, R.opt]
def wp (p : Cs × Nat) : Cs := p.1 ++ [32] ++ decN p.2
def wrP (ps : List (Cs × Nat)) : Cs := if ps = [] then NOTH else joinC [44, 32] (ps.map wp)
def gW (x : D) : D := match x with
  | .tup [.str w, .int n] => .str (w ++ [32] ++ decI n)
  | y => y
theorem gW_map : ∀ ps : List (Cs × Nat), (ps.map prD).map gW = (ps.map wp).map .str
  | [] => rfl
  | p :: ps => by
    simp only [List.map_cons, gW_map ps]
    congr 1
    try simp only [prD, gW, wp, decI_nat]
theorem strs_map : ∀ l : List Cs, strsOf (l.map .str) = some l
  | [] => rfl
  | x :: xs => by simp [strsOf, strs_map xs]
theorem lens_le {m : Nat} : ∀ l : List Cs, (∀ x ∈ l, x.length ≤ m) → lens l ≤ m * l.length
  | [], _ => Nat.zero_le _
  | x :: xs, h => by
    have a := lens_le xs fun y hy => h y (List.mem_cons_of_mem _ hy)
    have b := h x (List.mem_cons_self ..)
    simp only [lens, List.length_cons, Nat.mul_add]; omega
theorem v_join {P : Prg} {cal : Cal} {r : Ev} {e : Ex} {s : Cs} {l : List Cs} {S1 : Hs} (h : ev P cal e r S = .ok (.d (.lst (l.map .str))) S1) (hs : s.length ≤ 100) (hl : l.length ≤ 1000) (h2 : ∀ x ∈ l, x.length ≤ 1000) : ev P cal (.meth .join (.str s) (.cons e .nil)) r S = .ok (.d (.str (joinC s l))) S1 := by
  have := lens_le l h2
  have hb : big = 1000000 := rfl
  rw [ev, v_str]
  simp only [R.bind]
  rw [v_one h]
  simp only [rdVs, rdV, Option.map_some, Option.bind_some, mtD, strs_map]
  rw [if_pos ⟨hl, hs, by omega⟩]
  rfl
theorem wp_len {p : Cs × Nat} (h : Okp p) : (wp p).length ≤ 16 := by
  have a := kind_len h.1
  have b := dec_len (show p.2 < 10000000 by have := h.2.2.2; omega)
  simp only [wp, List.length_append, List.length_cons, List.length_nil]; omega
theorem text_of_pairs {ps : List (Cs × Nat)} (h : ∀ p ∈ ps, Okp p) (hl : ps.length ≤ 60) : c (k + 1) 6 [.d (.tup (ps.map prD))] S = .ok (.d (.str (wrP ps))) S := by
  rw [ca (fn := ⟨1, 3, b_text_of_pairs, .all⟩) rfl rfl rfl, ← fin_ret]
  refine congrArg (fin S.length) ?_
  show exec P0 (c k) b_text_of_pairs [some (.d (.tup (ps.map prD))), none, none] S = _
  unfold b_text_of_pairs
  refine x_ret (x_retv ?_)
  have V : ev P0 (c k) (.var 0) [some (.d (.tup (ps.map prD))), none, none] S = .ok (.d (.tup (ps.map prD))) S := v_var (x := .tup (ps.map prD)) rfl
  have hN : ev P0 (c k) (.cmp .ne (.var 0) (.tup .nil)) [some (.d (.tup (ps.map prD))), none, none] S = .ok (.d (.bl (!decide (ps = [])))) S := by
    rw [ev, V]
    simp only [R.bind]
    have e0 : ev P0 (c k) (.tup .nil) [some (.d (.tup (ps.map prD))), none, none] S = .ok (.d (.tup [])) S := by
      rw [ev, v_nil]; rfl
    have p0 : D.plain (.tup []) deep = true := rfl
    rw [e0]
    simp only [rdV, cmpD, pl_pr, p0, Bool.and_self, if_true, Option.map_some, R.opt]
    cases ps with
    | nil => rfl
    | cons p ps => rfl
  rw [ev, hN]
  unfold wrP
  by_cases hp : ps = []
  · rw [if_pos hp, decide_eq_true hp]
    simp only [Bool.not_true, R.bind]
    exact g3
  · rw [if_neg hp, decide_eq_false hp]
    simp only [Bool.not_false, R.bind]
    refine v_join ?_ (by decide) (by rw [List.length_map]; omega) (fun x hx => by
      obtain ⟨p, hp, rfl⟩ := List.mem_map.mp hx
      exact Nat.le_trans (wp_len (h p hp)) (by decide))
    have eit : evi P0 (c k) (.one (.var 0)) [some (.d (.tup (ps.map prD))), none, none] S = .ok (ps.map prD) S := by
      rw [evi, V]; rfl
    have e := e_comp (cal := c k) (own := [1, 2]) (t := .tp (.cons (.nm 1) (.cons (.nm 2) .nil))) (c := .bl true) (e := .fjoin (.cons (.fmt (.var 1)) (.cons (.str [32]) (.cons (.fmt (.var 2)) .nil)))) (fun _ => true) gW eit (by rw [List.length_map]; omega) (fun x hx => by
      obtain ⟨p, hp, rfl⟩ := List.mem_map.mp hx
      refine ⟨[some (.d (.tup (ps.map prD))), some (.d (.str p.1)), some (.d (.int p.2))], rfl, by simp only [ev], fun _ => ?_⟩
      have hb : big = 1000000 := rfl
      have h8 := kind_len (h p hp).1
      have h7 := wp_len (h p hp)
      simp only [wp, List.length_append, List.length_cons, List.length_nil] at h7
      have f1 : ev P0 (c k) (.fmt (.var 1)) [some (.d (.tup (ps.map prD))), some (.d (.str p.1)), some (.d (.int p.2))] S = .ok (.d (.str p.1)) S := by
        rw [ev, v_var (x := .str p.1) rfl]
        simp only [R.bind, D.wk]
        rw [if_pos (by omega)]
      have f2 : ev P0 (c k) (.fmt (.var 2)) [some (.d (.tup (ps.map prD))), some (.d (.str p.1)), some (.d (.int p.2))] S = .ok (.d (.str (decI p.2))) S := by
        rw [ev, v_vi (x := (p.2 : Int)) rfl]
        simp only [R.bind]
        have : (2 : Nat) ^ 64 ≤ 2 ^ 1900 := Nat.pow_le_pow_right (by decide) (by decide)
        have h64 : (2 : Nat) ^ 64 = 18446744073709551616 := by decide
        have := (h p hp).2.2.2
        rw [if_pos (by omega)]
      exact v_fjoin (j_cons f1 (by simp only [List.nil_append]; omega) (j_cons (v_str (s := [32])) (by simp only [List.nil_append, List.length_append, List.length_cons, List.length_nil]; omega) (j_cons f2 (by rw [decI_nat]; simp only [List.nil_append, List.length_append, List.length_cons, List.length_nil]; omega) j_nil))))
    rw [List.filter_eq_self.mpr (fun _ _ => rfl), gW_map] at e
    exact e
theorem amt_str {ps : List (Cs × Nat)} (h : ∀ p ∈ ps, Okp p) (hl : ps.length ≤ 60) : c (k + 2) 34 [.d (amt ps)] S = .ok (.d (.str (wrP ps))) S := by
  rw [ca (fn := ⟨1, 1, b_AmountsD_strD, .all⟩) rfl rfl rfl, ← fin_ret]
  refine congrArg (fin S.length) ?_
  show exec P0 (c (k + 1)) b_AmountsD_strD [some (.d (amt ps))] S = _
  unfold b_AmountsD_strD
  refine x_ret (x_retv ?_)
  have hq : P0.sls[0]? = some (0, 0) := rfl
  have L : ev P0 (c (k + 1)) (.slt 0 (.var 0)) [some (.d (amt ps))] S = .ok (.d (.tup (ps.map prD))) S := by
    rw [ev, v_var (x := amt ps) rfl]
    simp only [R.bind, hq, amt, D.wk]
    rfl
  exact v_bi1 (v_call (v_one L) (text_of_pairs h hl)) rfl
end K03
end
section
set_option maxRecDepth 100000
set_option maxHeartbeats 1000000
set_option exponentiation.threshold 2000
namespace K03
open Iv Pw
variable {k : Nat} {S : Hs}
theorem ascP_one : ∀ {l m : List (Cs × Nat)}, l.Perm m → l.Pairwise (fun a b => ltCs a.1 b.1 = true) → m.Pairwise (fun a b => ltCs a.1 b.1 = true) → l = m
  | [], m, p, _, _ => by rw [List.nil_perm.mp p]
  | a :: l, [], p, _, _ => by simp at p
  | a :: l, b :: m, p, hl, hm => by
    rw [List.pairwise_cons] at hl hm
    have e : a = b := by
      by_cases q : a = b
      · exact q
      · have h1 : a ∈ b :: m := p.subset List.mem_cons_self
        have h2 : b ∈ a :: l := p.symm.subset List.mem_cons_self
        have h3 := hm.1 a ((List.mem_cons.mp h1).resolve_left q)
        have h4 := hl.1 b ((List.mem_cons.mp h2).resolve_left fun z => q z.symm)
        rw [lt_asym h3] at h4; cases h4
    subst e
    rw [ascP_one (List.Perm.cons_inv p) hl.2 hm.2]
theorem srt_same {qs ps : List (Cs × Nat)} (hp : qs.Perm ps) (h : (ps.map (·.1)).Pairwise fun a b => ltCs a b = true) : srtP qs = ps := by
  have nd : (qs.map (·.1)).Nodup := (hp.map _).nodup_iff.mpr (asc_nd h)
  have h1 := srt_asc nd
  rw [List.pairwise_map] at h h1
  exact ascP_one ((show (srtP qs).Perm qs from List.mergeSort_perm ..).trans hp) h1 h
/-- a kind and its number, with j blanks between -/
def wj (j : Nat) (p : Cs × Nat) : Cs := p.1 ++ List.replicate j 32 ++ decN p.2
theorem join_split {j a : Nat} (hj : 0 < j) : ∀ (ps : List (Cs × Nat)) (p : Cs × Nat) (j0 : Nat), (∀ q ∈ p :: ps, Okp q) → ∃ qs, splitC 44 (List.replicate j0 32 ++ joinC (List.replicate a 32 ++ [44, 32]) ((p :: ps).map (wj j))) = qs ∧ Wr qs (p :: ps)
  | [], p, j0, h => by
    obtain ⟨h1, h2, h3, h4⟩ := h p (List.mem_cons_self ..)
    have e : List.replicate j0 32 ++ joinC (List.replicate a 32 ++ [44, 32]) ([p].map (wj j)) = mkPart j0 p.1 j (decN p.2) 0 := by
      simp [joinC, wj, mkPart]
    refine ⟨[mkPart j0 p.1 j (decN p.2) 0], ?_, .cons j0 p j 0 hj .nil⟩
    rw [e]
    exact split_none (part_comma h1 (dec_num h3 (by omega)))
  | q :: ps, p, j0, h => by
    obtain ⟨h1, h2, h3, h4⟩ := h p (List.mem_cons_self ..)
    obtain ⟨qs, e1, w⟩ := join_split hj ps q 1 (fun x hx => h x (List.mem_cons_of_mem _ hx))
    have e : List.replicate j0 32 ++ joinC (List.replicate a 32 ++ [44, 32]) ((p :: q :: ps).map (wj j)) = mkPart j0 p.1 j (decN p.2) a ++ 44 :: (List.replicate 1 32 ++ joinC (List.replicate a 32 ++ [44, 32]) ((q :: ps).map (wj j))) := by
      simp [joinC, wj, mkPart]
    refine ⟨mkPart j0 p.1 j (decN p.2) a :: qs, ?_, .cons j0 p j a hj w⟩
    rw [e, split_app (part_comma h1 (dec_num h3 (by omega))), e1]
theorem join_len {s : Cs} {m : Nat} : ∀ l : List Cs, (∀ x ∈ l, x.length ≤ m) → (joinC s l).length ≤ (m + s.length) * l.length
  | [], _ => Nat.zero_le _
  | [x], h => by
    have := h x (List.mem_cons_self ..)
    simp only [joinC, List.length_cons, List.length_nil]; omega
  | x :: y :: ys, h => by
    have a := join_len (s := s) (y :: ys) fun z hz => h z (List.mem_cons_of_mem _ hz)
    have b := h x (List.mem_cons_self ..)
    simp only [joinC, List.length_append, List.length_cons, Nat.mul_add] at a ⊢; omega
theorem wj_len {p : Cs × Nat} {j : Nat} (h : Okp p) : (wj j p).length ≤ 15 + j := by
  have a := kind_len h.1
  have b := dec_len (show p.2 < 10000000 by have := h.2.2.2; omega)
  simp only [wj, List.length_append, List.length_replicate]; omega
/-- a text of joined pairs is read as these pairs -/
theorem joined {j a : Nat} {ps : List (Cs × Nat)} (hj : 0 < j) (hj2 : j ≤ 2) (ha : a ≤ 1) (h : ∀ p ∈ ps, Okp p) (nd : (ps.map (·.1)).Nodup) (hn : ps ≠ []) (hl : ps.length ≤ 20) :
    (joinC (List.replicate a 32 ++ [44, 32]) (ps.map (wj j))).length ≤ 500 ∧ (splitC 44 (joinC (List.replicate a 32 ++ [44, 32]) (ps.map (wj j)))).length ≤ 60 ∧ dueE (joinC (List.replicate a 32 ++ [44, 32]) (ps.map (wj j))) = .ok ps := by
  cases ps with
  | nil => exact absurd rfl hn
  | cons p ps =>
    obtain ⟨qs, e, w⟩ := join_split (a := a) hj ps p 0 h
    rw [List.replicate_zero, List.nil_append] at e
    refine ⟨?_, ?_, read_parts e w h nd⟩
    · have := join_len (s := List.replicate a 32 ++ [44, 32]) (m := 17) ((p :: ps).map (wj j)) (fun x hx => by
        obtain ⟨q, hq, rfl⟩ := List.mem_map.mp hx
        have := wj_len (j := j) (h q hq)
        omega)
      simp only [List.length_append, List.length_replicate, List.length_map, List.length_cons, List.length_nil] at this hl ⊢
      have h3 : (17 + (a + (0 + 1 + 1))) * (ps.length + 1) ≤ 20 * (ps.length + 1) := Nat.mul_le_mul_right _ (by omega)
      omega
    · rw [e, (wr_ent w h).2]; omega
theorem wp_wj : wp = wj 1 := rfl
theorem read_str {ps : List (Cs × Nat)} (h : Good ps) (hl : ps.length ≤ 20) : (wrP ps).length ≤ 500 ∧ (splitC 44 (wrP ps)).length ≤ 60 ∧ dueE (wrP ps) = .ok ps := by
  unfold wrP
  by_cases hn : ps = []
  · rw [if_pos hn, hn]
    exact ⟨by decide, by decide, by rfl⟩
  · rw [if_neg hn, wp_wj]
    exact joined (a := 0) (by decide) (by decide) (by decide) h.each (asc_nd h.asc) hn hl
def mxP (ps : List (Cs × Nat)) : Cs := joinC [32, 44, 32] (ps.map (wj 2))
theorem read_mix {ps : List (Cs × Nat)} (h : ∀ p ∈ ps, Okp p) (nd : (ps.map (·.1)).Nodup) (hn : ps ≠ []) (hl : ps.length ≤ 20) : (mxP ps).length ≤ 500 ∧ (splitC 44 (mxP ps)).length ≤ 60 ∧ dueE (mxP ps) = .ok ps :=
  joined (j := 2) (a := 1) (by decide) (by decide) (by decide) h nd hn hl
end K03
end
section
set_option maxRecDepth 100000
set_option maxHeartbeats 1000000
set_option exponentiation.threshold 2000
namespace K03
open Iv Pw
variable {k : Nat} {S : Hs}
theorem hroll : fns0[15]? = some ⟨2, 5, b_roll, .all⟩ := rfl
theorem hpick : fns0[16]? = some ⟨2, 2, b_pick 15, .all⟩ := rfl
theorem hdice : fns0[14]? = some ⟨2, 4, b_dice, .all⟩ := rfl
/-- a heap with new things behind it -/
structure Nw (n L : Nat) (S0 S : Hs) : Prop where
  lt : n < L
  dice : Dice n S
  len : L ≤ S.length
  same : ∀ j, j ≠ n → j < L → S[j]? = S0[j]?
theorem Nw.near {n L : Nat} {S0 A B : Hs} (h : Nw n L S0 A) (g : Near n A B) : Nw n L S0 B :=
  ⟨h.lt, g.1, by rw [g.2.1]; exact h.len, fun j hj hl => (g.2.2 j hj).trans (h.same j hj hl)⟩
theorem Nw.set {n L m : Nat} {S0 A : Hs} {o : Ob} (h : Nw n L S0 A) (hm : L ≤ m) : Nw n L S0 (A.set m o) := by
  refine ⟨h.lt, ?_, by rw [List.length_set]; exact h.len, fun j hj hl => ?_⟩
  · obtain ⟨a, b, d, e⟩ := h.dice
    have hlt := h.lt
    exact ⟨a, b, d, by rw [List.getElem?_set_ne (by omega)]; exact e⟩
  · rw [List.getElem?_set_ne (by omega)]; exact h.same j hj hl
theorem Nw.push {n : Nat} {S0 : Hs} {os : List Ob} (h : Dice n S0) : Nw n S0.length S0 (S0 ++ os) := by
  obtain ⟨a, b, d, e⟩ := h
  have hn := (List.getElem?_eq_some_iff.mp e).1
  exact ⟨hn, ⟨a, b, d, by rw [List.getElem?_append_left hn]; exact e⟩, by simp, fun j _ hl => List.getElem?_append_left hl⟩
theorem Nw.near_take {n : Nat} {S0 S : Hs} (h : Nw n S0.length S0 S) : Near n S0 (S.take S0.length) := by
  refine ⟨?_, by rw [List.length_take]; have := h.len; omega, fun j hj => ?_⟩
  · obtain ⟨a, b, d, e⟩ := h.dice
    exact ⟨a, b, d, by rw [List.getElem?_take_of_lt h.lt]; exact e⟩
  · by_cases hl : j < S0.length
    · rw [List.getElem?_take_of_lt hl]; exact h.same j hj hl
    · rw [List.getElem?_eq_none (by rw [List.length_take]; omega), List.getElem?_eq_none (by omega)]
theorem x_appS {P : Prg} {cal : Cal} {r : Ev} {S S1 : Hs} {i m : Nat} {e : Ex} {xs ys : List D} {x : D} (h : r[i]? = some (some (.loc m))) (hS : S[m]? = some (.lst ys)) (he : ev P cal e r S = .ok (.d x) S1) (hS1 : S1[m]? = some (.lst xs)) (hl : xs.length < 1000000) : exec P cal (.app i e) r S = .nx r (S1.set m (.lst (xs ++ [x]))) := by
  have hb : big = 1000000 := rfl
  simp only [exec, h, hS, he, R.st, hS1]
  rw [if_pos (by omega)]
theorem v_mulS {P : Prg} {cal : Cal} {r : Ev} {S S1 : Hs} {e : Ex} {s : Cs} {i : Int} (h : ev P cal e r S = .ok (.d (.int i)) S1) (h0 : 0 ≤ i) (h1 : i ≤ 100) (hs : s.length ≤ 1000) : ev P cal (.bin .mul (.str s) e) r S = .ok (.d (.str (repL s i.toNat))) S1 := by
  rw [ev, v_str]
  simp only [R.bind, h, binD]
  rw [if_pos ⟨h0, h1, hs⟩]; rfl
/-- short, without a comma -/
def Cl (m : Nat) (x : Cs) : Prop := x.length ≤ m ∧ x.count 44 = 0
theorem Cl.app {a b : Nat} {x y : Cs} (h : Cl a x) (g : Cl b y) : Cl (a + b) (x ++ y) := ⟨by rw [List.length_append]; have := h.1; have := g.1; omega, by rw [List.count_append, h.2, g.2]⟩
theorem blanks {n : Nat} (hd' : Dice n S) : ∃ t S', c (k + 3) 25 [.loc n] S = .ok (.d (.str t)) S' ∧ Cl 2 t ∧ Near n S S' := by
  rw [ca (fn := ⟨1, 1, b__law_blanks, .all⟩) rfl rfl rfl]
  show ∃ t S', fin S.length (exec P0 (c (k + 2)) b__law_blanks [some (.loc n)] S) = _ ∧ _
  unfold b__law_blanks
  obtain ⟨v, S1, a1, a2, a3⟩ := pick (fns := fns0) (P := P0) (k := k) (f := 15) (g := 16) (xs := [.int 0, .int 0, .int 1, .int 2]) hroll hpick (by decide) (by decide) hd'
  obtain ⟨m, rfl, h0, h1⟩ : ∃ m : Int, v = .int m ∧ 0 ≤ m ∧ m ≤ 2 := by
    simp only [List.mem_cons, List.not_mem_nil, or_false] at a2
    rcases a2 with rfl | rfl | rfl | rfl <;> exact ⟨_, rfl, by decide, by decide⟩
  have L2 : ev P0 (c (k + 2)) (.lst (.cons (.int 0) (.cons (.int 0) (.cons (.int 1) (.cons (.int 2) .nil))))) [some (.loc n)] S = .ok (.d (.lst [.int 0, .int 0, .int 1, .int 2])) S := v_lstS (v_cons v_int (v_cons v_int (v_cons v_int (v_one v_int)))) (by decide)
  have e1 := v_mulS (s := [32]) (v_call (v_cons (v_loc (i := 0) (n := n) rfl) (v_one L2)) a1) h0 (by omega) (by decide)
  refine ⟨repL [32] m.toNat, S1, ?_, ?_, a3⟩
  · rw [x_ret (x_retv e1)]
    exact fin_len a3.2.1
  · obtain h | h | h : m = 0 ∨ m = 1 ∨ m = 2 := by omega
    · subst h; exact ⟨by decide, by decide⟩
    · subst h; exact ⟨by decide, by decide⟩
    · subst h; exact ⟨by decide, by decide⟩
theorem e_blanks {n : Nat} {r : Ev} (hr : r[0]? = some (some (.loc n))) (hd' : Dice n S) : ∃ t S', ev P0 (c (k + 3)) (.call 25 (.cons (.var 0) .nil)) r S = .ok (.d (.str t)) S' ∧ Cl 2 t ∧ Near n S S' := by
  obtain ⟨t, S', a1, a2, a3⟩ := blanks (k := k) hd'
  exact ⟨t, S', v_call (v_one (v_loc hr)) a1, a2, a3⟩
theorem Dc {n : Nat} {xs : Cs} (h : xs.all isD = true) : xs.count 44 = 0 := by
  rw [List.count_eq_zero]
  intro hm
  have := List.all_eq_true.mp h 44 hm
  exact absurd this (by decide)
theorem dec_cl {n : Nat} (h : n < 10000000) : Cl 7 (decN n) := ⟨dec_len h, Dc (n := 0) (digs_D _ _ _ rfl)⟩
theorem b_str {i : Int} (h0 : 0 ≤ i) (h1 : i < 10000000) : ∃ s, biD .str [.int i] = some (.str s) ∧ Cl 7 s := by
  have : (2 : Nat) ^ 64 ≤ 2 ^ 1900 := Nat.pow_le_pow_right (by decide) (by decide)
  have h64 : (2 : Nat) ^ 64 = 18446744073709551616 := by decide
  refine ⟨decI i, ?_, ?_⟩
  · simp only [biD]; rw [if_pos (by omega)]
  · have e : i = (i.toNat : Int) := by omega
    rw [e, decI_nat]
    exact dec_cl (by omega)
theorem v_bi1S {P : Prg} {cal : Cal} {r : Ev} {S S1 : Hs} {a : Ex} {f : Bi} {x y : D} (ha : ev P cal a r S = .ok (.d x) S1) (h : biD f [x] = some y) : ev P cal (.bi f (.cons a .nil)) r S = .ok (.d y) S1 := by
  simp only [ev, v_one ha, R.bind, rdVs, rdV, Option.map_some, Option.bind_some, h, R.opt]
def knd (z : Ex) : Ex := .lst (.cons (.str [97]) (.cons (.str [99, 111, 114, 101]) (.cons (.str [109, 101, 109]) (.cons (.str [108, 49]) (.cons (.str [110, 111, 116, 104, 105, 110, 103, 115]) (.cons (.str [110, 111, 116, 104, 105, 110]) (.cons (.str [120, 55, 121]) (.cons (.str [122, 122, 122, 122, 122, 122, 122, 122]) (.cons z .nil)))))))))
def kndD (s : Cs) : List D := [.str [97], .str [99, 111, 114, 101], .str [109, 101, 109], .str [108, 49], .str [110, 111, 116, 104, 105, 110, 103, 115], .str [110, 111, 116, 104, 105, 110], .str [120, 55, 121], .str [122, 122, 122, 122, 122, 122, 122, 122], .str s]
def nms : List D := [.int 1, .int 2, .int 10, .int 1000000, .int 1000001, .int 9999999]
def drb : St := (.seq (.asg 4 (.call 16 (.cons (.var 0) (.cons (knd (.bin .add (.str [98]) (.bi .str (.cons (.var 3) .nil)))) .nil)))) (.seq (.asg 5 (.bi .str (.cons (.call 16 (.cons (.var 0) (.cons (.sl (.var 2) .no (.one (.ite (.cmp .eq (.call 15 (.cons (.var 0) (.cons (.int 4) .nil))) (.int 0)) (.int 6) (.int 4)))) .nil))) .nil))) (.seq (.asg 6 (.bin .add (.bin .add (.bin .add (.call 25 (.cons (.var 0) .nil)) (.var 4)) (.str [32])) (.call 25 (.cons (.var 0) .nil)))) (.seq (.app 1 (.bin .add (.bin .add (.var 6) (.var 5)) (.call 25 (.cons (.var 0) .nil)))) .skip))))
def Rw (n m : Nat) (x3 x4 x5 x6 : Option Vl) : Ev := [some (.loc n), some (.loc m), some (.d (.lst nms)), x3, x4, x5, x6]
theorem v_eq0 {P : Prg} {cal : Cal} {r : Ev} {S S1 : Hs} {e : Ex} {i : Int} (h : ev P cal e r S = .ok (.d (.int i)) S1) : ev P cal (.cmp .eq e (.int 0)) r S = .ok (.d (.bl (i == 0))) S1 := by
  simp only [ev, h, R.bind, rdV, cmpD, D.plain, D.eqv, Bool.and_self, if_true, Option.map_some, R.opt]
theorem dr_turn {n m : Nat} {x4 x5 x6 : Option Vl} {i : Int} {l : List Cs} (h0 : 0 ≤ i) (h1 : i < 5) (hd' : Dice n S) (hnm : n ≠ m) (hS : S[m]? = some (.lst (l.map .str))) (hl : l.length < 1000) :
    ∃ t S' y4 y5 y6, exec P0 (c (k + 3)) drb (Rw n m (some (.d (.int i))) x4 x5 x6) S = .nx (Rw n m (some (.d (.int i))) y4 y5 y6) (S'.set m (.lst ((l ++ [t]).map .str))) ∧ Cl 22 t ∧ Near n S S' := by
  have hb : big = 1000000 := rfl
  obtain ⟨si, es, cs⟩ := b_str (i := i) h0 (by omega)
  have hsi : Cl 8 ([98] ++ si) := by
    have : Cl 1 [98] := ⟨by decide, by decide⟩
    exact this.app cs
  obtain ⟨v, S1, a1, a2, a3⟩ := pick (fns := fns0) (P := P0) (k := k + 1) (f := 15) (g := 16) (xs := kndD ([98] ++ si)) hroll hpick (by show 0 < 9; decide) (by show 9 < 1000; decide) hd'
  obtain ⟨w, rfl, hw⟩ : ∃ w : Cs, v = .str w ∧ Cl 8 w := by
    simp only [kndD, List.mem_cons, List.not_mem_nil, or_false] at a2
    rcases a2 with rfl | rfl | rfl | rfl | rfl | rfl | rfl | rfl | rfl
    · exact ⟨_, rfl, by decide, by decide⟩
    · exact ⟨_, rfl, by decide, by decide⟩
    · exact ⟨_, rfl, by decide, by decide⟩
    · exact ⟨_, rfl, by decide, by decide⟩
    · exact ⟨_, rfl, by decide, by decide⟩
    · exact ⟨_, rfl, by decide, by decide⟩
    · exact ⟨_, rfl, by decide, by decide⟩
    · exact ⟨_, rfl, by decide, by decide⟩
    · exact ⟨_, rfl, hsi⟩
  have eb := v_addsS (v_str (P := P0) (cal := c (k + 3)) (S := S) (r := Rw n m (some (.d (.int i))) x4 x5 x6) (s := [98])) (v_bi1 (f := .str) (v_vi (i := 3) (x := i) rfl) es) (by have := cs.1; simp only [List.length_cons, List.length_nil]; omega)
  have ek : ev P0 (c (k + 3)) (knd (.bin .add (.str [98]) (.bi .str (.cons (.var 3) .nil)))) (Rw n m (some (.d (.int i))) x4 x5 x6) S = .ok (.d (.lst (kndD ([98] ++ si)))) S := by
    unfold knd
    exact v_lstS (vs := kndD ([98] ++ si)) (v_cons v_str (v_cons v_str (v_cons v_str (v_cons v_str (v_cons v_str (v_cons v_str (v_cons v_str (v_cons v_str (v_one eb))))))))) (by show 9 ≤ 1000000; decide)
  unfold drb
  rw [x_nx (x_asg (v_call (v_cons (v_loc (i := 0) (n := n) rfl) (v_one ek)) a1))]
  show ∃ t S' y4 y5 y6, exec P0 (c (k + 3)) _ (Rw n m (some (.d (.int i))) (some (.d (.str w))) x5 x6) S1 = _ ∧ _
  obtain ⟨q, S2, b1, b2, b3, b4⟩ := roll (fns := fns0) (P := P0) (k := k + 2) (t := 4) hroll (by decide) (by decide) a3.1
  obtain ⟨z, hz, ez⟩ : ∃ z : List D, (z = nms ∨ z = nms.take 4) ∧ ev P0 (c (k + 3)) (.sl (.var 2) .no (.one (.ite (.cmp .eq (.call 15 (.cons (.var 0) (.cons (.int 4) .nil))) (.int 0)) (.int 6) (.int 4)))) (Rw n m (some (.d (.int i))) (some (.d (.str w))) x5 x6) S1 = .ok (.d (.lst z)) S2 := by
    have e0 := v_eq0 (v_call (v_cons (v_loc (P := P0) (cal := c (k + 3)) (S := S1) (r := Rw n m (some (.d (.int i))) (some (.d (.str w))) x5 x6) (i := 0) (n := n) rfl) (v_one (v_int (i := 4)))) b1)
    have V : ∀ {S : Hs}, ev P0 (c (k + 3)) (.var 2) (Rw n m (some (.d (.int i))) (some (.d (.str w))) x5 x6) S = .ok (.d (.lst nms)) S := fun {S} => v_var (x := .lst nms) rfl
    cases hq : (q == 0) with
    | true =>
      refine ⟨nms, .inl rfl, ?_⟩
      rw [ev, V]
      simp only [R.bind, evo]
      rw [v_iteS (v := .ok (.d (.int 6)) S2) e0 (by rw [hq]; exact v_int)]
      rfl
    | false =>
      refine ⟨nms.take 4, .inr rfl, ?_⟩
      rw [ev, V]
      simp only [R.bind, evo]
      rw [v_iteS (v := .ok (.d (.int 4)) S2) e0 (by rw [hq]; exact v_int)]
      rfl
  obtain ⟨u, S3, d1, d2, d3⟩ := pick (fns := fns0) (P := P0) (k := k + 1) (f := 15) (g := 16) (xs := z) hroll hpick (by rcases hz with rfl | rfl <;> decide) (by rcases hz with rfl | rfl <;> decide) b4.1
  obtain ⟨j, rfl, hj0, hj1⟩ : ∃ j : Int, u = .int j ∧ 0 ≤ j ∧ j < 10000000 := by
    have : u ∈ nms := by
      rcases hz with rfl | rfl
      · exact d2
      · exact List.take_subset _ _ d2
    simp only [nms, List.mem_cons, List.not_mem_nil, or_false] at this
    rcases this with rfl | rfl | rfl | rfl | rfl | rfl <;> exact ⟨_, rfl, by decide, by decide⟩
  obtain ⟨sj, ej, cj⟩ := b_str (i := j) hj0 hj1
  rw [x_nx (x_asg (v_bi1S (f := .str) (v_call (v_cons (v_loc (i := 0) (n := n) rfl) (v_one ez)) d1) ej))]
  show ∃ t S' y4 y5 y6, exec P0 (c (k + 3)) _ (Rw n m (some (.d (.int i))) (some (.d (.str w))) (some (.d (.str sj))) x6) S3 = _ ∧ _
  obtain ⟨g1, S4, f1, f2, f3⟩ := e_blanks (k := k) (n := n) (r := Rw n m (some (.d (.int i))) (some (.d (.str w))) (some (.d (.str sj))) x6) rfl d3.1
  obtain ⟨g2, S5, f4, f5, f6⟩ := e_blanks (k := k) (n := n) (r := Rw n m (some (.d (.int i))) (some (.d (.str w))) (some (.d (.str sj))) x6) rfl f3.1
  have c1 := f2.app hw
  have c2 : Cl 11 (g1 ++ w ++ [32]) := c1.app (⟨by decide, by decide⟩ : Cl 1 [32])
  have c3 : Cl 13 (g1 ++ w ++ [32] ++ g2) := c2.app f5
  have e6 := v_addsS (v_addsS (v_addsS f1 (v_var (i := 4) (x := .str w) rfl) (by have := f2.1; have := hw.1; omega)) (v_str (s := [32])) (by have := c1.1; simp only [List.length_cons, List.length_nil]; omega)) f4 (by have := c2.1; have := f5.1; omega)
  rw [x_nx (x_asg e6)]
  generalize g1 ++ w ++ [32] ++ g2 = g at c3 ⊢
  show ∃ t S' y4 y5 y6, exec P0 (c (k + 3)) _ (Rw n m (some (.d (.int i))) (some (.d (.str w))) (some (.d (.str sj))) (some (.d (.str g)))) S5 = _ ∧ _
  obtain ⟨g3, S6, f7, f8, f9⟩ := e_blanks (k := k) (n := n) (r := Rw n m (some (.d (.int i))) (some (.d (.str w))) (some (.d (.str sj))) (some (.d (.str g)))) rfl f6.1
  have c4 := c3.app cj
  have c5 := c4.app f8
  have e7 := v_addsS (v_addsS (v_var (P := P0) (cal := c (k + 3)) (S := S5) (r := Rw n m (some (.d (.int i))) (some (.d (.str w))) (some (.d (.str sj))) (some (.d (.str g)))) (i := 6) (x := .str g) rfl) (v_var (i := 5) (x := .str sj) rfl) (by have := c3.1; have := cj.1; omega)) f7 (by have := c4.1; have := f8.1; omega)
  have N5 := (((a3.trans b4).trans d3).trans f3).trans f6
  have N6 := N5.trans f9
  have hS5 : S5[m]? = some (.lst (l.map .str)) := by rw [N5.2.2 m (Ne.symm hnm)]; exact hS
  have hS6 : S6[m]? = some (.lst (l.map .str)) := by rw [N6.2.2 m (Ne.symm hnm)]; exact hS
  rw [x_nx (x_appS (i := 1) (m := m) rfl hS5 e7 hS6 (by rw [List.length_map]; omega))]
  refine ⟨g ++ sj ++ g3, S6, some (.d (.str w)), some (.d (.str sj)), some (.d (.str g)), ?_, ⟨Nat.le_trans c5.1 (by decide), c5.2⟩, N6⟩
  simp only [exec]
  rw [List.map_append]; rfl
end K03
end
section
set_option maxRecDepth 100000
set_option maxHeartbeats 1000000
set_option exponentiation.threshold 2000
namespace K03
open Iv Pw
variable {k : Nat} {S : Hs}
theorem join_cnt : ∀ l : List Cs, (∀ x ∈ l, x.count 44 = 0) → (joinC [44] l).count 44 ≤ l.length
  | [], _ => by decide
  | [x], h => by rw [show joinC [44] [x] = x from rfl, h x (List.mem_cons_self ..)]; exact Nat.zero_le _
  | x :: y :: ys, h => by
    have a := join_cnt (y :: ys) fun z hz => h z (List.mem_cons_of_mem _ hz)
    have b := h x (List.mem_cons_self ..)
    have e : joinC [44] (x :: y :: ys) = x ++ [44] ++ joinC [44] (y :: ys) := rfl
    rw [e, List.count_append, List.count_append, b]
    simp only [List.length_cons] at a ⊢
    have : List.count 44 [44] = 1 := by decide
    omega
theorem split_cnt : ∀ t : Cs, (splitC 44 t).length = t.count 44 + 1
  | [] => rfl
  | x :: xs => by
    by_cases h : x = 44
    · subst h
      rw [split_sep, List.length_cons, split_cnt xs, List.count_cons_self]
    · have := split_cnt xs
      simp only [splitC, if_neg h]
      rw [List.count_cons_of_ne (by simpa using h)]
      cases e : splitC 44 xs with
      | nil => exact absurd e (split_ne xs)
      | cons s ss => rw [e] at this; exact this
/-- a text's size, its commas -/
def Tx (a b : Nat) (t : Cs) : Prop := t.length ≤ a ∧ t.count 44 ≤ b
theorem v_joinL {P : Prg} {cal : Cal} {r : Ev} {i m : Nat} {s : Cs} {l : List Cs} (h : r[i]? = some (some (.loc m))) (hS : S[m]? = some (.lst (l.map .str))) (hs : s.length ≤ 100) (hl : l.length ≤ 1000) (h2 : ∀ x ∈ l, x.length ≤ 1000) : ev P cal (.meth .join (.str s) (.cons (.var i) .nil)) r S = .ok (.d (.str (joinC s l))) S := by
  have := lens_le l h2
  have hb : big = 1000000 := rfl
  rw [ev, v_str]
  simp only [R.bind]
  rw [v_one (v_loc h)]
  simp only [rdVs, rdV, hS, Option.map_some, Option.bind_some, mtD, strs_map]
  rw [if_pos ⟨hl, hs, by omega⟩]
  rfl
theorem b_drawn_eq : b__law_drawn = (.seq (.ite (.cmp .eq (.call 15 (.cons (.var 0) (.cons (.int 12) .nil))) (.int 0)) (.seq (.ret (.bin .add (.bin .add (.call 25 (.cons (.var 0) .nil)) (.str [110, 111, 116, 104, 105, 110, 103])) (.call 25 (.cons (.var 0) .nil)))) .skip) .skip) (.seq (.par2 1 2 (.newl .nil) (.lst (.cons (.int 1) (.cons (.int 2) (.cons (.int 10) (.cons (.int 1000000) (.cons (.int 1000001) (.cons (.int 9999999) .nil)))))))) (.seq (.loop (.nm 3) (.rng (.bin .add (.int 1) (.call 15 (.cons (.var 0) (.cons (.int 5) .nil))))) drb) (.seq (.ret (.meth .join (.str [44]) (.cons (.var 1) .nil))) .skip)))) := rfl
theorem upTo_get : ∀ {m : Nat} {a : Int} {j : Nat} {x : D}, (upTo m a)[j]? = some x → x = .int (a + j) ∧ j < m
  | 0, a, j, x, h => by simp [upTo] at h
  | m + 1, a, 0, x, h => by simp [upTo] at h; exact ⟨by rw [← h]; simp, by omega⟩
  | m + 1, a, j + 1, x, h => by
    simp only [upTo, List.getElem?_cons_succ] at h
    obtain ⟨e, q⟩ := upTo_get h
    exact ⟨by rw [e]; congr 1; omega, by omega⟩
theorem upTo_len : ∀ (m : Nat) (a : Int), (upTo m a).length = m
  | 0, a => rfl
  | m + 1, a => by simp [upTo, upTo_len m]
theorem drawn {n : Nat} (hd' : Dice n S) : ∃ t S', c (k + 4) 26 [.loc n] S = .ok (.d (.str t)) S' ∧ Tx 115 5 t ∧ Near n S S' := by
  have hb : big = 1000000 := rfl
  rw [ca (fn := ⟨1, 7, b__law_drawn, .all⟩) rfl rfl rfl]
  show ∃ t S', fin S.length (exec P0 (c (k + 3)) b__law_drawn [some (.loc n), none, none, none, none, none, none] S) = _ ∧ _
  rw [b_drawn_eq]
  obtain ⟨v, S1, a1, a2, a3, a4⟩ := roll (fns := fns0) (P := P0) (k := k + 2) (t := 12) hroll (by decide) (by decide) hd'
  have e0 := v_eq0 (v_call (v_cons (v_loc (P := P0) (cal := c (k + 3)) (S := S) (r := [some (.loc n), none, none, none, none, none, none]) (i := 0) (n := n) rfl) (v_one (v_int (i := 12)))) a1)
  cases hq : (v == 0) with
  | true =>
    rw [hq] at e0
    obtain ⟨g1, S2, f1, f2, f3⟩ := e_blanks (k := k) (n := n) (r := [some (.loc n), none, none, none, none, none, none]) rfl a4.1
    obtain ⟨g2, S3, f4, f5, f6⟩ := e_blanks (k := k) (n := n) (r := [some (.loc n), none, none, none, none, none, none]) rfl f3.1
    have c1 : Cl 7 [110, 111, 116, 104, 105, 110, 103] := ⟨by decide, by decide⟩
    have c2 := f2.app c1
    have c3 := c2.app f5
    have e6 := v_addsS (v_addsS f1 (v_str (s := [110, 111, 116, 104, 105, 110, 103])) (by have := f2.1; simp only [List.length_cons, List.length_nil]; omega)) f4 (by have := c2.1; have := f5.1; omega)
    have N := (a4.trans f3).trans f6
    refine ⟨_, S3, ?_, ⟨Nat.le_trans c3.1 (by decide), by rw [c3.2]; exact Nat.zero_le _⟩, N⟩
    have e7 : exec P0 (c (k + 3)) (.ite (.cmp .eq (.call 15 (.cons (.var 0) (.cons (.int 12) .nil))) (.int 0)) (.seq (.ret (.bin .add (.bin .add (.call 25 (.cons (.var 0) .nil)) (.str [110, 111, 116, 104, 105, 110, 103])) (.call 25 (.cons (.var 0) .nil)))) .skip) .skip) [some (.loc n), none, none, none, none, none, none] S = .ret (.d (.str (g1 ++ [110, 111, 116, 104, 105, 110, 103] ++ g2))) S3 := by
      rw [x_if e0, if_pos rfl]
      exact x_ret (x_retv e6)
    rw [x_ret e7]
    exact fin_len N.2.1
  | false =>
    rw [hq] at e0
    have e7 : exec P0 (c (k + 3)) (.ite (.cmp .eq (.call 15 (.cons (.var 0) (.cons (.int 12) .nil))) (.int 0)) (.seq (.ret (.bin .add (.bin .add (.call 25 (.cons (.var 0) .nil)) (.str [110, 111, 116, 104, 105, 110, 103])) (.call 25 (.cons (.var 0) .nil)))) .skip) .skip) [some (.loc n), none, none, none, none, none, none] S = .nx [some (.loc n), none, none, none, none, none, none] S1 := by
      rw [x_if e0, if_neg (by decide)]
      simp only [exec]
    rw [x_nx e7]
    have L1 : ev P0 (c (k + 3)) (.newl .nil) [some (.loc n), none, none, none, none, none, none] S1 = .ok (.loc S1.length) (S1 ++ [.lst []]) := by
      rw [ev, v_nil]; rfl
    have L2 : ev P0 (c (k + 3)) (.lst (.cons (.int 1) (.cons (.int 2) (.cons (.int 10) (.cons (.int 1000000) (.cons (.int 1000001) (.cons (.int 9999999) .nil))))))) [some (.loc n), none, none, none, none, none, none] (S1 ++ [.lst []]) = .ok (.d (.lst nms)) (S1 ++ [.lst []]) := v_lstS (v_cons v_int (v_cons v_int (v_cons v_int (v_cons v_int (v_cons v_int (v_one v_int)))))) (by decide)
    rw [x_nx (x_par2 L1 L2)]
    show ∃ t S', fin S.length (exec P0 (c (k + 3)) _ (Rw n S1.length none none none none) (S1 ++ [.lst []])) = _ ∧ _
    have W0 : Nw n S1.length S1 (S1 ++ [.lst []]) := Nw.push a4.1
    obtain ⟨u, S2, b1, b2, b3, b4⟩ := roll (fns := fns0) (P := P0) (k := k + 2) (t := 5) hroll (by decide) (by decide) W0.dice
    have er := e_rng (v_addS (v_int (P := P0) (cal := c (k + 3)) (r := Rw n S1.length none none none none) (i := 1)) (v_call (v_cons (v_loc (i := 0) (n := n) rfl) (v_one (v_int (i := 5)))) b1)) (by omega) (by omega)
    have W1 := W0.near b4
    have hg : S2[S1.length]? = some (.lst (([] : List Cs).map .str)) := by
      rw [b4.2.2 _ (by have := W0.lt; omega)]; simp
    obtain ⟨r', S3, g1, ⟨x3, x4, x5, x6, rfl⟩, W3, l, g2, g3, g4⟩ := forL_S (t := .nm 3) (f := fun r S => exec P0 (c (k + 3)) drb r S) (S := S2) (i := 0) (I := fun i r S => (∃ x3 x4 x5 x6, r = Rw n S1.length x3 x4 x5 x6) ∧ Nw n S1.length S1 S ∧ ∃ l : List Cs, S[S1.length]? = some (.lst (l.map .str)) ∧ l.length = i ∧ ∀ x ∈ l, Cl 22 x) (xs := upTo (1 + u).toNat 0) (r := Rw n S1.length none none none none) ⟨⟨none, none, none, none, rfl⟩, W1, [], hg, rfl, fun _ h => by cases h⟩ (by
      rintro p x hx r S ⟨⟨x3, x4, x5, x6, rfl⟩, W, l, g2, g3, g4⟩
      obtain ⟨rfl, hp⟩ := upTo_get hx
      obtain ⟨t, S', y4, y5, y6, h1, h2, h3⟩ := dr_turn (k := k) (n := n) (m := S1.length) (x4 := x4) (x5 := x5) (x6 := x6) (i := 0 + (p : Int)) (l := l) (by omega) (by omega) W.dice (by have := W.lt; omega) g2 (by omega)
      refine ⟨Rw n S1.length (some (.d (.int (0 + (p : Int))))) x4 x5 x6, Rw n S1.length (some (.d (.int (0 + (p : Int))))) y4 y5 y6, _, rfl, h1, ⟨_, _, _, _, rfl⟩, (W.near h3).set (Nat.le_refl _), l ++ [t], ?_, ?_, ?_⟩
      · have hlen : S1.length < S'.length := by
          have := (List.getElem?_eq_some_iff.mp g2).1
          rw [h3.2.1]; exact this
        simp [hlen]
      · rw [List.length_append, g3]; rfl
      · intro y hy
        rcases List.mem_append.mp hy with hy | hy
        · exact g4 y hy
        · rw [List.mem_singleton.mp hy]; exact h2)
    rw [x_nx ((x_loop er).trans g1)]
    rw [upTo_len] at g3
    have ej := v_joinL (P := P0) (cal := c (k + 3)) (S := S3) (r := Rw n S1.length x3 x4 x5 x6) (i := 1) (m := S1.length) (s := [44]) (l := l) rfl g2 (by decide) (by omega) (fun x hx => Nat.le_trans (g4 x hx).1 (by decide))
    rw [x_ret (x_retv ej)]
    have hN := W3.near_take
    refine ⟨joinC [44] l, S3.take S1.length, ?_, ⟨?_, ?_⟩, a4.trans hN⟩
    · simp only [fin]; rw [a4.2.1]
    · have := join_len (s := [44]) (m := 22) l fun x hx => (g4 x hx).1
      have h5 : l.length ≤ 5 := by omega
      have : (22 + [44].length) * l.length ≤ 23 * 5 := Nat.mul_le_mul_left _ h5
      omega
    · have := join_cnt l fun x hx => (g4 x hx).2
      omega
end K03
end
section
set_option maxRecDepth 100000
set_option maxHeartbeats 1000000
set_option exponentiation.threshold 2000
namespace K03
open Iv Pw
variable {k : Nat} {S : Hs}
theorem cut_lo (t : Cs) (n : Nat) : cutL t (some (n : Int)) none = t.drop n := by
  simp only [cutL, lowD, highD, if_pos (Int.natCast_nonneg n), Int.toNat_natCast, List.take_length]
  rcases Nat.le_total n t.length with h | h
  · rw [Nat.min_eq_left h]
  · rw [Nat.min_eq_right h, List.drop_of_length_le (Nat.le_refl _), List.drop_of_length_le h]
def elvD : List D := [.str [48], .str [53], .str [97], .str [44], .str [32], .str [75], .str [45], .str [110, 111, 116, 104, 105, 110, 103], .str [32, 49, 32], .str [48, 48, 48, 48, 48, 48, 48, 48], .str [44, 32]]
theorem spoilt {n a b : Nat} {t : Cs} (ht : Tx a b t) (hl : a ≤ 400) (hd' : Dice n S) : ∃ t' S', c (k + 3) 27 [.loc n, .d (.str t)] S = .ok (.d (.str t')) S' ∧ Tx (a + 8) (b + 1) t' ∧ Near n S S' := by
  have hb : big = 1000000 := rfl
  have htl := ht.1
  rw [ca (fn := ⟨2, 5, b__law_spoilt, .all⟩) rfl rfl rfl]
  show ∃ t' S', fin S.length (exec P0 (c (k + 2)) b__law_spoilt [some (.loc n), some (.d (.str t)), none, none, none] S) = _ ∧ _
  unfold b__law_spoilt
  obtain ⟨v, S1, a1, a2, a3, a4⟩ := roll (fns := fns0) (P := P0) (k := k + 1) (t := (t.length : Int) + 1) hroll (by omega) (by omega) hd'
  obtain ⟨w, S2, b1, b2, b3, b4⟩ := roll (fns := fns0) (P := P0) (k := k + 1) (t := 3) hroll (by decide) (by decide) a4.1
  obtain ⟨x, S3, d1, d2, d3⟩ := pick (fns := fns0) (P := P0) (k := k) (f := 15) (g := 16) (xs := elvD) hroll hpick (by decide) (by decide) b4.1
  obtain ⟨s, rfl, hs⟩ : ∃ s : Cs, x = .str s ∧ Tx 8 1 s := by
    simp only [elvD, List.mem_cons, List.not_mem_nil, or_false] at d2
    rcases d2 with rfl | rfl | rfl | rfl | rfl | rfl | rfl | rfl | rfl | rfl | rfl <;> exact ⟨_, rfl, by decide, by decide⟩
  have l1 : ev P0 (c (k + 2)) (.bin .add (.bi .len (.cons (.var 1) .nil)) (.int 1)) [some (.loc n), some (.d (.str t)), none, none, none] S = .ok (.d (.int ((t.length : Int) + 1))) S := v_addS (v_len (i := 1) (t := t) rfl (by omega)) v_int
  rw [x_nx (x_par2 (v_call (v_cons (v_loc (i := 0) (n := n) rfl) (v_one l1)) a1) (v_call (v_cons (v_loc (i := 0) (n := n) rfl) (v_one (v_int (i := 3)))) b1))]
  show ∃ t' S', fin S.length (exec P0 (c (k + 2)) _ [some (.loc n), some (.d (.str t)), some (.d (.int v)), some (.d (.int w)), none] S2) = _ ∧ _
  have L1 : ev P0 (c (k + 2)) (.lst (.cons (.str [48]) (.cons (.str [53]) (.cons (.str [97]) (.cons (.str [44]) (.cons (.str [32]) (.cons (.str [75]) (.cons (.str [45]) (.cons (.str [110, 111, 116, 104, 105, 110, 103]) (.cons (.str [32, 49, 32]) (.cons (.str [48, 48, 48, 48, 48, 48, 48, 48]) (.cons (.str [44, 32]) .nil)))))))))))) [some (.loc n), some (.d (.str t)), some (.d (.int v)), some (.d (.int w)), none] S2 = .ok (.d (.lst elvD)) S2 := v_lstS (v_cons v_str (v_cons v_str (v_cons v_str (v_cons v_str (v_cons v_str (v_cons v_str (v_cons v_str (v_cons v_str (v_cons v_str (v_cons v_str (v_one v_str))))))))))) (by decide)
  rw [x_nx (x_asg (v_call (v_cons (v_loc (i := 0) (n := n) rfl) (v_one L1)) d1))]
  show ∃ t' S', fin S.length (exec P0 (c (k + 2)) _ [some (.loc n), some (.d (.str t)), some (.d (.int v)), some (.d (.int w)), some (.d (.str s))] S3) = _ ∧ _
  have N := (a4.trans b4).trans d3
  obtain ⟨v, rfl⟩ : ∃ m : Nat, v = m := ⟨v.toNat, by omega⟩
  generalize hr : ([some (.loc n), some (.d (.str t)), some (.d (.int v)), some (.d (.int w)), some (.d (.str s))] : Ev) = r
  have r1 : r[1]? = some (some (.d (.str t))) := by rw [← hr]; rfl
  have r2 : r[2]? = some (some (.d (.int v))) := by rw [← hr]; rfl
  have r3 : r[3]? = some (some (.d (.int w))) := by rw [← hr]; rfl
  have r4 : r[4]? = some (some (.d (.str s))) := by rw [← hr]; rfl
  have hbt : t.length ≤ big := by omega
  have p1 : ev P0 (c (k + 2)) (.sl (.var 1) .no (.one (.var 2))) r S3 = .ok (.d (.str (t.take v))) S3 := by
    rw [ev, v_var r1]
    simp only [R.bind, D.wk, evo]
    rw [v_vi r2]
    simp only [R.bind, rdV, slD, if_pos hbt]
    rw [cut_hi]; rfl
  obtain ⟨s', hs', p2⟩ : ∃ s' : Cs, Tx 8 1 s' ∧ ev P0 (c (k + 2)) (.ite (.cmp .ne (.var 3) (.int 1)) (.var 4) (.str [])) r S3 = .ok (.d (.str s')) S3 := by
    have q : ev P0 (c (k + 2)) (.cmp .ne (.var 3) (.int 1)) r S3 = .ok (.d (.bl (!(w == 1)))) S3 := by
      rw [ev, v_vi r3]
      simp only [R.bind, ev, rdV, cmpD, D.plain, D.eqv, Bool.and_self, if_true, Option.map_some, R.opt]
    cases hq : (!(w == 1)) with
    | true => exact ⟨s, hs, v_iteS (q.trans (by rw [hq])) (v_var r4)⟩
    | false => exact ⟨[], ⟨by decide, by decide⟩, v_iteS (q.trans (by rw [hq])) v_str⟩
  obtain ⟨j, p3⟩ : ∃ j : Nat, ev P0 (c (k + 2)) (.sl (.var 1) (.one (.bin .add (.var 2) (.bi .int (.cons (.cmp .gt (.var 3) (.int 0)) .nil)))) .no) r S3 = .ok (.d (.str (t.drop (v + j)))) S3 := by
    have q : ev P0 (c (k + 2)) (.cmp .gt (.var 3) (.int 0)) r S3 = .ok (.d (.bl (decide (0 < w)))) S3 := by
      rw [ev, v_vi r3]
      simp only [R.bind, ev, rdV, cmpD, Option.map_some, R.opt]
    have q2 : ev P0 (c (k + 2)) (.bin .add (.var 2) (.bi .int (.cons (.cmp .gt (.var 3) (.int 0)) .nil))) r S3 = .ok (.d (.int ((v + (if decide (0 < w) = true then 1 else 0) : Nat) : Int))) S3 := by
      rw [v_addS (v_vi r2) (v_bi1 (f := .int) q rfl)]
      congr 3
      cases decide (0 < w) <;> rfl
    refine ⟨if decide (0 < w) = true then 1 else 0, ?_⟩
    rw [ev, v_var r1]
    simp only [R.bind, D.wk, evo]
    rw [q2]
    simp only [R.bind, rdV, slD, if_pos hbt]
    rw [cut_lo]; rfl
  have hlen : (t.take v).length + (t.drop (v + j)).length ≤ t.length := by
    rw [List.length_take, List.length_drop]; omega
  have hcnt : (t.take v).count 44 + (t.drop (v + j)).count 44 ≤ t.count 44 := by
    have e1 : t.count 44 = (t.take v).count 44 + (t.drop v).count 44 := by rw [← List.count_append, List.take_append_drop]
    have e2 : (t.drop (v + j)).count 44 ≤ (t.drop v).count 44 := by
      rw [← List.drop_drop]
      exact (List.drop_sublist ..).count_le _
    omega
  have e := v_addsS (v_addsS p1 p2 (by have := hs'.1; omega)) p3 (by have := hs'.1; rw [List.length_append]; omega)
  rw [x_ret (x_retv e)]
  refine ⟨_, S3, fin_len N.2.1, ⟨?_, ?_⟩, N⟩
  · have := hs'.1; simp only [List.length_append]; omega
  · have := hs'.2; have := ht.2; simp only [List.count_append]; omega
/-! ### mixed -/
def mxb : St := (.seq (.app 3 (.pop 2 (.call 15 (.cons (.var 0) (.cons (.bi .len (.cons (.var 2) .nil)) .nil))))) .skip)
def Rm (n : Nat) (xs : List D) (L : Nat) (x4 : Option Vl) : Ev := [some (.loc n), some (.d (.lst xs)), some (.loc L), some (.loc (L + 1)), x4]
theorem pop_perm {α : Type} {l f : List α} {p : Nat} {y : α} (h : l[p]? = some y) : (l.eraseIdx p ++ (f ++ [y])).Perm (l ++ f) := by
  obtain ⟨hp, rfl⟩ := List.getElem?_eq_some_iff.mp h
  have e : l.Perm (l[p] :: l.eraseIdx p) := by
    have h1 : l = l.take p ++ l[p] :: l.drop (p + 1) := by
      rw [← List.drop_eq_getElem_cons hp, List.take_append_drop]
    have h2 : l.eraseIdx p = l.take p ++ l.drop (p + 1) := List.eraseIdx_eq_take_drop_succ ..
    rw [h2]
    exact (List.Perm.of_eq h1).trans List.perm_middle
  rw [← List.append_assoc]
  refine List.perm_append_comm.trans ?_
  exact (List.Perm.append_right f e).symm
theorem mx_turn {n L : Nat} {xs : List D} {x4 : Option Vl} {l f : List D} (hd' : Dice n S) (hn : n < L) (h2 : S[L]? = some (.lst l)) (h3 : S[L + 1]? = some (.lst f)) (hl : 0 < l.length) (hl2 : l.length < 1000) (hf : f.length < 1000) :
    ∃ y p S', exec P0 (c (k + 1)) mxb (Rm n xs L x4) S = .nx (Rm n xs L x4) ((S'.set L (.lst (l.eraseIdx p))).set (L + 1) (.lst (f ++ [y]))) ∧ l[p]? = some y ∧ Near n S S' := by
  obtain ⟨v, S1, a1, a2, a3, a4⟩ := roll (fns := fns0) (P := P0) (k := k) (t := (l.length : Int)) hroll (by omega) (by omega) hd'
  have hp : v.toNat < l.length := by omega
  have g2 : S1[L]? = some (.lst l) := by rw [a4.2.2 L (by omega)]; exact h2
  have g3 : S1[L + 1]? = some (.lst f) := by rw [a4.2.2 (L + 1) (by omega)]; exact h3
  have hlen : ev P0 (c (k + 1)) (.bi .len (.cons (.var 2) .nil)) (Rm n xs L x4) S = .ok (.d (.int l.length)) S := by
    have V : ev P0 (c (k + 1)) (.var 2) (Rm n xs L x4) S = .ok (.loc L) S := v_loc rfl
    rw [ev, v_one V]
    simp only [R.bind, rdVs, rdV, h2, Option.map_some, Option.bind_some, biD, R.opt]
  have e1 : ev P0 (c (k + 1)) (.call 15 (.cons (.var 0) (.cons (.bi .len (.cons (.var 2) .nil)) .nil))) (Rm n xs L x4) S = .ok (.d (.int v)) S1 := v_call (v_cons (v_loc (i := 0) (n := n) rfl) (v_one hlen)) a1
  have hpl : plc v l.length = some v.toNat := by
    unfold plc; rw [if_pos a2, if_pos (by omega)]
  have hy : l[v.toNat]? = some l[v.toNat] := List.getElem?_eq_getElem hp
  have hr2 : (Rm n xs L x4)[2]? = some (some (.loc L)) := rfl
  have e2 : ev P0 (c (k + 1)) (.pop 2 (.call 15 (.cons (.var 0) (.cons (.bi .len (.cons (.var 2) .nil)) .nil)))) (Rm n xs L x4) S = .ok (.d l[v.toNat]) (S1.set L (.lst (l.eraseIdx v.toNat))) := by
    have hbd : -(2 ^ 63) ≤ v ∧ v < 2 ^ 63 := ⟨by omega, by omega⟩
    simp only [ev, hr2, h2]
    simp only [ev] at e1
    rw [e1]
    simp only [R.bind, g2]
    rw [if_pos hbd, hpl]
    dsimp only
    rw [hy]
  unfold mxb
  have g4 : (S1.set L (.lst (l.eraseIdx v.toNat)))[L + 1]? = some (.lst f) := by
    rw [List.getElem?_set_ne (by omega)]; exact g3
  refine ⟨l[v.toNat], v.toNat, S1, ?_, hy, a4⟩
  rw [x_nx (x_appS (i := 3) (m := L + 1) rfl h3 e2 g4 (by omega))]
  simp only [exec]
theorem b_mixed_eq : b__law_mixed = (.seq (.par2 2 3 (.newo (.var 1)) (.newl .nil)) (.seq (.loop (.nm 4) (.rng (.bi .len (.cons (.var 1) .nil))) mxb) (.seq (.ret (.frz 3)) .skip))) := rfl
theorem mixed {n : Nat} {xs : List D} (hl : xs.length ≤ 100) (hd' : Dice n S) : ∃ ys S', c (k + 2) 17 [.loc n, .d (.lst xs)] S = .ok (.d (.lst ys)) S' ∧ ys.Perm xs ∧ Near n S S' := by
  rw [ca (fn := ⟨2, 5, b__law_mixed, .all⟩) rfl rfl rfl]
  show ∃ ys S', fin S.length (exec P0 (c (k + 1)) b__law_mixed [some (.loc n), some (.d (.lst xs)), none, none, none] S) = _ ∧ _
  rw [b_mixed_eq]
  have L1 : ev P0 (c (k + 1)) (.newo (.var 1)) [some (.loc n), some (.d (.lst xs)), none, none, none] S = .ok (.loc S.length) (S ++ [.lst xs]) := by
    rw [ev, v_var (x := .lst xs) rfl]
    simp only [R.bind, D.wk]
  have L2 : ev P0 (c (k + 1)) (.newl .nil) [some (.loc n), some (.d (.lst xs)), none, none, none] (S ++ [.lst xs]) = .ok (.loc (S.length + 1)) (S ++ [.lst xs, .lst []]) := by
    rw [ev, v_nil]
    simp [R.bind, dsOf, big]
  have ep : exec P0 (c (k + 1)) (.par2 2 3 (.newo (.var 1)) (.newl .nil)) [some (.loc n), some (.d (.lst xs)), none, none, none] S = .nx (Rm n xs S.length none) (S ++ [.lst xs, .lst []]) := x_par2 L1 L2
  rw [x_nx ep]
  have W0 : Nw n S.length S (S ++ [.lst xs, .lst []]) := Nw.push hd'
  have el : ev P0 (c (k + 1)) (.bi .len (.cons (.var 1) .nil)) (Rm n xs S.length none) (S ++ [.lst xs, .lst []]) = .ok (.d (.int xs.length)) (S ++ [.lst xs, .lst []]) := v_bi1 (v_var (i := 1) (x := .lst xs) rfl) rfl
  have er := e_rng el (by omega) (by omega)
  obtain ⟨r', S3, g1, ⟨x4, rfl⟩, W3, hS3, l, f, g2, g3, g4, g5⟩ := forL_S (t := .nm 4) (f := fun r S => exec P0 (c (k + 1)) mxb r S) (S := S ++ [.lst xs, .lst []]) (i := 0) (I := fun i r S1 => (∃ x4, r = Rm n xs S.length x4) ∧ Nw n S.length S S1 ∧ S1.length = S.length + 2 ∧ ∃ l f : List D, S1[S.length]? = some (.lst l) ∧ S1[S.length + 1]? = some (.lst f) ∧ (l ++ f).Perm xs ∧ f.length = i) (xs := upTo (xs.length : Int).toNat 0) (r := Rm n xs S.length none) ⟨⟨none, rfl⟩, W0, by simp, xs, [], by simp, by simp, by simp, rfl⟩ (by
    rintro p x hx r S1 ⟨⟨x4, rfl⟩, W, hS1, l, f, g2, g3, g4, g5⟩
    obtain ⟨rfl, hp⟩ := upTo_get hx
    have hlf := g4.length_eq
    rw [List.length_append] at hlf
    obtain ⟨y, q, S', h1, h2, h3⟩ := mx_turn (k := k) (n := n) (L := S.length) (xs := xs) (x4 := some (.d (.int (0 + (p : Int))))) W.dice W.lt g2 g3 (by omega) (by omega) (by omega)
    have hS' : S'.length = S.length + 2 := by rw [h3.2.1]; exact hS1
    refine ⟨Rm n xs S.length (some (.d (.int (0 + (p : Int))))), Rm n xs S.length (some (.d (.int (0 + (p : Int))))), _, rfl, h1, ⟨_, rfl⟩, ((W.near h3).set (Nat.le_refl _)).set (by omega), by simp [hS'], l.eraseIdx q, f ++ [y], ?_, ?_, ?_, ?_⟩
    · rw [List.getElem?_set_ne (by omega), List.getElem?_set_self (by omega)]
    · rw [List.getElem?_set_self (by rw [List.length_set]; omega)]
    · exact (pop_perm h2).trans g4
    · rw [List.length_append, g5]; rfl)
  rw [x_nx ((x_loop er).trans g1)]
  rw [upTo_len] at g5
  have hlf := g4.length_eq
  rw [List.length_append] at hlf
  have hl0 : l = [] := List.eq_nil_of_length_eq_zero (by omega)
  rw [hl0, List.nil_append] at g4
  have ef : ev P0 (c (k + 1)) (.frz 3) (Rm n xs S.length x4) S3 = .ok (.d (.lst f)) (S3.set (S.length + 1) .dead) := by
    have h3 : (Rm n xs S.length x4)[3]? = some (some (.loc (S.length + 1))) := rfl
    rw [ev]
    simp only [h3, g3]
  rw [x_ret (x_retv ef)]
  have W4 := W3.set (o := .dead) (show S.length ≤ S.length + 1 by omega)
  exact ⟨f, (S3.set (S.length + 1) .dead).take S.length, rfl, g4, W4.near_take⟩
end K03
end
section
set_option maxRecDepth 100000
set_option maxHeartbeats 1000000
set_option exponentiation.threshold 2000
namespace K03
open Iv Pw
variable {k : Nat} {S : Hs}
def Rt (n : Nat) (x1 x2 x3 x4 x5 x6 x7 x8 : Option Vl) : Ev := [some (.loc n), x1, x2, x3, x4, x5, x6, x7, x8]
def spb : St := (.seq (.asg 2 (.call 27 (.cons (.var 0) (.cons (.var 2) .nil)))) .skip)
theorem sp_loop {n a b : Nat} {x1 x4 x5 x6 x7 x8 : Option Vl} : ∀ (m : Nat) (i : Int) (a b : Nat) (t : Cs) (x3 : Option Vl) (S : Hs), Dice n S → Tx a b t → a + 8 * m ≤ 400 → ∃ t' y3 S', forL (.nm 3) (fun r S => exec P0 (c (k + 3)) spb r S) (upTo m i) (Rt n x1 (some (.d (.str t))) x3 x4 x5 x6 x7 x8) S = .nx (Rt n x1 (some (.d (.str t'))) y3 x4 x5 x6 x7 x8) S' ∧ Tx (a + 8 * m) (b + m) t' ∧ Near n S S'
  | 0, i, a, b, t, x3, S, hd', ht, hl => ⟨t, x3, S, rfl, ht, hd', rfl, fun _ _ => rfl⟩
  | m + 1, i, a, b, t, x3, S, hd', ht, hl => by
    obtain ⟨u, S1, a1, a2, a3⟩ := spoilt (k := k) ht (by omega) hd'
    have hasg : asgD (.nm 3) (.int i) (Rt n x1 (some (.d (.str t))) x3 x4 x5 x6 x7 x8) = some (Rt n x1 (some (.d (.str t))) (some (.d (.int i))) x4 x5 x6 x7 x8) := rfl
    have e : exec P0 (c (k + 3)) spb (Rt n x1 (some (.d (.str t))) (some (.d (.int i))) x4 x5 x6 x7 x8) S = .nx (Rt n x1 (some (.d (.str u))) (some (.d (.int i))) x4 x5 x6 x7 x8) S1 := by
      unfold spb
      rw [x_nx (x_asg (v_call (v_cons (v_loc (i := 0) (n := n) rfl) (v_one (v_var (i := 2) (x := .str t) rfl))) a1))]
      simp only [exec]; rfl
    obtain ⟨t', y3, S', i1, i2, i3⟩ := sp_loop (a := a) (b := b) (x1 := x1) (x4 := x4) (x5 := x5) (x6 := x6) (x7 := x7) (x8 := x8) m (i + 1) (a + 8) (b + 1) u (some (.d (.int i))) S1 a3.1 a2 (by omega)
    refine ⟨t', y3, S', ?_, ⟨by have := i2.1; omega, by have := i2.2; omega⟩, a3.trans i3⟩
    simp only [upTo, forL, hasg, e]
    exact i1
theorem told_tup (x : Except Nat (List (Cs × Nat))) : ∃ xs, toldE x = .tup xs := by
  cases x <;> exact ⟨_, rfl⟩
theorem v_vard {P : Prg} {cal : Cal} {r : Ev} {i : Nat} {x : D} (h : r[i]? = some (some (.d x))) : ev P cal (.vard i) r S = .ok (.d x.wkd) S := by simp only [ev, h]
theorem v_varp {P : Prg} {cal : Cal} {r : Ev} {i : Nat} {x : D} (h : r[i]? = some (some (.d x))) : ev P cal (.varp i) r S = .ok (.d x) S := by simp only [ev, h]
theorem v_nep {P : Prg} {cal : Cal} {r : Ev} {a b : Ex} {xs : List D} (ha : ev P cal a r S = .ok (.d (.tup xs)) S) (hb : ev P cal b r S = .ok (.d (.tup xs)) S) (hp : D.plain (.tup xs) deep = true) (he : D.eqv (.tup xs) (.tup xs) = true) : ev P cal (.cmp .ne a b) r S = .ok (.d (.bl false)) S := by
  rw [ev, ha]
  simp only [R.bind]
  rw [hb]
  simp only [rdV, cmpD, hp, he, Bool.and_self, if_true, Option.map_some, R.opt, Bool.not_true]
theorem v_nes {P : Prg} {cal : Cal} {r : Ev} {a b : Ex} {x y : Cs} (ha : ev P cal a r S = .ok (.d (.str x)) S) (hb : ev P cal b r S = .ok (.d (.str y)) S) : ev P cal (.cmp .ne a b) r S = .ok (.d (.bl (!decide (x = y)))) S := by
  rw [ev, ha]
  simp only [R.bind]
  rw [hb]
  simp only [rdV, cmpD, D.plain, D.eqv, Bool.and_self, if_true, Option.map_some, R.opt]
  by_cases h : x = y
  · rw [decide_eq_true h, show (x == y) = true from beq_iff_eq.mpr h]
  · rw [decide_eq_false h, show (x == y) = false from beq_eq_false_iff_ne.mpr h]
theorem v_neA {r : Ev} {a b : Ex} {ps : List (Cs × Nat)} (ha : ev P0 (c (k + 1)) a r S = .ok (.d (amt ps)) S) (hb : ev P0 (c (k + 1)) b r S = .ok (.d (amt ps)) S) : ev P0 (c (k + 1)) (.cmp .ne a b) r S = .ok (.d (.bl false)) S := by
  have hq : P0.eqf 0 = some 33 := rfl
  have e := amt_eq (k := k) (S := S) (ps := ps)
  unfold amt at ha hb e
  rw [ev, ha]
  simp only [R.bind]
  rw [hb]
  simp only [rdV, okE, beq_self_eq_true, if_true, hq, e, R.bind, Bool.not_true]
theorem v_ostr {r : Ev} {a : Ex} {ps : List (Cs × Nat)} (ha : ev P0 (c (k + 2)) a r S = .ok (.d (amt ps)) S) (h : ∀ p ∈ ps, Okp p) (hl : ps.length ≤ 60) : ev P0 (c (k + 2)) (.ostr a) r S = .ok (.d (.str (wrP ps))) S := by
  have hq : P0.stf 0 = some 34 := rfl
  have e := amt_str (k := k) (S := S) h hl
  unfold amt at ha e
  rw [ev, ha]
  simp only [R.bind, hq, e]
theorem v_cme {r : Ev} {a : Ex} {t : Cs} {ps : List (Cs × Nat)} (ha : ev P0 (c (k + 5)) a r S = .ok (.d (.str t)) S) (h1 : t.length ≤ 500) (h2 : (splitC 44 t).length ≤ 60) (h3 : dueE t = .ok ps) : ev P0 (c (k + 5)) (.cme 0 (.cons a .nil)) r S = .ok (.d (amt (srtP ps))) S := by
  have hm : P0.cms[0]? = some (0, 31) := rfl
  have e := of_text (k := k) (S := S) h1 h2
  rw [h3] at e
  dsimp only at e
  simp only [ev, hm, v_one ha, R.bind, e]
theorem perm_map {α β : Type} {f : α → β} {m ys : List β} (h : m.Perm ys) : ∀ qs : List α, m = qs.map f → ∃ zs : List α, qs.Perm zs ∧ ys = zs.map f := by
  induction h with
  | nil =>
    intro qs e
    exact ⟨qs, List.Perm.refl _, e⟩
  | cons x h ih =>
    intro qs e
    cases qs with
    | nil => cases e
    | cons q qs =>
      simp only [List.map_cons, List.cons.injEq] at e
      obtain ⟨zs, a, b⟩ := ih qs e.2
      exact ⟨q :: zs, a.cons q, by rw [List.map_cons, e.1, b]⟩
  | swap x y l =>
    intro qs e
    cases qs with
    | nil => cases e
    | cons q qs =>
      cases qs with
      | nil => simp at e
      | cons q2 qs =>
        simp only [List.map_cons, List.cons.injEq] at e
        exact ⟨q2 :: q :: qs, List.Perm.swap q2 q qs, by rw [List.map_cons, List.map_cons, e.1, e.2.1, e.2.2]⟩
  | trans h1 h2 i1 i2 =>
    intro qs e
    obtain ⟨zs, a, b⟩ := i1 qs e
    obtain ⟨ws, a2, b2⟩ := i2 zs b
    exact ⟨ws, a.trans a2, b2⟩
def gM (x : D) : D := match x with
  | .tup [.str w, .int n] => .str (w ++ [32, 32] ++ decI n)
  | y => y
theorem gM_map : ∀ ps : List (Cs × Nat), (ps.map prD).map gM = (ps.map (wj 2)).map .str
  | [] => rfl
  | p :: ps => by
    have e : gM (prD p) = .str (wj 2 p) := by
      simp only [prD, gM, wj, decI_nat]; rfl
    simp only [List.map_cons, gM_map ps, e]
/-- what stands behind the reading of a right text -/
def okb : St := (.seq (.asg 5 (.mk 0 (.cons (.ix (.varp 4) (.int 1)) .nil))) (.seq (.ite (.or (.cmp .ne (.cme 0 (.cons (.ostr (.var 5)) .nil)) (.var 5)) (.one (.cmp .ne (.ostr (.cme 0 (.cons (.var 2) .nil))) (.ostr (.var 5))))) (.seq (.ret (.bl false)) .skip) .skip) (.seq (.asg 6 (.meth .join (.str [32, 44, 32]) (.cons (.comp [7, 8] (.tp (.cons (.nm 7) (.cons (.nm 8) .nil))) (.one (.call 17 (.cons (.var 0) (.cons (.bi .list (.cons (.ix (.vard 4) (.int 1)) .nil)) .nil)))) (.bl true) (.bin .add (.bin .add (.var 7) (.str [32, 32])) (.bi .str (.cons (.var 8) .nil)))) .nil))) (.seq (.ite (.and (.cmp .ne (.ix (.vard 4) (.int 1)) (.tup .nil)) (.one (.cmp .ne (.cme 0 (.cons (.var 6) .nil)) (.var 5)))) (.seq (.ret (.bl false)) .skip) .skip) .skip))))
theorem ok_turn {n : Nat} {t : Cs} {x1 x3 x5 x6 x7 x8 : Option Vl} {ps : List (Cs × Nat)} (ht : Tx 131 7 t) (hp : dueE t = .ok ps) (hd' : Dice n S) : ∃ y5 y6 S', exec P0 (c (k + 6)) okb (Rt n x1 (some (.d (.str t))) x3 (some (.d (dueD t))) x5 x6 x7 x8) S = .nx (Rt n x1 (some (.d (.str t))) x3 (some (.d (dueD t))) y5 y6 x7 x8) S' ∧ Near n S S' := by
  have hb : big = 1000000 := rfl
  have htl := ht.1
  have hsc : (splitC 44 t).length ≤ 8 := by rw [split_cnt]; have := ht.2; omega
  obtain ⟨nd, hok, hlen⟩ := due_good (by omega) hp
  have hG := good_srt nd hok (by omega)
  have hql : (srtP ps).length ≤ 8 := by
    have : (srtP ps).length = ps.length := List.length_mergeSort _
    omega
  have hdue : dueD t = pairsD (srtP ps) := by unfold dueD; rw [hp]
  have hw : (pairsD (srtP ps)).wkd = .tup [.str [112, 97, 105, 114, 115], .tup ((srtP ps).map prD)] := by
    simp only [pairsD, D.wkd, D.wkds, wkds_pr]
  rw [hdue]
  have htx : ∀ {S : Hs} {r : Ev}, r[2]? = some (some (.d (.str t))) → ev P0 (c (k + 6)) (.cme 0 (.cons (.var 2) .nil)) r S = .ok (.d (amt (srtP ps))) S := fun {S r} h => v_cme (k := k + 1) (v_var h) (by omega) (by omega) hp
  generalize hqs : srtP ps = qs at *
  have hss : srtP qs = qs := srt_same (List.Perm.refl _) hG.asc
  unfold okb
  have hm : P0.mks[0]? = some (0, 30) := rfl
  have I1 : ∀ {S : Hs} {y5 y6 y7 y8 : Option Vl}, ev P0 (c (k + 6)) (.ix (.vard 4) (.int 1)) (Rt n x1 (some (.d (.str t))) x3 (some (.d (pairsD qs))) y5 y6 y7 y8) S = .ok (.d (.tup (qs.map prD))) S := by
    intro S y5 y6 y7 y8
    rw [ev, v_vard (x := pairsD qs) rfl, hw]
    simp only [R.bind, ev, rdV]
    rfl
  have m1 : ev P0 (c (k + 6)) (.mk 0 (.cons (.ix (.varp 4) (.int 1)) .nil)) (Rt n x1 (some (.d (.str t))) x3 (some (.d (pairsD qs))) x5 x6 x7 x8) S = .ok (.d (amt qs)) S := by
    have e1 : ev P0 (c (k + 6)) (.ix (.varp 4) (.int 1)) (Rt n x1 (some (.d (.str t))) x3 (some (.d (pairsD qs))) x5 x6 x7 x8) S = .ok (.d (.ptp (qs.map prD))) S := by
      rw [ev, v_varp (x := pairsD qs) rfl]
      simp only [R.bind, ev, rdV, pairsD]
      rfl
    rw [ev]
    simp only [hm, v_one e1, R.bind]
    exact mk (k := k + 2) hG
  rw [x_nx (x_asg m1)]
  show ∃ y5 y6 S', exec P0 (c (k + 6)) _ (Rt n x1 (some (.d (.str t))) x3 (some (.d (pairsD qs))) (some (.d (amt qs))) x6 x7 x8) S = _ ∧ _
  have V5 : ∀ {S : Hs} {y6 y7 y8 : Option Vl}, ev P0 (c (k + 6)) (.var 5) (Rt n x1 (some (.d (.str t))) x3 (some (.d (pairsD qs))) (some (.d (amt qs))) y6 y7 y8) S = .ok (.d (amt qs)) S := fun {S y6 y7 y8} => v_var (x := amt qs) rfl
  obtain ⟨r1, r2, r3⟩ := read_str hG (by omega)
  have o5 := v_ostr (k := k + 4) (V5 (S := S) (y6 := x6) (y7 := x7) (y8 := x8)) hG.each hG.len
  have c5 := v_cme (k := k + 1) o5 r1 r2 r3
  rw [hss] at c5
  have n1 := v_neA (k := k + 5) c5 V5
  have o6 := v_ostr (k := k + 4) (htx (S := S) (r := Rt n x1 (some (.d (.str t))) x3 (some (.d (pairsD qs))) (some (.d (amt qs))) x6 x7 x8) rfl) hG.each hG.len
  have n2 := v_nes o6 o5
  rw [decide_eq_true rfl, Bool.not_true] at n2
  rw [x_nx (x_no (v_ors n1 (v_1 n2)))]
  obtain ⟨ys, S1, a1, a2, a3⟩ := mixed (k := k + 4) (n := n) (xs := qs.map prD) (by rw [List.length_map]; omega) hd'
  obtain ⟨zs, hz, rfl⟩ := perm_map a2.symm qs rfl
  have hzl : zs.length ≤ 8 := by rw [← hz.length_eq]; exact hql
  have hzo : ∀ p ∈ zs, Okp p := fun p hp => hG.each p (hz.symm.subset hp)
  have e17 : evi P0 (c (k + 6)) (.one (.call 17 (.cons (.var 0) (.cons (.bi .list (.cons (.ix (.vard 4) (.int 1)) .nil)) .nil)))) (Rt n x1 (some (.d (.str t))) x3 (some (.d (pairsD qs))) (some (.d (amt qs))) x6 x7 x8) S = .ok (zs.map prD) S1 := by
    have e0 := v_bi1 (f := .list) (I1 (S := S) (y5 := some (.d (amt qs))) (y6 := x6) (y7 := x7) (y8 := x8)) (y := .lst (qs.map prD)) rfl
    rw [evi, v_call (v_cons (v_loc (i := 0) (n := n) rfl) (v_one e0)) a1]
    rfl
  have ec := e_comp (cal := c (k + 6)) (own := [7, 8]) (t := .tp (.cons (.nm 7) (.cons (.nm 8) .nil))) (c := .bl true) (e := .bin .add (.bin .add (.var 7) (.str [32, 32])) (.bi .str (.cons (.var 8) .nil))) (fun _ => true) gM e17 (by rw [List.length_map]; omega) (fun x hx => by
    obtain ⟨p, hp, rfl⟩ := List.mem_map.mp hx
    refine ⟨Rt n x1 (some (.d (.str t))) x3 (some (.d (pairsD qs))) (some (.d (amt qs))) x6 (some (.d (.str p.1))) (some (.d (.int p.2))), rfl, by simp only [ev], fun _ => ?_⟩
    obtain ⟨h1, h2, h3, h4⟩ := hzo p hp
    have h8 := kind_len h1
    have h7 := dec_len (show p.2 < 10000000 by omega)
    have es : biD .str [.int (p.2 : Int)] = some (.str (decI p.2)) := by
      have : (2 : Nat) ^ 64 ≤ 2 ^ 1900 := Nat.pow_le_pow_right (by decide) (by decide)
      have h64 : (2 : Nat) ^ 64 = 18446744073709551616 := by decide
      simp only [biD]; rw [if_pos (by omega)]
    exact v_addsS (v_addsS (v_var (i := 7) (x := .str p.1) rfl) (v_str (s := [32, 32])) (by simp only [List.length_cons, List.length_nil]; omega)) (v_bi1 (f := .str) (v_vi (i := 8) (x := (p.2 : Int)) rfl) es) (by rw [decI_nat]; simp only [List.length_append, List.length_cons, List.length_nil]; omega))
  rw [List.filter_eq_self.mpr (fun _ _ => rfl), gM_map] at ec
  have ej := v_join (s := [32, 44, 32]) ec (by decide) (by rw [List.length_map]; omega) (fun x hx => by
    obtain ⟨p, hp, rfl⟩ := List.mem_map.mp hx
    exact Nat.le_trans (wj_len (hzo p hp)) (by decide))
  rw [x_nx (x_asg ej)]
  show ∃ y5 y6 S', exec P0 (c (k + 6)) _ (Rt n x1 (some (.d (.str t))) x3 (some (.d (pairsD qs))) (some (.d (amt qs))) (some (.d (.str (mxP zs)))) x7 x8) S1 = _ ∧ _
  have n3 : ev P0 (c (k + 6)) (.cmp .ne (.ix (.vard 4) (.int 1)) (.tup .nil)) (Rt n x1 (some (.d (.str t))) x3 (some (.d (pairsD qs))) (some (.d (amt qs))) (some (.d (.str (mxP zs)))) x7 x8) S1 = .ok (.d (.bl (!decide (qs = [])))) S1 := by
    have e0 : ev P0 (c (k + 6)) (.tup .nil) (Rt n x1 (some (.d (.str t))) x3 (some (.d (pairsD qs))) (some (.d (amt qs))) (some (.d (.str (mxP zs)))) x7 x8) S1 = .ok (.d (.tup [])) S1 := by
      rw [ev, v_nil]; rfl
    have p0 : D.plain (.tup []) deep = true := rfl
    rw [ev, I1]
    simp only [R.bind]
    rw [e0]
    simp only [rdV, cmpD, pl_pr, p0, Bool.and_self, if_true, Option.map_some, R.opt]
    cases qs with
    | nil => rfl
    | cons p ps => rfl
  have n4 : (!decide (qs = [])) = true → ev P0 (c (k + 6)) (.one (.cmp .ne (.cme 0 (.cons (.var 6) .nil)) (.var 5))) (Rt n x1 (some (.d (.str t))) x3 (some (.d (pairsD qs))) (some (.d (amt qs))) (some (.d (.str (mxP zs)))) x7 x8) S1 = .ok (.d (.bl false)) S1 := by
    intro hn
    have hn' : qs ≠ [] := by simpa using hn
    obtain ⟨q1, q2, q3⟩ := read_mix hzo ((hz.map _).nodup_iff.mp (asc_nd hG.asc)) (by
      intro e; rw [e] at hz; exact hn' (List.perm_nil.mp hz)) (by omega)
    have c6 := v_cme (k := k + 1) (v_var (P := P0) (cal := c (k + 6)) (S := S1) (r := Rt n x1 (some (.d (.str t))) x3 (some (.d (pairsD qs))) (some (.d (amt qs))) (some (.d (.str (mxP zs)))) x7 x8) (i := 6) (x := .str (mxP zs)) rfl) q1 q2 q3
    rw [srt_same hz.symm hG.asc] at c6
    exact v_1 (v_neA (k := k + 5) c6 V5)
  have n5 := v_and n3 n4
  rw [Bool.and_false] at n5
  rw [x_nx (x_no n5)]
  refine ⟨some (.d (amt qs)), some (.d (.str (mxP zs))), S1, ?_, a3⟩
  simp only [exec]
end K03
end
section
set_option maxRecDepth 100000
set_option maxHeartbeats 1000000
set_option exponentiation.threshold 2000
namespace K03
open Iv Pw
variable {k : Nat} {S : Hs}
def rtb : St := (.seq (.asg 2 (.call 26 (.cons (.var 0) .nil))) (.seq (.loop (.nm 3) (.rng (.bi .max2 (.cons (.int 0) (.cons (.bin .sub (.var 1) (.int 3)) .nil)))) spb) (.seq (.asg 4 (.call 23 (.cons (.var 2) .nil))) (.seq (.ite (.cmp .ne (.call 24 (.cons (.var 2) .nil)) (.vard 4)) (.seq (.ret (.bl false)) .skip) .skip) (.seq (.ite (.cmp .eq (.ix (.vard 4) (.int 0)) (.str [112, 97, 105, 114, 115])) okb .skip) .skip)))))
theorem rt_turn {n : Nat} {x2 x3 x4 x5 x6 x7 x8 : Option Vl} {i : Int} (h0 : 0 ≤ i) (h1 : i < 6) (hd' : Dice n S) : ∃ y2 y3 y4 y5 y6 S', exec P0 (c (k + 6)) rtb (Rt n (some (.d (.int i))) x2 x3 x4 x5 x6 x7 x8) S = .nx (Rt n (some (.d (.int i))) y2 y3 y4 y5 y6 x7 x8) S' ∧ Near n S S' := by
  obtain ⟨t0, S1, a1, a2, a3⟩ := drawn (k := k + 2) hd'
  unfold rtb
  rw [x_nx (x_asg (v_call (v_one (v_loc (i := 0) (n := n) rfl)) a1))]
  show ∃ y2 y3 y4 y5 y6 S', exec P0 (c (k + 6)) _ (Rt n (some (.d (.int i))) (some (.d (.str t0))) x3 x4 x5 x6 x7 x8) S1 = _ ∧ _
  obtain ⟨j, hj0, hj1, e1⟩ : ∃ j : Int, 0 ≤ j ∧ j ≤ 2 ∧ ev P0 (c (k + 6)) (.bi .max2 (.cons (.int 0) (.cons (.bin .sub (.var 1) (.int 3)) .nil))) (Rt n (some (.d (.int i))) (some (.d (.str t0))) x3 x4 x5 x6 x7 x8) S1 = .ok (.d (.int j)) S1 := by
    refine ⟨_, ?_, ?_, v_bi2 (f := .max2) v_int (v_b (o := .sub) (v_vi (i := 1) (x := i) rfl) (v_int (i := 3)) rfl) rfl⟩
    · split <;> omega
    · split <;> omega
  obtain ⟨t, z3, S2, b1, b2, b3⟩ := sp_loop (k := k + 3) (n := n) (a := 0) (b := 0) (x1 := some (.d (.int i))) (x4 := x4) (x5 := x5) (x6 := x6) (x7 := x7) (x8 := x8) j.toNat 0 115 5 t0 x3 S1 a3.1 a2 (by omega)
  rw [x_nx ((x_loop (e_rng e1 (by omega) (by omega))).trans b1)]
  have ht : Tx 131 7 t := ⟨by have := b2.1; omega, by have := b2.2; omega⟩
  have htl := ht.1
  have hsc : (splitC 44 t).length ≤ 60 := by rw [split_cnt]; have := ht.2; omega
  have V2 : ∀ {y4 : Option Vl}, ev P0 (c (k + 6)) (.var 2) (Rt n (some (.d (.int i))) (some (.d (.str t))) z3 y4 x5 x6 x7 x8) S2 = .ok (.d (.str t)) S2 := fun {y4} => v_var (x := .str t) rfl
  rw [x_nx (x_asg (v_call (v_one V2) (law_due (k := k + 1) (S := S2) (t := t) (by omega))))]
  show ∃ y2 y3 y4 y5 y6 S', exec P0 (c (k + 6)) _ (Rt n (some (.d (.int i))) (some (.d (.str t))) z3 (some (.d (dueD t))) x5 x6 x7 x8) S2 = _ ∧ _
  have e2 := v_call (v_one (V2 (y4 := some (.d (dueD t))))) (law_told (k := k) (S := S2) (t := t) (by omega) hsc)
  have e3 : ev P0 (c (k + 6)) (.vard 4) (Rt n (some (.d (.int i))) (some (.d (.str t))) z3 (some (.d (dueD t))) x5 x6 x7 x8) S2 = .ok (.d (toldD t)) S2 := by
    rw [v_vard (x := dueD t) rfl, wkd_due]
  obtain ⟨xs, hx⟩ := told_tup (dueE t)
  have hp := pl_told (dueE t)
  have he := eq_told (dueE t)
  have e2' := e2
  have e3' := e3
  unfold toldD at e2' e3'
  rw [hx] at hp he e2' e3'
  rw [x_nx (x_no (v_nep e2' e3' hp he))]
  have N := a3.trans b3
  cases hd2 : dueE t with
  | error z =>
    have e4 : ev P0 (c (k + 6)) (.cmp .eq (.ix (.vard 4) (.int 0)) (.str [112, 97, 105, 114, 115])) (Rt n (some (.d (.int i))) (some (.d (.str t))) z3 (some (.d (dueD t))) x5 x6 x7 x8) S2 = .ok (.d (.bl false)) S2 := by
      have e5 : ev P0 (c (k + 6)) (.ix (.vard 4) (.int 0)) (Rt n (some (.d (.int i))) (some (.d (.str t))) z3 (some (.d (dueD t))) x5 x6 x7 x8) S2 = .ok (.d (.str [115, 112, 111, 116])) S2 := by
        rw [ev, e3]
        unfold toldD
        rw [hd2]
        simp only [R.bind, ev, rdV, toldE, spotD]
        rfl
      exact (v_eqs e5 (v_str (s := [112, 97, 105, 114, 115])))
    rw [x_nx (x_go e4)]
    refine ⟨some (.d (.str t)), z3, some (.d (dueD t)), x5, x6, S2, ?_, N⟩
    simp only [exec]
  | ok ps =>
    have e4 : ev P0 (c (k + 6)) (.cmp .eq (.ix (.vard 4) (.int 0)) (.str [112, 97, 105, 114, 115])) (Rt n (some (.d (.int i))) (some (.d (.str t))) z3 (some (.d (dueD t))) x5 x6 x7 x8) S2 = .ok (.d (.bl true)) S2 := by
      have e5 : ev P0 (c (k + 6)) (.ix (.vard 4) (.int 0)) (Rt n (some (.d (.int i))) (some (.d (.str t))) z3 (some (.d (dueD t))) x5 x6 x7 x8) S2 = .ok (.d (.str [112, 97, 105, 114, 115])) S2 := by
        rw [ev, e3]
        unfold toldD
        rw [hd2]
        simp only [R.bind, ev, rdV, toldE]
        rfl
      exact (v_eqs e5 (v_str (s := [112, 97, 105, 114, 115])))
    obtain ⟨y5, y6, S3, f1, f2⟩ := ok_turn (k := k) (n := n) (t := t) (x1 := some (.d (.int i))) (x3 := z3) (x5 := x5) (x6 := x6) (x7 := x7) (x8 := x8) ht hd2 b3.1
    have e6 : exec P0 (c (k + 6)) (.ite (.cmp .eq (.ix (.vard 4) (.int 0)) (.str [112, 97, 105, 114, 115])) okb .skip) (Rt n (some (.d (.int i))) (some (.d (.str t))) z3 (some (.d (dueD t))) x5 x6 x7 x8) S2 = .nx (Rt n (some (.d (.int i))) (some (.d (.str t))) z3 (some (.d (dueD t))) y5 y6 x7 x8) S3 := by
      rw [x_if e4, if_pos rfl]; exact f1
    rw [x_nx e6]
    refine ⟨some (.d (.str t)), z3, some (.d (dueD t)), y5, y6, S3, ?_, N.trans f2⟩
    simp only [exec]
theorem b_right_eq : b__law_right = (.seq (.loop (.nm 1) (.rng (.int 6)) rtb) (.seq (.ret (.bl true)) .skip)) := rfl
theorem right {n : Nat} (hd' : Dice n S) : ∃ S', c (k + 7) 28 [.loc n] S = .ok (.d (.bl true)) S' ∧ Near n S S' := by
  rw [ca (fn := ⟨1, 9, b__law_right, .all⟩) rfl rfl rfl]
  show ∃ S', fin S.length (exec P0 (c (k + 6)) b__law_right (Rt n none none none none none none none none) S) = _ ∧ _
  rw [b_right_eq]
  obtain ⟨r', S', g1, ⟨x1, x2, x3, x4, x5, x6, rfl⟩, g3⟩ := forL_S (t := .nm 1) (f := fun r S => exec P0 (c (k + 6)) rtb r S) (S := S) (i := 0) (I := fun _ r S' => (∃ x1 x2 x3 x4 x5 x6, r = Rt n x1 x2 x3 x4 x5 x6 none none) ∧ Near n S S') (xs := upTo 6 0) (r := Rt n none none none none none none none none) ⟨⟨none, none, none, none, none, none, rfl⟩, hd', rfl, fun _ _ => rfl⟩ (by
    rintro p x hx r S5 ⟨⟨x1, x2, x3, x4, x5, x6, rfl⟩, hN⟩
    obtain ⟨i, rfl, q1, q2⟩ := upTo_mem (List.mem_of_getElem? hx)
    obtain ⟨y2, y3, y4, y5, y6, S6, u1, u2⟩ := rt_turn (k := k) (n := n) (x2 := x2) (x3 := x3) (x4 := x4) (x5 := x5) (x6 := x6) (x7 := none) (x8 := none) (i := i) q1 (by omega) hN.1
    exact ⟨Rt n (some (.d (.int i))) x2 x3 x4 x5 x6 none none, _, S6, rfl, u1, ⟨_, _, _, _, _, _, rfl⟩, hN.trans u2⟩)
  rw [x_nx ((x_loop (e_rng (v_int (i := 6)) (by decide) (by decide))).trans g1)]
  have et : ev P0 (c (k + 6)) (.bl true) (Rt n x1 x2 x3 x4 x5 x6 none none) S' = .ok (.d (.bl true)) S' := by simp only [ev]
  rw [x_ret (x_retv et)]
  exact ⟨S', fin_len g3.2.1, g3⟩
end K03
end
section
set_option maxRecDepth 100000
set_option maxHeartbeats 1000000
set_option exponentiation.threshold 2000
namespace K03
open Iv Pw
variable {k : Nat} {S : Hs}
/-! ### the texts of many kinds -/
def KS : List Cs := (List.range 61).map fun i => [107] ++ decN (i + 10) ++ [32, 49]
def gK2 (x : D) : D := match x with
  | .int i => .str ([107] ++ decI i ++ [32, 49])
  | y => y
theorem KS_map : (upTo 61 10).map gK2 = KS.map .str := by rfl
def T61 : Cs := joinC [44, 32] KS
def T60 : Cs := joinC [44] (KS.take 60)
def PS : List (Cs × Nat) := (List.range 60).map fun i => ([107] ++ decN (i + 10), 1)
theorem T61_parse : parse T61 = .error 420 := by rfl
theorem T60_parse : parse T60 = .ok PS := by rfl
theorem T61_len : T61.length ≤ 500 := by decide
theorem T60_len : T60.length ≤ 500 ∧ (splitC 44 T60).length ≤ 60 := by decide
theorem J60_len : (joinC [44, 32] (KS.take 60)).length = 418 := by rfl
theorem T60_due : dueE T60 = .ok PS := (parse_due T60_len.1 T60_len.2).symm.trans T60_parse
/-! ### the nine texts -/
def Ts : List Cs := [[], [32], [110, 111, 116, 104, 105, 110, 103, 32, 49], [99, 111, 114, 101, 32, 49, 44], [99, 111, 114, 101, 32, 49, 44, 32, 110, 111, 116, 104, 105, 110, 103, 32], [99, 111, 114, 101, 32, 48], [99, 111, 114, 101, 32, 49, 32, 50], [110, 111, 116, 104, 105, 110, 103, 49, 32, 51], [99, 111, 114, 101, 32, 49, 44, 99, 111, 114, 101, 32, 49, 48, 48, 48, 48, 48, 49]]
def Es : List D := [spotD 0, spotD 1, spotD 8, spotD 7, spotD 15, spotD 5, spotD 7, .tup [.str [112, 97, 105, 114, 115], .tup [.tup [.str [110, 111, 116, 104, 105, 110, 103, 49], .int 3]]], spotD 7]
theorem Ts_len : ∀ t ∈ Ts, t.length ≤ 500 ∧ (splitC 44 t).length ≤ 60 := by decide
theorem told_err {t : Cs} {z : Nat} (h : dueE t = .error z) : toldD t = spotD z := by unfold toldD; rw [h]; rfl
theorem told_one {t : Cs} {p : Cs × Nat} (h : dueE t = .ok [p]) : toldD t = .tup [.str [112, 97, 105, 114, 115], .tup [prD p]] := by
  unfold toldD; rw [h]
  unfold toldE srtP
  dsimp only
  rw [List.mergeSort_singleton]; rfl
theorem Ts_told : Ts.map toldD = Es := by
  unfold Ts Es
  simp only [List.map_cons, List.map_nil]
  rw [told_err (t := []) (z := 0) rfl, told_err (t := [32]) (z := 1) rfl, told_err (t := [110, 111, 116, 104, 105, 110, 103, 32, 49]) (z := 8) rfl, told_err (t := [99, 111, 114, 101, 32, 49, 44]) (z := 7) rfl, told_err (t := [99, 111, 114, 101, 32, 49, 44, 32, 110, 111, 116, 104, 105, 110, 103, 32]) (z := 15) rfl, told_err (t := [99, 111, 114, 101, 32, 48]) (z := 5) rfl, told_err (t := [99, 111, 114, 101, 32, 49, 32, 50]) (z := 7) rfl, told_one (t := [110, 111, 116, 104, 105, 110, 103, 49, 32, 51]) (p := ([110, 111, 116, 104, 105, 110, 103, 49], 3)) rfl, told_err (t := [99, 111, 114, 101, 32, 49, 44, 99, 111, 114, 101, 32, 49, 48, 48, 48, 48, 48, 49]) (z := 7) rfl]
  rfl
end K03
end
section
set_option maxRecDepth 100000
set_option maxHeartbeats 1000000
set_option exponentiation.threshold 2000
namespace K03
open Iv Pw
variable {k : Nat} {S : Hs}
def lwb : St := (.seq (.ite (.not (.call 28 (.cons (.call 14 (.cons (.var 0) (.cons (.var 1) .nil))) .nil))) (.seq (.ret (.bl false)) .skip) .skip) .skip)
def w2 : Ex := (.comp [3] (.nm 3) (.rng2 (.int 10) (.int 71)) (.bl true) (.bin .add (.bin .add (.str [107]) (.bi .str (.cons (.var 3) .nil))) (.str [32, 49])))
def q1 : Ex := (.cmp .ne (.call 24 (.cons (.meth .join (.str [44, 32]) (.cons (.var 2) .nil)) .nil)) (.tup (.cons (.str [115, 112, 111, 116]) (.cons (.bin .add (.bi .len (.cons (.meth .join (.str [44, 32]) (.cons (.sl (.var 2) .no (.one (.int 60))) .nil)) .nil)) (.int 2)) .nil))))
def q2 : Ex := (.cmp .ne (.bi .len (.cons (.ix (.call 24 (.cons (.meth .join (.str [44]) (.cons (.sl (.var 2) .no (.one (.int 60))) .nil)) .nil)) (.int 1)) .nil)) (.int 60))
def w4 : Ex := (.lst (.cons (.str []) (.cons (.str [32]) (.cons (.str [110, 111, 116, 104, 105, 110, 103, 32, 49]) (.cons (.str [99, 111, 114, 101, 32, 49, 44]) (.cons (.str [99, 111, 114, 101, 32, 49, 44, 32, 110, 111, 116, 104, 105, 110, 103, 32]) (.cons (.str [99, 111, 114, 101, 32, 48]) (.cons (.str [99, 111, 114, 101, 32, 49, 32, 50]) (.cons (.str [110, 111, 116, 104, 105, 110, 103, 49, 32, 51]) (.cons (.str [99, 111, 114, 101, 32, 49, 44, 99, 111, 114, 101, 32, 49, 48, 48, 48, 48, 48, 49]) .nil))))))))))
def w5 : Ex := (.lst (.cons (.tup (.cons (.str [115, 112, 111, 116]) (.cons (.int 0) .nil))) (.cons (.tup (.cons (.str [115, 112, 111, 116]) (.cons (.int 1) .nil))) (.cons (.tup (.cons (.str [115, 112, 111, 116]) (.cons (.int 8) .nil))) (.cons (.tup (.cons (.str [115, 112, 111, 116]) (.cons (.int 7) .nil))) (.cons (.tup (.cons (.str [115, 112, 111, 116]) (.cons (.int 15) .nil))) (.cons (.tup (.cons (.str [115, 112, 111, 116]) (.cons (.int 5) .nil))) (.cons (.tup (.cons (.str [115, 112, 111, 116]) (.cons (.int 7) .nil))) .nil))))))))
def w6 : Ex := (.lst (.cons (.tup (.cons (.str [112, 97, 105, 114, 115]) (.cons (.tup (.cons (.tup (.cons (.str [110, 111, 116, 104, 105, 110, 103, 49]) (.cons (.int 3) .nil))) .nil)) .nil))) (.cons (.tup (.cons (.str [115, 112, 111, 116]) (.cons (.int 7) .nil))) .nil)))
def w7 : Ex := (.comp [6] (.nm 6) (.one (.var 4)) (.bl true) (.call 24 (.cons (.var 6) .nil)))
theorem b_law_eq : b_law = (.seq (.loop (.nm 1) (.rng (.bi .max2 (.cons (.int 1) (.cons (.bi .min2 (.cons (.int 3) (.cons (.bi .len (.cons (.var 0) .nil)) .nil))) .nil)))) lwb) (.seq (.asg 2 w2) (.seq (.ite (.or q1 (.one q2)) (.seq (.ret (.bl false)) .skip) .skip) (.seq (.asg 4 w4) (.seq (.asg 5 w5) (.seq (.asg 5 (.bin .add (.var 5) w6)) (.seq (.ret (.cmp .eq w7 (.var 5))) .skip))))))) := rfl
def gT (x : D) : D := match x with
  | .str t => toldD t
  | y => y
theorem gT_map : (Ts.map .str).map gT = Es := by
  rw [List.map_map, ← Ts_told]
  rfl
theorem v_tup2 {cal : Cal} {r : Ev} {s : Cs} {i : Int} : ev P0 cal (.tup (.cons (.str s) (.cons (.int i) .nil))) r S = .ok (.d (.tup [.str s, .int i])) S := by
  rw [ev, v_cons v_str (v_one v_int)]
  simp only [R.bind, dsOf, Option.map_some, List.length_cons, List.length_nil]
  rw [if_pos (by decide)]
theorem v_tupn {cal : Cal} {r : Ev} {es : Ex} {vs : List D} (h : evs P0 cal es r S = .ok (vs.map .d) S) (hl : vs.length ≤ 1000000) : ev P0 cal (.tup es) r S = .ok (.d (.tup vs)) S := by
  rw [ev, h]
  simp only [R.bind, dsOf_map]
  rw [if_pos (by rw [List.length_map]; exact hl)]
theorem v_nei {cal : Cal} {r : Ev} {a b : Ex} {i : Int} (ha : ev P0 cal a r S = .ok (.d (.int i)) S) (hb : ev P0 cal b r S = .ok (.d (.int i)) S) : ev P0 cal (.cmp .ne a b) r S = .ok (.d (.bl false)) S := by
  rw [ev, ha]
  simp only [R.bind]
  rw [hb]
  simp only [rdV, cmpD, D.plain, D.eqv, beq_self_eq_true, Bool.and_self, if_true, Option.map_some, R.opt, Bool.not_true]
def Rl (ns : List Int) (x1 x2 x3 x4 x5 x6 : Option Vl) : Ev := [some (.d (.ro (ns.map .int))), x1, x2, x3, x4, x5, x6]
theorem tok {ps : List (Cs × Nat)} : toldE (.ok ps) = .tup [.str [112, 97, 105, 114, 115], .tup ((srtP ps).map prD)] := rfl
theorem plain0 (ns : List Int) : ∃ S, runF P0 (c (k + 7)) ⟨1, 7, b_law, .all⟩ [.d (.ro (ns.map .int))] [] = .ok (.d (.bl true)) S := by
  have e : runF P0 (c (k + 7)) ⟨1, 7, b_law, .all⟩ [.d (.ro (ns.map .int))] [] = fin 0 (exec P0 (c (k + 7)) b_law (Rl ns none none none none none none) []) := rfl
  rw [e, b_law_eq]
  have N : ev P0 (c (k + 7)) (.var 0) (Rl ns none none none none none none) [] = .ok (.d (.ro (ns.map .int))) [] := v_ro rfl
  have hl : biD .len [.ro (ns.map .int)] = some (.int ns.length) := by simp [biD]
  have R1 := v_bi2 (f := .max2) (v_int (i := 1)) (v_bi2 (f := .min2) (v_int (i := 3)) (v_bi1 N hl) rfl) rfl
  obtain ⟨j, hj1, hj3, R2⟩ : ∃ j : Int, 1 ≤ j ∧ j ≤ 3 ∧ ev P0 (c (k + 7)) (.bi .max2 (.cons (.int 1) (.cons (.bi .min2 (.cons (.int 3) (.cons (.bi .len (.cons (.var 0) .nil)) .nil))) .nil))) (Rl ns none none none none none none) [] = .ok (.d (.int j)) [] := by
    refine ⟨_, ?_, ?_, R1⟩
    · split <;> split at * <;> omega
    · split <;> split at * <;> omega
  obtain ⟨r', S', f1, y, rfl⟩ := forL_S (t := .nm 1) (f := fun r S => exec P0 (c (k + 7)) lwb r S) (S := []) (i := 0) (I := fun _ r _ => ∃ y, r = Rl ns y none none none none none) (xs := upTo j.toNat 0) (r := Rl ns none none none none none none) ⟨none, rfl⟩ (by
    rintro p x hx r S ⟨y, rfl⟩
    obtain ⟨i, rfl, h1, h2⟩ := upTo_mem (List.mem_of_getElem? hx)
    obtain ⟨a, b, d1⟩ := dice (fns := fns0) (P := P0) (k := k + 6) (S := S) (ns := ns) (i := i) hdice h1
    have hD : Dice S.length (S ++ [.lst [.int a, .int b, .int 0]]) := ⟨a, b, 0, by simp⟩
    obtain ⟨S2, q1, q2⟩ := right (k := k) hD
    refine ⟨Rl ns (some (.d (.int i))) none none none none none, Rl ns (some (.d (.int i))) none none none none none, S2, rfl, ?_, _, rfl⟩
    show exec P0 (c (k + 7)) lwb _ S = _
    unfold lwb
    have c0 := v_call (v_cons (v_ro (P := P0) (cal := c (k + 7)) (S := S) (r := Rl ns (some (.d (.int i))) none none none none none) (i := 0) (xs := ns.map .int) rfl) (v_one (v_vi (i := 1) (x := i) rfl))) d1
    have c1 := v_not (v_call (v_one c0) q1)
    rw [Bool.not_true] at c1
    rw [x_nx (r1 := Rl ns (some (.d (.int i))) none none none none none) (S1 := S2) (by rw [x_if c1]; simp [exec])]
    simp only [exec])
  rw [x_nx ((x_loop (e_rng R2 (by omega) (by omega))).trans f1)]
  have E2 : ev P0 (c (k + 7)) w2 (Rl ns y none none none none none) S' = .ok (.d (.lst (KS.map .str))) S' := by
    unfold w2
    have er := e_rng2 (v_int (P := P0) (cal := c (k + 7)) (r := Rl ns y none none none none none) (S := S') (i := 10)) (v_int (i := 71)) (by decide) (by decide) (by decide) (by decide)
    have e := e_comp (cal := c (k + 7)) (own := [3]) (t := .nm 3) (c := .bl true) (e := .bin .add (.bin .add (.str [107]) (.bi .str (.cons (.var 3) .nil))) (.str [32, 49])) (fun _ => true) gK2 er (by rw [upTo_len]; decide) (fun x hx => by
      obtain ⟨i, rfl, h1, h2⟩ := upTo_mem hx
      refine ⟨Rl ns y none (some (.d (.int i))) none none none, rfl, by simp only [ev], fun _ => ?_⟩
      have hb : big = 1000000 := rfl
      have h3 : i < 71 := by
        have : ((71 - 10 : Int).toNat : Int) = 61 := rfl
        omega
      have es : biD .str [.int i] = some (.str (decI i)) := by
        have : (2 : Nat) ^ 64 ≤ 2 ^ 1900 := Nat.pow_le_pow_right (by decide) (by decide)
        have h64 : (2 : Nat) ^ 64 = 18446744073709551616 := by decide
        simp only [biD]; rw [if_pos (by omega)]
      have hdl : (decI i).length ≤ 7 := by
        have e : i = (i.toNat : Int) := by omega
        rw [e, decI_nat]; exact dec_len (by omega)
      exact v_addsS (v_addsS (v_str (s := [107])) (v_bi1 (f := .str) (v_vi (i := 3) (x := i) rfl) es) (by simp only [List.length_cons, List.length_nil]; omega)) (v_str (s := [32, 49])) (by simp only [List.length_append, List.length_cons, List.length_nil]; omega))
    rw [List.filter_eq_self.mpr (fun _ _ => rfl)] at e
    exact e.trans (by rw [show (upTo (71 - 10 : Int).toNat 10).map gK2 = KS.map .str from KS_map])
  rw [x_nx (x_asg E2)]
  show ∃ S, fin 0 (exec P0 (c (k + 7)) _ (Rl ns y (some (.d (.lst (KS.map .str)))) none none none none) S') = _
  have V2 : ev P0 (c (k + 7)) (.var 2) (Rl ns y (some (.d (.lst (KS.map .str)))) none none none none) S' = .ok (.d (.lst (KS.map .str))) S' := v_var (x := .lst (KS.map .str)) rfl
  have hKl : ∀ x ∈ KS, x.length ≤ 1000 := by decide
  have V60 : ev P0 (c (k + 7)) (.sl (.var 2) .no (.one (.int 60))) (Rl ns y (some (.d (.lst (KS.map .str)))) none none none none) S' = .ok (.d (.lst ((KS.take 60).map .str))) S' := by
    rw [ev, V2]
    simp only [R.bind, evo, ev, rdV]
    rfl
  have h60 : ∀ x ∈ KS.take 60, x.length ≤ 1000 := fun x hx => hKl x (List.take_subset _ _ hx)
  have Q1 : ev P0 (c (k + 7)) q1 (Rl ns y (some (.d (.lst (KS.map .str)))) none none none none) S' = .ok (.d (.bl false)) S' := by
    unfold q1
    have a1 := v_call (v_one (v_join (s := [44, 32]) V2 (by decide) (by decide) hKl)) (law_toldX (k := k + 1) (S := S') (t := T61) T61_len T61_parse (fun ps h => by cases h))
    have a2 := v_bi1 (f := .len) (v_join (s := [44, 32]) V60 (by decide) (by decide) h60) (y := .int 418) (by
      simp only [biD]
      rw [J60_len]; rfl)
    have a3 := v_spot (v_b (o := .add) a2 (v_int (i := 2)) (z := 420) rfl)
    exact v_nep a1 a3 rfl (eq_told (.error 420))
  have Q2 : ev P0 (c (k + 7)) q2 (Rl ns y (some (.d (.lst (KS.map .str)))) none none none none) S' = .ok (.d (.bl false)) S' := by
    unfold q2
    have a1 := v_call (v_one (v_join (s := [44]) V60 (by decide) (by decide) h60)) (law_told (k := k + 1) (S := S') (t := T60) T60_len.1 T60_len.2)
    have hpl : (srtP PS).length = 60 := by
      have : (srtP PS).length = PS.length := List.length_mergeSort _
      rw [this]; rfl
    unfold toldD at a1
    rw [T60_due, tok] at a1
    have a2 : ev P0 (c (k + 7)) (.ix (.call 24 (.cons (.meth .join (.str [44]) (.cons (.sl (.var 2) .no (.one (.int 60))) .nil)) .nil)) (.int 1)) (Rl ns y (some (.d (.lst (KS.map .str)))) none none none none) S' = .ok (.d (.tup ((srtP PS).map prD))) S' := by
      rw [ev, a1]
      simp only [R.bind, v_int, rdV]
      rfl
    have a3 := v_bi1 (f := .len) a2 (y := .int 60) (by
      simp only [biD, List.length_map, hpl]; rfl)
    exact v_nei a3 v_int
  rw [x_nx (x_no (v_ors Q1 (v_1 Q2)))]
  have E4 : ev P0 (c (k + 7)) w4 (Rl ns y (some (.d (.lst (KS.map .str)))) none none none none) S' = .ok (.d (.lst (Ts.map .str))) S' := by
    unfold w4
    exact v_lstS (vs := Ts.map .str) (v_cons v_str (v_cons v_str (v_cons v_str (v_cons v_str (v_cons v_str (v_cons v_str (v_cons v_str (v_cons v_str (v_one v_str))))))))) (by decide)
  generalize hK : (some (Vl.d (D.lst (KS.map .str)))) = x2 at *
  rw [x_nx (x_asg E4)]
  show ∃ S, fin 0 (exec P0 (c (k + 7)) _ (Rl ns y x2 none (some (.d (.lst (Ts.map .str)))) none none) S') = _
  have E5 : ev P0 (c (k + 7)) w5 (Rl ns y x2 none (some (.d (.lst (Ts.map .str)))) none none) S' = .ok (.d (.lst (Es.take 7))) S' := by
    unfold w5
    exact v_lstS (vs := Es.take 7) (v_cons v_tup2 (v_cons v_tup2 (v_cons v_tup2 (v_cons v_tup2 (v_cons v_tup2 (v_cons v_tup2 (v_one v_tup2))))))) (by decide)
  rw [x_nx (x_asg E5)]
  show ∃ S, fin 0 (exec P0 (c (k + 7)) _ (Rl ns y x2 none (some (.d (.lst (Ts.map .str)))) (some (.d (.lst (Es.take 7)))) none) S') = _
  have E7 : ev P0 (c (k + 7)) (.bin .add (.var 5) w6) (Rl ns y x2 none (some (.d (.lst (Ts.map .str)))) (some (.d (.lst (Es.take 7)))) none) S' = .ok (.d (.lst Es)) S' := by
    have q : ev P0 (c (k + 7)) w6 (Rl ns y x2 none (some (.d (.lst (Ts.map .str)))) (some (.d (.lst (Es.take 7)))) none) S' = .ok (.d (.lst (Es.drop 7))) S' := by
      unfold w6
      have t1 := v_tupn (vs := [.tup [.str [110, 111, 116, 104, 105, 110, 103, 49], .int 3]]) (v_one (v_tup2 (cal := c (k + 7)) (r := Rl ns y x2 none (some (.d (.lst (Ts.map .str)))) (some (.d (.lst (Es.take 7)))) none) (S := S') (s := [110, 111, 116, 104, 105, 110, 103, 49]) (i := 3))) (by decide)
      have t2 := v_tupn (vs := [.str [112, 97, 105, 114, 115], .tup [.tup [.str [110, 111, 116, 104, 105, 110, 103, 49], .int 3]]]) (v_cons v_str (v_one t1)) (by decide)
      exact v_lstS (vs := Es.drop 7) (v_cons t2 (v_one v_tup2)) (by decide)
    rw [ev, v_var (i := 5) (x := .lst (Es.take 7)) rfl]
    simp only [R.bind, D.wk]
    rw [q]
    simp only [binD]
    rw [if_pos (by decide)]
    rfl
  rw [x_nx (x_asg E7)]
  show ∃ S, fin 0 (exec P0 (c (k + 7)) _ (Rl ns y x2 none (some (.d (.lst (Ts.map .str)))) (some (.d (.lst Es))) none) S') = _
  have E8 : ev P0 (c (k + 7)) w7 (Rl ns y x2 none (some (.d (.lst (Ts.map .str)))) (some (.d (.lst Es))) none) S' = .ok (.d (.lst Es)) S' := by
    unfold w7
    have eit : evi P0 (c (k + 7)) (.one (.var 4)) (Rl ns y x2 none (some (.d (.lst (Ts.map .str)))) (some (.d (.lst Es))) none) S' = .ok (Ts.map .str) S' := by
      rw [evi, v_var (i := 4) (x := .lst (Ts.map .str)) rfl]; simp only [R.bind, D.wk]
    have e := e_comp (cal := c (k + 7)) (own := [6]) (t := .nm 6) (c := .bl true) (e := .call 24 (.cons (.var 6) .nil)) (fun _ => true) gT eit (by decide) (fun x hx => by
      obtain ⟨t, ht, rfl⟩ := List.mem_map.mp hx
      refine ⟨_, rfl, by simp [ev], fun _ => ?_⟩
      exact v_call (v_one (v_var (i := 6) (x := .str t) rfl)) (law_told (k := k + 1) (Ts_len t ht).1 (Ts_len t ht).2))
    rw [List.filter_eq_self.mpr (fun _ _ => rfl), gT_map] at e
    exact e
  have E9 : ev P0 (c (k + 7)) (.cmp .eq w7 (.var 5)) (Rl ns y x2 none (some (.d (.lst (Ts.map .str)))) (some (.d (.lst Es))) none) S' = .ok (.d (.bl true)) S' := by
    rw [ev, E8]
    simp only [R.bind]
    rw [v_var (i := 5) (x := .lst Es) rfl]
    have q1 : D.plain (.lst Es) deep = true := by rfl
    have q2 : D.eqv (.lst Es) (.lst Es) = true := by rfl
    simp only [D.wk, rdV, cmpD, q1, q2, Bool.and_self, if_true, Option.map_some, R.opt]
  exact ⟨_, congrArg (fin 0) (x_ret (x_retv E9))⟩
end K03
end
theorem K03.plain : ∀ ns : List Int, ns.length ≤ 63 → ∃ S, Iv.runF K03.tb.prg (Iv.call K03.tb.prg K03.tb.fns 7) ⟨1, 7, K03.b_law, .all⟩ [.d (.ro (ns.map .int))] [] = .ok (.d (.bl true)) S := by
  intro ns _
  rw [K03.tb_prg, K03.tb_fns]
  exact K03.plain0 (k := 0) ns
set_option maxRecDepth 100000
set_option maxHeartbeats 0
open PySem PySem.W PyProof.Rows
theorem PySem.Challenge.cw_toldstarts_k03_texts_of_amounts_holds : PySem.Challenge.rw_toldstarts_k03_texts_of_amounts.Holds := by
  w_on; o_law; k_head; (case hw => w_witness2)
  k_fill
  exact Iv.walk (l := PySem.Challenge.rw_toldstarts_k03_texts_of_amounts) K03.tb 29 ⟨1, 7, K03.b_law, .all⟩ 7 "_law_script" rfl rfl ⟨rfl, by decide, by decide⟩ (fun w h Y => PySem.W.kIn_of Y) rfl rfl (fun p => by kernel_rfl) (fun p => by kernel_rfl) (fun p => by kernel_rfl) K03.plain
