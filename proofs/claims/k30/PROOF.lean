import PyProof.Rows.All
import Wide.All
import OpenK.AllK
import Wide.FinOn
import HandS.ForMost
import HandS.ForExc
import HandS.IsInst
import HandS.Wide
import HandS.FStr
import HandS.Replace
import HandS.ReplaceList
import HandS.EndBits
import HandS.TryMany
import HandS.Flow
import HandS.Style
import HandS.Zip
import HandS.Walk
import HandS.OwnEq
import HandS.Slots
import HandS.SlotsOwn
import HandS.ClsMeth
import HandS.DictComp
import HandS.More
import HandS.Small
import HandS.DictTup
import HandS.Star
import HandS.Lambda
import HandS.TupMul
import HandS.TupAny
import HandS.TupLe
import KE.SortData
import KE.KDictPairs
import KE.KEqDict
import HandS.RaiseMore
import HandS.StrMore
import KE.KOpsOwn
import KE.KExcSuper
import KE.KSuper
import PyProof.ExcBaseAll.ValueError
import PyProof.ExcBaseAll.LookupError
import PyProof.ExcBaseAll.IndexError
import PyProof.ExcBaseAll.OverflowError
import HandS.Exc
import HandS.ExcOwn
import HandS.ExcInit
import HandS.ExcField
import HandS.Iter
import KE.GoesZip
import KE.GoesMore
import HandS.TryOnly
import PyProof.Rows.Range3
import HandS.ListItems
import HandS.ReplaceLit
import HandS.ReplaceDef
import KE.KPar
import HandS.Defaults
import HandS.EndTab
import PySem.Challenge.RW_toldstarts_k30_states_and_formulas_told
import PyProof.TableCode
set_option Elab.async false
set_option linter.all false
section
/-! Iv0: an interpreter for the part of Python that the laws use: values by value, a small heap for lists that are changed. -/
namespace Iv

/-- a text as its codes -/
abbrev Cs := List Nat

inductive Ky where
  | i (n : Int) | s (x : Cs)
  deriving DecidableEq

/-- data -/
inductive D where
  | non | bl (b : Bool) | int (i : Int) | str (s : Cs)
  | tup (xs : List D) | lst (xs : List D)
  | dct (kvs : List (Ky × D))
  | ins (c : Nat) (fs : List D)
  /-- a class -/
  | cls (c : Nat)
  /-- a list that is only read -/
  | ro (xs : List D)
  /-- a tuple of which the whole object is known -/
  | ptp (xs : List D)
  deriving Inhabited

/-- a tuple like any other -/
def D.wk : D → D
  | .ptp xs => .tup xs
  | x => x
mutual
/-- and all that it holds -/
def D.wkd : D → D
  | .ptp xs => .tup (D.wkds xs)
  | .tup xs => .tup (D.wkds xs)
  | .lst xs => .lst (D.wkds xs)
  | .non => .non | .bl b => .bl b | .int i => .int i | .str s => .str s
  | .dct kvs => .dct kvs | .ins c fs => .ins c fs | .cls c => .cls c | .ro xs => .ro xs
def D.wkds : List D → List D
  | [] => []
  | x :: xs => D.wkd x :: D.wkds xs
end
mutual
/-- == of data -/
def D.eqv : D → D → Bool
  | .non, .non => true
  | .bl a, .bl b => a == b
  | .bl a, .int j => (if a then 1 else 0) == j
  | .int i, .bl b => i == (if b then 1 else 0)
  | .int i, .int j => i == j
  | .str x, .str y => x == y
  | .lst xs, .lst ys => D.eqvs xs ys
  | .tup xs, .tup ys => D.eqvs xs ys
  | _, _ => false
def D.eqvs : List D → List D → Bool
  | [], [] => true
  | x :: xs, y :: ys => D.eqv x y && D.eqvs xs ys
  | _, _ => false
end
mutual
/-- no dicts, no instances; nested at most n deep -/
def D.plain : D → Nat → Bool
  | .non, _ => true
  | .bl _, _ => true
  | .int _, _ => true
  | .str _, _ => true
  | .tup xs, n => match n with
    | 0 => false
    | n + 1 => D.plains xs n
  | .lst xs, n => match n with
    | 0 => false
    | n + 1 => D.plains xs n
  | .dct _, _ => false
  | .ins _ _, _ => false
  | .cls _, _ => false
  | .ro _, _ => false
  | .ptp _, _ => false
def D.plains : List D → Nat → Bool
  | [], _ => true
  | x :: xs, n => D.plain x n && D.plains xs n
end
mutual
/-- the two can be compared by <, place by place -/
def D.alike : D → D → Bool
  | .int _, .int _ => true
  | .bl _, .bl _ => true
  | .str _, .str _ => true
  | .lst xs, .lst ys => D.alikes xs ys
  | .tup xs, .tup ys => D.alikes xs ys
  | _, _ => false
def D.alikes : List D → List D → Bool
  | x :: xs, y :: ys => D.alike x y && D.alikes xs ys
  | _, _ => true
end
/-- the order of texts -/
def ltCs : Cs → Cs → Bool
  | [], [] => false
  | [], _ :: _ => true
  | _ :: _, [] => false
  | a :: as, b :: bs => if a < b then true else if a = b then ltCs as bs else false
mutual
/-- x < y of data that are alike -/
def D.lt : D → D → Bool
  | .int i, .int j => decide (i < j)
  | .bl a, .bl b => !a && b
  | .str x, .str y => ltCs x y
  | .lst xs, .lst ys => D.lts xs ys
  | .tup xs, .tup ys => D.lts xs ys
  | _, _ => false
def D.lts : List D → List D → Bool
  | [], [] => false
  | [], _ :: _ => true
  | _ :: _, [] => false
  | x :: xs, y :: ys => if D.eqv x y then D.lts xs ys else D.lt x y
end
/-- sorted -/
def sortD (xs : List D) : List D := xs.mergeSort fun a b => !D.lt b a
/-- can be sorted: every two are alike; numbers, texts, lists, or tuples that are not empty -/
def alikeAll (xs : List D) : Bool := xs.all fun a => xs.all fun b => D.alike a b
def notTup : D → Bool
  | .tup _ => false
  | _ => true
def tup1 : D → Bool
  | .tup (_ :: _) => true
  | _ => false
def sortOk (xs : List D) : Bool := alikeAll xs && (xs.all (D.plain · 30)) && (xs.all notTup || xs.all tup1) && decide (xs.length ≤ 1000000)
/-- None, a bool, an int, a text -/
def D.flat : D → Bool
  | .non => true
  | .bl _ => true
  | .int _ => true
  | .str _ => true
  | _ => false
def D.flats : List D → Bool
  | [] => true
  | x :: xs => x.flat && D.flats xs
/-- x in xs, flat items -/
def D.mem (x : D) : List D → Bool
  | [] => false
  | y :: ys => if D.eqv y x then true else D.mem x ys

/-- what stands in the heap -/
inductive Ob where
  | lst (xs : List D)
  | dct (kvs : List (Ky × D))
  | ins (c : Nat) (fs : List (Option D))
  | dead
abbrev Hs := List Ob

/-- a value of a name -/
inductive Vl where
  | d (x : D)
  | loc (n : Nat)
  | xc (c : Nat) (fs : List D)
abbrev Ev := List (Option Vl)

inductive R (α : Type) where
  | ok (a : α) (S : Hs)
  | exc (c : Nat) (fs : List D) (S : Hs)
  | bad
def R.bind {α β : Type} (r : R α) (k : α → Hs → R β) : R β :=
  match r with
  | .ok a S => k a S
  | .exc c fs S => .exc c fs S
  | .bad => .bad
def R.opt {α : Type} (o : Option α) (S : Hs) : R α :=
  match o with
  | some a => .ok a S
  | none => .bad

inductive BOp where | add | sub | mul | fdiv | mod | pow
  deriving DecidableEq
inductive COp where | eq | ne | lt | le | gt | ge | isin | notin
  deriving DecidableEq
inductive Ty where | int | bool | str | tup | lst | dct
  deriving DecidableEq
inductive Bi where | len | int | str | abs | max2 | min2 | sum | divmod | tuple | list | all | any | min | max | bool
  deriving DecidableEq
inductive Mt where | split | join | startswith | lstrip | rstrip
  deriving DecidableEq

/-- targets -/
inductive Tg where
  | nm (i : Nat) | tp (ts : Tg) | nil | cons (a b : Tg)

/-- expressions; lists of expressions by nil and cons -/
inductive Ex where
  | var (i : Nat) | varp (i : Nat) | vard (i : Nat)
  | glob (g : Nat)
  | non | bl (b : Bool) | int (i : Int) | str (s : Cs)
  | nil | cons (e es : Ex)
  | tup (es : Ex) | ptup (es : Ex) | ptl (e : Ex) | lst (es : Ex) | newl (es : Ex)
  | frz (i : Nat)
  | bin (o : BOp) (a b : Ex)
  | neg (a : Ex)
  | cmp (o : COp) (a b : Ex)
  | chain (o o' : COp) (a b c : Ex)
  | not (a : Ex) | and (a b : Ex) | or (a b : Ex) | one (a : Ex)
  | ite (c a b : Ex)
  | call (f : Nat) (es : Ex)
  | call0 (f : Nat)
  | bi (b : Bi) (es : Ex)
  | isi (a : Ex) (t : Ty)
  | meth (m : Mt) (o es : Ex)
  | ix (a i : Ex)
  | sl (a lo hi : Ex)
  | dix (d k : Ex) | dgt (d k x : Ex) | din (neg : Bool) (k d : Ex) | dct0 | newd | dcmp (own : List Nat) (t : Tg) (it c k v : Ex) | itm (d : Ex)
  | dof (e : Ex) | deq0 (neg : Bool) (d : Ex) | srt (d : Ex) | srti (d : Ex) | stars (a b : Ex)
  | mk (j : Nat) (es : Ex) | mkc (i j : Nat) (es : Ex) | slt (j : Nat) (o : Ex) | sltp (j : Nat) (o : Ex) | mth (j : Nat) (o es : Ex) | prp (j : Nat) (o : Ex) | cme (j : Nat) (es : Ex) | isc (j : Nat) (o : Ex)
  | olen (o : Ex) | obool (o : Ex)
  | no
  | fld (i k : Nat)
  | rng (a : Ex) | rng2 (a b : Ex) | zip (a b : Ex) | enm (a : Ex)
  | comp (own : List Nat) (t : Tg) (it c e : Ex) | newc (own : List Nat) (t : Tg) (it c e : Ex)
  | fjoin (es : Ex) | fmt (e : Ex) | fmt02 (e : Ex)
  | repl (o : Ex) (c : Nat) (z : Cs)
  | ostr (o : Ex) | newo (e : Ex) | pop (i : Nat) (k : Ex) | dits (d : Ex) | dln (d : Ex) | isn (neg : Bool) (a : Ex) | isb (neg b : Bool) (a : Ex)
  | rfc (j f : Nat) (es : Ex) | comp2 (own own1 : List Nat) (t : Tg) (it : Ex) (t1 : Tg) (it1 e : Ex) | rpr (a : Ex) | dlit2 (k1 : Cs) (v1 : Ex) (k2 : Cs) (v2 : Ex)

/-! ### operations on data -/
def big : Nat := 1000000
def mulOk (i j : Int) : Bool := decide (i.natAbs < 2 ^ 64) || decide (j.natAbs < 2 ^ 64) || (decide (i.natAbs < 2 ^ 1000) && decide (j.natAbs < 2 ^ 1000))
def repL {α : Type} (xs : List α) : Nat → List α
  | 0 => []
  | n + 1 => xs ++ repL xs n
def binD : BOp → D → D → Option D
  | .add, .int i, .int j => some (.int (i + j))
  | .add, .str a, .str b => if a.length + b.length ≤ big then some (.str (a ++ b)) else none
  | .add, .lst a, .lst b => if a.length + b.length ≤ big then some (.lst (a ++ b)) else none
  | .add, .tup a, .tup b => if a.length + b.length ≤ big then some (.tup (a ++ b)) else none
  | .sub, .int i, .int j => some (.int (i - j))
  | .mul, .int i, .int j => if mulOk i j then some (.int (i * j)) else none
  | .mul, .str a, .int n => if 0 ≤ n ∧ n ≤ 100 ∧ a.length ≤ 1000 then some (.str (repL a n.toNat)) else none
  | .mul, .tup a, .int n => if 1 ≤ a.length ∧ 2 ≤ n ∧ n ≤ 1000 ∧ a.length ≤ 1000 then some (.tup (repL a n.toNat)) else none
  | .mul, .lst a, .int n => if 0 ≤ n ∧ n ≤ 1000 ∧ a.length ≤ 1000 then some (.lst (repL a n.toNat)) else none
  | .fdiv, .int i, .int j => if 0 < j ∧ j < 2 ^ 1000 then some (.int (i / j)) else none
  | .mod, .int i, .int j => if 0 < j then some (.int (i % j)) else none
  | .pow, .int i, .int j => if 0 ≤ j ∧ j ≤ 1000 ∧ i.natAbs < 2 ^ 64 then some (.int (i ^ j.toNat)) else none
  | _, _, _ => none
/-- x op= y -/
def augD : BOp → D → D → Option D
  | .add, .int i, .int j => some (.int (i + j))
  | .add, .str a, .str b => if a.length + b.length ≤ big then some (.str (a ++ b)) else none
  | .sub, .int i, .int j => some (.int (i - j))
  | .mul, .int i, .int j => if i.natAbs < 2 ^ 64 ∨ j.natAbs < 2 ^ 64 then some (.int (i * j)) else none
  | _, _, _ => none
def deep : Nat := 30
/-- x in y -/
def inD : D → D → Option Bool
  | x, .str z => match x with
    | .str [c] => some (z.contains c)
    | _ => none
  | x, .tup xs => if x.flat && D.flats xs then some (D.mem x xs) else none
  | x, .lst xs => if x.flat && D.flats xs then some (D.mem x xs) else none
  | _, _ => none
def cmpD : COp → D → D → Option Bool
  | .eq, a, b => if a.plain deep && b.plain deep then some (a.eqv b) else none
  | .ne, a, b => if a.plain deep && b.plain deep then some (!a.eqv b) else none
  | .lt, .int i, .int j => some (decide (i < j))
  | .le, .int i, .int j => some (decide (i ≤ j))
  | .gt, .int i, .int j => some (decide (j < i))
  | .lt, .str a, .str b => some (ltCs a b)
  | .le, .str a, .str b => some (!ltCs b a)
  | .gt, .str a, .str b => some (ltCs b a)
  | .ge, .str a, .str b => some (!ltCs a b)
  | .ge, .int i, .int j => some (decide (j ≤ i))
  | .isin, a, b => inD a b
  | .notin, a, b => (inD a b).map (!·)
  | _, _, _ => none
/-- the digits of a number -/
def digs : Nat → Nat → Cs → Cs
  | 0, _, acc => acc
  | f + 1, n, acc => if n < 10 then (48 + n) :: acc else digs f (n / 10) ((48 + n % 10) :: acc)
def decN (n : Nat) : Cs := digs (n + 1) n []
def decI (i : Int) : Cs := if i < 0 then 45 :: decN i.natAbs else decN i.natAbs
/-- the number of digits alone -/
def numOf : Cs → Nat → Option Nat
  | [], acc => some acc
  | c :: cs, acc => if 48 ≤ c ∧ c ≤ 57 then numOf cs (acc * 10 + (c - 48)) else none
def sumD : List D → Int → Option Int
  | [], acc => some acc
  | .int i :: xs, acc => sumD xs (acc + i)
  | _ :: _, _ => none
def bools : List D → Option (List Bool)
  | [] => some []
  | .bl b :: xs => (bools xs).map (b :: ·)
  | _ :: _ => none
def intsD : List D → Option (List Int)
  | [] => some []
  | .int b :: xs => (intsD xs).map (b :: ·)
  | _ :: _ => none
def allB : List Bool → Bool
  | [] => true
  | b :: bs => b && allB bs
def anyB : List Bool → Bool
  | [] => false
  | b :: bs => b || anyB bs
def leastI : Int → List Int → Int
  | m, [] => m
  | m, x :: xs => leastI (if x < m then x else m) xs
def mostI : Int → List Int → Int
  | m, [] => m
  | m, x :: xs => mostI (if m < x then x else m) xs
def biD : Bi → List D → Option D
  | .len, [.str s] => if s.length ≤ big then some (.int s.length) else none
  | .len, [.lst s] => some (.int s.length)
  | .len, [.tup s] => some (.int s.length)
  | .len, [.ro s] => some (.int s.length)
  | .int, [.int i] => some (.int i)
  | .int, [.bl b] => some (.int (if b then 1 else 0))
  | .int, [.str s] => if s ≠ [] ∧ s.length ≤ 640 then (numOf s 0).map fun n => .int n else none
  | .str, [.int i] => if i.natAbs < 2 ^ 1900 then some (.str (decI i)) else none
  | .str, [.str s] => some (.str s)
  | .abs, [.int i] => some (.int (if i < 0 then -i else i))
  | .max2, [.int i, .int j] => some (.int (if j > i then j else i))
  | .min2, [.int i, .int j] => some (.int (if j < i then j else i))
  | .sum, [.lst xs] => (sumD xs 0).map .int
  | .divmod, [.int i, .int j] => if 0 < j ∧ j < 1073741824 then some (.tup [.int (i / j), .int (i % j)]) else none
  | .tuple, [.lst xs] => some (.tup xs)
  | .tuple, [.tup xs] => some (.tup xs)
  | .bool, [.int i] => some (.bl (i != 0))
  | .bool, [.bl b] => some (.bl b)
  | .bool, [.lst xs] => some (.bl (!xs.isEmpty))
  | .bool, [.tup xs] => some (.bl (!xs.isEmpty))
  | .list, [.lst xs] => some (.lst xs)
  | .list, [.tup xs] => some (.lst xs)
  | .all, [.lst xs] => (bools xs).map fun bs => .bl (allB bs)
  | .any, [.lst xs] => (bools xs).map fun bs => .bl (anyB bs)
  | .min, [.lst xs] => (intsD xs).bind fun ns => match ns with
    | [] => none
    | n :: ns => some (.int (leastI n ns))
  | .max, [.lst xs] => (intsD xs).bind fun ns => match ns with
    | [] => none
    | n :: ns => some (.int (mostI n ns))
  | _, _ => none
def isTy : Ty → D → Bool
  | .int, .int _ => true
  | .int, .bl _ => true
  | .bool, .bl _ => true
  | .str, .str _ => true
  | .tup, .tup _ => true
  | .lst, .lst _ => true
  | .dct, .dct _ => true
  | _, _ => false
def isiD (t : Ty) (x : D) : Option D := match x with
  | .ro _ => none
  | .ins _ _ => none
  | .cls _ => none
  | .ptp _ => none
  | x => some (.bl (isTy t x))
/-- a text cut at each sign c -/
def splitC (c : Nat) : Cs → List Cs
  | [] => [[]]
  | x :: xs => if x = c then [] :: splitC c xs else
    match splitC c xs with
    | [] => [[x]]
    | y :: ys => (x :: y) :: ys
/-- each sign c exchanged for z -/
def replC (c : Nat) (z : Cs) : Cs → Cs
  | [] => []
  | x :: xs => if x = c then z ++ replC c z xs else x :: replC c z xs
def strsOf : List D → Option (List Cs)
  | [] => some []
  | .str s :: xs => (strsOf xs).map (s :: ·)
  | _ :: _ => none
def lens : List Cs → Nat
  | [] => 0
  | x :: xs => x.length + lens xs
def joinC (sep : Cs) : List Cs → Cs
  | [] => []
  | [x] => x
  | x :: y :: ys => x ++ sep ++ joinC sep (y :: ys)
def mtD : Mt → D → List D → Option D
  | .split, .str s, [.str [c]] => if s.length ≤ 1000 ∧ c < 256 then some (.lst ((splitC c s).map .str)) else none
  | .join, .str sep, [.lst xs] => (strsOf xs).bind fun l => if l.length ≤ 1000 ∧ sep.length ≤ 100 ∧ lens l ≤ big then some (.str (joinC sep l)) else none
  | .startswith, .str s, [.str p] => some (.bl (p.isPrefixOf s))
  | .lstrip, .str s, [.str [c]] => if s.length ≤ big then some (.str (s.dropWhile (· == c))) else none
  | .rstrip, .str s, [.str [c]] => if s.length ≤ big then some (.str ((s.reverse.dropWhile (· == c)).reverse)) else none
  | _, _, _ => none
/-- the place of an index -/
def plc (i : Int) (n : Nat) : Option Nat :=
  if 0 ≤ i then (if i < n then some i.toNat else none) else (if 0 ≤ i + n then some (i + n).toNat else none)
def ixD : D → D → Option D
  | .str s, .int i => if s.length ≤ big then (plc i s.length).bind fun k => s[k]?.map fun c => .str [c] else none
  | .lst xs, .int i => (plc i xs.length).bind fun k => xs[k]?
  | .tup xs, .int i => (plc i xs.length).bind fun k => xs[k]?
  | .ro xs, .int i => (plc i xs.length).bind fun k => xs[k]?
  | _, _ => none
def lowD (o : Option Int) (n : Nat) : Nat :=
  match o with
  | none => 0
  | some i => if 0 ≤ i then min i.toNat n else (i + n).toNat
def highD (o : Option Int) (n : Nat) : Nat :=
  match o with
  | none => n
  | some i => if 0 ≤ i then min i.toNat n else (i + n).toNat
def cutL {α : Type} (xs : List α) (lo hi : Option Int) : List α := (xs.take (highD hi xs.length)).drop (lowD lo xs.length)
def slD : D → Option Int → Option Int → Option D
  | .str s, lo, hi => if s.length ≤ big then some (.str (cutL s lo hi)) else none
  | .lst xs, lo, hi => some (.lst (cutL xs lo hi))
  | .tup xs, lo, hi => some (.tup (cutL xs lo hi))
  | _, _, _ => none
def bound (v : Vl) : Option (Option Int) :=
  match v with
  | .d (.int i) => some (some i)
  | _ => none
def truth : Vl → Option Bool
  | .d (.bl b) => some b
  | _ => none
def upTo : Nat → Int → List D
  | 0, _ => []
  | n + 1, a => .int a :: upTo n (a + 1)
def zipD : List D → List D → List D
  | x :: xs, y :: ys => .tup [x, y] :: zipD xs ys
  | _, _ => []
def enumD : Nat → List D → List D
  | _, [] => []
  | n, x :: xs => .tup [.int n, x] :: enumD (n + 1) xs
/-- dicts as lists of pairs, in the order in which the keys came -/
def keyD : D → Option Ky
  | .int i => some (.i i)
  | .str s => some (.s s)
  | _ => none
def kyD : Ky → D
  | .i n => .int n
  | .s x => .str x
def kget (k : Ky) : List (Ky × D) → Option D
  | [] => none
  | p :: ps => if p.1 = k then some p.2 else kget k ps
def kput (k : Ky) (v : D) (xs : List (Ky × D)) : List (Ky × D) :=
  if (xs.any fun p => decide (p.1 = k)) = true then xs.map (fun p => if p.1 = k then (p.1, v) else p) else xs ++ [(k, v)]
def dOf : Vl → Option D
  | .d x => some x
  | _ => none
def pairD (p : Ky × D) : D := .tup [kyD p.1, p.2]
/-- dict(pairs) -/
def dofL : List D → List (Ky × D) → Option (List (Ky × D))
  | [], acc => some acc
  | .tup [k, v] :: xs, acc => match keyD k with
    | some q => dofL xs (kput q v acc)
    | none => none
  | _ :: _, _ => none
/-- what [*x] unpacks -/
def starL : Vl → Option (List D)
  | .d (.lst xs) => some xs
  | .d (.tup xs) => some xs
  | .d (.dct kvs) => some (kvs.map fun p => kyD p.1)
  | _ => none
def dsOf : List Vl → Option (List D)
  | [] => some []
  | .d x :: vs => (dsOf vs).map (x :: ·)
  | _ :: _ => none
/-- a list that is read: by value, or in the heap -/
def rdV (v : Vl) (S : Hs) : Option D :=
  match v with
  | .d x => some x
  | .loc n => match S[n]? with
    | some (.lst xs) => some (.lst xs)
    | _ => none
  | .xc _ _ => none
/-- a dict that is read: by value, or in the heap -/
def rdK (v : Vl) (S : Hs) : Option (List (Ky × D)) :=
  match v with
  | .d (.dct kvs) => some kvs
  | .loc n => match S[n]? with
    | some (.dct kvs) => some kvs
    | _ => none
  | _ => none
/-- what sorted collects -/
def srtL (v : Vl) (S : Hs) : Option (List D) :=
  match rdK v S with
  | some kvs => some (kvs.map fun p => kyD p.1)
  | none => match rdV v S with
    | some (.lst xs) => some xs
    | _ => none
def rdVs (vs : List Vl) (S : Hs) : Option (List D) :=
  match vs with
  | [] => some []
  | v :: vs => (rdV v S).bind fun x => (rdVs vs S).map (x :: ·)
mutual
def asgD : Tg → D → Ev → Option Ev
  | .nm i, x, r => some (r.set i (some (.d x)))
  | .tp ts, .tup xs, r => asgL ts xs r
  | .tp ts, .lst xs, r => asgL ts xs r
  | _, _, _ => none
def asgL : Tg → List D → Ev → Option Ev
  | .nil, [], r => some r
  | .cons a b, x :: xs, r => (asgD a x r).bind fun r' => asgL b xs r'
  | _, _, _ => none
end
def wipes (r : Ev) : List Nat → Ev
  | [] => r
  | v :: vs => (wipes r vs).set v none

/-! ### the program: what expressions ask of it -/
structure Prg where
  globs : List D
  sub : Nat → Nat → Bool
  fuel : Nat
  /-- C(..): the class, __init__ -/
  mks : List (Nat × Nat) := []
  /-- fields: the class, the place -/
  sls : List (Nat × Nat) := []
  /-- methods, properties: the class, the def -/
  mts : List (Nat × Nat) := []
  prs : List (Nat × Nat) := []
  /-- classmethods: the class, the def -/
  cms : List (Nat × Nat) := []
  isc : Nat → Nat → Option Bool := fun _ _ => none
  opf : BOp → Nat → Option Nat := fun _ _ => none
  eqf : Nat → Option Nat := fun _ => none
  lnf : Nat → Option Nat := fun _ => none
  bof : Nat → Option Nat := fun _ => none
  stf : Nat → Option Nat := fun _ => none
  /-- defs that tell whether a call is refused: the two classes -/
  rfs : List (Nat × Nat) := []
abbrev Cal := Nat → List Vl → Hs → R Vl

def R.noX {α : Type} : R α → R α
  | .ok a S => .ok a S
  | _ => .bad
def allD : List (Option D) → Option (List D)
  | [] => some []
  | some x :: xs => (allD xs).map (x :: ·)
  | none :: _ => none
/-- an instance of the class c -/
def insOf (c : Nat) (v : Vl) (S : Hs) : Bool :=
  match v with
  | .d (.ins c' _) => c' == c
  | .loc n => match S[n]? with
    | some (.ins c' _) => c' == c
    | _ => false
  | _ => false
/-- the field k of an instance of the class c -/
def fldOf (c k : Nat) (v : Vl) (S : Hs) : Option D :=
  match v with
  | .d (.ins c' fs) => if c' = c then fs[k]? else none
  | .loc n => match S[n]? with
    | some (.ins c' fs) => if c' = c then (fs[k]?).join else none
    | _ => none
  | _ => none
/-- a new instance -/
def mkV (cal : Cal) (c f : Nat) (vs : List Vl) (S : Hs) : R Vl :=
  (cal f (.loc S.length :: vs) (S ++ [.ins c []])).bind fun v S2 => match v, S2[S.length]? with
    | .d .non, some (.ins c' fs) => if c' = c then match allD fs with
      | some xs => .ok (.d (.ins c xs)) (S2.take S.length)
      | none => .bad
      else .bad
    | _, _ => .bad
/-- on the right of an operator of an own class; of its == -/
def okR (c : Nat) : D → Bool
  | .ins c' _ => c' == c
  | .int _ => true
  | _ => false
def okE (c : Nat) : D → Bool
  | .ins c' _ => c' == c
  | _ => false
def bareD : D → Bool
  | .ins _ _ => false
  | .cls _ => false
  | .ro _ => false
  | .ptp _ => false
  | _ => true
def dcmpL (f : D → Hs → R (Option (Ky × D))) : List D → List (Ky × D) → Hs → R (List (Ky × D))
  | [], acc, S => .ok acc S
  | x :: xs, acc, S => match f x S with
    | .ok (some y) S1 => dcmpL f xs (kput y.1 y.2 acc) S1
    | .ok none S1 => dcmpL f xs acc S1
    | _ => .bad
def compL (f : D → Hs → R (Option D)) : List D → List D → Hs → R (List D)
  | [], acc, S => .ok acc S
  | x :: xs, acc, S => match f x S with
    | .ok (some y) S1 => compL f xs (acc ++ [y]) S1
    | .ok none S1 => compL f xs acc S1
    | _ => .bad
def flatL (f : D → List D → Hs → R (List D)) : List D → List D → Hs → R (List D)
  | [], acc, S => .ok acc S
  | x :: xs, acc, S => match f x acc S with
    | .ok acc1 S1 => flatL f xs acc1 S1
    | _ => .bad

section
variable (P : Prg) (cal : Cal)
mutual
def ev : Ex → Ev → Hs → R Vl
  | .var i, r, S => match r[i]? with
    | some (some (.d x)) => .ok (.d x.wk) S
    | some (some (.loc n)) => .ok (.loc n) S
    | _ => .bad
  | .vard i, r, S => match r[i]? with
    | some (some (.d x)) => .ok (.d x.wkd) S
    | _ => .bad
  | .varp i, r, S => match r[i]? with
    | some (some (.d x)) => .ok (.d x) S
    | _ => .bad
  | .glob g, _, S => match P.globs[g]? with
    | some x => .ok (.d x) S
    | none => .bad
  | .non, _, S => .ok (.d .non) S
  | .bl b, _, S => .ok (.d (.bl b)) S
  | .int i, _, S => .ok (.d (.int i)) S
  | .str s, _, S => .ok (.d (.str s)) S
  | .tup es, r, S => (evs es r S).bind fun vs S1 => match dsOf vs with
    | some xs => if vs.length ≤ big then .ok (.d (.tup xs)) S1 else .bad
    | none => .bad
  | .ptup es, r, S => (evs es r S).bind fun vs S1 => match dsOf vs with
    | some xs => if vs.length ≤ big then .ok (.d (.ptp xs)) S1 else .bad
    | none => .bad
  | .ptl e, r, S => (ev e r S).bind fun x S1 => match x with
    | .d (.lst xs) => .ok (.d (.ptp xs)) S1
    | _ => .bad
  | .lst es, r, S => (evs es r S).bind fun vs S1 => match dsOf vs with
    | some xs => if vs.length ≤ big then .ok (.d (.lst xs)) S1 else .bad
    | none => .bad
  | .newl es, r, S => (evs es r S).bind fun vs S1 => match dsOf vs with
    | some xs => if vs.length ≤ big then .ok (.loc S1.length) (S1 ++ [.lst xs]) else .bad
    | none => .bad
  | .frz i, r, S => match r[i]? with
    | some (some (.loc n)) => match S[n]? with
      | some (.lst xs) => .ok (.d (.lst xs)) (S.set n .dead)
      | _ => .bad
    | _ => .bad
  | .bin o a b, r, S => (ev a r S).bind fun x S1 => (ev b r S1).bind fun y S2 =>
    match x, y with
    | .d (.ins c fs), .d y => if okR c y then match P.opf o c with
      | some f => cal f [.d (.ins c fs), .d y] S2
      | none => .bad
      else .bad
    | .d x, .d y => R.opt ((binD o x y).map .d) S2
    | _, _ => .bad
  | .neg a, r, S => (ev a r S).bind fun x S1 => match x with
    | .d (.int i) => .ok (.d (.int (-i))) S1
    | _ => .bad
  | .cmp o a b, r, S => (ev a r S).bind fun x S1 => (ev b r S1).bind fun y S2 =>
    match rdV x S2, rdV y S2 with
    | some (.ins c fs), some y => if okE c y then match P.eqf c with
      | some f => match o with
        | .eq => cal f [.d (.ins c fs), .d y] S2
        | .ne => (cal f [.d (.ins c fs), .d y] S2).bind fun v S3 => match v with
          | .d (.bl k) => .ok (.d (.bl (!k))) S3
          | _ => .bad
        | _ => .bad
      | none => .bad
      else .bad
    | some x, some y => R.opt ((cmpD o x y).map fun k => .d (.bl k)) S2
    | _, _ => .bad
  | .chain o o' a b c, r, S => (ev a r S).bind fun x S1 => (ev b r S1).bind fun y S2 =>
    match x, y with
    | .d x, .d y => match cmpD o x y with
      | some true => (ev c r S2).bind fun z S3 => match z with
        | .d z => R.opt ((cmpD o' y z).map fun k => .d (.bl k)) S3
        | _ => .bad
      | some false => .ok (.d (.bl false)) S2
      | none => .bad
    | _, _ => .bad
  | .not a, r, S => (ev a r S).bind fun x S1 => match x with
    | .d (.bl k) => .ok (.d (.bl (!k))) S1
    | _ => .bad
  | .and a b, r, S => (ev a r S).bind fun x S1 => match x with
    | .d (.bl true) => ev b r S1
    | .d (.bl false) => .ok (.d (.bl false)) S1
    | _ => .bad
  | .or a b, r, S => (ev a r S).bind fun x S1 => match x with
    | .d (.bl true) => .ok (.d (.bl true)) S1
    | .d (.bl false) => ev b r S1
    | _ => .bad
  | .one a, r, S => ev a r S
  | .ite c a b, r, S => (ev c r S).bind fun x S1 => match x with
    | .d (.bl true) => ev a r S1
    | .d (.bl false) => ev b r S1
    | _ => .bad
  | .call f es, r, S => (evs es r S).bind fun vs S1 => cal f vs S1
  | .call0 f, _, S => cal f [] S
  | .bi b es, r, S => (evs es r S).bind fun vs S1 => match rdVs vs S1 with
    | some xs => R.opt ((biD b xs).map .d) S1
    | none => .bad
  | .isi a t, r, S => (ev a r S).bind fun x S1 => match x with
    | .d x => R.opt ((isiD t x).map .d) S1
    | _ => .bad
  | .meth m o es, r, S => (ev o r S).bind fun x S1 => match x with
    | .d (.str s) => (evs es r S1).bind fun vs S2 => match rdVs vs S2 with
      | some xs => R.opt ((mtD m (.str s) xs).map .d) S2
      | none => .bad
    | _ => .bad
  | .ix a i, r, S => (ev a r S).bind fun x S1 => (ev i r S1).bind fun y S2 => match rdV x S2, y with
    | some x, .d y => R.opt ((ixD x y).map .d) S2
    | _, _ => .bad
  | .sl a lo hi, r, S => (ev a r S).bind fun x S1 => (evo lo r S1).bind fun l S2 => (evo hi r S2).bind fun h S3 => match rdV x S3 with
    | some x => R.opt ((slD x l h).map .d) S3
    | none => .bad
  | .dix d k, r, S => (ev d r S).bind fun x S1 => (ev k r S1).bind fun y S2 => match rdK x S2, y with
    | some kvs, .d y => R.opt (((keyD y).bind fun q => kget q kvs).map .d) S2
    | _, _ => .bad
  | .dgt d k z, r, S => (ev d r S).bind fun x S1 => match rdK x S1 with
    | some _ => (ev k r S1).bind fun y S2 => (ev z r S2).bind fun w S3 => match rdK x S3, y, w with
      | some kvs, .d y, .d w => R.opt ((keyD y).map fun q => .d ((kget q kvs).getD w)) S3
      | _, _, _ => .bad
    | none => .bad
  | .din neg k d, r, S => (ev k r S).bind fun y S1 => (ev d r S1).bind fun x S2 => match rdK x S2, y with
    | some kvs, .d y => R.opt ((keyD y).map fun q => .d (.bl (if neg then !(kget q kvs).isSome else (kget q kvs).isSome))) S2
    | _, _ => .bad
  | .dct0, _, S => .ok (.d (.dct [])) S
  | .newd, _, S => .ok (.loc S.length) (S ++ [.dct []])
  | .dof e, r, S => (ev e r S).bind fun x S1 => match x with
    | .d (.ptp xs) => R.opt ((dofL xs []).map fun kvs => .d (.dct kvs)) S1
    | .d (.lst xs) => R.opt ((dofL xs []).map fun kvs => .d (.dct kvs)) S1
    | _ => .bad
  | .deq0 neg d, r, S => (ev d r S).bind fun x S1 => match x with
    | .d (.dct kvs) => .ok (.d (.bl (if neg then !kvs.isEmpty else kvs.isEmpty))) S1
    | _ => .bad
  | .srt e, r, S => (ev e r S).bind fun x S1 => match srtL x S1 with
    | some xs => if sortOk xs then .ok (.d (.lst (sortD xs))) S1 else .bad
    | none => .bad
  | .srti e, r, S => (ev e r S).bind fun x S1 => match x with
    | .loc n => match S1[n]? with
      | some (.dct kvs) => if sortOk (kvs.map pairD) && kvs.all (fun p => p.2.flat) then .ok (.d (.lst (sortD (kvs.map pairD)))) S1 else .bad
      | _ => .bad
    | _ => .bad
  | .stars a b, r, S => (ev a r S).bind fun x S1 => match starL x with
    | some xs => (ev b r S1).bind fun y S2 => match starL y with
      | some ys => if xs.length + ys.length ≤ big then .ok (.d (.lst (xs ++ ys))) S2 else .bad
      | none => .bad
    | none => .bad
  | .mk j es, r, S => match P.mks[j]? with
    | some q => (evs es r S).bind fun vs S1 => mkV cal q.1 q.2 vs S1
    | none => .bad
  | .mkc i j es, r, S => match r[i]?, P.mks[j]? with
    | some (some (.d (.cls c))), some q => if q.1 = c then (evs es r S).bind fun vs S1 => mkV cal q.1 q.2 vs S1 else .bad
    | _, _ => .bad
  | .slt j o, r, S => (ev o r S).bind fun x S1 => match P.sls[j]? with
    | some q => R.opt ((fldOf q.1 q.2 x S1).map fun d => .d d.wk) S1
    | none => .bad
  | .sltp j o, r, S => (ev o r S).bind fun x S1 => match P.sls[j]? with
    | some q => R.opt ((fldOf q.1 q.2 x S1).map .d) S1
    | none => .bad
  | .mth j o es, r, S => match P.mts[j]? with
    | some q => (ev o r S).bind fun x S1 => if insOf q.1 x S1 then (evs es r S1).bind fun vs S2 => cal q.2 (x :: vs) S2 else .bad
    | none => .bad
  | .prp j o, r, S => match P.prs[j]? with
    | some q => (ev o r S).bind fun x S1 => if insOf q.1 x S1 then (cal q.2 [x] S1).noX else .bad
    | none => .bad
  | .cme j es, r, S => match P.cms[j]? with
    | some q => (evs es r S).bind fun vs S1 => cal q.2 (.d (.cls q.1) :: vs) S1
    | none => .bad
  | .isc j o, r, S => (ev o r S).bind fun x S1 => match x with
    | .d (.ins c _) => match P.isc c j with
      | some b => .ok (.d (.bl b)) S1
      | none => .bad
    | .d x => if bareD x then .ok (.d (.bl false)) S1 else .bad
    | _ => .bad
  | .olen o, r, S => (ev o r S).bind fun x S1 => match x with
    | .d (.ins c fs) => match P.lnf c with
      | some f => (cal f [.d (.ins c fs)] S1).bind fun v S2 => match v with
        | .d (.int i) => if 0 ≤ i ∧ i < 2 ^ 63 then .ok (.d (.int i)) S2 else .bad
        | _ => .bad
      | none => .bad
    | _ => .bad
  | .obool o, r, S => (ev o r S).bind fun x S1 => match x with
    | .d (.ins c fs) => match P.bof c with
      | some f => (cal f [.d (.ins c fs)] S1).bind fun v S2 => match v with
        | .d (.bl b) => .ok (.d (.bl b)) S2
        | _ => .bad
      | none => .bad
    | _ => .bad
  | .dcmp own t it c k e, r, S => (evi it r S).bind fun xs S1 => if big < xs.length then .bad else
    (dcmpL (fun x S2 => match asgD t x (wipes r own) with
      | none => .bad
      | some r1 => (ev c r1 S2).bind fun b S3 => match b with
        | .d (.bl true) => (ev k r1 S3).bind fun y S4 => (ev e r1 S4).bind fun z S5 => match y, z with
          | .d y, .d z => match keyD y with
            | some q => .ok (some (q, z)) S5
            | none => .bad
          | _, _ => .bad
        | .d (.bl false) => .ok none S3
        | _ => .bad) xs [] S1).bind fun ys S5 => .ok (.d (.dct ys)) S5
  | .fld i k, r, S => match r[i]? with
    | some (some (.xc c fs)) => R.opt (fs[k]?.map .d) S
    | _ => .bad
  | .comp own t it c e, r, S => (evi it r S).bind fun xs S1 => if big < xs.length then .bad else
    (compL (fun x S2 => match asgD t x (wipes r own) with
      | none => .bad
      | some r1 => (ev c r1 S2).bind fun k S3 => match k with
        | .d (.bl true) => (ev e r1 S3).bind fun y S4 => match y with
          | .d y => .ok (some y) S4
          | _ => .bad
        | .d (.bl false) => .ok none S3
        | _ => .bad) xs [] S1).bind fun ys S5 => .ok (.d (.lst ys)) S5
  | .newc own t it c e, r, S => (evi it r S).bind fun xs S1 => if big < xs.length then .bad else
    (compL (fun x S2 => match asgD t x (wipes r own) with
      | none => .bad
      | some r1 => (ev c r1 S2).bind fun k S3 => match k with
        | .d (.bl true) => (ev e r1 S3).bind fun y S4 => match y with
          | .d y => .ok (some y) S4
          | _ => .bad
        | .d (.bl false) => .ok none S3
        | _ => .bad) xs [] S1).bind fun ys S5 => .ok (.loc S5.length) (S5 ++ [.lst ys])
  | .ostr o, r, S => (ev o r S).bind fun x S1 => match x with
    | .d (.ins c fs) => match P.stf c with
      | some f => (cal f [.d (.ins c fs)] S1).bind fun v S2 => match v with
        | .d (.str s) => .ok (.d (.str s)) S2
        | _ => .bad
      | none => .bad
    | _ => .bad
  | .newo e, r, S => (ev e r S).bind fun x S1 => match x with
    | .d (.lst xs) => .ok (.loc S1.length) (S1 ++ [.lst xs])
    | .d (.tup xs) => .ok (.loc S1.length) (S1 ++ [.lst xs])
    | .d (.ptp xs) => .ok (.loc S1.length) (S1 ++ [.lst xs])
    | _ => .bad
  | .pop i k, r, S => match r[i]? with
    | some (some (.loc n)) => match S[n]? with
      | some (.lst _) => (ev k r S).bind fun x S1 => match x, S1[n]? with
        | .d (.int j), some (.lst xs) => if -(2 ^ 63) ≤ j ∧ j < 2 ^ 63 then match plc j xs.length with
          | some p => match xs[p]? with
            | some y => .ok (.d y) (S1.set n (.lst (xs.eraseIdx p)))
            | none => .bad
          | none => .bad
          else .bad
        | _, _ => .bad
      | _ => .bad
    | _ => .bad
  | .dits d, r, S => (ev d r S).bind fun x S1 => match x with
    | .loc n => match S1[n]? with
      | some (.dct kvs) => .ok (.d (.lst (kvs.map fun p => .tup [kyD p.1, p.2]))) S1
      | _ => .bad
    | _ => .bad
  | .dln d, r, S => (ev d r S).bind fun x S1 => match x with
    | .loc n => match S1[n]? with
      | some (.dct kvs) => .ok (.d (.int kvs.length)) S1
      | _ => .bad
    | _ => .bad
  | .isn neg a, r, S => (ev a r S).bind fun x S1 => match x with
    | .d .non => .ok (.d (.bl (!neg))) S1
    | .d _ => .ok (.d (.bl neg)) S1
    | .loc _ => .ok (.d (.bl neg)) S1
    | .xc _ _ => .bad
  | .isb neg b a, r, S => (ev a r S).bind fun x S1 => match x with
    | .d (.bl c) => .ok (.d (.bl (if neg then !decide (c = b) else decide (c = b)))) S1
    | _ => .bad
  | .rfc j f es, r, S => match P.rfs[j]? with
    | some q => match (evs es r S).bind fun vs S1 => cal f vs S1 with
      | .ok _ S1 => .ok (.d (.bl false)) S1
      | .exc c _ S1 => if P.sub c q.1 || P.sub c q.2 then .ok (.d (.bl true)) S1 else .bad
      | .bad => .bad
    | none => .bad
  | .rpr a, r, S => (ev a r S).bind fun x S1 => match x with
    | .d (.bl b) => .ok (.d (.str (if b then [84, 114, 117, 101] else [70, 97, 108, 115, 101]))) S1
    | _ => .bad
  | .dlit2 k1 v1 k2 v2, r, S => if k1 = k2 then .bad else (ev v1 r S).bind fun x S1 => (ev v2 r S1).bind fun y S2 => match x, y with
    | .d x, .d y => .ok (.d (.dct [(.s k1, x), (.s k2, y)])) S2
    | _, _ => .bad
  | .comp2 own own1 t it t1 it1 e, r, S => (evi it r S).bind fun xs S1 => if big < xs.length then .bad else
    (flatL (fun x acc S2 => match asgD t x (wipes r own) with
      | none => .bad
      | some r1 => match evi it1 r1 S2 with
        | .ok ys S3 => if big < acc.length + ys.length then .bad else compL (fun y S4 => match asgD t1 y (wipes r1 own1) with
          | none => .bad
          | some r2 => (ev e r2 S4).bind fun z S5 => match z with
            | .d z => .ok (some z) S5
            | _ => .bad) ys acc S3
        | _ => .bad) xs [] S1).bind fun ys S5 => .ok (.d (.lst ys)) S5
  | .repl o c z, r, S => (ev o r S).bind fun x S1 => match x with
    | .d (.str s) => if s.length ≤ 1000 ∧ z.length ≤ 1000 then .ok (.d (.str (replC c z s))) S1 else .bad
    | _ => .bad
  | .fjoin es, r, S => (evj es [] r S).bind fun s S1 => .ok (.d (.str s)) S1
  | .fmt e, r, S => (ev e r S).bind fun x S1 => match x with
    | .d (.str s) => if s.length ≤ big then .ok (.d (.str s)) S1 else .bad
    | .d (.int i) => if i.natAbs < 2 ^ 1900 then .ok (.d (.str (decI i))) S1 else .bad
    | _ => .bad
  | .fmt02 e, r, S => (ev e r S).bind fun x S1 => match x with
    | .d (.int i) => if 0 ≤ i ∧ i < 100 then .ok (.d (.str [48 + (i / 10).toNat, 48 + (i % 10).toNat])) S1 else .bad
    | _ => .bad
  | _, _, _ => .bad
def evs : Ex → Ev → Hs → R (List Vl)
  | .nil, _, S => .ok [] S
  | .cons e es, r, S => (ev e r S).bind fun v S1 => (evs es r S1).bind fun vs S2 => .ok (v :: vs) S2
  | _, _, _ => .bad
/-- the parts of an f-string -/
def evj : Ex → Cs → Ev → Hs → R Cs
  | .nil, acc, _, S => .ok acc S
  | .cons e es, acc, r, S => (ev e r S).bind fun v S1 => match v with
    | .d (.str s) => if (acc ++ s).length ≤ big then evj es (acc ++ s) r S1 else .bad
    | _ => .bad
  | _, _, _, _ => .bad
def evo : Ex → Ev → Hs → R (Option Int)
  | .no, _, S => .ok none S
  | .one e, r, S => (ev e r S).bind fun v S1 => match v with
    | .d (.int i) => .ok (some i) S1
    | _ => .bad
  | _, _, _ => .bad
/-- what a loop walks -/
def evi : Ex → Ev → Hs → R (List D)
  | .rng a, r, S => (ev a r S).bind fun x S1 => match x with
    | .d (.int j) => if -(2 ^ 30) < j ∧ j < 2 ^ 30 then .ok (upTo j.toNat 0) S1 else .bad
    | _ => .bad
  | .rng2 a b, r, S => (ev a r S).bind fun x S1 => (ev b r S1).bind fun y S2 => match x, y with
    | .d (.int i), .d (.int j) => if -(2 ^ 30) < i ∧ i < 2 ^ 30 ∧ -(2 ^ 30) < j ∧ j < 2 ^ 30 then .ok (upTo (j - i).toNat i) S2 else .bad
    | _, _ => .bad
  | .zip a b, r, S => (ev a r S).bind fun x S1 => (ev b r S1).bind fun y S2 => match x, y with
    | .d (.lst xs), .d (.lst ys) => .ok (zipD xs ys) S2
    | .d (.str s), .d (.lst ys) => .ok (zipD (s.map fun c => .str [c]) ys) S2
    | _, _ => .bad
  | .enm a, r, S => (ev a r S).bind fun x S1 => match x with
    | .d (.lst xs) => .ok (enumD 0 xs) S1
    | _ => .bad
  | .one e, r, S => (ev e r S).bind fun x S1 => match x with
    | .d (.lst xs) => .ok xs S1
    | .d (.tup xs) => .ok xs S1
    | .d (.str s) => .ok (s.map fun c => .str [c]) S1
    | .d (.ro xs) => .ok xs S1
    | .d (.dct kvs) => .ok (kvs.map fun p => kyD p.1) S1
    | _ => .bad
  | .itm d, r, S => (ev d r S).bind fun x S1 => match x with
    | .d (.dct kvs) => .ok (kvs.map fun p => .tup [kyD p.1, p.2]) S1
    | _ => .bad
  | _, _, _ => .bad
end
end
end Iv
end
section
set_option autoImplicit false
set_option maxRecDepth 100000
set_option maxHeartbeats 4000000
namespace Iv
open PySem L2

/-- the written part, and where the classes stand -/
structure Cl where
  at_ : Nat → Addr
  /-- the tables of code objects: where a table stands, the name that its code objects bear -/
  tabs : List (Addr × Str) := []
instance : CoeFun Cl (fun _ => Nat → Addr) := ⟨Cl.at_⟩
structure Fg where
  K : PySem.W.Frag
  cl : Cl
/-- no table -/
def Nt (o : HO) : Prop := ∀ ps, o ≠ .tbl ps
instance : Coe Fg PySem.W.Frag := ⟨Fg.K⟩
abbrev kx (cl : Cl) (X : Cx) : Fg := ⟨X.K, cl⟩
/-- a text of the model -/
def S' (s : Cs) : Str := ⟨s.toArray⟩
theorem S'_toList (x : Str) : S' x.cps.toList = x := by cases x; simp [S']
theorem S'_list (s : Cs) : (S' s).cps.toList = s := by simp [S']
theorem S'_inj {a b : Cs} (h : S' a = S' b) : a = b := by
  have := congrArg (fun x : Str => x.cps.toList) h
  simpa [S'] using this
theorem S'_length (s : Cs) : (S' s).length = s.length := by simp [S', Str.length]

def Okc (s : Cs) : Prop := ∀ c ∈ s, c < 1114112
def kyOf : Ky → Key
  | .i n => Sum.inl n
  | .s x => Sum.inr (S' x)

def okK : Ky → Prop
  | .i _ => True
  | .s x => Okc x
/-- a tuple without attributes of its own, of which the object is known -/
def SqP (K : PySem.W.Frag) (H : Hp) (a : Addr) (vs : List V) : Prop := ∃ (o : Obj) (its : List Value) (n : Nat), (H a = some (.frz o (.tup vs)) ∨ (K.lookup a = some o ∧ Vals vs its)) ∧ o.cls = .type "tuple" ∧ o.dict = none ∧ o.data = .seq its.toArray n ∧ vs.length ≤ sizeLine
theorem SqP.ext {K : PySem.W.Frag} {H H' : Hp} {a : Addr} {vs : List V} (e : Ext H H') (h : SqP K H a vs) : SqP K H' a vs := by
  obtain ⟨o, its, n, h1, h2⟩ := h
  exact ⟨o, its, n, h1.imp (e _ _) id, h2⟩
theorem SqP.weak {K : PySem.W.Frag} {H : Hp} {a : Addr} {vs : List V} (h : SqP K H a vs) : SqT K H a vs := by
  obtain ⟨o, its, n, h1, h2, h3, h4, h5⟩ := h
  rcases h1 with h1 | ⟨h1, h6⟩
  · exact .inl (.inr ⟨o, h1⟩)
  · refine .inr ⟨o, its.toArray, n, h1, h2, h4, ?_, by simpa using h6⟩
    have := h6.length
    simp
    omega
mutual
/-- the value v of the heap G is the data -/
inductive Rep (K : Fg) (G : Hp) : D → V → Prop
  | non : Rep K G .non .non
  | bl (b : Bool) : Rep K G (.bl b) (.bl b)
  | int (i : Int) : Rep K G (.int i) (.int i)
  | str (s : Cs) (h : Okc s) : Rep K G (.str s) (.str (S' s))
  | tup {a : Addr} {vs : List V} {xs : List D} : SqT K G a vs → Reps K G xs vs → Rep K G (.tup xs) (.ref a)
  | lst {a : Addr} {vs : List V} {xs : List D} : G a = some (.lst vs) → Reps K G xs vs → Rep K G (.lst xs) (.ref a)
  | ro {a : Addr} {vs : List V} {xs : List D} : SqL K G a vs → Reps K G xs vs → Rep K G (.ro xs) (.ref a)
  | dct {a : Addr} {o : Obj} {kvs : List (Key × V)} {xs : List (Ky × D)} : G a = some (.frz o (.dK kvs)) → RepKs K G xs kvs → Rep K G (.dct xs) (.ref a)
  | ins {c : Nat} {a dx : Addr} {vs : List V} {fs : List D} : G a = some (SlX.SlO a (K.cl c) dx (vs.map some)) → G dx = some (.xd []) → dx ≠ a → Reps K G fs vs → Rep K G (.ins c fs) (.ref a)
  | cls (c : Nat) : Rep K G (.cls c) (.ref (K.cl c))
  | ptp {a : Addr} {vs : List V} {xs : List D} : SqP K G a vs → Reps K G xs vs → Rep K G (.ptp xs) (.ref a)
inductive RepKs (K : Fg) (G : Hp) : List (Ky × D) → List (Key × V) → Prop
  | nil : RepKs K G [] []
  | cons {k : Ky} {x : D} {v : V} {xs : List (Ky × D)} {kvs : List (Key × V)} : okK k → Rep K G x v → RepKs K G xs kvs → RepKs K G ((k, x) :: xs) ((kyOf k, v) :: kvs)
inductive Reps (K : Fg) (G : Hp) : List D → List V → Prop
  | nil : Reps K G [] []
  | cons {x : D} {v : V} {xs : List D} {vs : List V} : Rep K G x v → Reps K G xs vs → Reps K G (x :: xs) (v :: vs)
end

mutual
theorem Rep.mono {K : Fg} {G G' : Hp} (e : Ext G G') : ∀ {x : D} {v : V}, Rep K G x v → Rep K G' x v
  | _, _, .non => .non
  | _, _, .bl b => .bl b
  | _, _, .int i => .int i
  | _, _, .str s h => .str s h
  | _, _, .tup h r => .tup (h.ext e) (Reps.mono e r)
  | _, _, .lst h r => .lst (e _ _ h) (Reps.mono e r)
  | _, _, .ro h r => .ro (h.ext e) (Reps.mono e r)
  | _, _, .dct h r => .dct (e _ _ h) (RepKs.mono e r)
  | _, _, .ins h1 h2 n r => .ins (e _ _ h1) (e _ _ h2) n (Reps.mono e r)
  | _, _, .cls c => .cls c
  | _, _, .ptp h r => .ptp (h.ext e) (Reps.mono e r)
theorem RepKs.mono {K : Fg} {G G' : Hp} (e : Ext G G') : ∀ {xs : List (Ky × D)} {kvs : List (Key × V)}, RepKs K G xs kvs → RepKs K G' xs kvs
  | _, _, .nil => .nil
  | _, _, .cons o h r => .cons o (Rep.mono e h) (RepKs.mono e r)
theorem Reps.mono {K : Fg} {G G' : Hp} (e : Ext G G') : ∀ {xs : List D} {vs : List V}, Reps K G xs vs → Reps K G' xs vs
  | _, _, .nil => .nil
  | _, _, .cons h r => .cons (Rep.mono e h) (Reps.mono e r)
end
mutual
theorem Rep.wkd {K : Fg} {G : Hp} : ∀ {x : D} {v : V}, Rep K G x v → Rep K G x.wkd v
  | _, _, .non => .non
  | _, _, .bl b => .bl b
  | _, _, .int i => .int i
  | _, _, .str s h => .str s h
  | _, _, .tup h r => .tup h r.wkds
  | _, _, .lst h r => .lst h r.wkds
  | _, _, .ro h r => .ro h r
  | _, _, .dct h r => .dct h r
  | _, _, .ins h1 h2 h3 r => .ins h1 h2 h3 r
  | _, _, .cls c => .cls c
  | _, _, .ptp h r => .tup h.weak r.wkds
theorem Reps.wkds {K : Fg} {G : Hp} : ∀ {xs : List D} {vs : List V}, Reps K G xs vs → Reps K G (D.wkds xs) vs
  | _, _, .nil => .nil
  | _, _, .cons r rs => .cons r.wkd rs.wkds
end
theorem Rep.wk {K : Fg} {G : Hp} {x : D} {v : V} (h : Rep K G x v) : Rep K G x.wk v := by
  cases h with
  | ptp h r => exact .tup h.weak r
  | non => exact .non
  | bl b => exact .bl b
  | int i => exact .int i
  | str s h => exact .str s h
  | tup h r => exact .tup h r
  | lst h r => exact .lst h r
  | ro h r => exact .ro h r
  | dct h r => exact .dct h r
  | ins h1 h2 n r => exact .ins h1 h2 n r
  | cls c => exact .cls c
theorem Reps.length {K : Fg} {G : Hp} : ∀ {xs : List D} {vs : List V}, Reps K G xs vs → xs.length = vs.length
  | _, _, .nil => rfl
  | _, _, .cons _ r => by simp [Reps.length r]
theorem Reps.get {K : Fg} {G : Hp} : ∀ {xs : List D} {vs : List V} {i : Nat} {x : D}, Reps K G xs vs → xs[i]? = some x → ∃ v, vs[i]? = some v ∧ Rep K G x v
  | _, _, _, _, .nil, e => by simp at e
  | _, _, 0, _, .cons h _, e => by simp at e; subst e; exact ⟨_, rfl, h⟩
  | _, _, i + 1, x, .cons _ r, e => by
    obtain ⟨v, h1, h2⟩ := Reps.get (i := i) (x := x) r (by simpa using e)
    exact ⟨v, by simpa using h1, h2⟩
theorem Reps.getV {K : Fg} {G : Hp} : ∀ {xs : List D} {vs : List V} {i : Nat} {v : V}, Reps K G xs vs → vs[i]? = some v → ∃ x, xs[i]? = some x ∧ Rep K G x v
  | _, _, _, _, .nil, e => by simp at e
  | _, _, 0, _, .cons h _, e => by simp at e; subst e; exact ⟨_, rfl, h⟩
  | _, _, i + 1, v, .cons _ r, e => by
    obtain ⟨x, h1, h2⟩ := Reps.getV (i := i) (v := v) r (by simpa using e)
    exact ⟨x, by simpa using h1, h2⟩
theorem Reps.append {K : Fg} {G : Hp} : ∀ {xs ys : List D} {vs ws : List V}, Reps K G xs vs → Reps K G ys ws → Reps K G (xs ++ ys) (vs ++ ws)
  | _, _, _, _, .nil, s => s
  | _, _, _, _, .cons h r, s => .cons h (Reps.append r s)
theorem Reps.take {K : Fg} {G : Hp} : ∀ {xs : List D} {vs : List V} (n : Nat), Reps K G xs vs → Reps K G (xs.take n) (vs.take n)
  | _, _, 0, _ => by simp; exact .nil
  | _, _, _ + 1, .nil => by simp; exact .nil
  | _, _, n + 1, .cons h r => by simpa using Reps.cons h (Reps.take n r)
theorem Reps.drop {K : Fg} {G : Hp} : ∀ {xs : List D} {vs : List V} (n : Nat), Reps K G xs vs → Reps K G (xs.drop n) (vs.drop n)
  | _, _, 0, r => by simpa using r
  | _, _, _ + 1, .nil => by simp; exact .nil
  | _, _, n + 1, .cons _ r => by simpa using Reps.drop n r
theorem Reps.set {K : Fg} {G : Hp} {x : D} {v : V} (h : Rep K G x v) : ∀ {xs : List D} {vs : List V} (i : Nat), Reps K G xs vs → Reps K G (xs.set i x) (vs.set i v)
  | _, _, _, .nil => by simp; exact .nil
  | _, _, 0, .cons _ r => .cons h r
  | _, _, i + 1, .cons q r => .cons q (Reps.set h i r)

/-- new objects that never change are laid, in G and in H -/
inductive Al : Hp → Hp → Hp → Hp → Prop
  | refl {G H : Hp} : Al G H G H
  | new {G H G1 H1 : Hp} {p : Addr} {o : HO} : Al G H G1 H1 → H1 p = none → Nt o → Al G H (upd G1 p o) (upd H1 p o)
theorem Al.extH {G H G' H' : Hp} (a : Al G H G' H') : Ext H H' := by
  induction a with
  | refl => exact fun _ _ h => h
  | @new G1 H1 p o a hp nt ih => intro b u h; have := ih _ _ h; rw [upd_ne (ne_of_none this hp)]; exact this
theorem Al.ext {G H G' H' : Hp} (a : Al G H G' H') (e : Ext G H) : Ext G' H' ∧ Ext G G' ∧ Ext H H' := by
  refine ⟨?_, ?_, a.extH⟩
  · induction a with
    | refl => exact e
    | @new G1 H1 p o a hp nt ih =>
      intro b u h
      by_cases hb : b = p
      · subst hb; rw [upd_same] at h ⊢; exact h
      · rw [upd_ne hb] at h ⊢; exact ih _ _ h
  · have all : Ext G' H' ∧ Ext G G' := by
      induction a with
      | refl => exact ⟨e, fun _ _ h => h⟩
      | @new G1 H1 p o a hp nt ih =>
        obtain ⟨i1, i2⟩ := ih
        have gp : G1 p = none := by
          cases q : G1 p with
          | none => rfl
          | some u => rw [i1 _ _ q] at hp; cases hp
        refine ⟨fun b u h => ?_, fun b u h => ?_⟩
        · by_cases hb : b = p
          · subst hb; rw [upd_same] at h ⊢; exact h
          · rw [upd_ne hb] at h ⊢; exact i1 _ _ h
        · have := i2 _ _ h; rw [upd_ne (ne_of_none this gp)]; exact this
    exact all.2
theorem Al.trans {G H G1 H1 G2 H2 : Hp} (a : Al G H G1 H1) (b : Al G1 H1 G2 H2) : Al G H G2 H2 := by
  induction b with
  | refl => exact a
  | new _ hp nt ih => exact .new ih hp nt
theorem Al.one {G H : Hp} {p : Addr} {o : HO} (hp : H p = none) (nt : Nt o := by intro ps h; cases h) : Al G H (upd G p o) (upd H p o) := .new .refl hp nt
theorem Al.only {G H G' H' : Hp} (a : Al G H G' H') {b : Addr} {o : HO} (h1 : G b = none) (h2 : H b = some o) : G' b = none := by
  induction a with
  | refl => exact h1
  | @new G1 H1 p u a hp nt ih => rw [upd_ne (ne_of_none (a.extH _ _ h2) hp)]; exact ih

/-- a value of a name -/
def RepV (K : Fg) (G : Hp) (m : List Addr) : Vl → V → Prop
  | .d x, u => Rep K G x u
  | .loc n, u => ∃ a, m[n]? = some a ∧ u = .ref a
  | .xc _ _, _ => False
/-- an object of the small heap -/
inductive RepOs (K : Fg) (G : Hp) : List (Option D) → List (Option V) → Prop
  | nil : RepOs K G [] []
  | none {xs : List (Option D)} {vs : List (Option V)} : RepOs K G xs vs → RepOs K G (none :: xs) (none :: vs)
  | some {x : D} {v : V} {xs : List (Option D)} {vs : List (Option V)} : Rep K G x v → RepOs K G xs vs → RepOs K G (some x :: xs) (some v :: vs)
theorem RepOs.mono {K : Fg} {G G' : Hp} (e : Ext G G') {xs : List (Option D)} {vs : List (Option V)} (h : RepOs K G xs vs) : RepOs K G' xs vs := by
  induction h with
  | nil => exact .nil
  | none _ ih => exact .none ih
  | some r _ ih => exact .some (r.mono e) ih
inductive ObV (K : Fg) (G : Hp) (a : Addr) : Ob → HO → Prop
  | lst {xs : List D} {vs : List V} : Reps K G xs vs → ObV K G a (.lst xs) (.lst vs)
  | dct {xs : List (Ky × D)} {kvs : List (Key × V)} : RepKs K G xs kvs → ObV K G a (.dct xs) (.dK kvs)
  | ins {c : Nat} {dx : Addr} {fs : List (Option D)} {vs : List (Option V)} : G dx = some (.xd []) → dx ≠ a → RepOs K G fs vs → ObV K G a (.ins c fs) (SlX.SlO a (K.cl c) dx vs)
theorem ObV.mono {K : Fg} {G G' : Hp} {a : Addr} {o : Ob} {ho : HO} (e : Ext G G') (h : ObV K G a o ho) : ObV K G' a o ho := by
  cases h with
  | lst r => exact .lst (r.mono e)
  | dct r => exact .dct (r.mono e)
  | ins h1 h2 r => exact .ins (e _ _ h1) h2 (r.mono e)
def ObR (K : Fg) (G H : Hp) (a : Addr) (o : Ob) : Prop := o = .dead ∨ (G a = none ∧ ∃ ho, H a = some ho ∧ ObV K G a o ho)
theorem ObR.lst {K : Fg} {G H : Hp} {a : Addr} {xs : List D} (h : ObR K G H a (.lst xs)) : G a = none ∧ ∃ vs, H a = some (.lst vs) ∧ Reps K G xs vs := by
  rcases h with h | ⟨h1, ho, h2, h3⟩
  · cases h
  · cases h3 with
    | lst r => exact ⟨h1, _, h2, r⟩
theorem ObR.dct {K : Fg} {G H : Hp} {a : Addr} {xs : List (Ky × D)} (h : ObR K G H a (.dct xs)) : G a = none ∧ ∃ vs, H a = some (.dK vs) ∧ RepKs K G xs vs := by
  rcases h with h | ⟨h1, ho, h2, h3⟩
  · cases h
  · cases h3 with
    | dct r => exact ⟨h1, _, h2, r⟩
theorem ObR.ins {K : Fg} {G H : Hp} {a : Addr} {c : Nat} {fs : List (Option D)} (h : ObR K G H a (.ins c fs)) : G a = none ∧ ∃ dx vs, H a = some (SlX.SlO a (K.cl c) dx vs) ∧ G dx = some (.xd []) ∧ dx ≠ a ∧ RepOs K G fs vs := by
  rcases h with h | ⟨h1, ho, h2, h3⟩
  · cases h
  · cases h3 with
    | ins q1 q2 r => exact ⟨h1, _, _, h2, q1, q2, r⟩
/-- neither a table nor told by a property -/
def Nx (o : HO) : Prop := (∀ ps, o ≠ .tbl ps) ∧ ∀ f, o ≠ .ext f
/-- neither a table nor a code object -/
def Nc (a : Addr) (o : HO) : Prop := (∀ ps, o ≠ .tbl ps) ∧ ∀ q, o ≠ LamX.CodeO a q
theorem heap_of : ∀ n : Nat, ∃ h : Heap, h.objs.size = n
  | 0 => ⟨{}, rfl⟩
  | n + 1 => by
    obtain ⟨h, e⟩ := heap_of n
    exact ⟨h.push { cls := .none, data := .plain }, by rw [Heap.size_push, e]⟩
theorem slO_code {a C dx : Addr} {vs : List (Option V)} {q : Str} : SlX.SlO a C dx vs ≠ LamX.CodeO a q := by
  intro e
  obtain ⟨h, hz⟩ := heap_of a
  have g : (h.push { cls := .none, data := .fields #[.none, .str q 0] }).get? a = some { cls := .none, data := .fields #[.none, .str q 0] } := by
    rw [← hz]; exact Heap.get?_push_size _ rfl
  unfold SlX.SlO LamX.CodeO at e
  have e := HO.ext.inj e
  have z := congrFun e (h.push { cls := .none, data := .fields #[.none, .str q 0] })
  have y : ∃ (oc : Obj) (vs : Array Value) (t : Tok), (h.push { cls := .none, data := .fields #[.none, .str q 0] }).get? a = some oc ∧ oc.data = .fields vs ∧ vs[1]? = some (.str q t) := ⟨_, _, 0, g, rfl, rfl⟩
  rw [← z] at y
  obtain ⟨sl, y, _⟩ := y
  rw [g] at y
  cases y
theorem ObV.nc {K : Fg} {G : Hp} {a : Addr} {o : Ob} {ho : HO} (h : ObV K G a o ho) : Nc a ho := by
  cases h with
  | lst r => exact ⟨fun ps e => (by cases e), fun q e => (by cases e)⟩
  | dct r => exact ⟨fun ps e => (by cases e), fun q e => (by cases e)⟩
  | ins h1 h2 r => exact ⟨fun ps e => (by cases e), fun q => slO_code⟩
/-- the tables stand by themselves, and so do their code objects -/
structure TbOk (K : Fg) (F G : Hp) (m : List Addr) (H : Hp) : Prop where
  f : ∀ b o, F b = some o → Nx o
  g : ∀ b o, G b = some o → Nt o
  m : ∀ a ∈ m, ∀ o, H a = some o → Nc a o
  t : LamX.Tabs K.cl.tabs H
/-- a thing that is no table and no code object is changed -/
theorem tabs_upd {T : List (Addr × Str)} {H : Hp} {a : Addr} {o o' : HO} (h : LamX.Tabs T H) (e : H a = some o) (n : Nc a o) : LamX.Tabs T (upd H a o') := fun p hp => by
  obtain ⟨ps, h1, h2, h3⟩ := h p hp
  refine ⟨ps, ?_, h2, fun pos cv hc => ?_⟩
  · rw [upd_ne (fun z => by rw [z, e] at h1; exact n.1 ps (Option.some.inj h1))]; exact h1
  · obtain ⟨c, e1, e2⟩ := h3 pos cv hc
    refine ⟨c, e1, ?_⟩
    rw [upd_ne (fun z => by rw [z, e] at e2; exact n.2 _ (Option.some.inj e2))]; exact e2
theorem TbOk.ext {K : Fg} {F G F' G' H H' : Hp} {m m' : List Addr} (h : TbOk K F G m H) (e : Ext H H') (f : ∀ b o, F' b = some o → Nx o) (g : ∀ b o, G' b = some o → Nt o) (hm : ∀ a ∈ m', ∀ o, H' a = some o → Nc a o) : TbOk K F' G' m' H' := ⟨f, g, hm, h.t.ext e⟩
theorem nx_upd {F : Hp} {p : Addr} {o : HO} (h : ∀ b o, F b = some o → Nx o) (n : Nx o) : ∀ b u, upd F p o b = some u → Nx u := fun b u e => by
  by_cases hb : b = p
  · subst hb; rw [upd_same] at e; cases e; exact n
  · rw [upd_ne hb] at e; exact h b u e
theorem nt_upd {F : Hp} {p : Addr} {o : HO} (h : ∀ b o, F b = some o → Nt o) (n : Nt o) : ∀ b u, upd F p o b = some u → Nt u := fun b u e => by
  by_cases hb : b = p
  · subst hb; rw [upd_same] at e; cases e; exact n
  · rw [upd_ne hb] at e; exact h b u e
structure Rl (K : Fg) (F G : Hp) (m : List Addr) (S : Hs) (H : Hp) : Prop where
  ext : Ext G H
  fr : Ext F H
  fd : ∀ (a : Addr) (o : HO), F a = some o → G a = none ∧ a ∉ m
  mh : ∀ a ∈ m, ∃ o, H a = some o
  len : m.length = S.length
  nd : m.Nodup
  ob : ∀ (n : Nat) (a : Addr) (o : Ob), m[n]? = some a → S[n]? = some o → ObR K G H a o
  tb : TbOk K F G m H
def RlV (K : Fg) (G : Hp) (m : List Addr) (r : Ev) (σ : L2.St) : Prop :=
  r.length = σ.length ∧ ∀ (i : Nat) (v : Vl), r[i]? = some (some v) → (∀ c fs, v ≠ .xc c fs) → ∃ u, σ[i]? = some (some u) ∧ RepV K G m v u
def Grow (G : Hp) (m : List Addr) (G' : Hp) (m' : List Addr) : Prop := Ext G G' ∧ ∀ (n : Nat) (a : Addr), m[n]? = some a → m'[n]? = some a
theorem Grow.refl {G : Hp} {m : List Addr} : Grow G m G m := ⟨fun _ _ h => h, fun _ _ h => h⟩
theorem Grow.trans {G G1 G2 : Hp} {m m1 m2 : List Addr} (a : Grow G m G1 m1) (b : Grow G1 m1 G2 m2) : Grow G m G2 m2 := ⟨a.1.trans b.1, fun n x h => b.2 n x (a.2 n x h)⟩
theorem RepV.mono {K : Fg} {G G' : Hp} {m m' : List Addr} (g : Grow G m G' m') : ∀ {v : Vl} {u : V}, RepV K G m v u → RepV K G' m' v u
  | .d _, _, h => Rep.mono g.1 h
  | .loc _, _, ⟨a, h, e⟩ => ⟨a, g.2 _ _ h, e⟩
  | .xc _ _, _, h => h.elim
theorem RlV.mono {K : Fg} {G G' : Hp} {m m' : List Addr} {r : Ev} {σ : L2.St} (g : Grow G m G' m') (h : RlV K G m r σ) : RlV K G' m' r σ :=
  ⟨h.1, fun i v e n => let ⟨u, h1, h2⟩ := h.2 i v e n; ⟨u, h1, h2.mono g⟩⟩
theorem TbOk.al {K : Fg} {F G G' H H' : Hp} {m : List Addr} (a : Al G H G' H') (hm : ∀ b ∈ m, ∃ o, H b = some o) (h : TbOk K F G m H) : TbOk K F G' m H' := by
  induction a with
  | refl => exact h
  | @new G1 H1 p o a hp nt ih =>
    refine ih.ext (Ext.upd hp) ih.f (nt_upd ih.g nt) fun b hb u e => ?_
    obtain ⟨w, hw⟩ := hm b hb
    rw [upd_ne (ne_of_none (a.extH _ _ hw) hp)] at e
    exact ih.m b hb u e
theorem Rl.al {K : Fg} {F G G' H H' : Hp} {m : List Addr} {S : Hs} (a : Al G H G' H') (h : Rl K F G m S H) : Rl K F G' m S H' := by
  obtain ⟨e1, e2, e3⟩ := a.ext h.ext
  refine ⟨e1, fun b o q => e3 _ _ (h.fr b o q), fun b o q => ⟨a.only (h.fd b o q).1 (h.fr b o q), (h.fd b o q).2⟩, fun b hb => let ⟨o, q⟩ := h.mh b hb; ⟨o, e3 _ _ q⟩, h.len, h.nd, fun n b o hn ho => ?_, h.tb.al a h.mh⟩
  rcases h.ob n b o hn ho with q | ⟨h1, vs, h2, h3⟩
  · exact .inl q
  · exact .inr ⟨a.only h1 h2, vs, e3 _ _ h2, h3.mono e2⟩
theorem Al.grow {G G' H H' : Hp} {m : List Addr} (a : Al G H G' H') (e : Ext G H) : Grow G m G' m := ⟨(a.ext e).2.1, fun _ _ h => h⟩

/-! ### exceptions -/
/-- the classes of errors: the name; the field that __init__ keeps -/
structure Xc where
  name : Str
  fld : Option Str
  bs : Nat := 0
def RepX (xs : List Xc) (mg : Str → Option Value) (K : Fg) (G : Hp) (c : Nat) (fs : List D) (cls : Value) (d : Option Addr) : Prop :=
  ∃ (e : Xc) (C : Addr), xs[c]? = some e ∧ mg e.name = some (.ref C) ∧ cls = .ref C ∧
    match e.fld, fs with
    | none, _ => d = none
    | some f, [x] => ∃ (da : Addr) (v : V), d = some da ∧ G da = some (.xd [(f, v)]) ∧ Rep K G x v
    | _, _ => False

/-! ### readings -/
section
variable (xs : List Xc) (mg : Str → Option Value) (K : Fg) (W : WX) (F : Hp)
/-- what must hold of a result -/
def Out {α β : Type} (RR : Hp → List Addr → α → β → Prop) (σ : L2.St) (G : Hp) (m : List Addr) (Q : β → Hp → Prop) : R α → Prop
  | .ok v S => ∀ (G' : Hp) (m' : List Addr) (H' : Hp) (u : β), Grow G m G' m' → Rl K F G' m' S H' → RR G' m' v u → Q u H'
  | .exc c fs S => ∀ (G' : Hp) (m' : List Addr) (H' : Hp) (cls : Value) (d : Option Addr), Grow G m G' m' → Rl K F G' m' S H' → RepX xs mg K G' c fs cls d → W cls d σ H'
  | .bad => False
abbrev OutV := Out (α := Vl) (β := V) xs mg K W F (RepV K)
end
theorem Out.grow {xs : List Xc} {mg : Str → Option Value} {K : Fg} {W : WX} {α β : Type} {RR : Hp → List Addr → α → β → Prop} {σ : L2.St} {F G G1 : Hp} {m m1 : List Addr} {Q : β → Hp → Prop} {x : R α} (g : Grow G m G1 m1)
    (h : Out xs mg K W F RR σ G m Q x) : Out xs mg K W F RR σ G1 m1 Q x := by
  cases x with
  | ok v S => exact fun G' m' H' u g' => h G' m' H' u (g.trans g')
  | exc c fs S => exact fun G' m' H' cls d g' => h G' m' H' cls d (g.trans g')
  | bad => exact h
theorem Out.imp {xs : List Xc} {mg : Str → Option Value} {K : Fg} {W : WX} {α β : Type} {RR : Hp → List Addr → α → β → Prop} {σ : L2.St} {F G : Hp} {m : List Addr} {Q Q' : β → Hp → Prop} {x : R α} (q : ∀ u H, Q u H → Q' u H)
    (h : Out xs mg K W F RR σ G m Q x) : Out xs mg K W F RR σ G m Q' x := by
  cases x with
  | ok v S => exact fun G' m' H' u g' r1 r2 => q _ _ (h G' m' H' u g' r1 r2)
  | exc c fs S => exact h
  | bad => exact h
/-- one after another -/
theorem Out.bind {xs : List Xc} {mg : Str → Option Value} {K : Fg} {W : WX} {α β γ δ : Type} {RR : Hp → List Addr → α → β → Prop} {RR2 : Hp → List Addr → γ → δ → Prop} {σ : L2.St} {F G : Hp} {m : List Addr} {Q : δ → Hp → Prop} {x : R α} {k : α → Hs → R γ}
    (h : Out xs mg K W F RR2 σ G m Q (x.bind k)) :
    Out xs mg K W F RR σ G m (fun u H => ∃ (G1 : Hp) (m1 : List Addr) (v : α) (S1 : Hs), Grow G m G1 m1 ∧ Rl K F G1 m1 S1 H ∧ RR G1 m1 v u ∧ Out xs mg K W F RR2 σ G1 m1 Q (k v S1)) x := by
  cases x with
  | ok v S => exact fun G' m' H' u g r1 r2 => ⟨G', m', v, S, g, r1, r2, Out.grow g h⟩
  | exc c fs S => exact h
  | bad => exact h

/-- an expression's reading -/
def tX {α β : Type} (xs : List Xc) (mg : Str → Option Value) (K : Fg) (W : WX) (RR : Hp → List Addr → α → β → Prop) (f : Ev → Hs → R α) : L2.St → Hp → (β → Hp → Prop) → Prop := fun σ H Q =>
  ∃ (F G : Hp) (m : List Addr) (r : Ev) (S : Hs), Rl K F G m S H ∧ RlV K G m r σ ∧ Out xs mg K W F RR σ G m Q (f r S)
/-- the step from a part to the rest -/
theorem tX.bind {xs : List Xc} {mg : Str → Option Value} {K : Fg} {W : WX} {α β γ δ : Type} {RR : Hp → List Addr → α → β → Prop} {RR2 : Hp → List Addr → γ → δ → Prop} {f : Ev → Hs → R α} {k : α → Hs → R γ} {σ : L2.St} {F G H : Hp} {m : List Addr} {r : Ev} {S : Hs} {Q : δ → Hp → Prop} {Q1 : β → Hp → Prop}
    (hl : Rl K F G m S H) (hv : RlV K G m r σ) (h : Out xs mg K W F RR2 σ G m Q ((f r S).bind k))
    (q : ∀ u H1 G1 m1 v S1, Grow G m G1 m1 → Rl K F G1 m1 S1 H1 → RlV K G1 m1 r σ → RR G1 m1 v u → Out xs mg K W F RR2 σ G1 m1 Q (k v S1) → Q1 u H1) : tX xs mg K W RR f σ H Q1 :=
  ⟨F, G, m, r, S, hl, hv, (Out.bind (RR := RR) h).imp fun u H1 ⟨G1, m1, v, S1, g, r1, r2, o⟩ => q u H1 G1 m1 v S1 g r1 (hv.mono g) r2 o⟩
end Iv
end
section
set_option autoImplicit false
set_option maxRecDepth 100000
set_option maxHeartbeats 4000000
namespace Iv
open PySem L2
/-! ### operations, by values -/
theorem S'_append (a b : Cs) : S' a ++ S' b = S' (a ++ b) := TL.ext_tl (by rw [TL.tl_append]; simp [TL.tl, S'])
theorem small_line {n : Nat} (h : n ≤ big) : n ≤ sizeLine := Nat.le_trans h (by decide)
/-- what an operation hands on -/
def Gives (K : Fg) (G H : Hp) (d : D) (Q : VK) : Prop := ∀ (v : V) (G' H' : Hp), Al G H G' H' → Rep K G' d v → Q v H'
theorem Gives.here {K : Fg} {G H : Hp} {d : D} {Q : VK} (g : Gives K G H d Q) {v : V} (r : Rep K G d v) : Q v H := g v G H .refl r
theorem Gives.newL {K : Fg} {G H : Hp} {xs : List D} {vs : List V} {Q : VK} (e : Ext G H) (g : Gives K G H (.lst xs) Q) (r : Reps K G xs vs) {p : Addr} (hp : H p = none) : Q (.ref p) (upd H p (.lst vs)) := by
  have a : Al G H (upd G p (.lst vs)) (upd H p (.lst vs)) := Al.one hp
  exact g _ _ _ a (.lst upd_same (r.mono (a.ext e).2.1))
theorem Gives.newT {K : Fg} {G H : Hp} {xs : List D} {vs : List V} {Q : VK} (e : Ext G H) (g : Gives K G H (.tup xs) Q) (r : Reps K G xs vs) {p : Addr} (hp : H p = none) : Q (.ref p) (upd H p (.tup vs)) := by
  have a : Al G H (upd G p (.tup vs)) (upd H p (.tup vs)) := Al.one hp
  exact g _ _ _ a (.tup (.of upd_same) (r.mono (a.ext e).2.1))

def bop : BOp → Operator
  | .add => .Add | .sub => .Sub | .mul => .Mult | .fdiv => .FloorDiv | .mod => .Mod | .pow => .Pow
def rB (K : Fg) (o : BOp) : R2 := fun x y H Q => ∃ (G : Hp) (a b d : D), Ext G H ∧ Rep K G a x ∧ Rep K G b y ∧ binD o a b = some d ∧ Gives K G H d Q
section
variable {cl : Cl} {X : Cx}
theorem op_mulS : OpR X (binaryOp .Mult) (fun x y H Q => ∃ (z : Str) (n : Int), x = .str z ∧ y = .int n ∧ MulOk z n ∧ Q (.str (Txt.mul z n)) H) := by
  intro pins s σ H x y v u Q I rx ry h
  obtain ⟨z, n, rfl, rfl, ok, q⟩ := h
  obtain ⟨t, rfl⟩ := rx
  obtain ⟨t', rfl⟩ := ry
  exact SB.mul ok fun t' k => ⟨.str _, H, I.tok _, ⟨_, rfl⟩, q⟩
theorem foldl_app {α : Type} : ∀ (n : Nat) (x acc : Array α), ((List.replicate n x).foldl (· ++ ·) acc).toList = acc.toList ++ repL x.toList n
  | 0, x, acc => by simp [repL]
  | n + 1, x, acc => by
    rw [List.replicate_succ, List.foldl_cons, foldl_app n x (acc ++ x)]
    simp [repL]
theorem mul_text {s : Cs} {n : Int} (h0 : 0 ≤ n) : Txt.mul (S' s) n = S' (repL s n.toNat) := by
  unfold Txt.mul
  by_cases h1 : n < 1
  · rw [if_pos h1]
    have : n = 0 := by omega
    subst this; rfl
  · rw [if_neg h1]
    by_cases h2 : (n == 1 || (S' s).length == 0) = true
    · rw [if_pos h2]
      rw [Bool.or_eq_true, beq_iff_eq, beq_iff_eq] at h2
      rcases h2 with h2 | h2
      · subst h2; simp [repL]
      · rw [S'_length] at h2
        have : s = [] := List.length_eq_zero_iff.mp h2
        subst this
        have : ∀ k : Nat, repL ([] : Cs) k = [] := fun k => by induction k with
          | zero => rfl
          | succ k ih => simp [repL, ih]
        rw [this]
    · rw [if_neg h2]
      refine TL.ext_tl ?_
      show (_ : Array Nat).toList = _
      rw [foldl_app]
      simp [S', TL.tl]
theorem Okc.rep {s : Cs} (h : Okc s) : ∀ n : Nat, Okc (repL s n)
  | 0 => fun c hc => by simp [repL] at hc
  | n + 1 => fun c hc => (List.mem_append.mp (show c ∈ s ++ repL s n from hc)).elim (h c) (Okc.rep h n c)
theorem mul_ok {s : Cs} {n : Int} (h : 0 ≤ n ∧ n ≤ 100 ∧ s.length ≤ 1000) : MulOk (S' s) n := by
  obtain ⟨h0, h1, h2⟩ := h
  refine ⟨by simp; omega, fun h3 h4 => ?_, fun h3 h4 => ?_⟩
  · rw [S'_length]
    have : (1000 : Int) ≤ (2 ^ 63 - 1) / n := by
      rw [Int.le_ediv_iff_mul_le (by omega)]
      have : (1000 : Int) * n ≤ 1000 * 100 := by omega
      omega
    omega
  · rw [S'_length]
    have : s.length * n.toNat ≤ 1000 * 100 := Nat.mul_le_mul h2 (by omega)
    unfold Builtin.Str.tooLong
    exact decide_eq_false (by rw [sizeLine_eq]; omega)
theorem rep_flat {α : Type} (xs : List α) : ∀ n : Nat, (List.replicate n xs).flatten = repL xs n
  | 0 => rfl
  | n + 1 => by rw [List.replicate_succ, List.flatten_cons, rep_flat xs n]; rfl
theorem Reps.rep {K : Fg} {G : Hp} {xs : List D} {vs : List V} (r : Reps K G xs vs) : ∀ n : Nat, Reps K G (repL xs n) (repL vs n)
  | 0 => .nil
  | n + 1 => r.append (Reps.rep r n)
theorem op_rB (o : BOp) : OpR X (binaryOp (bop o)) (rB (kx cl X) o) := by
  intro pins s σ H x y v u Q I rx ry h
  obtain ⟨G, a, b, d, e, ha, hb, hd, g⟩ := h
  cases o with
  | add =>
    cases ha <;> cases hb <;> simp only [binD, reduceCtorEq, Option.some.injEq] at hd
    · subst hd; exact op_add pins s σ H _ _ v u Q I rx ry ⟨_, _, rfl, rfl, g.here (.int _)⟩
    · rename_i o1 _ o2
      split at hd
      · rename_i hz
        simp only [Option.some.injEq] at hd; subst hd
        exact op_add_str pins s σ H _ _ v u Q I rx ry ⟨_, _, rfl, rfl, by rw [S'_length, S'_length]; exact small_line hz, by rw [S'_append]; exact g.here (.str _ fun c hc => (List.mem_append.mp hc).elim (o1 c) (o2 c))⟩
      · cases hd
    · rename_i l1 r1 _ _ _ l2 r2
      split at hd
      · rename_i hz
        simp only [Option.some.injEq] at hd; subst hd
        rw [r1.length, r2.length] at hz
        refine op_catA pins s σ H _ _ v u Q I rx ry ⟨_, _, _, _, rfl, rfl, l1.ext e, l2.ext e, small_line hz, fun h => ?_, fun _ h => ?_, fun _ _ p hp => g.newT e (r1.append r2) hp⟩
        · subst h
          cases r1
          exact g.here (.tup l2 r2)
        · subst h
          cases r2
          rw [List.append_nil] at g
          exact g.here (.tup l1 r1)
      · cases hd
    · rename_i l1 r1 _ _ _ l2 r2
      split at hd
      · rename_i hz
        simp only [Option.some.injEq] at hd; subst hd
        rw [r1.length, r2.length] at hz
        exact op_cat pins s σ H _ _ v u Q I rx ry ⟨_, _, _, _, rfl, rfl, e _ _ l1, e _ _ l2, small_line hz, fun p hp => g.newL e (r1.append r2) hp⟩
      · cases hd
  | sub =>
    cases ha <;> cases hb <;> simp only [binD, reduceCtorEq, Option.some.injEq] at hd
    subst hd; exact op_sub pins s σ H _ _ v u Q I rx ry ⟨_, _, rfl, rfl, g.here (.int _)⟩
  | mul =>
    cases ha <;> cases hb <;> simp only [binD, reduceCtorEq, Option.some.injEq] at hd
    · split at hd
      · rename_i i j hz
        simp only [Option.some.injEq] at hd; subst hd
        unfold mulOk at hz
        rw [Bool.or_eq_true, Bool.or_eq_true, Bool.and_eq_true, decide_eq_true_eq, decide_eq_true_eq, decide_eq_true_eq, decide_eq_true_eq] at hz
        rcases hz with (hz | hz) | ⟨h1, h2⟩
        · exact op_mul pins s σ H _ _ v u Q I rx ry ⟨_, _, rfl, rfl, .inl ⟨by omega, by omega⟩, g.here (.int _)⟩
        · exact op_mul pins s σ H _ _ v u Q I rx ry ⟨_, _, rfl, rfl, .inr ⟨by omega, by omega⟩, g.here (.int _)⟩
        · exact op_mulW pins s σ H _ _ v u Q I rx ry ⟨_, _, rfl, rfl, wide_mul h1 h2 (by decide) (by decide) (by decide), g.here (.int _)⟩
      · cases hd
    · rename_i o1 _
      split at hd
      · rename_i hz
        simp only [Option.some.injEq] at hd; subst hd
        exact op_mulS pins s σ H _ _ v u Q I rx ry ⟨_, _, rfl, rfl, mul_ok hz, by rw [mul_text hz.1]; exact g.here (.str _ (Okc.rep o1 _))⟩
      · cases hd
    · rename_i l1 r1 _
      split at hd
      · rename_i hz
        simp only [Option.some.injEq] at hd; subst hd
        rw [r1.length] at hz
        refine op_repT pins s σ H _ _ v u Q I rx ry ⟨_, _, _, rfl, rfl, l1.ext e, fun h => ?_, hz.2.1, hz.2.2.1, hz.2.2.2, fun p hp => ?_⟩
        · rw [h] at hz; simp at hz
        · rw [rep_flat]; exact g.newT e (r1.rep _) hp
      · cases hd
    · rename_i l1 r1 _
      split at hd
      · rename_i hz
        simp only [Option.some.injEq] at hd; subst hd
        rw [r1.length] at hz
        refine op_rep pins s σ H _ _ v u Q I rx ry ⟨_, _, _, rfl, rfl, e _ _ l1, by omega, by omega, ?_, fun p hp => ?_⟩
        · have z1 := hz.2.1
          have z2 : Int.toNat _ ≤ (1000 : Nat) := Int.toNat_le.mpr z1
          exact Nat.le_trans (Nat.mul_le_mul hz.2.2 z2) (show 1000 * 1000 ≤ sizeLine by decide)
        · rw [rep_flat]; exact g.newL e (r1.rep _) hp
      · cases hd
  | fdiv =>
    cases ha <;> cases hb <;> simp only [binD, reduceCtorEq, Option.some.injEq] at hd
    split at hd
    · rename_i i j hz
      simp only [Option.some.injEq] at hd; subst hd
      exact op_fdivW pins s σ H _ _ v u Q I rx ry ⟨_, _, rfl, rfl, wide_div (b := 1000) hz.1 (by have := hz.2; omega) (by decide) (by decide), g.here (.int _)⟩
    · cases hd
  | mod =>
    cases ha <;> cases hb <;> simp only [binD, reduceCtorEq, Option.some.injEq] at hd
    split at hd
    · rename_i i j hz
      simp only [Option.some.injEq] at hd; subst hd
      exact op_modN pins s σ H _ _ v u Q I rx ry ⟨_, _, rfl, rfl, by omega, by show Q (V.int (i.fmod j)) H; rw [Int.fmod_eq_emod_of_nonneg _ (by omega)]; exact g.here (.int _)⟩
    · cases hd
  | pow =>
    cases ha <;> cases hb <;> simp only [binD, reduceCtorEq, Option.some.injEq] at hd
    split at hd
    · rename_i i j hz
      simp only [Option.some.injEq] at hd; subst hd
      exact op_pow pins s σ H _ _ v u Q I rx ry ⟨_, _, rfl, rfl, ⟨hz.1, by omega, hz.2.2⟩, g.here (.int _)⟩
    · cases hd

/-! ### reading, comparing -/
/-- read: by value, or a list of the small heap -/
def Rd' (K : Fg) (G H : Hp) (d : D) (x : V) : Prop := Rep K G d x ∨ ∃ (a : Addr) (xs : List D) (vs : List V), d = .lst xs ∧ x = .ref a ∧ H a = some (.lst vs) ∧ Reps K G xs vs
theorem Rd'.lst {K : Fg} {G H : Hp} {xs : List D} {x : V} (e : Ext G H) (h : Rd' K G H (.lst xs) x) : ∃ (a : Addr) (vs : List V), x = .ref a ∧ H a = some (.lst vs) ∧ Reps K G xs vs := by
  rcases h with h | ⟨a, ys, vs, h1, h2, h3, h4⟩
  · cases h with
    | lst h r => exact ⟨_, _, rfl, e _ _ h, r⟩
  · cases h1; exact ⟨a, vs, h2, h3, h4⟩
theorem Rd'.val {K : Fg} {G H : Hp} {d : D} {x : V} (h : Rd' K G H d x) (n : ∀ xs, d ≠ .lst xs) : Rep K G d x := by
  rcases h with h | ⟨a, ys, vs, h1, h2, h3, h4⟩
  · exact h
  · exact absurd h1 (n _)
theorem Rd'.rep {K : Fg} {G H : Hp} {d : D} {x : V} (e : Ext G H) (h : Rd' K G H d x) : Rep K H d x := by
  rcases h with h | ⟨a, ys, vs, h1, h2, h3, h4⟩
  · exact h.mono e
  · subst h1; subst h2; exact .lst h3 (h4.mono e)

mutual
/-- data as the library's -/
def toPy : D → PyData
  | .non => .none
  | .bl b => .bool b
  | .int i => .int i
  | .str s => .str (S' s)
  | .tup xs => .tuple (toPys xs)
  | .lst xs => .list (toPys xs)
  | .dct _ => .dict []
  | .ins _ _ => .dict []
  | .cls _ => .dict []
  | .ro _ => .dict []
  | .ptp _ => .dict []
def toPys : List D → List PyData
  | [] => []
  | x :: xs => toPy x :: toPys xs
end
theorem str_beq (a b : Cs) : (S' a == S' b) = (a == b) := by
  by_cases h : a = b
  · subst h; simp
  · have : ¬ S' a = S' b := fun q => h (S'_inj q)
    rw [beq_eq_false_iff_ne.mpr this, beq_eq_false_iff_ne.mpr h]
mutual
theorem eqv_py : ∀ (x y : D) (n m : Nat), D.plain x n = true → D.plain y m = true → PyData.eqv (toPy x) (toPy y) = D.eqv x y
  | .non, y, n, m, h1, h2 => by cases y <;> first | rfl | (cases h2)
  | .bl b, y, n, m, h1, h2 => by cases y <;> first | rfl | (cases h2)
  | .int i, y, n, m, h1, h2 => by cases y <;> first | rfl | (cases h2)
  | .str s, y, n, m, h1, h2 => by cases y <;> first | rfl | exact str_beq _ _ | (cases h2)
  | .tup xs, y, n, m, h1, h2 => by
    cases y with
    | tup ys =>
      cases n with
      | zero => cases h1
      | succ n => cases m with
        | zero => cases h2
        | succ m => exact eqvs_py xs ys n m h1 h2
    | dct _ => cases h2
    | ins _ _ => cases h2
    | cls _ => cases h2
    | ro _ => cases h2
    | ptp _ => cases h2
    | non => rfl
    | bl _ => rfl
    | int _ => rfl
    | str _ => rfl
    | lst _ => rfl
  | .lst xs, y, n, m, h1, h2 => by
    cases y with
    | lst ys =>
      cases n with
      | zero => cases h1
      | succ n => cases m with
        | zero => cases h2
        | succ m => exact eqvs_py xs ys n m h1 h2
    | dct _ => cases h2
    | ins _ _ => cases h2
    | cls _ => cases h2
    | ro _ => cases h2
    | ptp _ => cases h2
    | non => rfl
    | bl _ => rfl
    | int _ => rfl
    | str _ => rfl
    | tup _ => rfl
  | .dct _, y, n, m, h1, h2 => by cases h1
  | .ins _ _, y, n, m, h1, h2 => by cases h1
  | .cls _, y, n, m, h1, h2 => by cases h1
  | .ro _, y, n, m, h1, h2 => by cases h1
  | .ptp _, y, n, m, h1, h2 => by cases h1
theorem eqvs_py : ∀ (xs ys : List D) (n m : Nat), D.plains xs n = true → D.plains ys m = true → PyData.eqvAll (toPys xs) (toPys ys) = D.eqvs xs ys
  | [], [], n, m, h1, h2 => rfl
  | [], _ :: _, n, m, h1, h2 => rfl
  | x :: xs, [], n, m, h1, h2 => rfl
  | x :: xs, y :: ys, n, m, h1, h2 => by
    have g1 := Bool.and_eq_true_iff.mp h1
    have g2 := Bool.and_eq_true_iff.mp h2
    show (PyData.eqv (toPy x) (toPy y) && PyData.eqvAll (toPys xs) (toPys ys)) = (D.eqv x y && D.eqvs xs ys)
    rw [eqv_py x y n m g1.1 g2.1, eqvs_py xs ys n m g1.2 g2.2]
end
mutual
theorem shape_py {K : Fg} {G : Hp} : ∀ (x : D) (v : V) (n : Nat), Rep K G x v → D.plain x n = true → (toPy x).canLay0 = true ∧ (toPy x).depth ≤ 2 * n + 1
  | _, _, n, .non, h => ⟨rfl, by show 0 ≤ _; omega⟩
  | _, _, n, .bl b, h => ⟨rfl, by show 0 ≤ _; omega⟩
  | _, _, n, .int i, h => ⟨rfl, by show 0 ≤ _; omega⟩
  | _, _, n, .str s o, h => ⟨by show PyData.strOk (S' s) = true; unfold PyData.strOk; rw [← Array.all_toList]; simpa [S', Okc] using o, by show 0 ≤ _; omega⟩
  | _, _, 0, .tup _ r, h => by cases h
  | .tup xs, _, n + 1, .tup _ r, h => by
    obtain ⟨h1, h2⟩ := shapes_py _ _ n r h
    exact ⟨h1, by show PyData.depthAll (toPys xs) + 1 ≤ _; omega⟩
  | _, _, 0, .lst _ r, h => by cases h
  | .lst xs, _, n + 1, .lst _ r, h => by
    obtain ⟨h1, h2⟩ := shapes_py _ _ n r h
    exact ⟨h1, by show PyData.depthAll (toPys xs) + 1 ≤ _; omega⟩
  | _, _, n, .ro _ _, h => by cases h
  | _, _, n, .dct _ _, h => by cases h
  | _, _, n, .ins _ _ _ _, h => by cases h
  | _, _, n, .cls _, h => by cases h
  | _, _, n, .ptp _ _, h => by cases h
theorem shapes_py {K : Fg} {G : Hp} : ∀ (xs : List D) (vs : List V) (n : Nat), Reps K G xs vs → D.plains xs n = true → PyData.canLayAll0 (toPys xs) = true ∧ PyData.depthAll (toPys xs) ≤ 2 * n + 1
  | _, _, n, .nil, h => ⟨rfl, by show 0 ≤ _; omega⟩
  | x :: xs, _, n, .cons q r, h => by
    have g := Bool.and_eq_true_iff.mp h
    obtain ⟨a1, a2⟩ := shape_py x _ n q g.1
    obtain ⟨b1, b2⟩ := shapes_py xs _ n r g.2
    exact ⟨by show ((toPy x).canLay0 && PyData.canLayAll0 (toPys xs)) = true; rw [a1, b1]; rfl, by show max (toPy x).depth (PyData.depthAll (toPys xs)) ≤ _; omega⟩
end
theorem shaped_py {K : Fg} {G : Hp} {x : D} {v : V} (r : Rep K G x v) (h : x.plain deep = true) : SeqAt.shaped (toPy x) = true := by
  obtain ⟨h1, h2⟩ := shape_py x v deep r h
  unfold SeqAt.shaped
  rw [h1]
  exact decide_eq_true (Nat.le_trans h2 (by decide))
mutual
theorem Rep.dp {K : Fg} {G : Hp} : ∀ {x : D} {v : V} {n : Nat}, Rep K G x v → D.plain x n = true → Dp K G v (toPy x)
  | _, _, _, .non, h => .non
  | _, _, _, .bl b, h => .bl b
  | _, _, _, .int i, h => .int i
  | _, _, _, .str s _, h => .str _
  | _, _, 0, .tup s r, h => by cases h
  | _, _, n + 1, .tup s r, h => .tup s (Reps.dp r (n := n) h)
  | _, _, 0, .lst s r, h => by cases h
  | _, _, n + 1, .lst s r, h => .lst (.of s) (Reps.dp r (n := n) h)
  | _, _, _, .ro s r, h => by cases h
  | _, _, _, .dct s r, h => by cases h
  | _, _, _, .ins _ _ _ r, h => by cases h
  | _, _, _, .cls _, h => by cases h
  | _, _, _, .ptp _ _, h => by cases h
theorem Reps.dp {K : Fg} {G : Hp} : ∀ {xs : List D} {vs : List V} {n : Nat}, Reps K G xs vs → D.plains xs n = true → DpAll K G vs (toPys xs)
  | _, _, _, .nil, h => .nil
  | _, _, _, .cons r s, h => .cons (Rep.dp r (Bool.and_eq_true_iff.mp h).1) (Reps.dp s (Bool.and_eq_true_iff.mp h).2)
end

def cop : COp → CmpOp
  | .eq => .Eq | .ne => .NotEq | .lt => .Lt | .le => .LtE | .gt => .Gt | .ge => .GtE | .isin => .In | .notin => .NotIn
def rC (K : Fg) (o : COp) : R2 := fun x y H Q => ∃ (G : Hp) (a b : D) (k : Bool), Ext G H ∧ Rd' K G H a x ∧ Rd' K G H b y ∧ cmpD o a b = some k ∧ Q (.bl k) H
theorem Rep.flat {K : Fg} {G : Hp} {x : D} {v : V} (r : Rep K G x v) (h : x.flat = true) : flatV v = true := by
  cases r <;> first | rfl | cases h
theorem Reps.flats {K : Fg} {G : Hp} : ∀ {xs : List D} {vs : List V}, Reps K G xs vs → D.flats xs = true → vs.all flatV = true
  | _, _, .nil, h => rfl
  | _, _, .cons q r, h => by
    have g := Bool.and_eq_true_iff.mp h
    rw [List.all_cons, q.flat g.1, Reps.flats r g.2]; rfl
theorem Rep.eqV {K : Fg} {G : Hp} {x y : D} {v u : V} (r : Rep K G x v) (q : Rep K G y u) (h : x.flat = true) (h' : y.flat = true) : L2.eqV v u = D.eqv x y := by
  cases r <;> cases q <;> first | rfl | cases h | cases h' | skip
  exact str_beq _ _
theorem Reps.inV {K : Fg} {G : Hp} {x : D} {v : V} (r : Rep K G x v) (h : x.flat = true) : ∀ {xs : List D} {vs : List V}, Reps K G xs vs → D.flats xs = true → L2.inV v vs = D.mem x xs
  | _, _, .nil, _ => rfl
  | y :: ys, u :: us, .cons q s, g => by
    have g := Bool.and_eq_true_iff.mp g
    have ih := Reps.inV r h s g.2
    unfold L2.inV at ih ⊢
    rw [List.any_cons, ih, q.eqV r g.1 h]
    show (D.eqv y x || D.mem x ys) = (if D.eqv y x then true else D.mem x ys)
    cases D.eqv y x <;> rfl
theorem cps_one (c : Nat) : (⟨#[c]⟩ : Str) = S' [c] := rfl
theorem contains_dec (c : Nat) (z : Cs) : z.contains c = decide (c ∈ (S' z).cps.toList) := by
  rw [S'_list]; simp
theorem inD_ok {K : Fg} {G H : Hp} {a b : D} {x y : V} {Q : VK} {k neg : Bool} {Z : Prop}
    (h1 : (∃ (c : Nat) (z : Str), x = .str ⟨#[c]⟩ ∧ y = .str z ∧ Q (.bl (if neg then !decide (c ∈ z.cps.toList) else decide (c ∈ z.cps.toList))) H) → True → Z) (h2 : rIn K neg x y H Q → Z)
    (e : Ext G H) (ha : Rd' K G H a x) (hb : Rd' K G H b y) (hk : inD a b = some k) (q : Q (.bl (if neg then !k else k)) H) : Z := by
  cases b with
  | str z =>
    cases a with
    | str w =>
      match w, hk, ha with
      | [c], hk, ha =>
        simp only [inD, Option.some.injEq] at hk
        subst hk
        have r1 := ha.val (fun _ z => by cases z); have r2 := hb.val (fun _ z => by cases z)
        cases r1; cases r2
        rw [contains_dec] at q
        exact h1 ⟨c, _, rfl, rfl, q⟩ trivial
      | [], hk, ha => simp [inD] at hk
      | _ :: _ :: _, hk, ha => simp [inD] at hk
    | _ => simp [inD] at hk
  | tup xs =>
    simp only [inD] at hk
    split at hk
    · rename_i hz
      simp only [Option.some.injEq] at hk; subst hk
      have g := Bool.and_eq_true_iff.mp hz
      have r1 := ha.val (fun _ z => by subst z; cases g.1); have r2 := hb.val (fun _ z => by cases z)
      cases r2 with
      | tup hs hr =>
        rw [← Reps.inV r1 g.1 hr g.2] at q
        exact h2 ⟨_, _, rfl, .inr (hs.ext e), r1.flat g.1, hr.flats g.2, q⟩
    · cases hk
  | lst xs =>
    simp only [inD] at hk
    split at hk
    · rename_i hz
      simp only [Option.some.injEq] at hk; subst hk
      have g := Bool.and_eq_true_iff.mp hz
      have r1 := ha.val (fun _ z => by subst z; cases g.1)
      obtain ⟨p, vs, rfl, hs, hr⟩ := hb.lst e
      rw [← Reps.inV r1 g.1 hr g.2] at q
      exact h2 ⟨_, _, rfl, .inl (.of hs), r1.flat g.1, hr.flats g.2, q⟩
    · cases hk
  | _ => simp [inD] at hk
theorem ltCs_iff : ∀ a b : Cs, ltCs a b = decide (a < b)
  | [], [] => by simp [ltCs]
  | [], _ :: _ => by simp [ltCs]
  | _ :: _, [] => by simp [ltCs]
  | x :: a, y :: b => by
    have ih := ltCs_iff a b
    simp only [ltCs]
    by_cases h1 : x < y
    · rw [if_pos h1]
      exact (decide_eq_true (List.Lex.rel h1)).symm
    · rw [if_neg h1]
      by_cases h2 : x = y
      · subst h2
        rw [if_pos rfl, ih]
        exact decide_eq_decide.mpr ⟨fun h => List.Lex.cons h, fun h => by
          cases h with
          | rel h => exact absurd h h1
          | cons h => exact h⟩
      · rw [if_neg h2]
        symm
        refine decide_eq_false fun h => ?_
        cases h with
        | rel h => exact h1 h
        | cons h => exact h2 rfl
theorem op_rC (o : COp) (hu : X.A.units + 64 < cLine) : OpR X (compareOp (cop o)) (rC (kx cl X) o) := by
  intro pins s σ H x y v u Q I rx ry h
  obtain ⟨G, a, b, k, e, ha, hb, hk, q⟩ := h
  cases o with
  | eq =>
    simp only [cmpD] at hk
    split at hk
    · rename_i hz
      simp only [Option.some.injEq] at hk; subst hk
      have g := Bool.and_eq_true_iff.mp hz
      have r1 := ha.rep e
      have r2 := hb.rep e
      rw [← eqv_py a b deep deep g.1 g.2] at q
      exact op_eqD hu pins s σ H _ _ v u Q I rx ry ⟨_, _, r1.dp g.1, r2.dp g.2, shaped_py r1 g.1, shaped_py r2 g.2, q⟩
    · cases hk
  | ne =>
    simp only [cmpD] at hk
    split at hk
    · rename_i hz
      simp only [Option.some.injEq] at hk; subst hk
      have g := Bool.and_eq_true_iff.mp hz
      have r1 := ha.rep e
      have r2 := hb.rep e
      rw [← eqv_py a b deep deep g.1 g.2] at q
      exact op_neD hu pins s σ H _ _ v u Q I rx ry ⟨_, _, r1.dp g.1, r2.dp g.2, shaped_py r1 g.1, shaped_py r2 g.2, q⟩
    · cases hk
  | lt =>
    cases a <;> cases b <;> simp only [cmpD, reduceCtorEq, Option.some.injEq] at hk
    case str.str =>
      subst hk
      have r1 := ha.val (fun _ z => by cases z); have r2 := hb.val (fun _ z => by cases z)
      cases r1; cases r2
      exact op_lt_str pins s σ H _ _ v u Q I rx ry ⟨_, _, rfl, rfl, by rw [S'_list, S'_list, ← ltCs_iff]; exact q⟩
    subst hk
    have r1 := ha.val (fun _ z => by cases z); have r2 := hb.val (fun _ z => by cases z)
    cases r1; cases r2
    exact op_lt pins s σ H _ _ v u Q I rx ry ⟨_, _, rfl, rfl, q⟩
  | le =>
    cases a <;> cases b <;> simp only [cmpD, reduceCtorEq, Option.some.injEq] at hk
    case str.str =>
      subst hk
      have r1 := ha.val (fun _ z => by cases z); have r2 := hb.val (fun _ z => by cases z)
      cases r1; cases r2
      exact op_le_str pins s σ H _ _ v u Q I rx ry ⟨_, _, rfl, rfl, by rw [S'_list, S'_list, ← ltCs_iff]; exact q⟩
    subst hk
    have r1 := ha.val (fun _ z => by cases z); have r2 := hb.val (fun _ z => by cases z)
    cases r1; cases r2
    exact op_le pins s σ H _ _ v u Q I rx ry ⟨_, _, rfl, rfl, q⟩
  | gt =>
    cases a <;> cases b <;> simp only [cmpD, reduceCtorEq, Option.some.injEq] at hk
    case str.str =>
      subst hk
      have r1 := ha.val (fun _ z => by cases z); have r2 := hb.val (fun _ z => by cases z)
      cases r1; cases r2
      exact op_gt_str pins s σ H _ _ v u Q I rx ry ⟨_, _, rfl, rfl, by rw [S'_list, S'_list, ← ltCs_iff]; exact q⟩
    subst hk
    have r1 := ha.val (fun _ z => by cases z); have r2 := hb.val (fun _ z => by cases z)
    cases r1; cases r2
    exact op_gt pins s σ H _ _ v u Q I rx ry ⟨_, _, rfl, rfl, q⟩
  | ge =>
    cases a <;> cases b <;> simp only [cmpD, reduceCtorEq, Option.some.injEq] at hk
    case str.str =>
      subst hk
      have r1 := ha.val (fun _ z => by cases z); have r2 := hb.val (fun _ z => by cases z)
      cases r1; cases r2
      exact op_ge_str pins s σ H _ _ v u Q I rx ry ⟨_, _, rfl, rfl, by rw [S'_list, S'_list, ← ltCs_iff]; exact q⟩
    subst hk
    have r1 := ha.val (fun _ z => by cases z); have r2 := hb.val (fun _ z => by cases z)
    cases r1; cases r2
    exact op_ge pins s σ H _ _ v u Q I rx ry ⟨_, _, rfl, rfl, q⟩
  | isin => exact inD_ok (neg := false) (fun g q => op_in_sign pins s σ H _ _ v u Q I rx ry g) (fun g => op_in_seq pins s σ H _ _ v u Q I rx ry g) e ha hb hk q
  | notin =>
    simp only [cmpD] at hk
    cases h2 : inD a b with
    | none => rw [h2] at hk; cases hk
    | some k2 =>
      rw [h2] at hk
      simp only [Option.map_some, Option.some.injEq] at hk
      subst hk
      exact inD_ok (neg := true) (fun g q => op_notIn_sign pins s σ H _ _ v u Q I rx ry g) (fun g => op_notIn_seq pins s σ H _ _ v u Q I rx ry g) e ha hb h2 q
end
end Iv
end
section
set_option autoImplicit false
set_option maxRecDepth 100000
set_option maxHeartbeats 4000000
set_option exponentiation.threshold 5000
namespace Iv
open PySem L2
/-! ### numbers and texts -/
theorem numL_digs : ∀ (f n : Nat) (acc : Cs), n < f → digs f n acc = TL.numL n ++ acc
  | 0, n, acc, h => by omega
  | f + 1, n, acc, h => by
    unfold digs
    by_cases h1 : n < 10
    · rw [if_pos h1, TL.numL_lt h1]; rfl
    · rw [if_neg h1, TL.numL_step (by omega), numL_digs f (n / 10) _ (by omega)]; simp
theorem decN_numL (n : Nat) : decN n = TL.numL n := by
  unfold decN; rw [numL_digs _ _ _ (by omega)]; simp
theorem toString_decI (i : Int) : Str.ofString (toString i) = S' (decI i) := by
  refine TL.ext_tl ?_
  unfold decI
  by_cases h : i < 0
  · rw [if_pos h, decN_numL]
    obtain ⟨n, rfl⟩ : ∃ n : Nat, i = -((n : Int) + 1) := ⟨i.natAbs - 1, by omega⟩
    rw [TL.tl_ofString]
    have e : toString (-((n : Int) + 1)) = "-" ++ toString (n + 1) := by
      have : (-((n : Int) + 1)) = Int.negSucc n := by omega
      rw [this]; rfl
    rw [e, String.toList_append, List.map_append]
    have e2 : (toString (n + 1)).toList.map Char.toNat = TL.numL (n + 1) := by
      have := TL.tl_num (n + 1)
      rw [TL.tl_ofString] at this
      exact this
    rw [e2]
    have : (-((n : Int) + 1)).natAbs = n + 1 := by omega
    rw [this]
    rfl
  · rw [if_neg h, decN_numL]
    obtain ⟨n, rfl⟩ : ∃ n : Nat, i = (n : Int) := ⟨i.natAbs, by omega⟩
    rw [TL.tl_num]; simp [S', TL.tl]
theorem okc_numL (n : Nat) : Okc (TL.numL n) := fun c hc => by
  have : 48 ≤ c ∧ c ≤ 57 := by
    by_cases h : c < 48 ∨ 57 < c
    · exact absurd hc (TL.numL_free h)
    · omega
  omega
theorem okc_decI (i : Int) : Okc (decI i) := by
  unfold decI
  split
  · intro c hc
    rcases List.mem_cons.mp hc with h | h
    · omega
    · rw [decN_numL] at h; exact okc_numL _ c h
  · rw [decN_numL]; exact okc_numL _
theorem log2_of {i : Int} {n : Nat} (h : i.natAbs < 2 ^ n) (hn : 0 < n) : i.natAbs.log2 < n := by
  by_cases h0 : i.natAbs = 0
  · rw [h0]; simpa using hn
  · exact (Nat.log2_lt h0).mpr h

theorem numOf_spec : ∀ (s : Cs) (acc n : Nat), numOf s acc = some n → NumText.AllDigits s ∧ s.foldl (fun acc c => acc * 10 + (c - 48)) acc = n
  | [], acc, n, h => by
    simp only [numOf, Option.some.injEq] at h
    exact ⟨fun c hc => by simp at hc, h⟩
  | c :: cs, acc, n, h => by
    unfold numOf at h
    split at h
    · rename_i hc
      obtain ⟨h1, h2⟩ := numOf_spec cs _ n h
      refine ⟨fun d hd => ?_, h2⟩
      rcases List.mem_cons.mp hd with z | z
      · subst z; exact hc
      · exact h1 d z
    · cases h
theorem int_text {s : Cs} {n : Nat} (h : numOf s 0 = some n) (hne : s ≠ []) (hl : s.length ≤ 640) : intText? (S' s) = some (n : Int) := by
  obtain ⟨h1, h2⟩ := numOf_spec s 0 n h
  have := intText_digits (x := S' s) (by rw [S'_list]; exact h1) (by rw [S'_list]; exact hne) (by rw [S'_length]; omega)
  rw [this, S'_list]
  show some ((s.foldl (fun acc c => acc * 10 + (c - 48)) 0 : Nat) : Int) = _
  rw [h2]
theorem sumD_spec : ∀ (xs : List D) (acc n : Int), sumD xs acc = some n → ∃ ns : List Int, xs = ns.map D.int ∧ n = acc + ns.sum
  | [], acc, n, h => by simp only [sumD, Option.some.injEq] at h; exact ⟨[], rfl, by simp [h]⟩
  | .int i :: xs, acc, n, h => by
    simp only [sumD] at h
    obtain ⟨ns, h1, h2⟩ := sumD_spec xs (acc + i) n h
    exact ⟨i :: ns, by simp [h1], by simp [h2]; omega⟩
  | .non :: _, _, _, h => by simp [sumD] at h
  | .bl _ :: _, _, _, h => by simp [sumD] at h
  | .str _ :: _, _, _, h => by simp [sumD] at h
  | .tup _ :: _, _, _, h => by simp [sumD] at h
  | .lst _ :: _, _, _, h => by simp [sumD] at h
  | .dct _ :: _, _, _, h => by simp [sumD] at h
  | .ins _ _ :: _, _, _, h => by simp [sumD] at h
  | .cls _ :: _, _, _, h => by simp [sumD] at h
  | .ro _ :: _, _, _, h => by simp [sumD] at h
  | .ptp _ :: _, _, _, h => by simp [sumD] at h
theorem reps_ints {K : Fg} {G : Hp} : ∀ {ns : List Int} {vs : List V}, Reps K G (ns.map D.int) vs → vs = ns.map V.int
  | [], _, .nil => rfl
  | n :: ns, _, .cons h r => by cases h; rw [reps_ints r]; rfl
theorem reps_of_ints {K : Fg} {G : Hp} : ∀ (ns : List Int), Reps K G (ns.map D.int) (ns.map V.int)
  | [] => .nil
  | n :: ns => .cons (.int n) (reps_of_ints ns)

/-! ### built-ins -/
def rBi (K : Fg) (b : Bi) : List V → Hp → VK → Prop := fun vs H Q => ∃ (G : Hp) (xs : List D) (d : D), Ext G H ∧ Paired (Rd' K G H) xs vs ∧ biD b xs = some d ∧ Gives K G H d Q
theorem pd1 {α β : Type} {F : α → β → Prop} {x : α} {vs : List β} (h : Paired F [x] vs) : ∃ v, vs = [v] ∧ F x v := by
  cases h with
  | cons h r => cases r; exact ⟨_, rfl, h⟩
theorem pd2 {α β : Type} {F : α → β → Prop} {x y : α} {vs : List β} (h : Paired F [x, y] vs) : ∃ v u, vs = [v, u] ∧ F x v ∧ F y u := by
  cases h with
  | cons h r => cases r with
    | cons h' r => cases r; exact ⟨_, _, rfl, h, h'⟩
section
variable {cl : Cl} {X : Cx}
theorem Rd'.nl {K : Fg} {G H : Hp} {d : D} {x : V} (h : Rd' K G H d x) (n : (match d with | .lst _ => false | _ => true) = true) : Rep K G d x := h.val fun _ z => by subst z; cases n
theorem biD_one {b : Bi} {xs : List D} {d : D} (h : biD b xs = some d) (hb : b ≠ .max2 ∧ b ≠ .min2 ∧ b ≠ .divmod) : ∃ x, xs = [x] := by
  match xs, h with
  | [], h => cases b <;> simp [biD] at h
  | [x], h => exact ⟨x, rfl⟩
  | x :: y :: r, h => cases b <;> simp [biD] at h <;> simp at hb
theorem biD_two {b : Bi} {xs : List D} {d : D} (h : biD b xs = some d) (hb : b = .max2 ∨ b = .min2 ∨ b = .divmod) : ∃ i j, xs = [.int i, .int j] := by
  match xs, h with
  | [], h => rcases hb with rfl | rfl | rfl <;> simp [biD] at h
  | [x], h => rcases hb with rfl | rfl | rfl <;> simp [biD] at h
  | [x, y], h => rcases hb with rfl | rfl | rfl <;> cases x <;> cases y <;> simp [biD] at h <;> exact ⟨_, _, rfl⟩
  | x :: y :: z :: r, h => rcases hb with rfl | rfl | rfl <;> simp [biD] at h
def biF : Bi → Value
  | .len => .builtin "len" | .int => .type "int" | .str => .type "str" | .abs => .builtin "abs" | .max2 => .builtin "max" | .min2 => .builtin "min"
  | .sum => .builtin "sum" | .divmod => .builtin "divmod" | .tuple => .type "tuple" | .list => .type "list"
  | .all => .builtin "all" | .any => .builtin "any" | .min => .builtin "min" | .max => .builtin "max" | .bool => .type "bool"
theorem bools_spec : ∀ (xs : List D) (bs : List Bool), bools xs = some bs → xs = bs.map D.bl
  | [], bs, h => by simp only [bools, Option.some.injEq] at h; subst h; rfl
  | .bl b :: xs, bs, h => by
    simp only [bools] at h
    cases e : bools xs with
    | none => rw [e] at h; cases h
    | some cs => rw [e] at h; cases h; rw [bools_spec xs cs e]; rfl
  | .non :: _, _, h => by simp [bools] at h
  | .int _ :: _, _, h => by simp [bools] at h
  | .str _ :: _, _, h => by simp [bools] at h
  | .tup _ :: _, _, h => by simp [bools] at h
  | .lst _ :: _, _, h => by simp [bools] at h
  | .dct _ :: _, _, h => by simp [bools] at h
  | .ins _ _ :: _, _, h => by simp [bools] at h
  | .cls _ :: _, _, h => by simp [bools] at h
  | .ro _ :: _, _, h => by simp [bools] at h
  | .ptp _ :: _, _, h => by simp [bools] at h
theorem intsD_spec : ∀ (xs : List D) (bs : List Int), intsD xs = some bs → xs = bs.map D.int
  | [], bs, h => by simp only [intsD, Option.some.injEq] at h; subst h; rfl
  | .int b :: xs, bs, h => by
    simp only [intsD] at h
    cases e : intsD xs with
    | none => rw [e] at h; cases h
    | some cs => rw [e] at h; cases h; rw [intsD_spec xs cs e]; rfl
  | .non :: _, _, h => by simp [intsD] at h
  | .bl _ :: _, _, h => by simp [intsD] at h
  | .str _ :: _, _, h => by simp [intsD] at h
  | .tup _ :: _, _, h => by simp [intsD] at h
  | .lst _ :: _, _, h => by simp [intsD] at h
  | .dct _ :: _, _, h => by simp [intsD] at h
  | .ins _ _ :: _, _, h => by simp [intsD] at h
  | .cls _ :: _, _, h => by simp [intsD] at h
  | .ro _ :: _, _, h => by simp [intsD] at h
  | .ptp _ :: _, _, h => by simp [intsD] at h
theorem reps_bls {K : Fg} {G : Hp} : ∀ {ns : List Bool} {vs : List V}, Reps K G (ns.map D.bl) vs → vs = ns.map V.bl
  | [], _, .nil => rfl
  | n :: ns, _, .cons h r => by cases h; rw [reps_bls r]; rfl
theorem allB_eq : ∀ bs : List Bool, bs.all id = allB bs
  | [] => rfl
  | b :: bs => by rw [List.all_cons, allB_eq bs]; rfl
theorem anyB_eq : ∀ bs : List Bool, bs.any id = anyB bs
  | [] => rfl
  | b :: bs => by rw [List.any_cons, anyB_eq bs]; rfl
theorem leastI_spec : ∀ (ns : List Int) (n : Int), (leastI n ns = n ∨ leastI n ns ∈ ns) ∧ leastI n ns ≤ n ∧ ∀ y ∈ ns, leastI n ns ≤ y
  | [], n => ⟨.inl rfl, Int.le_refl _, fun y h => by simp at h⟩
  | x :: xs, n => by
    obtain ⟨h1, h2, h3⟩ := leastI_spec xs (if x < n then x else n)
    have h2' : leastI n (x :: xs) ≤ (if x < n then x else n) := h2
    refine ⟨?_, ?_, fun y hy => ?_⟩
    · show leastI (if x < n then x else n) xs = n ∨ leastI (if x < n then x else n) xs ∈ x :: xs
      rcases h1 with h1 | h1
      · by_cases c : x < n
        · rw [if_pos c] at h1 ⊢; right; rw [h1]; exact List.mem_cons_self
        · rw [if_neg c] at h1 ⊢; left; exact h1
      · right; exact List.mem_cons_of_mem _ h1
    · split at h2' <;> omega
    · rcases List.mem_cons.mp hy with z | z
      · subst z; split at h2' <;> omega
      · exact h3 y z
theorem mostI_spec : ∀ (ns : List Int) (n : Int), (mostI n ns = n ∨ mostI n ns ∈ ns) ∧ n ≤ mostI n ns ∧ ∀ y ∈ ns, y ≤ mostI n ns
  | [], n => ⟨.inl rfl, Int.le_refl _, fun y h => by simp at h⟩
  | x :: xs, n => by
    obtain ⟨h1, h2, h3⟩ := mostI_spec xs (if n < x then x else n)
    have h2' : (if n < x then x else n) ≤ mostI n (x :: xs) := h2
    refine ⟨?_, ?_, fun y hy => ?_⟩
    · show mostI (if n < x then x else n) xs = n ∨ mostI (if n < x then x else n) xs ∈ x :: xs
      rcases h1 with h1 | h1
      · by_cases c : n < x
        · rw [if_pos c] at h1 ⊢; right; rw [h1]; exact List.mem_cons_self
        · rw [if_neg c] at h1 ⊢; left; exact h1
      · right; exact List.mem_cons_of_mem _ h1
    · split at h2' <;> omega
    · rcases List.mem_cons.mp hy with z | z
      · subst z; split at h2' <;> omega
      · exact h3 y z
/-- bool(a tuple) -/
theorem bool_tup {prog : Program} {w : World} {A : Around} {E : Value → Shared → Prop} {s : Shared} {l : Addr} {xs : Array Value} {Q : Value → Shared → Prop} (hz : (xs.size : Int) < 2 ^ 63) (hl : PyProof.Rows.IsTup s.heap l xs)
    (h : ∀ t, Q (.bool (!xs.isEmpty)) { s with toks := t }) : wpAny (model prog w) A (call (.type "bool") [.ref l]) Q E s := by
  refine PySem.call_bool_1 (S := fun _ R s => PyProof.Rows.IsTup s.heap l xs ∧ ∀ t, R (.ok (.ret (.bool (!xs.isEmpty)))) { s with toks := t }) (Meets.of_wp fun prog w A R s hs => ?_) ⟨hl, fun t => ⟨rfl, h t⟩⟩
  obtain ⟨hl, hs⟩ := hs
  obtain ⟨hp, g, d, tk, os⟩ := s
  have f1 := PySem.F.conv_sub_bool
  repeat (any_goals (first | assumption | (with_reducible refine PyProof.Rows.truthy_tuple hl hz ?_) | wp_step))
  all_goals first | exact ⟨_, rfl, hs _⟩ | exact hs _ | skip
theorem cr_bi (hc : X.calm = true) (b : Bi) : CallR X (biF b) (rBi (kx cl X) b) := by
  intro pins s σ H vs us Q I rv h
  obtain ⟨G, xs, d, e, hp, hd, g⟩ := h
  cases b with
  | bool =>
    obtain ⟨x, rfl⟩ := biD_one hd (by simp)
    obtain ⟨v, rfl, hx⟩ := pd1 hp
    cases x <;> simp only [biD, reduceCtorEq, Option.some.injEq] at hd
    · subst hd; cases hx.nl rfl
      exact call_bool1 pins s σ H _ us Q I rv (.inr ⟨_, rfl, g.here (.bl _)⟩)
    · subst hd; cases hx.nl rfl
      exact call_bool1 pins s σ H _ us Q I rv (.inl ⟨_, rfl, g.here (.bl _)⟩)
    · subst hd
      cases hx.nl rfl with
      | tup hs hr =>
        rename_i ys a ws
        obtain rfl := Vals.ref1 rv
        obtain ⟨its, rv', pl, hz⟩ := I.tuple (hs.ext e)
        have hl := line63
        have hlen := rv'.length
        have hem : its.toArray.isEmpty = ys.isEmpty := by
          have e1 := hr.length
          have e2 : ys.length = its.length := e1.trans hlen
          cases ys <;> cases its <;> first | rfl | (simp at e2)
        refine bool_tup (by simp only [List.size_toArray]; omega) pl fun t => ?_
        rw [hem]
        exact ⟨.bl _, H, I.tok t, rfl, g.here (.bl _)⟩
    · subst hd
      obtain ⟨a, ws, rfl, hs, hr⟩ := hx.lst e
      rename_i ys
      have hem : ws.isEmpty = ys.isEmpty := by
        have e1 := hr.length
        cases ys <;> cases ws <;> first | rfl | (simp at e1)
      exact call_boolL pins s σ H _ us Q I rv ⟨_, _, rfl, .of hs, by rw [hem]; exact g.here (.bl _)⟩
  | len =>
    obtain ⟨x, rfl⟩ := biD_one hd (by simp)
    obtain ⟨v, rfl, hx⟩ := pd1 hp
    cases x <;> simp only [biD, reduceCtorEq, Option.some.injEq] at hd
    · split at hd
      · rename_i hz
        simp only [Option.some.injEq] at hd; subst hd
        cases hx.nl rfl
        exact call_len pins s σ H _ us Q I rv ⟨_, _, rfl, ⟨by rw [S'_length]; exact small_line hz, rfl⟩, by rw [S'_length]; exact g.here (.int _)⟩
      · cases hd
    · subst hd
      cases hx.nl rfl with
      | tup hs hr => exact call_len pins s σ H _ us Q I rv ⟨_, _, rfl, .inr ⟨_, hs.ext e, rfl⟩, by rw [← hr.length]; exact g.here (.int _)⟩
    · subst hd
      obtain ⟨a, ws, rfl, hs, hr⟩ := hx.lst e
      exact call_len pins s σ H _ us Q I rv ⟨_, _, rfl, .inl ⟨_, .of hs, rfl⟩, by rw [← hr.length]; exact g.here (.int _)⟩
    · subst hd
      cases hx.nl rfl with
      | ro hs hr => exact call_len pins s σ H _ us Q I rv ⟨_, _, rfl, .inl ⟨_, hs.ext e, rfl⟩, by rw [← hr.length]; exact g.here (.int _)⟩
  | int =>
    obtain ⟨x, rfl⟩ := biD_one hd (by simp)
    obtain ⟨v, rfl, hx⟩ := pd1 hp
    cases x <;> simp only [biD, reduceCtorEq, Option.some.injEq] at hd
    · subst hd; cases hx.nl rfl
      exact call_int1 pins s σ H _ us Q I rv (.inr ⟨_, rfl, g.here (.int _)⟩)
    · subst hd; cases hx.nl rfl
      exact call_int1 pins s σ H _ us Q I rv (.inl ⟨_, rfl, g.here (.int _)⟩)
    · rename_i t
      split at hd
      · rename_i hz
        cases hn : numOf t 0 with
        | none => rw [hn] at hd; cases hd
        | some n =>
          rw [hn] at hd
          have hd : some (D.int (n : Int)) = some d := hd
          cases hd
          cases hx.nl rfl
          exact call_int_str pins s σ H _ us Q I rv ⟨_, _, rfl, int_text hn hz.1 hz.2, by rw [S'_length]; exact hz.2, g.here (.int _)⟩
      · cases hd
  | str =>
    obtain ⟨x, rfl⟩ := biD_one hd (by simp)
    obtain ⟨v, rfl, hx⟩ := pd1 hp
    cases x <;> simp only [biD, reduceCtorEq] at hd
    case str =>
      simp only [Option.some.injEq] at hd; subst hd
      cases hx.nl rfl with
      | str _ ok => exact SkE.call_str_str pins s σ H _ us Q I rv ⟨_, rfl, g.here (.str _ ok)⟩
    case int =>
      split at hd
      · rename_i hz
        simp only [Option.some.injEq] at hd; subst hd
        cases hx.nl rfl
        exact call_str_int pins s σ H _ us Q I rv ⟨_, rfl, Nat.lt_of_lt_of_le (log2_of hz (by decide)) (by decide), by rw [toString_decI]; exact g.here (.str _ (okc_decI _))⟩
      · cases hd
  | abs =>
    obtain ⟨x, rfl⟩ := biD_one hd (by simp)
    obtain ⟨v, rfl, hx⟩ := pd1 hp
    cases x <;> simp only [biD, reduceCtorEq, Option.some.injEq] at hd
    subst hd; cases hx.nl rfl
    exact call_abs pins s σ H _ us Q I rv ⟨_, rfl, g.here (.int _)⟩
  | max2 =>
    obtain ⟨i, j, rfl⟩ := biD_two hd (by simp)
    obtain ⟨v, u, rfl, hx, hy⟩ := pd2 hp
    simp only [biD, Option.some.injEq] at hd
    subst hd; cases hx.nl rfl; cases hy.nl rfl
    exact call_max2 hc pins s σ H _ us Q I rv ⟨_, _, rfl, g.here (.int _)⟩
  | min2 =>
    obtain ⟨i, j, rfl⟩ := biD_two hd (by simp)
    obtain ⟨v, u, rfl, hx, hy⟩ := pd2 hp
    simp only [biD, Option.some.injEq] at hd
    subst hd; cases hx.nl rfl; cases hy.nl rfl
    exact call_min2 hc pins s σ H _ us Q I rv ⟨_, _, rfl, g.here (.int _)⟩
  | sum =>
    obtain ⟨x, rfl⟩ := biD_one hd (by simp)
    obtain ⟨v, rfl, hx⟩ := pd1 hp
    cases x <;> simp only [biD, reduceCtorEq, Option.some.injEq] at hd
    rename_i ys
    cases hn : sumD ys 0 with
    | none => rw [hn] at hd; cases hd
    | some n =>
      rw [hn] at hd
      simp only [Option.map_some, Option.some.injEq] at hd; subst hd
      obtain ⟨ns, rfl, hs⟩ := sumD_spec ys 0 n hn
      obtain ⟨a, ws, rfl, h1, h2⟩ := hx.lst e
      have := reps_ints h2
      subst this
      have hs : n = ns.sum := by omega
      subst hs
      exact cr_sum hc pins s σ H _ us Q I rv ⟨_, _, rfl, .of h1, g.here (.int _)⟩
  | divmod =>
    obtain ⟨i, j, rfl⟩ := biD_two hd (by simp)
    obtain ⟨v, u, rfl, hx, hy⟩ := pd2 hp
    simp only [biD] at hd
    split at hd
    · rename_i hz
      simp only [Option.some.injEq] at hd; subst hd; cases hx.nl rfl; cases hy.nl rfl
      exact call_divmod pins s σ H _ us Q I rv ⟨_, _, rfl, hz, fun p hp => g.newT e (.cons (.int _) (.cons (.int _) .nil)) hp⟩
    · cases hd
  | tuple =>
    obtain ⟨x, rfl⟩ := biD_one hd (by simp)
    obtain ⟨v, rfl, hx⟩ := pd1 hp
    cases x <;> simp only [biD, reduceCtorEq, Option.some.injEq] at hd
    · subst hd
      have hr := hx.nl rfl
      cases hr with
      | tup h1 h2 => exact call_tuple_of pins s σ H _ us Q I rv ⟨_, _, rfl, .inr ⟨h1.ext e, g.here (.tup h1 h2)⟩⟩
    · subst hd
      obtain ⟨a, ws, rfl, h1, h2⟩ := hx.lst e
      exact call_tuple_of pins s σ H _ us Q I rv ⟨_, _, rfl, .inl ⟨.of h1, fun p hp => g.newT e h2 hp⟩⟩
  | list =>
    obtain ⟨x, rfl⟩ := biD_one hd (by simp)
    obtain ⟨v, rfl, hx⟩ := pd1 hp
    cases x <;> simp only [biD, reduceCtorEq, Option.some.injEq] at hd
    · subst hd
      have hr := hx.nl rfl
      cases hr with
      | tup h1 h2 => exact call_list_of pins s σ H _ us Q I rv ⟨_, _, rfl, .inr (h1.ext e), fun p hp => g.newL e h2 hp⟩
    · subst hd
      obtain ⟨a, ws, rfl, h1, h2⟩ := hx.lst e
      exact call_list_of pins s σ H _ us Q I rv ⟨_, _, rfl, .inl (.of h1), fun p hp => g.newL e h2 hp⟩
  | all =>
    obtain ⟨x, rfl⟩ := biD_one hd (by simp)
    obtain ⟨v, rfl, hx⟩ := pd1 hp
    cases x <;> simp only [biD, reduceCtorEq] at hd
    rename_i ys
    cases hn : bools ys with
    | none => rw [hn] at hd; cases hd
    | some bs =>
      rw [hn] at hd
      cases hd
      have := bools_spec ys bs hn
      subst this
      obtain ⟨a, ws, rfl, h1, h2⟩ := hx.lst e
      have := reps_bls h2
      subst this
      exact cr_all hc pins s σ H _ us Q I rv ⟨_, _, rfl, .of h1, by rw [allB_eq]; exact g.here (.bl _)⟩
  | any =>
    obtain ⟨x, rfl⟩ := biD_one hd (by simp)
    obtain ⟨v, rfl, hx⟩ := pd1 hp
    cases x <;> simp only [biD, reduceCtorEq] at hd
    rename_i ys
    cases hn : bools ys with
    | none => rw [hn] at hd; cases hd
    | some bs =>
      rw [hn] at hd
      cases hd
      have := bools_spec ys bs hn
      subst this
      obtain ⟨a, ws, rfl, h1, h2⟩ := hx.lst e
      have := reps_bls h2
      subst this
      exact cr_any hc pins s σ H _ us Q I rv ⟨_, _, rfl, .of h1, by rw [anyB_eq]; exact g.here (.bl _)⟩
  | min =>
    obtain ⟨x, rfl⟩ := biD_one hd (by simp)
    obtain ⟨v, rfl, hx⟩ := pd1 hp
    cases x <;> simp only [biD, reduceCtorEq] at hd
    rename_i ys
    cases hn : intsD ys with
    | none => rw [hn] at hd; cases hd
    | some ns =>
      rw [hn] at hd
      match ns, hn, hd with
      | n :: ns, hn, hd =>
        cases hd
        have := intsD_spec ys _ hn
        subst this
        obtain ⟨a, ws, rfl, h1, h2⟩ := hx.lst e
        have := reps_ints h2
        subst this
        refine cr_min hc pins s σ H _ us Q I rv ⟨_, _, rfl, .of h1, by simp, fun m hm hle => ?_⟩
        obtain ⟨l1, l2, l3⟩ := leastI_spec ns n
        have e1 : m ≤ leastI n ns := by
          rcases l1 with l1 | l1
          · rw [l1]; exact hle _ List.mem_cons_self
          · exact hle _ (List.mem_cons_of_mem _ l1)
        have e2 : leastI n ns ≤ m := by
          rcases List.mem_cons.mp hm with z | z
          · rw [z]; exact l2
          · exact l3 m z
        have : m = leastI n ns := by omega
        subst this
        exact g.here (.int _)
      | [], hn, hd => cases hd
  | max =>
    obtain ⟨x, rfl⟩ := biD_one hd (by simp)
    obtain ⟨v, rfl, hx⟩ := pd1 hp
    cases x <;> simp only [biD, reduceCtorEq] at hd
    rename_i ys
    cases hn : intsD ys with
    | none => rw [hn] at hd; cases hd
    | some ns =>
      rw [hn] at hd
      match ns, hn, hd with
      | n :: ns, hn, hd =>
        cases hd
        have := intsD_spec ys _ hn
        subst this
        obtain ⟨a, ws, rfl, h1, h2⟩ := hx.lst e
        have := reps_ints h2
        subst this
        refine cr_max hc pins s σ H _ us Q I rv ⟨_, _, rfl, .of h1, by simp, fun m hm hle => ?_⟩
        obtain ⟨l1, l2, l3⟩ := mostI_spec ns n
        have e1 : mostI n ns ≤ m := by
          rcases l1 with l1 | l1
          · rw [l1]; exact hle _ List.mem_cons_self
          · exact hle _ (List.mem_cons_of_mem _ l1)
        have e2 : m ≤ mostI n ns := by
          rcases List.mem_cons.mp hm with z | z
          · rw [z]; exact l2
          · exact l3 m z
        have : m = mostI n ns := by omega
        subst this
        exact g.here (.int _)
      | [], hn, hd => cases hd
end
end Iv
end
section
set_option autoImplicit false
set_option maxRecDepth 100000
set_option maxHeartbeats 4000000
namespace Iv
open PySem L2
/-! ### methods of texts -/
theorem spl_splitC (c : Nat) : ∀ (l acc : Cs), TL.spl [c] 0 acc l = (match splitC c l with | [] => [acc] | y :: ys => (acc ++ y) :: ys)
  | [], acc => by rw [TL.spl_nil]; simp [splitC]
  | x :: xs, acc => by
    by_cases h : x = c
    · subst h
      rw [TL.spl_hit (by simp [TL.pre])]
      show acc :: TL.spl [x] 0 [] xs = _
      rw [spl_splitC x xs []]
      simp only [splitC, if_pos]
      cases e : splitC x xs with
      | nil =>
        exfalso
        cases xs with
        | nil => simp [splitC] at e
        | cons z zs =>
          unfold splitC at e
          split at e
          · cases e
          · split at e <;> cases e
      | cons y ys => simp
    · rw [TL.spl_miss (by simp [TL.pre, h]), spl_splitC c xs (acc ++ [x])]
      simp only [splitC, if_neg h]
      cases e : splitC c xs with
      | nil => simp
      | cons y ys => simp
theorem splitC_ne (c : Nat) (l : Cs) : splitC c l ≠ [] := by
  intro e
  cases l with
  | nil => simp [splitC] at e
  | cons z zs =>
    unfold splitC at e
    split at e
    · cases e
    · split at e <;> cases e
theorem split_text {s : Cs} {c : Nat} (h : c < 256) : Txt.split (S' s) (S' [c]) = (splitC c s).map S' := by
  refine TL.map_tl_inj ?_
  rw [TL.split_spl _ _ (by simp [TL.tl, S']) (TL.kind_ok (by simp [S', h]))]
  have e1 : TL.tl (S' [c]) = [c] := by simp [TL.tl, S']
  have e2 : TL.tl (S' s) = s := by simp [TL.tl, S']
  rw [e1, e2, spl_splitC c s []]
  have : ∀ l : List Cs, (l.map S').map TL.tl = l := fun l => by
    rw [List.map_map]; conv => rhs; rw [← List.map_id l]
    exact List.map_congr_left fun x _ => by simp [TL.tl, S']
  rw [this]
  cases e : splitC c s with
  | nil => exact absurd e (splitC_ne c s)
  | cons y ys => simp
theorem okc_split (c : Nat) : ∀ (l : Cs), Okc l → ∀ p ∈ splitC c l, Okc p
  | [], h, p, hp => by simp [splitC] at hp; subst hp; exact fun c hc => by simp at hc
  | x :: xs, h, p, hp => by
    have ih := okc_split c xs (fun d hd => h d (List.mem_cons_of_mem _ hd))
    unfold splitC at hp
    split at hp
    · rcases List.mem_cons.mp hp with z | z
      · subst z; exact fun c hc => by simp at hc
      · exact ih p z
    · split at hp
      · simp at hp; subst hp; intro d hd; simp at hd; subst hd; exact h _ List.mem_cons_self
      · rename_i y ys e
        rcases List.mem_cons.mp hp with z | z
        · subst z
          intro d hd
          rcases List.mem_cons.mp hd with w | w
          · subst w; exact h _ List.mem_cons_self
          · exact ih y (by rw [e]; exact List.mem_cons_self) d w
        · exact ih p (by rw [e]; exact List.mem_cons_of_mem _ z)
theorem reps_strs {K : Fg} {G : Hp} : ∀ (l : List Cs), (∀ p ∈ l, Okc p) → Reps K G (l.map D.str) ((l.map S').map V.str)
  | [], _ => .nil
  | x :: xs, h => .cons (.str x (h x List.mem_cons_self)) (reps_strs xs fun p hp => h p (List.mem_cons_of_mem _ hp))
theorem strsOf_spec : ∀ (xs : List D) (l : List Cs), strsOf xs = some l → xs = l.map D.str
  | [], l, h => by simp only [strsOf, Option.some.injEq] at h; subst h; rfl
  | .str b :: xs, bs, h => by
    simp only [strsOf] at h
    cases e : strsOf xs with
    | none => rw [e] at h; cases h
    | some cs => rw [e] at h; cases h; rw [strsOf_spec xs cs e]; rfl
  | .non :: _, _, h => by simp [strsOf] at h
  | .bl _ :: _, _, h => by simp [strsOf] at h
  | .int _ :: _, _, h => by simp [strsOf] at h
  | .tup _ :: _, _, h => by simp [strsOf] at h
  | .lst _ :: _, _, h => by simp [strsOf] at h
  | .dct _ :: _, _, h => by simp [strsOf] at h
  | .ins _ _ :: _, _, h => by simp [strsOf] at h
  | .cls _ :: _, _, h => by simp [strsOf] at h
  | .ro _ :: _, _, h => by simp [strsOf] at h
  | .ptp _ :: _, _, h => by simp [strsOf] at h
theorem reps_strsI {K : Fg} {G : Hp} : ∀ {l : List Cs} {vs : List V}, Reps K G (l.map D.str) vs → vs = (l.map S').map V.str ∧ ∀ p ∈ l, Okc p
  | [], _, .nil => ⟨rfl, fun p h => by simp at h⟩
  | n :: ns, _, .cons h r => by
    cases h with
    | str _ o =>
      obtain ⟨h1, h2⟩ := reps_strsI r
      rw [h1]
      refine ⟨rfl, fun p hp => ?_⟩
      rcases List.mem_cons.mp hp with z | z
      · subst z; exact o
      · exact h2 p z
theorem joinL_joinC (sep : Cs) : ∀ l : List Cs, TL.joinL sep l = joinC sep l
  | [] => rfl
  | [x] => rfl
  | x :: y :: ys => by
    simp only [TL.joinL, joinC, joinL_joinC sep (y :: ys), List.append_assoc]
theorem join_text (sep : Cs) (l : List Cs) : Txt.join (S' sep) (l.map S') = S' (joinC sep l) := by
  refine TL.ext_tl ?_
  rw [TL.join_eq, TL.tl_join]
  have : (l.map S').map TL.tl = l := by
    rw [List.map_map]; conv => rhs; rw [← List.map_id l]
    exact List.map_congr_left fun x _ => by simp [TL.tl, S']
  rw [this, joinL_joinC]
  simp [TL.tl, S', joinL_joinC]
theorem okc_join {sep : Cs} (hs : Okc sep) : ∀ {l : List Cs}, (∀ p ∈ l, Okc p) → Okc (joinC sep l)
  | [], _ => fun c hc => by simp [joinC] at hc
  | [x], h => h x List.mem_cons_self
  | x :: y :: ys, h => fun c hc => by
    have ih := okc_join hs (l := y :: ys) (fun p hp => h p (List.mem_cons_of_mem _ hp))
    rcases List.mem_append.mp (show c ∈ (x ++ sep) ++ joinC sep (y :: ys) from hc) with z | z
    · rcases List.mem_append.mp z with w | w
      · exact h x List.mem_cons_self c w
      · exact hs c w
    · exact ih c z
theorem lens_sum : ∀ l : List Cs, ((l.map S').map fun x => x.length).sum = lens l
  | [] => rfl
  | x :: xs => by
    rw [List.map_cons, List.map_cons, List.sum_cons, lens_sum xs, S'_length]; rfl
theorem prefix_ext : ∀ (p s : Cs), (decide (0 + p.length ≤ s.length) && (s.take p.length == p)) = p.isPrefixOf s
  | [], s => by simp
  | a :: p, [] => by simp
  | a :: p, b :: s => by
    have ih := prefix_ext p s
    simp only [List.length_cons, List.take_succ_cons, List.isPrefixOf]
    rw [← ih]
    by_cases h : a = b
    · subst h; simp
    · have h1 : (a == b) = false := beq_eq_false_iff_ne.mpr h
      have h2 : (b == a) = false := beq_eq_false_iff_ne.mpr fun q => h q.symm
      simp [h1, h2, List.cons_beq_cons]
theorem starts_text (s p : Cs) : Txt.startswith (S' s) (S' p) = p.isPrefixOf s := by
  rw [← prefix_ext]
  unfold Txt.startswith Builtin.Str.subAt
  rw [S'_length, S'_length]
  congr 1
  have e1 : (S' s).cps.extract 0 (0 + p.length) = (s.take p.length).toArray := by simp [S']
  rw [e1]
  show ((s.take p.length).toArray == p.toArray) = _
  by_cases h : s.take p.length = p
  · rw [h]; simp
  · rw [beq_eq_false_iff_ne.mpr h, beq_eq_false_iff_ne.mpr (fun q => h (by simpa using congrArg Array.toList q))]
theorem takeW_len {p : Nat → Bool} : ∀ s : Cs, s.drop (s.takeWhile p).length = s.dropWhile p
  | [] => rfl
  | c :: s => by
    simp only [List.takeWhile_cons, List.dropWhile_cons]
    split
    · simp only [List.length_cons, List.drop_succ_cons]; exact takeW_len s
    · rfl
theorem goes_one (c : Nat) : (S' [c]).cps.contains = fun n => n == c := by
  funext n
  by_cases h : n = c
  · subst h; simp [S']
  · rw [beq_eq_false_iff_ne.mpr h]; simp [S', h]
theorem sub_text (s : Cs) (i j : Nat) : Builtin.Str.strSub (S' s) i j = S' ((s.take j).drop i) := by
  simp [Builtin.Str.strSub, S', List.drop_take]
theorem strip_by {p : Nat → Bool} {l r : Bool} {s : Cs} : Txt.stripBy p l r (S' s) = S' ((s.take (stripHi p r (S' s) (stripLo p l (S' s)))).drop (stripLo p l (S' s))) := by
  unfold Txt.stripBy
  split
  · rename_i h
    unfold stripSame at h
    simp only [Bool.and_eq_true, beq_iff_eq] at h
    obtain ⟨h1, h2⟩ := h
    rw [h1] at h2
    rw [h1, h2, S'_length, List.take_length, List.drop_zero]
  · unfold stripped
    exact sub_text s _ _
theorem lstrip_text (s : Cs) (c : Nat) : Txt.lstripChars (S' s) (S' [c]) = S' (s.dropWhile (· == c)) := by
  unfold Txt.lstripChars
  rw [goes_one, strip_by]
  congr 1
  simp only [stripHi, stripLo, if_true, Bool.false_eq_true, if_false, S'_length, List.take_length]
  exact takeW_len s
theorem rstrip_text (s : Cs) (c : Nat) : Txt.rstripChars (S' s) (S' [c]) = S' ((s.reverse.dropWhile (· == c)).reverse) := by
  unfold Txt.rstripChars
  rw [goes_one, strip_by]
  congr 1
  simp only [stripHi, stripLo, if_true, Bool.false_eq_true, if_false, S'_length, List.drop_zero]
  rw [← takeW_len, List.drop_reverse, List.reverse_reverse]
  rfl
theorem okc_lstrip {s : Cs} {c : Nat} (h : Okc s) : Okc (s.dropWhile (· == c)) := fun x hx => h x ((List.dropWhile_sublist _).mem hx)
theorem okc_rstrip {s : Cs} {c : Nat} (h : Okc s) : Okc ((s.reverse.dropWhile (· == c)).reverse) := fun x hx => h x (List.mem_reverse.mp ((List.dropWhile_sublist _).mem (List.mem_reverse.mp hx)))
def mtN : Mt → String
  | .split => "str.split" | .join => "str.join" | .startswith => "str.startswith" | .lstrip => "str.lstrip" | .rstrip => "str.rstrip"
def rMt (K : Fg) (m : Mt) : V → List V → Hp → VK → Prop := fun x vs H Q => ∃ (G : Hp) (a : D) (xs : List D) (d : D), Ext G H ∧ Rep K G a x ∧ Paired (Rd' K G H) xs vs ∧ mtD m a xs = some d ∧ Gives K G H d Q
theorem mtD_str {m : Mt} {a : D} {xs : List D} {d : D} (h : mtD m a xs = some d) : ∃ s, a = .str s := by
  cases m <;> cases a <;> first | exact ⟨_, rfl⟩ | (simp [mtD] at h)
theorem mtD_one {m : Mt} {s : Cs} {xs : List D} {d : D} (h : mtD m (.str s) xs = some d) : ∃ x, xs = [x] := by
  match xs, h with
  | [], h => cases m <;> simp [mtD] at h
  | [x], h => exact ⟨x, rfl⟩
  | x :: y :: r, h => cases m <;> simp [mtD] at h
section
variable {cl : Cl} {X : Cx}
theorem mr_mt (m : Mt) : MtR X (mtN m) (rMt (kx cl X) m) := by
  intro pins s σ H x vs v us Q I rx rv h
  obtain ⟨G, a, xs, d, e, ha, hp, hd, g⟩ := h
  obtain ⟨t, rfl⟩ := mtD_str hd
  obtain ⟨y, rfl⟩ := mtD_one hd
  obtain ⟨w, rfl, hy⟩ := pd1 hp
  cases ha with
  | str _ ot =>
  cases m with
  | split =>
    cases y with
    | str p =>
      match p, hd, hy with
      | [c], hd, hy =>
        simp only [mtD] at hd
        split at hd
        · rename_i hz
          cases hd
          cases hy.nl rfl with
          | str _ op =>
            refine mt_split pins s σ H _ _ v us Q I rx rv ⟨_, _, rfl, rfl, by simp [S', Str.length], by rw [S'_length, sizeLine_eq]; omega, fun p hp => ?_⟩
            rw [split_text hz.2]
            exact g.newL e (reps_strs _ (okc_split c t ot)) hp
        · cases hd
      | [], hd, hy => simp [mtD] at hd
      | _ :: _ :: _, hd, hy => simp [mtD] at hd
    | _ => simp [mtD] at hd
  | join =>
    cases y with
    | lst ys =>
      simp only [mtD] at hd
      cases hn : strsOf ys with
      | none => rw [hn] at hd; cases hd
      | some l =>
        rw [hn] at hd
        simp only [Option.bind_some] at hd
        split at hd
        · rename_i hz
          cases hd
          have := strsOf_spec ys l hn
          subst this
          obtain ⟨p, ws, rfl, h1, h2⟩ := hy.lst e
          obtain ⟨rfl, ok⟩ := reps_strsI h2
          refine mt_join pins s σ H _ _ v us Q I rx rv ⟨_, _, _, rfl, rfl, .inl (.of h1), ?_, by rw [join_text]; exact g.here (.str _ (okc_join ot ok))⟩
          rw [lens_sum, List.length_map, S'_length]
          have h1 := hz.1; have h2 := hz.2.1; have h3 : lens l ≤ 1000000 := hz.2.2
          have : l.length * t.length ≤ 1000 * 100 := Nat.mul_le_mul h1 h2
          omega
        · cases hd
    | _ => simp [mtD] at hd
  | startswith =>
    cases y with
    | str p =>
      simp only [mtD] at hd
      cases hd
      cases hy.nl rfl
      exact mt_startswith pins s σ H _ _ v us Q I rx rv ⟨_, _, rfl, rfl, by rw [starts_text]; exact g.here (.bl _)⟩
    | _ => simp [mtD] at hd
  | lstrip =>
    cases y with
    | str p =>
      match p, hd, hy with
      | [c], hd, hy =>
        simp only [mtD] at hd
        split at hd
        · rename_i hz
          cases hd
          cases hy.nl rfl with
          | str _ op =>
            exact mt_lstripChars pins s σ H _ _ v us Q I rx rv ⟨_, _, rfl, rfl, by rw [S'_length]; exact small_line hz, by rw [lstrip_text]; exact g.here (.str _ (okc_lstrip ot))⟩
        · cases hd
      | [], hd, hy => simp [mtD] at hd
      | _ :: _ :: _, hd, hy => simp [mtD] at hd
    | _ => simp [mtD] at hd
  | rstrip =>
    cases y with
    | str p =>
      match p, hd, hy with
      | [c], hd, hy =>
        simp only [mtD] at hd
        split at hd
        · rename_i hz
          cases hd
          cases hy.nl rfl with
          | str _ op =>
            exact mt_rstripChars pins s σ H _ _ v us Q I rx rv ⟨_, _, rfl, rfl, by rw [S'_length]; exact small_line hz, by rw [rstrip_text]; exact g.here (.str _ (okc_rstrip ot))⟩
        · cases hd
      | [], hd, hy => simp [mtD] at hd
      | _ :: _ :: _, hd, hy => simp [mtD] at hd
    | _ => simp [mtD] at hd
/-! ### items, slices -/
theorem ixN_plc (n : Nat) (i : Int) : ixN n i = plc i n := by
  unfold ixN plc
  by_cases h : 0 ≤ i
  · rw [if_pos h, if_pos h]
  · rw [if_neg h, if_neg h]
    by_cases h2 : -(n : Int) ≤ i
    · rw [if_pos h2, if_pos (by omega)]
    · rw [if_neg h2, if_neg (by omega)]
def rIxD (K : Fg) : R2 := fun x y H Q => ∃ (G : Hp) (a b d : D), Ext G H ∧ Rd' K G H a x ∧ Rep K G b y ∧ ixD a b = some d ∧ ∀ v, Rep K G d v → Q v H
theorem atI_seq {K : Fg} {G : Hp} {xs : List D} {vs : List V} {i : Int} {d : D} (r : Reps K G xs vs) (h : ((plc i xs.length).bind fun k => xs[k]?) = some d) : ∃ v, atI vs i = some v ∧ Rep K G d v := by
  unfold atI
  rw [ixN_plc, ← r.length]
  cases e : plc i xs.length with
  | none => rw [e] at h; cases h
  | some k =>
    rw [e] at h
    exact r.get h
theorem ix_D : IxR X (rIxD (kx cl X)) := by
  intro value slice pins s σ H x y v u Q I rx ry h hs
  obtain ⟨G, a, b, d, e, ha, hb, hd, g⟩ := h
  have hi : ∃ i, b = .int i := by cases a <;> cases b <;> first | exact ⟨_, rfl⟩ | (simp [ixD] at hd)
  obtain ⟨i, rfl⟩ := hi
  cases hb
  cases a <;> simp only [ixD, reduceCtorEq] at hd
  · rename_i t
    split at hd
    · rename_i hz
      cases ek : plc i t.length with
      | none => rw [ek] at hd; cases hd
      | some k =>
        rw [ek] at hd
        cases ec : t[k]? with
        | none => rw [Option.bind_some, ec] at hd; cases hd
        | some c =>
          rw [Option.bind_some, ec] at hd
          cases hd
          cases ha.nl rfl with
          | str _ ot =>
            refine ix_seq value slice pins s σ H _ _ v u Q I rx ry (.inr (.inr ⟨_, _, c, rfl, rfl, by rw [S'_length]; exact small_line hz, ?_, g _ (.str [c] ?_)⟩)) hs
            · unfold atI
              rw [S'_list, ixN_plc, ek, Option.bind_some, ec]
            · intro c' hc'
              simp at hc'; subst hc'
              exact ot _ (List.mem_of_getElem? ec)
    · cases hd
  · cases ha.nl rfl with
    | tup h1 h2 =>
      obtain ⟨w, q1, q2⟩ := atI_seq h2 hd
      exact ix_seq value slice pins s σ H _ _ v u Q I rx ry (.inr (.inl ⟨_, _, _, _, rfl, rfl, h1.ext e, q1, g _ q2⟩)) hs
  · obtain ⟨p, ws, rfl, h1, h2⟩ := ha.lst e
    obtain ⟨w, q1, q2⟩ := atI_seq h2 hd
    exact ix_seq value slice pins s σ H _ _ v u Q I rx ry (.inl ⟨_, _, _, _, rfl, rfl, .of h1, q1, g _ q2⟩) hs
  · cases ha.nl rfl with
    | ro h1 h2 =>
      obtain ⟨w, q1, q2⟩ := atI_seq h2 hd
      exact ix_seq value slice pins s σ H _ _ v u Q I rx ry (.inl ⟨_, _, _, _, rfl, rfl, h1.ext e, q1, g _ q2⟩) hs
theorem sIx_low (n : Nat) (o : Option Int) : HT.sIx n 0 o = lowD o n := by
  cases o with
  | none => rfl
  | some i =>
    show (if i < 0 then (i + n).toNat else min i.toNat n) = if 0 ≤ i then min i.toNat n else (i + n).toNat
    by_cases h : i < 0
    · rw [if_pos h, if_neg (by omega)]
    · rw [if_neg h, if_pos (by omega)]
theorem sIx_high (n : Nat) (o : Option Int) : HT.sIx n n o = highD o n := by
  cases o with
  | none => rfl
  | some i =>
    show (if i < 0 then (i + n).toNat else min i.toNat n) = if 0 ≤ i then min i.toNat n else (i + n).toNat
    by_cases h : i < 0
    · rw [if_pos h, if_neg (by omega)]
    · rw [if_neg h, if_pos (by omega)]
theorem cutV_cutL (xs : List V) (lo hi : Option Int) : cutV xs lo hi = cutL xs lo hi := by
  unfold cutV cutL
  rw [sIx_low, sIx_high, List.drop_take]
theorem cutS_cutL (s : Cs) (lo hi : Option Int) : cutS (S' s) lo hi = S' (cutL s lo hi) := by
  unfold cutS cutL
  rw [S'_length, sIx_low, sIx_high, List.drop_take, S'_list]
  rfl
theorem Reps.cut {K : Fg} {G : Hp} {xs : List D} {vs : List V} (r : Reps K G xs vs) (lo hi : Option Int) : Reps K G (cutL xs lo hi) (cutL vs lo hi) := by
  unfold cutL
  rw [← r.length]
  exact (r.take _).drop _
theorem okc_cut {s : Cs} (h : Okc s) (lo hi : Option Int) : Okc (cutL s lo hi) := fun c hc => h c (List.mem_of_mem_take (List.mem_of_mem_drop hc))
theorem cut_whole {α : Type} {xs : List α} {lo hi : Option Int} (h : HT.sIx xs.length 0 lo = 0 ∧ HT.sIx xs.length xs.length hi = xs.length) : cutL xs lo hi = xs := by
  unfold cutL
  rw [← sIx_low, ← sIx_high, h.1, h.2]; simp
def rSlD (K : Fg) : V → Option Int → Option Int → Hp → VK → Prop := fun x lo hi H Q => ∃ (G : Hp) (a d : D), Ext G H ∧ Rd' K G H a x ∧ slD a lo hi = some d ∧ Gives K G H d Q
theorem sl_D : SlR X (rSlD (kx cl X)) := by
  intro pins s σ H x v vl vu lo hi sl Q I rx i1 i2 i3 h
  obtain ⟨G, a, d, e, ha, hd, g⟩ := h
  cases a <;> simp only [slD, reduceCtorEq] at hd
  · split at hd
    · rename_i hz
      cases hd
      cases ha.nl rfl with
      | str _ ot => exact sl_str pins s σ H _ v vl vu lo hi sl Q I rx i1 i2 i3 ⟨_, rfl, by rw [S'_length]; exact small_line hz, by rw [cutS_cutL]; exact g.here (.str _ (okc_cut ot _ _))⟩
    · cases hd
  · cases hd
    cases ha.nl rfl with
    | tup h1 h2 =>
      refine sl_tupA pins s σ H _ v vl vu lo hi sl Q I rx i1 i2 i3 ⟨_, _, rfl, h1.ext e, fun hw => ?_, fun _ p hp => by rw [cutV_cutL]; exact g.newT e (h2.cut _ _) hp⟩
      rw [cut_whole (by rw [h2.length]; exact hw)] at g
      exact g.here (.tup h1 h2)
  · cases hd
    obtain ⟨p, ws, rfl, h1, h2⟩ := ha.lst e
    exact sl_list pins s σ H _ v vl vu lo hi sl Q I rx i1 i2 i3 ⟨_, _, rfl, .of h1, fun p hp => by rw [cutV_cutL]; exact g.newL e (h2.cut _ _) hp⟩
/-! ### isinstance of built-in types -/
def tyN : Ty → String
  | .int => "int" | .bool => "bool" | .str => "str" | .tup => "tuple" | .lst => "list" | .dct => "dict"
def tyD : D → String
  | .non => "NoneType" | .bl _ => "bool" | .int _ => "int" | .str _ => "str" | .tup _ => "tuple" | .lst _ => "list" | .dct _ => "dict" | .ins _ _ => "object" | .cls _ => "object" | .ro _ => "list" | .ptp _ => "tuple"
theorem kit_D (t : Ty) (d : D) (h : bareD d = true) : kitB (tyD d) (tyN t) = some (isTy t d) := by
  cases d <;> first | (cases h; done) | (cases t <;> simp only [tyD, tyN, isTy] <;> decide +kernel)
theorem tyX_D {K : Fg} {H : Hp} {d : D} {x : V} (r : Rep K H d x) (hI : bareD d = true) : TyX K H x (.type (tyD d)) := by
  cases r with
  | non => exact .base .non
  | bl b => exact .base (.bl b)
  | int i => exact .base (.int i)
  | str s _ => exact .base (.str _)
  | tup h _ =>
    rcases h with h | ⟨o, its, n, hk, hc, _⟩
    · rcases h with h | ⟨o, h⟩
      · exact .base (.tup h)
      · exact .fTuple h
    · exact .kTuple hk hc
  | lst h _ => exact .base (.lst h)
  | ro h _ => cases hI
  | cls _ => cases hI
  | dct h _ => exact .fDict h
  | ins _ _ _ _ => cases hI
  | ptp _ _ => cases hI
end
end Iv
end
section
set_option autoImplicit false
set_option maxRecDepth 100000
set_option maxHeartbeats 4000000
namespace Iv
open PySem L2
/-! ### the text and the terms: a check -/
structure Nm where
  fns : List Str
  globs : List Str
  excs : List Xc
  /-- how many defs, those of classes too -/
  nf : Nat := 0
  /-- C(..): the class's name; fields, methods, properties: the name; classmethods: the class's and the own name; classes -/
  mks : List Str := []
  sls : List Str := []
  mts : List Str := []
  prs : List Str := []
  cms : List (Str × Str) := []
  cls : List Str := []
  sub : Nat → Nat → Bool := fun _ _ => false
  /-- a lambda may be made here -/
  lam : Bool := false
  /-- defs that tell whether a call is refused: the name, the two classes -/
  rfs : List (Str × Nat × Nat) := []
/-- no parameters -/
def noP : Arguments → Bool
  | ⟨[], [], none, [], [], none, []⟩ => true
  | _ => false
/-- a name or a constant -/
def smp : Ex → Bool
  | .var _ => true
  | .str _ => true
  | .int _ => true
  | _ => false
def smpA : Ex → Bool
  | .nil => true
  | .cons a b => smp a && smpA b
  | _ => false
def notSet : Expr → Bool
  | .Set _ _ _ => false
  | _ => true
def visB (sc : Scope) (x : Str) : Bool := match sc.names.lookup x with
  | some .local => true
  | some .cell => true
  | some .free => true
  | _ => false
def locB (sc : Scope) (x : Str) : Bool := decide (sc.names.lookup x = some .local)
def glB (sc : Scope) (x : Str) : Bool := decide (sc.names.lookup x = some .globalImplicit)
def okN (x : Str) : Bool := !(x == ("__debug__" : Str)) && !(x == ("__classdict__" : Str)) && !decide (x = ("__name__" : Str))
def biName : Bi → Str
  | .len => "len" | .int => "int" | .str => "str" | .abs => "abs" | .max2 => "max" | .min2 => "min" | .sum => "sum" | .divmod => "divmod" | .tuple => "tuple" | .list => "list"
  | .all => "all" | .any => "any" | .min => "min" | .max => "max" | .bool => "bool"
def mtName : Mt → Str
  | .split => "split" | .join => "join" | .startswith => "startswith" | .lstrip => "lstrip" | .rstrip => "rstrip"
/-- no call without arguments (super) -/
def noC0 : Expr → Bool
  | .Call _ [] _ _ => false
  | _ => true
/-- a test that is read as one -/
def tOk : Ex → Bool
  | .ite _ _ _ => false
  | .and a b => tOk a && tOk b
  | .or a b => tOk a && tOk b
  | .not a => tOk a
  | .one a => tOk a
  | _ => true
def envS (sc : Scope) : Env := { scope := sc, locals := 0, globals := 0, cells := [], qual := ("" : Str) }
/-- the names of a comprehension's block -/
def rl (sc scope : Scope) : Scope := relabel scope (envS sc)
def ownN (N : List Str) (own : List Nat) : List (Str × Nat) := own.map fun i => (N.getD i ("" : Str), i)
/-- all names of a target are the block's own -/
def tgIn (own : List Nat) : Tg → Bool
  | .nm i => own.contains i
  | .tp ts => tgIn own ts
  | .nil => true
  | .cons a b => tgIn own a && tgIn own b
section
variable (nm : Nm) (N : List Str)
/-- a name that is stored: a local; of a def's own also a cell -/
def stB (fn : Bool) (sc : Scope) (x : Str) : Bool := decide (sc.names.lookup x = some .local) || (fn && decide (sc.names.lookup x = some .cell))
mutual
def isG (fn : Bool) (sc : Scope) : Tg → Expr → Bool
  | .nm i, e => match e with
    | .Name x _ => decide (N[i]? = some x) && stB fn sc x
    | _ => false
  | .tp ts, e => match e with
    | .Tuple es _ _ => isGs fn sc ts es
    | _ => false
  | _, _ => false
def isGs (fn : Bool) (sc : Scope) : Tg → List Expr → Bool
  | .nil, es => es.isEmpty
  | .cons a b, es => match es with
    | e :: es => isG fn sc a e && isGs fn sc b es
    | [] => false
  | _, _ => false
end
mutual
def isE (sc : Scope) : Ex → Expr → Bool
  | .var i, e => match e with
    | .Name x _ => decide (N[i]? = some x) && visB sc x && okN x
    | _ => false
  | .frz i, e => match e with
    | .Name x _ => decide (N[i]? = some x) && visB sc x && okN x
    | _ => false
  | .glob g, e => match e with
    | .Name x _ => decide (nm.globs[g]? = some x) && glB sc x && okN x
    | _ => false
  | .non, e => match e with
    | .Constant .none _ _ => true
    | _ => false
  | .bl b, e => match e with
    | .Constant (.bool c) _ _ => b == c
    | _ => false
  | .int i, e => match e with
    | .Constant (.int j) _ _ => decide (i = j)
    | _ => false
  | .str s, e => match e with
    | .Constant (.str x) _ _ => decide (x = S' s) && s.all fun c => decide (c < 1114112)
    | _ => false
  | .tup es, e => match e with
    | .Tuple l _ _ => isA sc es l
    | _ => false
  | .lst es, e => match e with
    | .List l _ => isA sc es l
    | _ => false
  | .newl es, e => match e with
    | .List l _ => isA sc es l
    | _ => false
  | .bin o a b, e => match e with
    | .BinOp l op r _ => decide (op = bop o) && isE sc a l && isE sc b r
    | _ => false
  | .neg a, e => match e with
    | .UnaryOp .USub l _ => isE sc a l
    | _ => false
  | .cmp o a b, e => match e with
    | .Compare l [op] [r] _ => decide (op = cop o) && isE sc a l && isE sc b r
    | _ => false
  | .chain o o' a b c, e => match e with
    | .Compare l [op, op'] [r, r'] _ => decide (op = cop o) && decide (op' = cop o') && isE sc a l && isE sc b r && isE sc c r'
    | _ => false
  | .not a, e => match e with
    | .UnaryOp .Not l _ => isE sc a l
    | _ => false
  | .and a b, e => match e with
    | .BoolOp .And (l :: r :: rs) p => isE sc a l && isE sc b (.BoolOp .And (r :: rs) p)
    | _ => false
  | .or a b, e => match e with
    | .BoolOp .Or (l :: r :: rs) p => isE sc a l && isE sc b (.BoolOp .Or (r :: rs) p)
    | _ => false
  | .one a, e => match e with
    | .BoolOp _ [l] _ => isE sc a l
    | _ => false
  | .ite c a b, e => match e with
    | .IfExp t l r _ => isE sc c t && tOk c && isE sc a l && isE sc b r
    | _ => false
  | .call f es, e => match e with
    | .Call (.Name x _) (l :: ls) [] _ => decide (nm.fns[f]? = some x) && glB sc x && okN x && isA sc es (l :: ls)
    | _ => false
  | .call0 f, e => match e with
    | .Call (.Name x _) [] [] _ => decide (nm.fns[f]? = some x) && glB sc x && okN x
    | _ => false
  | .bi b es, e => match e with
    | .Call (.Name x _) (l :: ls) [] _ => decide (x = biName b) && glB sc x && isA sc es (l :: ls)
    | _ => false
  | .isi a t, e => match e with
    | .Call (.Name x _) [l, .Name y _] [] _ => decide (x = ("isinstance" : Str)) && glB sc x && decide (y = Str.ofString (tyN t)) && glB sc y && isE sc a l
    | _ => false
  | .meth m o es, e => match e with
    | .Call (.Attribute ob x ap) (l :: ls) [] p => decide (x = mtName m) && noC0 ob && isE sc o ob && isA sc es (l :: ls) && (ap.endLine == p.line) && decide (ls.length < 20)
    | _ => false
  | .ix a i, e => match e with
    | .Subscript l r _ => isE sc a l && isE sc i r
    | _ => false
  | .sl a lo hi, e => match e with
    | .Subscript l (.Slice x y none _) _ => isE sc a l && isO sc lo x && isO sc hi y
    | _ => false
  | .comp own t it c x, e => match e with
    | .ListComp elt [⟨tg, iter, ifs, as⟩] scope _ => decide (as = 0) && isI sc it tg iter && blkC N sc scope (ownN N own) && isG N false (rl sc scope) t tg && isC (rl sc scope) c ifs && isE (rl sc scope) x elt && tgIn own t
    | _ => false
  | .vard i, e => match e with
    | .Name x _ => decide (N[i]? = some x) && visB sc x && okN x
    | _ => false
  | .varp i, e => match e with
    | .Name x _ => decide (N[i]? = some x) && visB sc x && okN x
    | _ => false
  | .ptup es, e => match e with
    | .Tuple l _ _ => isA sc es l
    | _ => false
  | .ptl a, e => match e with
    | .Call (.Name x _) [l] [] _ => decide (x = ("tuple" : Str)) && glB sc x && isE sc a l
    | _ => false
  | .dix a i, e => match e with
    | .Subscript l r _ => isE sc a l && isE sc i r
    | _ => false
  | .dgt d k z, e => match e with
    | .Call (.Attribute ob x ap) [a1, a2] [] p => decide (x = ("get" : Str)) && noC0 ob && isE sc d ob && isE sc k a1 && isE sc z a2 && (ap.endLine == p.line)
    | _ => false
  | .din ng k d, e => match e with
    | .Compare l [op] [r] _ => decide (op = if ng then .NotIn else .In) && isE sc k l && isE sc d r
    | _ => false
  | .dct0, e => match e with
    | .Dict [] [] _ => true
    | _ => false
  | .newd, e => match e with
    | .Dict [] [] _ => true
    | _ => false
  | .dcmp own t it c k v, e => match e with
    | .DictComp key val [⟨tg, iter, ifs, as⟩] scope _ => decide (as = 0) && isI sc it tg iter && blkC N sc scope (ownN N own) && isG N false (rl sc scope) t tg && isC (rl sc scope) c ifs && isE (rl sc scope) k key && isE (rl sc scope) v val && tgIn own t
    | _ => false
  | .dof a, e => match e with
    | .Call (.Name x _) [l] [] _ => decide (x = ("dict" : Str)) && glB sc x && isE sc a l
    | _ => false
  | .deq0 ng a, e => match e with
    | .Compare l [op] [.Dict [] [] _] _ => decide (op = if ng then .NotEq else .Eq) && isE sc a l
    | _ => false
  | .srt a, e => match e with
    | .Call (.Name x _) [l] [] _ => decide (x = ("sorted" : Str)) && glB sc x && isE sc a l
    | _ => false
  | .srti a, e => match e with
    | .Call (.Name x _) [.Call (.Attribute ob y ap) [] [] p] [] _ => decide (x = ("sorted" : Str)) && glB sc x && decide (y = ("items" : Str)) && noC0 ob && (ap.endLine == p.line) && isE sc a ob
    | _ => false
  | .stars a b, e => match e with
    | .List [.Starred l _, .Starred r _] _ => isE sc a l && isE sc b r
    | _ => false
  | .mk j es, e => match e with
    | .Call (.Name x _) ls [] _ => decide (nm.mks[j]? = some x) && glB sc x && okN x && isA sc es ls
    | _ => false
  | .mkc i j es, e => match e with
    | .Call (.Name x _) (l :: ls) [] _ => decide (N[i]? = some x) && visB sc x && okN x && isA sc es (l :: ls)
    | _ => false
  | .slt j o, e => match e with
    | .Attribute ob x _ => decide (nm.sls[j]? = some x) && noC0 ob && isE sc o ob
    | _ => false
  | .sltp j o, e => match e with
    | .Attribute ob x _ => decide (nm.sls[j]? = some x) && noC0 ob && isE sc o ob
    | _ => false
  | .mth j o es, e => match e with
    | .Call (.Attribute ob x ap) ls [] p => decide (nm.mts[j]? = some x) && noC0 ob && isE sc o ob && isA sc es ls && (ap.endLine == p.line) && decide (ls.length < 20)
    | _ => false
  | .prp j o, e => match e with
    | .Attribute ob x _ => decide (nm.prs[j]? = some x) && noC0 ob && isE sc o ob
    | _ => false
  | .cme j es, e => match e with
    | .Call (.Attribute (.Name c _) x ap) ls [] p => decide (nm.cms[j]? = some (c, x)) && glB sc c && okN c && isA sc es ls && (ap.endLine == p.line) && decide (ls.length < 20)
    | _ => false
  | .isc j o, e => match e with
    | .Call (.Name x _) [l, .Name y _] [] _ => decide (x = ("isinstance" : Str)) && glB sc x && decide (nm.cls[j]? = some y) && glB sc y && okN y && isE sc o l
    | _ => false
  | .olen o, e => match e with
    | .Call (.Name x _) [l] [] _ => decide (x = ("len" : Str)) && glB sc x && isE sc o l
    | _ => false
  | .obool o, e => match e with
    | .Call (.Name x _) [l] [] _ => decide (x = ("bool" : Str)) && glB sc x && isE sc o l
    | _ => false
  | .ostr o, e => match e with
    | .Call (.Name x _) [l] [] _ => decide (x = ("str" : Str)) && glB sc x && isE sc o l
    | _ => false
  | .newo o, e => match e with
    | .Call (.Name x _) [l] [] _ => decide (x = ("list" : Str)) && glB sc x && isE sc o l
    | _ => false
  | .pop i k, e => match e with
    | .Call (.Attribute (.Name x _) a ap) [l] [] p => decide (N[i]? = some x) && visB sc x && okN x && decide (a = ("pop" : Str)) && (ap.endLine == p.line) && isE sc k l
    | _ => false
  | .dits o, e => match e with
    | .Call (.Name x _) [.Call (.Attribute ob y ap) [] [] p] [] _ => decide (x = ("list" : Str)) && glB sc x && decide (y = ("items" : Str)) && noC0 ob && (ap.endLine == p.line) && isE sc o ob
    | _ => false
  | .dln o, e => match e with
    | .Call (.Name x _) [l] [] _ => decide (x = ("len" : Str)) && glB sc x && isE sc o l
    | _ => false
  | .isn ng o, e => match e with
    | .Compare l [op] [.Constant .none _ _] _ => decide (op = if ng then .IsNot else .Is) && isE sc o l
    | _ => false
  | .isb ng b o, e => match e with
    | .Compare l [op] [.Constant (.bool c) _ _] _ => decide (op = if ng then .IsNot else .Is) && (b == c) && isE sc o l
    | _ => false
  | .rpr o, e => match e with
    | .Call (.Name x _) [l] [] _ => decide (x = ("repr" : Str)) && glB sc x && isE sc o l
    | _ => false
  | .dlit2 k1 v1 k2 v2, e => match e with
    | .Dict [some (.Constant (.str x) _ _), some (.Constant (.str y) _ _)] [u, v] _ => decide (x = S' k1) && (k1.all fun c => decide (c < 1114112)) && decide (y = S' k2) && (k2.all fun c => decide (c < 1114112)) && isE sc v1 u && isE sc v2 v
    | _ => false
  | .rfc j f es, e => match e with
    | .Call (.Name x _) [.Lambda params (.Call (.Name y _) (l :: ls) [] _) scope _] [] _ => nm.lam && decide ((nm.rfs[j]?.map (·.1)) = some x) && glB sc x && okN x && noP params && LamX.lamSB sc scope && decide (nm.fns[f]? = some y) && glB scope y && okN y && smpA es && isA scope es (l :: ls)
    | _ => false
  | .comp2 own own1 t it t1 it1 x, e => match e with
    | .ListComp elt [⟨tg, iter, [], as⟩, ⟨tg1, iter1, [], as1⟩] scope _ => decide (as = 0) && decide (as1 = 0) && isI sc it tg iter && blkC N sc scope (ownN N own) && isG N false (rl sc scope) t tg && isI (rl sc scope) it1 tg1 iter1 && notSet iter1 && isG N false (rl sc scope) t1 tg1 && isE (rl sc scope) x elt && tgIn own t && tgIn own1 t1 && own1.all fun i => own.contains i
    | _ => false
  | .fjoin es, e => match e with
    | .JoinedStr (v1 :: v2 :: vs) _ => isA sc es (v1 :: v2 :: vs)
    | _ => false
  | .fmt x, e => match e with
    | .FormattedValue v c none _ => decide (c = -1) && isE sc x v
    | _ => false
  | .fmt02 x, e => match e with
    | .FormattedValue v c (some (.JoinedStr [.Constant (.str s) _ _] _)) _ => decide (c = -1) && decide (s = S' [48, 50]) && isE sc x v
    | _ => false
  | .newc own t it c x, e => match e with
    | .ListComp elt [⟨tg, iter, ifs, as⟩] scope _ => decide (as = 0) && isI sc it tg iter && blkC N sc scope (ownN N own) && isG N false (rl sc scope) t tg && isC (rl sc scope) c ifs && isE (rl sc scope) x elt && tgIn own t
    | _ => false
  | _, _ => false
def isA (sc : Scope) : Ex → List Expr → Bool
  | .nil, es => es.isEmpty
  | .cons x xs, es => match es with
    | e :: es => isE sc x e && isA sc xs es
    | [] => false
  | _, _ => false
def isO (sc : Scope) : Ex → Option Expr → Bool
  | .no, e => e.isNone
  | .one x, e => match e with
    | some e => isE sc x e
    | none => false
  | _, _ => false
/-- the tests of a comprehension -/
def isC (sc : Scope) : Ex → List Expr → Bool
  | .bl b, es => b && es.isEmpty
  | .one x, es => match es with
    | [e] => isE sc x e && tOk x
    | _ => false
  | _, _ => false
/-- what is walked -/
def isI (sc : Scope) : Ex → Expr → Expr → Bool
  | .one x, _, e => isE sc x e
  | .rng a, _, e => match e with
    | .Call (.Name x _) [l] [] _ => decide (x = ("range" : Str)) && glB sc x && isE sc a l
    | _ => false
  | .rng2 a b, _, e => match e with
    | .Call (.Name x _) [l, r] [] _ => decide (x = ("range" : Str)) && glB sc x && isE sc a l && isE sc b r
    | _ => false
  | .zip a b, tg, e => match e, tg with
    | .Call (.Name x _) [l, r] [] _, .Tuple _ _ _ => decide (x = ("zip" : Str)) && glB sc x && isE sc a l && isE sc b r
    | _, _ => false
  | .enm a, tg, e => match e, tg with
    | .Call (.Name x _) [l] [] _, .Tuple _ _ _ => decide (x = ("enumerate" : Str)) && glB sc x && isE sc a l
    | _, _ => false
  | .itm a, tg, e => match e, tg with
    | .Call (.Attribute ob x ap) [] [] p, .Tuple _ _ _ => decide (x = ("items" : Str)) && noC0 ob && (ap.endLine == p.line) && isE sc a ob
    | _, _ => false
  | _, _, _ => false
end
end
mutual
/-- where a token is out: replace may stand -/
def isTE (nm : Nm) (N : List Str) (sc : Scope) : Ex → Expr → Bool
  | .repl o c z, e => match e with
    | .Call (.Attribute ob x ap) [.Constant (.str s1) _ _, .Constant (.str s2) _ _] [] p => decide (x = ("replace" : Str)) && noC0 ob && (ap.endLine == p.line) && decide (s1 = S' [c]) && decide (s2 = S' z) && !decide (z = [c]) && (z.all fun c => decide (c < 1114112)) && isE nm N sc o ob
    | _ => false
  | .meth m o es, e => match e with
    | .Call (.Attribute ob x ap) (l :: ls) [] p => decide (x = mtName m) && noC0 ob && isTE nm N sc o ob && isA nm N sc es (l :: ls) && (ap.endLine == p.line) && decide (ls.length < 20)
    | _ => false
  | .lst es, e => match e with
    | .List l _ => isTA nm N sc es l
    | _ => false
  | a, e => isE nm N sc a e
def isTA (nm : Nm) (N : List Str) (sc : Scope) : Ex → List Expr → Bool
  | .nil, es => es.isEmpty
  | .cons x xs, es => match es with
    | e :: es => isTE nm N sc x e && isTA nm N sc xs es
    | [] => false
  | _, _ => false
end
mutual
/-- what an except suite hands back -/
def isH (nm : Nm) (N : List Str) (sc : Scope) (c : Nat) : Ex → Expr → Bool
  | .non, e => match e with
    | .Constant .none _ _ => true
    | _ => false
  | .bl b, e => match e with
    | .Constant (.bool c) _ _ => b == c
    | _ => false
  | .int i, e => match e with
    | .Constant (.int j) _ _ => decide (i = j)
    | _ => false
  | .str s, e => match e with
    | .Constant (.str x) _ _ => decide (x = S' s) && s.all fun c => decide (c < 1114112)
    | _ => false
  | .tup es, e => match e with
    | .Tuple l _ _ => isHs nm N sc c es l
    | _ => false
  | .fld i k, e => match e with
    | .Attribute (.Name x _) f _ => decide (k = 0) && decide (N[i]? = some x) && visB sc x && okN x && (List.range nm.excs.length).all fun j => !nm.sub j c || decide ((nm.excs[j]?.bind (·.fld)) = some f)
    | _ => false
  | _, _ => false
def isHs (nm : Nm) (N : List Str) (sc : Scope) (c : Nat) : Ex → List Expr → Bool
  | .nil, es => es.isEmpty
  | .cons x xs, es => match es with
    | e :: es => isH nm N sc c x e && isHs nm N sc c xs es
    | [] => false
  | _, _ => false
end
example (nm : Nm) (N : List Str) (sc : Scope) (a b : Ex) (l r : Expr) (p : Pos) (op : Operator) : isE nm N sc (.bin .add a b) (.BinOp l op r p) = (decide (op = bop .add) && isE nm N sc a l && isE nm N sc b r) := rfl
end Iv
end
section
set_option autoImplicit false
set_option maxRecDepth 100000
set_option maxHeartbeats 4000000
namespace Iv
open PySem L2
/-! ### != where there is no __ne__ -/
section
variable {prog : Program} {w : World} {A : Around} {E : Value → Shared → Prop} {s : Shared} {K : PySem.W.Frag} {x C f : Addr} {ox : Obj} {od : Option Obj} {b : Value}
theorem ne_bindO (self : Value) : bindSpecial (.builtin "object.__ne__") self = pure (.builtin "object.__ne__", [self]) :=
  (Slot.of (T := "object") (name := "__ne__") (owner := "object") (n := "__ne__") (by rw [typeLookup_type, builtinLookup_eq_fast]; kernel_rfl) (by decide +kernel) (by decide +kernel) (by decide +kernel)
    (.inl (by decide +kernel)) (by rw [isSubtype_type]; kernel_rfl)).bind self
theorem ne_entryO : entryFor table "object.__ne__" = some Builtin.«object.__ne__» := entryFor_of_tree (by kernel_rfl)
theorem ne_argsO (a b : Value) : argsOk "object.__ne__" ⟨[a, b], []⟩ := by unfold argsOk; kernel_rfl
theorem ne_callO {Q : Value → Shared → Prop} (X : K.In s.heap) (I : PySem.W.InstAt s.heap x ox C od) (hp : PySem.W.plainOver K C = true) (he : PySem.W.findIn K (.ref C) "__eq__" = some (some (.ref f))) (hf : PySem.W.isFn K (.ref f) = true) (hu : A.in1.units < cLine)
    (h : wpAny (model prog w) A.in1 (call (.ref f) [.ref x, b]) (PySem.W.BoolBack fun k s' => Q (.bool (!k)) s') E s) : wpAny (model prog w) A (call (.builtin "object.__ne__") [.ref x, b]) Q E s := by
  obtain ⟨cd, hc, ho⟩ := PySem.W.any_some hp
  have ne : cd.mro.isEmpty = false := by
    cases q : cd.mro with
    | nil => rw [q] at ho; cases ho
    | cons _ _ => rfl
  have sub : PySem.W.Looks (model prog w) s.heap (isInstance (.ref x) (.type "object")) true := I.type.andThen (PySem.W.looks_mroIn X (by unfold PySem.W.mroIn; rw [hc, Option.bind_some, if_neg (by rw [ne]; decide), PySem.W.only_has ho]))
  refine wpAny_call (codeAny_call_builtin (by decide +kernel) ne_entryO (@PySem.W.check_slot (model prog w) _ _ s "object.__ne__" "object" "__ne__" (.ref x) [b] [] _ (by decide +kernel) (by decide +kernel) sub (ne_argsO (.ref x) b) ?_))
  unfold Builtin.«object.__ne__»
  refine wpAny_bind (m := slotArgs "__ne__" 1 _) (wpAny_pure ?_)
  refine wpAny_bind (wpAny_cRoomFor hu ?_)
  refine wpAny_bind (m := callSpecialIfBound? (.ref x) (Str.ofString "__eq__") [b]) (PySem.W.ifBound_K X I he hf (wpAny_mono h (fun r s' hr => ?_) fun _ _ y => y))
  cases r <;> first | exact hr.elim | skip
  exact wpAny_bind (wpAny_pure (wpAny_pure hr))
end
/-! ### own classes: rules at the slots that stand -/
section
variable {X : Cx} {CX : CXT} {pins : List (Addr × Obj)} {σ : L2.St} {H : Hp} {s : Shared} {n : Nat} {g C a dx : Addr} {vs : List (Option V)} {sp : Sp} {E : XK}
/-- a def is called -/
theorem runC {A : Around} {Q : VK} {us : List Value} {ws : List V} (F : FnR X.prog X.w X.K X.mg X.base CX n g sp) (hr : Room n A) (e0 : Env0 X.prog X.w X.K X.mg X.base A X.stack s H) (hx : PassesAt CX X σ E) (I : Inv X pins σ H s) (rv : Vals ws us) (h : sp ws H Q E) :
    codeAny (model X.prog X.w) A (.call (.ref g) ⟨us, []⟩) (fun r s' => match r with | .ok (.ret v) => EP X pins σ Q v s' | .ok _ => False | .error e => X.xe e s') s := by
  have key := F A X.stack s H us ws Q E hr e0 rv h
  refine codeAny_mono key fun res s' hq => ?_
  match res, hq with
  | .error e, hq => exact hx pins H s e s' I hq
  | .ok (.ret u), hq => exact I.after hq
theorem runW {A : Around} {Q : VK} {us : List Value} {ws : List V} (F : FnR X.prog X.w X.K X.mg X.base CX n g sp) (hr : Room n A) (e0 : Env0 X.prog X.w X.K X.mg X.base A X.stack s H) (hx : PassesAt CX X σ E) (I : Inv X pins σ H s) (rv : Vals ws us) (h : sp ws H Q E) :
    wpAny (model X.prog X.w) A (call (.ref g) us) (EP X pins σ Q) X.xe s := wpAny_call (runC F hr e0 hx I rv h)
/-- a op b, whatever it reads -/
theorem pe_opS {l r : Expr} {pos : Pos} {op : Operator} {ta tb : TE} {rd : L2.St → V → V → Hp → VK → Prop} (ha : PE X l ta) (hb : PE X r tb)
    (ho : ∀ (pins : List (Addr × Obj)) (s : Shared) (σ : L2.St) (H : Hp) (x y : V) (v u : Value) (Q : VK), Inv X pins σ H s → RelV x v → RelV y u → rd σ x y H Q → wpAny (model X.prog X.w) X.A (binaryOp op v u) (EP X pins σ Q) X.xe s) :
    PE X (.BinOp l op r pos) (fun σ H Q => ta σ H fun x H1 => tb σ H1 fun y H2 => rd σ x y H2 Q) := by
  refine ⟨fun pins s σ H Q I h => wpAny_BinOp (binT ha hb I h fun v u s2 x y H2 I2 rx ry q => ?_)⟩
  exact ho pins s2 σ H2 x y v u Q I2 rx ry q
theorem pc_S {l r : Expr} {op : CmpOp} {ta tb : TE} {rd : L2.St → V → V → Hp → VK → Prop} (ha : PE X l ta) (hb : PE X r tb)
    (ho : ∀ (pins : List (Addr × Obj)) (s : Shared) (σ : L2.St) (H : Hp) (x y : V) (v u : Value) (Q : VK), Inv X pins σ H s → RelV x v → RelV y u → rd σ x y H Q → wpAny (model X.prog X.w) X.A (compareOp op v u) (EP X pins σ Q) X.xe s) :
    PC X op l r (fun σ H Q => ta σ H fun x H1 => tb σ H1 fun y H2 => rd σ x y H2 Q) := by
  refine ⟨fun pins s σ H Q I h => thn (ha.run pins s σ H _ I h) fun v s1 ⟨x, H1, I1, rx, q1⟩ => thn (hb.run pins s1 σ H1 _ I1 q1) fun u s2 ⟨y, H2, I2, ry, q2⟩ => ?_⟩
  exact ho pins s2 σ H2 x y v u Q I2 rx ry q2
/-- how the class at C does op: its def at g -/
structure OpOwn (K : PySem.W.Frag) (C g : Addr) (op : Operator) : Prop where
  first : PySem.W.selfFirst K C = true
  at_ : PySem.W.findIn K (.ref C) (PySem.dunder op.info.2) = some (some (.ref g))
  fn : PySem.W.isFn K (.ref g) = true
/-- .. with an int on the right -/
structure OpInt (K : PySem.W.Frag) (C g : Addr) (op : Operator) : Prop extends OpOwn K C g op where
  rc : ∃ rc : Option Value, PySem.W.findIn K (.ref C) (dunderR op.info.2) = some rc ∧ (rc = none ∨ ∃ g : Addr, rc = some (.ref g))
  ti : ∃ fo ro : Option Value, PySem.W.findIn K (.type "int") (PySem.dunder op.info.2) = some fo ∧ PySem.W.findIn K (.type "int") (dunderR op.info.2) = some ro
  sub : PySem.W.subIn K (.type "int") (.ref C) = some false
theorem bin_ins {op : Operator} {b dy : Addr} {ws : List (Option V)} {Q : VK} (k : OpOwn X.K C g op) (F : FnR X.prog X.w X.K X.mg X.base CX n g sp) (hr : Room n X.A) (hx : PassesAt CX X σ E) (I : Inv X pins σ H s) (ha : SlX.Slt H a C dx vs) (hb : SlX.Slt H b C dy ws)
    (h : sp [.ref a, .ref b] H Q E) : wpAny (model X.prog X.w) X.A (binaryOp op (.ref a) (.ref b)) (EP X pins σ Q) X.xe s := by
  obtain ⟨sl, od, _, J, _⟩ := SlX.slt_inst I ha
  obtain ⟨sl', od', _, J', _⟩ := SlX.slt_inst I hb
  obtain ⟨m, hF⟩ := I.fr
  refine PySem.W.binop_K hF I.ok.mod.kin J J'.type k.first k.at_ k.fn ?_
  exact thn (runW (us := [.ref a, .ref b]) (ws := [.ref a, .ref b]) F hr I.env0 hx I (.cons rfl (.cons rfl .nil)) h) fun w s' ⟨z, H', I', rz, qz⟩ => SlX.cmpback rz ⟨z, H', I', rz, qz⟩
theorem bin_int {op : Operator} {i : Int} {v : Value} {Q : VK} (k : OpInt X.K C g op) (F : FnR X.prog X.w X.K X.mg X.base CX n g sp) (hr : Room n X.A) (hx : PassesAt CX X σ E) (I : Inv X pins σ H s) (ha : SlX.Slt H a C dx vs) (rv : RelV (.int i) v)
    (h : sp [.ref a, .int i] H Q E) : wpAny (model X.prog X.w) X.A (binaryOp op (.ref a) v) (EP X pins σ Q) X.xe s := by
  obtain ⟨sl, od, _, J, _⟩ := SlX.slt_inst I ha
  obtain ⟨m, hF⟩ := I.fr
  obtain ⟨rc, k1, k2⟩ := k.rc
  obtain ⟨fo, ro, k3, k4⟩ := k.ti
  have rv' := rv
  obtain ⟨t, rfl⟩ := rv
  refine PySem.W.ksp_binT (T := "int") hF I.ok.mod.kin J rfl k.first k.at_ k.fn k1 k2 k3 k4 k.sub ?_
  exact thn (runW (us := [.ref a, .int i t]) (ws := [.ref a, .int i]) F hr I.env0 hx I (.cons rfl (.cons rv' .nil)) h) fun w s' ⟨z, H', I', rz, qz⟩ => SlX.cmpback rz ⟨z, H', I', rz, qz⟩
/-- a new instance: its slots are bare, its dict is empty -/
theorem runMake {f : Addr} {Q : VK} {us : List Value} {ws : List V} (M : Mk X.K C f) (F : FnR X.prog X.w X.K X.mg X.base CX n f sp) (hr : Room (n + 1) X.A) (hx : PassesAt CX X σ E) (I : Inv X pins σ H s) (rv : Vals ws us)
    (h : ∀ x dx, H x = none → H dx = none → dx ≠ x → sp (V.ref x :: ws) (upd (upd H dx (.xd [])) x (SlX.SlO x C dx [])) (fun v H2 => v = .non ∧ Q (.ref x) H2) E) :
    wpAny (model X.prog X.w) X.A (call (.ref C) us) (EP X pins σ Q) X.xe s := by
  have hne : s.heap.objs.size ≠ s.heap.objs.size + 1 := Nat.ne_of_lt (Nat.lt_succ_self _)
  have goal := h (s.heap.objs.size + 1) s.heap.objs.size (I.hok.fresh (Nat.le_succ _)) (I.hok.fresh (Nat.le_refl _)) hne
  have I2 := Inv.made (C := C) I
  have hget := (SlX.slt_at I2 (a := s.heap.objs.size + 1) (C := C) (dx := s.heap.objs.size) (vs := []) (.inl ⟨upd_same, rfl⟩))
  obtain ⟨_, sl, mA, e0, _, _, _⟩ := hget
  have I3 := SlX.inv_slot (vs' := []) (sl' := sl) (t' := s.toks) I2 (.inl ⟨upd_same, rfl⟩) (fun _ _ _ _ z => z) (fun _ z => z) e0 (SlX.SlR.nil _)
  have eH : SlX.slH (upd (upd H s.heap.objs.size (.own (s.heap.objs.size + 1))) (s.heap.objs.size + 1) (.ins C s.heap.objs.size [])) (s.heap.objs.size + 1) C s.heap.objs.size [] = upd (upd H s.heap.objs.size (.xd [])) (s.heap.objs.size + 1) (SlX.SlO (s.heap.objs.size + 1) C s.heap.objs.size []) := by
    funext b
    unfold SlX.slH
    by_cases h1 : b = s.heap.objs.size + 1
    · subst h1; rw [upd_same, upd_same]
    · by_cases h2 : b = s.heap.objs.size
      · subst h2; rw [upd_ne h1, upd_same, upd_ne h1, upd_same]
      · rw [upd_ne h1, upd_ne h2, upd_ne h1, upd_ne h2, upd_ne h1, upd_ne h2]
  rw [eH] at I3
  have r2 : Vals (V.ref (s.heap.objs.size + 1) :: ws) (Value.ref (s.heap.objs.size + 1) :: us) := .cons rfl rv
  refine wpAny_call (make_map (f := f) I.kIn M.makes M.init (beq_iff_eq.mp M.fn) ?_)
  refine codeAny_mono (F _ X.stack _ _ (Value.ref (s.heap.objs.size + 1) :: us) _ _ E (hr.make C us []) (I3.env0.make C us []) r2 goal) fun res s' hq => ?_
  match res, hq with
  | .error e, hq => exact hx pins _ _ e s' I3 hq
  | .ok (.ret u), hq =>
    obtain ⟨v, H', I4, rv', ev, q4⟩ := I3.after hq
    subst ev
    exact ⟨rv', V.ref (s.heap.objs.size + 1), H', I4, rfl, q4⟩
/-! ### the rules -/
variable {f p : Addr} {x m : Str} {e o : Expr} {es : List Expr} {ps pos apos : Pos} {ta : TE} {t : TA} {ES : L2.St → XK}
theorem pe_fn (F : FnR X.prog X.w X.K X.mg X.base CX n f sp) (hr : Room n X.A) (hg : Gl X x) (hm : X.mg x = some (.ref f)) (hk : PySem.W.keepIn X.K (.ref f) = true) (hx : ∀ σ, PassesAt CX X σ (ES σ)) (ha : PA X (e :: es) t)
    (hd : (x == ("__debug__" : Str)) = false) (h1 : starEach (e :: es) X.env = (false, eval e X.env) :: starEach es X.env) (h2 : (backTo pos (starEach es X.env)).any (·.1) = false) :
    PE X (.Call (.Name x ps) (e :: es) [] pos) (fun σ H Q => t σ H fun vs H1 => sp vs H1 Q (ES σ)) := by
  refine ⟨fun pins s σ H Q I hw => wpAny_Call_Name_kw (ld_glob I hg hm ?_ hd)⟩
  refine PySem.W.callWith_K (h₀ := X.base) I.ok.mod.kin hk ?_ h1 h2
  exact thn (ha.run pos pins s σ H _ I hw) fun us s1 ⟨vs, H1, I1, r, q⟩ => ⟨I1.kIn, runW F hr I1.env0 (hx σ) I1 r q⟩
theorem pe_fn0 (F : FnR X.prog X.w X.K X.mg X.base CX n f sp) (hr : Room n X.A) (hg : Gl X x) (hm : X.mg x = some (.ref f)) (hk : PySem.W.keepIn X.K (.ref f) = true) (hx : ∀ σ, PassesAt CX X σ (ES σ)) (hd : (x == ("__debug__" : Str)) = false) :
    PE X (.Call (.Name x ps) [] [] pos) (fun σ H Q => sp [] H Q (ES σ)) := by
  refine ⟨fun pins s σ H Q I hw => wpAny_Call_Name_kw (ld_glob I hg hm ?_ hd)⟩
  exact PySem.W.callWith_K0 I.kIn hk (runW (us := []) F hr I.env0 (hx σ) I .nil hw)
/-- C(..) -/
theorem pe_mk (M : Mk X.K C f) (F : FnR X.prog X.w X.K X.mg X.base CX n f sp) (hr : Room (n + 1) X.A) (hg : Gl X x) (hm : X.mg x = some (.ref C)) (hx : ∀ σ, PassesAt CX X σ (ES σ)) (ha : PA X (e :: es) t)
    (hd : (x == ("__debug__" : Str)) = false) (h1 : starEach (e :: es) X.env = (false, eval e X.env) :: starEach es X.env) (h2 : (backTo pos (starEach es X.env)).any (·.1) = false) :
    PE X (.Call (.Name x ps) (e :: es) [] pos) (fun σ H Q => t σ H fun vs H1 => ∀ x dx, H1 x = none → H1 dx = none → dx ≠ x → sp (V.ref x :: vs) (upd (upd H1 dx (.xd [])) x (SlX.SlO x C dx [])) (fun v H2 => v = .non ∧ Q (.ref x) H2) (ES σ)) := by
  refine ⟨fun pins s σ H Q I hw => wpAny_Call_Name_kw (ld_glob I hg hm ?_ hd)⟩
  refine PySem.W.callWith_K (h₀ := X.base) I.ok.mod.kin M.kp ?_ h1 h2
  exact thn (ha.run pos pins s σ H _ I hw) fun us s1 ⟨vs, H1, I1, r, q⟩ => ⟨I1.kIn, runMake M F hr (hx σ) I1 r q⟩
theorem pe_mk0 (M : Mk X.K C f) (F : FnR X.prog X.w X.K X.mg X.base CX n f sp) (hr : Room (n + 1) X.A) (hg : Gl X x) (hm : X.mg x = some (.ref C)) (hx : ∀ σ, PassesAt CX X σ (ES σ)) (hd : (x == ("__debug__" : Str)) = false) :
    PE X (.Call (.Name x ps) [] [] pos) (fun σ H Q => ∀ x dx, H x = none → H dx = none → dx ≠ x → sp [V.ref x] (upd (upd H dx (.xd [])) x (SlX.SlO x C dx [])) (fun v H2 => v = .non ∧ Q (.ref x) H2) (ES σ)) := by
  refine ⟨fun pins s σ H Q I hw => wpAny_Call_Name_kw (ld_glob I hg hm ?_ hd)⟩
  exact PySem.W.callWith_K0 I.kIn M.kp (runMake (us := []) M F hr (hx σ) I .nil hw)
/-- how a call of a method is read -/
theorem meth_eval {args : List Expr} {env : Env} (hb : attributeBase o m env (eval o env) = eval o env) (hf : methodCallForm (args.length + ([] : List Keyword).length) (backTo pos (starEach args env)) (backToKw pos (keywordEach [] env)) = true) (hl : (apos.endLine == pos.line) = true) :
    eval (.Call (.Attribute o m apos) args [] pos) env = (do
      let ov ← eval o env
      standAt apos.atName
      let (f, first) ← holding [ov] (getMethod ov m (do return (← importBound o env).getD true))
      callWith pos f first (backTo pos (starEach args env)) (backToKw pos (keywordEach [] env))) := by
  have e : eval (.Call (.Attribute o m apos) args [] pos) env = (do
    let ov ← attributeBase o m env (eval o env)
    standAt apos.atName
    methodCall o m apos pos env ov (args.length + ([] : List Keyword).length) (backTo pos (starEach args env)) (backToKw pos (keywordEach [] env))) := by rfl
  rw [e, hb]
  unfold methodCall
  rw [hf]
  unfold methodCallPos calleeOf
  simp only [hl, if_true, Bool.not_true, Bool.false_or, pure_bind]
/-- o.m(..) of a slotted instance -/
theorem pe_mth (he : PE X o ta) (c : SlX.SCls X.K C) (hm : Meth X.K C m g) (F : FnR X.prog X.w X.K X.mg X.base CX n g sp) (hr : Room n X.A) (hx : ∀ σ, PassesAt CX X σ (ES σ)) (ha : PA X (e :: es) t)
    (h1 : starEach (e :: es) X.env = (false, eval e X.env) :: starEach es X.env) (h2 : (backTo pos (starEach es X.env)).any (·.1) = false) (hb : attributeBase o m X.env (eval o X.env) = eval o X.env)
    (hf : methodCallForm ((e :: es).length + ([] : List Keyword).length) (backTo pos (starEach (e :: es) X.env)) (backToKw pos (keywordEach [] X.env)) = true) (hl : (apos.endLine == pos.line) = true) :
    PE X (.Call (.Attribute o m apos) (e :: es) [] pos) (fun σ H Q => ta σ H fun x H1 => ∃ a dx vs, x = .ref a ∧ SlX.Slt H1 a C dx vs ∧ t σ H1 fun ws H2 => sp (x :: ws) H2 Q (ES σ)) := by
  refine ⟨fun pins s σ H Q I hw => PySem.W.methodCall_KW (thn (he.run pins s σ H _ I hw) fun u s1 ⟨x, H1, I1, rx, a, dx, vs, ex, hsl, q⟩ => ?_) (meth_eval hb hf hl)⟩
  subst ex
  obtain rfl : u = Value.ref a := rx
  refine SlX.getmethsl_ok I1 hsl c hm (PySem.W.callWith_K (first := [.ref a]) (h₀ := X.base) I.ok.mod.kin hm.kp ?_ h1 h2)
  exact thn (ha.run pos pins s1 σ H1 _ I1 q) fun us s2 ⟨ws, H2, I2, r, q2⟩ => ⟨I2.kIn, runW (us := .ref a :: us) (ws := .ref a :: ws) F hr I2.env0 (hx σ) I2 (.cons rfl r) q2⟩
theorem pe_mth0 (he : PE X o ta) (c : SlX.SCls X.K C) (hm : Meth X.K C m g) (F : FnR X.prog X.w X.K X.mg X.base CX n g sp) (hr : Room n X.A) (hx : ∀ σ, PassesAt CX X σ (ES σ))
    (hb : attributeBase o m X.env (eval o X.env) = eval o X.env) (hl : (apos.endLine == pos.line) = true) :
    PE X (.Call (.Attribute o m apos) [] [] pos) (fun σ H Q => ta σ H fun x H1 => ∃ a dx vs, x = .ref a ∧ SlX.Slt H1 a C dx vs ∧ sp [x] H1 Q (ES σ)) := by
  refine ⟨fun pins s σ H Q I hw => PySem.W.methodCall_KW (thn (he.run pins s σ H _ I hw) fun u s1 ⟨x, H1, I1, rx, a, dx, vs, ex, hsl, q⟩ => ?_) (meth_eval hb rfl hl)⟩
  subst ex
  obtain rfl : u = Value.ref a := rx
  refine SlX.getmethsl_ok I1 hsl c hm (PySem.W.callWith_K0 (first := [.ref a]) I1.kIn hm.kp ?_)
  exact runW (us := [.ref a]) (ws := [.ref a]) F hr I1.env0 (hx σ) I1 (.cons rfl .nil) q
/-- C.m(..), m a classmethod -/
theorem runCm {q : Addr} {Q : VK} {us : List Value} {ws : List V} (F : FnR X.prog X.w X.K X.mg X.base CX n g sp) (hr : Room n X.A) (hx : PassesAt CX X σ E) (I : Inv X ((q, PySem.W.methodObj (.ref g) (.ref C)) :: pins) σ H s) (r : Vals ws us)
    (h : sp (.ref C :: ws) H Q E) : wpAny (model X.prog X.w) X.A (call (.ref q) us) (EP X pins σ Q) X.xe s := by
  have key : wpAny (model X.prog X.w) X.A (call (.ref q) us) (EP X ((q, PySem.W.methodObj (.ref g) (.ref C)) :: pins) σ Q) X.xe s :=
    wpAny_call (PySem.W.method_call (ClX.pin_at I) (runC (us := .ref C :: us) (ws := .ref C :: ws) F hr I.env0 hx I (.cons rfl r) h))
  exact thn key fun _ _ y => ClX.unpinE y
theorem pe_cm {mc : Value} (he : PE X o ta) (rd : ClX.CRead X.K C mc) (c : ClX.CMet X.K C mc m p g) (F : FnR X.prog X.w X.K X.mg X.base CX n g sp) (hr : Room n X.A) (hx : ∀ σ, PassesAt CX X σ (ES σ)) (ha : PA X (e :: es) t)
    (h1 : starEach (e :: es) X.env = (false, eval e X.env) :: starEach es X.env) (h2 : (backTo pos (starEach es X.env)).any (·.1) = false) (hb : attributeBase o m X.env (eval o X.env) = eval o X.env)
    (hf : methodCallForm ((e :: es).length + ([] : List Keyword).length) (backTo pos (starEach (e :: es) X.env)) (backToKw pos (keywordEach [] X.env)) = true) (hl : (apos.endLine == pos.line) = true) :
    PE X (.Call (.Attribute o m apos) (e :: es) [] pos) (fun σ H Q => ta σ H fun x H1 => x = .ref C ∧ t σ H1 fun ws H2 => sp (.ref C :: ws) H2 Q (ES σ)) := by
  refine ⟨fun pins s σ H Q I hw => PySem.W.methodCall_KW (thn (he.run pins s σ H _ I hw) fun u s1 ⟨x, H1, I1, rx, ex, q⟩ => ?_) (meth_eval hb hf hl)⟩
  subst ex
  obtain rfl : u = Value.ref C := rx
  refine ClX.getmethcm_ok I1 rd c fun s2 I2 => ClX.callwith_cm I2 (ClX.base_none I1 (Nat.le_refl _)) c.fi ?_ h1 h2
  exact thn (ha.run pos _ s2 σ H1 _ I2 q) fun us s3 ⟨ws, H2, I3, rv, q2⟩ => ⟨⟨ClX.pin_at I3, I3.kIn⟩, runCm F hr (hx σ) I3 rv q2⟩
theorem pe_cm0 {mc : Value} (he : PE X o ta) (rd : ClX.CRead X.K C mc) (c : ClX.CMet X.K C mc m p g) (F : FnR X.prog X.w X.K X.mg X.base CX n g sp) (hr : Room n X.A) (hx : ∀ σ, PassesAt CX X σ (ES σ))
    (hb : attributeBase o m X.env (eval o X.env) = eval o X.env) (hl : (apos.endLine == pos.line) = true) :
    PE X (.Call (.Attribute o m apos) [] [] pos) (fun σ H Q => ta σ H fun x H1 => x = .ref C ∧ sp [.ref C] H1 Q (ES σ)) := by
  refine ⟨fun pins s σ H Q I hw => PySem.W.methodCall_KW (thn (he.run pins s σ H _ I hw) fun u s1 ⟨x, H1, I1, rx, ex, q⟩ => ?_) (meth_eval hb rfl hl)⟩
  subst ex
  obtain rfl : u = Value.ref C := rx
  refine ClX.getmethcm_ok I1 rd c fun s2 I2 => PySem.W.callWith_M0 (K := X.K) (first := []) (self := .ref C) ⟨ClX.pin_at I2, I2.kIn⟩ c.fi ?_
  exact runCm (us := []) (ws := []) F hr (hx σ) I2 .nil q
/-! ### ==, len, bool -/
theorem eq_ins {op : CmpOp} {b C' dy : Addr} {ws : List (Option V)} {Q : VK} (hop : ∀ a b, compareOp op a b = richCompare op a b) (hs : PySem.W.findIn X.K (.ref C) (cmpInfo op).2.1 = some (some (.ref g))) (hf : PySem.W.isFn X.K (.ref g) = true) (hn : PySem.W.notFirst X.K C (.ref C') = true)
    (F : FnR X.prog X.w X.K X.mg X.base CX n g sp) (hr : Room n X.A) (hx : PassesAt CX X σ E) (I : Inv X pins σ H s) (ha : SlX.Slt H a C dx vs) (hb : SlX.Slt H b C' dy ws)
    (h : sp [.ref a, .ref b] H Q E) : wpAny (model X.prog X.w) X.A (compareOp op (.ref a) (.ref b)) (EP X pins σ Q) X.xe s := by
  obtain ⟨sl, od, _, J, _⟩ := SlX.slt_inst I ha
  obtain ⟨sl', od', _, J', _⟩ := SlX.slt_inst I hb
  obtain ⟨m, hF⟩ := I.fr
  rw [hop]
  refine PySem.W.cmp_K (op := op) (tb := .ref C') hr.units0 hF I.ok.mod.kin J J'.type hn hs hf ?_
  exact thn (runW (us := [.ref a, .ref b]) (ws := [.ref a, .ref b]) F hr I.env0 hx I (.cons rfl (.cons rfl .nil)) h) fun w s' ⟨z, H', I', rz, qz⟩ => SlX.cmpback rz ⟨z, H', I', rz, qz⟩
theorem len_ins {Q : VK} (hs : PySem.W.findIn X.K (.ref C) "__len__" = some (some (.ref g))) (hf : PySem.W.isFn X.K (.ref g) = true) (F : FnR X.prog X.w X.K X.mg X.base CX n g sp) (hr : Room (n + 1) X.A) (hx : PassesAt CX X σ E) (I : Inv X pins σ H s) (ha : SlX.Slt H a C dx vs)
    (h : sp [.ref a] H (fun z H' => ∃ i : Int, z = .int i ∧ (0 ≤ i ∧ i < 2 ^ 63) ∧ Q (.int i) H') E) : wpAny (model X.prog X.w) X.A (call (.builtin "len") [.ref a]) (EP X pins σ Q) X.xe s := by
  obtain ⟨sl, od, _, J, _⟩ := SlX.slt_inst I ha
  obtain ⟨m, hF⟩ := I.fr
  refine PySem.W.len_K hF I.ok.mod.kin J hs hf ?_
  refine thn (runW (us := [.ref a]) (ws := [.ref a]) F hr.in1 I.env0.in1 hx I (.cons rfl .nil) h) fun w s' ⟨z, H', I', rz, i, ei, hi, qz⟩ => ?_
  subst ei
  obtain ⟨t, rfl⟩ := rz
  exact ⟨hi, .int i, H', I'.tok _, ⟨_, rfl⟩, qz⟩
theorem ne_ins {b dy : Addr} {ws : List (Option V)} {Q : VK} (k1 : PySem.W.findIn X.K (.ref C) "__eq__" = some (some (.ref g))) (k2 : PySem.W.isFn X.K (.ref g) = true) (k3 : PySem.W.findIn X.K (.ref C) "__ne__" = some (some (.builtin "object.__ne__"))) (k4 : PySem.W.plainOver X.K C = true)
    (F : FnR X.prog X.w X.K X.mg X.base CX n g sp) (hr : Room (n + 1) X.A) (hx : PassesAt CX X σ E) (I : Inv X pins σ H s) (ha : SlX.Slt H a C dx vs) (hb : SlX.Slt H b C dy ws)
    (h : sp [.ref a, .ref b] H (fun z H' => ∃ k, z = .bl k ∧ Q (.bl (!k)) H') E) : wpAny (model X.prog X.w) X.A (compareOp .NotEq (.ref a) (.ref b)) (EP X pins σ Q) X.xe s := by
  obtain ⟨sl, od, _, J, _⟩ := SlX.slt_inst I ha
  obtain ⟨sl', od', _, J', _⟩ := SlX.slt_inst I hb
  have called : wpAny (model X.prog X.w) X.A (call (.builtin "object.__ne__") [.ref a, .ref b]) (EP X pins σ fun z H' => ∃ k, z = .bl k ∧ Q z H') X.xe s := by
    refine ne_callO I.kIn J k4 k1 k2 hr.in1.units0 ?_
    refine thn (runW (us := [.ref a, .ref b]) (ws := [.ref a, .ref b]) F hr.in1 I.env0.in1 hx I (.cons rfl (.cons rfl .nil)) h) fun w s' ⟨z, H', I', rz, k, ek, qz⟩ => ?_
    subst ek
    cases (show w = Value.bool k from rz)
    exact ⟨.bl (!k), H', I', rfl, _, rfl, qz⟩
  have one : wpAny (model X.prog X.w) X.A (tryCompare (.ref a) (cmpInfo .NotEq).2.1 (.ref b)) (fun r s' => ∃ v, r = some v ∧ EP X pins σ Q v s') X.xe s := by
    unfold tryCompare
    refine wpAny_bind ?_
    simp only [callSpecialIfBound?, bindSpecialIfBound?]
    refine wpAny_holding (wpAny_bind (wpAny_bind (wpAny_bind (J.type.here ((PySem.W.looks_findIn I.kIn k3).here ?_)))))
    have last : wpAny (model X.prog X.w) X.A (call (.builtin "object.__ne__") ([.ref a] ++ [.ref b]) >>= fun v => pure (some v)) (fun r s' => wpAny (model X.prog X.w) X.A (match r with
      | some .notImplemented | none => pure none
      | some v => pure (some v)) (fun r s' => ∃ v, r = some v ∧ EP X pins σ Q v s') X.xe s') X.xe s := by
      refine wpAny_bind (thn called fun v s' ⟨z, H', I', rz, k, ek, qz⟩ => wpAny_pure ?_)
      subst ek
      cases (show v = Value.bool k from rz)
      exact wpAny_pure ⟨_, rfl, .bl k, H', I', rfl, qz⟩
    refine wpAny_bind (wpAny_askSetting (wpAny_ite ?_))
    split
    · exact wpAny_bind (by rw [ne_bindO]; exact wpAny_pure (wpAny_pure (by exact last)))
    · exact wpAny_tryCatch (wpAny_bind (by rw [ne_bindO]; exact wpAny_pure (wpAny_pure (by exact last))))
  show wpAny (model X.prog X.w) X.A (richCompare .NotEq (.ref a) (.ref b)) (EP X pins σ Q) X.xe s
  unfold richCompare
  simp only [oneThing_ref]
  refine wpAny_holding (wpAny_bind (wpAny_cRoomFor hr.units0 ?_))
  refine wpAny_bind (J.type.here (wpAny_bind (J'.type.here ?_)))
  simp only [bne_self_eq_false, Bool.false_eq_true, if_false]
  refine wpAny_bind (wpAny_pure ?_)
  simp only [Bool.false_eq_true, if_false]
  refine wpAny_bind (wpAny_mono one (fun r s' z => ?_) fun _ _ e => e)
  obtain ⟨v, rfl, hq⟩ := z
  exact wpAny_pure hq
end
end Iv
end
section
set_option autoImplicit false
set_option maxRecDepth 100000
set_option maxHeartbeats 4000000
namespace Iv
open PySem PySem.W PySem.Calls PyProof.Rows
/-! ### an own error: super().__init__(str(x)), then self.f = x -/
/-- what str() takes here -/
def StrOk (v : Value) : Prop := v = .none ∨ (∃ b, v = .bool b) ∨ (∃ i t, v = .int i t ∧ i.natAbs.log2 < 1920) ∨ ∃ x t, v = .str x t
section
variable {prog : Program} {w : World} {A : Around} {E : Value → Shared → Prop} {s : Shared}
theorem str_any {v : Value} {Q : Value → Shared → Prop} (h : StrOk v) (q : ∀ x t k, Q (.str x t) { s with toks := k }) : wpAny (model prog w) A (call (.type "str") [v]) Q E s := by
  rcases h with rfl | ⟨b, rfl⟩ | ⟨i, t, rfl, hz⟩ | ⟨x, t, rfl⟩
  · exact PySem.P.str_of_none (q _ _ _)
  · exact PySem.P.str_of_bool (q _ _ _)
  · exact PySem.P.str_of_int hz (q _ _ _)
  · exact PySem.P.str_of_str (q _ _ s.toks)
end
/-- a built-in base -/
structure BasF (B newId i : String) (bmB : List Value) : Prop where
  fb : ExcBaseFacts B newId i bmB
  sf : StoreFacts B bmB "object.__setattr__" "object"
  kf : KxsFacts B i
/-- the def __init__ of such a class -/
structure IniK (prog : Program) (K : Frag) (C fI : Addr) (f : Str) where
  oc : Value
  od : Option Addr
  osl : Array (Option Value)
  name : Str
  qual : Str
  pa : Arg
  pb : Arg
  kd : List Arg
  doc : Value
  pm : Value
  an : Option Addr
  kV : Value
  ct : Value
  scope : Scope
  params : Arguments
  cc : Addr
  cda : Addr
  vs : Array Value
  file : Str
  tf : Tok
  ccl : Value
  cdd : Option Addr
  ccs : Array (Option Value)
  cl : Value
  cld : Option Addr
  csl : Array (Option Value)
  p : Fin 12 → Pos
  at_ : K.lookup fI = some ⟨oc, od, .func (ksFn name qual params [.Expr (.Call (.Attribute (.Call (.Name "super" (p 0)) [] [] (p 1)) "__init__" (p 2)) [.Call (.Name "str" (p 3)) [.Name pb.arg (p 4)] [] (p 5)] [] (p 6)) (p 7),
    .Assign [.Attribute (.Name pa.arg (p 8)) f (p 9)] (.Name pb.arg (p 10)) (p 11)] scope .none kV doc pm an (.ref cda) ct cc), osl⟩
  pos : params.posonlyargs = []
  args : params.args = [pa, pb]
  kwo : params.kwonlyargs = []
  va : params.vararg = none
  kwa : params.kwarg = none
  ne : pa.arg ≠ pb.arg
  da : (pa.arg == ("__debug__" : Str)) = false
  db : (pb.arg == ("__debug__" : Str)) = false
  code : codeIn K (.ref cda) qual = true
  rec_ : K.lookup cda = some ⟨ccl, cdd, .fields vs, ccs⟩
  hvs : vs[2]? = some (.str file tf)
  hfile : ((prog.main.file : Str) == file) = true
  cell : K.lookup cc = some ⟨cl, cld, .cell (some (.ref C)), csl⟩
  kind : scope.kind = .function
  co : scope.isCoroutine = false
  gen : scope.isGenerator = false
  nocell : ∀ x ∈ scope.names, x.2 ≠ .cell
  la : scope.names.lookup pa.arg = some .local
  lb : scope.names.lookup pb.arg = some .local
  ls : scope.names.lookup ("super" : Str) = some .globalImplicit
  lt : scope.names.lookup ("str" : Str) = some .globalImplicit
  lc : scope.names.lookup ("__class__" : Str) = some .free
  ln : ((p 2).endLine == (p 6).line) = true
/-- the class -/
structure XnK (prog : Program) (K : Frag) (B newId i : String) (bmB : List Value) (C : Addr) (f : Str) : Prop where
  ini : excInitIn K C bmB newId = true
  keep : keepIn K (.ref C) = true
  over : excOver K C bmB = true
  dict : hasDictIn K C = true
  sub : subIn K (.ref C) (.type "BaseException") = some true
  ty : typeIn K (.ref C) = some (.type "type")
  sa : findIn K (.ref C) "__setattr__" = some (some (.builtin "object.__setattr__"))
  tk : takerIn K C f = some none
  sB : subIn K (.ref C) (.type B) = some true
  mro : mroIn K C (.ref C) = some true
  gs : nsIn K mainGlobals "super" = some none
  gt : nsIn K mainGlobals "str" = some none
  up : ks_superIn K C C "__init__" = some (some (.builtin i))
  op : nsIn K cStatics "thirdparty.any" = some none
  top : (prog.main.scope.names.lookup ("super" : Str)).isSome = false
  fI : ∃ a, findIn K (.ref C) "__init__" = some (some (.ref a)) ∧ isFn K (.ref a) = true ∧ Nonempty (IniK prog K C a f)
section
variable {prog : Program} {w : World} {A : Around} {E : Value → Shared → Prop} {s : Shared} {K : Frag} {B newId i : String} {bmB : List Value} {C : Addr} {f : Str} {mg mb : Str → Option Value}
/-- the state behind the making -/
def MadeX (C : Addr) (f : Str) (v : Value) (hp : Heap) (u : Value) (s' : Shared) (s : Shared) : Prop :=
  ∃ (e t d : Addr), u = .ref e ∧ s'.os = s.os ∧ s'.gens = s.gens ∧ (∀ b o, hp.get? b = some o → s'.heap.get? b = some o) ∧ hp.get? e = none ∧ hp.objs.size ≤ e ∧ hp.objs.size ≤ d ∧ e ≠ d ∧
    s'.heap.get? e = some (excObj C t (some d) .none) ∧ s'.heap.Ns1 d (fun y => if y = f then some v else none)
theorem ns1_one {h : Heap} {d : Addr} {hs : Int} {t : Tok} {v : Value} {n : Nat} (e : h.get? d = some (dictOf [⟨hs, .str f t, v⟩] n)) : h.Ns1 d (fun y => if y = f then some v else none) := by
  refine ⟨_, #[⟨hs, .str f t, v⟩], n, e, rfl, ?_, ?_, fun y => ?_⟩
  · intro x hx
    simp at hx
    subst hx
    exact ⟨f, t, rfl⟩
  · unfold UniqKeys
    simp
  · unfold nsFind findBy
    by_cases hy : y = f
    · subst hy
      simp [Value.isStr]
    · have : ((Value.str f t).isStr y) = false := by simp [Value.isStr]; exact fun z => hy z.symm
      simp [this, hy]
theorem ld_fn {env : Env} {m : Str → Option Value} {x : Str} {v : Value} {pos : Pos} {Q : Value → Shared → Prop} (hk : env.scope.kind = .function) (hl : env.kindOf x = some .local) (hd : (x == ("__debug__" : Str)) = false) (hn : s.heap.Ns env.locals m) (hv : m x = some v) (q : Q v s) :
    wpAny (model prog w) A (eval (.Name x pos) env) Q E s := wpAny_Name (wpAny_loadName_local hk hl hn hv q) hd
theorem meth1_eq {o : Expr} {name g x : Str} {apos pos p1 p2 p3 : Pos} {env : Env} (hl : (apos.endLine == pos.line) = true) :
    eval (.Call (.Attribute o name apos) [.Call (.Name g p1) [.Name x p2] [] p3] [] pos) env = (do
      let ov ← attributeBase o name env (eval o env)
      standAt apos.atName
      let r ← holding [ov] (getMethod ov name (do return (← importBound o env).getD true))
      callWith pos r.1 r.2 (backTo pos (starEach [.Call (.Name g p1) [.Name x p2] [] p3] env)) []) := by
  have e1 : methodCallForm (([.Call (.Name g p1) [.Name x p2] [] p3] : List Expr).length + ([] : List Keyword).length) (backTo pos (starEach [.Call (.Name g p1) [.Name x p2] [] p3] env)) (backToKw pos (keywordEach [] env)) = true := rfl
  have e2 : methodCallPos true o env apos pos = pure pos := by unfold methodCallPos; simp [hl]
  rw [arm_eval_Call]
  unfold methodCall
  rw [e1, e2]
  simp only [calleeOf, if_true, pure_bind]
  rfl
/-- super() in such a def -/
theorem sup_node {h₀ : Heap} {L fI e : Addr} {m : Str → Option Value} {news : List (Addr × Obj)} {ox : Obj} {odx : Option Obj} {attr : Str} {whole : Sem Value} {body : List Stmt} {Q : Value → Shared → Prop} (N : XnK prog K B newId i bmB C f) (I : IniK prog K C fI f) (F : Fr h₀ L s.heap m) (X₀ : K.In h₀) (W : News h₀ L s.heap news)
    (hg : h₀.Ns mainGlobals mg) (hb : h₀.Ns builtinsNs mb) (hbl : ∀ x : Str, x ≠ "__name__" → mb x = bootBuiltins x) (hv : m I.pa.arg = some (.ref e)) (J : PySem.W.InstAt s.heap e ox C odx) (hat : (attr == ("__class__" : Str)) = false)
    (q : ∀ so h', Fr h₀ L h' m → News h₀ L h' ((so, ks_superObj C e C) :: news) → (∀ p ∈ news, p.1 < so) → Q (.ref so) { s with heap := h' }) :
    PySem.wpAt (model prog w) A (.func body (ksEnv I.qual I.scope L fI (.ref I.cda) I.cc)) (attributeBase (.Call (.Name "super" (I.p 0)) [] [] (I.p 1)) attr (ksEnv I.qual I.scope L fI (.ref I.cda) I.cc) whole) Q E s := by
  have X : K.In s.heap := X₀.keeps F.keep
  cases hD : clsIn K C with
  | none =>
    have z := N.mro
    unfold mroIn at z
    rw [hD] at z
    cases z
  | some cd =>
    obtain ⟨oD, hD1, hD2⟩ : ∃ oD, s.heap.get? C = some oD ∧ oD.data = .cls cd := by
      unfold clsIn at hD
      split at hD
      · rename_i c0 d0 cd' sl ho
        cases hD
        exact ⟨_, X _ _ ho, rfl⟩
      · cases hD
    obtain ⟨hh, g, d, t, os⟩ := s
    have hp : (I.params.posonlyargs ++ I.params.args).head? = some I.pa := by rw [I.pos, I.args]; rfl
    refine ks_wpAt_super_base I.ls I.lc hat rfl (X _ _ I.at_) rfl hp rfl (X _ _ I.rec_) rfl I.hvs I.hfile N.top ?_
    refine ks_loadName_global I.kind I.ls ?_
    refine loadGlobal_builtin (hg.keeps F.keep) (mg_none_of X₀ hg N.gs) (hb.keeps F.keep) ((hbl _ (by decide +kernel)).trans (show bootBuiltins "super" = some (.type "super") by first | rfl | decide +kernel)) ⟨rfl, ?_⟩
    refine wpAny_loadName_free I.kind I.lc rfl ⟨_, X _ _ I.cell, rfl⟩ ?_
    refine wpAny_loadName_local I.kind I.la F.ns hv ?_
    refine ks_wpAny_isType_cls hD1 hD2 ⟨rfl, ?_⟩
    refine ks_wpAny_call_super hD1 hD2 J.at_ J.cls (fun c z => ?_) (looks_mroIn X N.mro) (fun h' z k => ?_)
    · have y := J.no
      unfold notCls at y
      rw [z] at y
      exact Bool.noConfusion y
    · obtain ⟨F', N', l'⟩ := ks_newsPush (s := ⟨hh, g, d, t, os⟩) F W rfl z k
      exact q _ _ F' N' l'
/-- the class is called -/
theorem make_X {v : Value} {Q : Value → Shared → Prop} (BF : BasF B newId i bmB) (N : XnK prog K B newId i bmB C f) (X : K.In s.heap) (hg : s.heap.Ns mainGlobals mg) (hb : s.heap.Ns builtinsNs mb) (hbl : ∀ x : Str, x ≠ "__name__" → mb x = bootBuiltins x) (lim : s.heap.NoLimit)
    (hr : A.depth + 1 < recursionLimit) (hv : StrOk v) (q : ∀ u s', MadeX C f v s.heap u s' s → Q u s') : wpAny (model prog w) A (call (.ref C) [v]) Q E s := by
  obtain ⟨fI, hi, hf, ⟨I⟩⟩ := N.fI
  obtain ⟨nm, N', qn, bs, bm, hdct, sn, sub, ab, col, dd, k0, k1, k2, k3, k5, hC, hT⟩ := excInit_of X N.ini
  have hfo := X _ _ I.at_
  have hi' : Looks (model prog w) s.heap (typeLookup (.ref C) "__init__") (some (.ref fI)) := looks_findIn X hi
  have hcls : I.oc = .type "function" := by
    have z := hf
    unfold isFn typeIn at z
    rw [beq_iff_eq] at z
    have z' : (K.lookup fI).map (·.cls) = some (.type "function") := z
    rw [I.at_] at z'
    exact Option.some.inj z'
  obtain ⟨hp, g, d, tk, os⟩ := s
  have hz : ([v] : List Value).length ≤ sizeLine := by show 1 ≤ sizeLine; rw [sizeLine_eq]; omega
  refine wpAny_call (PX.call_own BF.fb hT hC hi' (fun self => exc_bind hfo hcls self) hz ?_)
  have kk : ∀ b o, hp.get? b = some o → ((hp.push (kdv_tup [v])).push (PX.excO C hp.objs.size)).get? b = some o := fun b o z => Heap.get?_push_of_some _ (Heap.get?_push_of_some _ z)
  have he1 : ((hp.push (kdv_tup [v])).push (PX.excO C hp.objs.size)).get? (hp.objs.size + 1) = some (PX.excO C hp.objs.size) := by heap_get
  have he2 : ((hp.push (kdv_tup [v])).push (PX.excO C hp.objs.size)).get? hp.objs.size = some (kdv_tup [v]) := by heap_get
  have hbd : BindsTo (⟨(hp.push (kdv_tup [v])).push (PX.excO C hp.objs.size), g, d, tk, os⟩ : Shared) (ksFn I.name I.qual I.params [.Expr (.Call (.Attribute (.Call (.Name "super" (I.p 0)) [] [] (I.p 1)) "__init__" (I.p 2)) [.Call (.Name "str" (I.p 3)) [.Name I.pb.arg (I.p 4)] [] (I.p 5)] [] (I.p 6)) (I.p 7),
    .Assign [.Attribute (.Name I.pa.arg (I.p 8)) f (I.p 9)] (.Name I.pb.arg (I.p 10)) (I.p 11)] I.scope .none I.kV I.doc I.pm I.an (.ref I.cda) I.ct I.cc) ⟨[.ref (hp.objs.size + 1), v], []⟩ [(I.pa.arg, .ref (hp.objs.size + 1)), (I.pb.arg, v)] := by
    refine BindsTo.of_eq ?_
    unfold bindArgs
    simp only [ksFn, fnX, I.pos, I.kwo, I.kwa, I.va, I.args, List.map_nil, List.map_cons, List.nil_append, List.append_nil]
    have e3 : (notAStandIn Value.none : Sem Unit) = pure () := rfl
    have ne' : (I.pb.arg == I.pa.arg) = false := beq_eq_false_iff_ne.mpr fun z => I.ne z.symm
    simp [seqItems?, e3, List.lookup, ne']
  refine ks_codeAny_call_defAt ?_ (kk _ _ hfo) rfl ?_ ?_ rfl hbd I.nocell ?_ (fun h₁ hns hk₁ => ?_) I.co I.gen I.kind
  · exact hr
  · exact lim.keeps kk
  · exact codeRec_of (X.keeps kk) I.code
  · intro y hy
    simp at hy
    rcases hy with rfl | rfl
    · exact I.la
    · exact I.lb
  · have LK : ((hp.push (kdv_tup [v])).push (PX.excO C hp.objs.size)).objs.size = hp.objs.size + 2 := by simp [Heap.push]
    generalize hL : ((hp.push (kdv_tup [v])).push (PX.excO C hp.objs.size)).objs.size = L at *
    have k0 : ∀ b o, hp.get? b = some o → h₁.get? b = some o := fun b o z => hk₁ _ _ (kk _ _ z)
    have F : Fr hp L h₁ (fun x => ([(I.pa.arg, .ref (hp.objs.size + 1)), (I.pb.arg, v)] : List (Str × Value)).reverse.lookup x) := ⟨hns, k0, by omega⟩
    have nn : ∀ {b : Addr}, hp.objs.size ≤ b → hp.get? b = none := fun {b} hb => Heap.get?_none_of_le hb
    have W : News hp L h₁ [(hp.objs.size + 1, excObj C hp.objs.size none .none), (hp.objs.size, excTup [v])] := by
      intro p hp'
      simp at hp'
      rcases hp' with rfl | rfl
      · exact ⟨hk₁ _ _ he1, by show hp.objs.size + 1 ≠ L; omega, nn (by show hp.objs.size ≤ hp.objs.size + 1; omega)⟩
      · exact ⟨hk₁ _ _ he2, by show hp.objs.size ≠ L; omega, nn (Nat.le_refl _)⟩
    have ma : ([(I.pa.arg, .ref (hp.objs.size + 1)), (I.pb.arg, v)] : List (Str × Value)).reverse.lookup I.pa.arg = some (.ref (hp.objs.size + 1)) := by
      simp [List.lookup, beq_eq_false_iff_ne.mpr I.ne]
    have mb' : ([(I.pa.arg, .ref (hp.objs.size + 1)), (I.pb.arg, v)] : List (Str × Value)).reverse.lookup I.pb.arg = some v := by
      simp [List.lookup]
    generalize hm : (fun x => ([(I.pa.arg, .ref (hp.objs.size + 1)), (I.pb.arg, v)] : List (Str × Value)).reverse.lookup x) = m at F
    have ma : m I.pa.arg = some (.ref (hp.objs.size + 1)) := by rw [← hm]; exact ma
    have mb' : m I.pb.arg = some v := by rw [← hm]; exact mb'
    have io : ∀ {h : Heap}, h.get? (hp.objs.size + 1) = some (excObj C hp.objs.size none .none) → PySem.W.InstAt h (hp.objs.size + 1) (excObj C hp.objs.size none .none) C none := fun {h} z => ⟨z, rfl, rfl, trivial⟩
    refine ks_wpAt_execs_cons (ks_wpAt_Expr_any (ks_wpAt_MethodCall (sup_node N I F X W hg hb hbl ma (io (W (hp.objs.size + 1, _) (List.mem_cons_self ..)).1) (by decide) ?_) (meth1_eq I.ln)) (by
      show (I.scope.kind == .module && _) = false
      rw [I.kind]; rfl))
    intro so h2 F2 W2 l2
    refine kxs_method BF.kf F2 X W2 (List.mem_cons_self ..) (io (W2 (hp.objs.size + 1, _) (.tail _ (List.mem_cons_self ..))).1) N.op N.up N.sB (by decide) ?_
    intro q2 h3 F3 W3 l3
    refine kxs_callWith1 W3 (List.mem_cons_self ..) ?_
    refine spliced_cons ?_
    refine wpAny_Call_Name_kw ?_
    refine Name_function_global I.kind I.lt (loadGlobal_builtin (hg.keeps F3.keep) (mg_none_of X hg N.gt) (hb.keeps F3.keep) ((hbl _ (by decide +kernel)).trans (show bootBuiltins "str" = some (.type "str") by first | rfl | decide +kernel)) ?_)
    refine PyProof.Rows.callWith_type1 (spliced_cons ?_)
    refine ld_fn I.kind I.lb I.db F3.ns mb' (spliced_nil ?_)
    refine str_any hv fun x tx k => ?_
    refine spliced_nil ⟨(W3 (q2, _) (List.mem_cons_self ..)).1, ?_⟩
    have ne1 : so ≠ hp.objs.size + 1 := fun z => by have := l2 (hp.objs.size + 1, _) (List.mem_cons_self ..); rw [← z] at this; exact Nat.lt_irrefl _ this
    have ne2 : q2 ≠ hp.objs.size + 1 := fun z => by have := l3 (hp.objs.size + 1, _) (.tail _ (List.mem_cons_self ..)); rw [← z] at this; exact Nat.lt_irrefl _ this
    refine kxs_call F3 X W3 BF.fb N.ini (List.mem_cons_self ..) (.tail ne2 (.tail ne1 (.head (fun p hp' => by simp at hp'; subst hp'; show hp.objs.size ≠ hp.objs.size + 1; omega)))) (by show 1 ≤ sizeLine; rw [sizeLine_eq]; omega) ?_
    intro t4 h4 F4 W4 l4
    show PySem.wpAt (model prog w) _ _ (execs [_] (ksEnv I.qual I.scope L fI (.ref I.cda) I.cc)) _ _ _
    refine ks_wpAt_execs_cons (ks_wpAt_Assign_Attr (wpAt_of_wpAny ?_))
    show wpAny (model prog w) _ (eval (.Name I.pb.arg (I.p 10)) (ksEnv I.qual I.scope L fI (.ref I.cda) I.cc)) _ _ _
    refine ld_fn I.kind I.lb I.db F4.ns mb' ?_
    show wpAny (model prog w) _ (eval (.Name I.pa.arg (I.p 8)) (ksEnv I.qual I.scope L fI (.ref I.cda) I.cc)) _ _ _
    refine ld_fn I.kind I.la I.da F4.ns ma ?_
    have ne4 : t4 ≠ hp.objs.size + 1 := fun z => by have := l4 (hp.objs.size + 1, _) (.tail _ (.tail _ (List.mem_cons_self ..))); rw [← z] at this; exact Nat.lt_irrefl _ this
    refine set_exc0 BF.sf F4 X W4 (.tail _ (.tail _ (.tail _ (List.mem_cons_self ..)))) N.sa N.over N.tk N.dict rfl (.tail ne4 (.tail ne2 (.tail ne1 (.head (fun p hp' => by simp at hp'; subst hp'; show hp.objs.size ≠ hp.objs.size + 1; omega))))) (by show 1 ≤ 1000; omega) ?_
    intro dx h5 F5 W5 l5
    have g1 := (W5 (dx, _) (List.mem_cons_self ..))
    have g2 := (W5 (hp.objs.size + 1, _) (.tail _ (.tail _ (.tail _ (.tail _ (List.mem_cons_self ..))))))
    have g3 := l5 (hp.objs.size + 1, _) (.tail _ (.tail _ (.tail _ (List.mem_cons_self ..))))
    show PySem.wpAt (model prog w) _ _ (execs [] (ksEnv I.qual I.scope L fI (.ref I.cda) I.cc)) _ _ _
    refine wpAt_of_wpAny (wpAny_execs_nil ?_)
    refine ⟨rfl, q _ _ ⟨hp.objs.size + 1, t4, dx, rfl, rfl, rfl, F5.keep, nn (Nat.le_succ _), Nat.le_succ _, Nat.le_of_lt (Nat.lt_trans (Nat.lt_succ_self _) g3), Nat.ne_of_lt g3, g2.1, ns1_one g1.1⟩⟩
end
end Iv
end
section
set_option autoImplicit false
set_option maxRecDepth 100000
set_option maxHeartbeats 4000000
namespace Iv
open PySem L2 PySem.Spec PyProof.Rows
/-! ### raise C(x) -/
def StrV (y : V) : Prop := y = .non ∨ (∃ b, y = .bl b) ∨ (∃ i, y = .int i ∧ i.natAbs.log2 < 1920) ∨ ∃ x, y = .str x
theorem StrV.ok {y : V} {u : Value} (h : StrV y) (r : RelV y u) : StrOk u := by
  rcases h with rfl | ⟨b, rfl⟩ | ⟨i, rfl, hz⟩ | ⟨x, rfl⟩
  · exact .inl r
  · exact .inr (.inl ⟨b, r⟩)
  · obtain ⟨t, e⟩ := r
    exact .inr (.inr (.inl ⟨i, t, e, hz⟩))
  · obtain ⟨t, e⟩ := r
    exact .inr (.inr (.inr ⟨x, t, e⟩))
section
variable {X : Cx} {C : Addr} {bmB : List Value} {B newId i : String} {f : Str}
theorem mk_made {pins : List (Addr × Obj)} {σ : L2.St} {H : Hp} {Q : XK} {s s' : Shared} {y : V} {v u : Value} (I : Inv X pins σ H s) (N : XnK X.prog X.K B newId i bmB C f) (ry : RelV y v) (m : MadeX C f v s.heap u s' s)
    (q : ∀ d, H d = none → Q (.ref C) (some d) (upd H d (.xd [(f, y)]))) : MkP X pins σ Q u s' := by
  obtain ⟨e, t, d, rfl, m1, m2, k, ne, le, ld, ed, he, hd⟩ := m
  obtain ⟨G, gk, gn⟩ := restrict s'.heap fun b => decide (b ≠ e)
  have gk' : ∀ b, b ≠ e → G.get? b = s'.heap.get? b := fun b hb => gk b (decide_eq_true hb)
  have ge : G.get? e = none := gn e (by simp)
  have kG : ∀ b o, s.heap.get? b = some o → G.get? b = some o := fun b o z => by
    have hb : b ≠ e := fun y => by rw [y, ne] at z; cases z
    rw [gk' b hb]
    exact k b o z
  have hdn : H d = none := I.hok.fresh ld
  have hen : H e = none := I.hok.fresh le
  have J : Inv X pins σ (upd H d (.xd [(f, y)])) { s with heap := G } := I.laid (t' := s.toks) kG ld (by
    refine ⟨_, hd.at fun o z => (gk' d (Ne.symm ed)).trans z, fun g => ?_⟩
    by_cases hg : g = f
    · subst hg
      simp only [List.lookup, beq_self_eq_true, if_true]
      exact ry
    · have : (g == f) = false := beq_eq_false_iff_ne.mpr hg
      simp only [List.lookup, this, if_neg hg]
      trivial)
  refine ⟨e, _, _, { s with heap := G }, _, .ref C, some d, rfl, J, fun b o z => ?_, ge, he, ⟨rfl, rfl⟩, rfl, rfl, ?_, m1, by rw [m2]; exact I.bare, raises_own N.sub N.ty, q d hdn⟩
  · by_cases hb : b = e
    · rw [hb, ge] at z; cases z
    · exact (gk' b hb).symm.trans z
  · rw [upd_ne ed]; exact hen
theorem pmk_X {x : Str} {e : Expr} {te : TE} {p pos : Pos} (BF : BasF B newId i bmB) (N : XnK X.prog X.K B newId i bmB C f) (hr : Room 0 X.A) (gC : X.mg x = some (.ref C)) (hg : Gl X x)
    (he : PE X e te) (hs : starEach [e] X.env = (false, eval e X.env) :: starEach [] X.env) (hdb : (x == ("__debug__" : Str)) = false) :
    PMk X (.Call (.Name x p) [e] [] pos) (fun σ H Q => te σ H fun y H1 => StrV y ∧ ∀ d, H1 d = none → Q (.ref C) (some d) (upd H1 d (.xd [(f, y)]))) := by
  intro pins s σ H Q I h
  refine wpAny_Call_Name_kw (ld_glob I hg gC ?_ hdb)
  refine PySem.W.callWith_K (h₀ := X.base) I.ok.mod.kin N.keep ?_ hs (by rfl)
  rw [hs]
  show wpAny _ _ (spliced ((false, eval e X.env) :: backTo pos (starEach [] X.env))) _ _ s
  refine Calls.spliced_cons (thn (he.run pins s σ H _ I h) fun u s1 ⟨y, H1, I1, r1, q1, q2⟩ => ?_)
  refine Calls.spliced_nil ⟨I1.kIn, ?_⟩
  show wpAny _ _ (call (.ref C) [u]) _ _ _
  obtain ⟨mb, b1, b2⟩ := I1.mod.blt
  exact make_X BF N I1.kIn (I1.mod.glob.keeps I1.bk) (b1.keeps I1.bk) b2 I1.nolimit (by have := hr.dp; omega) (q1.ok r1) fun u' s' m => mk_made I1 N r1 m q2
end
end Iv
end
section
set_option autoImplicit false
set_option maxRecDepth 100000
set_option maxHeartbeats 4000000
namespace Iv
open PySem L2 PySem.Spec PyProof.Rows
/-! ### try: .., except C: .., except C as n: .. -/
abbrev ClT := Value × Option Nat × (Addr → Value → Option Addr → TS)
/-- the ends of a suite whose name goes -/
def goneE (i : Nat) (D : Ends) : Ends := { nx := fun σ' H' => D.nx (σ'.set i none) H', rt := D.rt, bk := fun σ' H' => D.bk (σ'.set i none) H', ct := fun σ' H' => D.ct (σ'.set i none) H' }
def wCl (K : PySem.W.Frag) (Wout : WX) (D : Ends) : List ClT → WX
  | [] => Wout
  | (c, o, ts) :: r => fun cls d σ H => ∃ b, PySem.W.exmOne K cls c = some b ∧ (b = true → ∀ a, H a = none → match o with
      | none => ts a cls d D σ H
      | some i => ts a cls d (goneE i D) (σ.set i (some (.ref a))) H) ∧ (b = false → wCl K Wout D r cls d σ H)
inductive ClOk (X : Cx) : List ExceptHandler → List ClT → Prop
  | nil : ClOk X [] []
  | bare {x : Str} {c : Value} {ts : Addr → Value → Option Addr → TS} {b₀ : Stmt} {suite : List Stmt} {np pp : Pos} {hds : List ExceptHandler} {l : List ClT} (hc : Names X x c)
      (hsu : ∀ (a : Addr) (oe : Obj) (cls : Value) (d : Option Addr) (pn : List (Addr × Obj)), Zc cls d oe → (∃ vs, oe.data = .fields vs) → PSs (X.suite a ((a, oe) :: pn)) (b₀ :: suite) (ts a cls d)) (r : ClOk X hds l) :
      ClOk X (.ExceptHandler (some (.Name x np)) none (b₀ :: suite) pp :: hds) ((c, none, ts) :: l)
  | named {x n : Str} {i : Nat} {c : Value} {ts : Addr → Value → Option Addr → TS} {b₀ : Stmt} {suite : List Stmt} {np pp : Pos} {hds : List ExceptHandler} {l : List ClT} (hc : Names X x c) (hi : X.N[i]? = some n) (hln : X.env.kindOf n = some .local)
      (hsu : ∀ (a : Addr) (oe : Obj) (cls : Value) (d : Option Addr) (pn : List (Addr × Obj)), Zc cls d oe → (∃ vs, oe.data = .fields vs) → PSs (X.suite a ((a, oe) :: pn)) (b₀ :: suite) (ts a cls d)) (r : ClOk X hds l) :
      ClOk X (.ExceptHandler (some (.Name x np)) (some n) (b₀ :: suite) pp :: hds) ((c, some i, ts) :: l)
section
variable {X : Cx} {body : List Stmt} {h₀ : ExceptHandler} {hds : List ExceptHandler} {l : List ClT} {pos : Pos} {tb : WX → TS} {Wout : WX}
theorem ps_tryCl (hs : X.stack = X.env :: X.outer) (hf : X.env.frame = some X.env.locals) (hN : X.N.Nodup) (tk : Takes X Wout)
    (hb : ∀ (W : WX) (pn : List (Addr × Obj)) (xe : Value → Shared → Prop), Takes (X.tr pn xe) W → PassesOwn (model X.prog X.w) X.A X.env xe → PSs (X.tr pn xe) body (tb W))
    (hh : ClOk X (h₀ :: hds) l) : PS X (.Try body (h₀ :: hds) [] [] pos) (fun D σ H => tb (wCl X.K Wout D l) D σ H) := by
  refine ⟨fun pins s σ H D I h => ?_⟩
  have ok := I.ok
  have hfr : X.A.frames = some (X.env :: X.outer) := by rw [ok.frames, hs]
  refine wpAny_Try_except ?_
  have bd := hb (wCl X.K Wout D l) (X.pn ++ pins) (fun e s₁ => wpAny (model X.prog X.w) X.A (noteFrame e X.env) (fun _ s₂ => wpAny (model X.prog X.w) X.A (setFlight e none) (fun _ s₃ =>
    wpAny (model X.prog X.w) X.A (handleBy e X.env (h₀ :: hds)) (SP X pins D) X.xe s₃) X.xe s₂) X.xe s₁) (fun u s' xx => ?_) PassesOwn.looking
  · refine wpAny_mono (bd.run [] s σ H D (I.toTry _) h) (fun fl s1 hsp => ?_) (fun e s1 he => he)
    cases fl with
    | next =>
      obtain ⟨σ', H', J', q⟩ := hsp
      exact wpAny_execs_nil ⟨σ', H', J'.ofTry ok, q⟩
    | brk =>
      obtain ⟨σ', H', J', q⟩ := hsp
      exact ⟨σ', H', J'.ofTry ok, q⟩
    | cont =>
      obtain ⟨σ', H', J', q⟩ := hsp
      exact ⟨σ', H', J'.ofTry ok, q⟩
    | ret u =>
      obtain ⟨v, σ', H', J', r, q⟩ := hsp
      exact ⟨v, σ', H', J'.ofTry ok, r, q⟩
  obtain ⟨a, B, sI, pins', σ', H', cls, d, rfl, J', nb, up, sky, na, os, ag, w⟩ := xx
  have J : Inv X pins σ' H' sI := J'.ofTry ok
  rw [hs] at sky
  show wpAny (model X.prog X.w) X.A (noteFrame (.ref a) X.env) _ _ _
  refine Sky.land Zc.steady hfr hf sky fun h3 fl3 up3 => ?_
  have J3 : Inv X pins σ' H' { s' with heap := h3 } := J.landed nb fl3.1 (up.trans up3) os ag
  obtain ⟨oe3, vs3, he3, hz3, hd3⟩ := fl3.there
  have nfr : a ∉ frs (X.env :: X.outer) := fun hm => by
    obtain ⟨_, o', e', hnf⟩ := fl3.2.2.1.mem hm
    rw [he3] at e'; cases e'
    exact hnf _ hd3
  have nL : a ≠ X.env.locals := fun z => nfr (List.mem_filterMap.mpr ⟨X.env, List.mem_cons_self, by rw [hf, z]⟩)
  have nF : a ∉ X.fs := fun hm => by
    obtain ⟨e, he, q⟩ := List.mem_filterMap.mp hm
    exact nfr (List.mem_filterMap.mpr ⟨e, List.mem_cons_of_mem _ he, q⟩)
  have S3 := J3.suite he3 hd3 na nL nF
  have LT : PySem.W.Looks (model X.prog X.w) h3 (typeOf (.ref a)) cls := fun A Q E s k q => wpAny_typeOf_ref (k _ _ he3) (by rw [hz3.1]; exact q)
  have test : ∀ {x : Str} {c : Value} {np : Pos} {Q E : Value → Shared → Prop}, Names X x c → Q c { s' with heap := h3 } → wpAny (model X.prog X.w) (X.A.mark (some (.ref a))) (eval (.Name x np) X.env) Q E { s' with heap := h3 } := fun {x c np Q E} hc q => by
    obtain ⟨hg, hdbg, hm | ⟨hm, hv, hnn⟩⟩ := hc
    · exact ld_glob (X := X.suite a ((a, oe3) :: (X.pn ++ pins))) S3 hg hm q hdbg
    · exact ld_blt (X := X.suite a ((a, oe3) :: (X.pn ++ pins))) S3 hg hm hv q hnn hdbg
  have go : ∀ {hds' : List ExceptHandler} {l' : List ClT}, ClOk X hds' l' → wCl X.K Wout D l' cls d σ' H' →
      wpAny (model X.prog X.w) X.A (handleBy (.ref a) X.env hds') (SP X pins D) X.xe { s' with heap := h3 } := by
    intro hds' l' hk
    induction hk with
    | nil =>
      intro w
      refine wpAny_handleBy_nil ?_
      obtain ⟨k1, k2, k3, oe, vs, T, oT, ts', he, hz, hd, h1, hr⟩ := id fl3
      unfold PySem.passOn
      refine wpAny_bind (wpAny_field he hd h1 ?_)
      rw [if_neg (show ¬ ((Value.ref T == Value.none) = true) from by simp)]
      have fin : wpAny (model X.prog X.w) X.A (setFlight (.ref a) X.env.frame) (fun _ s4 => wpAny (model X.prog X.w) X.A (throw (.ref a) : Sem Flow) (SP X pins D) X.xe s4) X.xe { s' with heap := h3 } := by
        rw [hf]
        refine HandSPX.setFlight_upZ fl3 fun h4 hh4 up4 => wpAny_throw (tk _ _ ?_)
        exact ⟨a, B, sI, pins, σ', H', cls, d, rfl, J, nb, (up.trans up3).trans up4, .inr (.inr (by rw [hs]; exact hh4)), na, os, ag, w⟩
      first
        | exact wpAny_bind (wpAny_pure (wpAny_bind fin))
        | exact wpAny_bind fin
    | bare hc hsu r ih =>
      rintro ⟨b, hb1, hyes, hno⟩
      have LM := PySem.W.exm_one (M := model X.prog X.w) (J3.kIn) LT hb1
      refine wpAny_handleBy_cons (codeAny_handlers_test ?_) (by intro q; cases q)
      refine test hc (LM.here ?_)
      cases b with
      | false => exact ih (hno rfl)
      | true =>
        refine codeAny_handlers_suite ?_
        refine HandSPX.lands_againZ fl3 fun h4 fl4 up4 => ?_
        obtain ⟨oe4, vs4, he4, hz4, hd4⟩ := fl4.there
        have J4 : Inv X pins σ' H' { s' with heap := h4 } := J.landed nb fl4.1 ((up.trans up3).trans up4) os ag
        have S4 := J4.suite he4 hd4 na nL nF
        refine wpAny_mono ((hsu a oe4 cls d (X.pn ++ pins) hz4 ⟨_, hd4⟩).run [] _ _ H' _ S4 (hyes rfl a na)) (fun fl s6 hsp => ?_) (fun _ _ z => z.elim)
        cases fl with
        | ret u =>
          obtain ⟨v6, σ6, H6, S6, r6, q6⟩ := hsp
          exact ⟨v6, σ6, H6, S6.unsuite ok, r6, q6⟩
        | next => exact let ⟨σ6, H6, S6, q6⟩ := hsp; ⟨σ6, H6, S6.unsuite ok, q6⟩
        | brk => exact let ⟨σ6, H6, S6, q6⟩ := hsp; ⟨σ6, H6, S6.unsuite ok, q6⟩
        | cont => exact let ⟨σ6, H6, S6, q6⟩ := hsp; ⟨σ6, H6, S6.unsuite ok, q6⟩
    | @named x n i c ts b₀ suite np pp hds2 l2 hc hi hln hsu r ih =>
      rintro ⟨b, hb1, hyes, hno⟩
      have LM := PySem.W.exm_one (M := model X.prog X.w) (J3.kIn) LT hb1
      refine wpAny_handleBy_cons (codeAny_handlers_test ?_) (by intro q; cases q)
      refine test hc (LM.here ?_)
      cases b with
      | false => exact ih (hno rfl)
      | true =>
        refine codeAny_handlers_suite_as ?_
        refine HandSPX.lands_againZ fl3 fun h4 fl4 up4 => ?_
        obtain ⟨oe4, vs4, he4, hz4, hd4⟩ := fl4.there
        have J4 : Inv X pins σ' H' { s' with heap := h4 } := J.landed nb fl4.1 ((up.trans up3).trans up4) os ag
        have S4 := J4.suite he4 hd4 na nL nF
        refine store_ok (X := X.suite a ((a, oe4) :: (X.pn ++ pins))) (v := .ref a) S4 hN hi (.inl hln) rfl (fun s5 S5 => ?_) (.inr hln)
        refine wpAny_mono ((hsu a oe4 cls d (X.pn ++ pins) hz4 ⟨_, hd4⟩).run [] s5 _ H' _ S5 (hyes rfl a na)) (fun fl s6 hsp => ?_) (fun _ _ z => z.elim)
        have end_ : ∀ {σ6 : L2.St} {H6 : Hp} {Q : Shared → Prop}, Inv (X.suite a ((a, oe4) :: (X.pn ++ pins))) [] σ6 H6 s6 → (∀ s7, Inv X pins (σ6.set i none) H6 s7 → Q s7) →
            wpAny (model X.prog X.w) X.A (do bindName X.env n .none; unbindBehindTheSuite X.env n pp) (fun _ s7 => Q s7) X.xe s6 := fun {σ6 H6 Q} S6 hq => gone_ok (S6.unsuite ok) hN hi hln hq
        cases fl with
        | ret u =>
          obtain ⟨v6, σ6, H6, S6, r6, q6⟩ := hsp
          exact end_ S6 fun s7 J7 => ⟨v6, _, H6, J7, r6, q6⟩
        | next => exact let ⟨σ6, H6, S6, q6⟩ := hsp; end_ S6 fun s7 J7 => ⟨_, H6, J7, q6⟩
        | brk => exact let ⟨σ6, H6, S6, q6⟩ := hsp; end_ S6 fun s7 J7 => ⟨_, H6, J7, q6⟩
        | cont => exact let ⟨σ6, H6, S6, q6⟩ := hsp; end_ S6 fun s7 J7 => ⟨_, H6, J7, q6⟩
  exact go hh w
end
end Iv
end
section
set_option autoImplicit false
set_option maxRecDepth 100000
set_option maxHeartbeats 4000000
/-! Ivr: try: p() / except (A, B): return True; the def that is handed a lambda and tells whether it refuses. -/
namespace Iv
open PySem L2 PySem.Spec PyProof.Rows LamX
section
variable {X : Cx} {body : List Stmt} {tb : WX → TS} {Wout : WX} {x1 x2 : Str} {c1 c2 : Value} {np1 np2 tp pp pos : Pos} {kk : Nat} {b₀ : Stmt} {suite : List Stmt} {ts : Addr → Value → Option Addr → TS}
/-- try: .. / except (x1, x2): suite; an error of another kind may not come -/
theorem ps_tryTup (hs : X.stack = X.env :: X.outer) (hf : X.env.frame = some X.env.locals) (tk : Takes X Wout) (hc1 : Names X x1 c1) (hc2 : Names X x2 c2)
    (hb : ∀ (W : WX) (pn : List (Addr × Obj)) (xe : Value → Shared → Prop), Takes (X.tr pn xe) W → PassesOwn (model X.prog X.w) X.A X.env xe → PSs (X.tr pn xe) body (tb W))
    (hsu : ∀ (a : Addr) (oe : Obj) (cls : Value) (d : Option Addr) (pn : List (Addr × Obj)), Zc cls d oe → (∃ vs, oe.data = .fields vs) → PSs (X.suite a ((a, oe) :: pn)) (b₀ :: suite) (ts a cls d)) :
    PS X (.Try body [.ExceptHandler (some (.Tuple [.Name x1 np1, .Name x2 np2] kk tp)) none (b₀ :: suite) pp] [] [] pos)
      (fun D σ H => tb (fun cls d σ H => PySem.W.exmAny X.K cls [c1, c2] = some true ∧ ∀ a, H a = none → ts a cls d D σ H) D σ H) := by
  refine ⟨fun pins s σ H D I h => ?_⟩
  have ok := I.ok
  have hfr : X.A.frames = some (X.env :: X.outer) := by rw [ok.frames, hs]
  refine wpAny_Try_except ?_
  have bd := hb (fun cls d σ H => PySem.W.exmAny X.K cls [c1, c2] = some true ∧ ∀ a, H a = none → ts a cls d D σ H) (X.pn ++ pins) (fun e s₁ => wpAny (model X.prog X.w) X.A (noteFrame e X.env) (fun _ s₂ => wpAny (model X.prog X.w) X.A (setFlight e none) (fun _ s₃ =>
    wpAny (model X.prog X.w) X.A (handleBy e X.env [.ExceptHandler (some (.Tuple [.Name x1 np1, .Name x2 np2] kk tp)) none (b₀ :: suite) pp]) (SP X pins D) X.xe s₃) X.xe s₂) X.xe s₁) (fun u s' xx => ?_) PassesOwn.looking
  · refine wpAny_mono (bd.run [] s σ H D (I.toTry _) h) (fun fl s1 hsp => ?_) (fun e s1 he => he)
    cases fl with
    | next =>
      obtain ⟨σ', H', J', q⟩ := hsp
      exact wpAny_execs_nil ⟨σ', H', J'.ofTry ok, q⟩
    | brk =>
      obtain ⟨σ', H', J', q⟩ := hsp
      exact ⟨σ', H', J'.ofTry ok, q⟩
    | cont =>
      obtain ⟨σ', H', J', q⟩ := hsp
      exact ⟨σ', H', J'.ofTry ok, q⟩
    | ret u =>
      obtain ⟨v, σ', H', J', r, q⟩ := hsp
      exact ⟨v, σ', H', J'.ofTry ok, r, q⟩
  obtain ⟨a, B, sI, pins', σ', H', cls, d, rfl, J', nb, up, sky, na, os, ag, w⟩ := xx
  obtain ⟨hx, w⟩ := w
  have J : Inv X pins σ' H' sI := J'.ofTry ok
  rw [hs] at sky
  show wpAny (model X.prog X.w) X.A (noteFrame (.ref a) X.env) _ _ _
  refine Sky.land Zc.steady hfr hf sky fun h3 fl3 up3 => ?_
  have J3 : Inv X pins σ' H' { s' with heap := h3 } := J.landed nb fl3.1 (up.trans up3) os ag
  obtain ⟨oe3, vs3, he3, hz3, hd3⟩ := fl3.there
  have nfr : a ∉ frs (X.env :: X.outer) := fun hm => by
    obtain ⟨_, o', e', hnf⟩ := fl3.2.2.1.mem hm
    rw [he3] at e'; cases e'
    exact hnf _ hd3
  have nL : a ≠ X.env.locals := fun z => nfr (List.mem_filterMap.mpr ⟨X.env, List.mem_cons_self, by rw [hf, z]⟩)
  have nF : a ∉ X.fs := fun hm => by
    obtain ⟨e, he, q⟩ := List.mem_filterMap.mp hm
    exact nfr (List.mem_filterMap.mpr ⟨e, List.mem_cons_of_mem _ he, q⟩)
  have S3 := J3.suite he3 hd3 na nL nF
  have test : ∀ {x : Str} {c : Value} {np : Pos} {Q E : Value → Shared → Prop}, Names X x c → Q c { s' with heap := h3 } → wpAny (model X.prog X.w) (X.A.mark (some (.ref a))) (eval (.Name x np) X.env) Q E { s' with heap := h3 } := fun {x c np Q E} hc q => by
    obtain ⟨hg, hdbg, hm | ⟨hm, hv, hnn⟩⟩ := hc
    · exact ld_glob (X := X.suite a ((a, oe3) :: (X.pn ++ pins))) S3 hg hm q hdbg
    · exact ld_blt (X := X.suite a ((a, oe3) :: (X.pn ++ pins))) S3 hg hm hv q hnn hdbg
  refine wpAny_handleBy_cons (codeAny_handlers_test ?_) (by intro q; cases q)
  refine Tuple_ (spliced_more (test hc1 (spliced_more (test hc2 (spliced_none ?_)))))
  refine wpAny_newObj_type ?_
  have kp : ∀ b o, h3.get? b = some o → (h3.push { cls := .type "tuple", dict := none, data := .seq [c1, c2].toArray }).get? b = some o := fun b o e => Heap.get?_push_of_some _ e
  have J3p : Inv X pins σ' H' { s' with heap := h3.push { cls := .type "tuple", dict := none, data := .seq [c1, c2].toArray } } := J3.kept kp
  have LT : PySem.W.Looks (model X.prog X.w) (h3.push { cls := .type "tuple", dict := none, data := .seq [c1, c2].toArray }) (typeOf (.ref a)) cls := fun A Q E s k q => wpAny_typeOf_ref (k _ _ (kp _ _ he3)) (by rw [hz3.1]; exact q)
  have fl3p : HandSPX.FlyingZ B (X.env :: X.outer) a (Zc cls d) (h3.push { cls := .type "tuple", dict := none, data := .seq [c1, c2].toArray }) := by
    obtain ⟨g1, g2, g3, oe, vs, T, oT, ts', he, hz, hd, h1, hr1, hr2, hr3, hr4, hr5⟩ := fl3
    exact ⟨fun b o e => kp _ _ (g1 b o e), g2, g3.of_keeps fun b o hb _ => ⟨o, kp _ _ hb, rfl⟩, oe, vs, T, oT, ts', kp _ _ he, hz, hd, h1, hr1, hr2, kp _ _ hr3, hr4, hr5⟩
  have LM := PySem.W.exm_tup2 (M := model X.prog X.w) (J3p.kIn) LT (Heap.get?_push_size _ rfl) hx
  refine LM.here ?_
  refine codeAny_handlers_suite ?_
  refine HandSPX.lands_againZ fl3p fun h4 fl4 up4 => ?_
  obtain ⟨oe4, vs4, he4, hz4, hd4⟩ := fl4.there
  have J4 : Inv X pins σ' H' { s' with heap := h4 } := J.landed nb fl4.1 (((up.trans up3).trans (Heap.UpToSlots.of_keeps kp)).trans up4) os ag
  have S4 := J4.suite he4 hd4 na nL nF
  refine wpAny_mono ((hsu a oe4 cls d (X.pn ++ pins) hz4 ⟨_, hd4⟩).run [] _ _ H' _ S4 (w a na)) (fun fl s6 hsp => ?_) (fun _ _ z => z.elim)
  cases fl with
  | ret u =>
    obtain ⟨v6, σ6, H6, S6, r6, q6⟩ := hsp
    exact ⟨v6, σ6, H6, S6.unsuite ok, r6, q6⟩
  | next => exact let ⟨σ6, H6, S6, q6⟩ := hsp; ⟨σ6, H6, S6.unsuite ok, q6⟩
  | brk => exact let ⟨σ6, H6, S6, q6⟩ := hsp; ⟨σ6, H6, S6.unsuite ok, q6⟩
  | cont => exact let ⟨σ6, H6, S6, q6⟩ := hsp; ⟨σ6, H6, S6.unsuite ok, q6⟩
end
/-- refused: try: a() / except (x1, x2): return True; return False -/
def TRef (K : PySem.W.Frag) (C1 C2 : Addr) : (XK → Hp → VK → Prop) → Hp → VK → Prop := fun tl H Q =>
  tl (fun cls _ H' => PySem.W.exmAny K cls [.ref C1, .ref C2] = some true ∧ Q (.bl true) H') H (fun _ H' => Q (.bl false) H')
theorem refused_gives {X : Cx} {Ng : List Str} {x a x1 x2 q : Str} {sg : Scope} {g C1 C2 : Addr} {cdg : Value} {j j2 kk : Nat} {p1 p2 p3 p4 p5 p6 p7 p8 p9 p10 p11 pt : Pos}
    (h1 : sg.names.lookup x1 = some .globalImplicit) (hm1 : X.mg x1 = some (.ref C1)) (hd1 : (x1 == ("__debug__" : Str)) = false) (h2 : sg.names.lookup x2 = some .globalImplicit) (hm2 : X.mg x2 = some (.ref C2)) (hd2 : (x2 == ("__debug__" : Str)) = false) (h0 : ∀ f : Addr, (L2.start Ng [V.ref f])[0]? = some (some (V.ref f))) :
    GivesTo X Ng x sg g cdg [.Try [.Expr (.Call (.Name a p1) [] [] p2) p3] [.ExceptHandler (some (.Tuple [.Name x1 p4, .Name x2 p5] kk pt)) none [.Return (some (.Constant (.bool true) j p6)) p7] p8] [] [] p9, .Return (some (.Constant (.bool false) j2 p10)) p11] a q (TRef X.K C1 C2) := by
  intro f c' s H Q tl act hc h
  have hn1 : Names (cxOf C8.CX0 X.prog X.w X.K X.mg X.base Ng x sg g cdg X.A X.stack s H C8.E0).nox x1 (.ref C1) := ⟨h1, hd1, .inl hm1⟩
  have hn2 : Names (cxOf C8.CX0 X.prog X.w X.K X.mg X.base Ng x sg g cdg X.A X.stack s H C8.E0).nox x2 (.ref C2) := ⟨h2, hd2, .inl hm2⟩
  have t1 := ps_tryTup (X := (cxOf C8.CX0 X.prog X.w X.K X.mg X.base Ng x sg g cdg X.A X.stack s H C8.E0).nox) (c1 := .ref C1) (c2 := .ref C2) (np1 := p4) (np2 := p5) (tp := pt) (pp := p8) (pos := p9) (kk := kk) (body := [.Expr (.Call (.Name a p1) [] [] p2) p3])
    (b₀ := .Return (some (.Constant (.bool true) j p6)) p7) (suite := []) (ts := fun a cls d D σ H => D.rt (.bl true) H)
    (tb := fun W D σ H => ∃ Ech : XK, (∀ cls d σ' H', Ech cls d H' → W cls d σ' H') ∧ σ[0]? = some (some (.ref f)) ∧ H c' = some (CodeO c' q) ∧ tl Ech H (fun _ H' => D.nx σ H'))
    rfl rfl L2.takes0 hn1 hn2 (fun W pn xe tk _ => ?_) (fun a oe cls d pn _ _ => pss_one (ps_ret pe_bl))
  · refine ⟨_, pss_cons t1 (pss_one (ps_ret pe_bl)), ?_⟩
    exact ⟨fun cls _ H' => PySem.W.exmAny X.K cls [.ref C1, .ref C2] = some true ∧ Q (.bl true) H', fun cls d σ' H' ⟨e1, e2⟩ => ⟨e1, fun a _ => e2⟩, h0 f, hc, h⟩
  · refine ⟨fun pins s' σ H' D I h' => ?_⟩
    obtain ⟨Ech, hW, h1, h2, h3⟩ := h'
    have hp := act W pn xe Ech p1 p2 tk hW
    have hq := pss_one (ps_expr (pos := p3) hp)
    exact hq.run pins s' σ H' D I ⟨h1, h2, h3⟩
/-- what the written part says of such a def -/
inductive RfK (K : PySem.W.Frag) (mg : Str → Option Value) (x : Str) (C1 C2 : Addr) : Prop
  | mk {g : Addr} {a x1 x2 : Str} {Ng : List Str} {oc : Value} {od : Option Addr} {pg : Arguments} {sg : Scope} {dV kV doc pm cdv ct : Value} {an : Option Addr} {osl : Array (Option Value)} {j j2 kk : Nat} {p1 p2 p3 p4 p5 p6 p7 p8 p9 p10 p11 pt : Pos} (hm : mg x = some (.ref g)) (hk : PySem.W.keepIn K (.ref g) = true)
      (lk : K.lookup g = some ⟨oc, od, .func (PySem.W.fnOf x x pg [.Try [.Expr (.Call (.Name a p1) [] [] p2) p3] [.ExceptHandler (some (.Tuple [.Name x1 p4, .Name x2 p5] kk pt)) none [.Return (some (.Constant (.bool true) j p6)) p7] p8] [] [] p9, .Return (some (.Constant (.bool false) j2 p10)) p11] sg dV kV doc pm an cdv ct), osl⟩)
      (hcg : PySem.W.codeIn K cdv x = true) (hb : L2.Binds K (PySem.W.fnOf x x pg [.Try [.Expr (.Call (.Name a p1) [] [] p2) p3] [.ExceptHandler (some (.Tuple [.Name x1 p4, .Name x2 p5] kk pt)) none [.Return (some (.Constant (.bool true) j p6)) p7] p8] [] [] p9, .Return (some (.Constant (.bool false) j2 p10)) p11] sg dV kV doc pm an cdv ct) [a] [])
      (Sg : FnScope Ng [a] sg) (hNg : Ng[0]? = some a) (hva : Vis sg a) (hda : (a == ("__debug__" : Str)) = false) (hdc : (a == ("__classdict__" : Str)) = false)
      (h1 : sg.names.lookup x1 = some .globalImplicit) (hm1 : mg x1 = some (.ref C1)) (hd1 : (x1 == ("__debug__" : Str)) = false) (h2 : sg.names.lookup x2 = some .globalImplicit) (hm2 : mg x2 = some (.ref C2)) (hd2 : (x2 == ("__debug__" : Str)) = false) : RfK K mg x C1 C2
end Iv
end
section
set_option autoImplicit false
set_option maxRecDepth 100000
set_option maxHeartbeats 4000000
namespace Iv
open PySem L2
theorem PE.imp {X : Cx} {e : Expr} {t t' : TE} (h : PE X e t) (k : ∀ σ H Q, t' σ H Q → t σ H Q) : PE X e t' := ⟨fun pins s σ H Q I hw => h.run pins s σ H Q I (k _ _ _ hw)⟩
theorem PT.imp {X : Cx} {e : Expr} {t t' : TT} (h : PT X e t) (k : ∀ σ H Q, t' σ H Q → t σ H Q) : PT X e t' := ⟨fun pins s σ H Q I hw => h.run pins s σ H Q I (k _ _ _ hw)⟩
theorem PA.imp {X : Cx} {es : List Expr} {t t' : TA} (h : PA X es t) (k : ∀ σ H Q, t' σ H Q → t σ H Q) : PA X es t' := ⟨fun pos pins s σ H Q I hw => h.run pos pins s σ H Q I (k _ _ _ hw)⟩
theorem PO.imp {X : Cx} {e : Option Expr} {t t' : TO} (h : PO X e t) (k : ∀ σ H Q, t' σ H Q → t σ H Q) : PO X e t' := ⟨fun pins s σ H Q I hw => h.run pins s σ H Q I (k _ _ _ hw)⟩
theorem PS.imp {X : Cx} {e : Stmt} {t t' : TS} (h : PS X e t) (k : ∀ D σ H, t' D σ H → t D σ H) : PS X e t' := ⟨fun pins s σ H D I hw => h.run pins s σ H D I (k _ _ _ hw)⟩
theorem PSs.imp {X : Cx} {e : List Stmt} {t t' : TS} (h : PSs X e t) (k : ∀ D σ H, t' D σ H → t D σ H) : PSs X e t' := ⟨fun pins s σ H D I hw => h.run pins s σ H D I (k _ _ _ hw)⟩

abbrev RVs (K : Fg) (G : Hp) (m : List Addr) : List Vl → List V → Prop := Paired (RepV K G m)
theorem Out.gives {xs : List Xc} {mg : Str → Option Value} {K : Fg} {W : WX} {σ : L2.St} {F G H : Hp} {m : List Addr} {Q : VK} {d : D} {S : Hs} (h : OutV xs mg K W F σ G m Q (.ok (.d d) S)) (l : Rl K F G m S H) : Gives K G H d Q :=
  fun v G' H' a r => h G' m H' v (a.grow l.ext) (l.al a) r
theorem Out.optD {xs : List Xc} {mg : Str → Option Value} {K : Fg} {W : WX} {σ : L2.St} {F G H : Hp} {m : List Addr} {Q : VK} {o : Option D} {S : Hs} (h : OutV xs mg K W F σ G m Q (R.opt (o.map .d) S)) (l : Rl K F G m S H) : ∃ d, o = some d ∧ Gives K G H d Q := by
  cases o with
  | none => exact h.elim
  | some d => exact ⟨d, rfl, Out.gives h l⟩
theorem dsOf_reps {K : Fg} {G : Hp} {m : List Addr} : ∀ {vs : List Vl} {us : List V} {xs : List D}, RVs K G m vs us → dsOf vs = some xs → Reps K G xs us
  | [], _, xs, .nil, h => by simp only [dsOf, Option.some.injEq] at h; subst h; exact .nil
  | .d x :: vs, _, xs, .cons r q, h => by
    simp only [dsOf] at h
    cases e : dsOf vs with
    | none => rw [e] at h; cases h
    | some ys => rw [e] at h; cases h; exact .cons r (dsOf_reps q e)
  | .loc _ :: _, _, _, .cons _ _, h => by simp [dsOf] at h
  | .xc _ _ :: _, _, _, .cons _ _, h => by simp [dsOf] at h
theorem rdV_rd {K : Fg} {F G H : Hp} {m : List Addr} {S : Hs} {v : Vl} {u : V} {d : D} (l : Rl K F G m S H) (r : RepV K G m v u) (h : rdV v S = some d) : Rd' K G H d u := by
  cases v with
  | d x => simp only [rdV, Option.some.injEq] at h; subst h; exact .inl r
  | loc n =>
    obtain ⟨a, ha, rfl⟩ := r
    simp only [rdV] at h
    cases e : S[n]? with
    | none => rw [e] at h; cases h
    | some o =>
      rw [e] at h
      cases o with
      | lst xs =>
        cases h
        obtain ⟨_, vs, h2, h3⟩ := (l.ob n a _ ha e).lst
        exact .inr ⟨a, xs, vs, rfl, rfl, h2, h3⟩
      | dct _ => cases h
      | ins _ _ => cases h
      | dead => cases h
  | xc _ _ => cases h
theorem rdVs_rd {K : Fg} {F G H : Hp} {m : List Addr} {S : Hs} (l : Rl K F G m S H) : ∀ {vs : List Vl} {us : List V} {xs : List D}, RVs K G m vs us → rdVs vs S = some xs → Paired (Rd' K G H) xs us
  | [], _, xs, .nil, h => by simp only [rdVs, Option.some.injEq] at h; subst h; exact .nil
  | v :: vs, _, xs, .cons r q, h => by
    simp only [rdVs] at h
    cases e : rdV v S with
    | none => rw [e] at h; cases h
    | some y =>
      rw [e] at h
      cases e2 : rdVs vs S with
      | none => rw [Option.bind_some, e2] at h; cases h
      | some ys => rw [Option.bind_some, e2] at h; cases h; exact .cons (rdV_rd l r e) (rdVs_rd l q e2)

/-! ### where one stands -/
/-- a call's promise -/
def spC (nm : Nm) (mg : Str → Option Value) (K : Fg) (c : List Vl → Hs → R Vl) : Sp := fun us H Q E =>
  ∃ (F G : Hp) (m : List Addr) (vs : List Vl) (S : Hs), Rl K F G m S H ∧ RVs K G m vs us ∧ OutV nm.excs mg K (fun cls d _ H => E cls d H) F [] G m Q (c vs S)
/-- where the def f stands -/
abbrev fa (cl : Cl) (f : Nat) : Addr := cl (f + 4096)
/-- what the class c must have for isinstance -/
structure IsC (K : PySem.W.Frag) (cl : Cl) (b : Bool) (j c : Nat) : Prop where
  s : SlX.SCls K (cl c)
  i : SlX.SIsi K (cl c)
  k : PySem.W.kitOne K (.ref (cl c)) (.ref (cl j)) = some b
/-- a property of the class at C: its record at p, its getter at g -/
structure PrK (K : PySem.W.Frag) (C : Addr) (f : Str) (p g : Addr) : Prop where
  at_ : PySem.W.findIn K (.ref C) f = some (some (.ref p))
  get : PySem.W.specialIn K (.ref p) "__get__" = some (some (.builtin "property.__get__"))
  tk : PySem.W.takesIn K (.ref p) = some true
  rc : ∃ rest, PySem.W.recIn K p "property" = some (.ref g :: rest)
/-- where an error's class stands -/
abbrev xa (cl : Cl) (c : Nat) : Addr := cl (c + 8192)
/-- what the written part says of an error's class -/
def ExK (prog : Program) (K : PySem.W.Frag) (C : Addr) (e : Xc) : Prop := match e.fld with
  | none => ∃ (B newId i : String) (bmB : List Value), ExcBaseFacts B newId i bmB ∧ PySem.W.excIn K C bmB newId = true ∧ PySem.W.keepIn K (.ref C) = true ∧ PySem.W.subIn K (.ref C) (.type "BaseException") = some true ∧ PySem.W.typeIn K (.ref C) = some (.type "type")
  | some f => ∃ (B newId i : String) (bmB : List Value), BasF B newId i bmB ∧ XnK prog K B newId i bmB C f ∧ XfC K C ∧ PySem.W.findIn K (.ref C) f = some none
structure Md (nm : Nm) (cl : Cl) (P : Prg) (cal : Cal) (n : Nat) (prog : Program) (w : World) (K : PySem.W.Frag) (mg : Str → Option Value) (base : Heap) : Prop where
  fn : ∀ f : Nat, f < nm.nf → FnR prog w K mg base (L2.CX prog w) (5 * n) (fa cl f) (spC nm mg ⟨K, cl⟩ (cal f))
  bad : ∀ f : Nat, ¬ f < nm.nf → ∀ vs S, cal f vs S = .bad
  gf : ∀ (f : Nat) (x : Str), nm.fns[f]? = some x → f < nm.nf ∧ mg x = some (.ref (fa cl f)) ∧ PySem.W.keepIn K (.ref (fa cl f)) = true
  gl : ∀ (g : Nat) (x : Str) (d : D), nm.globs[g]? = some x → P.globs[g]? = some d → ∃ (u : Value) (v : V), mg x = some u ∧ RelV v u ∧ ∀ G, Rep ⟨K, cl⟩ G d v
  bt : ∀ b : Bi, mg (biName b) = none
  bo : ∀ x ∈ (["isinstance", "range", "zip", "enumerate", "bool", "dict", "sorted"] : List Str), mg x = none
  op : ∀ (o : BOp) (c f : Nat), P.opf o c = some f → OpInt K (cl c) (fa cl f) (bop o)
  eq : ∀ c f : Nat, P.eqf c = some f → PySem.W.findIn K (.ref (cl c)) "__eq__" = some (some (.ref (fa cl f))) ∧ PySem.W.isFn K (.ref (fa cl f)) = true ∧ PySem.W.findIn K (.ref (cl c)) "__ne__" = some (some (.builtin "object.__ne__")) ∧ PySem.W.plainOver K (cl c) = true
  ln : ∀ c f : Nat, P.lnf c = some f → PySem.W.findIn K (.ref (cl c)) "__len__" = some (some (.ref (fa cl f))) ∧ PySem.W.isFn K (.ref (fa cl f)) = true
  bl : ∀ c f : Nat, P.bof c = some f → PySem.W.findIn K (.ref (cl c)) "__bool__" = some (some (.ref (fa cl f))) ∧ PySem.W.isFn K (.ref (fa cl f)) = true
  sr : ∀ c f : Nat, P.stf c = some f → PySem.W.findIn K (.ref (cl c)) "__str__" = some (some (.ref (fa cl f))) ∧ PySem.W.isFn K (.ref (fa cl f)) = true
  mkk : ∀ (j : Nat) (q : Nat × Nat), P.mks[j]? = some q → q.2 < nm.nf ∧ Mk K (cl q.1) (fa cl q.2)
  mn : ∀ (j : Nat) (q : Nat × Nat) (x : Str), P.mks[j]? = some q → nm.mks[j]? = some x → mg x = some (.ref (cl q.1))
  sl : ∀ (j : Nat) (q : Nat × Nat) (x : Str), P.sls[j]? = some q → nm.sls[j]? = some x → SlX.SCls K (cl q.1) ∧ ∃ p, SlX.Slot1 K (cl q.1) x p q.2
  mt : ∀ (j : Nat) (q : Nat × Nat) (x : Str), P.mts[j]? = some q → nm.mts[j]? = some x → q.2 < nm.nf ∧ SlX.SCls K (cl q.1) ∧ Meth K (cl q.1) x (fa cl q.2)
  pr : ∀ (j : Nat) (q : Nat × Nat) (x : Str), P.prs[j]? = some q → nm.prs[j]? = some x → q.2 < nm.nf ∧ SlX.SCls K (cl q.1) ∧ ∃ p, PrK K (cl q.1) x p (fa cl q.2)
  cm : ∀ (j : Nat) (q : Nat × Nat) (c x : Str), P.cms[j]? = some q → nm.cms[j]? = some (c, x) → q.2 < nm.nf ∧ mg c = some (.ref (cl q.1)) ∧ ∃ mc p, ClX.CRead K (cl q.1) mc ∧ ClX.CMet K (cl q.1) mc x p (fa cl q.2)
  is : ∀ (j : Nat) (x : Str), nm.cls[j]? = some x → mg x = some (.ref (cl j)) ∧ (∀ T ∈ (["NoneType", "bool", "int", "str", "tuple", "list", "dict"] : List String), PySem.W.kitOne K (.type T) (.ref (cl j)) = some false)
  isc : ∀ (j : Nat) (x : Str) (c : Nat) (b : Bool), nm.cls[j]? = some x → P.isc c j = some b → IsC K cl b j c
  ex : ∀ (c : Nat) (e : Xc), nm.excs[c]? = some e → mg e.name = some (.ref (xa cl c)) ∧ ExK prog K (xa cl c) e
  sb : ∀ (c c' : Nat) (e e' : Xc), nm.excs[c]? = some e → nm.excs[c']? = some e' → PySem.W.exmOne K (.ref (xa cl c)) (.ref (xa cl c')) = some (nm.sub c c')
  ps : P.sub = nm.sub
  dg : PySem.W.nsOkIn K cStatics = true ∧ PySem.W.nsIn K cStatics "sys.int_max_str_digits" = some none
  rf : ∀ (j : Nat) (x : Str) (q : Nat × Nat), nm.rfs[j]? = some (x, q) → P.rfs[j]? = some q ∧ (∃ e1 e2, nm.excs[q.1]? = some e1 ∧ nm.excs[q.2]? = some e2) ∧ RfK K mg x (xa cl q.1) (xa cl q.2)
  rp : mg "repr" = none
/-- the same defs, with lambdas or without -/
abbrev Nm.put (nm : Nm) (b : Bool) : Nm := { nm with lam := b }
theorem Md.put {nm : Nm} {cl : Cl} {P : Prg} {cal : Cal} {n : Nat} {prog : Program} {w : World} {K : PySem.W.Frag} {mg : Str → Option Value} {base : Heap} (M : Md nm cl P cal n prog w K mg base) (b : Bool) : Md (nm.put b) cl P cal n prog w K mg base :=
  ⟨M.fn, M.bad, M.gf, M.gl, M.bt, M.bo, M.op, M.eq, M.ln, M.bl, M.sr, M.mkk, M.mn, M.sl, M.mt, M.pr, M.cm, M.is, M.isc, M.ex, M.sb, M.ps, M.dg, M.rf, M.rp⟩
/-- a lambda may be made in the def that runs -/
def LmX (cl : Cl) (n : Nat) (X : Cx) : Prop := Room (5 * n + 4) X.A ∧ ∃ c P, X.env.code = .ref c ∧ LamX.TabB X.base X.mg c P ∧ (P, X.env.qual ++ "<lambda>") ∈ cl.tabs ∧ ∀ p ∈ cl.tabs, p.1 = P → p.2 = X.env.qual ++ "<lambda>"
structure Ck (nm : Nm) (cl : Cl) (P : Prg) (cal : Cal) (n : Nat) (X : Cx) (W : WX) : Prop where
  calm : X.calm = true
  nodup : X.N.Nodup
  tk : Takes X W
  po : PassesOwn (model X.prog X.w) X.A X.env X.xe
  room : Room (5 * n + 2) X.A
  md : Md nm cl P cal n X.prog X.w X.K X.mg X.base
  lm : nm.lam = true → LmX cl n X
abbrev TX (nm : Nm) (cl : Cl) (X : Cx) (W : WX) (f : Ev → Hs → R Vl) : TE := tX nm.excs X.mg (kx cl X) W (RepV (kx cl X)) f
abbrev TXs (nm : Nm) (cl : Cl) (X : Cx) (W : WX) (f : Ev → Hs → R (List Vl)) : TA := tX nm.excs X.mg (kx cl X) W (RVs (kx cl X)) f
section
variable {nm : Nm} {cl : Cl} {P : Prg} {cal : Cal} {n : Nat} {X : Cx} {W : WX} {e l r : Expr} {es : List Expr} {pos : Pos} {x y z : Ex}
theorem okN_d {s : Str} (h : okN s = true) : (s == ("__debug__" : Str)) = false ∧ (s == ("__classdict__" : Str)) = false ∧ s ≠ ("__name__" : Str) := by
  unfold okN at h
  simp only [Bool.and_eq_true, Bool.not_eq_true', decide_eq_false_iff_not] at h
  exact ⟨h.1.1, h.1.2, h.2⟩
theorem visB_d {sc : Scope} {s : Str} (h : visB sc s = true) : Vis sc s := by
  unfold visB at h
  split at h
  · exact .inl (by assumption)
  · exact .inr (.inl (by assumption))
  · exact .inr (.inr (by assumption))
  · cases h
theorem glB_d {sc : Scope} {s : Str} (h : glB sc s = true) : sc.names.lookup s = some .globalImplicit := of_decide_eq_true h
theorem e_var {i : Nat} {s : Str} (hN : X.N[i]? = some s) (hv : visB X.env.scope s = true) (ho : okN s = true) : PE X (.Name s pos) (TX nm cl X W (ev P cal (.var i))) := by
  refine PE.imp (pe_var hN (visB_d hv) (okN_d ho).1 (okN_d ho).2.1) fun σ H Q ⟨F, G, m, r, S, rl, rv, o⟩ => ?_
  simp only [ev] at o
  split at o
  · rename_i x hr
    obtain ⟨u, h1, h2⟩ := rv.2 i _ hr (fun _ _ z => by cases z)
    exact ⟨u, h1, o G m H u .refl rl (Rep.wk h2)⟩
  · rename_i x hr
    obtain ⟨u, h1, h2⟩ := rv.2 i _ hr (fun _ _ z => by cases z)
    exact ⟨u, h1, o G m H u .refl rl h2⟩
  · exact o.elim
theorem e_varp {i : Nat} {s : Str} (hN : X.N[i]? = some s) (hv : visB X.env.scope s = true) (ho : okN s = true) : PE X (.Name s pos) (TX nm cl X W (ev P cal (.varp i))) := by
  refine PE.imp (pe_var hN (visB_d hv) (okN_d ho).1 (okN_d ho).2.1) fun σ H Q ⟨F, G, m, r, S, rl, rv, o⟩ => ?_
  simp only [ev] at o
  split at o
  · rename_i x hr
    obtain ⟨u, h1, h2⟩ := rv.2 i _ hr (fun _ _ z => by cases z)
    exact ⟨u, h1, o G m H u .refl rl h2⟩
  · exact o.elim
theorem e_vard {i : Nat} {s : Str} (hN : X.N[i]? = some s) (hv : visB X.env.scope s = true) (ho : okN s = true) : PE X (.Name s pos) (TX nm cl X W (ev P cal (.vard i))) := by
  refine PE.imp (pe_var hN (visB_d hv) (okN_d ho).1 (okN_d ho).2.1) fun σ H Q ⟨F, G, m, r, S, rl, rv, o⟩ => ?_
  simp only [ev] at o
  split at o
  · rename_i x hr
    obtain ⟨u, h1, h2⟩ := rv.2 i _ hr (fun _ _ z => by cases z)
    exact ⟨u, h1, o G m H u .refl rl (Rep.wkd h2)⟩
  · exact o.elim
theorem e_glob {g : Nat} {s : Str} (C : Ck nm cl P cal n X W) (hg : nm.globs[g]? = some s) (h1 : glB X.env.scope s = true) (ho : okN s = true) : PE X (.Name s pos) (TX nm cl X W (ev P cal (.glob g))) := by
  cases e : P.globs[g]? with
  | none => exact ⟨fun pins s σ H Q I ⟨F, G, m, r, S, rl, rv, o⟩ => by simp only [ev, e] at o; exact o.elim⟩
  | some d =>
    obtain ⟨u, v, q1, q2, q3⟩ := C.md.gl g s d hg e
    refine PE.imp (pe_glob (glB_d h1) q1 q2 (okN_d ho).1) fun σ H Q ⟨F, G, m, r, S, rl, rv, o⟩ => ?_
    simp only [ev, e] at o
    exact o G m H v .refl rl (q3 G)
theorem e_const {c : PySem.Const} {j : Nat} {v : V} {d : D} (h : PE X (.Constant c j pos) (tC v)) (hx : ∀ r S, ev P cal x r S = .ok (.d d) S) (hr : ∀ G, Rep (kx cl X) G d v) : PE X (.Constant c j pos) (TX nm cl X W (ev P cal x)) := by
  refine PE.imp h fun σ H Q ⟨F, G, m, r, S, rl, rv, o⟩ => ?_
  rw [hx] at o
  exact o G m H v .refl rl (hr G)
theorem Out.wish {xs : List Xc} {mg : Str → Option Value} {K : Fg} {W : WX} {σ : L2.St} {F G : Hp} {m : List Addr} {Q : VK} {x : R Vl} (h : OutV xs mg K W F σ G m Q x) : OutV xs mg K (fun cls d _ H => WE W σ cls d H) F [] G m Q x := by
  cases x with
  | ok v S => exact h
  | exc c fs S => exact h
  | bad => exact h
/-- a def of the program, as it may be called here -/
theorem Ck.go (C : Ck nm cl P cal n X W) {f : Nat} : ∃ sp : Sp, (f < nm.nf → FnR X.prog X.w X.K X.mg X.base (L2.CX X.prog X.w) (5 * n) (fa cl f) sp) ∧
    ∀ (σ : L2.St) (F G : Hp) (m : List Addr) (vs : List Vl) (us : List V) (S : Hs) (H : Hp) (Q : VK), Rl (kx cl X) F G m S H → RVs (kx cl X) G m vs us → OutV nm.excs X.mg (kx cl X) W F σ G m Q (cal f vs S) → f < nm.nf ∧ sp us H Q (WE W σ) := by
  by_cases hf : f < nm.nf
  · exact ⟨_, fun _ => C.md.fn f hf, fun σ F G m vs us S H Q l r out => ⟨hf, F, G, m, vs, S, l, r, Out.wish out⟩⟩
  · exact ⟨fun _ _ _ _ => True, fun h => absurd h hf, fun σ F G m vs us S H Q l r out => by rw [C.md.bad f hf] at out; exact out.elim⟩
theorem rep_slt {K : Fg} {G H : Hp} {c : Nat} {fs : List D} {u : V} (e : Ext G H) (r : Rep K G (.ins c fs) u) : ∃ a dx vs, u = .ref a ∧ SlX.Slt H a (K.cl c) dx vs := by
  cases r with
  | ins h1 h2 _ _ => exact ⟨_, _, _, rfl, .inr ⟨e _ _ h1, e _ _ h2⟩⟩
/-- an operator by a def of the class -/
def rOwnB (nm : Nm) (cl : Cl) (P : Prg) (cal : Cal) (X : Cx) (W : WX) (o : BOp) : L2.St → V → V → Hp → VK → Prop := fun σ x y H Q =>
  ∃ (c f : Nat) (F G : Hp) (m : List Addr) (fs : List D) (d : D) (S : Hs), P.opf o c = some f ∧ okR c d = true ∧ Rl (kx cl X) F G m S H ∧ Rep (kx cl X) G (.ins c fs) x ∧ Rep (kx cl X) G d y ∧ OutV nm.excs X.mg (kx cl X) W F σ G m Q (cal f [.d (.ins c fs), .d d] S)
theorem op_ownB {o : BOp} (C : Ck nm cl P cal n X W) {pins : List (Addr × Obj)} {s : Shared} {σ : L2.St} {H : Hp} {x y : V} {v u : Value} {Q : VK} (I : Inv X pins σ H s) (rx : RelV x v) (ry : RelV y u) (h : rOwnB nm cl P cal X W o σ x y H Q) :
    wpAny (model X.prog X.w) X.A (binaryOp (bop o) v u) (EP X pins σ Q) X.xe s := by
  obtain ⟨c, f, F, G, m, fs, d, S, hp, ho, l, r1, r2, out⟩ := h
  obtain ⟨sp, g1, g2⟩ := C.go (f := f)
  obtain ⟨hf, hs⟩ := g2 σ F G m [.d (.ins c fs), .d d] [x, y] S H Q l (.cons r1 (.cons r2 .nil)) out
  obtain ⟨a, dx, vs, rfl, sl⟩ := rep_slt l.ext r1
  obtain rfl : v = Value.ref a := rx
  have k := C.md.op o c f hp
  cases d with
  | ins c' fs' =>
    have e : c' = c := eq_of_beq ho
    subst e
    obtain ⟨b, dy, ws, rfl, sl'⟩ := rep_slt l.ext r2
    obtain rfl : u = Value.ref b := ry
    exact bin_ins k.toOpOwn (g1 hf) (C.room.mono (by omega)) (passAt C.tk σ) I sl sl' hs
  | int i =>
    cases r2
    exact bin_int k (g1 hf) (C.room.mono (by omega)) (passAt C.tk σ) I sl ry hs
  | _ => cases ho
theorem e_bin {o : BOp} (C : Ck nm cl P cal n X W) (ha : PE X l (TX nm cl X W (ev P cal x))) (hb : PE X r (TX nm cl X W (ev P cal y))) : PE X (.BinOp l (bop o) r pos) (TX nm cl X W (ev P cal (.bin o x y))) := by
  refine PE.imp (pe_opS (rd := fun σ x y H Q => rB (kx cl X) o x y H Q ∨ rOwnB nm cl P cal X W o σ x y H Q) ha hb fun pins s σ H x y v u Q I rx ry h => h.elim (op_rB (cl := cl) o pins s σ H x y v u Q I rx ry) (op_ownB C I rx ry)) fun σ H Q ⟨F, G, m, r, S, rl, rv, out⟩ => ?_
  simp only [ev] at out
  refine tX.bind rl rv out fun u1 H1 G1 m1 v1 S1 g1 l1 rv1 r1 out => ?_
  refine tX.bind l1 rv1 out fun u2 H2 G2 m2 v2 S2 g2 l2 rv2 r2 out => ?_
  cases v1 with
  | loc _ => exact out.elim
  | xc _ _ => exact out.elim
  | d a =>
  cases v2 with
  | loc _ => cases a <;> exact out.elim
  | xc _ _ => cases a <;> exact out.elim
  | d b =>
  cases a with
  | ins c fs =>
    dsimp only at out
    by_cases hk : okR c b = true
    · rw [if_pos hk] at out
      cases hf : P.opf o c with
      | none => rw [hf] at out; exact out.elim
      | some f => rw [hf] at out; exact .inr ⟨c, f, F, G2, m2, fs, b, S2, hf, hk, l2, Rep.mono g2.1 r1, r2, out⟩
    · rw [if_neg hk] at out; exact out.elim
  | _ =>
    obtain ⟨d, hd, g⟩ := Out.optD out l2
    exact .inl ⟨G2, _, _, d, l2.ext, Rep.mono g2.1 r1, r2, hd, g⟩
theorem e_neg (ha : PE X l (TX nm cl X W (ev P cal x))) : PE X (.UnaryOp .USub l pos) (TX nm cl X W (ev P cal (.neg x))) := by
  refine PE.imp (pe_un un_neg ha) fun σ H Q ⟨F, G, m, r, S, rl, rv, out⟩ => ?_
  simp only [ev] at out
  refine tX.bind rl rv out fun u1 H1 G1 m1 v1 S1 g1 l1 rv1 r1 out => ?_
  split at out
  · cases r1; exact ⟨_, rfl, (Out.gives out l1).here (.int _)⟩
  · exact out.elim
theorem behind_e {sc : Scope} {N : List Str} (h : isE nm N sc y r = true) (op : CmpOp) : behindInMarks op r = false := by
  cases r with
  | Set _ _ _ => cases y <;> cases h
  | _ => rfl
/-- == and != by the class's __eq__ -/
def rOwnC (nm : Nm) (cl : Cl) (P : Prg) (cal : Cal) (X : Cx) (W : WX) (o : COp) : L2.St → V → V → Hp → VK → Prop := fun σ x y H Q =>
  ∃ (c f : Nat) (F G : Hp) (m : List Addr) (fs : List D) (d : D) (S : Hs), P.eqf c = some f ∧ okE c d = true ∧ Rl (kx cl X) F G m S H ∧ Rep (kx cl X) G (.ins c fs) x ∧ Rep (kx cl X) G d y ∧
    ((o = .eq ∧ OutV nm.excs X.mg (kx cl X) W F σ G m Q (cal f [.d (.ins c fs), .d d] S)) ∨
     (o = .ne ∧ OutV nm.excs X.mg (kx cl X) W F σ G m (fun z H' => ∃ k, z = .bl k ∧ Q (.bl (!k)) H') (cal f [.d (.ins c fs), .d d] S)))
theorem op_ownC {o : COp} (C : Ck nm cl P cal n X W) {pins : List (Addr × Obj)} {s : Shared} {σ : L2.St} {H : Hp} {x y : V} {v u : Value} {Q : VK} (I : Inv X pins σ H s) (rx : RelV x v) (ry : RelV y u) (h : rOwnC nm cl P cal X W o σ x y H Q) :
    wpAny (model X.prog X.w) X.A (compareOp (cop o) v u) (EP X pins σ Q) X.xe s := by
  obtain ⟨c, f, F, G, m, fs, d, S, hp, ho, l, r1, r2, h⟩ := h
  obtain ⟨sp, g1, g2⟩ := C.go (f := f)
  obtain ⟨k1, k2, k3, k4⟩ := C.md.eq c f hp
  obtain ⟨a, dx, vs, rfl, sl⟩ := rep_slt l.ext r1
  obtain rfl : v = Value.ref a := rx
  cases d with
  | ins c' fs' =>
    have e : c' = c := eq_of_beq ho
    subst e
    obtain ⟨b, dy, ws, rfl, sl'⟩ := rep_slt l.ext r2
    obtain rfl : u = Value.ref b := ry
    rcases h with ⟨rfl, out⟩ | ⟨rfl, out⟩
    · obtain ⟨hf, hs⟩ := g2 σ F G m [.d (.ins c' fs), .d (.ins c' fs')] [.ref a, .ref b] S H Q l (.cons r1 (.cons r2 .nil)) out
      exact eq_ins (op := .Eq) (fun _ _ => rfl) k1 k2 (by unfold PySem.W.notFirst; simp) (g1 hf) (C.room.mono (by omega)) (passAt C.tk σ) I sl sl' hs
    · obtain ⟨hf, hs⟩ := g2 σ F G m [.d (.ins c' fs), .d (.ins c' fs')] [.ref a, .ref b] S H _ l (.cons r1 (.cons r2 .nil)) out
      exact ne_ins k1 k2 k3 k4 (g1 hf) (C.room.mono (by omega)) (passAt C.tk σ) I sl sl' hs
  | _ => cases ho
theorem cmp_read {o : COp} {σ : L2.St} {H : Hp} {Q : VK} (h : TX nm cl X W (ev P cal (.cmp o x y)) σ H Q) :
    TX nm cl X W (ev P cal x) σ H fun a H1 => TX nm cl X W (ev P cal y) σ H1 fun b H2 => rC (kx cl X) o a b H2 Q ∨ rOwnC nm cl P cal X W o σ a b H2 Q := by
  obtain ⟨F, G, m, r, S, rl, rv, out⟩ := h
  simp only [ev] at out
  refine tX.bind rl rv out fun u1 H1 G1 m1 v1 S1 g1 l1 rv1 r1 out => ?_
  refine tX.bind l1 rv1 out fun u2 H2 G2 m2 v2 S2 g2 l2 rv2 r2 out => ?_
  cases ea : rdV v1 S2 with
  | none => rw [ea] at out; exact out.elim
  | some a =>
  cases eb : rdV v2 S2 with
  | none => rw [ea, eb] at out; cases a <;> exact out.elim
  | some b =>
  rw [ea, eb] at out
  have q1 := rdV_rd l2 (r1.mono g2) ea
  have q2 := rdV_rd l2 r2 eb
  cases a with
  | ins c fs =>
    dsimp only at out
    by_cases hk : okE c b = true
    · rw [if_pos hk] at out
      cases hf : P.eqf c with
      | none => rw [hf] at out; exact out.elim
      | some f =>
        rw [hf] at out
        have z1 : Rep (kx cl X) G2 (.ins c fs) u1 := by
          rcases q1 with q | ⟨_, _, _, q, _⟩
          · exact q
          · cases q
        have z2 : Rep (kx cl X) G2 b u2 := by
          rcases q2 with q | ⟨_, _, _, q, _⟩
          · exact q
          · subst q; cases hk
        refine .inr ⟨c, f, F, G2, m2, fs, b, S2, hf, hk, l2, z1, z2, ?_⟩
        cases o with
        | eq => exact .inl ⟨rfl, out⟩
        | ne =>
          refine .inr ⟨rfl, (Out.bind (RR := RepV (kx cl X)) out).imp fun u' H' ⟨G3, m3, v3, S3, g3, l3, r3, o3⟩ => ?_⟩
          cases v3 with
          | loc _ => exact o3.elim
          | xc _ _ => exact o3.elim
          | d w =>
            cases w with
            | bl k => cases r3; exact ⟨k, rfl, (Out.gives o3 l3).here (.bl _)⟩
            | _ => exact o3.elim
        | _ => exact out.elim
    · rw [if_neg hk] at out; exact out.elim
  | _ =>
    refine .inl ?_
    cases hk : cmpD o _ b with
    | none => dsimp only at out; rw [hk] at out; exact out.elim
    | some k =>
      dsimp only at out
      rw [hk] at out
      exact ⟨G2, _, b, k, l2.ext, q1, q2, hk, (Out.gives out l2).here (.bl k)⟩
theorem pc_own {o : COp} (C : Ck nm cl P cal n X W) (ha : PE X l (TX nm cl X W (ev P cal x))) (hb : PE X r (TX nm cl X W (ev P cal y))) :
    PC X (cop o) l r (fun σ H Q => TX nm cl X W (ev P cal x) σ H fun a H1 => TX nm cl X W (ev P cal y) σ H1 fun b H2 => rC (kx cl X) o a b H2 Q ∨ rOwnC nm cl P cal X W o σ a b H2 Q) :=
  pc_S ha hb fun pins s σ H x y v u Q I rx ry h => h.elim (op_rC (cl := cl) o C.room.units pins s σ H x y v u Q I rx ry) (op_ownC C I rx ry)
theorem e_cmp {o : COp} (C : Ck nm cl P cal n X W) (hm : behindInMarks (cop o) r = false) (ha : PE X l (TX nm cl X W (ev P cal x))) (hb : PE X r (TX nm cl X W (ev P cal y))) :
    PE X (.Compare l [cop o] [r] pos) (TX nm cl X W (ev P cal (.cmp o x y))) := PE.imp (pe_cmp (pc_own C ha hb) hm) fun _ _ _ h => cmp_read h
theorem t_cmp {o : COp} (C : Ck nm cl P cal n X W) (hm : behindInMarks (cop o) r = false) (ha : PE X l (TX nm cl X W (ev P cal x))) (hb : PE X r (TX nm cl X W (ev P cal y))) :
    PT X (.Compare l [cop o] [r] pos) (tB (TX nm cl X W (ev P cal (.cmp o x y)))) := PT.imp (pt_cmp (pc_own C ha hb) hm) fun _ _ _ h => cmp_read h
theorem chain_read {o o' : COp} {σ : L2.St} {H : Hp} {Q : VK} (h : TX nm cl X W (ev P cal (.chain o o' x y z)) σ H Q) :
    tChain (rC (kx cl X) o) (rC (kx cl X) o') (TX nm cl X W (ev P cal x)) (TX nm cl X W (ev P cal y)) (TX nm cl X W (ev P cal z)) σ H Q := by
  obtain ⟨F, G, m, r, S, rl, rv, out⟩ := h
  simp only [ev] at out
  refine tX.bind rl rv out fun u1 H1 G1 m1 v1 S1 g1 l1 rv1 r1 out => ?_
  refine tX.bind l1 rv1 out fun u2 H2 G2 m2 v2 S2 g2 l2 rv2 r2 out => ?_
  cases v1 with
  | d a =>
    cases v2 with
    | d b =>
      dsimp only at out
      cases hk : cmpD o a b with
      | none => rw [hk] at out; exact out.elim
      | some k =>
        rw [hk] at out
        cases k with
        | true =>
          refine ⟨G2, _, _, true, l2.ext, .inl (Rep.mono g2.1 r1), .inl r2, hk, true, rfl, iteT ?_⟩
          refine tX.bind l2 rv2 out fun u3 H3 G3 m3 v3 S3 g3 l3 rv3 r3 out => ?_
          cases v3 with
          | d c =>
            dsimp only at out
            cases hk2 : cmpD o' b c with
            | none => rw [hk2] at out; exact out.elim
            | some k =>
              rw [hk2] at out
              exact ⟨G3, _, _, k, l3.ext, .inl (Rep.mono g3.1 r2), .inl r3, hk2, (Out.gives out l3).here (.bl k)⟩
          | loc _ => exact out.elim
          | xc _ _ => exact out.elim
        | false => exact ⟨G2, _, _, false, l2.ext, .inl (Rep.mono g2.1 r1), .inl r2, hk, false, rfl, iteF ((Out.gives out l2).here (.bl false))⟩
    | loc _ => exact out.elim
    | xc _ _ => exact out.elim
  | loc _ => exact out.elim
  | xc _ _ => exact out.elim
theorem e_chain {o o' : COp} {r' : Expr} (C : Ck nm cl P cal n X W) (hm : behindInMarks (cop o') r' = false) (ha : PE X l (TX nm cl X W (ev P cal x))) (hb : PE X r (TX nm cl X W (ev P cal y))) (hc : PE X r' (TX nm cl X W (ev P cal z))) :
    PE X (.Compare l [cop o, cop o'] [r, r'] pos) (TX nm cl X W (ev P cal (.chain o o' x y z))) :=
  PE.imp (pe_chain (op_rC (cl := cl) o C.room.units) (op_rC (cl := cl) o' C.room.units) ha hb hc (by exact hm)) fun _ _ _ h => chain_read h
theorem t_chain {o o' : COp} {r' : Expr} (C : Ck nm cl P cal n X W) (hm : behindInMarks (cop o') r' = false) (ha : PE X l (TX nm cl X W (ev P cal x))) (hb : PE X r (TX nm cl X W (ev P cal y))) (hc : PE X r' (TX nm cl X W (ev P cal z))) :
    PT X (.Compare l [cop o, cop o'] [r, r'] pos) (tB (TX nm cl X W (ev P cal (.chain o o' x y z)))) :=
  PT.imp (pt_chain (op_rC (cl := cl) o C.room.units) (op_rC (cl := cl) o' C.room.units) ha hb hc (by exact hm)) fun _ _ _ h => chain_read h
theorem t_not (ha : PT X l (tB (TX nm cl X W (ev P cal x)))) : PT X (.UnaryOp .Not l pos) (tB (TX nm cl X W (ev P cal (.not x)))) := by
  refine PT.imp (pt_not ha) fun σ H Q ⟨F, G, m, r, S, rl, rv, out⟩ => ?_
  simp only [ev] at out
  refine tX.bind rl rv out fun u1 H1 G1 m1 v1 S1 g1 l1 rv1 r1 out => ?_
  split at out
  · cases r1
    obtain ⟨c, e, q⟩ := (Out.gives out l1).here (.bl _)
    cases e
    exact ⟨_, rfl, q⟩
  · exact out.elim
theorem e_not (ha : PE X l (TX nm cl X W (ev P cal x))) : PE X (.UnaryOp .Not l pos) (TX nm cl X W (ev P cal (.not x))) := by
  refine PE.imp (pe_not ha) fun σ H Q ⟨F, G, m, r, S, rl, rv, out⟩ => ?_
  simp only [ev] at out
  refine tX.bind rl rv out fun u1 H1 G1 m1 v1 S1 g1 l1 rv1 r1 out => ?_
  split at out
  · cases r1
    exact ⟨_, rfl, (Out.gives out l1).here (.bl _)⟩
  · exact out.elim
theorem e_and (ha : PE X l (TX nm cl X W (ev P cal x))) (hb : PE X (.BoolOp .And (r :: es) pos) (TX nm cl X W (ev P cal y))) : PE X (.BoolOp .And (l :: r :: es) pos) (TX nm cl X W (ev P cal (.and x y))) := by
  refine PE.imp (pe_and ha hb) fun σ H Q ⟨F, G, m, r, S, rl, rv, out⟩ => ?_
  simp only [ev] at out
  refine tX.bind rl rv out fun u1 H1 G1 m1 v1 S1 g1 l1 rv1 r1 out => ?_
  split at out
  · cases r1; exact ⟨true, rfl, iteT (⟨F, G1, m1, r, S1, l1, rv1, out⟩)⟩
  · cases r1; exact ⟨false, rfl, iteF ((Out.gives out l1).here (.bl false))⟩
  · exact out.elim
theorem e_or (ha : PE X l (TX nm cl X W (ev P cal x))) (hb : PE X (.BoolOp .Or (r :: es) pos) (TX nm cl X W (ev P cal y))) : PE X (.BoolOp .Or (l :: r :: es) pos) (TX nm cl X W (ev P cal (.or x y))) := by
  refine PE.imp (pe_or ha hb) fun σ H Q ⟨F, G, m, r, S, rl, rv, out⟩ => ?_
  simp only [ev] at out
  refine tX.bind rl rv out fun u1 H1 G1 m1 v1 S1 g1 l1 rv1 r1 out => ?_
  split at out
  · cases r1; exact ⟨true, rfl, iteT ((Out.gives out l1).here (.bl true))⟩
  · cases r1; exact ⟨false, rfl, iteF (⟨F, G1, m1, r, S1, l1, rv1, out⟩)⟩
  · exact out.elim
theorem w_and (ha : PT X l (tB (TX nm cl X W (ev P cal x)))) (hb : PW X (.BoolOp .And (r :: es) pos) (tB (TX nm cl X W (ev P cal y)))) : PW X (.BoolOp .And (l :: r :: es) pos) (tB (TX nm cl X W (ev P cal (.and x y)))) := by
  refine ⟨fun wh pins s σ H Q I ⟨F, G, m, r, S, rl, rv, out⟩ => (pw_and ha hb).run wh pins s σ H Q I ?_⟩
  simp only [ev] at out
  refine tX.bind rl rv out fun u1 H1 G1 m1 v1 S1 g1 l1 rv1 r1 out => ?_
  split at out
  · cases r1; exact ⟨true, rfl, iteT (⟨F, G1, m1, r, S1, l1, rv1, out⟩)⟩
  · cases r1
    obtain ⟨c, e, q⟩ := (Out.gives out l1).here (.bl false)
    cases e
    exact ⟨false, rfl, iteF (q)⟩
  · exact out.elim
theorem w_or (ha : PT X l (tB (TX nm cl X W (ev P cal x)))) (hb : PW X (.BoolOp .Or (r :: es) pos) (tB (TX nm cl X W (ev P cal y)))) : PW X (.BoolOp .Or (l :: r :: es) pos) (tB (TX nm cl X W (ev P cal (.or x y)))) := by
  refine ⟨fun wh pins s σ H Q I ⟨F, G, m, r, S, rl, rv, out⟩ => (pw_or ha hb).run wh pins s σ H Q I ?_⟩
  simp only [ev] at out
  refine tX.bind rl rv out fun u1 H1 G1 m1 v1 S1 g1 l1 rv1 r1 out => ?_
  split at out
  · cases r1
    obtain ⟨c, e, q⟩ := (Out.gives out l1).here (.bl true)
    cases e
    exact ⟨true, rfl, iteT (q)⟩
  · cases r1; exact ⟨false, rfl, iteF (⟨F, G1, m1, r, S1, l1, rv1, out⟩)⟩
  · exact out.elim
theorem e_ite {c : Expr} (hc : PT X c (tB (TX nm cl X W (ev P cal x)))) (ha : PE X l (TX nm cl X W (ev P cal y))) (hb : PE X r (TX nm cl X W (ev P cal z))) : PE X (.IfExp c l r pos) (TX nm cl X W (ev P cal (.ite x y z))) := by
  refine PE.imp (pe_ifExp hc ha hb) fun σ H Q ⟨F, G, m, r, S, rl, rv, out⟩ => ?_
  simp only [ev] at out
  refine tX.bind rl rv out fun u1 H1 G1 m1 v1 S1 g1 l1 rv1 r1 out => ?_
  split at out
  · cases r1; exact ⟨true, rfl, iteT (⟨F, G1, m1, r, S1, l1, rv1, out⟩)⟩
  · cases r1; exact ⟨false, rfl, iteF (⟨F, G1, m1, r, S1, l1, rv1, out⟩)⟩
  · exact out.elim
/-! ### arguments, displays, calls -/
theorem star_e {sc : Scope} {N : List Str} {env : Env} (h : isE nm N sc x e = true) : starEach (e :: es) env = (false, eval e env) :: starEach es env := by
  cases e with
  | Starred _ _ => cases x <;> cases h
  | _ => rfl
theorem base_e {env : Env} {s : Str} {t : Sem Value} (h : noC0 e = true) : attributeBase e s env t = t := by
  cases e with
  | Call f as ks p =>
    cases as with
    | nil => cases h
    | cons _ _ => cases f <;> rfl
  | _ => rfl
theorem any_star {sc : Scope} {N : List Str} {env : Env} {pos : Pos} : ∀ {x : Ex} {es : List Expr}, isA nm N sc x es = true → (backTo pos (starEach es env)).any (fun x => x.1) = false ∧ (backTo pos (starEach es env)).all (fun x => !x.1) = true
  | .nil, [], h => ⟨rfl, rfl⟩
  | .nil, _ :: _, h => by cases h
  | .cons x xs, [], h => by cases h
  | .cons x xs, e :: es, h => by
    have g := Bool.and_eq_true_iff.mp h
    obtain ⟨i1, i2⟩ := any_star (env := env) (pos := pos) g.2
    rw [star_e g.1]
    exact ⟨by show (false || (backTo pos (starEach es env)).any (fun x => x.1)) = false; rw [i1]; rfl, by show (!false && (backTo pos (starEach es env)).all (fun x => !x.1)) = true; rw [i2]; rfl⟩
  | .var _, _, h => by cases h
theorem a_nil : PA X [] (TXs nm cl X W (evs P cal .nil)) := PA.imp pa_nil fun σ H Q ⟨F, G, m, r, S, rl, rv, out⟩ => by
  simp only [evs] at out
  exact out G m H [] .refl rl .nil
theorem a_cons {xs : Ex} {sc : Scope} {N : List Str} (hs : isE nm N sc x e = true) (ha : PE X e (TX nm cl X W (ev P cal x))) (hb : PA X es (TXs nm cl X W (evs P cal xs))) : PA X (e :: es) (TXs nm cl X W (evs P cal (.cons x xs))) := by
  refine PA.imp (pa_cons ha hb (star_e hs)) fun σ H Q ⟨F, G, m, r, S, rl, rv, out⟩ => ?_
  simp only [evs] at out
  refine tX.bind rl rv out fun u1 H1 G1 m1 v1 S1 g1 l1 rv1 r1 out => ?_
  refine tX.bind l1 rv1 out fun u2 H2 G2 m2 v2 S2 g2 l2 rv2 r2 out => ?_
  exact out G2 m2 H2 _ .refl l2 (.cons (r1.mono g2) r2)
theorem RVs.length {K : Fg} {G : Hp} {m : List Addr} {vs : List Vl} {us : List V} (r : RVs K G m vs us) : vs.length = us.length := Paired.length r
theorem e_tup {k : Nat} (ha : PA X es (TXs nm cl X W (evs P cal x))) : PE X (.Tuple es k pos) (TX nm cl X W (ev P cal (.tup x))) := by
  refine PE.imp (pe_tup ha) fun σ H Q ⟨F, G, m, r, S, rl, rv, out⟩ => ?_
  simp only [ev] at out
  refine tX.bind rl rv out fun u1 H1 G1 m1 v1 S1 g1 l1 rv1 r1 out => ?_
  split at out
  · rename_i xs hx
    split at out
    · rename_i hz
      exact ⟨by rw [← r1.length]; exact small_line hz, fun p hp => (Out.gives out l1).newT l1.ext (dsOf_reps r1 hx) hp⟩
    · exact out.elim
  · exact out.elim
theorem e_lst (ha : PA X es (TXs nm cl X W (evs P cal x))) : PE X (.List es pos) (TX nm cl X W (ev P cal (.lst x))) := by
  refine PE.imp (pe_lst ha) fun σ H Q ⟨F, G, m, r, S, rl, rv, out⟩ => ?_
  simp only [ev] at out
  refine tX.bind rl rv out fun u1 H1 G1 m1 v1 S1 g1 l1 rv1 r1 out => ?_
  split at out
  · rename_i xs hx
    split at out
    · rename_i hz
      exact ⟨by rw [← r1.length]; exact small_line hz, fun p hp => (Out.gives out l1).newL l1.ext (dsOf_reps r1 hx) hp⟩
    · exact out.elim
  · exact out.elim
theorem star_args {sc : Scope} {N : List Str} {x : Ex} {pos : Pos} (hs : isA nm N sc x (e :: es) = true) : starEach (e :: es) X.env = (false, eval e X.env) :: starEach es X.env ∧ (backTo pos (starEach es X.env)).any (fun x => x.1) = false := by
  cases x with
  | cons x xs => exact ⟨star_e (Bool.and_eq_true_iff.mp hs).1, (any_star (Bool.and_eq_true_iff.mp hs).2).1⟩
  | _ => cases hs
theorem e_call {f : Nat} {s : Str} {p : Pos} {sc : Scope} {N : List Str} (C : Ck nm cl P cal n X W) (hf : nm.fns[f]? = some s) (h1 : glB X.env.scope s = true) (ho : okN s = true) (hs : isA nm N sc x (e :: es) = true)
    (ha : PA X (e :: es) (TXs nm cl X W (evs P cal x))) : PE X (.Call (.Name s p) (e :: es) [] pos) (TX nm cl X W (ev P cal (.call f x))) := by
  obtain ⟨q1, q2, q3⟩ := C.md.gf f s hf
  obtain ⟨sp, g1, g2⟩ := C.go (f := f)
  obtain ⟨s1, s2⟩ := star_args (X := X) (pos := pos) hs
  refine PE.imp (pe_fn (g1 q1) (C.room.mono (by omega)) (glB_d h1) q2 q3 (fun σ => passAt C.tk σ) ha (okN_d ho).1 s1 s2) fun σ H Q ⟨F, G, m, r, S, rl, rv, out⟩ => ?_
  simp only [ev] at out
  refine tX.bind rl rv out fun u1 H1 G1 m1 v1 S1 g1 l1 rv1 r1 out => ?_
  exact (g2 σ F G1 m1 v1 u1 S1 H1 Q l1 r1 out).2
theorem e_call0 {f : Nat} {s : Str} {p : Pos} (C : Ck nm cl P cal n X W) (hf : nm.fns[f]? = some s) (h1 : glB X.env.scope s = true) (ho : okN s = true) : PE X (.Call (.Name s p) [] [] pos) (TX nm cl X W (ev P cal (.call0 f))) := by
  obtain ⟨q1, q2, q3⟩ := C.md.gf f s hf
  obtain ⟨sp, g1, g2⟩ := C.go (f := f)
  refine PE.imp (pe_fn0 (g1 q1) (C.room.mono (by omega)) (glB_d h1) q2 q3 (fun σ => passAt C.tk σ) (okN_d ho).1) fun σ H Q ⟨F, G, m, r, S, rl, rv, out⟩ => ?_
  simp only [ev] at out
  exact (g2 σ F G m [] [] S H Q rl .nil out).2
end
end Iv
end
section
set_option autoImplicit false
set_option maxRecDepth 100000
set_option maxHeartbeats 4000000
namespace Iv
open PySem L2
section
variable {nm : Nm} {cl : Cl} {P : Prg} {cal : Cal} {n : Nat} {X : Cx} {W : WX} {e l r : Expr} {es : List Expr} {pos : Pos} {x y z : Ex}
theorem e_bi {b : Bi} {p : Pos} {sc : Scope} {N : List Str} (C : Ck nm cl P cal n X W) (h1 : glB X.env.scope (biName b) = true) (hs : isA nm N sc x (e :: es) = true)
    (ha : PA X (e :: es) (TXs nm cl X W (evs P cal x))) : PE X (.Call (.Name (biName b) p) (e :: es) [] pos) (TX nm cl X W (ev P cal (.bi b x))) := by
  have s1 : starEach (e :: es) X.env = (false, eval e X.env) :: starEach es X.env := by
    cases x with
    | cons x xs => exact star_e (Bool.and_eq_true_iff.mp hs).1
    | _ => cases hs
  have s2 : (backTo pos (starEach es X.env)).any (fun x => x.1) = false := by
    cases x with
    | cons x xs => exact (any_star (Bool.and_eq_true_iff.mp hs).2).1
    | _ => cases hs
  have key : PE X (.Call (.Name (biName b) p) (e :: es) [] pos) (tCB (rBi (kx cl X) b) (TXs nm cl X W (evs P cal x))) := by
    have hc := cr_bi (cl := cl) (X := X) C.calm b
    have hm := C.md.bt b
    cases b
    · exact pe_callB hc (glB_d h1) hm (by decide +kernel) ha (by decide +kernel) (by decide +kernel) s1 s2
    · exact pe_callTy hc (glB_d h1) hm (by decide +kernel) ha (by decide +kernel) (by decide +kernel) s1 s2
    · exact pe_callTy hc (glB_d h1) hm (by decide +kernel) ha (by decide +kernel) (by decide +kernel) s1 s2
    · exact pe_callB hc (glB_d h1) hm (by decide +kernel) ha (by decide +kernel) (by decide +kernel) s1 s2
    · exact pe_callB hc (glB_d h1) hm (by decide +kernel) ha (by decide +kernel) (by decide +kernel) s1 s2
    · exact pe_callB hc (glB_d h1) hm (by decide +kernel) ha (by decide +kernel) (by decide +kernel) s1 s2
    · exact pe_callB hc (glB_d h1) hm (by decide +kernel) ha (by decide +kernel) (by decide +kernel) s1 s2
    · exact pe_callB hc (glB_d h1) hm (by decide +kernel) ha (by decide +kernel) (by decide +kernel) s1 s2
    · exact pe_callTy hc (glB_d h1) hm (by decide +kernel) ha (by decide +kernel) (by decide +kernel) s1 s2
    · exact pe_callTy hc (glB_d h1) hm (by decide +kernel) ha (by decide +kernel) (by decide +kernel) s1 s2
    · exact pe_callB hc (glB_d h1) hm (by decide +kernel) ha (by decide +kernel) (by decide +kernel) s1 s2
    · exact pe_callB hc (glB_d h1) hm (by decide +kernel) ha (by decide +kernel) (by decide +kernel) s1 s2
    · exact pe_callB hc (glB_d h1) hm (by decide +kernel) ha (by decide +kernel) (by decide +kernel) s1 s2
    · exact pe_callB hc (glB_d h1) hm (by decide +kernel) ha (by decide +kernel) (by decide +kernel) s1 s2
    · exact pe_callTy hc (glB_d h1) hm (by decide +kernel) ha (by decide +kernel) (by decide +kernel) s1 s2
  refine PE.imp key fun σ H Q ⟨F, G, m, r, S, rl, rv, out⟩ => ?_
  simp only [ev] at out
  refine tX.bind rl rv out fun u1 H1 G1 m1 v1 S1 g1 l1 rv1 r1 out => ?_
  split at out
  · rename_i xs hx
    obtain ⟨d, hd, g⟩ := Out.optD out l1
    exact ⟨G1, xs, d, l1.ext, rdVs_rd l1 r1 hx, hd, g⟩
  · exact out.elim
theorem e_isi {t : Ty} {p p2 : Pos} {sc : Scope} {N : List Str} (C : Ck nm cl P cal n X W) (h1 : glB X.env.scope ("isinstance" : Str) = true) (h2 : glB X.env.scope (Str.ofString (tyN t)) = true) (hb : X.mg (Str.ofString (tyN t)) = none) (hs : isE nm N sc x e = true)
    (ha : PE X e (TX nm cl X W (ev P cal x))) : PE X (.Call (.Name ("isinstance" : Str) p) [e, .Name (Str.ofString (tyN t)) p2] [] pos) (TX nm cl X W (ev P cal (.isi x t))) := by
  have ht : PE X (.Name (Str.ofString (tyN t)) p2) (tC (.ty (tyN t))) := by
    refine pe_bltn (u := .type (tyN t)) (glB_d h2) hb ?_ rfl ?_ ?_ <;> cases t <;> decide +kernel
  refine PE.imp (pe_callB (call_isi (X := X)) (glB_d h1) (C.md.bo _ (by decide)) (by decide +kernel) (pa_cons ha (pa_cons ht pa_nil) (star_e hs)) (by decide +kernel) (by decide +kernel) (star_e hs) rfl) fun σ H Q ⟨F, G, m, r, S, rl, rv, out⟩ => ?_
  simp only [ev] at out
  refine tX.bind rl rv out fun u1 H1 G1 m1 v1 S1 g1 l1 rv1 r1 out => ?_
  cases v1 with
  | d a =>
    obtain ⟨d, hd, g⟩ := Out.optD out l1
    have h3 : bareD a = true ∧ d = .bl (isTy t a) := by
      cases a <;> first | (cases hd; done) | (cases hd; exact ⟨rfl, rfl⟩)
    obtain ⟨h3, rfl⟩ := h3
    exact ⟨_, _, _, _, _, rfl, .ty _, tyX_D (Rep.mono l1.ext r1) h3, kit_ty (kit_D t a h3), g.here (.bl _)⟩
  | loc _ => exact out.elim
  | xc _ _ => exact out.elim
theorem e_meth {m : Mt} {ap : Pos} {sc sc' : Scope} {N N' : List Str} (h0 : noC0 l = true) (hl : (ap.endLine == pos.line) = true) (hz : es.length < 20) (hs : isA nm N' sc' y (e :: es) = true)
    (ha : PE X l (TX nm cl X W (ev P cal x))) (hb : PA X (e :: es) (TXs nm cl X W (evs P cal y))) : PE X (.Call (.Attribute l (mtName m) ap) (e :: es) [] pos) (TX nm cl X W (ev P cal (.meth m x y))) := by
  have s1 : starEach (e :: es) X.env = (false, eval e X.env) :: starEach es X.env := by
    cases y with
    | cons x xs => exact star_e (Bool.and_eq_true_iff.mp hs).1
    | _ => cases hs
  have s2 : (backTo pos (starEach es X.env)).any (fun x => x.1) = false := by
    cases y with
    | cons x xs => exact (any_star (Bool.and_eq_true_iff.mp hs).2).1
    | _ => cases hs
  have s3 : (((backTo pos (starEach (e :: es) X.env)).all fun x => !x.1) && ((backToKw pos (keywordEach [] X.env)).all fun x => x.1.isSome) && decide ((e :: es).length + ([] : List Keyword).length + (if ([] : List Keyword).isEmpty then 0 else 1) < 30)) = true := by
    rw [(any_star hs).2]
    have : decide ((e :: es).length + ([] : List Keyword).length + (if ([] : List Keyword).isEmpty then 0 else 1) < 30) = true := decide_eq_true (by simp; omega)
    rw [this]; rfl
  have key : PE X (.Call (.Attribute l (mtName m) ap) (e :: es) [] pos) (tBM (kx cl X) "str" (rMt (kx cl X) m) (TX nm cl X W (ev P cal x)) (TXs nm cl X W (evs P cal y))) := by
    have hr := mr_mt (cl := cl) (X := X) m
    cases m
    · exact pe_bm PySem.F.plainAttrs_str PySem.F.slot_str_split PySem.F.type_str_split hr ha hb (base_e h0) s3 hl s1 s2
    · exact pe_bm PySem.F.plainAttrs_str PySem.F.slot_str_join PySem.F.type_str_join hr ha hb (base_e h0) s3 hl s1 s2
    · exact pe_bm PySem.F.plainAttrs_str PySem.F.slot_str_startswith PySem.F.type_str_startswith hr ha hb (base_e h0) s3 hl s1 s2
    · exact pe_bm PySem.F.plainAttrs_str PySem.F.slot_str_lstrip PySem.F.type_str_lstrip hr ha hb (base_e h0) s3 hl s1 s2
    · exact pe_bm PySem.F.plainAttrs_str PySem.F.slot_str_rstrip PySem.F.type_str_rstrip hr ha hb (base_e h0) s3 hl s1 s2
  refine PE.imp key fun σ H Q ⟨F, G, m', r, S, rl, rv, out⟩ => ?_
  simp only [ev] at out
  refine tX.bind rl rv out fun u1 H1 G1 m1 v1 S1 g1 l1 rv1 r1 out => ?_
  split at out
  · cases r1 with
    | str s os =>
      refine ⟨rfl, tX.bind l1 rv1 out fun u2 H2 G2 m2 v2 S2 g2 l2 rv2 r2 out => ?_⟩
      split at out
      · rename_i xs hx
        obtain ⟨d, hd, g⟩ := Out.optD out l2
        exact ⟨G2, _, xs, d, l2.ext, .str _ os, rdVs_rd l2 r2 hx, hd, g⟩
      · exact out.elim
  · exact out.elim
theorem e_ix (hp : PlainIx r) (ha : PE X l (TX nm cl X W (ev P cal x))) (hb : PE X r (TX nm cl X W (ev P cal y))) : PE X (.Subscript l r pos) (TX nm cl X W (ev P cal (.ix x y))) := by
  refine PE.imp (pe_ix (ix_D (cl := cl)) ha hb hp) fun σ H Q ⟨F, G, m, r, S, rl, rv, out⟩ => ?_
  simp only [ev] at out
  refine tX.bind rl rv out fun u1 H1 G1 m1 v1 S1 g1 l1 rv1 r1 out => ?_
  refine tX.bind l1 rv1 out fun u2 H2 G2 m2 v2 S2 g2 l2 rv2 r2 out => ?_
  split at out
  · rename_i a b ea
    obtain ⟨d, hd, g⟩ := Out.optD out l2
    exact ⟨G2, _, _, d, l2.ext, rdV_rd l2 (r1.mono g2) ea, r2, hd, fun v rv => g.here rv⟩
  · exact out.elim
theorem plainIx_e {sc : Scope} {N : List Str} (h : isE nm N sc x e = true) : PlainIx e := by
  cases e with
  | Slice _ _ _ _ => cases x <;> cases h
  | _ => exact fun _ _ => rfl
theorem o_none : PO X none (tX nm.excs X.mg (kx cl X) W (fun _ _ (a : Option Int) (b : Option Int) => a = b) (evo P cal .no)) := PO.imp po_none fun σ H Q ⟨F, G, m, r, S, rl, rv, out⟩ => by
  simp only [evo] at out
  exact out G m H none .refl rl rfl
theorem o_some (ha : PE X e (TX nm cl X W (ev P cal x))) : PO X (some e) (tX nm.excs X.mg (kx cl X) W (fun _ _ (a : Option Int) (b : Option Int) => a = b) (evo P cal (.one x))) := by
  refine PO.imp (po_some ha) fun σ H Q ⟨F, G, m, r, S, rl, rv, out⟩ => ?_
  simp only [evo] at out
  refine tX.bind rl rv out fun u1 H1 G1 m1 v1 S1 g1 l1 rv1 r1 out => ?_
  split at out
  · cases r1; exact ⟨_, rfl, out G1 m1 H1 _ .refl l1 rfl⟩
  · exact out.elim
theorem e_sl {lo hi : Option Expr} {p2 : Pos} (ha : PE X l (TX nm cl X W (ev P cal x))) (hb : PO X lo (tX nm.excs X.mg (kx cl X) W (fun _ _ (a : Option Int) (b : Option Int) => a = b) (evo P cal y))) (hc : PO X hi (tX nm.excs X.mg (kx cl X) W (fun _ _ (a : Option Int) (b : Option Int) => a = b) (evo P cal z))) :
    PE X (.Subscript l (.Slice lo hi none p2) pos) (TX nm cl X W (ev P cal (.sl x y z))) := by
  refine PE.imp (pe_slice (sl_D (cl := cl)) ha hb hc) fun σ H Q ⟨F, G, m, r, S, rl, rv, out⟩ => ?_
  simp only [ev] at out
  refine tX.bind rl rv out fun u1 H1 G1 m1 v1 S1 g1 l1 rv1 r1 out => ?_
  refine tX.bind l1 rv1 out fun u2 H2 G2 m2 v2 S2 g2 l2 rv2 r2 out => ?_
  refine tX.bind l2 rv2 out fun u3 H3 G3 m3 v3 S3 g3 l3 rv3 r3 out => ?_
  cases r2; cases r3
  cases ea : rdV v1 S3 with
  | none => rw [ea] at out; exact out.elim
  | some a =>
    rw [ea] at out
    obtain ⟨d, hd, g⟩ := Out.optD out l3
    exact ⟨G3, _, d, l3.ext, rdV_rd l3 (r1.mono (g2.trans g3)) ea, hd, g⟩
/-! ### f-strings -/
theorem e_fmt (he : PE X e (TX nm cl X W (ev P cal x))) : PE X (.FormattedValue e (-1) none pos) (TX nm cl X W (ev P cal (.fmt x))) := by
  refine PE.imp (pe_fmt he) fun σ H Q ⟨F, G, m, r, S, rl, rv, out⟩ => ?_
  simp only [ev] at out
  refine tX.bind rl rv out fun u1 H1 G1 m1 v1 S1 g1 l1 rv1 r1 out => ?_
  split at out
  · rename_i s
    split at out
    · rename_i hz
      cases r1 with
      | str _ os => exact .inl ⟨S' s, rfl, by rw [S'_length]; exact small_line hz, out G1 m1 H1 _ .refl l1 (.str s os)⟩
    · exact out.elim
  · rename_i i
    split at out
    · rename_i hz
      cases r1
      exact .inr ⟨i, rfl, Nat.lt_of_lt_of_le (log2_of hz (by decide)) (by decide), by rw [toString_decI]; exact out G1 m1 H1 _ .refl l1 (.str _ (okc_decI i))⟩
    · exact out.elim
  · exact out.elim
theorem two_digits : ∀ k : Fin 100, (if decide ((k.val : Int) < 10) = true then (⟨#[48]⟩ : PySem.Str) ++ Str.ofString (toString (k.val : Int)) else Str.ofString (toString (k.val : Int))) = S' [48 + ((k.val : Int) / 10).toNat, 48 + ((k.val : Int) % 10).toNat] := by decide +kernel
theorem pe_fmt02 {te : TE} {j : Nat} {p1 p2 : Pos} (dg : PySem.W.nsOkIn X.K cStatics = true ∧ PySem.W.nsIn X.K cStatics "sys.int_max_str_digits" = some none) (he : PE X e te) :
    PE X (.FormattedValue e (-1) (some (.JoinedStr [.Constant (.str (S' [48, 50])) j p1] p2)) pos) (fun σ H Q => te σ H fun y H1 => ∃ i : Int, y = .int i ∧ 0 ≤ i ∧ i < 100 ∧ Q (.str (S' [48 + (i / 10).toNat, 48 + (i % 10).toNat])) H1) := by
  refine ⟨fun pins s σ H Q I h => ?_⟩
  refine PySem.wpAny_FormattedValue_spec (thn (he.run pins s σ H _ I h) fun v s1 ⟨y, H1, I1, r1, i, ey, h0, h1, q⟩ => ?_)
  subst ey
  obtain ⟨t, rfl⟩ := r1
  refine PySem.wpAny_JoinedStr_one (Calls.Constant_str ⟨S' [48, 50], _, rfl, ?_⟩)
  have hd : ({ s1 with toks := s1.toks + 1 } : Shared).heap.NoDigits := ⟨_, .of_isNs (PySem.W.isNs_of_in I1.kIn dg.1), PySem.W.nsMap_none_of_in I1.kIn dg.1 dg.2⟩
  refine PyProof.Rows.formatField_int_specOf hd (PyProof.Rows.lt_digitLimit_of_lt (by omega)) (by kernel_rfl) (fun w2 hw f => ?_) (by show 2 ≤ sizeLine; decide)
  have hw2 : w2 = 2 := by rw [hw]; kernel_rfl
  have key := f.pad2 (by kernel_rfl) hw2 h0 h1
  have k2 := two_digits ⟨i.toNat, by omega⟩
  have ei : ((i.toNat : Nat) : Int) = i := by omega
  simp only [ei] at k2
  rw [key, k2]
  exact ⟨.str _, H1, I1.tok _, ⟨_, rfl⟩, q⟩
theorem e_fmt02 {j : Nat} {p1 p2 : Pos} (C : Ck nm cl P cal n X W) (he : PE X e (TX nm cl X W (ev P cal x))) :
    PE X (.FormattedValue e (-1) (some (.JoinedStr [.Constant (.str (S' [48, 50])) j p1] p2)) pos) (TX nm cl X W (ev P cal (.fmt02 x))) := by
  refine PE.imp (pe_fmt02 C.md.dg he) fun σ H Q ⟨F, G, m, r, S, rl, rv, out⟩ => ?_
  simp only [ev] at out
  refine tX.bind rl rv out fun u1 H1 G1 m1 v1 S1 g1 l1 rv1 r1 out => ?_
  split at out
  · rename_i i
    split at out
    · rename_i hz
      cases r1
      refine ⟨i, rfl, hz.1, hz.2, out G1 m1 H1 _ .refl l1 (.str _ fun c hc => ?_)⟩
      simp only [List.mem_cons, List.not_mem_nil, or_false] at hc
      have := hz.1
      have := hz.2
      omega
    · exact out.elim
  · exact out.elim
/-- the parts -/
abbrev TJ (nm : Nm) (cl : Cl) (X : Cx) (W : WX) (f : Ev → Hs → R Cs) : L2.St → Hp → (PySem.Str → Hp → Prop) → Prop := tX nm.excs X.mg (kx cl X) W (fun _ _ (a : Cs) (b : PySem.Str) => b = S' a ∧ Okc a) f
def SJ' (nm : Nm) (cl : Cl) (P : Prg) (cal : Cal) (X : Cx) (W : WX) (x : Ex) (es : List Expr) : Prop := ∃ ts, PJ X es ts ∧ ∀ acc, Okc acc → ∀ σ H Q, TJ nm cl X W (evj P cal x acc) σ H Q → tJs ts (S' acc) σ H Q
theorem j_nil : SJ' nm cl P cal X W .nil [] := ⟨[], .nil, fun acc o σ H Q ⟨F, G, m, r, S, rl, rv, out⟩ => by
  simp only [evj] at out
  exact out G m H (S' acc) .refl rl ⟨rfl, o⟩⟩
theorem j_cons {xs : Ex} (he : PE X e (TX nm cl X W (ev P cal x))) (hs : SJ' nm cl P cal X W xs es) : SJ' nm cl P cal X W (.cons x xs) (e :: es) := by
  obtain ⟨ts, pj, k⟩ := hs
  refine ⟨_ :: ts, .cons he pj, fun acc o σ H Q ⟨F, G, m, r, S, rl, rv, out⟩ => ?_⟩
  simp only [evj] at out
  refine tX.bind rl rv out fun u1 H1 G1 m1 v1 S1 g1 l1 rv1 r1 out => ?_
  split at out
  · rename_i s
    split at out
    · rename_i hz
      cases r1 with
      | str _ os =>
        refine ⟨S' s, rfl, by rw [S'_append, S'_length]; exact small_line hz, ?_⟩
        rw [S'_append]
        exact k (acc ++ s) (fun c hc => (List.mem_append.mp hc).elim (o c) (os c)) σ H1 Q ⟨F, G1, m1, r, S1, l1, rv1, out⟩
    · exact out.elim
  · exact out.elim
theorem S'_nil : S' [] = Str.empty := rfl
theorem e_fjoin {v1 v2 : Expr} {vs : List Expr} (hj : SJ' nm cl P cal X W x (v1 :: v2 :: vs)) : PE X (.JoinedStr (v1 :: v2 :: vs) pos) (TX nm cl X W (ev P cal (.fjoin x))) := by
  obtain ⟨ts, pj, k⟩ := hj
  refine PE.imp (pe_joined pj) fun σ H Q ⟨F, G, m, r, S, rl, rv, out⟩ => ?_
  simp only [ev] at out
  rw [← S'_nil]
  refine k [] (fun c hc => by simp at hc) σ H _ (tX.bind rl rv out fun u1 H1 G1 m1 v1 S1 g1 l1 rv1 r1 out => ?_)
  obtain ⟨rfl, o⟩ := r1
  exact out G1 m1 H1 _ .refl l1 (.str _ o)
end
end Iv
end
section
set_option autoImplicit false
set_option maxRecDepth 100000
set_option maxHeartbeats 4000000
namespace Iv
open PySem PySem.Spec PyProof.Rows L2
/-! ### zip(text, list) -/
def ItzS (K : PySem.W.Frag) (x : Str) (b : Addr) : It :=
  ⟨fun i H => i < x.cps.size ∧ ∃ (ys : List V) (y : V), SqL K H b ys ∧ ys[i]? = some y,
    fun i H v H' => ∃ T c y, v = .ref T ∧ H T = none ∧ H' = upd H T (.tup [.str ⟨#[c]⟩, y]) ∧ x.cps[i]? = some c ∧ ∀ ys, SqL K H b ys → ys[i]? = some y,
    fun i H => ∃ ys : List V, SqL K H b ys ∧ i ≤ x.cps.size ∧ i ≤ ys.length ∧ (i = x.cps.size ∨ i = ys.length)⟩
structure ApS (z TI TO i1 i2 b : Addr) : Prop where
  TIz : TI ≠ z
  TOz : TO ≠ z
  TITO : TI ≠ TO
  TIi1 : TI ≠ i1
  TIi2 : TI ≠ i2
  zi1 : z ≠ i1
  zi2 : z ≠ i2
  Oi1 : TO ≠ i1
  Oi2 : TO ≠ i2
  zb : z ≠ b
  Ob : TO ≠ b
  ib : i1 ≠ b
  i2b : i2 ≠ b
  i12 : i1 ≠ i2
theorem ApS.sep {z TI TO i1 i2 b : Addr} (D : ApS z TI TO i1 i2 b) : ZipSep2 z TI TO i1 i2 [i1] [i2, b] where
  TIz := D.TIz
  TOz := D.TOz
  TITO := D.TITO
  TIi1 := D.TIi1
  mem1 := by simp
  zf1 := by simp [D.zi1]
  Tf1 := by simp [D.Oi1]
  TIi2 := D.TIi2
  mem2 := by simp
  zf2 := by simp [D.zi2, D.zb]
  Tf2 := by simp [D.Oi2, D.Ob]
  sep1_2 := by simp [D.i12, D.ib]
  sep2_1 := by simp [Ne.symm D.i12]
theorem turn_zipS {P : Program} {w : World} {K : PySem.W.Frag} {elts : List Expr} {kk : Nat} {tpos : Pos} {b z TI TO i1 i2 : Addr} {x : Str} {t : Tok} (D : ApS z TI TO i1 i2 b) :
    Turn P w K (.Tuple elts kk tpos) (ItzS K x b) [z, TI, TO, i1, i2] z (fun i h => IsZip h z TI TO .none ∧ IsTupOf2 h TI (.ref i1) (.ref i2) ∧ (∃ p q, IsTupOf2 h TO p q) ∧ h.IsStrIter i1 (strIterType x) x t i ∧ h.IsListIter i2 b i) where
  mem := by simp
  obj := fun i h st c hc => by
    obtain ⟨hz, hTI, ⟨p, q, hTO⟩, ⟨o1, e1, _, d1⟩, ⟨o2, e2, _, d2⟩⟩ := st
    simp only [List.mem_cons, List.not_mem_nil, or_false] at hc
    rcases hc with rfl | rfl | rfl | rfl | rfl
    · exact ⟨_, hz, fun v q => nomatch q⟩
    · exact ⟨_, hTI, fun v q => nomatch q⟩
    · exact ⟨_, hTO, fun v q => nomatch q⟩
    · exact ⟨o1, e1, fun v q => by rw [d1] at q; cases q⟩
    · exact ⟨o2, e2, fun v q => by rw [d2] at q; cases q⟩
  keep := fun i h h' st k => by
    obtain ⟨hz, hTI, ⟨p, q, hTO⟩, ⟨o1, e1, r1⟩, h2⟩ := st
    exact ⟨k z (by simp) _ hz, k TI (by simp) _ hTI, ⟨p, q, k TO (by simp) _ hTO⟩, ⟨o1, k i1 (by simp) _ e1, r1⟩, h2.at fun o q => k i2 (by simp) o q⟩
  item := by
    intro X hP hw hK hc i pins s σ H E I hf st hg
    subst hP hw hK
    obtain ⟨hz, hTI, ⟨p0, q0, hTO⟩, h1, h2⟩ := st
    obtain ⟨hlt, ys, y, hqy, hy⟩ := hg
    obtain ⟨its, rv, p2, _⟩ := I.list hqy
    obtain ⟨u2, hu2, ru2⟩ := rv.get hy
    have hh : X.A.in1.handled = none := I.ok.hd hc
    have hlt2 : i < its.toArray.size := by
      have := (List.getElem?_eq_some_iff.mp hu2).1
      simpa using this
    have hzl : z < s.heap.objs.size := Heap.lt_size hz
    refine wpAny_pyNext_zipD2_item D.sep (Draws.text hh i1 x t) (Draws.list hh i2 b (Ne.symm D.i2b) its.toArray) hz hTI hTO h1 ⟨h2, p2.isList⟩ hlt hlt2 fun x1 x2 h' tk y1 y2 z' TO' s1' s2' hT hsz hk => ?_
    obtain ⟨c, uc, hc1, rfl⟩ := y1
    have e2 : x2 = u2 := by
      have : its[i]? = some x2 := by simpa using y2
      rw [hu2] at this
      exact (Option.some.inj this).symm
    subst e2
    refine ⟨_, rfl, wpAny_letOwnedTupleGo_zip (s := { s with heap := h', toks := tk }) z' fun h'' z'' sb => ?_⟩
    have up : ∀ {a : Addr} {o : Obj}, a ≠ z → h'.get? a = some o → h''.get? a = some o := fun {a o} na e => (sb.2 a na).trans e
    have hT2 : h''.get? s.heap.objs.size = some { cls := .type "tuple", data := .seq #[.str ⟨#[c]⟩ uc, x2] } := up (Nat.ne_of_gt hzl) hT
    have new : ObjOk X.prog X.w (upd H s.heap.objs.size (.tup [.str ⟨#[c]⟩, y])) h'' s.heap.objs.size (.tup [.str ⟨#[c]⟩, y]) :=
      ⟨by show 2 ≤ sizeLine; decide, [.str ⟨#[c]⟩ uc, x2], .cons ⟨uc, rfl⟩ (.cons ru2 .nil), ⟨_, hT2, rfl, _, rfl⟩⟩
    have I1 : Inv X pins σ (upd H s.heap.objs.size (.tup [.str ⟨#[c]⟩, y])) { s with heap := h'', toks := tk } :=
      I.turnedNew (t' := tk) (ch := [z, TI, TO, i1, i2]) (fun a o hb q => up (fun q' => hb (by simp [q'])) (hk a o (fun q' => hb (by simp [q'])) (fun q' => hb (by simp [q'])) (fun q' => hb (by simp [q'])) (fun q' => hb (by simp [q'])) q)) hf (Nat.le_refl _) new
    refine ⟨.ref s.heap.objs.size, _, I1, rfl, ⟨_, c, y, rfl, I.hok.fresh (Nat.le_refl _), rfl, hc1, fun l hl => by rw [I.list_inj hl hqy]; exact hy⟩, ⟨z'', ?_, ⟨.str ⟨#[c]⟩ uc, x2, ?_⟩, ?_, ?_⟩, fun a ha => ?_⟩
    · exact up D.TIz (hk _ _ D.TIz D.TITO D.TIi1 D.TIi2 hTI)
    · exact up D.TOz TO'
    · obtain ⟨o1, e1, r1⟩ := s1'
      exact ⟨o1, up (Ne.symm D.zi1) e1, r1⟩
    · exact s2'.1.at fun o q => up (Ne.symm D.zi2) q
    · have hlt3 : a < s.heap.objs.size := by
        simp only [List.mem_cons, List.not_mem_nil, or_false] at ha
        rcases ha with rfl | rfl | rfl | rfl | rfl
        · exact hzl
        · exact Heap.lt_size hTI
        · exact Heap.lt_size hTO
        · obtain ⟨_, e1, _⟩ := h1; exact Heap.lt_size e1
        · obtain ⟨_, e2, _⟩ := h2; exact Heap.lt_size e2
      rw [upd_ne (Nat.ne_of_lt hlt3)]
      exact (hf a ha).1
  done := by
    intro X hP hw hK hc i pins s σ H E I hf st hg
    subst hP hw hK
    obtain ⟨hz, hTI, ⟨p0, q0, hTO⟩, h1, h2⟩ := st
    obtain ⟨ys, hqy, l1, l2, hend⟩ := hg
    obtain ⟨its, rv, p2, _⟩ := I.list hqy
    have ll := rv.length
    have hh : X.A.in1.handled = none := I.ok.hd hc
    refine wpAny_pyNext_zipD2_end D.sep (Draws.text hh i1 x t) (Draws.list hh i2 b (Ne.symm D.i2b) its.toArray) hz hTI hTO h1 ⟨h2, p2.isList⟩ l1 (by simp; omega) (by simp; omega) fun h' tk hk => ⟨rfl, ?_⟩
    exact I.turnedL (t' := tk) (ch := [z, TI, TO, i1, i2]) (fun c o hb q =>
      hk c o (fun q' => hb (by simp [q'])) (fun q' => hb (by simp [q'])) (fun q' => hb (by simp [q'])) (fun q' => hb (by simp [q'])) q) hf
  self := fun A i s Q E st h => wpAny_pyIter_zip st.1 h
/-- both kinds -/
def iZipB (K : PySem.W.Frag) (ta : TA) : TI := fun σ H R => ta σ H fun vs H1 => (∃ a b xs ys, vs = [.ref a, .ref b] ∧ SqL K H1 a xs ∧ SqL K H1 b ys ∧ R (Itz K a b) H1) ∨ ∃ x b ys, vs = [.str x, .ref b] ∧ SqL K H1 b ys ∧ R (ItzS K x b) H1
theorem pi_zipB {X : Cx} {e e2 : Expr} {ta : TA} {p pos tpos : Pos} {elts : List Expr} {kk : Nat} (hg : Gl X "zip") (hm : X.mg "zip" = none) (ha : PA X [e, e2] ta)
    (hs : starEach [e, e2] X.env = (false, eval e X.env) :: starEach [e2] X.env) (hpl : (backTo pos (starEach [e2] X.env)).any (·.1) = false) :
    PI X (.Tuple elts kk tpos) (.Call (.Name "zip" p) [e, e2] [] pos) (iZipB X.K ta) := by
  refine ⟨fun pins s σ H R I h => ?_⟩
  refine Call_ (ld_blt I hg hm PyProof.Rows.boot_zip (PyProof.Rows.callWith_type1 (thn (ha.run pos pins s σ H _ I h) fun us s1 ⟨vs, H1, I1, r1, q1⟩ => ?_) hs hpl))
  have fresh5 : ∀ c, c ∈ [s1.heap.objs.size + 4, s1.heap.objs.size + 2, s1.heap.objs.size + 3, s1.heap.objs.size, s1.heap.objs.size + 1] → FpOk X pins H1 c := fun c hcm => by
    have hle : s1.heap.objs.size ≤ c := by
      simp only [List.mem_cons, List.not_mem_nil, or_false] at hcm
      omega
    exact I1.fpOk hle (I1.hok.fresh hle)
  rcases q1 with ⟨a, b, xs, ys, rfl, hqx, hqy, q⟩ | ⟨x, b, ys, rfl, hqy, q⟩
  · cases r1 with
    | cons r rr =>
      cases rr with
      | cons r' rr =>
        cases rr
        cases r
        cases r'
        obtain ⟨its, rv, p1, _⟩ := I1.list hqx
        obtain ⟨its2, rv2, p2, _⟩ := I1.list hqy
        refine call_zip_2 p1.isList p2.isList fun h' hz hTI hTO h1 h2 hsz hk => wpAny_pyIter_zip hz ?_
        have I2 : Inv X pins σ H1 { s1 with heap := h' } := I1.kept (t' := s1.toks) hk
        exact ⟨s1.heap.objs.size + 4, [s1.heap.objs.size + 4, s1.heap.objs.size + 2, s1.heap.objs.size + 3, s1.heap.objs.size, s1.heap.objs.size + 1], _, _, H1, rfl, I2, turn_zip (PySem.W.ktu_apart s1.heap.objs.size a b p1.lt p2.lt), ⟨hz, hTI, ⟨_, _, hTO⟩, h1, h2⟩, fresh5, q⟩
  · cases r1 with
    | cons r rr =>
      cases rr with
      | cons r' rr =>
        cases rr
        cases r'
        obtain ⟨tx, rfl⟩ := r
        obtain ⟨its2, rv2, p2, _⟩ := I1.list hqy
        have hb : b < s1.heap.objs.size := p2.lt
        refine zip_begins2 (begins_text x tx) (begins_list b its2.toArray) trivial p2.isList fun h' hz hTI hTO g1 g2 hsz hk => wpAny_pyIter_zip hz ?_
        have I2 : Inv X pins σ H1 { s1 with heap := h' } := I1.kept (t' := s1.toks) hk
        have D : ApS (s1.heap.objs.size + 4) (s1.heap.objs.size + 2) (s1.heap.objs.size + 3) s1.heap.objs.size (s1.heap.objs.size + 1) b := by
          constructor <;> (show @Ne Nat _ _; have hb' : @LT.lt Nat _ b s1.heap.objs.size := hb; omega)
        exact ⟨s1.heap.objs.size + 4, [s1.heap.objs.size + 4, s1.heap.objs.size + 2, s1.heap.objs.size + 3, s1.heap.objs.size, s1.heap.objs.size + 1], _, _, H1, rfl, I2, turn_zipS (t := tx) D, ⟨hz, hTI, ⟨_, _, hTO⟩, ⟨_, g1, rfl, rfl⟩, ⟨_, g2, rfl, rfl⟩⟩, fresh5, q⟩
end Iv
end
section
set_option autoImplicit false
set_option maxRecDepth 100000
set_option maxHeartbeats 4000000
namespace Iv
open PySem L2
/-! ### targets -/
def tgR (K : Fg) (t : Tg) : TG := fun v σ H Q => ∃ (G : Hp) (m : List Addr) (r r' : Ev) (d : D), Ext G H ∧ RlV K G m r σ ∧ Rep K G d v ∧ asgD t d r = some r' ∧ ∀ σ', RlV K G m r' σ' → (∀ own, tgIn own t = true → L2.wipe σ' own = L2.wipe σ own) → Q σ' H
def tgRs (K : Fg) (t : Tg) : TGs := fun vs σ H Q => ∃ (G : Hp) (m : List Addr) (r r' : Ev) (xs : List D), Ext G H ∧ RlV K G m r σ ∧ Reps K G xs vs ∧ asgL t xs r = some r' ∧ ∀ σ', RlV K G m r' σ' → (∀ own, tgIn own t = true → L2.wipe σ' own = L2.wipe σ own) → Q σ' H
theorem PG.imp {X : Cx} {e : Expr} {t t' : TG} (h : PG X e t) (k : ∀ v σ H Q, t' v σ H Q → t v σ H Q) : PG X e t' := ⟨fun pins s σ H v u Q I r hw => h.run pins s σ H v u Q I r (k _ _ _ _ hw)⟩
theorem PGs.imp {X : Cx} {e : List Expr} {t t' : TGs} (h : PGs X e t) (k : ∀ v σ H Q, t' v σ H Q → t v σ H Q) : PGs X e t' := ⟨fun pins s σ H v u Q I r hw => h.run pins s σ H v u Q I r (k _ _ _ _ hw)⟩
theorem PG.or {X : Cx} {e : Expr} {t t' : TG} (h : PG X e t) (h' : PG X e t') : PG X e (fun v σ H Q => t v σ H Q ∨ t' v σ H Q) := ⟨fun pins s σ H v u Q I r hw => hw.elim (h.run pins s σ H v u Q I r) (h'.run pins s σ H v u Q I r)⟩
theorem wipe_set {σ : L2.St} {own : List Nat} {i : Nat} {v : Option V} (h : i ∈ own) : L2.wipe (σ.set i v) own = L2.wipe σ own := by
  induction own with
  | nil => simp at h
  | cons a own ih =>
    show (L2.wipe (σ.set i v) own).set a none = (L2.wipe σ own).set a none
    by_cases hm : i ∈ own
    · rw [ih hm]
    · have e : i = a := by
        rcases List.mem_cons.mp h with z | z
        · exact z
        · exact absurd z hm
      subst e
      clear ih h
      have : ∀ own : List Nat, i ∉ own → (L2.wipe (σ.set i v) own).set i none = (L2.wipe σ own).set i none := by
        intro own hm
        induction own with
        | nil => show (σ.set i v).set i none = σ.set i none; rw [List.set_set]
        | cons b own ih =>
          have h1 : i ≠ b := fun q => hm (by rw [q]; exact List.mem_cons_self)
          have h2 : i ∉ own := fun q => hm (List.mem_cons_of_mem _ q)
          show ((L2.wipe (σ.set i v) own).set b none).set i none = ((L2.wipe σ own).set b none).set i none
          rw [List.set_comm _ _ (fun q => h1 q.symm), ih h2, List.set_comm _ _ h1]
      exact this own hm
theorem RlV.set {K : Fg} {G : Hp} {m : List Addr} {r : Ev} {σ : L2.St} (h : RlV K G m r σ) (i : Nat) {v : Vl} {u : V} (q : RepV K G m v u) : RlV K G m (r.set i (some v)) (σ.set i (some u)) := by
  refine ⟨by simp [h.1], fun j w e n => ?_⟩
  by_cases hj : i = j
  · subst hj
    by_cases hl : i < r.length
    · rw [List.getElem?_set_self hl] at e
      cases e
      exact ⟨u, by rw [List.getElem?_set_self (by rw [← h.1]; exact hl)], q⟩
    · rw [List.getElem?_eq_none (by simp; omega)] at e
      cases e
  · rw [List.getElem?_set_ne hj] at e
    obtain ⟨u', h1, h2⟩ := h.2 j w e n
    exact ⟨u', by rw [List.getElem?_set_ne hj]; exact h1, h2⟩
theorem RlV.unset {K : Fg} {G : Hp} {m : List Addr} {r : Ev} {σ : L2.St} (h : RlV K G m r σ) (i : Nat) (o : Option V) : RlV K G m (r.set i none) (σ.set i o) := by
  refine ⟨by simp [h.1], fun j w e n => ?_⟩
  by_cases hj : i = j
  · subst hj
    by_cases hl : i < r.length
    · rw [List.getElem?_set_self hl] at e; cases e
    · rw [List.getElem?_eq_none (by simp; omega)] at e; cases e
  · rw [List.getElem?_set_ne hj] at e
    obtain ⟨u', h1, h2⟩ := h.2 j w e n
    exact ⟨u', by rw [List.getElem?_set_ne hj]; exact h1, h2⟩
theorem each_cons {N : List Str} {fn : Bool} {sc : Scope} {env : Env} (a : Tg) (e : Expr) (es : List Expr) (h : isG N fn sc a e = true) : (assignEach (e :: es) env).map (fun x => x.2) = assign e env :: (assignEach es env).map (fun x => x.2) := by
  cases e with
  | Starred _ _ => cases a <;> cases h
  | _ => rfl
theorem each_len {N : List Str} {fn : Bool} {sc : Scope} {env : Env} : ∀ (t : Tg) (es : List Expr), isGs N fn sc t es = true → (assignEach es env).length = es.length
  | .nil, [], h => rfl
  | .nil, _ :: _, h => by cases h
  | .cons a b, [], h => by cases h
  | .cons a b, e :: es, h => by
    have g := Bool.and_eq_true_iff.mp h
    have := congrArg List.length (each_cons (env := env) a e es g.1)
    simp only [List.length_map, List.length_cons] at this
    rw [this, each_len b es g.2]; rfl
  | .nm _, _, h => by cases h
  | .tp _, _, h => by cases h
theorem each_star {N : List Str} {fn : Bool} {sc : Scope} {env : Env} : ∀ (t : Tg) (es : List Expr), isGs N fn sc t es = true → (assignEach es env).findIdx? (fun x => x.1) = none
  | .nil, [], h => rfl
  | .nil, _ :: _, h => by cases h
  | .cons a b, [], h => by cases h
  | .cons a b, e :: es, h => by
    have g := Bool.and_eq_true_iff.mp h
    have e1 : assignEach (e :: es) env = (false, assign e env) :: assignEach es env := by
      cases e with
      | Starred _ _ => cases a <;> cases g.1
      | _ => rfl
    rw [e1, List.findIdx?_cons, each_star b es g.2]; rfl
  | .nm _, _, h => by cases h
  | .tp _, _, h => by cases h
theorem asgL_len {N : List Str} {fn : Bool} {sc : Scope} : ∀ (t : Tg) (es : List Expr) (xs : List D) (r r' : Ev), isGs N fn sc t es = true → asgL t xs r = some r' → xs.length = es.length
  | .nil, [], [], r, r', h, ha => rfl
  | .nil, [], _ :: _, r, r', h, ha => by cases ha
  | .nil, _ :: _, xs, r, r', h, ha => by cases h
  | .cons a b, [], xs, r, r', h, ha => by cases h
  | .cons a b, e :: es, [], r, r', h, ha => by cases ha
  | .cons a b, e :: es, x :: xs, r, r', h, ha => by
    have g := Bool.and_eq_true_iff.mp h
    simp only [asgL] at ha
    cases e1 : asgD a x r with
    | none => rw [e1] at ha; cases ha
    | some r1 => rw [e1] at ha; rw [List.length_cons, List.length_cons, asgL_len b es xs r1 r' g.2 ha]
  | .nm _, _, _, _, _, h, _ => by cases h
  | .tp _, _, _, _, _, h, _ => by cases h
section
variable {cl : Cl} {X : Cx}
theorem stB_d {fn : Bool} {sc : Scope} {x : Str} (h : stB fn sc x = true) : L2.Loc sc x ∧ (sc.names.lookup x = some .local ∨ fn = true) := by
  unfold stB at h
  rw [Bool.or_eq_true, Bool.and_eq_true, decide_eq_true_eq, decide_eq_true_eq] at h
  rcases h with h | ⟨h1, h2⟩
  · exact ⟨.inl h, .inl h⟩
  · exact ⟨.inr h2, .inr h1⟩
mutual
theorem g_tg (hc : X.calm = true) (nd : X.N.Nodup) {fn : Bool} (hf : fn = true → ∀ x, X.fn x = true) : ∀ (t : Tg) (e : Expr), isG X.N fn X.env.scope t e = true → PG X e (tgR (kx cl X) t)
  | .nm i, e, h => by
    cases e with
    | Name x p =>
      have g := Bool.and_eq_true_iff.mp h
      obtain ⟨l1, l2⟩ := stB_d g.2
      refine PG.imp (pg_name nd (of_decide_eq_true g.1) l1 (l2.elim .inr fun z => .inl (hf z x))) fun v σ H Q ⟨G, m, r, r', d, e, rv, hr, ha, q⟩ => ?_
      cases ha
      exact q _ (rv.set i (v := .d d) hr) fun own ho => wipe_set (by simpa [tgIn] using ho)
    | _ => cases h
  | .tp ts, e, h => by
    cases e with
    | Tuple es k p =>
      have gs := gs_tg hc nd hf ts es h
      refine PG.imp (PG.or (pg_tup hc gs (n := es.length) (each_len ts es h) (each_star ts es h)) (pg_lst hc gs (n := es.length) (each_len ts es h) (each_star ts es h))) fun v σ H Q ⟨G, m, r, r', d, e, rv, hr, ha, q⟩ => ?_
      · cases hr with
        | tup h1 h2 =>
          exact .inl ⟨_, _, rfl, h1.ext e, by rw [← h2.length]; exact asgL_len ts es _ _ _ h ha, G, m, r, r', _, e, rv, h2, ha, q⟩
        | lst h1 h2 =>
          exact .inr ⟨_, _, rfl, .of (e _ _ h1), by rw [← h2.length]; exact asgL_len ts es _ _ _ h ha, G, m, r, r', _, e, rv, h2, ha, q⟩
        | _ => cases ha
    | _ => cases h
  | .nil, e, h => by cases h
  | .cons _ _, e, h => by cases h
theorem gs_tg (hc : X.calm = true) (nd : X.N.Nodup) {fn : Bool} (hf : fn = true → ∀ x, X.fn x = true) : ∀ (t : Tg) (es : List Expr), isGs X.N fn X.env.scope t es = true → PGs X es (tgRs (kx cl X) t)
  | .nil, es, h => by
    cases es with
    | nil =>
      refine PGs.imp pgs_nil fun v σ H Q ⟨G, m, r, r', xs, e, rv, hr, ha, q⟩ => ?_
      cases hr with
      | nil => cases ha; exact ⟨rfl, q _ rv fun _ _ => rfl⟩
      | cons _ _ => cases ha
    | cons _ _ => cases h
  | .cons a b, es, h => by
    cases es with
    | nil => cases h
    | cons e es =>
      have g := Bool.and_eq_true_iff.mp h
      refine PGs.imp (pgs_cons (g_tg hc nd hf a e g.1) (gs_tg hc nd hf b es g.2) (each_cons a e es g.1)) fun v σ H Q ⟨G, m, r, r', xs, e, rv, hr, ha, q⟩ => ?_
      cases hr with
      | nil => cases ha
      | @cons x u xs us r1 r2 =>
        simp only [asgL] at ha
        cases e1 : asgD a x r with
        | none => rw [e1] at ha; cases ha
        | some r1' =>
          rw [e1] at ha
          exact ⟨_, _, rfl, G, m, r, r1', _, e, rv, r1, e1, fun σ' rv' k1 => ⟨G, m, r1', r', _, e, rv', r2, ha, fun σ'' rv'' k2 => q σ'' rv'' fun own ho => by
            have ho' := Bool.and_eq_true_iff.mp ho
            rw [k2 own ho'.2, k1 own ho'.1]⟩⟩
  | .nm _, es, h => by cases h
  | .tp _, es, h => by cases h
end
end
/-! ### what is walked -/
/-- the iterator J walks the data xs -/
structure ItR (K : Fg) (G : Hp) (xs : List D) (J : It) : Prop where
  go : ∀ (i : Nat) (H : Hp), Ext G H → i < xs.length → J.go i H
  stop : ∀ (i : Nat) (H : Hp), Ext G H → xs.length ≤ i → i ≤ xs.length → J.stop i H
  yld : ∀ (i : Nat) (G1 H : Hp) (x : V) (H' : Hp) (d : D), Ext G G1 → Ext G1 H → xs[i]? = some d → J.yld i H x H' → ∃ G2, Al G1 H G2 H' ∧ Rep K G2 d x
abbrev TI' (nm : Nm) (cl : Cl) (X : Cx) (W : WX) (f : Ev → Hs → R (List D)) : TI := fun σ H Rr => tX nm.excs X.mg (kx cl X) W (fun G _ xs J => ItR (kx cl X) G xs J) f σ H Rr
theorem itr_list {K : Fg} {G : Hp} {a : Addr} {xs : List D} {vs : List V} (h : SqL K G a vs) (r : Reps K G xs vs) : ItR K G xs (Itl K a) where
  go := fun i H e hi => ⟨vs, vs[i]'(by rw [← r.length]; exact hi), h.ext e, by simp⟩
  stop := fun i H e hi _ => ⟨vs, h.ext e, by rw [← r.length]; exact hi⟩
  yld := fun i G1 H x H' d e1 e2 hd ⟨q1, q2⟩ => by
    subst q1
    have := q2 vs ((h.ext e1).ext e2)
    obtain ⟨v, h1, h2⟩ := r.get hd
    rw [this] at h1; cases h1
    exact ⟨G1, .refl, h2.mono e1⟩
theorem itr_tup {K : Fg} {G : Hp} {a : Addr} {xs : List D} {vs : List V} (h : SqT K G a vs) (r : Reps K G xs vs) : ItR K G xs (Itt K a) where
  go := fun i H e hi => ⟨vs, vs[i]'(by rw [← r.length]; exact hi), h.ext e, by simp⟩
  stop := fun i H e hi _ => ⟨vs, h.ext e, by rw [← r.length]; exact hi⟩
  yld := fun i G1 H x H' d e1 e2 hd ⟨q1, q2⟩ => by
    subst q1
    have := q2 vs ((h.ext e1).ext e2)
    obtain ⟨v, h1, h2⟩ := r.get hd
    rw [this] at h1; cases h1
    exact ⟨G1, .refl, h2.mono e1⟩
theorem itr_str {K : Fg} {G : Hp} {s : Cs} (o : Okc s) : ItR K G (s.map fun c => .str [c]) (Its (S' s)) where
  go := fun i H e hi => by show i < (S' s).cps.size; simpa [S'] using hi
  stop := fun i H e hi _ => by show (S' s).cps.size ≤ i; simpa [S'] using hi
  yld := fun i G1 H x H' d e1 e2 hd ⟨q1, c, q2, q3⟩ => by
    subst q1; subst q3
    have q2' : s[i]? = some c := by simpa [S'] using q2
    rw [List.getElem?_map, q2'] at hd
    cases hd
    exact ⟨G1, .refl, .str [c] fun c' hc' => by simp at hc'; subst hc'; exact o _ (List.mem_of_getElem? q2')⟩
theorem upTo_get : ∀ (n : Nat) (a : Int) (i : Nat), (upTo n a)[i]? = if i < n then some (.int (a + i)) else none
  | 0, a, i => by simp [upTo]
  | n + 1, a, 0 => by simp [upTo]
  | n + 1, a, i + 1 => by
    simp only [upTo, List.getElem?_cons_succ, upTo_get n (a + 1) i]
    by_cases h : i < n
    · rw [if_pos h, if_pos (by omega)]; have q : a + 1 + (i : Int) = a + ((i + 1 : Nat) : Int) := by omega
      rw [q]
    · rw [if_neg h, if_neg (by omega)]
theorem upTo_len : ∀ (n : Nat) (a : Int), (upTo n a).length = n
  | 0, a => rfl
  | n + 1, a => by simp [upTo, upTo_len n (a + 1)]
theorem itr_rng {K : Fg} {G : Hp} (a : Int) (n : Nat) : ItR K G (upTo n a) (Itr a n) where
  go := fun i H e hi => by show i < n; rw [upTo_len] at hi; exact hi
  stop := fun i H e hi _ => by show n ≤ i; rw [upTo_len] at hi; exact hi
  yld := fun i G1 H x H' d e1 e2 hd ⟨q1, q2⟩ => by
    subst q1; subst q2
    rw [upTo_get] at hd
    split at hd
    · cases hd; exact ⟨G1, .refl, .int _⟩
    · cases hd
/-! ### dicts -/
theorem kyOf_inj {a b : Ky} (h : kyOf a = kyOf b) : a = b := by
  cases a <;> cases b <;> simp only [kyOf, Sum.inl.injEq, Sum.inr.injEq, reduceCtorEq] at h
  · rw [h]
  · rw [S'_inj h]
theorem RepKs.length {K : Fg} {G : Hp} : ∀ {xs : List (Ky × D)} {kvs : List (Key × V)}, RepKs K G xs kvs → xs.length = kvs.length
  | _, _, .nil => rfl
  | _, _, .cons _ _ r => by simp [RepKs.length r]
theorem kV_rep {K : Fg} {G : Hp} {k : Ky} (o : okK k) : Rep K G (kyD k) (kV (kyOf k)) := by
  cases k with
  | i n => exact .int n
  | s x => exact .str x o
theorem RepKs.get {K : Fg} {G : Hp} : ∀ {xs : List (Ky × D)} {kvs : List (Key × V)} {i : Nat} {k : Ky} {x : D}, RepKs K G xs kvs → xs[i]? = some (k, x) → ∃ v, kvs[i]? = some (kyOf k, v) ∧ okK k ∧ Rep K G x v
  | _, _, _, _, _, .nil, e => by simp at e
  | _, _, 0, _, _, .cons o h _, e => by simp at e; obtain ⟨rfl, rfl⟩ := e; exact ⟨_, rfl, o, h⟩
  | _, _, i + 1, k, x, .cons _ _ r, e => by
    obtain ⟨v, h1, h2⟩ := RepKs.get (i := i) (k := k) (x := x) r (by simpa using e)
    exact ⟨v, by simpa using h1, h2⟩
theorem RepKs.val {K : Fg} {G : Hp} (k : Ky) : ∀ {xs : List (Ky × D)} {kvs : List (Key × V)}, RepKs K G xs kvs →
    (kget k xs = none ∧ valV kvs (kyOf k) = none) ∨ ∃ x v, kget k xs = some x ∧ valV kvs (kyOf k) = some v ∧ Rep K G x v
  | _, _, .nil => .inl ⟨rfl, rfl⟩
  | (k', x) :: xs, (_, v) :: kvs, .cons o h r => by
    by_cases e : k' = k
    · subst e
      refine .inr ⟨x, v, ?_, ?_, h⟩
      · simp [kget]
      · simp [valV]
    · have e2 : ¬ kyOf k' = kyOf k := fun q => e (kyOf_inj q)
      have h1 : kget k ((k', x) :: xs) = kget k xs := by simp [kget, e]
      have h2 : valV ((kyOf k', v) :: kvs) (kyOf k) = valV kvs (kyOf k) := by simp [valV, e2]
      rw [h1, h2]
      exact RepKs.val k r
theorem itr_keys {K : Fg} {G : Hp} {a : Addr} {o : Obj} {xs : List (Ky × D)} {kvs : List (Key × V)} (h : G a = some (.frz o (.dK kvs))) (r : RepKs K G xs kvs) : ItR K G (xs.map fun p => kyD p.1) (Itk a o kvs) where
  go := fun i H e hi => ⟨e _ _ h, by rw [← r.length]; simpa using hi⟩
  stop := fun i H e hi _ => ⟨e _ _ h, by rw [← r.length]; simpa using hi⟩
  yld := fun i G1 H x H' d e1 e2 hd ⟨q1, k, v, q2, q3⟩ => by
    subst q1; subst q3
    rw [List.getElem?_map] at hd
    cases hx : xs[i]? with
    | none => rw [hx] at hd; cases hd
    | some p =>
      rw [hx] at hd; cases hd
      obtain ⟨v', h1, h2, h3⟩ := r.get (k := p.1) (x := p.2) hx
      rw [q2] at h1; cases h1
      exact ⟨G1, .refl, kV_rep h2⟩
theorem itr_items {K : Fg} {G : Hp} {a : Addr} {o : Obj} {xs : List (Ky × D)} {kvs : List (Key × V)} (h : G a = some (.frz o (.dK kvs))) (r : RepKs K G xs kvs) : ItR K G (xs.map fun p => .tup [kyD p.1, p.2]) (Iti a o kvs) where
  go := fun i H e hi => ⟨e _ _ h, by rw [← r.length]; simpa using hi⟩
  stop := fun i H e hi _ => ⟨e _ _ h, by rw [← r.length]; simpa using hi⟩
  yld := fun i G1 H x H' d e1 e2 hd ⟨T, k, v, q2, q3, q4, q5⟩ => by
    subst q3; subst q5
    rw [List.getElem?_map] at hd
    cases hx : xs[i]? with
    | none => rw [hx] at hd; cases hd
    | some p =>
      rw [hx] at hd; cases hd
      obtain ⟨v', h1, h2, h3⟩ := r.get (k := p.1) (x := p.2) hx
      rw [q2] at h1; cases h1
      have al : Al G1 H (upd G1 T (.tup [kV (kyOf p.1), v])) (upd H T (.tup [kV (kyOf p.1), v])) := Al.one q4
      have ex := (al.ext e2).2.1
      exact ⟨_, al, .tup (.of upd_same) (.cons (kV_rep h2) (.cons ((h3.mono e1).mono ex) .nil))⟩
theorem zipD_len : ∀ (xs ys : List D), (zipD xs ys).length = min xs.length ys.length
  | [], ys => by simp [zipD]
  | x :: xs, [] => by simp [zipD]
  | x :: xs, y :: ys => by simp only [zipD, List.length_cons, zipD_len xs ys]; omega
theorem zipD_get : ∀ (xs ys : List D) (i : Nat) (d : D), (zipD xs ys)[i]? = some d → ∃ x y, xs[i]? = some x ∧ ys[i]? = some y ∧ d = .tup [x, y]
  | [], ys, i, d, h => by simp [zipD] at h
  | x :: xs, [], i, d, h => by simp [zipD] at h
  | x :: xs, y :: ys, 0, d, h => by simp [zipD] at h; exact ⟨x, y, rfl, rfl, h.symm⟩
  | x :: xs, y :: ys, i + 1, d, h => by
    simp only [zipD, List.getElem?_cons_succ] at h
    simpa using zipD_get xs ys i d h
theorem enumD_len : ∀ (n : Nat) (xs : List D), (enumD n xs).length = xs.length
  | n, [] => rfl
  | n, x :: xs => by simp [enumD, enumD_len (n + 1) xs]
theorem enumD_get : ∀ (n : Nat) (xs : List D) (i : Nat) (d : D), (enumD n xs)[i]? = some d → ∃ x, xs[i]? = some x ∧ d = .tup [.int ((n + i : Nat) : Int), x]
  | n, [], i, d, h => by simp [enumD] at h
  | n, x :: xs, 0, d, h => by simp [enumD] at h; exact ⟨x, rfl, h.symm⟩
  | n, x :: xs, i + 1, d, h => by
    simp only [enumD, List.getElem?_cons_succ] at h
    obtain ⟨y, h1, h2⟩ := enumD_get (n + 1) xs i d h
    exact ⟨y, by simpa using h1, by rw [h2]; congr 3; omega⟩
theorem itr_zip {K : Fg} {G : Hp} {a b : Addr} {xs ys : List D} {vs ws : List V} (h : SqL K G a vs) (r : Reps K G xs vs) (h' : SqL K G b ws) (r' : Reps K G ys ws) : ItR K G (zipD xs ys) (Itz K a b) where
  go := fun i H e hi => by
    rw [zipD_len] at hi
    exact ⟨vs, ws, vs[i]'(by rw [← r.length]; omega), ws[i]'(by rw [← r'.length]; omega), h.ext e, h'.ext e, by simp, by simp⟩
  stop := fun i H e hi _ => by
    rw [zipD_len] at hi
    exact ⟨vs, ws, h.ext e, h'.ext e, by rw [← r.length, ← r'.length]; omega⟩
  yld := fun i G1 H x H' d e1 e2 hd ⟨T, u1, u2, q1, q2, q3, q4, q5⟩ => by
    subst q1; subst q3
    obtain ⟨x, y, g1, g2, rfl⟩ := zipD_get xs ys i d hd
    have t1 := q4 vs ((h.ext e1).ext e2)
    have t2 := q5 ws ((h'.ext e1).ext e2)
    obtain ⟨v1, w1, z1⟩ := r.get g1
    obtain ⟨v2, w2, z2⟩ := r'.get g2
    rw [t1] at w1; cases w1
    rw [t2] at w2; cases w2
    have al : Al G1 H (upd G1 T (.tup [u1, u2])) (upd H T (.tup [u1, u2])) := Al.one q2
    have ex := (al.ext e2).2.1
    exact ⟨_, al, .tup (.of upd_same) (.cons ((z1.mono e1).mono ex) (.cons ((z2.mono e1).mono ex) .nil))⟩
theorem itr_zipS {K : Fg} {G : Hp} {b : Addr} {s : Cs} {ys : List D} {ws : List V} (o : Okc s) (h' : SqL K G b ws) (r' : Reps K G ys ws) : ItR K G (zipD (s.map fun c => .str [c]) ys) (ItzS K (S' s) b) where
  go := fun i H e hi => by
    rw [zipD_len, List.length_map] at hi
    refine ⟨by show i < (S' s).cps.size; simp [S']; omega, ws, ws[i]'(by rw [← r'.length]; omega), h'.ext e, by simp⟩
  stop := fun i H e hi hj => by
    rw [zipD_len, List.length_map] at hi hj
    refine ⟨ws, h'.ext e, by simp [S']; omega, by rw [← r'.length]; omega, ?_⟩
    rw [← r'.length]
    simp [S']
    omega
  yld := fun i G1 H x H' d e1 e2 hd ⟨T, c, u2, q1, q2, q3, q4, q5⟩ => by
    subst q1; subst q3
    obtain ⟨x, y, g1, g2, rfl⟩ := zipD_get _ ys i d hd
    have q4' : s[i]? = some c := by simpa [S'] using q4
    have hx : x = .str [c] := by
      rw [List.getElem?_map, q4'] at g1
      exact (Option.some.inj g1).symm
    subst hx
    have t2 := q5 ws ((h'.ext e1).ext e2)
    obtain ⟨v2, w2, z2⟩ := r'.get g2
    rw [t2] at w2; cases w2
    have al : Al G1 H (upd G1 T (.tup [.str ⟨#[c]⟩, u2])) (upd H T (.tup [.str ⟨#[c]⟩, u2])) := Al.one q2
    have ex := (al.ext e2).2.1
    exact ⟨_, al, .tup (.of upd_same) (.cons (.str [c] fun c' hc' => by simp at hc'; subst hc'; exact o _ (List.mem_of_getElem? q4')) (.cons ((z2.mono e1).mono ex) .nil))⟩
theorem itr_enum {K : Fg} {G : Hp} {a : Addr} {xs : List D} {vs : List V} (h : SqL K G a vs) (r : Reps K G xs vs) : ItR K G (enumD 0 xs) (Ite K a) where
  go := fun i H e hi => by
    rw [enumD_len] at hi
    exact ⟨vs, vs[i]'(by rw [← r.length]; omega), h.ext e, by simp⟩
  stop := fun i H e hi _ => by
    rw [enumD_len] at hi
    exact ⟨vs, h.ext e, by rw [← r.length]; omega⟩
  yld := fun i G1 H x H' d e1 e2 hd ⟨T, u1, q1, q2, q3, q4⟩ => by
    subst q1; subst q3
    obtain ⟨x, g1, rfl⟩ := enumD_get 0 xs i d hd
    have t1 := q4 vs ((h.ext e1).ext e2)
    obtain ⟨v1, w1, z1⟩ := r.get g1
    rw [t1] at w1; cases w1
    have al : Al G1 H (upd G1 T (.tup [.int (i : Int), u1])) (upd H T (.tup [.int (i : Int), u1])) := Al.one q2
    have ex := (al.ext e2).2.1
    exact ⟨_, al, .tup (.of upd_same) (.cons (by rw [Nat.zero_add]; exact .int _) (.cons ((z1.mono e1).mono ex) .nil))⟩
section
variable {nm : Nm} {cl : Cl} {P : Prg} {cal : Cal} {n : Nat} {X : Cx} {W : WX} {e l r tg : Expr} {es : List Expr} {pos : Pos} {x y z : Ex}
theorem i_one (ha : PE X e (TX nm cl X W (ev P cal x))) : PI X tg e (TI' nm cl X W (evi P cal (.one x))) := by
  refine ⟨fun pins s σ H Rr I ⟨F, G, m, r, S, rl, rv, out⟩ => ?_⟩
  simp only [evi] at out
  cases hx : ev P cal x r S with
  | bad => rw [hx] at out; exact out.elim
  | exc c fs S1 =>
    rw [hx] at out
    exact (pi_list ha).run pins s σ H Rr I ⟨F, G, m, r, S, rl, rv, by rw [hx]; exact out⟩
  | ok v S1 =>
    rw [hx] at out
    cases v with
    | d d =>
      cases d with
      | lst xs =>
        refine (pi_list ha).run pins s σ H Rr I ⟨F, G, m, r, S, rl, rv, ?_⟩
        rw [hx]
        intro G' m' H' u g l1 r1
        cases r1 with
        | lst h1 h2 => exact ⟨_, rfl, ⟨_, .of (l1.ext _ _ h1)⟩, out G' m' H' _ g l1 (itr_list (.of h1) h2)⟩
      | tup xs =>
        refine (pi_tup ha).run pins s σ H Rr I ⟨F, G, m, r, S, rl, rv, ?_⟩
        rw [hx]
        intro G' m' H' u g l1 r1
        cases r1 with
        | tup h1 h2 => exact ⟨_, rfl, ⟨_, h1.ext l1.ext⟩, out G' m' H' _ g l1 (itr_tup h1 h2)⟩
      | str t =>
        refine (pi_str ha).run pins s σ H Rr I ⟨F, G, m, r, S, rl, rv, ?_⟩
        rw [hx]
        intro G' m' H' u g l1 r1
        cases r1 with
        | str _ o => exact ⟨_, rfl, out G' m' H' _ g l1 (itr_str o)⟩
      | ro xs =>
        refine (pi_list ha).run pins s σ H Rr I ⟨F, G, m, r, S, rl, rv, ?_⟩
        rw [hx]
        intro G' m' H' u g l1 r1
        cases r1 with
        | ro h1 h2 => exact ⟨_, rfl, ⟨_, h1.ext l1.ext⟩, out G' m' H' _ g l1 (itr_list h1 h2)⟩
      | dct xs =>
        refine (pi_keys ha).run pins s σ H Rr I ⟨F, G, m, r, S, rl, rv, ?_⟩
        rw [hx]
        intro G' m' H' u g l1 r1
        cases r1 with
        | dct h1 h2 => exact ⟨_, _, rfl, .inl ⟨_, l1.ext _ _ h1, out G' m' H' _ g l1 (itr_keys h1 h2)⟩⟩
      | _ => exact out.elim
    | _ => exact out.elim
theorem i_itm {ap p tp : Pos} {k : Nat} {ts : List Expr} (h0 : noC0 e = true) (hl : (ap.endLine == p.line) = true) (ha : PE X e (TX nm cl X W (ev P cal x))) :
    PI X (.Tuple ts k tp) (.Call (.Attribute e ("items" : Str) ap) [] [] p) (TI' nm cl X W (evi P cal (.itm x))) := by
  refine ⟨fun pins s σ H Rr I ⟨F, G, m, r, S, rl, rv, out⟩ => (pi_items ha (base_e h0) hl).run pins s σ H Rr I ?_⟩
  simp only [evi] at out
  refine tX.bind rl rv out fun u1 H1 G1 m1 v1 S1 g1 l1 rv1 r1 out => ?_
  split at out
  · cases r1 with
    | dct a1 a2 => exact ⟨_, _, _, rfl, l1.ext _ _ a1, out G1 m1 H1 _ .refl l1 (itr_items a1 a2)⟩
  · exact out.elim
theorem PI.imp {tg iter : Expr} {t t' : TI} (h : PI X tg iter t) (k : ∀ σ H Q, t' σ H Q → t σ H Q) : PI X tg iter t' := ⟨fun pins s σ H Q I hw => h.run pins s σ H Q I (k _ _ _ hw)⟩
theorem i_rng {p : Pos} {sc : Scope} {N : List Str} (C : Ck nm cl P cal n X W) (h1 : glB X.env.scope ("range" : Str) = true) (hs : isE nm N sc x e = true) (ha : PE X e (TX nm cl X W (ev P cal x))) :
    PI X tg (.Call (.Name ("range" : Str) p) [e] [] pos) (TI' nm cl X W (evi P cal (.rng x))) := by
  refine PI.imp (pi_range1 (glB_d h1) (C.md.bo _ (by decide)) (pa_cons ha pa_nil (star_e hs)) (star_e hs)) fun σ H Rr ⟨F, G, m, r, S, rl, rv, out⟩ => ?_
  simp only [evi] at out
  refine tX.bind rl rv out fun u1 H1 G1 m1 v1 S1 g1 l1 rv1 r1 out => ?_
  split at out
  · cases r1
    split at out
    · rename_i hz
      exact ⟨_, rfl, by omega, by omega, out G1 m1 H1 _ .refl l1 (itr_rng 0 _)⟩
    · exact out.elim
  · exact out.elim
theorem i_rng2 {p : Pos} {sc : Scope} {N : List Str} (C : Ck nm cl P cal n X W) (h1 : glB X.env.scope ("range" : Str) = true) (hs : isE nm N sc x l = true) (hs2 : isE nm N sc y r = true) (ha : PE X l (TX nm cl X W (ev P cal x))) (hb : PE X r (TX nm cl X W (ev P cal y))) :
    PI X tg (.Call (.Name ("range" : Str) p) [l, r] [] pos) (TI' nm cl X W (evi P cal (.rng2 x y))) := by
  refine PI.imp (pi_range2 (glB_d h1) (C.md.bo _ (by decide)) (pa_cons ha (pa_cons hb pa_nil (star_e hs2)) (star_e hs)) (by rw [star_e hs, star_e hs2]; rfl) (star_e hs2)) fun σ H Rr ⟨F, G, m, r, S, rl, rv, out⟩ => ?_
  simp only [evi] at out
  refine tX.bind rl rv out fun u1 H1 G1 m1 v1 S1 g1 l1 rv1 r1 out => ?_
  refine tX.bind l1 rv1 out fun u2 H2 G2 m2 v2 S2 g2 l2 rv2 r2 out => ?_
  split at out
  · cases r1; cases r2
    split at out
    · rename_i hz
      exact ⟨_, _, rfl, ⟨by omega, by omega, by omega, by omega⟩, out G2 m2 H2 _ .refl l2 (itr_rng _ _)⟩
    · exact out.elim
  · exact out.elim
theorem i_zip {p tp : Pos} {k : Nat} {ts : List Expr} {sc : Scope} {N : List Str} (C : Ck nm cl P cal n X W) (h1 : glB X.env.scope ("zip" : Str) = true) (hs : isE nm N sc x l = true) (hs2 : isE nm N sc y r = true) (ha : PE X l (TX nm cl X W (ev P cal x))) (hb : PE X r (TX nm cl X W (ev P cal y))) :
    PI X (.Tuple ts k tp) (.Call (.Name ("zip" : Str) p) [l, r] [] pos) (TI' nm cl X W (evi P cal (.zip x y))) := by
  refine PI.imp (pi_zipB (glB_d h1) (C.md.bo _ (by decide)) (pa_cons ha (pa_cons hb pa_nil (star_e hs2)) (star_e hs)) (star_e hs) (by rw [star_e hs2]; rfl)) fun σ H Rr ⟨F, G, m, r, S, rl, rv, out⟩ => ?_
  simp only [evi] at out
  refine tX.bind rl rv out fun u1 H1 G1 m1 v1 S1 g1 l1 rv1 r1 out => ?_
  refine tX.bind l1 rv1 out fun u2 H2 G2 m2 v2 S2 g2 l2 rv2 r2 out => ?_
  split at out
  · cases r1 with
    | lst a1 a2 =>
      cases r2 with
      | lst b1 b2 =>
        exact .inl ⟨_, _, _, _, rfl, .of (l2.ext _ _ (g2.1 _ _ a1)), .of (l2.ext _ _ b1), out G2 m2 H2 _ .refl l2 (itr_zip (.of (g2.1 _ _ a1)) (a2.mono g2.1) (.of b1) b2)⟩
  · cases r1 with
    | str s os =>
      cases r2 with
      | lst b1 b2 => exact .inr ⟨_, _, _, rfl, .of (l2.ext _ _ b1), out G2 m2 H2 _ .refl l2 (itr_zipS os (.of b1) b2)⟩
  · exact out.elim
theorem i_enm {p tp : Pos} {k : Nat} {ts : List Expr} {sc : Scope} {N : List Str} (C : Ck nm cl P cal n X W) (h1 : glB X.env.scope ("enumerate" : Str) = true) (hs : isE nm N sc x l = true) (ha : PE X l (TX nm cl X W (ev P cal x))) :
    PI X (.Tuple ts k tp) (.Call (.Name ("enumerate" : Str) p) [l] [] pos) (TI' nm cl X W (evi P cal (.enm x))) := by
  refine PI.imp (pi_enum (glB_d h1) (C.md.bo _ (by decide)) (pa_cons ha pa_nil (star_e hs)) (star_e hs)) fun σ H Rr ⟨F, G, m, r, S, rl, rv, out⟩ => ?_
  simp only [evi] at out
  refine tX.bind rl rv out fun u1 H1 G1 m1 v1 S1 g1 l1 rv1 r1 out => ?_
  split at out
  · cases r1 with
    | lst a1 a2 => exact ⟨_, _, rfl, .of (l1.ext _ _ a1), out G1 m1 H1 _ .refl l1 (itr_enum (.of a1) a2)⟩
  · exact out.elim
end
end Iv
end
section
set_option autoImplicit false
set_option maxRecDepth 100000
set_option maxHeartbeats 4000000
namespace Iv
open PySem L2
/-! ### list comprehensions -/
theorem wipes_len (r : Ev) : ∀ own : List Nat, (wipes r own).length = r.length
  | [] => rfl
  | v :: vs => by simp [wipes, wipes_len r vs]
theorem RlV.wipe {K : Fg} {G : Hp} {m : List Addr} {r : Ev} {σ : L2.St} (h : RlV K G m r σ) : ∀ own : List Nat, RlV K G m (wipes r own) (L2.wipe σ own)
  | [] => h
  | v :: vs => (RlV.wipe h vs).unset v none
theorem wipe_twice (σ : L2.St) (own : List Nat) : L2.wipe (L2.wipe σ own) own = L2.wipe σ own := by
  have all : ∀ (o2 : List Nat), (∀ x ∈ o2, x ∈ own) → L2.wipe (L2.wipe σ o2) own = L2.wipe σ own := by
    intro o2
    induction o2 with
    | nil => intro _; rfl
    | cons a o2 ih =>
      intro h
      show L2.wipe ((L2.wipe σ o2).set a none) own = _
      rw [wipe_set (h a List.mem_cons_self)]
      exact ih fun x hx => h x (List.mem_cons_of_mem _ hx)
  exact all own fun _ h => h
/-- a frame with one thing more -/
theorem Rl.framed {K : Fg} {F G H : Hp} {m : List Addr} {S : Hs} {p : Addr} {o : HO} (l : Rl K F G m S H) (hp : H p = none) (nt : Nx o := by exact ⟨fun ps h => (by cases h), fun f h => (by cases h)⟩) : Rl K (upd F p o) G m S (upd H p o) := by
  have gp : G p = none := by
    cases e : G p with
    | none => rfl
    | some q => rw [l.ext _ _ e] at hp; cases hp
  have ex : Ext H (upd H p o) := Ext.upd hp
  have tb : TbOk K (upd F p o) G m (upd H p o) := l.tb.ext ex (nx_upd l.tb.f nt) l.tb.g fun b hb u e => by
    obtain ⟨w, hw⟩ := l.mh b hb
    rw [upd_ne (ne_of_none hw hp)] at e
    exact l.tb.m b hb u e
  refine ⟨l.ext.trans ex, fun a q h => ?_, fun a q h => ?_, fun a ha => let ⟨q, z⟩ := l.mh a ha; ⟨q, ex _ _ z⟩, l.len, l.nd, fun n a q h1 h2 => ?_, tb⟩
  · by_cases e : a = p
    · subst e; rw [upd_same] at h ⊢; exact h
    · rw [upd_ne e] at h ⊢; exact l.fr _ _ h
  · by_cases e : a = p
    · subst e
      refine ⟨gp, fun hm => ?_⟩
      obtain ⟨q, z⟩ := l.mh _ hm
      rw [z] at hp; cases hp
    · rw [upd_ne e] at h; exact l.fd _ _ h
  · rcases l.ob n a q h1 h2 with w | ⟨z1, vs, z2, z3⟩
    · exact .inl w
    · exact .inr ⟨z1, vs, ex _ _ z2, z3⟩
/-- what the frame bears is changed -/
theorem Rl.reframe {K : Fg} {F G H : Hp} {m : List Addr} {S : Hs} {p : Addr} {o o' : HO} (l : Rl K (upd F p o) G m S H) (nt : Nx o' := by exact ⟨fun ps h => (by cases h), fun f h => (by cases h)⟩) : Rl K (upd F p o') G m S (upd H p o') := by
  obtain ⟨gp, mp⟩ := l.fd p o upd_same
  have hp : H p = some o := l.fr _ _ upd_same
  have nx : Nx o := l.tb.f p o upd_same
  have tb : TbOk K (upd F p o') G m (upd H p o') := ⟨fun b u e => by
    by_cases hb : b = p
    · subst hb; rw [upd_same] at e; cases e; exact nt
    · rw [upd_ne hb] at e; exact l.tb.f b u (by rw [upd_ne hb]; exact e), l.tb.g, fun b hb u e => by
    rw [upd_ne (fun z : b = p => mp (z ▸ hb))] at e; exact l.tb.m b hb u e, tabs_upd l.tb.t hp ⟨nx.1, fun q => nx.2 _⟩⟩
  refine ⟨fun a q h => ?_, fun a q h => ?_, fun a q h => ?_, fun a ha => ?_, l.len, l.nd, fun n a q h1 h2 => ?_, tb⟩
  · have : a ≠ p := fun e => by rw [e, gp] at h; cases h
    rw [upd_ne this]; exact l.ext _ _ h
  · by_cases e : a = p
    · subst e; rw [upd_same] at h ⊢; exact h
    · rw [upd_ne e] at h ⊢
      exact l.fr _ _ (by rw [upd_ne e]; exact h)
  · by_cases e : a = p
    · subst e; exact ⟨gp, mp⟩
    · rw [upd_ne e] at h
      exact l.fd a q (by rw [upd_ne e]; exact h)
  · have : a ≠ p := fun e => mp (e ▸ ha)
    rw [upd_ne this]; exact l.mh a ha
  · have ne : a ≠ p := fun e => mp (e ▸ List.mem_of_getElem? h1)
    rcases l.ob n a q h1 h2 with w | ⟨z1, vs, z2, z3⟩
    · exact .inl w
    · exact .inr ⟨z1, vs, by rw [upd_ne ne]; exact z2, z3⟩
/-- the frame's thing is frozen: from now on it is data -/
theorem Rl.unframe {K : Fg} {F G H : Hp} {m : List Addr} {S : Hs} {p : Addr} {o : HO} (hF : F p = none) (l : Rl K (upd F p o) G m S H) : Rl K F (upd G p o) m S H ∧ Ext G (upd G p o) := by
  obtain ⟨gp, mp⟩ := l.fd p o upd_same
  have hp : H p = some o := l.fr _ _ upd_same
  have ex : Ext G (upd G p o) := Ext.upd gp
  have tb : TbOk K F (upd G p o) m H := ⟨fun b u e => l.tb.f b u (by rw [upd_ne (fun z => by rw [z, hF] at e; cases e)]; exact e), nt_upd l.tb.g (l.tb.f p o upd_same).1, l.tb.m, l.tb.t⟩
  refine ⟨⟨fun a q h => ?_, fun a q h => ?_, fun a q h => ?_, l.mh, l.len, l.nd, fun n a q h1 h2 => ?_, tb⟩, ex⟩
  · by_cases e : a = p
    · subst e; rw [upd_same] at h; cases h; exact hp
    · rw [upd_ne e] at h; exact l.ext _ _ h
  · have : a ≠ p := fun e => by rw [e, hF] at h; cases h
    exact l.fr a q (by rw [upd_ne this]; exact h)
  · have : a ≠ p := fun e => by rw [e, hF] at h; cases h
    obtain ⟨z1, z2⟩ := l.fd a q (by rw [upd_ne this]; exact h)
    exact ⟨by rw [upd_ne this]; exact z1, z2⟩
  · have ne : a ≠ p := fun e => mp (e ▸ List.mem_of_getElem? h1)
    rcases l.ob n a q h1 h2 with w | ⟨z1, vs, z2, z3⟩
    · exact .inl w
    · exact .inr ⟨by rw [upd_ne ne]; exact z1, vs, z2, z3.mono ex⟩
/-- a new list of the small heap -/
theorem Rl.new {K : Fg} {F G H : Hp} {m : List Addr} {S : Hs} {p : Addr} {ob : Ob} {ho : HO} (l : Rl K F G m S H) (hp : H p = none) (r : ObV K G p ob ho) : Rl K F G (m ++ [p]) (S ++ [ob]) (upd H p ho) := by
  have ex : Ext H (upd H p ho) := Ext.upd hp
  have tb : TbOk K F G (m ++ [p]) (upd H p ho) := l.tb.ext ex l.tb.f l.tb.g fun b hb u e => by
    by_cases hb2 : b = p
    · subst hb2; rw [upd_same] at e; cases e; exact r.nc
    · rw [upd_ne hb2] at e
      rcases List.mem_append.mp hb with z | z
      · exact l.tb.m b z u e
      · exact absurd (by simpa using z) hb2
  have gp : G p = none := by
    cases e : G p with
    | none => rfl
    | some q => rw [l.ext _ _ e] at hp; cases hp
  have pm : p ∉ m := fun h => by
    obtain ⟨q, z⟩ := l.mh _ h
    rw [z] at hp; cases hp
  refine ⟨l.ext.trans ex, l.fr.trans ex, fun a q h => ⟨(l.fd a q h).1, fun hm => ?_⟩, fun a ha => ?_, by simp [l.len], ?_, fun n a q h1 h2 => ?_, tb⟩
  · rcases List.mem_append.mp hm with z | z
    · exact (l.fd a q h).2 z
    · simp at z; subst z; rw [l.fr _ _ h] at hp; cases hp
  · rcases List.mem_append.mp ha with z | z
    · obtain ⟨q, z⟩ := l.mh a z; exact ⟨q, ex _ _ z⟩
    · simp at z; subst z; exact ⟨_, upd_same⟩
  · rw [List.nodup_append]
    exact ⟨l.nd, by simp, fun a ha b hb => by simp at hb; subst hb; exact fun e => pm (e ▸ ha)⟩
  · by_cases hn : n < m.length
    · rw [List.getElem?_append_left hn] at h1
      rw [List.getElem?_append_left (by rw [← l.len]; exact hn)] at h2
      rcases l.ob n a q h1 h2 with w | ⟨z1, vs, z2, z3⟩
      · exact .inl w
      · exact .inr ⟨z1, vs, ex _ _ z2, z3⟩
    · rw [List.getElem?_append_right (by omega)] at h1
      rw [List.getElem?_append_right (by rw [← l.len]; omega), ← l.len] at h2
      cases e : n - m.length with
      | zero =>
        rw [e] at h1 h2
        simp at h1 h2
        subst h1; subst h2
        exact .inr ⟨gp, _, upd_same, r⟩
      | succ k => rw [e] at h1; simp at h1
/-- what stands in the small heap becomes data -/
theorem Rl.still {K : Fg} {F G H : Hp} {m : List Addr} {S : Hs} {n : Nat} {a : Addr} {ho : HO} (l : Rl K F G m S H) (hn : m[n]? = some a) (ga : G a = none) (ha : H a = some ho) :
    Ext G (upd G a ho) ∧ Rl K F (upd G a ho) m (S.set n .dead) H := by
  have ex : Ext G (upd G a ho) := Ext.upd ga
  have tb : TbOk K F (upd G a ho) m H := ⟨l.tb.f, nt_upd l.tb.g (l.tb.m a (List.mem_of_getElem? hn) ho ha).1, l.tb.m, l.tb.t⟩
  refine ⟨ex, ⟨fun b q h => ?_, l.fr, fun b q h => ?_, l.mh, by simp [l.len], l.nd, fun k b q h1 h2 => ?_, tb⟩⟩
  · by_cases e : b = a
    · subst e; rw [upd_same] at h; cases h; exact ha
    · rw [upd_ne e] at h; exact l.ext _ _ h
  · obtain ⟨z1, z2⟩ := l.fd b q h
    have : b ≠ a := fun e => z2 (e ▸ List.mem_of_getElem? hn)
    exact ⟨by rw [upd_ne this]; exact z1, z2⟩
  · by_cases e : n = k
    · subst e
      rw [List.getElem?_set_self (by rw [← l.len]; exact (List.getElem?_eq_some_iff.mp hn).1)] at h2
      cases h2; exact .inl rfl
    · rw [List.getElem?_set_ne e] at h2
      have ne : b ≠ a := fun q => e ((List.getElem?_inj (List.getElem?_eq_some_iff.mp hn).1 l.nd).mp (by rw [hn, h1, q]))
      rcases l.ob k b q h1 h2 with w | ⟨z1, vs, z2, z3⟩
      · exact .inl w
      · exact .inr ⟨by rw [upd_ne ne]; exact z1, vs, z2, z3.mono ex⟩
theorem Rl.freeze {K : Fg} {F G H : Hp} {m : List Addr} {S : Hs} {n : Nat} {a : Addr} {xs : List D} (l : Rl K F G m S H) (hn : m[n]? = some a) (hs : S[n]? = some (.lst xs)) :
    ∃ G', Ext G G' ∧ Rl K F G' m (S.set n .dead) H ∧ Rep K G' (.lst xs) (.ref a) := by
  obtain ⟨ga, vs, ha, r⟩ := (l.ob n a _ hn hs).lst
  obtain ⟨ex, l'⟩ := l.still hn ga ha
  exact ⟨_, ex, l', .lst upd_same (r.mono ex)⟩
/-- a thing of the small heap is changed -/
theorem Rl.turn {K : Fg} {F G H : Hp} {m : List Addr} {S : Hs} {n : Nat} {a : Addr} {ob : Ob} {ho : HO} (l : Rl K F G m S H) (hn : m[n]? = some a) (ga : G a = none) (r : ObV K G a ob ho) :
    Rl K F G m (S.set n ob) (upd H a ho) := by
  have am : a ∈ m := List.mem_of_getElem? hn
  have tb : TbOk K F G m (upd H a ho) := by
    obtain ⟨w, hw⟩ := l.mh a am
    refine ⟨l.tb.f, l.tb.g, fun b hb u e => ?_, tabs_upd l.tb.t hw (l.tb.m a am w hw)⟩
    by_cases hb2 : b = a
    · subst hb2; rw [upd_same] at e; cases e; exact r.nc
    · rw [upd_ne hb2] at e; exact l.tb.m b hb u e
  refine ⟨fun b q h => ?_, fun b q h => ?_, l.fd, fun b hb => ?_, by simp [l.len], l.nd, fun k b q h1 h2 => ?_, tb⟩
  · have : b ≠ a := fun e => by rw [e, ga] at h; cases h
    rw [upd_ne this]; exact l.ext _ _ h
  · have : b ≠ a := fun e => (l.fd b q h).2 (e ▸ am)
    rw [upd_ne this]; exact l.fr _ _ h
  · by_cases e : b = a
    · subst e; exact ⟨_, upd_same⟩
    · rw [upd_ne e]; exact l.mh b hb
  · by_cases e : n = k
    · subst e
      rw [List.getElem?_set_self (by rw [← l.len]; exact (List.getElem?_eq_some_iff.mp hn).1)] at h2
      cases h2
      rw [hn] at h1; cases h1
      exact .inr ⟨ga, _, upd_same, r⟩
    · rw [List.getElem?_set_ne e] at h2
      have ne : b ≠ a := fun q => e ((List.getElem?_inj (List.getElem?_eq_some_iff.mp hn).1 l.nd).mp (by rw [hn, h1, q]))
      rcases l.ob k b q h1 h2 with w | ⟨z1, vs, z2, z3⟩
      · exact .inl w
      · exact .inr ⟨z1, vs, by rw [upd_ne ne]; exact z2, z3⟩
theorem Rl.newl {K : Fg} {F G H : Hp} {m : List Addr} {S : Hs} {p : Addr} {xs : List D} {vs : List V} (l : Rl K F G m S H) (hp : H p = none) (r : Reps K G xs vs) : Rl K F G (m ++ [p]) (S ++ [.lst xs]) (upd H p (.lst vs)) := l.new hp (.lst r)
theorem Rl.change {K : Fg} {F G H : Hp} {m : List Addr} {S : Hs} {n : Nat} {a : Addr} {xs ys : List D} {ws : List V} (l : Rl K F G m S H) (hn : m[n]? = some a) (hs : S[n]? = some (.lst xs)) (r : Reps K G ys ws) :
    Rl K F G m (S.set n (.lst ys)) (upd H a (.lst ws)) := l.turn hn (l.ob n a _ hn hs).lst.1 (.lst r)
section
variable {nm : Nm} {cl : Cl} {P : Prg} {cal : Cal} {n : Nat} {X : Cx} {W : WX} {e l r : Expr} {es : List Expr} {pos : Pos} {x y z : Ex}
theorem e_newl (ha : PA X es (TXs nm cl X W (evs P cal x))) : PE X (.List es pos) (TX nm cl X W (ev P cal (.newl x))) := by
  refine PE.imp (pe_lst ha) fun σ H Q ⟨F, G, m, r, S, rl, rv, out⟩ => ?_
  simp only [ev] at out
  refine tX.bind rl rv out fun u1 H1 G1 m1 v1 S1 g1 l1 rv1 r1 out => ?_
  split at out
  · rename_i xs hx
    split at out
    · rename_i hz
      refine ⟨by rw [← r1.length]; exact small_line hz, fun p hp => ?_⟩
      refine out G1 (m1 ++ [p]) _ _ ⟨fun _ _ h => h, fun n a h => ?_⟩ (l1.newl hp (dsOf_reps r1 hx)) ⟨p, ?_, rfl⟩
      · rw [List.getElem?_append_left (List.getElem?_eq_some_iff.mp h).1]; exact h
      · rw [← l1.len]; simp
    · exact out.elim
  · exact out.elim
theorem e_frz {i : Nat} {s : Str} (hN : X.N[i]? = some s) (hv : visB X.env.scope s = true) (ho : okN s = true) : PE X (.Name s pos) (TX nm cl X W (ev P cal (.frz i))) := by
  refine PE.imp (pe_var hN (visB_d hv) (okN_d ho).1 (okN_d ho).2.1) fun σ H Q ⟨F, G, m, r, S, rl, rv, o⟩ => ?_
  simp only [ev] at o
  split at o
  · rename_i k hr
    obtain ⟨u, h1, h2⟩ := rv.2 i _ hr (fun _ _ z => by cases z)
    obtain ⟨a, h2, rfl⟩ := h2
    split at o
    · rename_i xs hs
      obtain ⟨G', ex, l', rp⟩ := rl.freeze h2 hs
      exact ⟨_, h1, o G' m H _ ⟨ex, fun _ _ h => h⟩ l' rp⟩
    · exact o.elim
  · exact o.elim
end
end Iv
end
section
set_option autoImplicit false
set_option maxRecDepth 100000
set_option maxHeartbeats 4000000
namespace Iv
open PySem L2
/-- one turn of a comprehension -/
def cmpF (P : Prg) (cal : Cal) (own : List Nat) (t : Tg) (c e : Ex) (r : Ev) : D → Hs → R (Option D) := fun x S2 => match asgD t x (wipes r own) with
  | none => .bad
  | some r1 => (ev P cal c r1 S2).bind fun k S3 => match k with
    | .d (.bl true) => (ev P cal e r1 S3).bind fun y S4 => match y with
      | .d y => .ok (some y) S4
      | _ => .bad
    | .d (.bl false) => .ok none S3
    | _ => .bad
theorem ev_comp {P : Prg} {cal : Cal} {own : List Nat} {t : Tg} {it c e : Ex} {r : Ev} {S : Hs} : ev P cal (.comp own t it c e) r S = (evi P cal it r S).bind fun xs S1 => if big < xs.length then .bad else
    (compL (cmpF P cal own t c e r) xs [] S1).bind fun ys S5 => .ok (.d (.lst ys)) S5 := rfl
section
variable {nm : Nm} {cl : Cl} {P : Prg} {cal : Cal} {n : Nat} {X : Cx} {W : WX}
abbrev noW : WX := fun _ _ _ _ => False
/-- the reading of a comprehension, whatever is made of the items -/
theorem comp_gen {wi : TI} {own : List Nat} {t : Tg} {it c e : Ex} {σ : L2.St} {H : Hp} {Q : VK} {kk : List D → Hs → R Vl} (hw : wi = TI' nm cl X W (evi P cal it)) (ht : tgIn own t = true)
    (fin : ∀ (F G2 : Hp) (m2 : List Addr) (S2 : Hs) (H2 : Hp) (acc : List D) (vacc : List V) (Da : Addr), F Da = none → Rl (kx cl X) (upd F Da (.lst vacc)) G2 m2 S2 H2 → Reps (kx cl X) G2 acc vacc → OutV nm.excs X.mg (kx cl X) W F σ G2 m2 Q (kk acc S2) → Q (.ref Da) H2)
    (h : ∃ (F G : Hp) (m : List Addr) (r : Ev) (S : Hs), Rl (kx cl X) F G m S H ∧ RlV (kx cl X) G m r σ ∧ OutV nm.excs X.mg (kx cl X) W F σ G m Q ((evi P cal it r S).bind fun xs S1 => if big < xs.length then .bad else
      (compL (cmpF P cal own t c e r) xs [] S1).bind kk)) : tLc wi (tgR (kx cl X) t) (tB (TX nm cl X noW (ev P cal c))) (TX nm cl X noW (ev P cal e)) own σ H Q := by
  subst hw
  obtain ⟨F, G, m, r, S, rl, rv, out⟩ := h
  refine tX.bind rl rv out fun J H1 G1 m1 xs S1 g1 l1 rv1 r1 out => ?_
  intro Da hD
  by_cases hbig : big < xs.length
  · rw [if_pos hbig] at out; exact out.elim
  rw [if_neg hbig] at out
  have hF : F Da = none := by
    cases q : F Da with
    | none => rfl
    | some o => rw [l1.fr _ _ q] at hD; cases hD
  let IV : Nat → Hp → Prop := fun i H => i ≤ xs.length ∧ ∃ (G2 : Hp) (m2 : List Addr) (S2 : Hs) (acc : List D) (vacc : List V), Grow G1 m1 G2 m2 ∧ Rl (kx cl X) (upd F Da (.lst vacc)) G2 m2 S2 H ∧ Reps (kx cl X) G2 acc vacc ∧ acc.length ≤ i ∧
    OutV nm.excs X.mg (kx cl X) W F σ G2 m2 Q ((compL (cmpF P cal own t c e r) (xs.drop i) acc S2).bind kk)
  refine ⟨fun i k H => k = xs.length - i ∧ IV i H, ⟨xs.length, by simp, Nat.zero_le _, G1, m1, S1, [], [], .refl, l1.framed hD, .nil, Nat.le_refl _, by simpa using out⟩, ?_⟩
  rintro i k H2 ⟨rfl, hi, G2, m2, S2, acc, vacc, g2, l2, racc, hacc, out2⟩
  by_cases hlt : i < xs.length
  · right
    refine ⟨r1.go i H2 (g2.1.trans l2.ext) hlt, IV (i + 1), fun H' iv => ⟨xs.length - (i + 1), by omega, rfl, iv⟩, fun x H3 hy => ?_⟩
    have hd : xs[i]? = some xs[i] := by simp [hlt]
    obtain ⟨G3, al, rep⟩ := r1.yld i G2 H2 x H3 _ g2.1 l2.ext hd hy
    have l3 := l2.al al
    have gr3 : Grow G2 m2 G3 m2 := al.grow l2.ext
    have hdrop : xs.drop i = xs[i] :: xs.drop (i + 1) := List.drop_eq_getElem_cons hlt
    rw [hdrop] at out2
    simp only [compL] at out2
    cases hf : cmpF P cal own t c e r xs[i] S2 with
    | bad => rw [hf] at out2; exact out2.elim
    | exc _ _ _ => rw [hf] at out2; exact out2.elim
    | ok o S4 =>
      rw [hf] at out2
      unfold cmpF at hf
      cases ha : asgD t xs[i] (wipes r own) with
      | none => rw [ha] at hf; cases hf
      | some r2 =>
        rw [ha] at hf
        dsimp only at hf
        refine ⟨G3, m2, wipes r own, r2, _, l3.ext, (rv1.mono (g2.trans gr3)).wipe own, rep, ha, fun σ2 rv2 keep => ⟨by rw [keep own ht]; exact wipe_twice _ _, ?_⟩⟩
        cases hc : ev P cal c r2 S2 with
        | bad => rw [hc] at hf; cases hf
        | exc _ _ _ => rw [hc] at hf; cases hf
        | ok kv S5 =>
          rw [hc] at hf
          simp only [R.bind] at hf
          refine ⟨_, G3, m2, r2, S2, l3, rv2, ?_⟩
          rw [hc]
          intro G5 m5 H5 u g5 l5 r5
          split at hf
          · cases r5
            refine ⟨true, rfl, iteT ?_⟩
            cases he : ev P cal e r2 S5 with
            | bad => rw [he] at hf; cases hf
            | exc _ _ _ => rw [he] at hf; cases hf
            | ok yv S6 =>
              rw [he] at hf
              simp only [R.bind] at hf
              refine ⟨_, G5, m5, r2, S5, l5, rv2.mono g5, ?_⟩
              rw [he]
              intro G6 m6 H6 u6 g6 l6 r6
              split at hf
              · cases hf
                refine ⟨vacc, l6.fr _ _ upd_same, ?_, by omega, G6, m6, _, _, _, (g2.trans gr3).trans (g5.trans g6), l6.reframe, ((racc.mono gr3.1).mono (g5.trans g6).1).append (.cons r6 .nil), ?_, Out.grow (gr3.trans (g5.trans g6)) out2⟩
                · rw [← racc.length, sizeLine_eq]
                  have : xs.length ≤ 1000000 := Nat.le_of_not_lt hbig
                  omega
                · rw [List.length_append]; simp; omega
              · cases hf
          · cases r5
            refine ⟨false, rfl, iteF ?_⟩
            cases hf
            exact ⟨by omega, G5, m5, _, _, vacc, (g2.trans gr3).trans g5, l5, (racc.mono gr3.1).mono g5.1, by omega, Out.grow (gr3.trans g5) out2⟩
          · cases hf
  · left
    have e : i = xs.length := by omega
    subst e
    refine ⟨r1.stop _ H2 (g2.1.trans l2.ext) (Nat.le_refl _) (Nat.le_refl _), ?_⟩
    rw [List.drop_length] at out2
    simp only [compL, R.bind] at out2
    exact fin F G2 m2 S2 H2 acc vacc Da hF l2 racc out2
/-- the reading of a comprehension -/
theorem comp_read {wi : TI} {own : List Nat} {t : Tg} {it c e : Ex} {σ : L2.St} {H : Hp} {Q : VK} (hw : wi = TI' nm cl X W (evi P cal it)) (ht : tgIn own t = true)
    (h : TX nm cl X W (ev P cal (.comp own t it c e)) σ H Q) : tLc wi (tgR (kx cl X) t) (tB (TX nm cl X noW (ev P cal c))) (TX nm cl X noW (ev P cal e)) own σ H Q := by
  refine comp_gen (kk := fun ys S5 => .ok (.d (.lst ys)) S5) hw ht (fun F G2 m2 S2 H2 acc vacc Da hF l2 racc out2 => ?_) ?_
  · obtain ⟨l3, ex⟩ := l2.unframe hF
    exact out2 _ m2 H2 _ ⟨ex, fun _ _ h => h⟩ l3 (.lst upd_same (racc.mono ex))
  · obtain ⟨F, G, m, r, S, rl, rv, out⟩ := h
    rw [ev_comp] at out
    exact ⟨F, G, m, r, S, rl, rv, out⟩
/-- what the frame bears goes into the small heap -/
theorem Rl.unframeM {K : Fg} {F G H : Hp} {m : List Addr} {S : Hs} {p : Addr} {xs : List D} {vs : List V} (hF : F p = none) (l : Rl K (upd F p (.lst vs)) G m S H) (r : Reps K G xs vs) : Rl K F G (m ++ [p]) (S ++ [.lst xs]) H := by
  obtain ⟨gp, mp⟩ := l.fd p _ upd_same
  have hp : H p = some (.lst vs) := l.fr _ _ upd_same
  have tb : TbOk K F G (m ++ [p]) H := ⟨fun b u e => l.tb.f b u (by rw [upd_ne (fun z => by rw [z, hF] at e; cases e)]; exact e), l.tb.g, fun b hb u e => by
    rcases List.mem_append.mp hb with z | z
    · exact l.tb.m b z u e
    · have z : b = p := by simpa using z
      subst z
      rw [hp] at e; cases e
      exact ⟨fun ps e => (by cases e), fun q e => (by cases e)⟩, l.tb.t⟩
  refine ⟨l.ext, fun a q h => ?_, fun a q h => ?_, fun a ha => ?_, by simp [l.len], ?_, fun n a q h1 h2 => ?_, tb⟩
  · have : a ≠ p := fun e => by rw [e, hF] at h; cases h
    exact l.fr a q (by rw [upd_ne this]; exact h)
  · have : a ≠ p := fun e => by rw [e, hF] at h; cases h
    obtain ⟨z1, z2⟩ := l.fd a q (by rw [upd_ne this]; exact h)
    exact ⟨z1, fun hm => by
      rcases List.mem_append.mp hm with z | z
      · exact z2 z
      · simp at z; exact this z⟩
  · rcases List.mem_append.mp ha with z | z
    · exact l.mh a z
    · simp at z; subst z; exact ⟨_, hp⟩
  · rw [List.nodup_append]
    exact ⟨l.nd, by simp, fun a ha b hb => by simp at hb; subst hb; exact fun e => mp (e ▸ ha)⟩
  · by_cases hn : n < m.length
    · rw [List.getElem?_append_left hn] at h1
      rw [List.getElem?_append_left (by rw [← l.len]; exact hn)] at h2
      exact l.ob n a q h1 h2
    · rw [List.getElem?_append_right (by omega)] at h1
      rw [List.getElem?_append_right (by rw [← l.len]; omega), ← l.len] at h2
      cases e : n - m.length with
      | zero =>
        rw [e] at h1 h2
        simp at h1 h2
        subst h1; subst h2
        exact .inr ⟨gp, _, hp, .lst r⟩
      | succ k => rw [e] at h1; simp at h1
theorem ev_newc {own : List Nat} {t : Tg} {it c e : Ex} {r : Ev} {S : Hs} : ev P cal (.newc own t it c e) r S = (evi P cal it r S).bind fun xs S1 => if big < xs.length then .bad else
    (compL (cmpF P cal own t c e r) xs [] S1).bind fun ys S5 => .ok (.loc S5.length) (S5 ++ [.lst ys]) := rfl
theorem newc_read {wi : TI} {own : List Nat} {t : Tg} {it c e : Ex} {σ : L2.St} {H : Hp} {Q : VK} (hw : wi = TI' nm cl X W (evi P cal it)) (ht : tgIn own t = true)
    (h : TX nm cl X W (ev P cal (.newc own t it c e)) σ H Q) : tLc wi (tgR (kx cl X) t) (tB (TX nm cl X noW (ev P cal c))) (TX nm cl X noW (ev P cal e)) own σ H Q := by
  refine comp_gen (kk := fun ys S5 => .ok (.loc S5.length) (S5 ++ [.lst ys])) hw ht (fun F G2 m2 S2 H2 acc vacc Da hF l2 racc out2 => ?_) ?_
  · have l3 := l2.unframeM hF racc
    refine out2 G2 (m2 ++ [Da]) H2 _ ⟨fun _ _ h => h, fun n a h => ?_⟩ l3 ⟨Da, ?_, rfl⟩
    · rw [List.getElem?_append_left (List.getElem?_eq_some_iff.mp h).1]; exact h
    · rw [← l2.len]; simp
  · obtain ⟨F, G, m, r, S, rl, rv, out⟩ := h
    rw [ev_newc] at out
    exact ⟨F, G, m, r, S, rl, rv, out⟩
end
end Iv
end
section
set_option autoImplicit false
set_option maxRecDepth 100000
set_option maxHeartbeats 4000000
namespace Iv
open PySem L2
/-! ### dicts -/
theorem RepKs.append {K : Fg} {G : Hp} : ∀ {xs ys : List (Ky × D)} {vs ws : List (Key × V)}, RepKs K G xs vs → RepKs K G ys ws → RepKs K G (xs ++ ys) (vs ++ ws)
  | _, _, _, _, .nil, s => s
  | _, _, _, _, .cons o h r, s => .cons o h (RepKs.append r s)
theorem kput_val {K : Fg} {G : Hp} {k : Ky} {x : D} {v : V} (ok : okK k) (r : Rep K G x v) {xs : List (Ky × D)} {kvs : List (Key × V)} (h : RepKs K G xs kvs) : RepKs K G (kput k x xs) (putK kvs (kyOf k) v) := by
  have dec : ∀ k' : Ky, decide (kyOf k' = kyOf k) = decide (k' = k) := fun k' => by
    by_cases e : k' = k
    · subst e; simp
    · rw [decide_eq_false e, decide_eq_false (fun q => e (kyOf_inj q))]
  have any_in : ∀ (xs : List (Ky × D)) (kvs : List (Key × V)), RepKs K G xs kvs → (kvs.any fun kv => decide (kv.1 = kyOf k)) = xs.any fun p => decide (p.1 = k) := by
    intro xs
    induction xs with
    | nil => intro kvs h; cases h; rfl
    | cons p xs ih =>
      intro kvs h
      cases h with
      | cons _ _ t => rw [List.any_cons, List.any_cons, ih _ t, dec]
  have mapped : ∀ (xs : List (Ky × D)) (kvs : List (Key × V)), RepKs K G xs kvs → RepKs K G (xs.map fun p => if p.1 = k then (p.1, x) else p) (kvs.map fun kv => if kv.1 = kyOf k then (kv.1, v) else kv) := by
    intro xs
    induction xs with
    | nil => intro kvs h; cases h; exact .nil
    | cons p xs ih =>
      intro kvs h
      cases h with
      | @cons k' _ _ _ _ o' r' t =>
        rw [List.map_cons, List.map_cons]
        by_cases e : k' = k
        · subst e
          rw [if_pos rfl, if_pos rfl]
          exact .cons o' r (ih _ t)
        · rw [if_neg e, if_neg fun q => e (kyOf_inj q)]
          exact .cons o' r' (ih _ t)
  unfold kput putK
  rw [any_in xs kvs h]
  by_cases ha : (xs.any fun p => decide (p.1 = k)) = true
  · rw [if_pos ha, if_pos ha]; exact mapped _ _ h
  · rw [if_neg ha, if_neg ha]; exact h.append (.cons ok r .nil)
theorem keyD_V {K : Fg} {G : Hp} {d : D} {u : V} {q : Ky} (r : Rep K G d u) (h : keyD d = some q) : u = kV (kyOf q) ∧ okK q := by
  cases r with
  | int i => cases h; exact ⟨rfl, trivial⟩
  | str s o => cases h; exact ⟨rfl, o⟩
  | _ => cases h
/-- a dict that is read -/
theorem rdK_rd {K : Fg} {F G H : Hp} {m : List Addr} {S : Hs} {v : Vl} {u : V} {xs : List (Ky × D)} (l : Rl K F G m S H) (r : RepV K G m v u) (h : rdK v S = some xs) : ∃ a ks, u = .ref a ∧ Rd H a (.dK ks) ∧ RepKs K G xs ks := by
  unfold rdK at h
  split at h
  · cases h
    cases r with
    | dct h1 h2 => exact ⟨_, _, rfl, .inr ⟨_, l.ext _ _ h1⟩, h2⟩
  · rename_i n
    obtain ⟨a, ha, rfl⟩ := r
    split at h
    · rename_i kvs hs
      cases h
      obtain ⟨_, ks, h2, h3⟩ := (l.ob n a _ ha hs).dct
      exact ⟨a, ks, rfl, .inl h2, h3⟩
    · cases h
  · cases h
/-- a new dict is locked for ever -/
theorem pe_lock {X : Cx} {e : Expr} {t : TE} (h : PE X e t) : PE X e (fun σ H Q => t σ H fun x H1 => ∃ p kvs, x = .ref p ∧ H1 p = some (.dK kvs) ∧ ∀ o, Q x (upd H1 p (.frz o (.dK kvs)))) := by
  refine ⟨fun pins s σ H Q I hw => thn (h.run pins s σ H _ I hw) fun v s' ⟨x, H1, I1, rx, p, kvs, ex, hp, q⟩ => ?_⟩
  obtain ⟨od, I2⟩ := I1.lock hp trivial
  exact ⟨x, _, I2, rx, q od⟩
theorem upd_upd {H : Hp} {p : Addr} {a b : HO} : upd (upd H p a) p b = upd H p b := by
  funext q
  by_cases e : q = p
  · subst e; rw [upd_same, upd_same]
  · rw [upd_ne e, upd_ne e, upd_ne e]
section
variable {nm : Nm} {cl : Cl} {P : Prg} {cal : Cal} {n : Nat} {X : Cx} {W : WX} {e l r : Expr} {es : List Expr} {pos : Pos} {x y z : Ex}
theorem e_dct0 : PE X (.Dict [] [] pos) (TX nm cl X W (ev P cal .dct0)) := by
  refine PE.imp (pe_lock pe_dnewK) fun σ H Q ⟨F, G, m, r, S, rl, rv, out⟩ => ?_
  simp only [ev] at out
  intro p hp
  refine ⟨p, [], rfl, upd_same, fun o => ?_⟩
  rw [upd_upd]
  exact Out.gives out rl _ _ _ (Al.one hp) (.dct upd_same .nil)
theorem e_newd : PE X (.Dict [] [] pos) (TX nm cl X W (ev P cal .newd)) := by
  refine PE.imp pe_dnewK fun σ H Q ⟨F, G, m, r, S, rl, rv, out⟩ => ?_
  simp only [ev] at out
  intro p hp
  refine out G (m ++ [p]) _ _ ⟨fun _ _ h => h, fun n a h => ?_⟩ (rl.new hp (.dct .nil)) ⟨p, ?_, rfl⟩
  · rw [List.getElem?_append_left (List.getElem?_eq_some_iff.mp h).1]; exact h
  · rw [← rl.len]; simp
theorem e_dix (C : Ck nm cl P cal n X W) (hp : PlainIx r) (ha : PE X l (TX nm cl X W (ev P cal x))) (hb : PE X r (TX nm cl X W (ev P cal y))) : PE X (.Subscript l r pos) (TX nm cl X W (ev P cal (.dix x y))) := by
  refine PE.imp (pe_dget (Nat.lt_of_le_of_lt (by omega) C.room.units) ha hb hp) fun σ H Q ⟨F, G, m, r, S, rl, rv, out⟩ => ?_
  simp only [ev] at out
  refine tX.bind rl rv out fun u1 H1 G1 m1 v1 S1 g1 l1 rv1 r1 out => ?_
  refine tX.bind l1 rv1 out fun u2 H2 G2 m2 v2 S2 g2 l2 rv2 r2 out => ?_
  split at out
  · rename_i kvs b ea
    obtain ⟨d, hd, g⟩ := Out.optD out l2
    obtain ⟨a, ks, rfl, h1, h2⟩ := rdK_rd l2 (r1.mono g2) ea
    cases hk : keyD b with
    | none => rw [hk] at hd; cases hd
    | some q =>
      rw [hk] at hd
      obtain ⟨rfl, ok⟩ := keyD_V r2 hk
      rcases h2.val q with ⟨e1, _⟩ | ⟨w, v, e1, e2, e3⟩
      · rw [Option.bind_some, e1] at hd; cases hd
      · rw [Option.bind_some, e1] at hd; cases hd
        exact ⟨a, v, rfl, .inl ⟨ks, _, h1, rfl, e2.symm⟩, g.here e3⟩
  · exact out.elim
theorem din_read {ng : Bool} {σ : L2.St} {H : Hp} {Q : VK} (h : TX nm cl X W (ev P cal (.din ng x y)) σ H Q) :
    TX nm cl X W (ev P cal x) σ H fun y' H1 => TX nm cl X W (ev P cal y) σ H1 fun x' H2 => ∃ a o, x' = .ref a ∧ DGet H2 a y' o ∧ Q (.bl (if ng then !o.isSome else o.isSome)) H2 := by
  obtain ⟨F, G, m, r, S, rl, rv, out⟩ := h
  simp only [ev] at out
  refine tX.bind rl rv out fun u1 H1 G1 m1 v1 S1 g1 l1 rv1 r1 out => ?_
  refine tX.bind l1 rv1 out fun u2 H2 G2 m2 v2 S2 g2 l2 rv2 r2 out => ?_
  cases v1 with
  | loc _ => cases hq : rdK v2 S2 <;> rw [hq] at out <;> exact out.elim
  | xc _ _ => cases hq : rdK v2 S2 <;> rw [hq] at out <;> exact out.elim
  | d b =>
  cases ea : rdK v2 S2 with
  | none => rw [ea] at out; exact out.elim
  | some kvs =>
    rw [ea] at out
    dsimp only at out
    obtain ⟨a, ks, rfl, h1, h2⟩ := rdK_rd l2 r2 ea
    cases hk : keyD b with
    | none => rw [hk] at out; exact out.elim
    | some q =>
      rw [hk] at out
      obtain ⟨rfl, ok⟩ := keyD_V (Rep.mono g2.1 r1) hk
      have hb : ((valV ks (kyOf q)).isSome) = (kget q kvs).isSome := by
        rcases h2.val q with ⟨e1, e2⟩ | ⟨w, v, e1, e2, e3⟩
        · rw [e1, e2]; rfl
        · rw [e1, e2]; rfl
      refine ⟨a, _, rfl, .inl ⟨ks, _, h1, rfl, rfl⟩, ?_⟩
      rw [hb]
      exact (Out.gives out l2).here (.bl _)
theorem e_din {ng : Bool} (C : Ck nm cl P cal n X W) (hm : behindInMarks (if ng then .NotIn else .In) r = false) (ha : PE X l (TX nm cl X W (ev P cal x))) (hb : PE X r (TX nm cl X W (ev P cal y))) : PE X (.Compare l [if ng then .NotIn else .In] [r] pos) (TX nm cl X W (ev P cal (.din ng x y))) := by
  have hu : X.A.units + 1 < cLine := Nat.lt_of_le_of_lt (by omega) C.room.units
  have key : PE X (.Compare l [if ng then .NotIn else .In] [r] pos) (fun σ H Q => TX nm cl X W (ev P cal x) σ H fun y' H1 => TX nm cl X W (ev P cal y) σ H1 fun x' H2 => ∃ a o, x' = .ref a ∧ DGet H2 a y' o ∧ Q (.bl (if ng then !o.isSome else o.isSome)) H2) := by
    cases ng with
    | true => exact pe_cmp (pc_dnotin hu ha hb) hm
    | false => exact pe_cmp (pc_din hu ha hb) hm
  exact PE.imp key fun σ H Q h => din_read h
theorem t_din {ng : Bool} (C : Ck nm cl P cal n X W) (hm : behindInMarks (if ng then .NotIn else .In) r = false) (ha : PE X l (TX nm cl X W (ev P cal x))) (hb : PE X r (TX nm cl X W (ev P cal y))) : PT X (.Compare l [if ng then .NotIn else .In] [r] pos) (tB (TX nm cl X W (ev P cal (.din ng x y)))) := by
  have hu : X.A.units + 1 < cLine := Nat.lt_of_le_of_lt (by omega) C.room.units
  have key : PT X (.Compare l [if ng then .NotIn else .In] [r] pos) (tB fun σ H Q => TX nm cl X W (ev P cal x) σ H fun y' H1 => TX nm cl X W (ev P cal y) σ H1 fun x' H2 => ∃ a o, x' = .ref a ∧ DGet H2 a y' o ∧ Q (.bl (if ng then !o.isSome else o.isSome)) H2) := by
    cases ng with
    | true => exact pt_cmp (pc_dnotin hu ha hb) hm
    | false => exact pt_cmp (pc_din hu ha hb) hm
  exact PT.imp key fun σ H Q h => din_read h
theorem e_dgt {a1 a2 : Expr} {ap : Pos} {sc : Scope} {N : List Str} (C : Ck nm cl P cal n X W) (h0 : noC0 l = true) (hl : (ap.endLine == pos.line) = true) (hs : isE nm N sc y a1 = true) (hs2 : isE nm N sc z a2 = true)
    (ha : PE X l (TX nm cl X W (ev P cal x))) (hb : PE X a1 (TX nm cl X W (ev P cal y))) (hc : PE X a2 (TX nm cl X W (ev P cal z))) : PE X (.Call (.Attribute l "get" ap) [a1, a2] [] pos) (TX nm cl X W (ev P cal (.dgt x y z))) := by
  have m : M2 X l "get" ap a1 a2 pos := ⟨base_e h0, by rw [star_e hs, star_e hs2]; rfl, hl, by rw [star_e hs, star_e hs2]; rfl⟩
  refine PE.imp (pe_dget2 (Nat.lt_of_le_of_lt (by omega) C.room.units) ha hb hc m) fun σ H Q ⟨F, G, m, r, S, rl, rv, out⟩ => ?_
  simp only [ev] at out
  refine tX.bind rl rv out fun u1 H1 G1 m1 v1 S1 g1 l1 rv1 r1 out => ?_
  split at out
  · rename_i kvs0 ea0
    obtain ⟨a, ks0, rfl, h1, h2⟩ := rdK_rd l1 r1 ea0
    refine ⟨a, rfl, .inl ⟨_, h1⟩, tX.bind l1 rv1 out fun u2 H2 G2 m2 v2 S2 g2 l2 rv2 r2 out => ?_⟩
    refine tX.bind l2 rv2 out fun u3 H3 G3 m3 v3 S3 g3 l3 rv3 r3 out => ?_
    cases v2 with
    | loc _ => cases hq : rdK v1 S3 <;> rw [hq] at out <;> exact out.elim
    | xc _ _ => cases hq : rdK v1 S3 <;> rw [hq] at out <;> exact out.elim
    | d b =>
    cases v3 with
    | loc _ => cases hq : rdK v1 S3 <;> rw [hq] at out <;> exact out.elim
    | xc _ _ => cases hq : rdK v1 S3 <;> rw [hq] at out <;> exact out.elim
    | d w =>
    cases ea : rdK v1 S3 with
    | none => rw [ea] at out; exact out.elim
    | some kvs =>
      rw [ea] at out
      dsimp only at out
      obtain ⟨a', ks, e', h3, h4⟩ := rdK_rd l3 (r1.mono (g2.trans g3)) ea
      cases e'
      cases hk : keyD b with
      | none => rw [hk] at out; exact out.elim
      | some q =>
        rw [hk] at out
        obtain ⟨rfl, ok⟩ := keyD_V (Rep.mono g3.1 r2) hk
        rcases h4.val q with ⟨e1, e2⟩ | ⟨w', v, e1, e2, e3⟩
        · refine ⟨none, .inl ⟨ks, _, h3, rfl, e2.symm⟩, ?_⟩
          have o2 := Out.gives (d := w) (by simpa [e1, R.opt] using out) l3
          exact o2.here r3
        · refine ⟨some v, .inl ⟨ks, _, h3, rfl, e2.symm⟩, ?_⟩
          have o2 := Out.gives (d := w') (by simpa [e1, R.opt] using out) l3
          exact o2.here e3
  · exact out.elim
/-- one turn of a dict comprehension -/
def dcmF (P : Prg) (cal : Cal) (own : List Nat) (t : Tg) (c k e : Ex) (r : Ev) : D → Hs → R (Option (Ky × D)) := fun x S2 => match asgD t x (wipes r own) with
  | none => .bad
  | some r1 => (ev P cal c r1 S2).bind fun b S3 => match b with
    | .d (.bl true) => (ev P cal k r1 S3).bind fun y S4 => (ev P cal e r1 S4).bind fun z S5 => match y, z with
      | .d y, .d z => match keyD y with
        | some q => .ok (some (q, z)) S5
        | none => .bad
      | _, _ => .bad
    | .d (.bl false) => .ok none S3
    | _ => .bad
theorem ev_dcmp {own : List Nat} {t : Tg} {it c k e : Ex} {r : Ev} {S : Hs} : ev P cal (.dcmp own t it c k e) r S = (evi P cal it r S).bind fun xs S1 => if big < xs.length then .bad else
    (dcmpL (dcmF P cal own t c k e r) xs [] S1).bind fun ys S5 => .ok (.d (.dct ys)) S5 := rfl
theorem kput_len (k : Ky) (x : D) (xs : List (Ky × D)) : (kput k x xs).length ≤ xs.length + 1 := by
  unfold kput
  split
  · rw [List.length_map]; omega
  · rw [List.length_append]; simp
/-- the reading of a dict comprehension -/
theorem dcmp_read {wi : TI} {own : List Nat} {t : Tg} {it c k e : Ex} {σ : L2.St} {H : Hp} {Q : VK} (hw : wi = TI' nm cl X W (evi P cal it)) (ht : tgIn own t = true)
    (h : TX nm cl X W (ev P cal (.dcmp own t it c k e)) σ H Q) : tDc wi (tgR (kx cl X) t) (tB (TX nm cl X noW (ev P cal c))) (TX nm cl X noW (ev P cal k)) (TX nm cl X noW (ev P cal e)) own σ H
      fun x H1 => ∃ p kvs, x = .ref p ∧ H1 p = some (.dK kvs) ∧ ∀ o, Q x (upd H1 p (.frz o (.dK kvs))) := by
  subst hw
  obtain ⟨F, G, m, r, S, rl, rv, out⟩ := h
  rw [ev_dcmp] at out
  refine tX.bind rl rv out fun J H1 G1 m1 xs S1 g1 l1 rv1 r1 out => ?_
  intro Da hD
  by_cases hbig : big < xs.length
  · rw [if_pos hbig] at out; exact out.elim
  rw [if_neg hbig] at out
  have hF : F Da = none := by
    cases q : F Da with
    | none => rfl
    | some o => rw [l1.fr _ _ q] at hD; cases hD
  let IV : Nat → Hp → Prop := fun i H => i ≤ xs.length ∧ ∃ (G2 : Hp) (m2 : List Addr) (S2 : Hs) (acc : List (Ky × D)) (vacc : List (Key × V)), Grow G1 m1 G2 m2 ∧ Rl (kx cl X) (upd F Da (.dK vacc)) G2 m2 S2 H ∧ RepKs (kx cl X) G2 acc vacc ∧ acc.length ≤ i ∧
    OutV nm.excs X.mg (kx cl X) W F σ G2 m2 Q ((dcmpL (dcmF P cal own t c k e r) (xs.drop i) acc S2).bind fun ys S5 => .ok (.d (.dct ys)) S5)
  refine ⟨fun i k H => k = xs.length - i ∧ IV i H, ⟨xs.length, by simp, Nat.zero_le _, G1, m1, S1, [], [], .refl, l1.framed hD, .nil, Nat.le_refl _, by simpa using out⟩, ?_⟩
  rintro i kk H2 ⟨rfl, hi, G2, m2, S2, acc, vacc, g2, l2, racc, hacc, out2⟩
  by_cases hlt : i < xs.length
  · right
    refine ⟨r1.go i H2 (g2.1.trans l2.ext) hlt, IV (i + 1), fun H' iv => ⟨xs.length - (i + 1), by omega, rfl, iv⟩, fun x H3 hy => ?_⟩
    have hd : xs[i]? = some xs[i] := by simp [hlt]
    obtain ⟨G3, al, rep⟩ := r1.yld i G2 H2 x H3 _ g2.1 l2.ext hd hy
    have l3 := l2.al al
    have gr3 : Grow G2 m2 G3 m2 := al.grow l2.ext
    have hdrop : xs.drop i = xs[i] :: xs.drop (i + 1) := List.drop_eq_getElem_cons hlt
    rw [hdrop] at out2
    simp only [dcmpL] at out2
    cases hf : dcmF P cal own t c k e r xs[i] S2 with
    | bad => rw [hf] at out2; exact out2.elim
    | exc _ _ _ => rw [hf] at out2; exact out2.elim
    | ok o S4 =>
      rw [hf] at out2
      unfold dcmF at hf
      cases ha : asgD t xs[i] (wipes r own) with
      | none => rw [ha] at hf; cases hf
      | some r2 =>
        rw [ha] at hf
        dsimp only at hf
        refine ⟨G3, m2, wipes r own, r2, _, l3.ext, (rv1.mono (g2.trans gr3)).wipe own, rep, ha, fun σ2 rv2 keep => ⟨by rw [keep own ht]; exact wipe_twice _ _, ?_⟩⟩
        cases hc : ev P cal c r2 S2 with
        | bad => rw [hc] at hf; cases hf
        | exc _ _ _ => rw [hc] at hf; cases hf
        | ok kv S5 =>
          rw [hc] at hf
          simp only [R.bind] at hf
          refine ⟨_, G3, m2, r2, S2, l3, rv2, ?_⟩
          rw [hc]
          intro G5 m5 H5 u g5 l5 r5
          split at hf
          · cases r5
            refine ⟨true, rfl, iteT ?_⟩
            cases he : ev P cal k r2 S5 with
            | bad => rw [he] at hf; cases hf
            | exc _ _ _ => rw [he] at hf; cases hf
            | ok yv S6 =>
              rw [he] at hf
              dsimp only at hf
              refine ⟨_, G5, m5, r2, S5, l5, rv2.mono g5, ?_⟩
              rw [he]
              intro G6 m6 H6 u6 g6 l6 r6
              cases hz : ev P cal e r2 S6 with
              | bad => rw [hz] at hf; cases hf
              | exc _ _ _ => rw [hz] at hf; cases hf
              | ok zv S7 =>
                rw [hz] at hf
                dsimp only at hf
                refine ⟨_, G6, m6, r2, S6, l6, rv2.mono (g5.trans g6), ?_⟩
                rw [hz]
                intro G7 m7 H7 u7 g7 l7 r7
                cases yv with
                | loc _ => cases hf
                | xc _ _ => cases hf
                | d y =>
                cases zv with
                | loc _ => cases hf
                | xc _ _ => cases hf
                | d zz =>
                dsimp only at hf
                cases hk : keyD y with
                | none => rw [hk] at hf; cases hf
                | some q =>
                  rw [hk] at hf
                  cases hf
                  obtain ⟨rfl, ok⟩ := keyD_V r6 hk
                  refine ⟨vacc, kyOf q, rfl, l7.fr _ _ upd_same, ?_, by omega, G7, m7, _, _, _, (g2.trans gr3).trans ((g5.trans g6).trans g7), l7.reframe, kput_val ok r7 ((racc.mono gr3.1).mono ((g5.trans g6).trans g7).1), ?_, Out.grow (gr3.trans ((g5.trans g6).trans g7)) out2⟩
                  · rw [← racc.length, sizeLine_eq]
                    have : xs.length ≤ 1000000 := Nat.le_of_not_lt hbig
                    omega
                  · have := kput_len q zz acc; omega
          · cases r5
            refine ⟨false, rfl, iteF ?_⟩
            cases hf
            exact ⟨by omega, G5, m5, _, _, vacc, (g2.trans gr3).trans g5, l5, (racc.mono gr3.1).mono g5.1, by omega, Out.grow (gr3.trans g5) out2⟩
          · cases hf
  · left
    have e : i = xs.length := by omega
    subst e
    refine ⟨r1.stop _ H2 (g2.1.trans l2.ext) (Nat.le_refl _) (Nat.le_refl _), Da, vacc, rfl, l2.fr _ _ upd_same, fun o => ?_⟩
    rw [List.drop_length] at out2
    simp only [dcmpL, R.bind] at out2
    have l2' := l2.reframe (o' := .frz o (.dK vacc))
    obtain ⟨l3, ex⟩ := l2'.unframe hF
    exact out2 _ m2 _ _ ⟨ex, fun _ _ h => h⟩ l3 (.dct upd_same (racc.mono ex))
end
end Iv
end
section
set_option autoImplicit false
set_option maxRecDepth 100000
set_option maxHeartbeats 4000000
namespace Iv
open PySem L2
/-! ### tuples whose object is known -/
/-- the object of a new tuple -/
abbrev tupO (us : List Value) : Obj := { cls := .type "tuple", data := .seq us.toArray }
section
variable {X : Cx} {es : List Expr} {t : TA} {pos : Pos}
theorem pe_tupP {k : Nat} (h : PA X es t) : PE X (.Tuple es k pos) (fun σ H Q => t σ H fun xs H1 => xs.length ≤ sizeLine ∧ ∀ p us, H1 p = none → Q (.ref p) (upd H1 p (.frz (tupO us) (.tup xs)))) := by
  refine ⟨fun pins s σ H Q I hq => wpAny_Tuple_spliced (thn (h.run pos pins s σ H _ I hq) fun us s1 ⟨xs, H1, I1, r, z, q⟩ => ⟨by rw [← r.length]; exact z, ?_⟩)⟩
  have fr : H1 s1.heap.objs.size = none := I1.hok.fresh (Nat.le_refl _)
  have at_ : (s1.heap.push (tupO us)).get? s1.heap.objs.size = some (tupO us) := Heap.get?_push_size _ rfl
  exact ⟨.ref s1.heap.objs.size, _, I1.laid (t' := s1.toks) (o := .frz (tupO us) (.tup xs)) (fun b u e => Heap.get?_push_of_some _ e) (Nat.le_refl _) ⟨at_, z, us, r, ⟨_, at_, rfl, _, rfl⟩⟩, rfl, q _ us fr⟩
theorem call_tupP : CallR X (.type "tuple") (fun xs H Q => ∃ p ys, xs = [.ref p] ∧ SqL X.K H p ys ∧ (ys.length ≤ sizeLine → ∀ l us, H l = none → Q (.ref l) (upd H l (.frz (tupO us) (.tup ys))))) := by
  intro pins s σ H xs us Q I r h
  obtain ⟨p, ys, rfl, hq, q⟩ := h
  obtain rfl := Vals.ref1 r
  obtain ⟨its, r', pl, hz⟩ := I.list hq
  have hlen := r'.length
  refine call_tuple_list pl.isList (fun h' kp => ?_) (by simp only [List.size_toArray]; omega)
  have I1 : Inv X pins σ H { s with heap := h' } := I.kept (t' := s.toks) kp
  have at_ : (h'.push (tupO its)).get? h'.objs.size = some (tupO its) := Heap.get?_push_size _ rfl
  exact ⟨.ref h'.objs.size, _, I1.laid (t' := s.toks) (o := .frz (tupO its) (.tup ys)) (fun b o e => Heap.get?_push_of_some _ e) (Nat.le_refl _) ⟨at_, hz, its, r', ⟨_, at_, rfl, _, rfl⟩⟩, rfl, q hz _ its (I1.hok.fresh (Nat.le_refl _))⟩
/-! ### dict(pairs) -/
end
theorem list_choose {α β : Type} (l : List α) (R : Nat → α → β → Prop) (h : ∀ (j : Nat) (a : α), l[j]? = some a → ∃ b, R j a b) : ∃ bs : List β, bs.length = l.length ∧ ∀ (j : Nat) (a : α) (b : β), l[j]? = some a → bs[j]? = some b → R j a b := by
  induction l generalizing R with
  | nil => exact ⟨[], rfl, fun j a b e => by simp at e⟩
  | cons x l ih =>
    obtain ⟨bs, h1, h2⟩ := ih (fun j => R (j + 1)) fun j a e => h (j + 1) a (by simpa using e)
    obtain ⟨b, hb⟩ := h 0 x rfl
    refine ⟨b :: bs, by simp [h1], fun j a c e1 e2 => ?_⟩
    cases j with
    | zero => simp at e1 e2; subst e1; subst e2; exact hb
    | succ j => exact h2 j a c (by simpa using e1) (by simpa using e2)
section
variable {X : Cx} {es : List Expr} {t : TA} {pos : Pos}
/-- the pairs of a tuple whose object is known -/
theorem call_dofP (hc : X.calm = true) : CallR X (.type "dict") (fun xs H Q => ∃ (a : Addr) (ps : List Addr) (kvs : List (Key × V)), xs = [.ref a] ∧ SqP X.K H a (ps.map V.ref) ∧ Paired (fun p kv => SqT X.K H p [kV kv.1, kv.2]) ps kvs ∧
    ∀ p, H p = none → Q (.ref p) (upd H p (.dK (mergeK [] kvs)))) := by
  intro pins s σ H xs us Q I r h
  obtain ⟨a, ps, kvs, rfl, hq, hp, q⟩ := h
  obtain rfl := Vals.ref1 r
  obtain ⟨prs, rel, hl, hpr⟩ := pairs_of I hp
  obtain ⟨o, its, n, h1, h2, h3, h4, hz⟩ := hq
  have hget : s.heap.get? a = some o ∧ Vals (ps.map V.ref) its := by
    rcases h1 with h1 | ⟨h1, h6⟩
    · obtain ⟨e1, e2⟩ := (show ObjOk X.prog X.w H s.heap a (.frz o (.tup (ps.map V.ref))) from I.hok a _ h1)
      obtain ⟨_, its', rv, o', ho', hc', n', hd'⟩ := e2
      rw [e1] at ho'; cases ho'
      rw [h4] at hd'
      injection hd' with d1 _
      have : its = its' := by simpa using congrArg Array.toList d1
      subst this
      exact ⟨e1, rv⟩
    · exact ⟨I.kIn a o h1, h6⟩
  obtain ⟨hget, rv⟩ := hget
  have ei := refs_at rv
  subst ei
  rw [List.length_map] at hz
  obtain ⟨us, hul, hus⟩ := list_choose prs (fun j q u => ∃ b, ps[j]? = some b ∧ PyProof.Rows.IsTup s.heap b #[u, q.2] ∧ keyIs q.1 u = true) fun j q e => by
    obtain ⟨b, u, e1, e2, e3⟩ := hpr j q e
    exact ⟨u, b, e1, e2, e3⟩
  have zl : (us.zip (prs.map (·.2))).length = prs.length := by simp [hul]
  have zg : ∀ (j : Nat) (k v : Value), (us.zip (prs.map (·.2)))[j]? = some (k, v) → ∃ q, prs[j]? = some q ∧ us[j]? = some k ∧ v = q.2 := fun j k v e => by
    rw [List.getElem?_zip_eq_some] at e
    obtain ⟨e1, e2⟩ := e
    rw [List.getElem?_map] at e2
    cases e3 : prs[j]? with
    | none => rw [e3] at e2; cases e2
    | some q => rw [e3] at e2; cases e2; exact ⟨q, rfl, e1, rfl⟩
  refine PySem.call_dict_pairs (knd := mixKind X.prog X.w) (kvs := prs) (PairArg.tuple a ((ps.map Value.ref).toArray) (fun j => (ps[j]?).getD 0) (us.zip (prs.map (·.2)))) (I.ok.hd hc) ⟨⟨o, n, hget, h2, h3, h4⟩, by simp [hul, hl], fun j k v e => ?_⟩ ⟨zl.symm, fun j k v e => ?_⟩ (by rw [zl, hl]; exact hz) fun h' tk hd' hk => ?_
  · obtain ⟨q, e1, e2, rfl⟩ := zg j k v e
    obtain ⟨b, e3, e4, _⟩ := hus j q k e1 e2
    refine ⟨by simp [e3], .inl ?_⟩
    show s.heap.IsTuple ((ps[j]?).getD 0) _
    rw [e3]
    exact e4
  · obtain ⟨q, e1, e2, rfl⟩ := zg j k v e
    obtain ⟨b, _, _, e5⟩ := hus j q k e1 e2
    exact ⟨q.1, e1, e5⟩
  · have hm : (s.heap.objs.size == sysModules) = false := beq_eq_false_iff_ne.mpr (Nat.ne_of_gt I.big)
    have hlen : (mergeK [] kvs).length ≤ sizeLine := by
      refine Nat.le_trans (length_mergeK kvs []) ?_
      rw [List.length_nil, Nat.zero_add, rel.length, hl]
      exact hz
    have kp : ∀ b o, s.heap.get? b = some o → h'.get? b = some o := fun b o e => hk b o (by simp) e
    exact ⟨.ref s.heap.objs.size, _, I.laid (t' := tk) (o := .dK (mergeK [] kvs)) kp (Nat.le_refl _) ⟨hlen, hm, _, KV.merge rel .nil, hd'⟩, rfl, q _ (I.hok.fresh (Nat.le_refl _))⟩
/-! ### d == {} -/
theorem op_deq0 {ng : Bool} (hu : X.A.units < cLine) : OpR X (compareOp (if ng then .NotEq else .Eq)) (fun x y H Q => ∃ a b ks, x = .ref a ∧ y = .ref b ∧ Rd H a (.dK ks) ∧ H b = some (.dK []) ∧ Q (.bl (if ng then !ks.isEmpty else ks.isEmpty)) H) := by
  intro pins s σ H x y v u Q I rx ry h
  obtain ⟨a, b, ks, rfl, rfl, ea, eb, q⟩ := h
  obtain rfl : v = Value.ref a := rx
  obtain rfl : u = Value.ref b := ry
  obtain ⟨_, ya, va, ra, da⟩ := dk_rd I.hok ea
  obtain ⟨_, yb, vb, rb, db⟩ := dk_rd I.hok (.inl eb)
  cases rb
  have em : ∀ r : Bool, (va.length = ([] : List (Key × Value)).length → r = true) → (va.length == ([] : List (Key × Value)).length && r) = ks.isEmpty := fun r hr => by
    have e1 : ks.length = va.length := ra.length
    cases ks with
    | nil => cases va with
      | nil => rw [hr rfl]; rfl
      | cons _ _ => simp at e1
    | cons _ _ => cases va with
      | nil => simp at e1
      | cons _ _ => rfl
  have hits : va.length = ([] : List (Key × Value)).length → PySem.W.KeqHits X.A.in1 s ([] : List (Key × Value)) va true := fun h => by
    cases va with
    | nil => exact .nil
    | cons _ _ => simp at h
  cases ng with
  | false => exact PySem.W.keq_eq (knd := mixKind X.prog X.w) (r := true) ya yb da db hu hits (by rw [em true fun _ => rfl]; exact ⟨.bl _, H, I, rfl, q⟩)
  | true => exact PySem.W.keq_ne (knd := mixKind X.prog X.w) (r := true) ya yb da db hu hits (by rw [em true fun _ => rfl]; exact ⟨.bl _, H, I, rfl, q⟩)
end
/-! ### sorted -/
mutual
theorem lt_py : ∀ (x y : D) (n m : Nat), D.plain x n = true → D.plain y m = true → D.alike x y = true → PySem.W.alike (toPy x) (toPy y) = true ∧ PySem.W.dataLt (toPy x) (toPy y) = D.lt x y
  | .int i, y, n, m, h1, h2, h => by
    cases y with
    | int j => exact ⟨rfl, PySem.W.dataLt_int _ _⟩
    | _ => cases h
  | .bl b, y, n, m, h1, h2, h => by
    cases y with
    | bl c => exact ⟨rfl, by rw [show toPy (.bl b) = .bool b from rfl, show toPy (.bl c) = .bool c from rfl, PySem.W.dataLt_bool]; cases b <;> cases c <;> decide⟩
    | _ => cases h
  | .str s, y, n, m, h1, h2, h => by
    cases y with
    | str t => exact ⟨rfl, by rw [show toPy (.str s) = .str (S' s) from rfl, show toPy (.str t) = .str (S' t) from rfl, PySem.W.dataLt_str, S'_list, S'_list, ← ltCs_iff]; rfl⟩
    | _ => cases h
  | .tup xs, y, n, m, h1, h2, h => by
    cases y with
    | tup ys =>
      cases n with
      | zero => cases h1
      | succ n => cases m with
        | zero => cases h2
        | succ m =>
          obtain ⟨a1, a2⟩ := lts_py xs ys n m h1 h2 h
          exact ⟨a1, by rw [show toPy (.tup xs) = .tuple (toPys xs) from rfl, show toPy (.tup ys) = .tuple (toPys ys) from rfl, PySem.W.dataLt_tuple, a2]; rfl⟩
    | _ => cases h
  | .lst xs, y, n, m, h1, h2, h => by
    cases y with
    | lst ys =>
      cases n with
      | zero => cases h1
      | succ n => cases m with
        | zero => cases h2
        | succ m =>
          obtain ⟨a1, a2⟩ := lts_py xs ys n m h1 h2 h
          exact ⟨a1, by rw [show toPy (.lst xs) = .list (toPys xs) from rfl, show toPy (.lst ys) = .list (toPys ys) from rfl, PySem.W.dataLt_list, a2]; rfl⟩
    | _ => cases h
  | .non, y, n, m, h1, h2, h => by cases y <;> cases h
  | .dct _, y, n, m, h1, h2, h => by cases h1
  | .ins _ _, y, n, m, h1, h2, h => by cases h1
  | .cls _, y, n, m, h1, h2, h => by cases h1
  | .ro _, y, n, m, h1, h2, h => by cases h1
  | .ptp _, y, n, m, h1, h2, h => by cases h1
theorem lts_py : ∀ (xs ys : List D) (n m : Nat), D.plains xs n = true → D.plains ys m = true → D.alikes xs ys = true → PySem.W.alikeAll (toPys xs) (toPys ys) = true ∧ PyProof.Rows.lexLt PyProof.Rows.itemOrd (PySem.W.keyToksAll (toPys xs)) (PySem.W.keyToksAll (toPys ys)) = D.lts xs ys
  | [], [], n, m, h1, h2, h => ⟨rfl, by rfl⟩
  | [], _ :: _, n, m, h1, h2, h => ⟨rfl, by rfl⟩
  | x :: xs, [], n, m, h1, h2, h => ⟨rfl, by rfl⟩
  | x :: xs, y :: ys, n, m, h1, h2, h => by
    have g1 := Bool.and_eq_true_iff.mp h1
    have g2 := Bool.and_eq_true_iff.mp h2
    have g3 := Bool.and_eq_true_iff.mp h
    obtain ⟨a1, a2⟩ := lt_py x y n m g1.1 g2.1 g3.1
    obtain ⟨b1, b2⟩ := lts_py xs ys n m g1.2 g2.2 g3.2
    refine ⟨by show (PySem.W.alike (toPy x) (toPy y) && PySem.W.alikeAll (toPys xs) (toPys ys)) = true; rw [a1, b1]; rfl, ?_⟩
    show PyProof.Rows.lexLt PyProof.Rows.itemOrd (PySem.W.keyToksAll (toPy x :: toPys xs)) (PySem.W.keyToksAll (toPy y :: toPys ys)) = _
    rw [PySem.W.dataLt_cons a1, eqv_py x y n m g1.1 g2.1, b2, a2]
    rfl
end
/-- what sortOk says -/
theorem sortOk_py {xs : List D} (h : sortOk xs = true) : PySem.W.AllAlike (xs.map toPy) ∧ PySem.W.Sortable (xs.map toPy) ∧ xs.length ≤ sizeLine ∧ (∀ x ∈ xs, x.plain 30 = true) ∧ xs.mergeSort (PySem.W.dataLe false toPy) = sortD xs := by
  unfold sortOk at h
  simp only [Bool.and_eq_true] at h
  obtain ⟨⟨⟨h1, h2⟩, h3⟩, h4⟩ := h
  have pl : ∀ x ∈ xs, x.plain 30 = true := fun x hx => List.all_eq_true.mp h2 x hx
  have al : ∀ x ∈ xs, ∀ y ∈ xs, D.alike x y = true := fun x hx y hy => List.all_eq_true.mp (List.all_eq_true.mp h1 x hx) y hy
  refine ⟨fun d hd e he => ?_, ?_, Nat.le_trans (of_decide_eq_true h4) (by decide), pl, ?_⟩
  · obtain ⟨x, hx, rfl⟩ := List.mem_map.mp hd
    obtain ⟨y, hy, rfl⟩ := List.mem_map.mp he
    exact (lt_py x y 30 30 (pl x hx) (pl y hy) (al x hx y hy)).1
  · rcases Bool.or_eq_true_iff.mp h3 with h | h
    · refine .inr fun d hd => ?_
      obtain ⟨x, hx, rfl⟩ := List.mem_map.mp hd
      have h5 := List.all_eq_true.mp h x hx
      have h6 := al x hx x hx
      cases x <;> first | (cases h5; done) | (cases h6; done) | exact ⟨(fun z => by cases z), (fun xs z => by cases z)⟩
    · refine .inl fun d hd => ?_
      obtain ⟨x, hx, rfl⟩ := List.mem_map.mp hd
      have h5 := List.all_eq_true.mp h x hx
      match x, h5 with
      | .tup (y :: ys), _ => exact ⟨toPy y, toPys ys, rfl⟩
  · unfold sortD
    refine PySem.W.sort_congr fun a ha b hb => ?_
    rw [PySem.W.dataLe_eq]
    show (!PySem.W.dataLt (toPy b) (toPy a)) = _
    rw [(lt_py b a 30 30 (pl b hb) (pl a ha) (al b hb a ha)).2]
theorem each_get {α β : Type} {R : α → β → Prop} : ∀ {as : List α} {bs : List β}, as.length = bs.length → (∀ (j : Nat) (a : α) (b : β), as[j]? = some a → bs[j]? = some b → R a b) → PySem.W.EachIs R as bs
  | [], [], _, _ => .nil
  | [], _ :: _, h, _ => by simp at h
  | _ :: _, [], h, _ => by simp at h
  | a :: as, b :: bs, h, q => .cons (q 0 a b rfl rfl) (each_get (by simpa using h) fun j c d h1 h2 => q (j + 1) c d (by simpa using h1) (by simpa using h2))
theorem each_at {α β : Type} {R : α → β → Prop} {as : List α} {bs : List β} (h : PySem.W.EachIs R as bs) : ∀ {j : Nat} {a : α} {b : β}, as[j]? = some a → bs[j]? = some b → R a b := by
  induction h with
  | nil => intro j a b e; simp at e
  | cons h _ ih =>
    intro j a b e1 e2
    cases j with
    | zero => simp at e1 e2; subst e1; subst e2; exact h
    | succ j => exact ih (j := j) (by simpa using e1) (by simpa using e2)
theorem each_reps {K : Fg} {G : Hp} : ∀ {us : List Value} {xs : List D}, PySem.W.EachIs (fun v d => ∃ x, RelV x v ∧ Rep K G d x) us xs → ∃ vs, Vals vs us ∧ Reps K G xs vs
  | _, _, .nil => ⟨[], .nil, .nil⟩
  | _, _, .cons ⟨x, h1, h2⟩ t => by
    obtain ⟨vs, h3, h4⟩ := each_reps t
    exact ⟨x :: vs, .cons h1 h3, .cons h2 h4⟩
theorem reps_each {K : Fg} {G : Hp} : ∀ {us : List Value} {vs : List V} {xs : List D}, Vals vs us → Reps K G xs vs → PySem.W.EachIs (fun v d => ∃ x, RelV x v ∧ Rep K G d x) us xs
  | _, _, _, .nil, .nil => .nil
  | _, _, _, .cons h t, .cons r q => .cons ⟨_, h, r⟩ (reps_each t q)
theorem depth_py {K : Fg} {G : Hp} {x : D} {v : V} (r : Rep K G x v) (h : x.plain 30 = true) : (toPy x).depth ≤ 61 := (shape_py x v 30 r h).2
/-- tracked, one after another, on one heap -/
theorem takeA {X : Cx} {pins : List (Addr × Obj)} {σ : L2.St} {H0 : Hp} {s : Shared} {h' : Heap} {tk : Nat} (I0 : Inv X pins σ H0 s) : ∀ (L : List (Addr × HO)) (G1 H1 : Hp), Inv X pins σ H1 { s with heap := h', toks := tk } → (L.map (·.1)).Nodup →
    (∀ p ∈ L, s.heap.objs.size ≤ p.1 ∧ H1 p.1 = none ∧ (∀ H2, ObjOk X.prog X.w H2 h' p.1 p.2) ∧ Nt p.2) → ∃ G2 H2, Inv X pins σ H2 { s with heap := h', toks := tk } ∧ Al G1 H1 G2 H2 ∧ (∀ p ∈ L, G2 p.1 = some p.2) ∧ ∀ b, (∀ p ∈ L, p.1 ≠ b) → H2 b = H1 b
  | [], G1, H1, I1, _, _ => ⟨G1, H1, I1, .refl, (fun _ h => by simp at h), fun _ _ => rfl⟩
  | p :: L, G1, H1, I1, nd, h => by
    obtain ⟨h1, h2, h3, h4⟩ := h p List.mem_cons_self
    have I2 : Inv X pins σ (upd H1 p.1 p.2) { s with heap := h', toks := tk } := I1.take (h' := h') (t' := tk) (fun b ob _ e => e) (I0.fpOk h1 h2) (h3 _)
    rw [List.map_cons, List.nodup_cons] at nd
    have ne : ∀ q ∈ L, q.1 ≠ p.1 := fun q hq e => nd.1 (e ▸ List.mem_map_of_mem hq)
    obtain ⟨G2, H2, I3, al, got, off⟩ := takeA I0 L (upd G1 p.1 p.2) (upd H1 p.1 p.2) I2 nd.2 fun q hq => by
      obtain ⟨c1, c2, c3⟩ := h q (List.mem_cons_of_mem _ hq)
      exact ⟨c1, by rw [upd_ne (ne q hq)]; exact c2, c3⟩
    refine ⟨G2, H2, I3, (Al.one h2 h4).trans al, fun q hq => ?_, fun b hb => by rw [off b fun q hq => hb q (List.mem_cons_of_mem _ hq), upd_ne (Ne.symm (hb p List.mem_cons_self))]⟩
    rcases List.mem_cons.mp hq with rfl | hq
    · have key : ∀ (L : List (Addr × HO)) (G H G2 H2 : Hp), Al G H G2 H2 → ∀ b o, G b = some o → H b = some o → G2 b = some o := by
        intro _ G H G2 H2 al b o g1 g2
        induction al with
        | refl => exact g1
        | @new G3 H3 q u a hq nt ih => rw [upd_ne (ne_of_none (a.extH _ _ g2) hq)]; exact ih
      exact key [] _ _ _ _ al _ _ upd_same upd_same
    · exact got q hq
/-- sorted(l), l a list of data -/
theorem cr_srtL {cl : Cl} {X : Cx} (hu : X.A.units + 64 < cLine) : CallR X (.builtin "sorted") (fun us H Q => ∃ (G : Hp) (xs : List D) (x : V), us = [x] ∧ Ext G H ∧ Rd' (kx cl X) G H (.lst xs) x ∧ sortOk xs = true ∧ Gives (kx cl X) G H (.lst (sortD xs)) Q) := by
  intro pins s σ H us vs Q I r h
  obtain ⟨G, xs, x, rfl, ex, rd, hs, g⟩ := h
  obtain ⟨a, ws, rfl, ha, hr⟩ := rd.lst ex
  obtain rfl := Vals.ref1 r
  obtain ⟨o1, o2, o3, o4, o5⟩ := sortOk_py hs
  obtain ⟨its, rv, pl, hz⟩ := I.list (.of ha)
  have e1 := reps_each rv hr
  have er : PySem.W.EachIs (fun v b => ∃ as, Reads s.heap v (toPy b) as) its xs := (PySem.W.each_mem e1).mono fun v d ⟨⟨u, h1, h2⟩, hm⟩ => Dp.reads I (toPy d) u v ((h2.mono ex).dp (o4 d hm)) h1
  have dp : ∀ d ∈ xs, (toPy d).depth ≤ 61 := fun d hd => by
    obtain ⟨j, hj⟩ := List.mem_iff_getElem?.mp hd
    obtain ⟨u, _, h2⟩ := hr.get hj
    exact depth_py h2 (o4 d hd)
  refine PySem.W.sorted_data (R := fun v d => ∃ x, RelV x v ∧ Rep (kx cl X) G d x) pl.isList e1 er o1 o2 o3 (fun d hd => ?_) fun out hl hout => ?_
  · have := dp d hd; omega
  rw [o5] at hout
  obtain ⟨ys, hv, hp⟩ := each_reps hout
  obtain ⟨ep, he'⟩ := PyProof.Rows.sortedAll_at s.heap its out.toArray
  have hlen : ys.length ≤ sizeLine := by rw [hv.length, hl]; exact o3
  exact ⟨.ref _, upd H (s.heap.objs.size + 1) (.lst ys), I.laid (t' := s.toks) (fun _ _ => PyProof.Rows.sortedAll_old) (Nat.le_succ _) ⟨hlen, out, ep, hv, he'⟩, rfl, g.newL ex hp (I.hok.fresh (Nat.le_succ _))⟩
/-- a key, read -/
theorem key_reads {h : Heap} {k : Ky} {v : Value} (hv : RelV (kV (kyOf k)) v) : Reads h v (toPy (kyD k)) [] := by
  cases k with
  | i n => obtain ⟨t, rfl⟩ := hv; exact .int n t
  | s x => obtain ⟨t, rfl⟩ := hv; exact .str _ t
theorem rep_key {K : Fg} {G : Hp} {k : Ky} (ok : okK k) : Rep K G (kyD k) (kV (kyOf k)) := by
  cases k with
  | i n => exact .int n
  | s x => exact .str x ok
theorem RepKs.keyAt {K : Fg} {G : Hp} : ∀ {xs : List (Ky × D)} {ks : List (Key × V)} {j : Nat} {p : Ky × D}, RepKs K G xs ks → xs[j]? = some p → ∃ q, ks[j]? = some q ∧ q.1 = kyOf p.1 ∧ okK p.1 ∧ Rep K G p.2 q.2
  | _, _, _, _, .nil, e => by simp at e
  | _, _, 0, _, .cons o h _, e => by simp at e; subst e; exact ⟨_, rfl, rfl, o, h⟩
  | _, _, j + 1, p, .cons _ _ t, e => by simpa using RepKs.keyAt (j := j) t (by simpa using e)
theorem RepKs.len {K : Fg} {G : Hp} : ∀ {xs : List (Ky × D)} {ks : List (Key × V)}, RepKs K G xs ks → xs.length = ks.length
  | _, _, .nil => rfl
  | _, _, .cons _ _ t => by simp [RepKs.len t]
theorem kv_at {ks : List (Key × V)} {vs : List (Key × Value)} (h : KV ks vs) : ∀ {j : Nat} {q : Key × V}, ks[j]? = some q → ∃ p, vs[j]? = some p ∧ q.1 = p.1 ∧ RelV q.2 p.2 := by
  induction h with
  | nil => intro j q e; simp at e
  | cons h t ih =>
    intro j q e
    cases j with
    | zero => simp at e; subst e; exact ⟨_, rfl, h⟩
    | succ j => simpa using ih (j := j) (by simpa using e)
/-- a new list at l is sorted: its items are flat, or tuples of such -/
theorem sort_new {cl : Cl} {X : Cx} {pins : List (Addr × Obj)} {σ : L2.St} {G H : Hp} {s : Shared} {h' : Heap} {tk : Nat} {l : Addr} {vs : List Value} {xs : List D} {L : List (Addr × HO)} {Q : VK} (hu : X.A.units + 64 < cLine) (I : Inv X pins σ H s) (ex : Ext G H)
    (hk : ∀ b o, s.heap.get? b = some o → h'.get? b = some o) (hl : s.heap.objs.size ≤ l) (hob : h'.get? l = some (PyProof.Rows.seqObj "list" vs.toArray 0)) (hs : sortOk xs = true) (hd : ∀ d ∈ xs, (toPy d).depth ≤ 61)
    (er : PySem.W.EachIs (fun v b => Reads h' v (toPy b) []) vs xs) (nd : (L.map (·.1)).Nodup) (hL : ∀ p ∈ L, s.heap.objs.size ≤ p.1 ∧ p.1 ≠ l ∧ (∀ (h2 : Heap) (H2 : Hp), (∀ o, h'.get? p.1 = some o → h2.get? p.1 = some o) → ObjOk X.prog X.w H2 h2 p.1 p.2) ∧ Nt p.2)
    (hlt : ∀ p ∈ L, p.1 < h'.objs.size) (eR : ∀ G2, Ext G G2 → (∀ p ∈ L, G2 p.1 = some p.2) → PySem.W.EachIs (fun v d => ∃ x, RelV x v ∧ Rep (kx cl X) G2 d x) vs xs) (g : Gives (kx cl X) G H (.lst (sortD xs)) Q) :
    wpAny (model X.prog X.w) X.A.in1 (call (.builtin "list.sort") [.ref l]) (fun _ s' => EP X pins σ Q (.ref l) s') X.xe { s with heap := h', toks := tk } := by
  obtain ⟨o1, o2, o3, o4, o5⟩ := sortOk_py hs
  refine PySem.W.list_sort_data (s := { s with heap := h', toks := tk }) (R := fun v d => ∀ G2, Ext G G2 → (∀ p ∈ L, G2 p.1 = some p.2) → ∃ x, RelV x v ∧ Rep (kx cl X) G2 d x) hob ?_ (er.mono fun v b r => ⟨[], r, by simp⟩) o1 o2 o3 (fun d hm => ?_) fun out hlo hout => ?_
  · have len : vs.length = xs.length := er.length
    refine each_get len fun j v d h1 h2 G2 e1 e2 => ?_
    exact each_at (eR G2 e1 e2) h1 h2
  · have := hd d hm
    show X.A.units + 1 + 1 + _ < _
    omega
  · rw [o5] at hout
    have old : ∀ b o, b ≠ l → h'.get? b = some o → (PyProof.Rows.sortedHeap h' l vs out.toArray).get? b = some o := fun b o hb e => by rw [PyProof.Rows.sortedHeap_old hb (Heap.lt_size e)]; exact e
    have ho : ∀ b o, s.heap.get? b = some o → (PyProof.Rows.sortedHeap h' l vs out.toArray).get? b = some o := fun b o e => old b o (Nat.ne_of_lt (Nat.lt_of_lt_of_le (Heap.lt_size e) hl)) (hk b o e)
    have I1 : Inv X pins σ H { s with heap := PyProof.Rows.sortedHeap h' l vs out.toArray, toks := tk } := I.kept ho
    obtain ⟨G2, H2, I2, al, got, off⟩ := takeA (h' := PyProof.Rows.sortedHeap h' l vs out.toArray) (tk := tk) I L G H I1 nd fun p hp => by
      obtain ⟨c1, c2, c3, c4⟩ := hL p hp
      exact ⟨c1, I.hok.fresh c1, fun H2 => c3 _ H2 fun o e => old _ o c2 e, c4⟩
    obtain ⟨x1, x2, x3⟩ := al.ext ex
    obtain ⟨ys, hv, hp⟩ := each_reps (hout.mono fun v d q => q G2 x2 got)
    obtain ⟨ep, he'⟩ := PyProof.Rows.sortedHeap_at (vs := vs) (out := out.toArray) hob
    have fl : H2 l = none := by rw [off l fun p hp => (hL p hp).2.1]; exact I.hok.fresh hl
    have hlen : ys.length ≤ sizeLine := by rw [hv.length, hlo]; exact o3
    have I3 : Inv X pins σ (upd H2 l (.lst ys)) { s with heap := PyProof.Rows.sortedHeap h' l vs out.toArray, toks := tk } := I2.take (h' := PyProof.Rows.sortedHeap h' l vs out.toArray) (t' := tk) (fun b ob _ e => e) (I.fpOk hl fl) ⟨hlen, out, ep, hv, he'⟩
    refine ⟨.ref l, _, I3, rfl, ?_⟩
    exact g _ _ _ (al.trans (Al.one fl)) (.lst upd_same (hp.mono (Ext.upd (by
      cases q : G2 l with
      | none => rfl
      | some o => rw [x1 _ _ q] at fl; cases fl))))
/-- sorted(d), d a dict -/
theorem cr_srtK {cl : Cl} {X : Cx} (hc : X.calm = true) (hu : X.A.units + 64 < cLine) : CallR X (.builtin "sorted") (fun us H Q => ∃ (G : Hp) (xs : List (Ky × D)) (a : Addr) (ks : List (Key × V)), us = [.ref a] ∧ Ext G H ∧ Rd H a (.dK ks) ∧ RepKs (kx cl X) G xs ks ∧ sortOk (xs.map fun p => kyD p.1) = true ∧
    Gives (kx cl X) G H (.lst (sortD (xs.map fun p => kyD p.1))) Q) := by
  intro pins s σ H us ws Q I r h
  obtain ⟨G, xs, a, ks, rfl, ex, rd, hr, hs, g⟩ := h
  obtain rfl := Vals.ref1 r
  obtain ⟨z, lo, vs, rel, dd⟩ := dk_rd I.hok rd
  obtain ⟨ep, hat⟩ := dd.dictAt
  have l1 : ks.length = vs.length := rel.length
  have l2 := hr.len
  refine Calls.call_function_entry PyProof.Rows.kind_sorted PyProof.Rows.plain_sorted PyProof.Rows.entry_sorted (PyProof.Rows.args_sorted1 _) ?_
  unfold Builtin.«sorted»
  refine wpAny_bind (m := checkCount "sorted" 1 1 _) (wpAny_pure ?_)
  refine wpAny_bind (PySem.W.kdu_collect (A := X.A.in1) (PySem.W.kdl_dict (knd := mixKind X.prog X.w) (kvs := vs) (ep := ep) lo) (I.ok.hd hc) hat (by omega) fun h' tk acc hk hacc => ?_)
  have keyAt : ∀ (j : Nat) (v : Value) (p : Ky × D), acc.toList[j]? = some v → xs[j]? = some p → RelV (kV (kyOf p.1)) v ∧ okK p.1 := fun j v p e1 e2 => by
    obtain ⟨k, x, f1, f2⟩ := hacc.2 j v (by rw [← Array.getElem?_toList]; exact e1)
    obtain ⟨q, f3, f4, f5, _⟩ := hr.keyAt e2
    obtain ⟨q', f6, f7, _⟩ := kv_at rel f3
    rw [f1] at f6; cases f6
    refine ⟨?_, f5⟩
    rw [← f4, f7]
    exact relV_key f2
  have len : acc.toList.length = xs.length := by rw [Array.length_toList, hacc.1, l2, l1]
  have len' : acc.toList.length = (xs.map fun p => kyD p.1).length := by rw [List.length_map, len]
  refine wpAny_bind (wpAny_newList ?_ (by rw [len, l2]; exact z))
  have hob : (h'.push (PyProof.Rows.seqObj "list" acc.toList.toArray 0)).get? h'.objs.size = some (PyProof.Rows.seqObj "list" acc.toList.toArray 0) := Heap.get?_push_size _ rfl
  have I1 : Inv X pins σ H { s with heap := h', toks := tk } := I.kept hk
  have key := sort_new (cl := cl) (Q := Q) (h' := h'.push (PyProof.Rows.seqObj "list" acc.toList.toArray 0)) (tk := tk) (l := h'.objs.size) (vs := acc.toList) (L := []) hu I1 ex (fun b o e => Heap.get?_push_of_some _ e) (Nat.le_refl _) hob hs
    (fun d hd => by
      obtain ⟨p, _, rfl⟩ := List.mem_map.mp hd
      cases p.1 <;> exact Nat.zero_le _)
    (each_get len' fun j v d e1 e2 => by
      rw [List.getElem?_map] at e2
      cases e3 : xs[j]? with
      | none => rw [e3] at e2; cases e2
      | some p => rw [e3] at e2; cases e2; exact key_reads (keyAt j v p e1 e3).1)
    List.nodup_nil (fun _ h => by simp at h) (fun _ h => by simp at h)
    (fun G2 _ _ => each_get len' fun j v d e1 e2 => by
      rw [List.getElem?_map] at e2
      cases e3 : xs[j]? with
      | none => rw [e3] at e2; cases e2
      | some p => rw [e3] at e2; cases e2; exact ⟨_, (keyAt j v p e1 e3).1, rep_key (keyAt j v p e1 e3).2⟩) g
  refine wpAny_bind (wpAny_holding (wpAny_mono key (fun _ s' x => ?_) fun _ _ e => e))
  exact wpAny_pure ⟨_, rfl, x⟩
/-! ### sorted(d.items()) -/
theorem mt_itemsK {X : Cx} : MtR X "dict.items" (fun x xs H Q => ∃ (a : Addr) (ks : List (Key × V)), x = .ref a ∧ xs = [] ∧ H a = some (.dK ks) ∧ ∀ p, H p = none → Q (.ref p) (upd H p (L2.DX.itemsO p a))) := by
  intro pins s σ H x xs v us Q I rx rxs h
  obtain ⟨a, ks, rfl, rfl, ha, q⟩ := h
  cases rx
  cases rxs
  obtain ⟨z, hd, xs', rel, o, es, ep, ho, hx, hdat, _⟩ := dk_rd I.hok (.inl ha)
  refine DT.callItems (es := es) (ep := ep) hd ⟨o, ho, hx, hdat⟩ ?_
  have at_ := Heap.get?_push_size s.heap (o := { cls := .type "dict_items", data := .fields #[.ref a] }) rfl
  exact ⟨.ref s.heap.objs.size, _, I.laid (t' := s.toks) (o := L2.DX.itemsO s.heap.objs.size a) (fun b u e => Heap.get?_push_of_some _ e) (Nat.le_refl _) (L2.DX.itemsO_ok at_), rfl, q _ (I.hok.fresh (Nat.le_refl _))⟩
/-- a flat value, read -/
theorem flat_reads {K : Fg} {G : Hp} {h : Heap} {d : D} {x : V} {v : Value} (r : Rep K G d x) (hf : d.flat = true) (hv : RelV x v) : Reads h v (toPy d) [] := by
  cases r with
  | non => cases hv; exact .none
  | bl b => cases hv; exact .bool b
  | int i => obtain ⟨t, rfl⟩ := hv; exact .int i t
  | str s _ => obtain ⟨t, rfl⟩ := hv; exact .str _ t
  | _ => cases hf
theorem pairs_at {P : Program} {w : World} {es : List DictEntry} {vs : List (Key × Value)} (h : Pairs (mixKind P w) es vs) : ∀ {j : Nat} {q : Key × Value} {e : DictEntry}, vs[j]? = some q → es[j]? = some e → keyIs q.1 e.key = true ∧ e.val = q.2 := by
  induction h with
  | nil => intro j q e h; simp at h
  | cons h1 h2 _ ih =>
    intro j q e e1 e2
    cases j with
    | zero => simp at e1 e2; subst e1; subst e2; exact ⟨h1, h2⟩
    | succ j => exact ih (j := j) (by simpa using e1) (by simpa using e2)
theorem cr_srtI {cl : Cl} {X : Cx} (hc : X.calm = true) (hu : X.A.units + 64 < cLine) : CallR X (.builtin "sorted") (fun us H Q => ∃ (G : Hp) (xs : List (Ky × D)) (p a : Addr) (ks : List (Key × V)), us = [.ref p] ∧ Ext G H ∧ H p = some (L2.DX.itemsO p a) ∧ Rd H a (.dK ks) ∧ RepKs (kx cl X) G xs ks ∧ sortOk (xs.map pairD) = true ∧
    (∀ q ∈ xs, q.2.flat = true) ∧ Gives (kx cl X) G H (.lst (sortD (xs.map pairD))) Q) := by
  intro pins s σ H us ws Q I r h
  obtain ⟨G, xs, p, a, ks, rfl, ex, hp, rd, hr, hs, hf, g⟩ := h
  obtain rfl := Vals.ref1 r
  have view : s.heap.IsItemsView p a := (show ObjOk X.prog X.w H s.heap p (L2.DX.itemsO p a) from I.hok p _ hp).1
  obtain ⟨z, lo, vs, rel, o, es, ep, ho, hx, hdat, _, hprs, _⟩ := dk_rd I.hok rd
  have l1 : ks.length = vs.length := rel.length
  have l2 := hr.len
  have l3 : es.size = vs.length := by rw [← hprs.length, Array.length_toList]
  refine DT.sortedI (es := es) (ep := ep) (I.ok.hd hc) view ⟨o, ho, hx, hdat⟩ (by omega) fun h' tk as hk hlt hl made => ?_
  have nd : as.Nodup := List.Pairwise.imp (fun h => Nat.ne_of_lt h) made.rise
  -- the pairs
  have pr : ∀ (j : Nat) (b : Addr) (q : Ky × D), as[j]? = some b → xs[j]? = some q → ∃ (kv vv : Value) (x : V), h'.get? b = some { cls := .type "tuple", data := .seq #[kv, vv] } ∧ RelV (kV (kyOf q.1)) kv ∧ RelV x vv ∧ okK q.1 ∧ Rep (kx cl X) G q.2 x := by
    intro j b q e1 e2
    obtain ⟨en, he, hg⟩ := made.pairs j b e1
    obtain ⟨q', f3, f4, f5, f6⟩ := hr.keyAt e2
    obtain ⟨q2, f7, f8, f9⟩ := kv_at rel f3
    obtain ⟨g1, g2⟩ := pairs_at hprs f7 (by rw [Array.getElem?_toList]; exact he)
    refine ⟨en.key, en.val, q'.2, hg, ?_, by rw [g2]; exact f9, f5, f6⟩
    rw [← f4, f8]
    exact relV_key g1
  have la : as.length = xs.length := by omega
  obtain ⟨us, hul, hus⟩ := list_choose (as.zip xs) (fun j (e : Addr × (Ky × D)) (x : V) => ∃ (kv vv : Value), h'.get? e.1 = some { cls := .type "tuple", data := .seq #[kv, vv] } ∧ RelV (kV (kyOf e.2.1)) kv ∧ RelV x vv ∧ okK e.2.1 ∧ Rep (kx cl X) G e.2.2 x) fun j e he => by
    rw [List.getElem?_zip_eq_some] at he
    obtain ⟨kv, vv, x, q1, q2, q3, q4, q5⟩ := pr j e.1 e.2 he.1 he.2
    exact ⟨x, kv, vv, q1, q2, q3, q4, q5⟩
  have zl : (as.zip xs).length = xs.length := by simp [la]
  -- what is laid
  let L : List (Addr × HO) := ((as.zip xs).zip us).map fun e => (e.1.1, HO.tup [kV (kyOf e.1.2.1), e.2])
  have Lm : L.map (·.1) = as := by
    show (((as.zip xs).zip us).map _).map _ = as
    rw [List.map_map]
    have e1 : ((fun x : Addr × HO => x.1) ∘ fun e : (Addr × (Ky × D)) × V => (e.1.1, HO.tup [kV (kyOf e.1.2.1), e.2])) = (fun y : Addr × (Ky × D) => y.1) ∘ Prod.fst := rfl
    rw [e1, ← List.map_map, List.map_fst_zip (by rw [hul]; exact Nat.le_refl _), show (fun y : Addr × (Ky × D) => y.1) = Prod.fst from rfl, List.map_fst_zip (by omega)]
  have Lat : ∀ (j : Nat) (b : Addr) (q : Ky × D), as[j]? = some b → xs[j]? = some q → ∃ (kv vv : Value) (x : V), h'.get? b = some { cls := .type "tuple", data := .seq #[kv, vv] } ∧ RelV (kV (kyOf q.1)) kv ∧ RelV x vv ∧ okK q.1 ∧ Rep (kx cl X) G q.2 x ∧ (b, HO.tup [kV (kyOf q.1), x]) ∈ L := by
    intro j b q e1 e2
    have ez : (as.zip xs)[j]? = some (b, q) := by rw [List.getElem?_zip_eq_some]; exact ⟨e1, e2⟩
    have : j < us.length := by rw [hul]; exact (List.getElem?_eq_some_iff.mp ez).1
    obtain ⟨x, hx'⟩ : ∃ x, us[j]? = some x := ⟨us[j], List.getElem?_eq_getElem this⟩
    obtain ⟨kv, vv, q1, q2, q3, q4, q5⟩ := hus j _ _ ez hx'
    refine ⟨kv, vv, x, q1, q2, q3, q4, q5, List.mem_map.mpr ⟨((b, q), x), List.mem_of_getElem? (i := j) ?_, rfl⟩⟩
    rw [List.getElem?_zip_eq_some]; exact ⟨ez, hx'⟩
  have Lin : ∀ e ∈ L, ∃ (j : Nat) (q : Ky × D) (kv vv : Value) (x : V), as[j]? = some e.1 ∧ h'.get? e.1 = some { cls := .type "tuple", data := .seq #[kv, vv] } ∧ RelV (kV (kyOf q.1)) kv ∧ RelV x vv ∧ e.2 = .tup [kV (kyOf q.1), x] := by
    intro e he
    obtain ⟨t, ht, rfl⟩ := List.mem_map.mp he
    obtain ⟨j, hj⟩ := List.mem_iff_getElem?.mp ht
    rw [List.getElem?_zip_eq_some] at hj
    obtain ⟨kv, vv, q1, q2, q3, q4, q5⟩ := hus j _ _ hj.1 hj.2
    have hj1 := hj.1
    rw [List.getElem?_zip_eq_some] at hj1
    exact ⟨j, t.1.2, kv, vv, t.2, hj1.1, q1, q2, q3, rfl⟩
  have hob : (h'.push { cls := .type "list", data := .seq (as.map Value.ref).toArray }).get? h'.objs.size = some (PyProof.Rows.seqObj "list" (as.map Value.ref).toArray 0) := Heap.get?_push_size _ rfl
  have len : (as.map Value.ref).length = (xs.map pairD).length := by simp [la]
  have ref_at : ∀ (j : Nat) (v : Value), (as.map Value.ref)[j]? = some v → ∃ b, as[j]? = some b ∧ v = .ref b := fun j v e => by
    rw [List.getElem?_map] at e
    cases e3 : as[j]? with
    | none => rw [e3] at e; cases e
    | some b => rw [e3] at e; cases e; exact ⟨b, rfl, rfl⟩
  have pair_at : ∀ (j : Nat) (d : D), (xs.map pairD)[j]? = some d → ∃ q, xs[j]? = some q ∧ d = pairD q := fun j d e => by
    rw [List.getElem?_map] at e
    cases e3 : xs[j]? with
    | none => rw [e3] at e; cases e
    | some b => rw [e3] at e; cases e; exact ⟨b, rfl, rfl⟩
  refine sort_new (cl := cl) (Q := Q) (L := L) hu I ex (fun b o e => Heap.get?_push_of_some _ (hk b o e)) (Nat.le_of_lt hlt) hob hs ?_ ?_ (by rw [Lm]; exact nd) ?_ ?_ ?_ g
  · intro d hd
    obtain ⟨q, hq, rfl⟩ := List.mem_map.mp hd
    have h1 := hf q hq
    have h2 : (toPy q.2).depth = 0 := by
      cases e : q.2 <;> rw [e] at h1 <;> first | rfl | cases h1
    have h3 : (toPy (kyD q.1)).depth = 0 := by cases q.1 <;> rfl
    show PyData.depthAll [toPy (kyD q.1), toPy q.2] + 1 ≤ 61
    show max (toPy (kyD q.1)).depth (max (toPy q.2).depth 0) + 1 ≤ 61
    omega
  · refine each_get len fun j v d e1 e2 => ?_
    obtain ⟨b, e3, rfl⟩ := ref_at j v e1
    obtain ⟨q, e4, rfl⟩ := pair_at j d e2
    obtain ⟨kv, vv, x, q1, q2, q3, q4, q5, _⟩ := Lat j b q e3 e4
    exact .tuple (Heap.get?_push_of_some _ q1) rfl rfl (.cons (key_reads q2) (.cons (flat_reads q5 (hf q (List.mem_of_getElem? e4)) q3) .nil))
  · intro e he
    obtain ⟨j, q, kv, vv, x, q0, q1, q2, q3, q4⟩ := Lin e he
    refine ⟨Nat.le_of_lt (made.above _ (List.mem_of_getElem? q0)), Nat.ne_of_lt (Heap.lt_size q1), fun h2 H2 kp => ?_, by rw [q4]; intro ps z; cases z⟩
    rw [q4]
    exact ⟨by show 2 ≤ sizeLine; decide, [kv, vv], .cons q2 (.cons q3 .nil), _, kp _ (Heap.get?_push_of_some _ q1), rfl, 0, rfl⟩
  · intro e he
    obtain ⟨j, q, kv, vv, x, q0, q1, _⟩ := Lin e he
    exact Heap.lt_size (Heap.get?_push_of_some _ q1)
  · intro G2 e2 got
    refine each_get len fun j v d e1 e3 => ?_
    obtain ⟨b, e4, rfl⟩ := ref_at j v e1
    obtain ⟨q, e5, rfl⟩ := pair_at j d e3
    obtain ⟨kv, vv, x, q1, q2, q3, q4, q5, q6⟩ := Lat j b q e4 e5
    exact ⟨.ref b, rfl, .tup (.inl (.inl (got _ q6))) (.cons (rep_key q4) (.cons (q5.mono e2) .nil))⟩
end Iv
end
section
set_option autoImplicit false
set_option maxRecDepth 100000
set_option maxHeartbeats 4000000
namespace Iv
open PySem L2
/-! ### bool of an instance -/
theorem bool_new_in {prog : Program} {w : World} {x : Value} : MeetsIn prog w (Builtin.«bool.__new__» ⟨[.type "bool", x], []⟩) (fun A R s => wpAny (model prog w) A.in1 (truthy x) (fun b s' => R (.ok (.ret (.bool b))) s') (fun e s' => R (.error e) s') s) := by
  refine MeetsIn.of_wp fun A R s hs => ?_
  have f1 := PySem.F.conv_sub_bool
  repeat (any_goals (first | assumption | (with_reducible refine wpAny_mono hs ?_ ?_) | wp_step))
  all_goals first | exact fun b s' q => wpAny_pure ⟨_, rfl, q⟩ | exact fun _ _ e => e | skip
section
variable {X : Cx} {CX : CXT} {pins : List (Addr × Obj)} {σ : L2.St} {H : Hp} {s : Shared} {n : Nat} {g C a dx : Addr} {vs : List (Option V)} {sp : Sp} {E : XK}
theorem bool_ins {Q : VK} (hs : PySem.W.findIn X.K (.ref C) "__bool__" = some (some (.ref g))) (hf : PySem.W.isFn X.K (.ref g) = true) (F : FnR X.prog X.w X.K X.mg X.base CX n g sp) (hr : Room (n + 2) X.A) (hx : PassesAt CX X σ E) (I : Inv X pins σ H s) (ha : SlX.Slt H a C dx vs)
    (h : sp [.ref a] H (fun z H' => ∃ b, z = .bl b ∧ Q (.bl b) H') E) : wpAny (model X.prog X.w) X.A (call (.type "bool") [.ref a]) (EP X pins σ Q) X.xe s := by
  obtain ⟨sl, od, _, J, _⟩ := SlX.slt_inst I ha
  obtain ⟨m, hF⟩ := I.fr
  refine PySem.callType_newIn PySem.F.called_bool PySem.F.newNe_bool (PySem.F.typeCall_bool_1 _) (PySem.F.newCall_bool_1 _) (fun obj => PySem.F.args_object_init_2 obj _) PySem.F.entry_bool_new bool_new_in ?_
  refine PySem.W.truthy_K hF I.ok.mod.kin J hs hf ?_
  refine thn (runW (us := [.ref a]) (ws := [.ref a]) F hr.in1.in1 I.env0.in1.in1 hx I (.cons rfl .nil) h) fun w s' ⟨z, H', I', rz, b, eb, qz⟩ => ?_
  subst eb
  cases (show w = Value.bool b from rz)
  exact ⟨typeIs_bool _ _, .bl b, H', I', rfl, qz⟩
end
/-! ### calls that look at the slots -/
def rd1 (f : V → Hp → Prop) : List V → Hp → Prop
  | [v], H => f v H
  | _, _ => False
theorem rd1_d {f : V → Hp → Prop} {vs : List V} {H : Hp} (h : rd1 f vs H) : ∃ v, vs = [v] ∧ f v H := by
  match vs, h with
  | [v], h => exact ⟨v, rfl, h⟩
section
variable {X : Cx} {e : Expr} {x : Str} {p pos : Pos} {ta : TE}
theorem pe_callBS {id : String} {rd : L2.St → V → Hp → VK → Prop} (hc : ∀ (pins : List (Addr × Obj)) (s : Shared) (σ : L2.St) (H : Hp) (v : V) (u : Value) (Q : VK), Inv X pins σ H s → RelV v u → rd σ v H Q → wpAny (model X.prog X.w) X.A (call (.builtin id) [u]) (EP X pins σ Q) X.xe s)
    (hg : Gl X x) (hm : X.mg x = none) (hv : bootBuiltins x = some (.builtin id)) (ha : PE X e ta) (hn : x ≠ "__name__") (hdb : (x == ("__debug__" : Str)) = false) (he : starEach [e] X.env = [(false, eval e X.env)]) :
    PE X (.Call (.Name x p) [e] [] pos) (fun σ H Q => ta σ H fun v H1 => rd σ v H1 Q) := by
  refine ⟨fun pins s σ H Q I h => wpAny_Call_Name_kw (ld_blt I hg hm hv ?_ hn hdb)⟩
  have h' : (tCons ta tNil) σ H (rd1 fun v H1 => rd σ v H1 Q) := h
  refine PyProof.Rows.callWith_builtin1 (thn ((pa_cons ha pa_nil he).run pos pins s σ H _ I h') fun us s1 ⟨vs, H1, I1, r1, q1⟩ => ?_) he rfl
  obtain ⟨v, rfl, q⟩ := rd1_d q1
  obtain ⟨u, rfl, ru⟩ := vals1 r1
  exact hc pins s1 σ H1 v u Q I1 ru q
theorem pe_callTS {T : String} {rd : L2.St → V → Hp → VK → Prop} (hc : ∀ (pins : List (Addr × Obj)) (s : Shared) (σ : L2.St) (H : Hp) (v : V) (u : Value) (Q : VK), Inv X pins σ H s → RelV v u → rd σ v H Q → wpAny (model X.prog X.w) X.A (call (.type T) [u]) (EP X pins σ Q) X.xe s)
    (hg : Gl X x) (hm : X.mg x = none) (hv : bootBuiltins x = some (.type T)) (ha : PE X e ta) (hn : x ≠ "__name__") (hdb : (x == ("__debug__" : Str)) = false) (he : starEach [e] X.env = [(false, eval e X.env)]) :
    PE X (.Call (.Name x p) [e] [] pos) (fun σ H Q => ta σ H fun v H1 => rd σ v H1 Q) := by
  refine ⟨fun pins s σ H Q I h => wpAny_Call_Name_kw (ld_blt I hg hm hv ?_ hn hdb)⟩
  have h' : (tCons ta tNil) σ H (rd1 fun v H1 => rd σ v H1 Q) := h
  refine PyProof.Rows.callWith_type1 (thn ((pa_cons ha pa_nil he).run pos pins s σ H _ I h') fun us s1 ⟨vs, H1, I1, r1, q1⟩ => ?_) he rfl
  obtain ⟨v, rfl, q⟩ := rd1_d q1
  obtain ⟨u, rfl, ru⟩ := vals1 r1
  exact hc pins s1 σ H1 v u Q I1 ru q
end
section
variable {X : Cx} {CX : CXT} {n i : Nat} {f C : Addr} {sp : Sp} {x : Str} {e : Expr} {es : List Expr} {ps pos : Pos} {t : TA} {ES : L2.St → XK}
/-- c(..), c a local name that holds a class -/
theorem pe_mkV (M : Mk X.K C f) (F : FnR X.prog X.w X.K X.mg X.base CX n f sp) (hr : Room (n + 1) X.A) (hN : X.N[i]? = some x) (hv : Vis X.env.scope x) (hx : ∀ σ, PassesAt CX X σ (ES σ)) (ha : PA X (e :: es) t)
    (hd : (x == ("__debug__" : Str)) = false) (hcd : (x == ("__classdict__" : Str)) = false) (h1 : starEach (e :: es) X.env = (false, eval e X.env) :: starEach es X.env) (h2 : (backTo pos (starEach es X.env)).any (·.1) = false) :
    PE X (.Call (.Name x ps) (e :: es) [] pos) (fun σ H Q => σ[i]? = some (some (.ref C)) ∧ t σ H fun vs H1 => ∀ x dx, H1 x = none → H1 dx = none → dx ≠ x → sp (V.ref x :: vs) (upd (upd H1 dx (.xd [])) x (SlX.SlO x C dx [])) (fun v H2 => v = .non ∧ Q (.ref x) H2) (ES σ)) := by
  refine ⟨fun pins s σ H Q I ⟨hs, hw⟩ => wpAny_Call_Name_kw (thn ((pe_var (pos := ps) (i := i) hN hv hd hcd).run pins s σ H (fun v H1 => v = .ref C ∧ H1 = H) I ⟨.ref C, hs, rfl, rfl⟩) fun u s1 ⟨v, H1, I1, r1, ev, eH⟩ => ?_)⟩
  subst ev
  rw [eH] at I1
  cases r1
  refine PySem.W.callWith_K (h₀ := X.base) I.ok.mod.kin M.kp ?_ h1 h2
  exact thn (ha.run pos pins s1 σ H _ I1 hw) fun us s2 ⟨vs, H2, I2, r, q⟩ => ⟨I2.kIn, runMake M F hr (hx σ) I2 r q⟩
/-- x unpacks to these -/
def StarV (K : PySem.W.Frag) (H : Hp) (x : V) (ys : List V) : Prop := ∃ a, x = .ref a ∧ (SqT K H a ys ∨ SqL K H a ys ∨ ∃ ks : List (Key × V), Rd H a (.dK ks) ∧ ys = ks.map fun q => kV q.1)
theorem star_V {pins : List (Addr × Obj)} {σ : L2.St} {H : Hp} {s : Shared} {a : Addr} {ys : List V} {E : Value → Shared → Prop} {Q : List Value → Shared → Prop} (hc : X.calm = true) (I : Inv X pins σ H s) (h : SqT X.K H a ys ∨ SqL X.K H a ys ∨ ∃ ks : List (Key × V), Rd H a (.dK ks) ∧ ys = ks.map fun q => kV q.1)
    (hQ : ∀ us s', Inv X pins σ H s' → Vals ys us → Q us s') : PySem.W.StarOf (model X.prog X.w) X.A E (.ref a) Q s := by
  rcases h with h | h | ⟨ks, rd, rfl⟩
  · exact StX.star_any I (.inl h) hQ
  · exact StX.star_any I (.inr h) hQ
  · obtain ⟨z, lo, vs, rel, dd⟩ := dk_rd I.hok rd
    obtain ⟨ep, hat⟩ := dd.dictAt
    have l1 : ks.length = vs.length := rel.length
    have col : wpAny (model X.prog X.w) X.A (collect (.ref a)) Q E s := by
      refine PySem.W.kdu_collect (A := X.A) (PySem.W.kdl_dict (knd := mixKind X.prog X.w) (kvs := vs) (ep := ep) lo) (I.ok.hd hc) hat (by omega) fun h' tk acc hk hacc => ?_
      refine hQ _ _ (I.kept (t' := tk) hk) ?_
      have len : acc.toList.length = ks.length := by rw [Array.length_toList, hacc.1, l1]
      have all : PySem.W.EachIs (fun (u : Value) (q : Key × V) => RelV (kV q.1) u) acc.toList ks := each_get len fun j v q e1 e2 => by
        obtain ⟨k, x, f1, f2⟩ := hacc.2 j v (by rw [← Array.getElem?_toList]; exact e1)
        obtain ⟨q', f6, f7, _⟩ := kv_at rel e2
        rw [f1] at f6; cases f6
        rw [f7]
        exact relV_key f2
      have mk : ∀ {us : List Value} {qs : List (Key × V)}, PySem.W.EachIs (fun (u : Value) (q : Key × V) => RelV (kV q.1) u) us qs → Vals (qs.map fun q => kV q.1) us := by
        intro us qs h
        induction h with
        | nil => exact .nil
        | cons h _ ih => exact .cons h ih
      exact mk all
    unfold PySem.W.StarOf notIterableAtAll
    exact wpAny_bind (wpAny_specialOf dd.typeIs PySem.F.slot_dict_iter.lookup (wpAny_pure ⟨rfl, col⟩))
theorem pa_starV {te : TE} {p : Pos} (hc : X.calm = true) (he : PE X e te) (hr : PA X es t) (hs : starEach (.Starred e p :: es) X.env = (true, eval e X.env) :: starEach es X.env) :
    PA X (.Starred e p :: es) (fun σ H Q => te σ H fun x H1 => ∃ ys, StarV X.K H1 x ys ∧ t σ H1 fun zs H2 => Q (ys ++ zs) H2) := by
  refine ⟨fun pos pins s σ H Q I h => PySem.W.items_star (thn (he.run pins s σ H _ I h) fun v s1 ⟨y, H1, I1, ry, ys, ⟨a, ey, hx⟩, q⟩ => ?_) hs⟩
  subst ey
  obtain rfl : v = Value.ref a := ry
  refine star_V hc I1 hx fun us s2 I2 rv => ?_
  exact thn (hr.run pos pins s2 σ H1 _ I2 q) fun ws s3 ⟨vs, H3, I3, r3, q3⟩ => ⟨ys ++ vs, H3, I3, rv.append r3, q3⟩
end
end Iv
end
section
set_option autoImplicit false
set_option maxRecDepth 100000
set_option maxHeartbeats 4000000
namespace Iv
open PySem L2
theorem Rl.take {K : Fg} {F G H : Hp} {m : List Addr} {S : Hs} (l : Rl K F G m S H) (k : Nat) : Rl K F G (m.take k) (S.take k) H := by
  refine ⟨l.ext, l.fr, fun a o h => ⟨(l.fd a o h).1, fun hm => (l.fd a o h).2 (List.mem_of_mem_take hm)⟩, fun a ha => l.mh a (List.mem_of_mem_take ha), by simp [l.len], (List.take_sublist k m).nodup l.nd, fun n a o h1 h2 => ?_, ⟨l.tb.f, l.tb.g, fun a ha => l.tb.m a (List.mem_of_mem_take ha), l.tb.t⟩⟩
  by_cases hn : n < k
  · rw [List.getElem?_take_of_lt hn] at h1 h2
    exact l.ob n a o h1 h2
  · rw [List.getElem?_take_eq_none (by omega)] at h1; cases h1
theorem Grow.take {G G' : Hp} {m m' : List Addr} (g : Grow G m G' m') : Grow G m G' (m'.take m.length) := by
  refine ⟨g.1, fun n a h => ?_⟩
  rw [List.getElem?_take_of_lt (List.getElem?_eq_some_iff.mp h).1]
  exact g.2 n a h
/-- an instance that is met -/
theorem insOf_slt {K : Fg} {F G H : Hp} {m : List Addr} {S : Hs} {c : Nat} {v : Vl} {u : V} (l : Rl K F G m S H) (r : RepV K G m v u) (h : insOf c v S = true) : ∃ a dx vs, u = .ref a ∧ SlX.Slt H a (K.cl c) dx vs := by
  unfold insOf at h
  split at h
  · have e := eq_of_beq h
    subst e
    exact rep_slt l.ext r
  · rename_i n
    obtain ⟨a, ha, rfl⟩ := r
    split at h
    · rename_i c' fs hs
      have e := eq_of_beq h
      subst e
      obtain ⟨_, dx, vs, h2, h3, _, _⟩ := (l.ob n a _ ha hs).ins
      exact ⟨a, dx, vs, rfl, .inr ⟨h2, l.ext _ _ h3⟩⟩
    · cases h
  · cases h
theorem repOs_get {K : Fg} {G : Hp} {fs : List (Option D)} {vs : List (Option V)} (h : RepOs K G fs vs) : ∀ {k : Nat} {d : D}, fs[k]? = some (some d) → ∃ v, vs[k]? = some (some v) ∧ Rep K G d v := by
  induction h with
  | nil => intro k d e; simp at e
  | none _ ih =>
    intro k d e
    cases k with
    | zero => simp at e
    | succ k => simpa using ih (k := k) (by simpa using e)
  | some r _ ih =>
    intro k d e
    cases k with
    | zero => simp at e; subst e; exact ⟨_, rfl, r⟩
    | succ k => simpa using ih (k := k) (by simpa using e)
theorem fldOf_slt {K : Fg} {F G H : Hp} {m : List Addr} {S : Hs} {c k : Nat} {v : Vl} {u : V} {d : D} (l : Rl K F G m S H) (r : RepV K G m v u) (h : fldOf c k v S = some d) : ∃ a dx vs w, u = .ref a ∧ SlX.Slt H a (K.cl c) dx vs ∧ vs[k]? = some (some w) ∧ Rep K G d w := by
  unfold fldOf at h
  split at h
  · rename_i c' fs
    split at h
    · rename_i e
      subst e
      cases r with
      | ins h1 h2 _ q =>
        obtain ⟨w, e1, e2⟩ := q.get h
        exact ⟨_, _, _, w, rfl, .inr ⟨l.ext _ _ h1, l.ext _ _ h2⟩, by rw [List.getElem?_map, e1]; rfl, e2⟩
    · cases h
  · rename_i n
    obtain ⟨a, ha, rfl⟩ := r
    split at h
    · rename_i c' fs hs
      split at h
      · rename_i e
        subst e
        obtain ⟨_, dx, vs, h2, h3, _, h5⟩ := (l.ob n a _ ha hs).ins
        cases e1 : fs[k]? with
        | none => rw [e1] at h; cases h
        | some o =>
          rw [e1] at h
          cases o with
          | none => cases h
          | some d' =>
            cases h
            obtain ⟨w, e2, e3⟩ := repOs_get h5 e1
            exact ⟨a, dx, vs, w, rfl, .inr ⟨h2, l.ext _ _ h3⟩, e2, e3⟩
      · cases h
    · cases h
  · cases h
theorem allD_reps {K : Fg} {G : Hp} {fs : List (Option D)} {vs : List (Option V)} (h : RepOs K G fs vs) : ∀ {xs : List D}, allD fs = some xs → ∃ ws, vs = ws.map some ∧ Reps K G xs ws := by
  induction h with
  | nil => intro xs e; cases e; exact ⟨[], rfl, .nil⟩
  | none _ _ => intro xs e; cases e
  | @some x v fs vs r _ ih =>
    intro xs e
    simp only [allD] at e
    cases q : allD fs with
    | none => rw [q] at e; cases e
    | some ys =>
      rw [q] at e; cases e
      obtain ⟨ws, e1, e2⟩ := ih q
      exact ⟨v :: ws, by rw [e1]; rfl, .cons r e2⟩
/-- dict(pairs) -/
theorem dofL_rep {K : Fg} {G H : Hp} (ex : Ext G H) : ∀ {xs : List D} {vs : List V} {acc kvs : List (Ky × D)} {ks : List (Key × V)}, Reps K G xs vs → RepKs K G acc ks → dofL xs acc = some kvs →
    ∃ (ps : List Addr) (qs : List (Key × V)), vs = ps.map V.ref ∧ Paired (fun p kv => SqT K H p [kV kv.1, kv.2]) ps qs ∧ RepKs K G kvs (mergeK ks qs)
  | [], _, acc, kvs, ks, .nil, ra, h => by simp only [dofL, Option.some.injEq] at h; subst h; exact ⟨[], [], rfl, .nil, ra⟩
  | x :: xs, _, acc, kvs, ks, .cons r t, ra, h => by
    match x, r, h with
    | .tup [k, v], r, h =>
      simp only [dofL] at h
      cases r with
      | tup hs q =>
        cases q with
        | cons q1 q => cases q with
          | cons q2 q =>
            cases q
            cases hk : keyD k with
            | none => rw [hk] at h; cases h
            | some ky =>
              rw [hk] at h
              obtain ⟨rfl, ok⟩ := keyD_V q1 hk
              obtain ⟨ps, qs, e1, e2, e3⟩ := dofL_rep ex t (kput_val ok q2 ra) h
              exact ⟨_ :: ps, (kyOf ky, _) :: qs, by rw [e1]; rfl, .cons (hs.ext ex) e2, e3⟩
section
variable {nm : Nm} {cl : Cl} {P : Prg} {cal : Cal} {n : Nat} {X : Cx} {W : WX} {e l r : Expr} {es : List Expr} {pos : Pos} {x y z : Ex}
theorem star1 {sc : Scope} {N : List Str} (h : isE nm N sc x e = true) : starEach [e] X.env = [(false, eval e X.env)] := star_e h
theorem e_ptup {k : Nat} (ha : PA X es (TXs nm cl X W (evs P cal x))) : PE X (.Tuple es k pos) (TX nm cl X W (ev P cal (.ptup x))) := by
  refine PE.imp (pe_tupP ha) fun σ H Q ⟨F, G, m, r, S, rl, rv, out⟩ => ?_
  simp only [ev] at out
  refine tX.bind rl rv out fun u1 H1 G1 m1 v1 S1 g1 l1 rv1 r1 out => ?_
  split at out
  · rename_i xs hx
    split at out
    · rename_i hz
      have hl : u1.length ≤ sizeLine := by rw [← r1.length]; exact small_line hz
      have al : ∀ p us, H1 p = none → Al G1 H1 _ _ := fun p us hp => Al.one (o := .frz (tupO us) (.tup u1)) hp
      exact ⟨hl, fun p us hp => Out.gives out l1 _ _ _ (al p us hp) (.ptp ⟨tupO us, us, 0, .inl upd_same, rfl, rfl, rfl, hl⟩ ((dsOf_reps r1 hx).mono ((al p us hp).ext l1.ext).2.1))⟩
    · exact out.elim
  · exact out.elim
theorem e_ptl {p : Pos} {sc : Scope} {N : List Str} (C : Ck nm cl P cal n X W) (h1 : glB X.env.scope ("tuple" : Str) = true) (hs : isE nm N sc x e = true) (ha : PE X e (TX nm cl X W (ev P cal x))) :
    PE X (.Call (.Name ("tuple" : Str) p) [e] [] pos) (TX nm cl X W (ev P cal (.ptl x))) := by
  refine PE.imp (pe_callTy call_tupP (glB_d h1) (C.md.bt .tuple) (by decide +kernel) (pa_cons ha pa_nil (star_e hs)) (by decide +kernel) (by decide +kernel) (star_e hs) rfl) fun σ H Q ⟨F, G, m, r, S, rl, rv, out⟩ => ?_
  simp only [ev] at out
  refine tX.bind rl rv out fun u1 H1 G1 m1 v1 S1 g1 l1 rv1 r1 out => ?_
  split at out
  · cases r1 with
    | lst h1 h2 =>
      refine ⟨_, _, rfl, .of (l1.ext _ _ h1), fun hz q us hq => ?_⟩
      rename_i ws
      have al : Al G1 H1 _ _ := Al.one (o := .frz (tupO us) (.tup ws)) hq
      exact Out.gives out l1 _ _ _ al (.ptp ⟨tupO us, us, 0, .inl upd_same, rfl, rfl, rfl, hz⟩ (h2.mono (al.ext l1.ext).2.1))
  · exact out.elim
theorem e_dof {p : Pos} {sc : Scope} {N : List Str} (C : Ck nm cl P cal n X W) (h1 : glB X.env.scope ("dict" : Str) = true) (hs : isE nm N sc x e = true) (ha : PE X e (TX nm cl X W (ev P cal x))) :
    PE X (.Call (.Name ("dict" : Str) p) [e] [] pos) (TX nm cl X W (ev P cal (.dof x))) := by
  have both : CallR X (.type "dict") (fun xs H Q => (∃ (a : Addr) (ps : List Addr) (kvs : List (Key × V)), xs = [.ref a] ∧ SqP X.K H a (ps.map V.ref) ∧ Paired (fun p kv => SqT X.K H p [kV kv.1, kv.2]) ps kvs ∧ ∀ p, H p = none → Q (.ref p) (upd H p (.dK (mergeK [] kvs)))) ∨
      (∃ (a : Addr) (ps : List Addr) (kvs : List (Key × V)), xs = [.ref a] ∧ SqL X.K H a (ps.map V.ref) ∧ Paired (fun p kv => SqT X.K H p [kV kv.1, kv.2]) ps kvs ∧ ∀ p, H p = none → Q (.ref p) (upd H p (.dK (mergeK [] kvs))))) :=
    fun pins s σ H xs us Q I r h => h.elim (call_dofP C.calm pins s σ H xs us Q I r) (call_dictP C.calm pins s σ H xs us Q I r)
  refine PE.imp (pe_lock (pe_callTy both (glB_d h1) (C.md.bo _ (by decide)) (by decide +kernel) (pa_cons ha pa_nil (star_e hs)) (by decide +kernel) (by decide +kernel) (star_e hs) rfl)) fun σ H Q ⟨F, G, m, r, S, rl, rv, out⟩ => ?_
  simp only [ev] at out
  refine tX.bind rl rv out fun u1 H1 G1 m1 v1 S1 g1 l1 rv1 r1 out => ?_
  have fin : ∀ (xs : List D) (vs : List V), Reps (kx cl X) G1 xs vs → OutV nm.excs X.mg (kx cl X) W F σ G1 m1 Q (R.opt ((dofL xs []).map fun kvs => .d (.dct kvs)) S1) → ∃ (ps : List Addr) (qs : List (Key × V)), vs = ps.map V.ref ∧ Paired (fun p kv => SqT X.K H1 p [kV kv.1, kv.2]) ps qs ∧
      ∀ p, H1 p = none → ∃ p' kvs, V.ref p = .ref p' ∧ upd H1 p (.dK (mergeK [] qs)) p' = some (.dK kvs) ∧ ∀ o, Q (V.ref p) (upd (upd H1 p (.dK (mergeK [] qs))) p' (.frz o (.dK kvs))) := by
    intro xs vs hr out
    cases hd : dofL xs [] with
    | none => rw [hd] at out; exact out.elim
    | some kvs =>
      rw [hd] at out
      obtain ⟨ps, qs, e1, e2, e3⟩ := dofL_rep (K := kx cl X) l1.ext hr .nil hd
      refine ⟨ps, qs, e1, e2, fun p hp => ⟨p, _, rfl, upd_same, fun o => ?_⟩⟩
      rw [upd_upd]
      have al : Al G1 H1 _ _ := Al.one (o := .frz o (.dK (mergeK [] qs))) hp
      exact Out.gives out l1 _ _ _ al (.dct upd_same (e3.mono (al.ext l1.ext).2.1))
  split at out
  · cases r1 with
    | ptp h1 h2 =>
      obtain ⟨ps, qs, rfl, e2, e3⟩ := fin _ _ h2 out
      exact .inl ⟨_, ps, qs, rfl, h1.ext l1.ext, e2, e3⟩
  · cases r1 with
    | lst h1 h2 =>
      obtain ⟨ps, qs, rfl, e2, e3⟩ := fin _ _ h2 out
      exact .inr ⟨_, ps, qs, rfl, .of (l1.ext _ _ h1), e2, e3⟩
  · exact out.elim
end
end Iv
end
section
set_option autoImplicit false
set_option maxRecDepth 100000
set_option maxHeartbeats 4000000
namespace Iv
open PySem L2
section
variable {nm : Nm} {cl : Cl} {P : Prg} {cal : Cal} {n : Nat} {X : Cx} {W : WX} {e l r : Expr} {es : List Expr} {pos : Pos} {x y z : Ex}
/-! ### d == {} -/
theorem deq0_read {ng : Bool} {σ : L2.St} {H : Hp} {Q : VK} (h : TX nm cl X W (ev P cal (.deq0 ng x)) σ H Q) :
    TX nm cl X W (ev P cal x) σ H fun a H1 => ∀ p, H1 p = none → ∃ a' b ks, a = .ref a' ∧ V.ref p = .ref b ∧ Rd (upd H1 p (.dK [])) a' (.dK ks) ∧ upd H1 p (.dK []) b = some (.dK []) ∧ Q (.bl (if ng then !ks.isEmpty else ks.isEmpty)) (upd H1 p (.dK [])) := by
  obtain ⟨F, G, m, r, S, rl, rv, out⟩ := h
  simp only [ev] at out
  refine tX.bind rl rv out fun u1 H1 G1 m1 v1 S1 g1 l1 rv1 r1 out p hp => ?_
  split at out
  · cases r1 with
    | dct h1 h2 =>
      have al : Al G1 H1 _ _ := Al.one (o := .dK []) hp
      have em : ∀ {xs : List (Ky × D)} {ks : List (Key × V)}, RepKs (kx cl X) G1 xs ks → ks.isEmpty = xs.isEmpty := fun h => by cases h <;> rfl
      refine ⟨_, p, _, rfl, rfl, .inr ⟨_, by rw [upd_ne (ne_of_none (l1.ext _ _ h1) hp)]; exact l1.ext _ _ h1⟩, upd_same, ?_⟩
      rw [em h2]
      exact Out.gives out l1 _ _ _ al (.bl _)
  · exact out.elim
theorem pc_deq0 {ng : Bool} {p : Pos} (C : Ck nm cl P cal n X W) (ha : PE X l (TX nm cl X W (ev P cal x))) : PC X (if ng then .NotEq else .Eq) l (.Dict [] [] p) (TX nm cl X W (ev P cal (.deq0 ng x))) := by
  have key := pc_S (X := X) (op := if ng then .NotEq else .Eq) ha (pe_dnewK (pos := p)) (fun pins s σ H x y v u Q I rx ry h => op_deq0 (ng := ng) (Nat.lt_of_le_of_lt (by omega) C.room.units) pins s σ H x y v u Q I rx ry h)
  exact ⟨fun pins s σ H Q I hw => key.run pins s σ H Q I (deq0_read hw)⟩
theorem e_deq0 {ng : Bool} {p : Pos} (C : Ck nm cl P cal n X W) (ha : PE X l (TX nm cl X W (ev P cal x))) : PE X (.Compare l [if ng then .NotEq else .Eq] [.Dict [] [] p] pos) (TX nm cl X W (ev P cal (.deq0 ng x))) := pe_cmp (pc_deq0 C ha) (by cases ng <;> rfl)
theorem t_deq0 {ng : Bool} {p : Pos} (C : Ck nm cl P cal n X W) (ha : PE X l (TX nm cl X W (ev P cal x))) : PT X (.Compare l [if ng then .NotEq else .Eq] [.Dict [] [] p] pos) (tB (TX nm cl X W (ev P cal (.deq0 ng x)))) := pt_cmp (pc_deq0 C ha) (by cases ng <;> rfl)
/-! ### sorted -/
theorem e_srt {p : Pos} {sc : Scope} {N : List Str} (C : Ck nm cl P cal n X W) (h1 : glB X.env.scope ("sorted" : Str) = true) (hs : isE nm N sc x e = true) (ha : PE X e (TX nm cl X W (ev P cal x))) :
    PE X (.Call (.Name ("sorted" : Str) p) [e] [] pos) (TX nm cl X W (ev P cal (.srt x))) := by
  have both := fun (pins : List (Addr × Obj)) (s : Shared) (σ : L2.St) (H : Hp) (xs : List V) (us : List Value) (Q : VK) (I : Inv X pins σ H s) (r : Vals xs us)
      (h : (∃ (G : Hp) (xs' : List D) (x : V), xs = [x] ∧ Ext G H ∧ Rd' (kx cl X) G H (.lst xs') x ∧ sortOk xs' = true ∧ Gives (kx cl X) G H (.lst (sortD xs')) Q) ∨
        (∃ (G : Hp) (xs' : List (Ky × D)) (a : Addr) (ks : List (Key × V)), xs = [.ref a] ∧ Ext G H ∧ Rd H a (.dK ks) ∧ RepKs (kx cl X) G xs' ks ∧ sortOk (xs'.map fun p => kyD p.1) = true ∧ Gives (kx cl X) G H (.lst (sortD (xs'.map fun p => kyD p.1))) Q)) =>
    h.elim (cr_srtL (cl := cl) C.room.units pins s σ H xs us Q I r) (cr_srtK (cl := cl) C.calm C.room.units pins s σ H xs us Q I r)
  refine PE.imp (pe_callB both (glB_d h1) (C.md.bo _ (by decide)) (by decide +kernel) (pa_cons ha pa_nil (star_e hs)) (by decide +kernel) (by decide +kernel) (star_e hs) rfl) fun σ H Q ⟨F, G, m, r, S, rl, rv, out⟩ => ?_
  simp only [ev] at out
  refine tX.bind rl rv out fun u1 H1 G1 m1 v1 S1 g1 l1 rv1 r1 out => ?_
  unfold srtL at out
  cases ek : rdK v1 S1 with
  | some kvs =>
    rw [ek] at out
    dsimp only at out
    split at out
    · rename_i hso
      obtain ⟨a, ks, rfl, q1, q2⟩ := rdK_rd l1 r1 ek
      exact .inr ⟨G1, kvs, a, ks, rfl, l1.ext, q1, q2, hso, Out.gives out l1⟩
    · exact out.elim
  | none =>
    rw [ek] at out
    cases ev : rdV v1 S1 with
    | none => rw [ev] at out; exact out.elim
    | some d =>
      rw [ev] at out
      cases d with
      | lst xs =>
        dsimp only at out
        split at out
        · rename_i hso
          exact .inl ⟨G1, xs, u1, rfl, l1.ext, rdV_rd l1 r1 ev, hso, Out.gives out l1⟩
        · exact out.elim
      | _ => exact out.elim
theorem e_srti {p ap p2 : Pos} {sc : Scope} {N : List Str} (C : Ck nm cl P cal n X W) (h1 : glB X.env.scope ("sorted" : Str) = true) (h0 : noC0 e = true) (hl : (ap.endLine == p2.line) = true) (ha : PE X e (TX nm cl X W (ev P cal x))) :
    PE X (.Call (.Name ("sorted" : Str) p) [.Call (.Attribute e ("items" : Str) ap) [] [] p2] [] pos) (TX nm cl X W (ev P cal (.srti x))) := by
  have it := pe_bm0 (X := X) (cpos := p2) (apos := ap) PySem.F.plainAttrs_dict PySem.F.slot_dict_items PySem.F.type_dict_items mt_itemsK ha (base_e h0) hl
  refine PE.imp (pe_callB (cr_srtI (cl := cl) C.calm C.room.units) (glB_d h1) (C.md.bo _ (by decide)) (by decide +kernel) (pa_cons it pa_nil rfl) (by decide +kernel) (by decide +kernel) rfl rfl) fun σ H Q ⟨F, G, m, r, S, rl, rv, out⟩ => ?_
  simp only [ev] at out
  refine tX.bind rl rv out fun u1 H1 G1 m1 v1 S1 g1 l1 rv1 r1 out => ?_
  cases v1 with
  | d _ => exact out.elim
  | xc _ _ => exact out.elim
  | loc k =>
    obtain ⟨a, ha, rfl⟩ := r1
    dsimp only at out
    cases es : S1[k]? with
    | none => rw [es] at out; exact out.elim
    | some ob =>
      rw [es] at out
      cases ob with
      | dct kvs =>
        dsimp only at out
        split at out
        · rename_i hso
          have hso := Bool.and_eq_true_iff.mp hso
          obtain ⟨ga, ks, q2, q3⟩ := (l1.ob k a _ ha es).dct
          refine ⟨.inr (.inr (.inl ⟨rfl, .inl ⟨ks, q2⟩⟩)), a, ks, rfl, rfl, q2, fun q hq => ?_⟩
          have al : Al G1 H1 _ _ := Al.one (o := L2.DX.itemsO q a) hq
          have l2 := l1.al al
          refine ⟨_, kvs, q, a, ks, rfl, l2.ext, upd_same, .inl (by rw [upd_ne (ne_of_none q2 hq)]; exact q2), q3.mono (al.ext l1.ext).2.1, hso.1, fun z hz => List.all_eq_true.mp hso.2 z hz, ?_⟩
          exact Out.gives (Out.grow (al.grow l1.ext) out) l2
        · exact out.elim
      | _ => exact out.elim
/-! ### [*a, *b] -/
theorem starL_V {K : Fg} {F G H : Hp} {m : List Addr} {v : Vl} {u : V} {xs : List D} (ex : Ext G H) (r : RepV K G m v u) (h : starL v = some xs) : ∃ ys, StarV K H u ys ∧ Reps K G xs ys := by
  unfold starL at h
  split at h
  · cases h
    cases r with
    | lst h1 h2 => exact ⟨_, ⟨_, rfl, .inr (.inl (.of (ex _ _ h1)))⟩, h2⟩
  · cases h
    cases r with
    | tup h1 h2 => exact ⟨_, ⟨_, rfl, .inl (h1.ext ex)⟩, h2⟩
  · cases h
    cases r with
    | dct h1 h2 =>
      refine ⟨_, ⟨_, rfl, .inr (.inr ⟨_, .inr ⟨_, ex _ _ h1⟩, rfl⟩)⟩, ?_⟩
      have all : ∀ {xs : List (Ky × D)} {ks : List (Key × V)}, RepKs K G xs ks → Reps K G (xs.map fun p => kyD p.1) (ks.map fun q => kV q.1) := by
        intro xs
        induction xs with
        | nil => intro ks h; cases h; exact .nil
        | cons p xs ih =>
          intro ks h
          cases h with
          | cons o _ t => exact .cons (rep_key o) (ih t)
      exact all h2
  · cases h
theorem e_stars {p1 p2 : Pos} (C : Ck nm cl P cal n X W) (ha : PE X l (TX nm cl X W (ev P cal x))) (hb : PE X r (TX nm cl X W (ev P cal y))) : PE X (.List [.Starred l p1, .Starred r p2] pos) (TX nm cl X W (ev P cal (.stars x y))) := by
  refine PE.imp (pe_lst (pa_starV C.calm ha (pa_starV C.calm hb pa_nil rfl) rfl)) fun σ H Q ⟨F, G, m, r, S, rl, rv, out⟩ => ?_
  simp only [ev] at out
  refine tX.bind rl rv out fun u1 H1 G1 m1 v1 S1 g1 l1 rv1 r1 out => ?_
  cases e1 : starL v1 with
  | none => rw [e1] at out; exact out.elim
  | some xs =>
    obtain ⟨ys, q1, q2⟩ := starL_V (F := F) l1.ext r1 e1
    rw [e1] at out
    refine ⟨ys, q1, tX.bind l1 rv1 out fun u2 H2 G2 m2 v2 S2 g2 l2 rv2 r2 out => ?_⟩
    cases e2 : starL v2 with
    | none => rw [e2] at out; exact out.elim
    | some zs =>
      rw [e2] at out
      dsimp only at out
      obtain ⟨ws, q3, q4⟩ := starL_V (F := F) l2.ext r2 e2
      refine ⟨ws, q3, ?_⟩
      split at out
      · rename_i hz
        refine ⟨?_, fun p hp => ?_⟩
        · rw [List.append_nil, List.length_append, ← q2.length, ← q4.length]; exact small_line hz
        · rw [List.append_nil]
          exact (Out.gives out l2).newL l2.ext ((q2.mono g2.1).append q4) hp
      · exact out.elim
end
end Iv
end
section
set_option autoImplicit false
set_option maxRecDepth 100000
set_option maxHeartbeats 4000000
namespace Iv
open PySem L2
section
variable {nm : Nm} {cl : Cl} {P : Prg} {cal : Cal} {n : Nat} {X : Cx} {W : WX} {e l r : Expr} {es : List Expr} {pos : Pos} {x y z : Ex}
/-! ### fields -/
theorem e_slt {j : Nat} {s : Str} (C : Ck nm cl P cal n X W) (hj : nm.sls[j]? = some s) (h0 : noC0 e = true) (ha : PE X e (TX nm cl X W (ev P cal x))) : PE X (.Attribute e s pos) (TX nm cl X W (ev P cal (.slt j x))) := by
  refine PE.imp (SlX.pe_sl ha (base_e h0)) fun σ H Q ⟨F, G, m, r, S, rl, rv, out⟩ => ?_
  simp only [ev] at out
  refine tX.bind rl rv out fun u1 H1 G1 m1 v1 S1 g1 l1 rv1 r1 out => ?_
  cases hq : P.sls[j]? with
  | none => rw [hq] at out; exact out.elim
  | some q =>
    rw [hq] at out
    dsimp only at out
    obtain ⟨k1, p, k2⟩ := C.md.sl j q s hq hj
    cases hf : fldOf q.1 q.2 v1 S1 with
    | none => rw [hf] at out; exact out.elim
    | some d =>
      rw [hf] at out
      obtain ⟨a, dx, vs, w, rfl, q1, q2, q3⟩ := fldOf_slt l1 r1 hf
      exact ⟨a, _, dx, p, vs, _, w, rfl, q1, k1, k2, q2, (Out.gives out l1).here q3.wk⟩
theorem e_sltp {j : Nat} {s : Str} (C : Ck nm cl P cal n X W) (hj : nm.sls[j]? = some s) (h0 : noC0 e = true) (ha : PE X e (TX nm cl X W (ev P cal x))) : PE X (.Attribute e s pos) (TX nm cl X W (ev P cal (.sltp j x))) := by
  refine PE.imp (SlX.pe_sl ha (base_e h0)) fun σ H Q ⟨F, G, m, r, S, rl, rv, out⟩ => ?_
  simp only [ev] at out
  refine tX.bind rl rv out fun u1 H1 G1 m1 v1 S1 g1 l1 rv1 r1 out => ?_
  cases hq : P.sls[j]? with
  | none => rw [hq] at out; exact out.elim
  | some q =>
    rw [hq] at out
    dsimp only at out
    obtain ⟨k1, p, k2⟩ := C.md.sl j q s hq hj
    cases hf : fldOf q.1 q.2 v1 S1 with
    | none => rw [hf] at out; exact out.elim
    | some d =>
      rw [hf] at out
      obtain ⟨a, dx, vs, w, rfl, q1, q2, q3⟩ := fldOf_slt l1 r1 hf
      exact ⟨a, _, dx, p, vs, _, w, rfl, q1, k1, k2, q2, (Out.gives out l1).here q3⟩
/-! ### C(..) -/
/-- what a make asks, when the arguments are there -/
theorem mk_read {F G H : Hp} {m : List Addr} {S : Hs} {c f : Nat} {vs : List Vl} {us : List V} {σ : L2.St} {Q : VK} {sp : Sp} (l : Rl (kx cl X) F G m S H) (r : RVs (kx cl X) G m vs us) (out : OutV nm.excs X.mg (kx cl X) W F σ G m Q (mkV cal c f vs S))
    (g2 : ∀ (σ : L2.St) (F G : Hp) (m : List Addr) (vs : List Vl) (us : List V) (S : Hs) (H : Hp) (Q : VK), Rl (kx cl X) F G m S H → RVs (kx cl X) G m vs us → OutV nm.excs X.mg (kx cl X) W F σ G m Q (cal f vs S) → f < nm.nf ∧ sp us H Q (WE W σ)) :
    ∀ x dx, H x = none → H dx = none → dx ≠ x → f < nm.nf ∧ sp (V.ref x :: us) (upd (upd H dx (.xd [])) x (SlX.SlO x (cl c) dx [])) (fun v H2 => v = .non ∧ Q (.ref x) H2) (WE W σ) := by
  intro x dx hx hdx hne
  have al : Al G H _ _ := Al.one (o := .xd []) hdx
  have l1 := l.al al
  have hx1 : (upd H dx (.xd [])) x = none := by rw [upd_ne (Ne.symm hne)]; exact hx
  have l2 := l1.new (p := x) (ob := .ins c []) (ho := SlX.SlO x (cl c) dx []) hx1 (ObV.ins (K := kx cl X) upd_same hne .nil)
  have gr : Grow G m (upd G dx (.xd [])) (m ++ [x]) := ⟨(al.ext l.ext).2.1, fun k a h => by rw [List.getElem?_append_left (List.getElem?_eq_some_iff.mp h).1]; exact h⟩
  have hself : (m ++ [x])[S.length]? = some x := by rw [← l.len]; simp
  have rv : RVs (kx cl X) (upd G dx (.xd [])) (m ++ [x]) (.loc S.length :: vs) (V.ref x :: us) := by
    refine .cons ⟨x, hself, rfl⟩ ?_
    have mono : ∀ {vs : List Vl} {us : List V}, RVs (kx cl X) G m vs us → RVs (kx cl X) (upd G dx (.xd [])) (m ++ [x]) vs us := by
      intro vs us h
      induction h with
      | nil => exact .nil
      | cons h _ ih => exact .cons (h.mono gr) ih
    exact mono r
  refine g2 σ F _ _ _ _ _ _ _ l2 rv ?_
  unfold mkV at out
  cases hcal : cal f (.loc S.length :: vs) (S ++ [.ins c []]) with
  | bad => rw [hcal] at out; exact out.elim
  | exc c' fs S3 => rw [hcal] at out; exact fun G' m' H' cls d g' => out G' m' H' cls d (gr.trans g')
  | ok v3 S3 =>
  rw [hcal] at out
  simp only [R.bind] at out
  have o3 := out
  intro G3 m3 H2 u g3 l3 r3
  cases v3 with
  | loc _ => exact o3.elim
  | xc _ _ => exact o3.elim
  | d d =>
  cases d with
  | non =>
    cases r3
    refine ⟨rfl, ?_⟩
    have hm3 : m3[S.length]? = some x := g3.2 _ _ hself
    cases hs : S3[S.length]? with
    | none => rw [hs] at o3; exact o3.elim
    | some ob =>
      rw [hs] at o3
      cases ob with
      | ins c' fs =>
        dsimp only at o3
        split at o3
        · rename_i hc
          subst hc
          cases ha : allD fs with
          | none => rw [ha] at o3; exact o3.elim
          | some xs =>
            rw [ha] at o3
            obtain ⟨z1, dx', vs', z2, z3, z4, z5⟩ := (l3.ob _ x _ hm3 hs).ins
            obtain ⟨ws, rfl, z6⟩ := allD_reps z5 ha
            obtain ⟨ex, l4⟩ := l3.still hm3 z1 z2
            have l5 := l4.take S.length
            rw [List.take_set_of_le (Nat.le_refl _)] at l5
            have gg : Grow G m _ m3 := (gr.trans g3).trans ⟨ex, fun _ _ h => h⟩
            have gt := gg.take
            rw [l.len] at gt
            exact o3 _ _ H2 (.ref x) gt l5 (Rep.ins (K := kx cl X) upd_same (ex _ _ z3) z4 (z6.mono ex))
        · exact o3.elim
      | _ => exact o3.elim
  | _ => exact o3.elim
theorem nil_isA {sc : Scope} {N : List Str} (hs : isA nm N sc x [] = true) : x = .nil := by
  cases x <;> first | rfl | cases hs
theorem e_mk {j : Nat} {s : Str} {p : Pos} {sc : Scope} {N : List Str} (C : Ck nm cl P cal n X W) (hj : nm.mks[j]? = some s) (h1 : glB X.env.scope s = true) (ho : okN s = true) (hs : isA nm N sc x es = true) (ha : PA X es (TXs nm cl X W (evs P cal x))) :
    PE X (.Call (.Name s p) es [] pos) (TX nm cl X W (ev P cal (.mk j x))) := by
  cases hq : P.mks[j]? with
  | none => exact ⟨fun pins s σ H Q I ⟨F, G, m, r, S, rl, rv, out⟩ => by simp only [ev, hq] at out; exact out.elim⟩
  | some q =>
    obtain ⟨sp, g1, g2⟩ := C.go (f := q.2)
    obtain ⟨hf, mk⟩ := C.md.mkk j q hq
    cases es with
    | nil =>
      refine PE.imp (pe_mk0 (ES := WE W) mk (g1 hf) (C.room.mono (by omega)) (glB_d h1) (C.md.mn j q s hq hj) (fun σ => passAt C.tk σ) (okN_d ho).1) fun σ H Q ⟨F, G, m, r, S, rl, rv, out⟩ => ?_
      have e1 := nil_isA hs
      subst e1
      simp only [ev, hq, evs, R.bind] at out
      exact fun a dx z1 z2 z3 => (mk_read rl .nil out g2 a dx z1 z2 z3).2
    | cons e es =>
      obtain ⟨s1, s2⟩ := star_args (X := X) (pos := pos) hs
      refine PE.imp (pe_mk (ES := WE W) mk (g1 hf) (C.room.mono (by omega)) (glB_d h1) (C.md.mn j q s hq hj) (fun σ => passAt C.tk σ) ha (okN_d ho).1 s1 s2) fun σ H Q ⟨F, G, m, r, S, rl, rv, out⟩ => ?_
      simp only [ev, hq] at out
      refine tX.bind rl rv out fun u1 H1 G1 m1 v1 S1 g1 l1 rv1 r1 out => ?_
      exact fun a dx z1 z2 z3 => (mk_read l1 r1 out g2 a dx z1 z2 z3).2
theorem e_mkc {i j : Nat} {s : Str} {p : Pos} {sc : Scope} {N : List Str} (C : Ck nm cl P cal n X W) (hN : X.N[i]? = some s) (hv : visB X.env.scope s = true) (ho : okN s = true) (hs : isA nm N sc x (e :: es) = true) (ha : PA X (e :: es) (TXs nm cl X W (evs P cal x))) :
    PE X (.Call (.Name s p) (e :: es) [] pos) (TX nm cl X W (ev P cal (.mkc i j x))) := by
  cases hq : P.mks[j]? with
  | none => exact ⟨fun pins s σ H Q I ⟨F, G, m, r, S, rl, rv, out⟩ => by
      simp only [ev, hq] at out
      split at out
      · rename_i h; cases h
      · exact out.elim⟩
  | some q =>
    obtain ⟨sp, g1, g2⟩ := C.go (f := q.2)
    obtain ⟨hf, mk⟩ := C.md.mkk j q hq
    obtain ⟨s1, s2⟩ := star_args (X := X) (pos := pos) hs
    refine PE.imp (pe_mkV (ES := WE W) mk (g1 hf) (C.room.mono (by omega)) hN (visB_d hv) (fun σ => passAt C.tk σ) ha (okN_d ho).1 (okN_d ho).2.1 s1 s2) fun σ H Q ⟨F, G, m, r, S, rl, rv, out⟩ => ?_
    simp only [ev, hq] at out
    split at out
    · rename_i c q' hr hq'
      cases hq'
      split at out
      · rename_i hc
        obtain ⟨u, z1, z2⟩ := rv.2 i _ hr (fun _ _ z => by cases z)
        subst hc
        cases z2
        refine ⟨z1, tX.bind rl rv out fun u1 H1 G1 m1 v1 S1 g1 l1 rv1 r1 out => ?_⟩
        exact fun a dx z1 z2 z3 => (mk_read l1 r1 out g2 a dx z1 z2 z3).2
      · exact out.elim
    · exact out.elim
/-! ### methods -/
theorem form_args {sc : Scope} {N : List Str} (hs : isA nm N sc x (e :: es) = true) (hz : es.length < 20) : methodCallForm ((e :: es).length + ([] : List Keyword).length) (backTo pos (starEach (e :: es) X.env)) (backToKw pos (keywordEach [] X.env)) = true := by
  have this : decide ((e :: es).length + ([] : List Keyword).length + 0 < 30) = true := decide_eq_true (by simp; omega)
  show ((backTo pos (starEach (e :: es) X.env)).all (fun x => !x.1) && true && decide ((e :: es).length + ([] : List Keyword).length + 0 < 30)) = true
  rw [(any_star hs).2, this]; rfl
theorem e_mth {j : Nat} {s : Str} {ap : Pos} {sc : Scope} {N : List Str} (C : Ck nm cl P cal n X W) (hj : nm.mts[j]? = some s) (h0 : noC0 l = true) (hl : (ap.endLine == pos.line) = true) (hz : es.length < 20) (hs : isA nm N sc y es = true)
    (ha : PE X l (TX nm cl X W (ev P cal x))) (hb : PA X es (TXs nm cl X W (evs P cal y))) : PE X (.Call (.Attribute l s ap) es [] pos) (TX nm cl X W (ev P cal (.mth j x y))) := by
  cases hq : P.mts[j]? with
  | none => exact ⟨fun pins s σ H Q I ⟨F, G, m, r, S, rl, rv, out⟩ => by simp only [ev, hq] at out; exact out.elim⟩
  | some q =>
    obtain ⟨sp, g1, g2⟩ := C.go (f := q.2)
    obtain ⟨hf, k1, k2⟩ := C.md.mt j q s hq hj
    cases es with
    | nil =>
      refine PE.imp (pe_mth0 (ES := WE W) ha k1 k2 (g1 hf) (C.room.mono (by omega)) (fun σ => passAt C.tk σ) (base_e h0) hl) fun σ H Q ⟨F, G, m, r, S, rl, rv, out⟩ => ?_
      have e1 := nil_isA hs
      subst e1
      simp only [ev, hq] at out
      refine tX.bind rl rv out fun u1 H1 G1 m1 v1 S1 g1 l1 rv1 r1 out => ?_
      split at out
      · rename_i hi
        obtain ⟨a, dx, vs, rfl, sl⟩ := insOf_slt l1 r1 hi
        simp only [evs, R.bind] at out
        exact ⟨a, dx, vs, rfl, sl, (g2 σ F G1 m1 _ _ S1 H1 Q l1 (.cons r1 .nil) out).2⟩
      · exact out.elim
    | cons e es =>
      obtain ⟨s1, s2⟩ := star_args (X := X) (pos := pos) hs
      refine PE.imp (pe_mth (ES := WE W) ha k1 k2 (g1 hf) (C.room.mono (by omega)) (fun σ => passAt C.tk σ) hb s1 s2 (base_e h0) (form_args hs (by simp at hz; omega)) hl) fun σ H Q ⟨F, G, m, r, S, rl, rv, out⟩ => ?_
      simp only [ev, hq] at out
      refine tX.bind rl rv out fun u1 H1 G1 m1 v1 S1 g1 l1 rv1 r1 out => ?_
      split at out
      · rename_i hi
        obtain ⟨a, dx, vs, rfl, sl⟩ := insOf_slt l1 r1 hi
        refine ⟨a, dx, vs, rfl, sl, tX.bind l1 rv1 out fun u2 H2 G2 m2 v2 S2 gg2 l2 rv2 r2 out => ?_⟩
        exact (g2 σ F G2 m2 _ _ S2 H2 Q l2 (.cons (r1.mono gg2) r2) out).2
      · exact out.elim
theorem e_prp {j : Nat} {s : Str} (C : Ck nm cl P cal n X W) (hj : nm.prs[j]? = some s) (h0 : noC0 e = true) (ha : PE X e (TX nm cl X W (ev P cal x))) : PE X (.Attribute e s pos) (TX nm cl X W (ev P cal (.prp j x))) := by
  cases hq : P.prs[j]? with
  | none => exact ⟨fun pins s σ H Q I ⟨F, G, m, r, S, rl, rv, out⟩ => by simp only [ev, hq] at out; exact out.elim⟩
  | some q =>
    obtain ⟨hf, k1, p, k2⟩ := C.md.pr j q s hq hj
    have F := C.md.fn q.2 hf
    refine PE.imp (SlX.pe_propSl (E := fun _ _ _ => False) ha k1 k2.at_ k2.get k2.tk k2.rc F (C.room.mono (by omega)) (fun H s e s' c => by obtain ⟨_, _, _, _, _, _, _, _, _, _, _, _, h⟩ := c; exact h) (base_e h0)) fun σ H Q ⟨F, G, m, r, S, rl, rv, out⟩ => ?_
    simp only [ev, hq] at out
    refine tX.bind rl rv out fun u1 H1 G1 m1 v1 S1 g1 l1 rv1 r1 out => ?_
    split at out
    · rename_i hi
      obtain ⟨a, dx, vs, rfl, sl⟩ := insOf_slt l1 r1 hi
      refine ⟨a, dx, vs, rfl, sl, F, G1, m1, [v1], S1, l1, .cons r1 .nil, ?_⟩
      cases hc : cal q.2 [v1] S1 with
      | ok v S2 => rw [hc] at out; exact out
      | exc _ _ _ => rw [hc] at out; exact out.elim
      | bad => rw [hc] at out; exact out.elim
    · exact out.elim
theorem e_cme {j : Nat} {c s : Str} {ap p : Pos} {sc : Scope} {N : List Str} (C : Ck nm cl P cal n X W) (hj : nm.cms[j]? = some (c, s)) (h1 : glB X.env.scope c = true) (ho : okN c = true) (hl : (ap.endLine == pos.line) = true) (hz : es.length < 20) (hs : isA nm N sc y es = true)
    (hb : PA X es (TXs nm cl X W (evs P cal y))) : PE X (.Call (.Attribute (.Name c p) s ap) es [] pos) (TX nm cl X W (ev P cal (.cme j y))) := by
  cases hq : P.cms[j]? with
  | none => exact ⟨fun pins s σ H Q I ⟨F, G, m, r, S, rl, rv, out⟩ => by simp only [ev, hq] at out; exact out.elim⟩
  | some q =>
    obtain ⟨sp, g1, g2⟩ := C.go (f := q.2)
    obtain ⟨hf, k0, mc, q', k1, k2⟩ := C.md.cm j q c s hq hj
    have hn : PE X (.Name c p) (tC (.ref (cl q.1))) := pe_glob (glB_d h1) k0 rfl (okN_d ho).1
    cases es with
    | nil =>
      refine PE.imp (pe_cm0 (ES := WE W) hn k1 k2 (g1 hf) (C.room.mono (by omega)) (fun σ => passAt C.tk σ) rfl hl) fun σ H Q ⟨F, G, m, r, S, rl, rv, out⟩ => ?_
      have e1 := nil_isA hs
      subst e1
      simp only [ev, hq, evs, R.bind] at out
      exact ⟨rfl, (g2 σ F G m _ _ S H Q rl (.cons (show RepV (kx cl X) G m (.d (.cls q.1)) (.ref (cl q.1)) from Rep.cls (K := kx cl X) q.1) .nil) out).2⟩
    | cons e es =>
      obtain ⟨s1, s2⟩ := star_args (X := X) (pos := pos) hs
      refine PE.imp (pe_cm (ES := WE W) hn k1 k2 (g1 hf) (C.room.mono (by omega)) (fun σ => passAt C.tk σ) hb s1 s2 rfl (form_args hs (by simp at hz; omega)) hl) fun σ H Q ⟨F, G, m, r, S, rl, rv, out⟩ => ?_
      simp only [ev, hq] at out
      refine ⟨rfl, tX.bind rl rv out fun u1 H1 G1 m1 v1 S1 gg1 l1 rv1 r1 out => ?_⟩
      exact (g2 σ F G1 m1 _ _ S1 H1 Q l1 (.cons (show RepV (kx cl X) G1 m1 (.d (.cls q.1)) (.ref (cl q.1)) from Rep.cls (K := kx cl X) q.1) r1) out).2
/-! ### isinstance, len, bool -/
theorem e_isc {j : Nat} {s : Str} {p p2 : Pos} {sc : Scope} {N : List Str} (C : Ck nm cl P cal n X W) (hj : nm.cls[j]? = some s) (h1 : glB X.env.scope ("isinstance" : Str) = true) (h2 : glB X.env.scope s = true) (ho : okN s = true) (hs : isE nm N sc x e = true)
    (ha : PE X e (TX nm cl X W (ev P cal x))) : PE X (.Call (.Name ("isinstance" : Str) p) [e, .Name s p2] [] pos) (TX nm cl X W (ev P cal (.isc j x))) := by
  obtain ⟨k0, k1⟩ := C.md.is j s hj
  have hn : PE X (.Name s p2) (tC (.ref (cl j))) := pe_glob (glB_d h2) k0 rfl (okN_d ho).1
  have both : CallR X (.builtin "isinstance") (fun xs H Q => SlX.rIsiSl X.K (.ref (cl j)) xs H Q ∨ rIsi X.K xs H Q) := fun pins s σ H xs us Q I r h => h.elim (SlX.call_isiSl (.ref (cl j)) pins s σ H xs us Q I r) (call_isi pins s σ H xs us Q I r)
  refine PE.imp (pe_callB both (glB_d h1) (C.md.bo _ (by decide)) (by decide +kernel) (pa_cons ha (pa_cons hn pa_nil) (star_e hs)) (by decide +kernel) (by decide +kernel) (star_e hs) rfl) fun σ H Q ⟨F, G, m, r, S, rl, rv, out⟩ => ?_
  simp only [ev] at out
  refine tX.bind rl rv out fun u1 H1 G1 m1 v1 S1 g1 l1 rv1 r1 out => ?_
  cases v1 with
  | loc _ => exact out.elim
  | xc _ _ => exact out.elim
  | d d =>
  by_cases hb : bareD d = true
  · refine .inr ⟨u1, _, _, _, false, rfl, .own (cl j), tyX_D (Rep.mono l1.ext r1) hb, k1 _ ?_, ?_⟩
    · cases d <;> first | (cases hb; done) | simp [tyD]
    · cases d <;> first | (cases hb; done) | exact (Out.gives out l1).here (.bl false)
  · cases d with
    | ins c fs =>
      dsimp only at out
      cases hi : P.isc c j with
      | none => rw [hi] at out; exact out.elim
      | some b =>
        rw [hi] at out
        obtain ⟨a, dx, vs, rfl, sl⟩ := rep_slt l1.ext r1
        have k := C.md.isc j s c b hj hi
        exact .inl ⟨a, cl c, dx, vs, .ref (cl j), b, rfl, rfl, fun _ h => h, sl, k.s, k.i, k.k, (Out.gives out l1).here (.bl b)⟩
    | _ => first | exact absurd rfl hb | (dsimp only at out; rw [if_neg hb] at out; exact out.elim)
theorem e_olen {p : Pos} {sc : Scope} {N : List Str} (C : Ck nm cl P cal n X W) (h1 : glB X.env.scope ("len" : Str) = true) (hs : isE nm N sc x e = true) (ha : PE X e (TX nm cl X W (ev P cal x))) :
    PE X (.Call (.Name ("len" : Str) p) [e] [] pos) (TX nm cl X W (ev P cal (.olen x))) := by
  refine PE.imp (pe_callBS (id := "len") (rd := fun σ v H Q => ∃ (c f : Nat) (F G : Hp) (m : List Addr) (fs : List D) (S : Hs), P.lnf c = some f ∧ Rl (kx cl X) F G m S H ∧ Rep (kx cl X) G (.ins c fs) v ∧
      OutV nm.excs X.mg (kx cl X) W F σ G m (fun z H' => ∃ i : Int, z = .int i ∧ (0 ≤ i ∧ i < 2 ^ 63) ∧ Q (.int i) H') (cal f [.d (.ins c fs)] S)) (fun pins s σ H v u Q I rv h => ?_) (glB_d h1) (C.md.bt .len) (by decide +kernel) ha (by decide +kernel) (by decide +kernel) (star_e hs)) fun σ H Q ⟨F, G, m, r, S, rl, rv, out⟩ => ?_
  · obtain ⟨c, f, F, G, m, fs, S, hp, l, r1, out⟩ := h
    obtain ⟨sp, g1, g2⟩ := C.go (f := f)
    obtain ⟨k1, k2⟩ := C.md.ln c f hp
    obtain ⟨hf, hs⟩ := g2 σ F G m [.d (.ins c fs)] [v] S H _ l (.cons r1 .nil) out
    obtain ⟨a, dx, vs, rfl, sl⟩ := rep_slt l.ext r1
    obtain rfl : u = Value.ref a := rv
    exact len_ins k1 k2 (g1 hf) (C.room.mono (by omega)) (passAt C.tk σ) I sl hs
  · simp only [ev] at out
    refine tX.bind rl rv out fun u1 H1 G1 m1 v1 S1 g1 l1 rv1 r1 out => ?_
    cases v1 with
    | loc _ => exact out.elim
    | xc _ _ => exact out.elim
    | d d =>
    cases d with
    | ins c fs =>
      dsimp only at out
      cases hp : P.lnf c with
      | none => rw [hp] at out; exact out.elim
      | some f =>
        rw [hp] at out
        refine ⟨c, f, F, G1, m1, fs, S1, hp, l1, r1, (Out.bind (RR := RepV (kx cl X)) out).imp fun u' H' ⟨G3, m3, v3, S3, g3, l3, r3, o3⟩ => ?_⟩
        cases v3 with
        | loc _ => exact o3.elim
        | xc _ _ => exact o3.elim
        | d w =>
        cases w with
        | int i =>
          dsimp only at o3
          split at o3
          · rename_i hz
            cases r3
            exact ⟨i, rfl, hz, (Out.gives o3 l3).here (.int i)⟩
          · exact o3.elim
        | _ => exact o3.elim
    | _ => exact out.elim
theorem e_obool {p : Pos} {sc : Scope} {N : List Str} (C : Ck nm cl P cal n X W) (h1 : glB X.env.scope ("bool" : Str) = true) (hs : isE nm N sc x e = true) (ha : PE X e (TX nm cl X W (ev P cal x))) :
    PE X (.Call (.Name ("bool" : Str) p) [e] [] pos) (TX nm cl X W (ev P cal (.obool x))) := by
  refine PE.imp (pe_callTS (T := "bool") (rd := fun σ v H Q => ∃ (c f : Nat) (F G : Hp) (m : List Addr) (fs : List D) (S : Hs), P.bof c = some f ∧ Rl (kx cl X) F G m S H ∧ Rep (kx cl X) G (.ins c fs) v ∧
      OutV nm.excs X.mg (kx cl X) W F σ G m (fun z H' => ∃ b, z = .bl b ∧ Q (.bl b) H') (cal f [.d (.ins c fs)] S)) (fun pins s σ H v u Q I rv h => ?_) (glB_d h1) (C.md.bt .bool) (by decide +kernel) ha (by decide +kernel) (by decide +kernel) (star_e hs)) fun σ H Q ⟨F, G, m, r, S, rl, rv, out⟩ => ?_
  · obtain ⟨c, f, F, G, m, fs, S, hp, l, r1, out⟩ := h
    obtain ⟨sp, g1, g2⟩ := C.go (f := f)
    obtain ⟨k1, k2⟩ := C.md.bl c f hp
    obtain ⟨hf, hs⟩ := g2 σ F G m [.d (.ins c fs)] [v] S H _ l (.cons r1 .nil) out
    obtain ⟨a, dx, vs, rfl, sl⟩ := rep_slt l.ext r1
    obtain rfl : u = Value.ref a := rv
    exact bool_ins k1 k2 (g1 hf) C.room (passAt C.tk σ) I sl hs
  · simp only [ev] at out
    refine tX.bind rl rv out fun u1 H1 G1 m1 v1 S1 g1 l1 rv1 r1 out => ?_
    cases v1 with
    | loc _ => exact out.elim
    | xc _ _ => exact out.elim
    | d d =>
    cases d with
    | ins c fs =>
      dsimp only at out
      cases hp : P.bof c with
      | none => rw [hp] at out; exact out.elim
      | some f =>
        rw [hp] at out
        refine ⟨c, f, F, G1, m1, fs, S1, hp, l1, r1, (Out.bind (RR := RepV (kx cl X)) out).imp fun u' H' ⟨G3, m3, v3, S3, g3, l3, r3, o3⟩ => ?_⟩
        cases v3 with
        | loc _ => exact o3.elim
        | xc _ _ => exact o3.elim
        | d w =>
        cases w with
        | bl b => cases r3; exact ⟨b, rfl, (Out.gives o3 l3).here (.bl b)⟩
        | _ => exact o3.elim
    | _ => exact out.elim
end
end Iv
end
section
set_option autoImplicit false
set_option maxRecDepth 100000
set_option maxHeartbeats 4000000
namespace Iv
open PySem L2
/-! IvF: str of an own instance, list(x) as a new list, xs.pop(i), list(d.items()), len(d), x is None. -/
section
variable {X : Cx} {CX : CXT} {pins : List (Addr × Obj)} {σ : L2.St} {H : Hp} {s : Shared} {n : Nat} {g C a dx : Addr} {vs : List (Option V)} {sp : Sp} {E : XK}
theorem str_ins {Q : VK} (hs : PySem.W.findIn X.K (.ref C) "__str__" = some (some (.ref g))) (hf : PySem.W.isFn X.K (.ref g) = true) (F : FnR X.prog X.w X.K X.mg X.base CX n g sp) (hr : Room (n + 2) X.A) (hx : PassesAt CX X σ E) (I : Inv X pins σ H s) (ha : SlX.Slt H a C dx vs)
    (h : sp [.ref a] H (fun z H' => ∃ t, z = .str t ∧ Q (.str t) H') E) : wpAny (model X.prog X.w) X.A (call (.type "str") [.ref a]) (EP X pins σ Q) X.xe s := by
  obtain ⟨sl, od, _, J, _⟩ := SlX.slt_inst I ha
  refine PySem.W.kso_call (Nat.lt_of_le_of_lt (Nat.le_add_right _ _) hr.in1.in1.units) I.kIn J hs hf ?_
  refine thn (runW (us := [.ref a]) (ws := [.ref a]) F hr.in1.in1 I.env0.in1.in1 hx I (.cons rfl .nil) h) fun w s' ⟨z, H', I', rz, t, et, qz⟩ => ?_
  subst et
  obtain ⟨tk, rfl⟩ : ∃ tk, w = Value.str t tk := rz
  exact ⟨.str t, H', I', ⟨tk, rfl⟩, qz⟩
end
theorem Reps.erase {K : Fg} {G : Hp} : ∀ {xs : List D} {vs : List V} (i : Nat), Reps K G xs vs → Reps K G (xs.eraseIdx i) (vs.eraseIdx i)
  | _, _, _, .nil => by simp only [List.eraseIdx_nil]; exact .nil
  | _, _, 0, .cons r rs => rs
  | _, _, i + 1, .cons r rs => .cons r (rs.erase i)
theorem seqIdx_plc (n : Nat) (i : Int) : seqIndex? i n = plc i n := by
  unfold seqIndex? plc
  by_cases h : 0 ≤ i
  · rw [if_pos h]
    have h1 : ¬ i < 0 := by omega
    simp only [if_neg h1]
    by_cases h2 : i < (n : Int)
    · rw [if_pos h2, if_pos (by simp [h, h2])]
    · rw [if_neg h2, if_neg (by simp [h2])]
  · rw [if_neg h]
    have h1 : i < 0 := by omega
    simp only [if_pos h1]
    have h3 : i + (n : Int) < n := by omega
    by_cases h2 : 0 ≤ i + (n : Int)
    · rw [if_pos h2, if_pos (by simp [h2, h3])]
    · rw [if_neg h2, if_neg (by simp [h2])]
theorem rep_none {K : Fg} {G : Hp} {d : D} {u : V} (r : Rep K G d u) : decide (u = .non) = (match d with
    | .non => true
    | _ => false) := by
  cases r <;> rfl
/-- the two heaps with more objects -/
theorem Rl.more {K : Fg} {F G G' H H' : Hp} {m : List Addr} {S : Hs} (h : Rl K F G m S H) (e1 : Ext G' H') (e2 : Ext G G') (e3 : Ext H H') (e4 : ∀ a o, G a = none → H a = some o → G' a = none) (e5 : ∀ a o, G' a = some o → Nt o) : Rl K F G' m S H' := by
  refine ⟨e1, fun b o q => e3 _ _ (h.fr b o q), fun b o q => ⟨e4 _ _ (h.fd b o q).1 (h.fr b o q), (h.fd b o q).2⟩, fun b hb => let ⟨o, q⟩ := h.mh b hb; ⟨o, e3 _ _ q⟩, h.len, h.nd, fun n b o hn ho => ?_, h.tb.ext e3 h.tb.f e5 fun b hb u e => by
    obtain ⟨w, hw⟩ := h.mh b hb
    rw [e3 _ _ hw] at e
    exact h.tb.m b hb u (hw.trans e)⟩
  rcases h.ob n b o hn ho with q | ⟨h1, vs, h2, h3⟩
  · exact .inl q
  · exact .inr ⟨e4 _ _ h1 h2, vs, e3 _ _ h2, h3.mono e2⟩
theorem reps_items {K : Fg} {G : Hp} : ∀ {xs : List (Ky × D)} {kvs : List (Key × V)} {ts : List Addr}, RepKs K G xs kvs → Paired (fun t (q : Key × V) => G t = some (.tup [kV q.1, q.2])) ts kvs → Reps K G (xs.map fun p => .tup [kyD p.1, p.2]) (ts.map .ref)
  | _, _, _, .nil, .nil => .nil
  | _, _, _, .cons (k := k) hk r rs, .cons h hs => by
    refine .cons (.tup (.of h) (.cons ?_ (.cons r .nil))) (reps_items rs hs)
    cases k with
    | i n => exact .int n
    | s x => exact .str x hk
section
variable {nm : Nm} {cl : Cl} {P : Prg} {cal : Cal} {n : Nat} {X : Cx} {W : WX} {e l r : Expr} {es : List Expr} {pos : Pos} {x y z : Ex}
theorem e_ostr {p : Pos} {sc : Scope} {N : List Str} (C : Ck nm cl P cal n X W) (h1 : glB X.env.scope ("str" : Str) = true) (hs : isE nm N sc x e = true) (ha : PE X e (TX nm cl X W (ev P cal x))) :
    PE X (.Call (.Name ("str" : Str) p) [e] [] pos) (TX nm cl X W (ev P cal (.ostr x))) := by
  refine PE.imp (pe_callTS (T := "str") (rd := fun σ v H Q => ∃ (c f : Nat) (F G : Hp) (m : List Addr) (fs : List D) (S : Hs), P.stf c = some f ∧ Rl (kx cl X) F G m S H ∧ Rep (kx cl X) G (.ins c fs) v ∧
      OutV nm.excs X.mg (kx cl X) W F σ G m (fun z H' => ∃ t, z = .str t ∧ Q (.str t) H') (cal f [.d (.ins c fs)] S)) (fun pins s σ H v u Q I rv h => ?_) (glB_d h1) (C.md.bt .str) (by decide +kernel) ha (by decide +kernel) (by decide +kernel) (star_e hs)) fun σ H Q ⟨F, G, m, r, S, rl, rv, out⟩ => ?_
  · obtain ⟨c, f, F, G, m, fs, S, hp, l, r1, out⟩ := h
    obtain ⟨sp, g1, g2⟩ := C.go (f := f)
    obtain ⟨k1, k2⟩ := C.md.sr c f hp
    obtain ⟨hf, hs⟩ := g2 σ F G m [.d (.ins c fs)] [v] S H _ l (.cons r1 .nil) out
    obtain ⟨a, dx, vs, rfl, sl⟩ := rep_slt l.ext r1
    obtain rfl : u = Value.ref a := rv
    exact str_ins k1 k2 (g1 hf) C.room (passAt C.tk σ) I sl hs
  · simp only [ev] at out
    refine tX.bind rl rv out fun u1 H1 G1 m1 v1 S1 g1 l1 rv1 r1 out => ?_
    cases v1 with
    | loc _ => exact out.elim
    | xc _ _ => exact out.elim
    | d d =>
    cases d with
    | ins c fs =>
      dsimp only at out
      cases hp : P.stf c with
      | none => rw [hp] at out; exact out.elim
      | some f =>
        rw [hp] at out
        refine ⟨c, f, F, G1, m1, fs, S1, hp, l1, r1, (Out.bind (RR := RepV (kx cl X)) out).imp fun u' H' ⟨G3, m3, v3, S3, g3, l3, r3, o3⟩ => ?_⟩
        cases v3 with
        | loc _ => exact o3.elim
        | xc _ _ => exact o3.elim
        | d w =>
        cases w with
        | str t => cases r3 with
          | str _ ok => exact ⟨S' t, rfl, (Out.gives o3 l3).here (.str t ok)⟩
        | _ => exact o3.elim
    | _ => exact out.elim
theorem e_newo {p : Pos} {sc : Scope} {N : List Str} (C : Ck nm cl P cal n X W) (h1 : glB X.env.scope ("list" : Str) = true) (hs : isE nm N sc x e = true) (ha : PE X e (TX nm cl X W (ev P cal x))) :
    PE X (.Call (.Name ("list" : Str) p) [e] [] pos) (TX nm cl X W (ev P cal (.newo x))) := by
  refine PE.imp (pe_callTS (T := "list") (rd := fun σ v H Q => ∃ q ys, v = .ref q ∧ (SqL X.K H q ys ∨ SqT X.K H q ys) ∧ ∀ l, H l = none → Q (.ref l) (upd H l (.lst ys))) (fun pins s σ H v u Q I rv h => call_list_of pins s σ H [v] [u] Q I (.cons rv .nil) (by
    obtain ⟨q, ys, rfl, h2, h3⟩ := h
    exact ⟨q, ys, rfl, h2, h3⟩)) (glB_d h1) (C.md.bt .list) (by decide +kernel) ha (by decide +kernel) (by decide +kernel) (star_e hs)) fun σ H Q ⟨F, G, m, r, S, rl, rv, out⟩ => ?_
  simp only [ev] at out
  refine tX.bind rl rv out fun u1 H1 G1 m1 v1 S1 g1 l1 rv1 r1 out => ?_
  have fin : ∀ (xs : List D) (q : Addr) (ys : List V), (SqL X.K H1 q ys ∨ SqT X.K H1 q ys) → Reps (kx cl X) G1 xs ys → OutV nm.excs X.mg (kx cl X) W F σ G1 m1 Q (.ok (.loc S1.length) (S1 ++ [.lst xs])) → ∃ q' ys, V.ref q = .ref q' ∧ (SqL X.K H1 q' ys ∨ SqT X.K H1 q' ys) ∧ ∀ l, H1 l = none → Q (.ref l) (upd H1 l (.lst ys)) := fun xs q ys h1 h2 out => by
    refine ⟨q, ys, rfl, h1, fun p hp => ?_⟩
    refine out G1 (m1 ++ [p]) _ _ ⟨fun _ _ h => h, fun n a h => ?_⟩ (l1.newl hp h2) ⟨p, ?_, rfl⟩
    · rw [List.getElem?_append_left (List.getElem?_eq_some_iff.mp h).1]; exact h
    · rw [← l1.len]; simp
  cases v1 with
  | loc _ => exact out.elim
  | xc _ _ => exact out.elim
  | d d =>
    cases d with
    | lst xs => cases r1 with
      | lst q1 q2 => exact fin xs _ _ (.inl (.of (l1.ext _ _ q1))) q2 out
    | tup xs => cases r1 with
      | tup q1 q2 => exact fin xs _ _ (.inr (q1.ext l1.ext)) q2 out
    | ptp xs => cases r1 with
      | ptp q1 q2 => exact fin xs _ _ (.inr (q1.weak.ext l1.ext)) q2 out
    | _ => exact out.elim
theorem e_pop {i : Nat} {s : Str} {p ap p2 : Pos} {sc : Scope} {N : List Str} (hN : X.N[i]? = some s) (hv : visB X.env.scope s = true) (ho : okN s = true) (hl : (ap.endLine == p2.line) = true) (hs : isE nm N sc x e = true)
    (ha : PE X e (TX nm cl X W (ev P cal x))) : PE X (.Call (.Attribute (.Name s p) ("pop" : Str) ap) [e] [] p2) (TX nm cl X W (ev P cal (.pop i x))) := by
  have s3 : (((backTo p2 (starEach [e] X.env)).all fun x => !x.1) && ((backToKw p2 (keywordEach [] X.env)).all fun x => x.1.isSome) && decide ([e].length + ([] : List Keyword).length + (if ([] : List Keyword).isEmpty then 0 else 1) < 30)) = true := by
    rw [star_e hs]; rfl
  have key := pe_bm (X := X) (cpos := p2) (apos := ap) PySem.F.plainAttrs_list PySem.F.slot_list_pop PySem.F.type_list_pop mt_popAt (pe_var (pos := p) hN (visB_d hv) (okN_d ho).1 (okN_d ho).2.1) (pa_cons ha pa_nil (star_e hs)) rfl s3 hl (star_e hs) rfl
  refine PE.imp key fun σ H Q ⟨F, G, m, r, S, rl, rv, out⟩ => ?_
  simp only [ev] at out
  split at out
  · rename_i k hr
    obtain ⟨u, q1, a, q2, rfl⟩ := rv.2 i _ hr (fun _ _ z => by cases z)
    split at out
    · rename_i ys hk
      obtain ⟨_, ws, q3, _⟩ := (rl.ob k a _ q2 hk).lst
      refine ⟨_, q1, .inl ⟨rfl, _, .of q3⟩, tX.bind rl rv out fun u1 H1 G1 m1 v1 S1 g l1 rv1 r1 out => ?_⟩
      split at out
      · rename_i j zs hk1
        split at out
        · rename_i hj
          cases r1
          obtain ⟨q4, ws1, q5, q6⟩ := (l1.ob k a _ (g.2 _ _ q2) hk1).lst
          cases hp : plc j zs.length with
          | none => rw [hp] at out; exact out.elim
          | some t =>
            rw [hp] at out
            dsimp only at out
            cases hy : zs[t]? with
            | none => rw [hy] at out; exact out.elim
            | some y =>
              rw [hy] at out
              obtain ⟨w, w1, w2⟩ := q6.get hy
              exact ⟨a, ws1, j, t, w, rfl, rfl, q5, hj.1, hj.2, by rw [seqIdx_plc, ← q6.length]; exact hp, w1, out G1 m1 _ w .refl (l1.change (g.2 _ _ q2) hk1 (q6.erase t)) w2⟩
        · exact out.elim
      · exact out.elim
    · exact out.elim
  · exact out.elim
theorem e_dits {p ap p2 : Pos} (C : Ck nm cl P cal n X W) (h1 : glB X.env.scope ("list" : Str) = true) (h0 : noC0 e = true) (hl : (ap.endLine == p2.line) = true) (ha : PE X e (TX nm cl X W (ev P cal x))) :
    PE X (.Call (.Name ("list" : Str) p) [.Call (.Attribute e ("items" : Str) ap) [] [] p2] [] pos) (TX nm cl X W (ev P cal (.dits x))) := by
  refine PE.imp (LiI.pe_listItems C.calm ha (glB_d h1) (C.md.bt .list) (by decide +kernel) (base_e h0) hl rfl) fun σ H Q ⟨F, G, m, r, S, rl, rv, out⟩ => ?_
  simp only [ev] at out
  refine tX.bind rl rv out fun u1 H1 G1 m1 v1 S1 g1 l1 rv1 r1 out => ?_
  cases v1 with
  | d _ => exact out.elim
  | xc _ _ => exact out.elim
  | loc k =>
    obtain ⟨a, ha, rfl⟩ := r1
    dsimp only at out
    cases es : S1[k]? with
    | none => rw [es] at out; exact out.elim
    | some ob =>
      rw [es] at out
      cases ob with
      | dct kvs =>
        dsimp only at out
        obtain ⟨ga, ks, q2, q3⟩ := (l1.ob k a _ ha es).dct
        refine ⟨a, ks, rfl, q2, fun H' p ts w1 w2 w3 w4 w5 w6 => ?_⟩
        classical
        let G' : Hp := fun b => if b = p ∨ b ∈ ts then H' b else G1 b
        have ne : ∀ b o, G1 b = some o → ¬ (b = p ∨ b ∈ ts) := fun b o h1 h2 => by
          have hh := l1.ext b o h1
          rcases h2 with rfl | h2
          · rw [w2] at hh; cases hh
          · rw [w3 b h2] at hh; cases hh
        have eG : Ext G1 G' := fun b o h => by
          show (if b = p ∨ b ∈ ts then H' b else G1 b) = _
          rw [if_neg (ne b o h)]; exact h
        have eX : Ext G' H' := fun b o h => by
          have h : (if b = p ∨ b ∈ ts then H' b else G1 b) = some o := h
          by_cases hb : b = p ∨ b ∈ ts
          · rw [if_pos hb] at h; exact h
          · rw [if_neg hb] at h; exact w1 b o (l1.ext b o h)
        have l2 := l1.more (G' := G') (H' := H') eX eG (fun b o h => w1 b o h) (fun b o h1 h2 => by
          show (if b = p ∨ b ∈ ts then H' b else G1 b) = _
          rw [if_neg (fun hb => by
            rcases hb with rfl | hb
            · rw [w2] at h2; cases h2
            · rw [w3 b hb] at h2; cases h2)]
          exact h1)
          fun b o h => by
          have h2 : (if b = p ∨ b ∈ ts then H' b else G1 b) = some o := h
          by_cases hb : b = p ∨ b ∈ ts
          · rw [if_pos hb] at h2
            clear h
            rcases hb with rfl | hb
            · rw [w5] at h2; cases h2; intro ps z; cases z
            · have : ∀ {as : List Addr} {ks : List (Key × V)}, Paired (fun t (q : Key × V) => H' t = some (.tup [kV q.1, q.2])) as ks → ∀ t ∈ as, ∀ o, H' t = some o → Nt o := by
                intro as ks hp
                induction hp with
                | nil => intro t ht; cases ht
                | cons h _ ih =>
                  intro t ht o e
                  rcases List.mem_cons.mp ht with rfl | ht
                  · rw [h] at e; cases e; intro ps z; cases z
                  · exact ih t ht o e
              exact this w6 b hb o h2
          · rw [if_neg hb] at h2; exact l1.tb.g b o h2
        have gp : G' p = some (.lst (ts.map .ref)) := by
          show (if p = p ∨ p ∈ ts then H' p else G1 p) = _
          rw [if_pos (.inl rfl)]; exact w5
        have gt : Paired (fun t (q : Key × V) => G' t = some (.tup [kV q.1, q.2])) ts ks := by
          have : ∀ {as : List Addr} {ks : List (Key × V)}, (∀ t ∈ as, t ∈ ts) → Paired (fun t (q : Key × V) => H' t = some (.tup [kV q.1, q.2])) as ks → Paired (fun t (q : Key × V) => G' t = some (.tup [kV q.1, q.2])) as ks := by
            intro as ks hm hp
            induction hp with
            | nil => exact .nil
            | cons h _ ih =>
              refine .cons ?_ (ih fun t ht => hm t (List.mem_cons_of_mem _ ht))
              show (if _ = p ∨ _ ∈ ts then H' _ else G1 _) = _
              rw [if_pos (.inr (hm _ (List.mem_cons_self ..)))]; exact h
          exact this (fun _ h => h) w6
        exact out G' m1 H' _ ⟨eG, fun _ _ h => h⟩ l2 (.lst gp (reps_items (q3.mono eG) gt))
      | _ => exact out.elim
theorem e_dln {p : Pos} {sc : Scope} {N : List Str} (C : Ck nm cl P cal n X W) (h1 : glB X.env.scope ("len" : Str) = true) (hs : isE nm N sc x e = true) (ha : PE X e (TX nm cl X W (ev P cal x))) :
    PE X (.Call (.Name ("len" : Str) p) [e] [] pos) (TX nm cl X W (ev P cal (.dln x))) := by
  refine PE.imp (pe_callB call_lenD (glB_d h1) (C.md.bt .len) (by decide +kernel) (pa_cons ha pa_nil (star_e hs)) (by decide +kernel) (by decide +kernel) (star_e hs) rfl) fun σ H Q ⟨F, G, m, r, S, rl, rv, out⟩ => ?_
  simp only [ev] at out
  refine tX.bind rl rv out fun u1 H1 G1 m1 v1 S1 g1 l1 rv1 r1 out => ?_
  cases v1 with
  | d _ => exact out.elim
  | xc _ _ => exact out.elim
  | loc k =>
    obtain ⟨a, ha, rfl⟩ := r1
    dsimp only at out
    cases es : S1[k]? with
    | none => rw [es] at out; exact out.elim
    | some ob =>
      rw [es] at out
      cases ob with
      | dct kvs =>
        dsimp only at out
        obtain ⟨ga, ks, q2, q3⟩ := (l1.ob k a _ ha es).dct
        exact ⟨a, ks, rfl, q2, by rw [← q3.length]; exact (Out.gives out l1).here (.int _)⟩
      | _ => exact out.elim
theorem pc_isn {ng : Bool} {p : Pos} {j : Nat} (ha : PE X l (TX nm cl X W (ev P cal x))) : PC X (if ng then .IsNot else .Is) l (.Constant .none j p) (TX nm cl X W (ev P cal (.isn ng x))) := by
  have key : PC X (if ng then .IsNot else .Is) l (.Constant .none j p) (fun σ H Q => (TX nm cl X W (ev P cal x)) σ H fun x H1 => Q (.bl (if ng then !decide (x = .non) else decide (x = .non))) H1) := by
    cases ng with
    | true => exact pc_notN ha
    | false => exact pc_isN ha
  refine ⟨fun pins s σ H Q I ⟨F, G, m, r, S, rl, rv, out⟩ => key.run pins s σ H Q I ?_⟩
  simp only [ev] at out
  refine tX.bind rl rv out fun u1 H1 G1 m1 v1 S1 g1 l1 rv1 r1 out => ?_
  have go : ∀ b : Bool, decide (u1 = V.non) = b → OutV nm.excs X.mg (kx cl X) W F σ G1 m1 Q (.ok (.d (.bl (if ng then !b else b))) S1) → Q (.bl (if ng then !decide (u1 = .non) else decide (u1 = .non))) H1 := fun b hb out => by
    rw [hb]; exact (Out.gives out l1).here (.bl _)
  cases v1 with
  | xc _ _ => exact out.elim
  | loc k =>
    obtain ⟨a, ha, rfl⟩ := r1
    exact go false rfl (by cases ng <;> exact out)
  | d d =>
    have h := rep_none r1
    cases d <;> exact go _ h (by cases ng <;> exact out)
theorem e_isn {ng : Bool} {p : Pos} {j : Nat} (ha : PE X l (TX nm cl X W (ev P cal x))) : PE X (.Compare l [if ng then .IsNot else .Is] [.Constant .none j p] pos) (TX nm cl X W (ev P cal (.isn ng x))) := pe_cmp (pc_isn ha) (by cases ng <;> rfl)
theorem t_isn {ng : Bool} {p : Pos} {j : Nat} (ha : PE X l (TX nm cl X W (ev P cal x))) : PT X (.Compare l [if ng then .IsNot else .Is] [.Constant .none j p] pos) (tB (TX nm cl X W (ev P cal (.isn ng x)))) := pt_cmp (pc_isn ha) (by cases ng <;> rfl)
end
end Iv
end
section
set_option autoImplicit false
set_option maxRecDepth 100000
set_option maxHeartbeats 4000000
/-! Ivs: a def that tells whether a lambda's call is refused. -/
namespace Iv
open PySem L2
theorem Rl.tab {K : Fg} {F G : Hp} {m : List Addr} {S : Hs} {H H1 : Hp} (h : Rl K F G m S H) (e : LamX.ExtN H H1) (t : LamX.Tabs K.cl.tabs H1) : Rl K F G m S H1 := by
  refine ⟨fun b o q => e _ _ (h.ext b o q) (h.tb.g b o q), fun b o q => e _ _ (h.fr b o q) (h.tb.f b o q).1, h.fd, fun a ha => ?_, h.len, h.nd, fun n a o h1 h2 => ?_, h.tb.f, h.tb.g, fun a ha o q => ?_, t⟩
  · obtain ⟨o, q⟩ := h.mh a ha
    exact ⟨o, e _ _ q (h.tb.m a ha o q).1⟩
  · rcases h.ob n a o h1 h2 with z | ⟨z1, ho, z2, z3⟩
    · exact .inl z
    · exact .inr ⟨z1, ho, e _ _ z2 z3.nc.1, z3⟩
  · obtain ⟨o', q'⟩ := h.mh a ha
    have := e _ _ q' (h.tb.m a ha o' q').1
    rw [q] at this
    cases this
    exact h.tb.m a ha _ q'
section
variable {nm : Nm} {cl : Cl} {P : Prg} {cal : Cal} {n : Nat} {X : Cx} {W : WX}
theorem smp_pa {X : Cx} {W : WX} : ∀ {es : Ex} {ls : List Expr}, smpA es = true → isA nm X.N X.env.scope es ls = true → PA X ls (TXs nm cl X W (evs P cal es)) := by
  intro es
  induction es with
  | nil =>
    intro ls _ h
    cases ls with
    | nil => exact a_nil
    | cons _ _ => cases h
  | cons a b _ ih =>
    intro ls hs h
    cases ls with
    | nil => cases h
    | cons l ls =>
      simp only [isA, Bool.and_eq_true] at h
      have hs := Bool.and_eq_true_iff.mp (show (smp a && smpA b) = true from hs)
      refine a_cons h.1 ?_ (ih hs.2 h.2)
      have h1 := h.1
      have s1 := hs.1
      cases a with
      | var i =>
        cases l with
        | Name s p =>
          simp only [isE, Bool.and_eq_true] at h1
          exact e_var (of_decide_eq_true h1.1.1) h1.1.2 h1.2
        | _ => cases h1
      | str s =>
        cases l with
        | Constant c j p =>
          cases c with
          | str x =>
            have h1 := Bool.and_eq_true_iff.mp h1
            have : x = S' s := of_decide_eq_true h1.1
            subst this
            exact e_const pe_str (fun _ _ => rfl) fun _ => .str _ fun c hc => by simpa using List.all_eq_true.mp h1.2 c hc
          | _ => cases h1
        | _ => cases h1
      | int i =>
        cases l with
        | Constant c j p =>
          cases c with
          | int c =>
            have : i = c := of_decide_eq_true h1
            subst this
            exact e_const pe_int (fun _ _ => rfl) fun _ => .int i
          | _ => cases h1
        | _ => cases h1
      | _ => cases s1
  | _ => intro ls hs h; cases hs
theorem smp_put {N : List Str} {sc : Scope} (b : Bool) : ∀ {es : Ex} {ls : List Expr}, smpA es = true → isA nm N sc es ls = true → isA (nm.put b) N sc es ls = true := by
  intro es
  induction es with
  | nil => intro ls _ h; exact h
  | cons x y _ ih =>
    intro ls hs h
    cases ls with
    | nil => cases h
    | cons l ls =>
      simp only [isA, Bool.and_eq_true] at h ⊢
      have hs := Bool.and_eq_true_iff.mp (show (smp x && smpA y) = true from hs)
      refine ⟨?_, ih hs.2 h.2⟩
      have h1 := h.1
      have s1 := hs.1
      cases x with
      | var i => exact h1
      | str s => exact h1
      | int i => exact h1
      | _ => cases s1
  | _ => intro ls hs h; cases hs
theorem noP_d {p : Arguments} (h : noP p = true) : p = ⟨[], [], none, [], [], none, []⟩ := by
  unfold noP at h
  split at h
  · rfl
  · cases h
theorem e_rfc {j f : Nat} {x y : Str} {es : Ex} {params : Arguments} {l : Expr} {ls : List Expr} {scope : Scope} {p q1 q2 q3 pos : Pos} (C : Ck nm cl P cal n X W) (hl : nm.lam = true) (hj : (nm.rfs[j]?.map (·.1)) = some x) (hg : glB X.env.scope x = true) (hx : okN x = true) (hp : noP params = true) (hL : LamX.lamSB X.env.scope scope = true)
    (hf : nm.fns[f]? = some y) (hgy : glB scope y = true) (hoy : okN y = true) (hs : smpA es = true) (ha : isA nm X.N scope es (l :: ls) = true) :
    PE X (.Call (.Name x p) [.Lambda params (.Call (.Name y q1) (l :: ls) [] q2) scope q3] [] pos) (TX nm cl X W (ev P cal (.rfc j f es))) := by
  obtain ⟨hr, c, T, hcode, TB, hmT, hu⟩ := C.lm hl
  cases hq : nm.rfs[j]? with
  | none => rw [hq] at hj; cases hj
  | some w =>
    rw [hq] at hj
    obtain ⟨x', q⟩ := w
    cases hj
    obtain ⟨hP, ⟨e1, e2, he1, he2⟩, rk⟩ := C.md.rf j x' q hq
    obtain ⟨hm, hk, lk, hcg, hb, Sg, hNg, hva, hda, hdc, h1, hm1, hd1, h2, hm2, hd2⟩ := rk
    have hp := noP_d hp
    subst hp
    have key := LamX.pe_lamcall (X := X) (T := cl.tabs) (TT := TRef X.K (xa cl q.1) (xa cl q.2)) (k := 5 * n + 2) (t := fun E => TX nm cl X (fun cls d _ H => E cls d H) (ev P cal (.call f es))) (p := p) (lpos := q3) (pos := pos) (body := .Call (.Name y q1) (l :: ls) [] q2) (scope := scope) (params := ⟨[], [], none, [], [], none, []⟩)
      (glB_d hg) hm hk lk hcg hb Sg hNg hva (refused_gives h1 hm1 hd1 h2 hm2 hd2 (fun f => rfl)) TB hcode hmT hu hr (LamX.lamS_by hL) rfl (fun _ _ _ _ _ => rfl)
      (fun A outer s H E f' c' hr' => ?_) (okN_d hx).1 hda hdc
    · refine PE.imp key fun σ H Q ⟨F, G, m, r, S, rl, rv, out⟩ => ⟨rl.tb.t, fun H1 eN T1 => ?_⟩
      refine ⟨F, G, m, r, S, rl.tab eN T1, rv, ?_⟩
      simp only [ev, hP] at out
      show OutV nm.excs X.mg (kx cl X) _ F σ G m _ (ev P cal (.call f es) r S)
      simp only [ev]
      cases hv : (evs P cal es r S).bind fun vs S1 => cal f vs S1 with
      | bad => rw [hv] at out; exact out.elim
      | ok v S1 =>
        rw [hv] at out
        exact fun G' m' H' u g l _ => out G' m' H' (.bl false) g l (.bl false)
      | exc c0 fs S1 =>
        rw [hv] at out
        dsimp only at out
        split at out
        · rename_i hsub
          intro G' m' H' cls d g l ⟨e, C0, z1, z2, z3, _⟩
          refine ⟨?_, out G' m' H' (.bl true) g l (.bl true)⟩
          obtain ⟨y1, _⟩ := C.md.ex c0 e z1
          rw [z2] at y1
          cases y1
          subst z3
          unfold PySem.W.exmAny PySem.W.exmAny PySem.W.exmAny
          rw [C.md.sb c0 q.1 e e1 z1 he1, C.md.sb c0 q.2 e e2 z1 he2]
          rw [C.md.ps] at hsub
          simp only [Bool.or_false]
          rw [hsub]
        · exact out.elim
    · have Ck' : Ck (nm.put false) cl P cal n (LamX.lamCx X A outer s H E scope f' c') (fun cls d _ H => E cls d H) :=
        ⟨rfl, C.nodup, takes_of rfl rfl rfl rfl, passes_of rfl, hr', C.md.put false, fun z => by cases z⟩
      have pa : PA (LamX.lamCx X A outer s H E scope f' c') (l :: ls) (TXs (nm.put false) cl (LamX.lamCx X A outer s H E scope f' c') (fun cls d _ H => E cls d H) (evs P cal es)) := smp_pa (nm := nm.put false) hs (smp_put false hs ha)
      have ec := e_call (p := q1) (pos := q2) (sc := scope) (N := X.N) Ck' hf hgy hoy (smp_put false hs ha) pa
      exact ec
end
end Iv
end
section
set_option autoImplicit false
set_option maxRecDepth 100000
set_option maxHeartbeats 4000000
/-! Ivu: is True, repr of a bool, a dict display of two entries, a comprehension with two fors. -/
namespace Iv
open PySem L2
section
variable {nm : Nm} {cl : Cl} {P : Prg} {cal : Cal} {n : Nat} {X : Cx} {W : WX} {e l r : Expr} {es : List Expr} {pos : Pos} {x y z : Ex}
theorem pc_isb {ng b : Bool} {p : Pos} {j : Nat} (ha : PE X l (TX nm cl X W (ev P cal x))) : PC X (if ng then .IsNot else .Is) l (.Constant (.bool b) j p) (TX nm cl X W (ev P cal (.isb ng b x))) := by
  have key : PC X (if ng then .IsNot else .Is) l (.Constant (.bool b) j p) (fun σ H Q => (TX nm cl X W (ev P cal x)) σ H fun u H1 => tC (.bl b) σ H1 fun u2 H2 => ∃ a c, u = .bl a ∧ u2 = .bl c ∧ Q (.bl (if ng then !decide (a = c) else decide (a = c))) H2) := by
    cases ng with
    | true => exact pc_S (X := X) (op := .IsNot) (rd := fun _ x y H Q => ∃ a b, x = .bl a ∧ y = .bl b ∧ Q (.bl (!decide (a = b))) H) ha pe_bl fun pins s σ H x y v u Q I rx ry h => op_isnot_bl pins s σ H x y v u Q I rx ry h
    | false => exact pc_S (X := X) (op := .Is) (rd := fun _ x y H Q => ∃ a b, x = .bl a ∧ y = .bl b ∧ Q (.bl (decide (a = b))) H) ha pe_bl fun pins s σ H x y v u Q I rx ry h => op_is_bl pins s σ H x y v u Q I rx ry h
  refine ⟨fun pins s σ H Q I ⟨F, G, m, r, S, rl, rv, out⟩ => key.run pins s σ H Q I ?_⟩
  simp only [ev] at out
  refine tX.bind rl rv out fun u1 H1 G1 m1 v1 S1 g1 l1 rv1 r1 out => ?_
  split at out
  · rename_i c
    cases r1
    exact ⟨c, b, rfl, rfl, (Out.gives out l1).here (.bl _)⟩
  · exact out.elim
theorem e_isb {ng b : Bool} {p : Pos} {j : Nat} (ha : PE X l (TX nm cl X W (ev P cal x))) : PE X (.Compare l [if ng then .IsNot else .Is] [.Constant (.bool b) j p] pos) (TX nm cl X W (ev P cal (.isb ng b x))) := pe_cmp (pc_isb ha) (by cases ng <;> rfl)
theorem t_isb {ng b : Bool} {p : Pos} {j : Nat} (ha : PE X l (TX nm cl X W (ev P cal x))) : PT X (.Compare l [if ng then .IsNot else .Is] [.Constant (.bool b) j p] pos) (tB (TX nm cl X W (ev P cal (.isb ng b x)))) := pt_cmp (pc_isb ha) (by cases ng <;> rfl)
theorem call_repr_bl : CallR X (.builtin "repr") (fun xs H Q => ∃ b, xs = [.bl b] ∧ Q (.str (if b then "True" else "False")) H) := by
  intro pins s σ H xs us Q I r h
  obtain ⟨b, rfl, q⟩ := h
  obtain ⟨u, rfl, hu⟩ := r.one
  cases (show u = Value.bool b from hu)
  exact PySem.P.repr_of_bool ⟨.str _, H, I.tok _, ⟨_, rfl⟩, q⟩
theorem e_rpr {p : Pos} {sc : Scope} {N : List Str} (C : Ck nm cl P cal n X W) (h1 : glB X.env.scope ("repr" : Str) = true) (hs : isE nm N sc x e = true) (ha : PE X e (TX nm cl X W (ev P cal x))) :
    PE X (.Call (.Name ("repr" : Str) p) [e] [] pos) (TX nm cl X W (ev P cal (.rpr x))) := by
  refine PE.imp (pe_callB call_repr_bl (glB_d h1) C.md.rp (by decide +kernel) (pa_cons ha pa_nil (star_e hs)) (by decide +kernel) (by decide +kernel) (star_e hs) rfl) fun σ H Q ⟨F, G, m, r, S, rl, rv, out⟩ => ?_
  simp only [ev] at out
  refine tX.bind rl rv out fun u1 H1 G1 m1 v1 S1 g1 l1 rv1 r1 out => ?_
  split at out
  · rename_i b
    cases r1
    refine ⟨b, rfl, ?_⟩
    have hR : Rep (kx cl X) G1 (.str (if b then [84, 114, 117, 101] else [70, 97, 108, 115, 101])) (.str (if b then "True" else "False")) := by
      have h := Rep.str (K := kx cl X) (G := G1) (if b then [84, 114, 117, 101] else [70, 97, 108, 115, 101]) (by intro c hc; cases b <;> (simp at hc; omega))
      have e : S' (if b then [84, 114, 117, 101] else [70, 97, 108, 115, 101]) = (if b then ("True" : Str) else ("False" : Str)) := by cases b <;> decide +kernel
      rw [e] at h
      exact h
    exact (Out.gives out l1).here hR
  · exact out.elim
theorem e_dlit2 {k1 k2 : Cs} {a b : Expr} {j1 j2 : Nat} {p1 p2 : Pos} (o1 : Okc k1) (o2 : Okc k2) (ha : PE X a (TX nm cl X W (ev P cal x))) (hb : PE X b (TX nm cl X W (ev P cal y))) :
    PE X (.Dict [some (.Constant (.str (S' k1)) j1 p1), some (.Constant (.str (S' k2)) j2 p2)] [a, b] pos) (TX nm cl X W (ev P cal (.dlit2 k1 x k2 y))) := by
  refine PE.imp (pe_lock (pe_disp (pps_cons pe_str ha (pps_cons pe_str hb pps_nil)) rfl rfl (by simp) (by simp))) fun σ H Q ⟨F, G, m, r, S, rl, rv, out⟩ => ?_
  simp only [ev] at out
  split at out
  · exact out.elim
  rename_i hne
  intro p hp
  have hF : F p = none := by
    cases q : F p with
    | none => rfl
    | some o => rw [rl.fr _ _ q] at hp; cases hp
  have exc : ∀ {G1 : Hp} {m1 : List Addr} {c : Nat} {fs : List D} {S1 : Hs}, Grow G m G1 m1 → OutV nm.excs X.mg (kx cl X) W F σ G m Q (.exc c fs S1) → ∀ (G' : Hp) (m' : List Addr) (H' : Hp) (cls : Value) (d : Option Addr), Grow G1 m1 G' m' → Rl (kx cl X) (upd F p (.dK [])) G' m' S1 H' → RepX nm.excs X.mg (kx cl X) G' c fs cls d → W cls d σ H' := by
    intro G1 m1 c fs S1 g1 o G' m' H' cls d g l rx
    obtain ⟨l3, ex⟩ := l.unframe hF
    refine o _ m' H' cls d ((g1.trans g).trans ⟨ex, fun _ _ h => h⟩) l3 ?_
    obtain ⟨e, C, z1, z2, z3, z4⟩ := rx
    refine ⟨e, C, z1, z2, z3, ?_⟩
    split at z4
    · exact z4
    · obtain ⟨da, v, y1, y2, y3⟩ := z4
      exact ⟨da, v, y1, ex _ _ y2, y3.mono ex⟩
    · exact z4
  refine ⟨upd F p (.dK []), G, m, r, S, rl.framed hp, rv, ?_⟩
  cases hv1 : ev P cal x r S with
  | bad => rw [hv1] at out; exact out.elim
  | exc c fs S1 => rw [hv1] at out; exact exc .refl out
  | ok v1 S1 =>
    rw [hv1] at out
    intro G1 m1 H1 u1 g1 l1 r1
    refine ⟨upd F p (.dK []), G1, m1, r, S1, l1, rv.mono g1, ?_⟩
    dsimp only [R.bind] at out
    cases hv2 : ev P cal y r S1 with
    | bad => rw [hv2] at out; exact out.elim
    | exc c fs S2 => rw [hv2] at out; exact exc g1 out
    | ok v2 S2 =>
      rw [hv2] at out
      dsimp only at out
      intro G2 m2 H2 u2 g2 l2 r2
      cases v1 with
      | loc _ => exact out.elim
      | xc _ _ => exact out.elim
      | d d1 =>
      cases v2 with
      | loc _ => exact out.elim
      | xc _ _ => exact out.elim
      | d d2 =>
      have out : OutV nm.excs X.mg (kx cl X) W F σ G m Q (.ok (.d (.dct [(.s k1, d1), (.s k2, d2)])) S2) := out
      have e0 : H2 p = some (.dK []) := l2.fr _ _ upd_same
      refine ⟨e0, [(kyOf (.s k1), u1), (kyOf (.s k2), u2)], rfl, by simp, p, [(kyOf (.s k1), u1), (kyOf (.s k2), u2)], rfl, ?_, fun o => ?_⟩
      · rw [upd_same]
        have : mergeK [] [(kyOf (.s k1), u1), (kyOf (.s k2), u2)] = [(kyOf (.s k1), u1), (kyOf (.s k2), u2)] := by
          have hk : kyOf (.s k1) ≠ kyOf (.s k2) := fun z => hne (S'_inj (Sum.inr.inj z))
          simp [mergeK, putK, hk]
        rw [this]
      · rw [upd_upd]
        have rk : RepKs (kx cl X) G2 [(.s k1, d1), (.s k2, d2)] [(kyOf (.s k1), u1), (kyOf (.s k2), u2)] := .cons o1 (Rep.mono g2.1 r1) (.cons o2 r2 .nil)
        obtain ⟨l3, ex⟩ := Rl.unframe hF (l2.reframe (o' := .frz o (.dK [(kyOf (.s k1), u1), (kyOf (.s k2), u2)])))
        exact out _ m2 _ _ ((g1.trans g2).trans ⟨ex, fun _ _ h => h⟩) l3 (.dct upd_same (rk.mono ex))
end
end Iv
end
section
set_option autoImplicit false
set_option maxRecDepth 100000
set_option maxHeartbeats 4000000
/-! Ivv: a comprehension with two fors. -/
namespace Iv
open PySem L2
def cm2G (P : Prg) (cal : Cal) (own1 : List Nat) (t1 : Tg) (e : Ex) (r1 : Ev) : D → Hs → R (Option D) := fun y S4 => match asgD t1 y (wipes r1 own1) with
  | none => .bad
  | some r2 => (ev P cal e r2 S4).bind fun z S5 => match z with
    | .d z => .ok (some z) S5
    | _ => .bad
def cm2F (P : Prg) (cal : Cal) (own own1 : List Nat) (t : Tg) (t1 : Tg) (it1 e : Ex) (r : Ev) : D → List D → Hs → R (List D) := fun x acc S2 => match asgD t x (wipes r own) with
  | none => .bad
  | some r1 => match evi P cal it1 r1 S2 with
    | .ok ys S3 => if big < acc.length + ys.length then .bad else compL (cm2G P cal own1 t1 e r1) ys acc S3
    | _ => .bad
theorem ev_comp2 {P : Prg} {cal : Cal} {own own1 : List Nat} {t t1 : Tg} {it it1 e : Ex} {r : Ev} {S : Hs} : ev P cal (.comp2 own own1 t it t1 it1 e) r S = (evi P cal it r S).bind fun xs S1 => if big < xs.length then .bad else
    (flatL (cm2F P cal own own1 t t1 it1 e r) xs [] S1).bind fun ys S5 => .ok (.d (.lst ys)) S5 := rfl
section
variable {nm : Nm} {cl : Cl} {P : Prg} {cal : Cal} {n : Nat} {X : Cx} {W : WX}
theorem comp2_read {wi : TI} {own own1 : List Nat} {t t1 : Tg} {it it1 e : Ex} {σ : L2.St} {H : Hp} {Q : VK} (hw : wi = TI' nm cl X W (evi P cal it)) (ht : tgIn own t = true) (ht1 : tgIn own1 t1 = true)
    (h : TX nm cl X W (ev P cal (.comp2 own own1 t it t1 it1 e)) σ H Q) : tLc2 wi (tgR (kx cl X) t) tYes (TI' nm cl X noW (evi P cal it1)) (tgR (kx cl X) t1) tYes (TX nm cl X noW (ev P cal e)) own own1 σ H Q := by
  subst hw
  obtain ⟨F, G, m, r, S, rl, rv, out⟩ := h
  rw [ev_comp2] at out
  refine tX.bind rl rv out fun J H1 G1 m1 xs S1 g1 l1 rv1 r1 out => ?_
  intro Da hD
  by_cases hbig : big < xs.length
  · rw [if_pos hbig] at out; exact out.elim
  rw [if_neg hbig] at out
  have hF : F Da = none := by
    cases q : F Da with
    | none => rfl
    | some o => rw [l1.fr _ _ q] at hD; cases hD
  let IV : Nat → Hp → Prop := fun i H => i ≤ xs.length ∧ ∃ (G2 : Hp) (m2 : List Addr) (S2 : Hs) (acc : List D) (vacc : List V), Grow G1 m1 G2 m2 ∧ Rl (kx cl X) (upd F Da (.lst vacc)) G2 m2 S2 H ∧ Reps (kx cl X) G2 acc vacc ∧
    OutV nm.excs X.mg (kx cl X) W F σ G2 m2 Q ((flatL (cm2F P cal own own1 t t1 it1 e r) (xs.drop i) acc S2).bind fun ys S5 => .ok (.d (.lst ys)) S5)
  refine ⟨fun i k H => k = xs.length - i ∧ IV i H, ⟨xs.length, by simp, Nat.zero_le _, G1, m1, S1, [], [], .refl, l1.framed hD, .nil, by simpa using out⟩, ?_⟩
  rintro i k H2 ⟨rfl, hi, G2, m2, S2, acc, vacc, g2, l2, racc, out2⟩
  by_cases hlt : i < xs.length
  · right
    refine ⟨r1.go i H2 (g2.1.trans l2.ext) hlt, IV (i + 1), fun H' iv => ⟨xs.length - (i + 1), by omega, rfl, iv⟩, fun x H3 hy => ?_⟩
    have hd : xs[i]? = some xs[i] := by simp [hlt]
    obtain ⟨G3, al, rep⟩ := r1.yld i G2 H2 x H3 _ g2.1 l2.ext hd hy
    have l3 := l2.al al
    have gr3 : Grow G2 m2 G3 m2 := al.grow l2.ext
    have hdrop : xs.drop i = xs[i] :: xs.drop (i + 1) := List.drop_eq_getElem_cons hlt
    rw [hdrop] at out2
    simp only [flatL] at out2
    cases hf : cm2F P cal own own1 t t1 it1 e r xs[i] acc S2 with
    | bad => rw [hf] at out2; exact out2.elim
    | exc _ _ _ => rw [hf] at out2; exact out2.elim
    | ok accF SF =>
      rw [hf] at out2
      unfold cm2F at hf
      cases ha : asgD t xs[i] (wipes r own) with
      | none => rw [ha] at hf; cases hf
      | some r2 =>
        rw [ha] at hf
        dsimp only at hf
        refine ⟨G3, m2, wipes r own, r2, _, l3.ext, (rv1.mono (g2.trans gr3)).wipe own, rep, ha, fun σ2 rv2 keep => ⟨by rw [keep own ht]; exact wipe_twice _ _, ?_⟩⟩
        cases hc : evi P cal it1 r2 S2 with
        | bad => rw [hc] at hf; cases hf
        | exc _ _ _ => rw [hc] at hf; cases hf
        | ok ys S5 =>
          rw [hc] at hf
          dsimp only at hf
          by_cases hb2 : big < acc.length + ys.length
          · rw [if_pos hb2] at hf; cases hf
          rw [if_neg hb2] at hf
          (unfold tYes; dsimp only; rw [if_pos rfl])
          refine ⟨_, G3, m2, r2, S2, l3, rv2, ?_⟩
          rw [hc]
          intro G5 m5 H5 J1 g5 l5 r5
          let IV1 : Nat → Hp → Prop := fun j H => j ≤ ys.length ∧ ∃ (G6 : Hp) (m6 : List Addr) (S6 : Hs) (acc6 : List D) (vacc6 : List V), Grow G5 m5 G6 m6 ∧ Rl (kx cl X) (upd F Da (.lst vacc6)) G6 m6 S6 H ∧ Reps (kx cl X) G6 acc6 vacc6 ∧ acc6.length ≤ acc.length + j ∧
            compL (cm2G P cal own1 t1 e r2) (ys.drop j) acc6 S6 = .ok accF SF
          refine ⟨fun j k H => k = ys.length - j ∧ IV1 j H, ⟨ys.length, by simp, Nat.zero_le _, G5, m5, S5, acc, vacc, .refl, l5, (racc.mono gr3.1).mono g5.1, Nat.le_refl _, by simpa using hf⟩, ?_⟩
          rintro j k H6 ⟨rfl, hj, G6, m6, S6, acc6, vacc6, g6, l6, racc6, hacc6, hf6⟩
          by_cases hlt1 : j < ys.length
          · right
            refine ⟨r5.go j H6 (g6.1.trans l6.ext) hlt1, IV1 (j + 1), fun H' iv => ⟨ys.length - (j + 1), by omega, rfl, iv⟩, fun y H7 hy1 => ?_⟩
            have hd1 : ys[j]? = some ys[j] := by simp [hlt1]
            obtain ⟨G7, al7, rep7⟩ := r5.yld j G6 H6 y H7 _ g6.1 l6.ext hd1 hy1
            have l7 := l6.al al7
            have gr7 : Grow G6 m6 G7 m6 := al7.grow l6.ext
            have hdrop1 : ys.drop j = ys[j] :: ys.drop (j + 1) := List.drop_eq_getElem_cons hlt1
            rw [hdrop1] at hf6
            simp only [compL] at hf6
            cases hg : cm2G P cal own1 t1 e r2 ys[j] S6 with
            | bad => rw [hg] at hf6; cases hf6
            | exc _ _ _ => rw [hg] at hf6; cases hf6
            | ok o S8 =>
              rw [hg] at hf6
              unfold cm2G at hg
              cases ha1 : asgD t1 ys[j] (wipes r2 own1) with
              | none => rw [ha1] at hg; cases hg
              | some r3 =>
                rw [ha1] at hg
                dsimp only at hg
                refine ⟨G7, m6, wipes r2 own1, r3, _, l7.ext, ((rv2.mono g5).mono (g6.trans gr7)).wipe own1, rep7, ha1, fun σ3 rv3 keep3 => ⟨by rw [keep3 own1 ht1]; exact wipe_twice _ _, ?_⟩⟩
                rw [if_pos rfl]
                cases he : ev P cal e r3 S6 with
                | bad => rw [he] at hg; cases hg
                | exc _ _ _ => rw [he] at hg; cases hg
                | ok zv S9 =>
                  rw [he] at hg
                  simp only [R.bind] at hg
                  refine ⟨_, G7, m6, r3, S6, l7, rv3, ?_⟩
                  rw [he]
                  intro G8 m8 H8 u8 g8 l8 r8
                  split at hg
                  · cases hg
                    refine ⟨vacc6, l8.fr _ _ upd_same, ?_, by omega, G8, m8, _, _, _, g6.trans (gr7.trans g8), l8.reframe, ((racc6.mono gr7.1).mono g8.1).append (.cons r8 .nil), ?_, hf6⟩
                    · rw [← racc6.length, sizeLine_eq]
                      have : acc.length + ys.length ≤ 1000000 := Nat.le_of_not_lt hb2
                      omega
                    · rw [List.length_append]; simp; omega
                  · cases hg
          · left
            have e2 : j = ys.length := by omega
            subst e2
            refine ⟨r5.stop _ H6 (g6.1.trans l6.ext) (Nat.le_refl _) (Nat.le_refl _), ?_⟩
            rw [List.drop_length] at hf6
            simp only [compL] at hf6
            cases hf6
            exact ⟨by omega, G6, m6, _, _, vacc6, (g2.trans gr3).trans (g5.trans g6), l6, racc6, Out.grow (gr3.trans (g5.trans g6)) out2⟩
  · left
    have e : i = xs.length := by omega
    subst e
    refine ⟨r1.stop _ H2 (g2.1.trans l2.ext) (Nat.le_refl _) (Nat.le_refl _), ?_⟩
    rw [List.drop_length] at out2
    simp only [flatL, R.bind] at out2
    obtain ⟨l3, ex⟩ := l2.unframe hF
    exact out2 _ m2 H2 _ ⟨ex, fun _ _ h => h⟩ l3 (.lst upd_same (racc.mono ex))
end
end Iv
end
section
set_option autoImplicit false
set_option maxRecDepth 100000
set_option maxHeartbeats 4000000
namespace Iv
open PySem L2
section
variable (nm : Nm) (cl : Cl) (P : Prg) (cal : Cal) (n : Nat)
def SE (x : Ex) : Prop := ∀ (X : Cx) (W : WX) (e : Expr), Ck nm cl P cal n X W → isE nm X.N X.env.scope x e = true → PE X e (TX nm cl X W (ev P cal x))
def ST (x : Ex) : Prop := ∀ (X : Cx) (W : WX) (e : Expr), Ck nm cl P cal n X W → isE nm X.N X.env.scope x e = true → tOk x = true → PT X e (tB (TX nm cl X W (ev P cal x)))
def SW (x : Ex) : Prop := ∀ (X : Cx) (W : WX) (o : PySem.BoolOp) (es : List Expr) (p : Pos), Ck nm cl P cal n X W → isE nm X.N X.env.scope x (.BoolOp o es p) = true → tOk x = true → PW X (.BoolOp o es p) (tB (TX nm cl X W (ev P cal x)))
def SA (x : Ex) : Prop := ∀ (X : Cx) (W : WX) (es : List Expr), Ck nm cl P cal n X W → isA nm X.N X.env.scope x es = true → PA X es (TXs nm cl X W (evs P cal x)) ∧ SJ' nm cl P cal X W x es
def SO (x : Ex) : Prop := ∀ (X : Cx) (W : WX) (e : Option Expr), Ck nm cl P cal n X W → isO nm X.N X.env.scope x e = true → PO X e (tX nm.excs X.mg (kx cl X) W (fun _ _ (a : Option Int) (b : Option Int) => a = b) (evo P cal x))
def SI (x : Ex) : Prop := ∀ (X : Cx) (W : WX) (tg e : Expr), Ck nm cl P cal n X W → isI nm X.N X.env.scope x tg e = true → PI X tg e (TI' nm cl X W (evi P cal x)) ∧ ∀ v, foldedSetIterable e X.env v = pure v
def SC (x : Ex) : Prop := ∀ (X : Cx) (W : WX) (es : List Expr), Ck nm cl P cal n X W → isC nm X.N X.env.scope x es = true → PTs X es (tB (TX nm cl X W (ev P cal x)))
structure Snd (x : Ex) : Prop where
  e : SE nm cl P cal n x
  t : ST nm cl P cal n x
  w : SW nm cl P cal n x
  a : SA nm cl P cal n x
  o : SO nm cl P cal n x
  i : SI nm cl P cal n x
  c : SC nm cl P cal n x
end
section
variable {nm : Nm} {cl : Cl} {P : Prg} {cal : Cal} {n : Nat}
theorem Snd.pa {x : Ex} (s : Snd nm cl P cal n x) (X : Cx) (W : WX) (es : List Expr) (C : Ck nm cl P cal n X W) (h : isA nm X.N X.env.scope x es = true) : PA X es (TXs nm cl X W (evs P cal x)) := (s.a X W es C h).1
theorem Ck.blk {X : Cx} {W : WX} (C : Ck nm cl P cal n X W) {s : Shared} {H : Hp} {scope : Scope} {Ca : Addr} {ce : List (Str × Addr)} {fp : List Addr} : Ck nm cl P cal n (X.blk s H scope (compEnvC scope ce Ca X.env) fp) noW :=
  ⟨C.calm, C.nodup, takes0, PassesOwn.never, C.room, C.md, C.lm⟩
theorem ownN_map (N : List Str) (own : List Nat) : (ownN N own).map (fun x => x.2) = own := by
  unfold ownN; rw [List.map_map]; conv => rhs; rw [← List.map_id own]
  rfl
theorem t_plain {X : Cx} {W : WX} {e : Expr} {x : Ex} (h : PE X e (TX nm cl X W (ev P cal x))) (he : ∀ whole, PySem.isTrue e X.env whole = (do let v ← whole; standAt e.pos; holding [v] (truthy v))) : PT X e (tB (TX nm cl X W (ev P cal x))) := pt_val h he
theorem folded_e {sc : Scope} {N : List Str} {x : Ex} {e : Expr} {env : Env} {v : Value} (h : isE nm N sc x e = true) : foldedSetIterable e env v = pure v := by
  cases e with
  | Set _ _ _ => cases x <;> cases h
  | _ => rfl
theorem s_comp {own : List Nat} {t : Tg} {it c x : Ex} (hi : SI nm cl P cal n it) (hc : SC nm cl P cal n c) (hx : SE nm cl P cal n x) {X : Cx} {W : WX} {elt tg iter : Expr} {ifs : List Expr} {scope : Scope} {pos : Pos} (C : Ck nm cl P cal n X W)
    (h1 : isI nm X.N X.env.scope it tg iter = true) (h2 : blkC X.N X.env.scope scope (ownN X.N own) = true) (h3 : isG X.N false (rl X.env.scope scope) t tg = true) (h4 : isC nm X.N (rl X.env.scope scope) c ifs = true) (h5 : isE nm X.N (rl X.env.scope scope) x elt = true) (h6 : tgIn own t = true) :
    PE X (.ListComp elt [⟨tg, iter, ifs, 0⟩] scope pos) (TX nm cl X W (ev P cal (.comp own t it c x))) := by
  obtain ⟨q1, q2⟩ := hi X W tg iter C h1
  have key := pe_lc (X := X) (pos := pos) (own := ownN X.N own) (g := tgR (kx cl X) t) (tt := tB (TX nm cl X noW (ev P cal c))) (te := TX nm cl X noW (ev P cal x)) C.calm C.nodup q1 (blkOk_by h2)
    (fun s H Ca ce fp => g_tg (X := X.blk s H scope (compEnvC scope ce Ca X.env) fp) C.calm C.nodup (fn := false) (fun z => by cases z) t tg h3)
    (fun s H Ca ce fp => hc (X.blk s H scope (compEnvC scope ce Ca X.env) fp) noW ifs C.blk h4)
    (fun s H Ca ce fp => hx (X.blk s H scope (compEnvC scope ce Ca X.env) fp) noW elt C.blk h5) q2
  rw [ownN_map] at key
  exact PE.imp key fun σ H Q h => comp_read rfl h6 h
theorem s_newc {own : List Nat} {t : Tg} {it c x : Ex} (hi : SI nm cl P cal n it) (hc : SC nm cl P cal n c) (hx : SE nm cl P cal n x) {X : Cx} {W : WX} {elt tg iter : Expr} {ifs : List Expr} {scope : Scope} {pos : Pos} (C : Ck nm cl P cal n X W)
    (h1 : isI nm X.N X.env.scope it tg iter = true) (h2 : blkC X.N X.env.scope scope (ownN X.N own) = true) (h3 : isG X.N false (rl X.env.scope scope) t tg = true) (h4 : isC nm X.N (rl X.env.scope scope) c ifs = true) (h5 : isE nm X.N (rl X.env.scope scope) x elt = true) (h6 : tgIn own t = true) :
    PE X (.ListComp elt [⟨tg, iter, ifs, 0⟩] scope pos) (TX nm cl X W (ev P cal (.newc own t it c x))) := by
  obtain ⟨q1, q2⟩ := hi X W tg iter C h1
  have key := pe_lc (X := X) (pos := pos) (own := ownN X.N own) (g := tgR (kx cl X) t) (tt := tB (TX nm cl X noW (ev P cal c))) (te := TX nm cl X noW (ev P cal x)) C.calm C.nodup q1 (blkOk_by h2)
    (fun s H Ca ce fp => g_tg (X := X.blk s H scope (compEnvC scope ce Ca X.env) fp) C.calm C.nodup (fn := false) (fun z => by cases z) t tg h3)
    (fun s H Ca ce fp => hc (X.blk s H scope (compEnvC scope ce Ca X.env) fp) noW ifs C.blk h4)
    (fun s H Ca ce fp => hx (X.blk s H scope (compEnvC scope ce Ca X.env) fp) noW elt C.blk h5) q2
  rw [ownN_map] at key
  exact PE.imp key fun σ H Q h => newc_read rfl h6 h
theorem s_dcmp {own : List Nat} {t : Tg} {it c k v : Ex} (hi : SI nm cl P cal n it) (hc : SC nm cl P cal n c) (hk : SE nm cl P cal n k) (hv : SE nm cl P cal n v) {X : Cx} {W : WX} {key val tg iter : Expr} {ifs : List Expr} {scope : Scope} {pos : Pos} (C : Ck nm cl P cal n X W)
    (h1 : isI nm X.N X.env.scope it tg iter = true) (h2 : blkC X.N X.env.scope scope (ownN X.N own) = true) (h3 : isG X.N false (rl X.env.scope scope) t tg = true) (h4 : isC nm X.N (rl X.env.scope scope) c ifs = true) (h5 : isE nm X.N (rl X.env.scope scope) k key = true) (h5' : isE nm X.N (rl X.env.scope scope) v val = true) (h6 : tgIn own t = true) :
    PE X (.DictComp key val [⟨tg, iter, ifs, 0⟩] scope pos) (TX nm cl X W (ev P cal (.dcmp own t it c k v))) := by
  obtain ⟨q1, q2⟩ := hi X W tg iter C h1
  have key := pe_dc (X := X) (pos := pos) (own := ownN X.N own) (g := tgR (kx cl X) t) (tt := tB (TX nm cl X noW (ev P cal c))) (tk := TX nm cl X noW (ev P cal k)) (tv := TX nm cl X noW (ev P cal v)) C.calm C.nodup q1 (blkOk_by h2)
    (fun s H Ca ce fp => g_tg (X := X.blk s H scope (compEnvC scope ce Ca X.env) fp) C.calm C.nodup (fn := false) (fun z => by cases z) t tg h3)
    (fun s H Ca ce fp => hc (X.blk s H scope (compEnvC scope ce Ca X.env) fp) noW ifs C.blk h4)
    (fun s H Ca ce fp => hk (X.blk s H scope (compEnvC scope ce Ca X.env) fp) noW key C.blk h5)
    (fun s H Ca ce fp => hv (X.blk s H scope (compEnvC scope ce Ca X.env) fp) noW val C.blk h5') q2
  rw [ownN_map] at key
  exact PE.imp (pe_lock key) fun σ H Q h => dcmp_read rfl h6 h
theorem snd_leaf {x : Ex} (he : SE nm cl P cal n x) (ht : ST nm cl P cal n x) (h0 : ∀ N sc es, isA nm N sc x es = false) (h1 : ∀ N sc e, isO nm N sc x e = false) (h2 : ∀ N sc a b, isI nm N sc x a b = false) (h3 : ∀ N sc es, isC nm N sc x es = false) (h4 : ∀ N sc o es p, isE nm N sc x (.BoolOp o es p) = false) : Snd nm cl P cal n x :=
  ⟨he, ht, fun X W o es p C h => (by rw [h4] at h; cases h), fun X W es C h => (by rw [h0] at h; cases h), fun X W e C h => (by rw [h1] at h; cases h), fun X W a b C h => (by rw [h2] at h; cases h), fun X W es C h => (by rw [h3] at h; cases h)⟩
def plainT : Expr → Bool
  | .UnaryOp .Not _ _ => false
  | .BoolOp _ _ _ => false
  | .IfExp _ _ _ _ => false
  | .Compare _ _ _ _ => false
  | _ => true
theorem plainT_d {e : Expr} (h : plainT e = true) (env : Env) (whole : Sem Value) : PySem.isTrue e env whole = (do let v ← whole; standAt e.pos; holding [v] (truthy v)) := by
  cases e with
  | UnaryOp o a p => cases o <;> first | rfl | cases h
  | BoolOp _ _ _ => cases h
  | IfExp _ _ _ _ => cases h
  | Compare _ _ _ _ => cases h
  | _ => rfl
/-- of a term that stands for expressions of a plain make -/
theorem ST.of {x : Ex} (he : SE nm cl P cal n x) (hp : ∀ N sc e, isE nm N sc x e = true → plainT e = true) : ST nm cl P cal n x :=
  fun X W e C h _ => t_plain (he X W e C h) (plainT_d (hp _ _ _ h) X.env)
theorem snd_main : ∀ x : Ex, Snd nm cl P cal n x := by
  intro x
  induction x with
  | var i =>
    have he : SE nm cl P cal n (.var i) := fun X W e C h => by
      cases e with
      | Name s p =>
        simp only [isE, Bool.and_eq_true] at h
        exact e_var (of_decide_eq_true h.1.1) h.1.2 h.2
      | _ => cases h
    exact snd_leaf he (.of he fun N sc e h => by cases e <;> first | rfl | cases h) (fun _ _ _ => rfl) (fun _ _ _ => rfl) (fun _ _ _ _ => rfl) (fun _ _ _ => rfl) (fun _ _ _ _ _ => rfl)
  | glob g =>
    have he : SE nm cl P cal n (.glob g) := fun X W e C h => by
      cases e with
      | Name s p =>
        simp only [isE, Bool.and_eq_true] at h
        exact e_glob C (of_decide_eq_true h.1.1) h.1.2 h.2
      | _ => cases h
    exact snd_leaf he (.of he fun N sc e h => by cases e <;> first | rfl | cases h) (fun _ _ _ => rfl) (fun _ _ _ => rfl) (fun _ _ _ _ => rfl) (fun _ _ _ => rfl) (fun _ _ _ _ _ => rfl)
  | non =>
    have he : SE nm cl P cal n .non := fun X W e C h => by
      cases e with
      | Constant c j p =>
        cases c with
        | none => exact e_const pe_non (fun _ _ => rfl) fun _ => .non
        | _ => cases h
      | _ => cases h
    exact snd_leaf he (.of he fun N sc e h => by cases e <;> first | rfl | cases h) (fun _ _ _ => rfl) (fun _ _ _ => rfl) (fun _ _ _ _ => rfl) (fun _ _ _ => rfl) (fun _ _ _ _ _ => rfl)
  | bl b =>
    have he : SE nm cl P cal n (.bl b) := fun X W e C h => by
      cases e with
      | Constant c j p =>
        cases c with
        | bool c =>
          have : b = c := eq_of_beq h
          subst this
          exact e_const pe_bl (fun _ _ => rfl) fun _ => .bl b
        | _ => cases h
      | _ => cases h
    refine ⟨he, .of he fun N sc e h => (by cases e <;> first | rfl | cases h), fun X W o es p C h => (by cases h), fun X W es C h => (by cases h), fun X W e C h => (by cases h), fun X W a b C h => (by cases h), fun X W es C h => ?_⟩
    cases b with
    | false => cases h
    | true =>
      cases es with
      | nil =>
        exact ⟨fun pins s σ H Q I ⟨F, G, m, r, S, rl, rv, out⟩ => pts_nil.run pins s σ H Q I (by
          obtain ⟨k, e, q⟩ := out G m H (.bl true) .refl rl (.bl true)
          cases e
          exact q)⟩
      | cons _ _ => cases h
  | int i =>
    have he : SE nm cl P cal n (.int i) := fun X W e C h => by
      cases e with
      | Constant c j p =>
        cases c with
        | int c =>
          have : i = c := of_decide_eq_true h
          subst this
          exact e_const pe_int (fun _ _ => rfl) fun _ => .int i
        | _ => cases h
      | _ => cases h
    exact snd_leaf he (.of he fun N sc e h => by cases e <;> first | rfl | cases h) (fun _ _ _ => rfl) (fun _ _ _ => rfl) (fun _ _ _ _ => rfl) (fun _ _ _ => rfl) (fun _ _ _ _ _ => rfl)
  | str s =>
    have he : SE nm cl P cal n (.str s) := fun X W e C h => by
      cases e with
      | Constant c j p =>
        cases c with
        | str c =>
          simp only [isE, Bool.and_eq_true] at h
          have : c = S' s := of_decide_eq_true h.1
          subst this
          exact e_const pe_str (fun _ _ => rfl) fun _ => .str s fun c hc => by simpa using List.all_eq_true.mp h.2 c hc
        | _ => cases h
      | _ => cases h
    exact snd_leaf he (.of he fun N sc e h => by cases e <;> first | rfl | cases h) (fun _ _ _ => rfl) (fun _ _ _ => rfl) (fun _ _ _ _ => rfl) (fun _ _ _ => rfl) (fun _ _ _ _ _ => rfl)
  | nil =>
    have he : SE nm cl P cal n .nil := fun X W e C h => by cases h
    refine ⟨he, fun X W e C h => (by cases h), fun X W o es p C h => (by cases h), fun X W es C h => ?_, fun X W e C h => (by cases h), fun X W a b C h => (by cases h), fun X W es C h => (by cases h)⟩
    cases es with
    | nil => exact ⟨a_nil, j_nil⟩
    | cons _ _ => cases h
  | cons x xs ih1 ih2 =>
    have he : SE nm cl P cal n (.cons x xs) := fun X W e C h => by cases h
    refine ⟨he, fun X W e C h => (by cases h), fun X W o es p C h => (by cases h), fun X W es C h => ?_, fun X W e C h => (by cases h), fun X W a b C h => (by cases h), fun X W es C h => (by cases h)⟩
    cases es with
    | nil => cases h
    | cons e es =>
      simp only [isA, Bool.and_eq_true] at h
      exact ⟨a_cons h.1 (ih1.e X W e C h.1) (ih2.pa X W es C h.2), j_cons (ih1.e X W e C h.1) (ih2.a X W es C h.2).2⟩
  | tup es ih =>
    have he : SE nm cl P cal n (.tup es) := fun X W e C h => by
      cases e with
      | Tuple l k p => exact e_tup (ih.pa X W l C h)
      | _ => cases h
    exact snd_leaf he (.of he fun N sc e h => by cases e <;> first | rfl | cases h) (fun _ _ _ => rfl) (fun _ _ _ => rfl) (fun _ _ _ _ => rfl) (fun _ _ _ => rfl) (fun _ _ _ _ _ => rfl)
  | lst es ih =>
    have he : SE nm cl P cal n (.lst es) := fun X W e C h => by
      cases e with
      | List l p => exact e_lst (ih.pa X W l C h)
      | _ => cases h
    exact snd_leaf he (.of he fun N sc e h => by cases e <;> first | rfl | cases h) (fun _ _ _ => rfl) (fun _ _ _ => rfl) (fun _ _ _ _ => rfl) (fun _ _ _ => rfl) (fun _ _ _ _ _ => rfl)
  | newl es ih =>
    have he : SE nm cl P cal n (.newl es) := fun X W e C h => by
      cases e with
      | List l p => exact e_newl (ih.pa X W l C h)
      | _ => cases h
    exact snd_leaf he (.of he fun N sc e h => by cases e <;> first | rfl | cases h) (fun _ _ _ => rfl) (fun _ _ _ => rfl) (fun _ _ _ _ => rfl) (fun _ _ _ => rfl) (fun _ _ _ _ _ => rfl)
  | frz i =>
    have he : SE nm cl P cal n (.frz i) := fun X W e C h => by
      cases e with
      | Name s p =>
        simp only [isE, Bool.and_eq_true] at h
        exact e_frz (of_decide_eq_true h.1.1) h.1.2 h.2
      | _ => cases h
    exact snd_leaf he (.of he fun N sc e h => by cases e <;> first | rfl | cases h) (fun _ _ _ => rfl) (fun _ _ _ => rfl) (fun _ _ _ _ => rfl) (fun _ _ _ => rfl) (fun _ _ _ _ _ => rfl)
  | bin o a b ih1 ih2 =>
    have he : SE nm cl P cal n (.bin o a b) := fun X W e C h => by
      cases e with
      | BinOp l op r p =>
        simp only [isE, Bool.and_eq_true] at h
        have : op = bop o := of_decide_eq_true h.1.1
        subst this
        exact e_bin C (ih1.e X W l C h.1.2) (ih2.e X W r C h.2)
      | _ => cases h
    exact snd_leaf he (.of he fun N sc e h => by cases e <;> first | rfl | cases h) (fun _ _ _ => rfl) (fun _ _ _ => rfl) (fun _ _ _ _ => rfl) (fun _ _ _ => rfl) (fun _ _ _ _ _ => rfl)
  | neg a ih =>
    have he : SE nm cl P cal n (.neg a) := fun X W e C h => by
      cases e with
      | UnaryOp op l p =>
        cases op with
        | USub => exact e_neg (ih.e X W l C h)
        | _ => cases h
      | _ => cases h
    exact snd_leaf he (.of he fun N sc e h => by
      cases e with
      | UnaryOp op l p => cases op <;> first | rfl | cases h
      | _ => first | rfl | cases h) (fun _ _ _ => rfl) (fun _ _ _ => rfl) (fun _ _ _ _ => rfl) (fun _ _ _ => rfl) (fun _ _ _ _ _ => rfl)
  | cmp o a b ih1 ih2 =>
    have he : SE nm cl P cal n (.cmp o a b) := fun X W e C h => by
      cases e with
      | Compare l ops rs p =>
        match ops, rs, h with
        | [op], [r], h =>
          simp only [isE, Bool.and_eq_true] at h
          have : op = cop o := of_decide_eq_true h.1.1
          subst this
          exact e_cmp C (behind_e h.2 _) (ih1.e X W l C h.1.2) (ih2.e X W r C h.2)
        | [], _, h => cases h
        | [_], [], h => cases h
        | [_], _ :: _ :: _, h => cases h
        | _ :: _ :: _, _, h => cases h
      | _ => cases h
    have ht : ST nm cl P cal n (.cmp o a b) := fun X W e C h _ => by
      cases e with
      | Compare l ops rs p =>
        match ops, rs, h with
        | [op], [r], h =>
          simp only [isE, Bool.and_eq_true] at h
          have : op = cop o := of_decide_eq_true h.1.1
          subst this
          exact t_cmp C (behind_e h.2 _) (ih1.e X W l C h.1.2) (ih2.e X W r C h.2)
        | [], _, h => cases h
        | [_], [], h => cases h
        | [_], _ :: _ :: _, h => cases h
        | _ :: _ :: _, _, h => cases h
      | _ => cases h
    exact snd_leaf he ht (fun _ _ _ => rfl) (fun _ _ _ => rfl) (fun _ _ _ _ => rfl) (fun _ _ _ => rfl) (fun _ _ _ _ _ => rfl)
  | chain o o' a b c ih1 ih2 ih3 =>
    have he : SE nm cl P cal n (.chain o o' a b c) := fun X W e C h => by
      cases e with
      | Compare l ops rs p =>
        match ops, rs, h with
        | [op, op'], [r, r'], h =>
          simp only [isE, Bool.and_eq_true] at h
          have e1 : op = cop o := of_decide_eq_true h.1.1.1.1
          have e2 : op' = cop o' := of_decide_eq_true h.1.1.1.2
          subst e1; subst e2
          exact e_chain C (behind_e h.2 _) (ih1.e X W l C h.1.1.2) (ih2.e X W r C h.1.2) (ih3.e X W r' C h.2)
        | [], _, h => cases h
        | [_], _, h => cases h
        | [_, _], [], h => cases h
        | [_, _], [_], h => cases h
        | [_, _], _ :: _ :: _ :: _, h => cases h
        | _ :: _ :: _ :: _, _, h => cases h
      | _ => cases h
    have ht : ST nm cl P cal n (.chain o o' a b c) := fun X W e C h _ => by
      cases e with
      | Compare l ops rs p =>
        match ops, rs, h with
        | [op, op'], [r, r'], h =>
          simp only [isE, Bool.and_eq_true] at h
          have e1 : op = cop o := of_decide_eq_true h.1.1.1.1
          have e2 : op' = cop o' := of_decide_eq_true h.1.1.1.2
          subst e1; subst e2
          exact t_chain C (behind_e h.2 _) (ih1.e X W l C h.1.1.2) (ih2.e X W r C h.1.2) (ih3.e X W r' C h.2)
        | [], _, h => cases h
        | [_], _, h => cases h
        | [_, _], [], h => cases h
        | [_, _], [_], h => cases h
        | [_, _], _ :: _ :: _ :: _, h => cases h
        | _ :: _ :: _ :: _, _, h => cases h
      | _ => cases h
    exact snd_leaf he ht (fun _ _ _ => rfl) (fun _ _ _ => rfl) (fun _ _ _ _ => rfl) (fun _ _ _ => rfl) (fun _ _ _ _ _ => rfl)
  | not a ih =>
    have he : SE nm cl P cal n (.not a) := fun X W e C h => by
      cases e with
      | UnaryOp op l p =>
        cases op with
        | Not => exact e_not (ih.e X W l C h)
        | _ => cases h
      | _ => cases h
    have ht : ST nm cl P cal n (.not a) := fun X W e C h ho => by
      cases e with
      | UnaryOp op l p =>
        cases op with
        | Not => exact t_not (ih.t X W l C h ho)
        | _ => cases h
      | _ => cases h
    exact snd_leaf he ht (fun _ _ _ => rfl) (fun _ _ _ => rfl) (fun _ _ _ _ => rfl) (fun _ _ _ => rfl) (fun _ _ _ _ _ => rfl)
  | and a b ih1 ih2 =>
    have he : SE nm cl P cal n (.and a b) := fun X W e C h => by
      cases e with
      | BoolOp op es p =>
        match op, es, h with
        | .And, l :: r :: rs, h =>
          simp only [isE, Bool.and_eq_true] at h
          exact e_and (ih1.e X W l C h.1) (ih2.e X W _ C h.2)
        | .And, [], h => cases h
        | .And, [_], h => cases h
        | .Or, _, h => cases h
      | _ => cases h
    have hw : SW nm cl P cal n (.and a b) := fun X W op es p C h ho => by
      match op, es, h with
      | .And, l :: r :: rs, h =>
        simp only [isE, Bool.and_eq_true] at h
        simp only [tOk, Bool.and_eq_true] at ho
        exact w_and (ih1.t X W l C h.1 ho.1) (ih2.w X W _ _ _ C h.2 ho.2)
      | .And, [], h => cases h
      | .And, [_], h => cases h
      | .Or, _, h => cases h
    exact ⟨he, fun X W e C h ho => (by
      cases e with
      | BoolOp op es p => exact (hw X W op es p C h ho).pt
      | _ => cases h), hw, fun X W es C h => (by cases h), fun X W e C h => (by cases h), fun X W a b C h => (by cases h), fun X W es C h => (by cases h)⟩
  | or a b ih1 ih2 =>
    have he : SE nm cl P cal n (.or a b) := fun X W e C h => by
      cases e with
      | BoolOp op es p =>
        match op, es, h with
        | .Or, l :: r :: rs, h =>
          simp only [isE, Bool.and_eq_true] at h
          exact e_or (ih1.e X W l C h.1) (ih2.e X W _ C h.2)
        | .Or, [], h => cases h
        | .Or, [_], h => cases h
        | .And, _, h => cases h
      | _ => cases h
    have hw : SW nm cl P cal n (.or a b) := fun X W op es p C h ho => by
      match op, es, h with
      | .Or, l :: r :: rs, h =>
        simp only [isE, Bool.and_eq_true] at h
        simp only [tOk, Bool.and_eq_true] at ho
        exact w_or (ih1.t X W l C h.1 ho.1) (ih2.w X W _ _ _ C h.2 ho.2)
      | .Or, [], h => cases h
      | .Or, [_], h => cases h
      | .And, _, h => cases h
    exact ⟨he, fun X W e C h ho => (by
      cases e with
      | BoolOp op es p => exact (hw X W op es p C h ho).pt
      | _ => cases h), hw, fun X W es C h => (by cases h), fun X W e C h => (by cases h), fun X W a b C h => (by cases h), fun X W es C h => (by cases h)⟩
  | one a ih =>
    have he : SE nm cl P cal n (.one a) := fun X W e C h => by
      cases e with
      | BoolOp op es p =>
        match es, h with
        | [l], h => exact pe_one (ih.e X W l C h)
        | [], h => cases h
        | _ :: _ :: _, h => cases h
      | _ => cases h
    have hw : SW nm cl P cal n (.one a) := fun X W op es p C h ho => by
      match es, h with
      | [l], h =>
        cases op with
        | And => exact pw_and1 (ih.t X W l C h ho)
        | Or => exact pw_or1 (ih.t X W l C h ho)
      | [], h => cases h
      | _ :: _ :: _, h => cases h
    refine ⟨he, fun X W e C h ho => (by
      cases e with
      | BoolOp op es p => exact (hw X W op es p C h ho).pt
      | _ => cases h), hw, fun X W es C h => (by cases h), fun X W e C h => ?_, fun X W a b C h => ⟨i_one (ih.e X W b C h), fun v => folded_e h⟩, fun X W es C h => ?_⟩
    · cases e with
      | none => cases h
      | some e => exact o_some (ih.e X W e C h)
    · match es, h with
      | [e], h =>
        simp only [isC, Bool.and_eq_true] at h
        exact pts_one (ih.t X W e C h.1 h.2)
      | [], h => cases h
      | _ :: _ :: _, h => cases h
  | ite c a b ih1 ih2 ih3 =>
    have he : SE nm cl P cal n (.ite c a b) := fun X W e C h => by
      cases e with
      | IfExp t l r p =>
        simp only [isE, Bool.and_eq_true] at h
        exact e_ite (ih1.t X W t C h.1.1.1 h.1.1.2) (ih2.e X W l C h.1.2) (ih3.e X W r C h.2)
      | _ => cases h
    exact snd_leaf he (fun X W e C h ho => by cases ho) (fun _ _ _ => rfl) (fun _ _ _ => rfl) (fun _ _ _ _ => rfl) (fun _ _ _ => rfl) (fun _ _ _ _ _ => rfl)
  | call f es ih =>
    have he : SE nm cl P cal n (.call f es) := fun X W e C h => by
      simp only [isE] at h
      split at h
      · rename_i s p l ls p2
        simp only [Bool.and_eq_true] at h
        exact e_call C (of_decide_eq_true h.1.1.1) h.1.1.2 h.1.2 h.2 (ih.pa X W _ C h.2)
      · cases h
    exact snd_leaf he (.of he fun N sc e h => by cases e <;> first | rfl | cases h) (fun _ _ _ => rfl) (fun _ _ _ => rfl) (fun _ _ _ _ => rfl) (fun _ _ _ => rfl) (fun _ _ _ _ _ => rfl)
  | call0 f =>
    have he : SE nm cl P cal n (.call0 f) := fun X W e C h => by
      simp only [isE] at h
      split at h
      · rename_i s p p2
        simp only [Bool.and_eq_true] at h
        exact e_call0 C (of_decide_eq_true h.1.1) h.1.2 h.2
      · cases h
    exact snd_leaf he (.of he fun N sc e h => by cases e <;> first | rfl | cases h) (fun _ _ _ => rfl) (fun _ _ _ => rfl) (fun _ _ _ _ => rfl) (fun _ _ _ => rfl) (fun _ _ _ _ _ => rfl)
  | bi b es ih =>
    have he : SE nm cl P cal n (.bi b es) := fun X W e C h => by
      simp only [isE] at h
      split at h
      · rename_i s p l ls p2
        simp only [Bool.and_eq_true] at h
        have : s = biName b := of_decide_eq_true h.1.1
        subst this
        exact e_bi C h.1.2 h.2 (ih.pa X W _ C h.2)
      · cases h
    exact snd_leaf he (.of he fun N sc e h => by cases e <;> first | rfl | cases h) (fun _ _ _ => rfl) (fun _ _ _ => rfl) (fun _ _ _ _ => rfl) (fun _ _ _ => rfl) (fun _ _ _ _ _ => rfl)
  | isi a t ih =>
    have he : SE nm cl P cal n (.isi a t) := fun X W e C h => by
      simp only [isE] at h
      split at h
      · rename_i s p l y p3 p2
        simp only [Bool.and_eq_true] at h
        have e1 : s = ("isinstance" : Str) := of_decide_eq_true h.1.1.1.1
        have e2 : y = Str.ofString (tyN t) := of_decide_eq_true h.1.1.2
        subst e1; subst e2
        exact e_isi C h.1.1.1.2 h.1.2 (by cases t <;> first | exact C.md.bt .int | exact C.md.bt .str | exact C.md.bt .tuple | exact C.md.bt .list | exact C.md.bo _ (by decide)) h.2 (ih.e X W l C h.2)
      · cases h
    exact snd_leaf he (.of he fun N sc e h => by cases e <;> first | rfl | cases h) (fun _ _ _ => rfl) (fun _ _ _ => rfl) (fun _ _ _ _ => rfl) (fun _ _ _ => rfl) (fun _ _ _ _ _ => rfl)
  | meth m o es ih1 ih2 =>
    have he : SE nm cl P cal n (.meth m o es) := fun X W e C h => by
      simp only [isE] at h
      split at h
      · rename_i ob s ap l ls p2
        simp only [Bool.and_eq_true] at h
        have : s = mtName m := of_decide_eq_true h.1.1.1.1.1
        subst this
        exact e_meth (sc := X.env.scope) (N := X.N) h.1.1.1.1.2 h.1.2 (of_decide_eq_true h.2) h.1.1.2 (ih1.e X W ob C h.1.1.1.2) (ih2.pa X W _ C h.1.1.2)
      · cases h
    exact snd_leaf he (.of he fun N sc e h => by cases e <;> first | rfl | cases h) (fun _ _ _ => rfl) (fun _ _ _ => rfl) (fun _ _ _ _ => rfl) (fun _ _ _ => rfl) (fun _ _ _ _ _ => rfl)
  | ix a i ih1 ih2 =>
    have he : SE nm cl P cal n (.ix a i) := fun X W e C h => by
      cases e with
      | Subscript l r p =>
        simp only [isE, Bool.and_eq_true] at h
        exact e_ix (plainIx_e h.2) (ih1.e X W l C h.1) (ih2.e X W r C h.2)
      | _ => cases h
    exact snd_leaf he (.of he fun N sc e h => by cases e <;> first | rfl | cases h) (fun _ _ _ => rfl) (fun _ _ _ => rfl) (fun _ _ _ _ => rfl) (fun _ _ _ => rfl) (fun _ _ _ _ _ => rfl)
  | sl a lo hi ih1 ih2 ih3 =>
    have he : SE nm cl P cal n (.sl a lo hi) := fun X W e C h => by
      simp only [isE] at h
      split at h
      · rename_i l x y p3 p2
        simp only [Bool.and_eq_true] at h
        exact e_sl (ih1.e X W l C h.1.1) (ih2.o X W x C h.1.2) (ih3.o X W y C h.2)
      · cases h
    exact snd_leaf he (.of he fun N sc e h => by cases e <;> first | rfl | cases h) (fun _ _ _ => rfl) (fun _ _ _ => rfl) (fun _ _ _ _ => rfl) (fun _ _ _ => rfl) (fun _ _ _ _ _ => rfl)
  | no =>
    refine ⟨fun X W e C h => (by cases h), fun X W e C h => (by cases h), fun X W o es p C h => (by cases h), fun X W es C h => (by cases h), fun X W e C h => ?_, fun X W a b C h => (by cases h), fun X W es C h => (by cases h)⟩
    cases e with
    | none => exact o_none
    | some _ => cases h
  | rng a ih =>
    refine ⟨fun X W e C h => (by cases h), fun X W e C h => (by cases h), fun X W o es p C h => (by cases h), fun X W es C h => (by cases h), fun X W e C h => (by cases h), fun X W tg e C h => ?_, fun X W es C h => (by cases h)⟩
    simp only [isI] at h
    split at h
    · rename_i s p l p2
      simp only [Bool.and_eq_true] at h
      have : s = ("range" : Str) := of_decide_eq_true h.1.1
      subst this
      exact ⟨i_rng C h.1.2 h.2 (ih.e X W l C h.2), fun _ => rfl⟩
    · cases h
  | rng2 a b ih1 ih2 =>
    refine ⟨fun X W e C h => (by cases h), fun X W e C h => (by cases h), fun X W o es p C h => (by cases h), fun X W es C h => (by cases h), fun X W e C h => (by cases h), fun X W tg e C h => ?_, fun X W es C h => (by cases h)⟩
    simp only [isI] at h
    split at h
    · rename_i s p l r p2
      simp only [Bool.and_eq_true] at h
      have : s = ("range" : Str) := of_decide_eq_true h.1.1.1
      subst this
      exact ⟨i_rng2 C h.1.1.2 h.1.2 h.2 (ih1.e X W l C h.1.2) (ih2.e X W r C h.2), fun _ => rfl⟩
    · cases h
  | zip a b ih1 ih2 =>
    refine ⟨fun X W e C h => (by cases h), fun X W e C h => (by cases h), fun X W o es p C h => (by cases h), fun X W es C h => (by cases h), fun X W e C h => (by cases h), fun X W tg e C h => ?_, fun X W es C h => (by cases h)⟩
    simp only [isI] at h
    split at h
    · rename_i s p l r p2 _ _ _
      simp only [Bool.and_eq_true] at h
      have : s = ("zip" : Str) := of_decide_eq_true h.1.1.1
      subst this
      exact ⟨i_zip C h.1.1.2 h.1.2 h.2 (ih1.e X W l C h.1.2) (ih2.e X W r C h.2), fun _ => rfl⟩
    · cases h
  | enm a ih =>
    refine ⟨fun X W e C h => (by cases h), fun X W e C h => (by cases h), fun X W o es p C h => (by cases h), fun X W es C h => (by cases h), fun X W e C h => (by cases h), fun X W tg e C h => ?_, fun X W es C h => (by cases h)⟩
    simp only [isI] at h
    split at h
    · rename_i s p l p2 _ _ _
      simp only [Bool.and_eq_true] at h
      have : s = ("enumerate" : Str) := of_decide_eq_true h.1.1
      subst this
      exact ⟨i_enm C h.1.2 h.2 (ih.e X W l C h.2), fun _ => rfl⟩
    · cases h
  | comp own t it c x ih1 ih2 ih3 =>
    have he : SE nm cl P cal n (.comp own t it c x) := fun X W e C h => by
      simp only [isE] at h
      split at h
      · rename_i elt tg iter ifs as scope p
        simp only [Bool.and_eq_true] at h
        have : as = 0 := of_decide_eq_true h.1.1.1.1.1.1
        subst this
        exact s_comp ih1.i ih2.c ih3.e C h.1.1.1.1.1.2 h.1.1.1.1.2 h.1.1.1.2 h.1.1.2 h.1.2 h.2
      · cases h
    exact snd_leaf he (.of he fun N sc e h => by cases e <;> first | rfl | cases h) (fun _ _ _ => rfl) (fun _ _ _ => rfl) (fun _ _ _ _ => rfl) (fun _ _ _ => rfl) (fun _ _ _ _ _ => rfl)
  | vard i =>
    have he : SE nm cl P cal n (.vard i) := fun X W e C h => by
      cases e with
      | Name s p =>
        simp only [isE, Bool.and_eq_true] at h
        exact e_vard (of_decide_eq_true h.1.1) h.1.2 h.2
      | _ => cases h
    exact snd_leaf he (.of he fun N sc e h => by cases e <;> first | rfl | cases h) (fun _ _ _ => rfl) (fun _ _ _ => rfl) (fun _ _ _ _ => rfl) (fun _ _ _ => rfl) (fun _ _ _ _ _ => rfl)
  | varp i =>
    have he : SE nm cl P cal n (.varp i) := fun X W e C h => by
      cases e with
      | Name s p =>
        simp only [isE, Bool.and_eq_true] at h
        exact e_varp (of_decide_eq_true h.1.1) h.1.2 h.2
      | _ => cases h
    exact snd_leaf he (.of he fun N sc e h => by cases e <;> first | rfl | cases h) (fun _ _ _ => rfl) (fun _ _ _ => rfl) (fun _ _ _ _ => rfl) (fun _ _ _ => rfl) (fun _ _ _ _ _ => rfl)
  | ptup es ih =>
    have he : SE nm cl P cal n (.ptup es) := fun X W e C h => by
      cases e with
      | Tuple l k p => exact e_ptup (ih.pa X W l C h)
      | _ => cases h
    exact snd_leaf he (.of he fun N sc e h => by cases e <;> first | rfl | cases h) (fun _ _ _ => rfl) (fun _ _ _ => rfl) (fun _ _ _ _ => rfl) (fun _ _ _ => rfl) (fun _ _ _ _ _ => rfl)
  | ptl a ih =>
    have he : SE nm cl P cal n (.ptl a) := fun X W e C h => by
      simp only [isE] at h
      split at h
      · rename_i s p l p2
        simp only [Bool.and_eq_true] at h
        have : s = ("tuple" : Str) := of_decide_eq_true h.1.1
        subst this
        exact e_ptl C h.1.2 h.2 (ih.e X W l C h.2)
      · cases h
    exact snd_leaf he (.of he fun N sc e h => by cases e <;> first | rfl | cases h) (fun _ _ _ => rfl) (fun _ _ _ => rfl) (fun _ _ _ _ => rfl) (fun _ _ _ => rfl) (fun _ _ _ _ _ => rfl)
  | dix a i ih1 ih2 =>
    have he : SE nm cl P cal n (.dix a i) := fun X W e C h => by
      cases e with
      | Subscript l r p =>
        simp only [isE, Bool.and_eq_true] at h
        exact e_dix C (plainIx_e h.2) (ih1.e X W l C h.1) (ih2.e X W r C h.2)
      | _ => cases h
    exact snd_leaf he (.of he fun N sc e h => by cases e <;> first | rfl | cases h) (fun _ _ _ => rfl) (fun _ _ _ => rfl) (fun _ _ _ _ => rfl) (fun _ _ _ => rfl) (fun _ _ _ _ _ => rfl)
  | dgt d k z ih1 ih2 ih3 =>
    have he : SE nm cl P cal n (.dgt d k z) := fun X W e C h => by
      simp only [isE] at h
      split at h
      · rename_i ob s ap a1 a2 p2
        simp only [Bool.and_eq_true] at h
        have : s = ("get" : Str) := of_decide_eq_true h.1.1.1.1.1
        subst this
        exact e_dgt C h.1.1.1.1.2 h.2 h.1.1.2 h.1.2 (ih1.e X W ob C h.1.1.1.2) (ih2.e X W a1 C h.1.1.2) (ih3.e X W a2 C h.1.2)
      · cases h
    exact snd_leaf he (.of he fun N sc e h => by cases e <;> first | rfl | cases h) (fun _ _ _ => rfl) (fun _ _ _ => rfl) (fun _ _ _ _ => rfl) (fun _ _ _ => rfl) (fun _ _ _ _ _ => rfl)
  | din ng a b ih1 ih2 =>
    have he : SE nm cl P cal n (.din ng a b) := fun X W e C h => by
      simp only [isE] at h
      split at h
      · rename_i l op r p
        simp only [Bool.and_eq_true] at h
        have : op = if ng then .NotIn else .In := of_decide_eq_true h.1.1
        subst this
        exact e_din C (behind_e h.2 _) (ih1.e X W l C h.1.2) (ih2.e X W r C h.2)
      · cases h
    have ht : ST nm cl P cal n (.din ng a b) := fun X W e C h _ => by
      simp only [isE] at h
      split at h
      · rename_i l op r p
        simp only [Bool.and_eq_true] at h
        have : op = if ng then .NotIn else .In := of_decide_eq_true h.1.1
        subst this
        exact t_din C (behind_e h.2 _) (ih1.e X W l C h.1.2) (ih2.e X W r C h.2)
      · cases h
    exact snd_leaf he ht (fun _ _ _ => rfl) (fun _ _ _ => rfl) (fun _ _ _ _ => rfl) (fun _ _ _ => rfl) (fun _ _ _ _ _ => rfl)
  | dct0 =>
    have he : SE nm cl P cal n .dct0 := fun X W e C h => by
      simp only [isE] at h
      split at h
      · rename_i p
        exact e_dct0
      · cases h
    exact snd_leaf he (.of he fun N sc e h => by cases e <;> first | rfl | cases h) (fun _ _ _ => rfl) (fun _ _ _ => rfl) (fun _ _ _ _ => rfl) (fun _ _ _ => rfl) (fun _ _ _ _ _ => rfl)
  | newd =>
    have he : SE nm cl P cal n .newd := fun X W e C h => by
      simp only [isE] at h
      split at h
      · rename_i p
        exact e_newd
      · cases h
    exact snd_leaf he (.of he fun N sc e h => by cases e <;> first | rfl | cases h) (fun _ _ _ => rfl) (fun _ _ _ => rfl) (fun _ _ _ _ => rfl) (fun _ _ _ => rfl) (fun _ _ _ _ _ => rfl)
  | dcmp own t it c k v ih1 ih2 ih3 ih4 =>
    have he : SE nm cl P cal n (.dcmp own t it c k v) := fun X W e C h => by
      simp only [isE] at h
      split at h
      · rename_i key val tg iter ifs as scope p
        simp only [Bool.and_eq_true] at h
        have : as = 0 := of_decide_eq_true h.1.1.1.1.1.1.1
        subst this
        exact s_dcmp ih1.i ih2.c ih3.e ih4.e C h.1.1.1.1.1.1.2 h.1.1.1.1.1.2 h.1.1.1.1.2 h.1.1.1.2 h.1.1.2 h.1.2 h.2
      · cases h
    exact snd_leaf he (.of he fun N sc e h => by cases e <;> first | rfl | cases h) (fun _ _ _ => rfl) (fun _ _ _ => rfl) (fun _ _ _ _ => rfl) (fun _ _ _ => rfl) (fun _ _ _ _ _ => rfl)
  | itm a ih =>
    refine ⟨fun X W e C h => (by cases h), fun X W e C h => (by cases h), fun X W o es p C h => (by cases h), fun X W es C h => (by cases h), fun X W e C h => (by cases h), fun X W tg e C h => ?_, fun X W es C h => (by cases h)⟩
    simp only [isI] at h
    split at h
    · rename_i ob s ap p2 _ _ _
      simp only [Bool.and_eq_true] at h
      have : s = ("items" : Str) := of_decide_eq_true h.1.1.1
      subst this
      exact ⟨i_itm h.1.1.2 h.1.2 (ih.e X W ob C h.2), fun _ => rfl⟩
    · cases h
  | dof a ih =>
    have he : SE nm cl P cal n (.dof a) := fun X W e C h => by
      simp only [isE] at h
      split at h
      · rename_i s p l p2
        simp only [Bool.and_eq_true] at h
        have : s = ("dict" : Str) := of_decide_eq_true h.1.1
        subst this
        exact e_dof C h.1.2 h.2 (ih.e X W l C h.2)
      · cases h
    exact snd_leaf he (.of he fun N sc e h => by cases e <;> first | rfl | cases h) (fun _ _ _ => rfl) (fun _ _ _ => rfl) (fun _ _ _ _ => rfl) (fun _ _ _ => rfl) (fun _ _ _ _ _ => rfl)
  | deq0 ng a ih =>
    have he : SE nm cl P cal n (.deq0 ng a) := fun X W e C h => by
      simp only [isE] at h
      split at h
      · rename_i l op p2 p
        simp only [Bool.and_eq_true] at h
        have : op = if ng then .NotEq else .Eq := of_decide_eq_true h.1
        subst this
        exact e_deq0 C (ih.e X W l C h.2)
      · cases h
    have ht : ST nm cl P cal n (.deq0 ng a) := fun X W e C h _ => by
      simp only [isE] at h
      split at h
      · rename_i l op p2 p
        simp only [Bool.and_eq_true] at h
        have : op = if ng then .NotEq else .Eq := of_decide_eq_true h.1
        subst this
        exact t_deq0 C (ih.e X W l C h.2)
      · cases h
    exact snd_leaf he ht (fun _ _ _ => rfl) (fun _ _ _ => rfl) (fun _ _ _ _ => rfl) (fun _ _ _ => rfl) (fun _ _ _ _ _ => rfl)
  | srt a ih =>
    have he : SE nm cl P cal n (.srt a) := fun X W e C h => by
      simp only [isE] at h
      split at h
      · rename_i s p l p2
        simp only [Bool.and_eq_true] at h
        have : s = ("sorted" : Str) := of_decide_eq_true h.1.1
        subst this
        exact e_srt C h.1.2 h.2 (ih.e X W l C h.2)
      · cases h
    exact snd_leaf he (.of he fun N sc e h => by cases e <;> first | rfl | cases h) (fun _ _ _ => rfl) (fun _ _ _ => rfl) (fun _ _ _ _ => rfl) (fun _ _ _ => rfl) (fun _ _ _ _ _ => rfl)
  | srti a ih =>
    have he : SE nm cl P cal n (.srti a) := fun X W e C h => by
      simp only [isE] at h
      split at h
      · rename_i s p ob y ap p3 p2
        simp only [Bool.and_eq_true] at h
        have : s = ("sorted" : Str) := of_decide_eq_true h.1.1.1.1.1
        subst this
        have : y = ("items" : Str) := of_decide_eq_true h.1.1.1.2
        subst this
        exact e_srti (sc := X.env.scope) (N := X.N) C h.1.1.1.1.2 h.1.1.2 h.1.2 (ih.e X W ob C h.2)
      · cases h
    exact snd_leaf he (.of he fun N sc e h => by cases e <;> first | rfl | cases h) (fun _ _ _ => rfl) (fun _ _ _ => rfl) (fun _ _ _ _ => rfl) (fun _ _ _ => rfl) (fun _ _ _ _ _ => rfl)
  | stars a b ih1 ih2 =>
    have he : SE nm cl P cal n (.stars a b) := fun X W e C h => by
      simp only [isE] at h
      split at h
      · rename_i l p1 r p2 p
        simp only [Bool.and_eq_true] at h
        exact e_stars C (ih1.e X W l C h.1) (ih2.e X W r C h.2)
      · cases h
    exact snd_leaf he (.of he fun N sc e h => by cases e <;> first | rfl | cases h) (fun _ _ _ => rfl) (fun _ _ _ => rfl) (fun _ _ _ _ => rfl) (fun _ _ _ => rfl) (fun _ _ _ _ _ => rfl)
  | mk j es ih =>
    have he : SE nm cl P cal n (.mk j es) := fun X W e C h => by
      simp only [isE] at h
      split at h
      · rename_i s p ls p2
        simp only [Bool.and_eq_true] at h
        exact e_mk C (of_decide_eq_true h.1.1.1) h.1.1.2 h.1.2 h.2 (ih.pa X W ls C h.2)
      · cases h
    exact snd_leaf he (.of he fun N sc e h => by cases e <;> first | rfl | cases h) (fun _ _ _ => rfl) (fun _ _ _ => rfl) (fun _ _ _ _ => rfl) (fun _ _ _ => rfl) (fun _ _ _ _ _ => rfl)
  | mkc i j es ih =>
    have he : SE nm cl P cal n (.mkc i j es) := fun X W e C h => by
      simp only [isE] at h
      split at h
      · rename_i s p l ls p2
        simp only [Bool.and_eq_true] at h
        exact e_mkc C (of_decide_eq_true h.1.1.1) h.1.1.2 h.1.2 h.2 (ih.pa X W (l :: ls) C h.2)
      · cases h
    exact snd_leaf he (.of he fun N sc e h => by cases e <;> first | rfl | cases h) (fun _ _ _ => rfl) (fun _ _ _ => rfl) (fun _ _ _ _ => rfl) (fun _ _ _ => rfl) (fun _ _ _ _ _ => rfl)
  | slt j o ih =>
    have he : SE nm cl P cal n (.slt j o) := fun X W e C h => by
      cases e with
      | Attribute ob s p =>
        simp only [isE, Bool.and_eq_true] at h
        exact e_slt C (of_decide_eq_true h.1.1) h.1.2 (ih.e X W ob C h.2)
      | _ => cases h
    exact snd_leaf he (.of he fun N sc e h => by cases e <;> first | rfl | cases h) (fun _ _ _ => rfl) (fun _ _ _ => rfl) (fun _ _ _ _ => rfl) (fun _ _ _ => rfl) (fun _ _ _ _ _ => rfl)
  | sltp j o ih =>
    have he : SE nm cl P cal n (.sltp j o) := fun X W e C h => by
      cases e with
      | Attribute ob s p =>
        simp only [isE, Bool.and_eq_true] at h
        exact e_sltp C (of_decide_eq_true h.1.1) h.1.2 (ih.e X W ob C h.2)
      | _ => cases h
    exact snd_leaf he (.of he fun N sc e h => by cases e <;> first | rfl | cases h) (fun _ _ _ => rfl) (fun _ _ _ => rfl) (fun _ _ _ _ => rfl) (fun _ _ _ => rfl) (fun _ _ _ _ _ => rfl)
  | mth j o es ih1 ih2 =>
    have he : SE nm cl P cal n (.mth j o es) := fun X W e C h => by
      simp only [isE] at h
      split at h
      · rename_i ob s ap ls p2
        simp only [Bool.and_eq_true] at h
        exact e_mth C (of_decide_eq_true h.1.1.1.1.1) h.1.1.1.1.2 h.1.2 (of_decide_eq_true h.2) h.1.1.2 (ih1.e X W ob C h.1.1.1.2) (ih2.pa X W ls C h.1.1.2)
      · cases h
    exact snd_leaf he (.of he fun N sc e h => by cases e <;> first | rfl | cases h) (fun _ _ _ => rfl) (fun _ _ _ => rfl) (fun _ _ _ _ => rfl) (fun _ _ _ => rfl) (fun _ _ _ _ _ => rfl)
  | prp j o ih =>
    have he : SE nm cl P cal n (.prp j o) := fun X W e C h => by
      cases e with
      | Attribute ob s p =>
        simp only [isE, Bool.and_eq_true] at h
        exact e_prp C (of_decide_eq_true h.1.1) h.1.2 (ih.e X W ob C h.2)
      | _ => cases h
    exact snd_leaf he (.of he fun N sc e h => by cases e <;> first | rfl | cases h) (fun _ _ _ => rfl) (fun _ _ _ => rfl) (fun _ _ _ _ => rfl) (fun _ _ _ => rfl) (fun _ _ _ _ _ => rfl)
  | cme j es ih =>
    have he : SE nm cl P cal n (.cme j es) := fun X W e C h => by
      simp only [isE] at h
      split at h
      · rename_i c p3 s ap ls p2
        simp only [Bool.and_eq_true] at h
        exact e_cme C (of_decide_eq_true h.1.1.1.1.1) h.1.1.1.1.2 h.1.1.1.2 h.1.2 (of_decide_eq_true h.2) h.1.1.2 (ih.pa X W ls C h.1.1.2)
      · cases h
    exact snd_leaf he (.of he fun N sc e h => by cases e <;> first | rfl | cases h) (fun _ _ _ => rfl) (fun _ _ _ => rfl) (fun _ _ _ _ => rfl) (fun _ _ _ => rfl) (fun _ _ _ _ _ => rfl)
  | isc j o ih =>
    have he : SE nm cl P cal n (.isc j o) := fun X W e C h => by
      simp only [isE] at h
      split at h
      · rename_i s p l y p3 p2
        simp only [Bool.and_eq_true] at h
        have e1 : s = ("isinstance" : Str) := of_decide_eq_true h.1.1.1.1.1
        subst e1
        exact e_isc C (of_decide_eq_true h.1.1.1.2) h.1.1.1.1.2 h.1.1.2 h.1.2 h.2 (ih.e X W l C h.2)
      · cases h
    exact snd_leaf he (.of he fun N sc e h => by cases e <;> first | rfl | cases h) (fun _ _ _ => rfl) (fun _ _ _ => rfl) (fun _ _ _ _ => rfl) (fun _ _ _ => rfl) (fun _ _ _ _ _ => rfl)
  | ostr o ih =>
    have he : SE nm cl P cal n (.ostr o) := fun X W e C h => by
      simp only [isE] at h
      split at h
      · rename_i s p l p2
        simp only [Bool.and_eq_true] at h
        have : s = ("str" : Str) := of_decide_eq_true h.1.1
        subst this
        exact e_ostr C h.1.2 h.2 (ih.e X W l C h.2)
      · cases h
    exact snd_leaf he (.of he fun N sc e h => by cases e <;> first | rfl | cases h) (fun _ _ _ => rfl) (fun _ _ _ => rfl) (fun _ _ _ _ => rfl) (fun _ _ _ => rfl) (fun _ _ _ _ _ => rfl)
  | newo o ih =>
    have he : SE nm cl P cal n (.newo o) := fun X W e C h => by
      simp only [isE] at h
      split at h
      · rename_i s p l p2
        simp only [Bool.and_eq_true] at h
        have : s = ("list" : Str) := of_decide_eq_true h.1.1
        subst this
        exact e_newo C h.1.2 h.2 (ih.e X W l C h.2)
      · cases h
    exact snd_leaf he (.of he fun N sc e h => by cases e <;> first | rfl | cases h) (fun _ _ _ => rfl) (fun _ _ _ => rfl) (fun _ _ _ _ => rfl) (fun _ _ _ => rfl) (fun _ _ _ _ _ => rfl)
  | dln o ih =>
    have he : SE nm cl P cal n (.dln o) := fun X W e C h => by
      simp only [isE] at h
      split at h
      · rename_i s p l p2
        simp only [Bool.and_eq_true] at h
        have : s = ("len" : Str) := of_decide_eq_true h.1.1
        subst this
        exact e_dln C h.1.2 h.2 (ih.e X W l C h.2)
      · cases h
    exact snd_leaf he (.of he fun N sc e h => by cases e <;> first | rfl | cases h) (fun _ _ _ => rfl) (fun _ _ _ => rfl) (fun _ _ _ _ => rfl) (fun _ _ _ => rfl) (fun _ _ _ _ _ => rfl)
  | pop i a ih =>
    have he : SE nm cl P cal n (.pop i a) := fun X W e C h => by
      simp only [isE] at h
      split at h
      · rename_i s p y ap l p2
        simp only [Bool.and_eq_true] at h
        have : y = ("pop" : Str) := of_decide_eq_true h.1.1.2
        subst this
        exact e_pop (of_decide_eq_true h.1.1.1.1.1) h.1.1.1.1.2 h.1.1.1.2 h.1.2 h.2 (ih.e X W l C h.2)
      · cases h
    exact snd_leaf he (.of he fun N sc e h => by cases e <;> first | rfl | cases h) (fun _ _ _ => rfl) (fun _ _ _ => rfl) (fun _ _ _ _ => rfl) (fun _ _ _ => rfl) (fun _ _ _ _ _ => rfl)
  | dits a ih =>
    have he : SE nm cl P cal n (.dits a) := fun X W e C h => by
      simp only [isE] at h
      split at h
      · rename_i s p ob y ap p3 p2
        simp only [Bool.and_eq_true] at h
        have : s = ("list" : Str) := of_decide_eq_true h.1.1.1.1.1
        subst this
        have : y = ("items" : Str) := of_decide_eq_true h.1.1.1.2
        subst this
        exact e_dits C h.1.1.1.1.2 h.1.1.2 h.1.2 (ih.e X W ob C h.2)
      · cases h
    exact snd_leaf he (.of he fun N sc e h => by cases e <;> first | rfl | cases h) (fun _ _ _ => rfl) (fun _ _ _ => rfl) (fun _ _ _ _ => rfl) (fun _ _ _ => rfl) (fun _ _ _ _ _ => rfl)
  | isb ng b a ih =>
    have he : SE nm cl P cal n (.isb ng b a) := fun X W e C h => by
      simp only [isE] at h
      split at h
      · rename_i l op c _ p2 p
        simp only [Bool.and_eq_true] at h
        have : op = if ng then .IsNot else .Is := of_decide_eq_true h.1.1
        subst this
        have : b = c := eq_of_beq h.1.2
        subst this
        exact e_isb (ih.e X W l C h.2)
      · cases h
    have ht : ST nm cl P cal n (.isb ng b a) := fun X W e C h _ => by
      simp only [isE] at h
      split at h
      · rename_i l op c _ p2 p
        simp only [Bool.and_eq_true] at h
        have : op = if ng then .IsNot else .Is := of_decide_eq_true h.1.1
        subst this
        have : b = c := eq_of_beq h.1.2
        subst this
        exact t_isb (ih.e X W l C h.2)
      · cases h
    exact snd_leaf he ht (fun _ _ _ => rfl) (fun _ _ _ => rfl) (fun _ _ _ _ => rfl) (fun _ _ _ => rfl) (fun _ _ _ _ _ => rfl)
  | rpr a ih =>
    have he : SE nm cl P cal n (.rpr a) := fun X W e C h => by
      simp only [isE] at h
      split at h
      · rename_i s p l p2
        simp only [Bool.and_eq_true] at h
        have : s = ("repr" : Str) := of_decide_eq_true h.1.1
        subst this
        exact e_rpr C h.1.2 h.2 (ih.e X W l C h.2)
      · cases h
    exact snd_leaf he (.of he fun N sc e h => by cases e <;> first | rfl | cases h) (fun _ _ _ => rfl) (fun _ _ _ => rfl) (fun _ _ _ _ => rfl) (fun _ _ _ => rfl) (fun _ _ _ _ _ => rfl)
  | dlit2 k1 v1 k2 v2 ih1 ih2 =>
    have he : SE nm cl P cal n (.dlit2 k1 v1 k2 v2) := fun X W e C h => by
      simp only [isE] at h
      split at h
      · rename_i x _ _ y _ _ u v p
        simp only [Bool.and_eq_true] at h
        obtain ⟨⟨⟨⟨⟨h1, h2⟩, h3⟩, h4⟩, h5⟩, h6⟩ := h
        have : x = S' k1 := of_decide_eq_true h1
        subst this
        have : y = S' k2 := of_decide_eq_true h3
        subst this
        exact e_dlit2 (fun c hc => by simpa using List.all_eq_true.mp h2 c hc) (fun c hc => by simpa using List.all_eq_true.mp h4 c hc) (ih1.e X W u C h5) (ih2.e X W v C h6)
      · cases h
    exact snd_leaf he (.of he fun N sc e h => by cases e <;> first | rfl | cases h) (fun _ _ _ => rfl) (fun _ _ _ => rfl) (fun _ _ _ _ => rfl) (fun _ _ _ => rfl) (fun _ _ _ _ _ => rfl)
  | rfc j f es _ =>
    have he : SE nm cl P cal n (.rfc j f es) := fun X W e C h => by
      simp only [isE] at h
      split at h
      · rename_i x p params y q1 l ls q2 scope q3 pos
        simp only [Bool.and_eq_true] at h
        obtain ⟨⟨⟨⟨⟨⟨⟨⟨⟨⟨h1, h2⟩, h3⟩, h4⟩, h5⟩, h6⟩, h7⟩, h8⟩, h9⟩, h10⟩, h11⟩ := h
        exact e_rfc C h1 (of_decide_eq_true h2) h3 h4 h5 h6 (of_decide_eq_true h7) h8 h9 h10 h11
      · cases h
    exact snd_leaf he (.of he fun N sc e h => by cases e <;> first | rfl | cases h) (fun _ _ _ => rfl) (fun _ _ _ => rfl) (fun _ _ _ _ => rfl) (fun _ _ _ => rfl) (fun _ _ _ _ _ => rfl)
  | comp2 own own1 t it t1 it1 x ih1 ih2 ih3 =>
    have he : SE nm cl P cal n (.comp2 own own1 t it t1 it1 x) := fun X W e C h => by
      simp only [isE] at h
      split at h
      · rename_i elt tg iter as tg1 iter1 as1 scope pos
        simp only [Bool.and_eq_true] at h
        obtain ⟨⟨⟨⟨⟨⟨⟨⟨⟨⟨⟨h1, h2⟩, h3⟩, h4⟩, h5⟩, h6⟩, h7⟩, h8⟩, h9⟩, h10⟩, h11⟩, h12⟩ := h
        have : as = 0 := of_decide_eq_true h1
        subst this
        have : as1 = 0 := of_decide_eq_true h2
        subst this
        obtain ⟨q1, q2⟩ := ih1.i X W tg iter C h3
        have key := pe_lc2 (X := X) (pos := pos) (own := ownN X.N own) (vs1 := own1) (g := tgR (kx cl X) t) (tt := tYes) (g1 := tgR (kx cl X) t1) (tt1 := tYes) (wi1 := TI' nm cl X noW (evi P cal it1)) (te := TX nm cl X noW (ev P cal x)) C.calm C.nodup q1 (blkOk_by h4) (fun i hi => by rw [ownN_map]; simpa using List.all_eq_true.mp h12 i hi)
          (fun s H Ca ce fp => g_tg (X := X.blk s H scope (compEnvC scope ce Ca X.env) fp) C.calm C.nodup (fn := false) (fun z => by cases z) t tg h5)
          (fun s H Ca ce fp => pts_nil)
          (fun s H Ca ce fp => (ih2.i (X.blk s H scope (compEnvC scope ce Ca X.env) fp) noW tg1 iter1 C.blk h6).1)
          (fun s H Ca ce fp => g_tg (X := X.blk s H scope (compEnvC scope ce Ca X.env) fp) C.calm C.nodup (fn := false) (fun z => by cases z) t1 tg1 h8)
          (fun s H Ca ce fp => pts_nil)
          (fun s H Ca ce fp => ih3.e (X.blk s H scope (compEnvC scope ce Ca X.env) fp) noW elt C.blk h9) q2
          (fun env v => by cases iter1 <;> first | rfl | cases h7)
        rw [ownN_map] at key
        exact PE.imp key fun σ H Q h => comp2_read rfl h10 h11 h
      · cases h
    exact snd_leaf he (.of he fun N sc e h => by cases e <;> first | rfl | cases h) (fun _ _ _ => rfl) (fun _ _ _ => rfl) (fun _ _ _ _ => rfl) (fun _ _ _ => rfl) (fun _ _ _ _ _ => rfl)
  | isn ng a ih =>
    have he : SE nm cl P cal n (.isn ng a) := fun X W e C h => by
      simp only [isE] at h
      split at h
      · rename_i l op _ p2 p
        simp only [Bool.and_eq_true] at h
        have : op = if ng then .IsNot else .Is := of_decide_eq_true h.1
        subst this
        exact e_isn (ih.e X W l C h.2)
      · cases h
    have ht : ST nm cl P cal n (.isn ng a) := fun X W e C h _ => by
      simp only [isE] at h
      split at h
      · rename_i l op _ p2 p
        simp only [Bool.and_eq_true] at h
        have : op = if ng then .IsNot else .Is := of_decide_eq_true h.1
        subst this
        exact t_isn (ih.e X W l C h.2)
      · cases h
    exact snd_leaf he ht (fun _ _ _ => rfl) (fun _ _ _ => rfl) (fun _ _ _ _ => rfl) (fun _ _ _ => rfl) (fun _ _ _ _ _ => rfl)
  | olen o ih =>
    have he : SE nm cl P cal n (.olen o) := fun X W e C h => by
      simp only [isE] at h
      split at h
      · rename_i s p l p2
        simp only [Bool.and_eq_true] at h
        have : s = ("len" : Str) := of_decide_eq_true h.1.1
        subst this
        exact e_olen C h.1.2 h.2 (ih.e X W l C h.2)
      · cases h
    exact snd_leaf he (.of he fun N sc e h => by cases e <;> first | rfl | cases h) (fun _ _ _ => rfl) (fun _ _ _ => rfl) (fun _ _ _ _ => rfl) (fun _ _ _ => rfl) (fun _ _ _ _ _ => rfl)
  | obool o ih =>
    have he : SE nm cl P cal n (.obool o) := fun X W e C h => by
      simp only [isE] at h
      split at h
      · rename_i s p l p2
        simp only [Bool.and_eq_true] at h
        have : s = ("bool" : Str) := of_decide_eq_true h.1.1
        subst this
        exact e_obool C h.1.2 h.2 (ih.e X W l C h.2)
      · cases h
    exact snd_leaf he (.of he fun N sc e h => by cases e <;> first | rfl | cases h) (fun _ _ _ => rfl) (fun _ _ _ => rfl) (fun _ _ _ _ => rfl) (fun _ _ _ => rfl) (fun _ _ _ _ _ => rfl)
  | newc own t it c x ih1 ih2 ih3 =>
    have he : SE nm cl P cal n (.newc own t it c x) := fun X W e C h => by
      simp only [isE] at h
      split at h
      · rename_i elt tg iter ifs as scope p
        simp only [Bool.and_eq_true] at h
        have : as = 0 := of_decide_eq_true h.1.1.1.1.1.1
        subst this
        exact s_newc ih1.i ih2.c ih3.e C h.1.1.1.1.1.2 h.1.1.1.1.2 h.1.1.1.2 h.1.1.2 h.1.2 h.2
      · cases h
    exact snd_leaf he (.of he fun N sc e h => by cases e <;> first | rfl | cases h) (fun _ _ _ => rfl) (fun _ _ _ => rfl) (fun _ _ _ _ => rfl) (fun _ _ _ => rfl) (fun _ _ _ _ _ => rfl)
  | fld i k =>
    exact ⟨fun X W e C h => (by cases h), fun X W e C h => (by cases h), fun X W o es p C h => (by cases h), fun X W es C h => (by cases h), fun X W e C h => (by cases h), fun X W a b C h => (by cases h), fun X W es C h => (by cases h)⟩
  | repl o c z ih =>
    exact ⟨fun X W e C h => (by cases h), fun X W e C h => (by cases h), fun X W o es p C h => (by cases h), fun X W es C h => (by cases h), fun X W e C h => (by cases h), fun X W a b C h => (by cases h), fun X W es C h => (by cases h)⟩
  | fjoin es ih =>
    have he : SE nm cl P cal n (.fjoin es) := fun X W e C h => by
      simp only [isE] at h
      split at h
      · rename_i v1 v2 vs p
        exact e_fjoin (ih.a X W (v1 :: v2 :: vs) C h).2
      · cases h
    exact snd_leaf he (.of he fun N sc e h => by cases e <;> first | rfl | cases h) (fun _ _ _ => rfl) (fun _ _ _ => rfl) (fun _ _ _ _ => rfl) (fun _ _ _ => rfl) (fun _ _ _ _ _ => rfl)
  | fmt x ih =>
    have he : SE nm cl P cal n (.fmt x) := fun X W e C h => by
      simp only [isE] at h
      split at h
      · rename_i v c p
        simp only [Bool.and_eq_true] at h
        have : c = -1 := of_decide_eq_true h.1
        subst this
        exact e_fmt (ih.e X W v C h.2)
      · cases h
    exact snd_leaf he (.of he fun N sc e h => by cases e <;> first | rfl | cases h) (fun _ _ _ => rfl) (fun _ _ _ => rfl) (fun _ _ _ _ => rfl) (fun _ _ _ => rfl) (fun _ _ _ _ _ => rfl)
  | fmt02 x ih =>
    have he : SE nm cl P cal n (.fmt02 x) := fun X W e C h => by
      simp only [isE] at h
      split at h
      · rename_i v c s j p1 p2 p
        simp only [Bool.and_eq_true] at h
        have e1 : c = -1 := of_decide_eq_true h.1.1
        have e2 : s = S' [48, 50] := of_decide_eq_true h.1.2
        subst e1; subst e2
        exact e_fmt02 C (ih.e X W v C h.2)
      · cases h
    exact snd_leaf he (.of he fun N sc e h => by cases e <;> first | rfl | cases h) (fun _ _ _ => rfl) (fun _ _ _ => rfl) (fun _ _ _ _ => rfl) (fun _ _ _ => rfl) (fun _ _ _ _ _ => rfl)
end
end Iv
end
section
/-! Ivx: statements and calls of the interpreter. -/
namespace Iv
/-- a clause: the class, the name's place, what is handed back -/
structure Hd where
  c : Nat
  i : Option Nat
  e : Ex
inductive St where
  | skip | seq (a b : St)
  | never
  | asg (i : Nat) (e : Ex)
  | asgT (t : Tg) (e : Ex)
  | par2 (i j : Nat) (a b : Ex)
  | par3 (i j k : Nat) (a b c : Ex)
  /-- the same, by a tuple: names that a comprehension reads -/
  | par3c (i j k : Nat) (a b c : Ex)
  | aug (i : Nat) (o : BOp) (e : Ex)
  | setix (i : Nat) (ix e : Ex)
  | app (i : Nat) (e : Ex)
  | ext (i : Nat) (e : Ex)
  | setd (i : Nat) (k e : Ex)
  | setsl (j : Nat) (o e : Ex)
  | frzv (i : Nat) (b : St)
  | expr (e : Ex)
  | ret (e : Ex) | retN
  | ite (c : Ex) (a b : St)
  | whl (c : Ex) (b : St)
  | loop (t : Tg) (it : Ex) (b : St)
  | brk | cnt
  | rse (c : Nat) (es : Ex)
  | tri (b : St) (hs : List Hd)

inductive RS where
  | nx (r : Ev) (S : Hs) | ret (v : Vl) (S : Hs) | brk (r : Ev) (S : Hs) | cnt (r : Ev) (S : Hs)
  | exc (c : Nat) (fs : List D) (r : Ev) (S : Hs) | bad

/-- how the arguments come: as they are; with defaults behind; the rest as a tuple -/
inductive Ad where
  | all | dfl (ds : List D) | star
structure Fn where
  np : Nat
  ns : Nat
  body : St
  ad : Ad := .all
def adapt (ad : Ad) (np : Nat) (vs : List Vl) : Option (List Vl) :=
  match ad with
  | .all => some vs
  | .dfl ds => some (vs ++ ds.map .d)
  | .star => match np with
    | 2 => match vs with
      | v :: rest => if rest.length ≤ 5 then (dsOf rest).map fun xs => [v, .d (.tup xs)] else none
      | [] => none
    | _ => none
/-- a slot is set -/
def putF (i : Nat) (x : D) (fs : List (Option D)) : List (Option D) := (fs ++ List.replicate (i + 1 - fs.length) none).set i (some x)
/-- what str() takes in an own error -/
def strD : D → Bool
  | .non => true
  | .bl _ => true
  | .str _ => true
  | .int i => decide (i.natAbs < 2 ^ 1900)
  | _ => false
/-- no caught errors among the names -/
def unx (r : Ev) : Ev := r.map fun o => match o with
  | some (.xc _ _) => none
  | o => o
section
variable (P : Prg) (cal : Cal)
/-- the clauses, one after the other -/
def exh : List Hd → Nat → List D → Ev → Hs → RS
  | [], c, fs, r, S => .exc c fs r S
  | h :: hs, c, fs, r, S => if P.sub c h.c then match ev P cal h.e (match h.i with
      | some i => (unx r).set i (some (.xc c fs))
      | none => unx r) S with
    | .ok v S1 => .ret v S1
    | _ => .bad
    else exh hs c fs r S
def forL (t : Tg) (f : Ev → Hs → RS) : List D → Ev → Hs → RS
  | [], r, S => .nx r S
  | x :: xs, r, S => match asgD t x r with
    | none => .bad
    | some r1 => match f r1 S with
      | .nx r2 S2 => forL t f xs r2 S2
      | .cnt r2 S2 => forL t f xs r2 S2
      | .brk r2 S2 => .nx r2 S2
      | .ret v S2 => .ret v S2
      | .exc c fs r2 S2 => .exc c fs r2 S2
      | .bad => .bad
def whlL (c : Ev → Hs → R Vl) (f : Ev → Hs → RS) : Nat → Ev → Hs → RS
  | 0, _, _ => .bad
  | n + 1, r, S => match c r S with
    | .ok (.d (.bl true)) S1 => match f r S1 with
      | .nx r2 S2 => whlL c f n r2 S2
      | .cnt r2 S2 => whlL c f n r2 S2
      | .brk r2 S2 => .nx r2 S2
      | .ret v S2 => .ret v S2
      | .exc c fs r2 S2 => .exc c fs r2 S2
      | .bad => .bad
    | .ok (.d (.bl false)) S1 => .nx r S1
    | .ok _ _ => .bad
    | .exc c fs S1 => .exc c fs r S1
    | .bad => .bad
/-- an expression's end within a statement -/
def R.st {α : Type} (x : R α) (r : Ev) (k : α → Hs → RS) : RS :=
  match x with
  | .ok a S => k a S
  | .exc c fs S => .exc c fs r S
  | .bad => .bad
def exec : St → Ev → Hs → RS
  | .skip, r, S => .nx r S
  | .never, _, _ => .bad
  | .seq a b, r, S => match exec a r S with
    | .nx r1 S1 => exec b r1 S1
    | .ret v S1 => .ret v S1
    | .brk r1 S1 => .brk r1 S1
    | .cnt r1 S1 => .cnt r1 S1
    | .exc c fs r1 S1 => .exc c fs r1 S1
    | .bad => .bad
  | .asg i e, r, S => (ev P cal e r S).st r fun v S1 => .nx (r.set i (some v)) S1
  | .asgT t e, r, S => (ev P cal e r S).st r fun v S1 => match v with
    | .d x => match asgD t x r with
      | some r1 => .nx r1 S1
      | none => .bad
    | _ => .bad
  | .par2 i j a b, r, S => (ev P cal a r S).st r fun v S1 => (ev P cal b r S1).st r fun w S2 => .nx ((r.set i (some v)).set j (some w)) S2
  | .par3 i j k a b c, r, S => (ev P cal a r S).st r fun v S1 => (ev P cal b r S1).st r fun w S2 => (ev P cal c r S2).st r fun u S3 =>
    .nx (((r.set i (some v)).set j (some w)).set k (some u)) S3
  | .par3c i j k a b c, r, S => (ev P cal a r S).st r fun v S1 => (ev P cal b r S1).st r fun w S2 => (ev P cal c r S2).st r fun u S3 =>
    .nx (((r.set i (some v)).set j (some w)).set k (some u)) S3
  | .aug i o e, r, S => match r[i]? with
    | some (some (.d x)) => (ev P cal e r S).st r fun v S1 => match v with
      | .d y => match augD o x y with
        | some z => .nx (r.set i (some (.d z))) S1
        | none => .bad
      | _ => .bad
    | _ => .bad
  | .setix i k e, r, S => (ev P cal e r S).st r fun v S1 => match r[i]?, v with
    | some (some (.loc n)), .d x => (ev P cal k r S1).st r fun w S2 => match w, S2[n]? with
      | .d (.int j), some (.lst xs) => match plc j xs.length with
        | some p => .nx r (S2.set n (.lst (xs.set p x)))
        | none => .bad
      | _, _ => .bad
    | _, _ => .bad
  | .app i e, r, S => match r[i]? with
    | some (some (.loc n)) => match S[n]? with
      | some (.lst _) => (ev P cal e r S).st r fun v S1 => match v, S1[n]? with
        | .d x, some (.lst xs) => if xs.length < big then .nx r (S1.set n (.lst (xs ++ [x]))) else .bad
        | _, _ => .bad
      | _ => .bad
    | _ => .bad
  | .ext i e, r, S => match r[i]? with
    | some (some (.loc n)) => match S[n]? with
      | some (.lst _) => (ev P cal e r S).st r fun v S1 => match v, S1[n]? with
        | .d (.lst ys), some (.lst xs) => if xs.length + ys.length ≤ big then .nx r (S1.set n (.lst (xs ++ ys))) else .bad
        | _, _ => .bad
      | _ => .bad
    | _ => .bad
  | .setd i k e, r, S => (ev P cal e r S).st r fun v S1 => match r[i]?, v with
    | some (some (.loc n)), .d x => (ev P cal k r S1).st r fun w S2 => match w, S2[n]? with
      | .d q, some (.dct kvs) => match keyD q with
        | some q => if kvs.length < big then .nx r (S2.set n (.dct (kput q x kvs))) else .bad
        | none => .bad
      | _, _ => .bad
    | _, _ => .bad
  | .setsl j o e, r, S => (ev P cal e r S).st r fun v S1 => (ev P cal o r S1).st r fun w S2 => match v, w, P.sls[j]? with
    | .d x, .loc n, some q => match S2[n]? with
      | some (.ins c fs) => if c = q.1 then .nx r (S2.set n (.ins c (putF q.2 x fs))) else .bad
      | _ => .bad
    | _, _, _ => .bad
  | .frzv i b, r, S => match r[i]? with
    | some (some (.loc n)) => match S[n]? with
      | some (.lst xs) => exec b (r.set i (some (.d (.lst xs)))) (S.set n .dead)
      | _ => .bad
    | _ => .bad
  | .expr e, r, S => (ev P cal e r S).st r fun _ S1 => .nx r S1
  | .ret e, r, S => (ev P cal e r S).st r fun v S1 => .ret v S1
  | .retN, _, S => .ret (.d .non) S
  | .ite c a b, r, S => (ev P cal c r S).st r fun v S1 => match v with
    | .d (.bl true) => exec a r S1
    | .d (.bl false) => exec b r S1
    | _ => .bad
  | .whl c b, r, S => whlL (fun r S => ev P cal c r S) (fun r S => exec b r S) P.fuel r S
  | .loop t it b, r, S => (evi P cal it r S).st r fun xs S1 => forL t (fun r S => exec b r S) xs r S1
  | .brk, r, S => .brk r S
  | .cnt, r, S => .cnt r S
  | .rse c es, r, S => (evs P cal es r S).st r fun vs S1 => match dsOf vs with
    | some fs => if fs.all strD then .exc c fs r S1 else .bad
    | none => .bad
  | .tri b hs, r, S => match exec b r S with
    | .exc c fs r1 S1 => exh P cal hs c fs r1 S1
    | x => x
/-- a def's body, its arguments, back to the heap ahead where nothing new is handed back -/
def fin (n : Nat) : RS → R Vl
  | .ret (.d x) S => .ok (.d x) (S.take n)
  | .ret v S => .ok v S
  | .nx _ S => .ok (.d .non) (S.take n)
  | .exc c fs _ S => .exc c fs (S.take n)
  | _ => .bad
def runF (f : Fn) (vs : List Vl) (S : Hs) : R Vl :=
  if vs.length = f.np then fin S.length (exec P cal f.body (vs.map some ++ List.replicate (f.ns - f.np) none) S) else .bad
end
/-- a call, at most so deep -/
def call (P : Prg) (fns : List Fn) : Nat → Cal
  | 0, _, _, _ => .bad
  | n + 1, f, vs, S => match fns[f]? with
    | some fn => match adapt fn.ad fn.np vs with
      | some ws => runF P (call P fns n) fn ws S
      | none => .bad
    | none => .bad
end Iv
end
section
set_option autoImplicit false
set_option maxRecDepth 100000
set_option maxHeartbeats 4000000
namespace Iv
open PySem L2
/-! ### statements -/
def OutS (nm : Nm) (cl : Cl) (X : Cx) (W : WX) (F G : Hp) (m : List Addr) (D : Ends) : RS → Prop
  | .nx r S => ∀ (G' : Hp) (m' : List Addr) (σ' : L2.St) (H' : Hp), Grow G m G' m' → Rl (kx cl X) F G' m' S H' → RlV (kx cl X) G' m' r σ' → D.nx σ' H'
  | .ret v S => ∀ (G' : Hp) (m' : List Addr) (H' : Hp) (u : V), Grow G m G' m' → Rl (kx cl X) F G' m' S H' → RepV (kx cl X) G' m' v u → D.rt u H'
  | .brk r S => ∀ (G' : Hp) (m' : List Addr) (σ' : L2.St) (H' : Hp), Grow G m G' m' → Rl (kx cl X) F G' m' S H' → RlV (kx cl X) G' m' r σ' → D.bk σ' H'
  | .cnt r S => ∀ (G' : Hp) (m' : List Addr) (σ' : L2.St) (H' : Hp), Grow G m G' m' → Rl (kx cl X) F G' m' S H' → RlV (kx cl X) G' m' r σ' → D.ct σ' H'
  | .exc c fs r S => ∀ (G' : Hp) (m' : List Addr) (σ' : L2.St) (H' : Hp) (cls : Value) (d : Option Addr), Grow G m G' m' → Rl (kx cl X) F G' m' S H' → RlV (kx cl X) G' m' r σ' → RepX nm.excs X.mg (kx cl X) G' c fs cls d → W cls d σ' H'
  | .bad => False
def tS (nm : Nm) (cl : Cl) (X : Cx) (W : WX) (f : Ev → Hs → RS) : TS := fun D σ H => ∃ (F G : Hp) (m : List Addr) (r : Ev) (S : Hs), Rl (kx cl X) F G m S H ∧ RlV (kx cl X) G m r σ ∧ OutS nm cl X W F G m D (f r S)
section
variable {nm : Nm} {cl : Cl} {P : Prg} {cal : Cal} {n : Nat} {X : Cx} {W : WX} {D : Ends} {F G : Hp} {m : List Addr}
theorem OutS.grow {G1 : Hp} {m1 : List Addr} {x : RS} (g : Grow G m G1 m1) (h : OutS nm cl X W F G m D x) : OutS nm cl X W F G1 m1 D x := by
  cases x with
  | nx r S => exact fun G' m' σ' H' g' => h G' m' σ' H' (g.trans g')
  | ret v S => exact fun G' m' H' u g' => h G' m' H' u (g.trans g')
  | brk r S => exact fun G' m' σ' H' g' => h G' m' σ' H' (g.trans g')
  | cnt r S => exact fun G' m' σ' H' g' => h G' m' σ' H' (g.trans g')
  | exc c fs r S => exact fun G' m' σ' H' cls d g' => h G' m' σ' H' cls d (g.trans g')
  | bad => exact h
theorem tX.st {α β : Type} {RR : Hp → List Addr → α → β → Prop} {f : Ev → Hs → R α} {k : α → Hs → RS} {σ : L2.St} {H : Hp} {r : Ev} {S : Hs} {Q1 : β → Hp → Prop}
    (hl : Rl (kx cl X) F G m S H) (hv : RlV (kx cl X) G m r σ) (h : OutS nm cl X W F G m D (R.st (f r S) r k))
    (q : ∀ u H1 G1 m1 v S1, Grow G m G1 m1 → Rl (kx cl X) F G1 m1 S1 H1 → RlV (kx cl X) G1 m1 r σ → RR G1 m1 v u → OutS nm cl X W F G1 m1 D (k v S1) → Q1 u H1) : tX nm.excs X.mg (kx cl X) W RR f σ H Q1 := by
  refine ⟨F, G, m, r, S, hl, hv, ?_⟩
  cases e : f r S with
  | ok v S1 =>
    rw [e] at h
    exact fun G' m' H' u g l1 r1 => q u H' G' m' v S1 g l1 (hv.mono g) r1 (OutS.grow g h)
  | exc c fs S1 =>
    rw [e] at h
    exact fun G' m' H' cls d g l1 r1 => h G' m' σ H' cls d g l1 (hv.mono g) r1
  | bad => rw [e] at h; exact h.elim
theorem s_skip : PSs X [] (tS nm cl X W (exec P cal .skip)) := PSs.imp pss_nil fun D σ H ⟨F, G, m, r, S, rl, rv, out⟩ => out G m σ H .refl rl rv
theorem s_seq {a b : St} {st : Stmt} {rest : List Stmt} (ha : PS X st (tS nm cl X W (exec P cal a))) (hb : PSs X rest (tS nm cl X W (exec P cal b))) : PSs X (st :: rest) (tS nm cl X W (exec P cal (.seq a b))) := by
  refine PSs.imp (pss_cons ha hb) fun D σ H ⟨F, G, m, r, S, rl, rv, out⟩ => ⟨F, G, m, r, S, rl, rv, ?_⟩
  simp only [exec] at out
  cases e : exec P cal a r S with
  | nx r1 S1 =>
    rw [e] at out
    exact fun G' m' σ' H' g l1 rv1 => ⟨F, G', m', r1, S1, l1, rv1, OutS.grow g out⟩
  | ret v S1 => rw [e] at out; exact out
  | brk r1 S1 => rw [e] at out; exact out
  | cnt r1 S1 => rw [e] at out; exact out
  | exc c fs r1 S1 => rw [e] at out; exact out
  | bad => rw [e] at out; exact out.elim
variable {e : Expr} {x y z : Ex} {pos : Pos}
theorem s_asg {i : Nat} {s : Str} {p : Pos} (C : Ck nm cl P cal n X W) (hi : X.N[i]? = some s) (h1 : L2.Loc X.env.scope s) (h2 : X.fn s = true ∨ X.env.scope.names.lookup s = some .local) (hs : swapsWith e (some (.Name s p)) pos.line X.env = pure false)
    (ha : PE X e (TX nm cl X W (ev P cal x))) : PS X (.Assign [.Name s p] e pos) (tS nm cl X W (exec P cal (.asg i x))) := by
  refine PS.imp (ps_set C.nodup hi h1 ha hs h2) fun D σ H ⟨F, G, m, r, S, rl, rv, out⟩ => ?_
  simp only [exec] at out
  refine tX.st rl rv out fun u H1 G1 m1 v S1 g l1 rv1 r1 out => ?_
  exact out G1 m1 _ H1 .refl l1 (rv1.set i r1)
theorem s_asgT {t : Tg} {tg : Expr} (hg : PG X tg (tgR (kx cl X) t)) (hs : swapsWithSole [tg] e pos.line X.env = pure false) (hw : swappedStores [tg] e X.env = pure none) (he : (assignEach [tg] X.env).map (fun x => x.2) = [assign tg X.env])
    (ha : PE X e (TX nm cl X W (ev P cal x))) : PS X (.Assign [tg] e pos) (tS nm cl X W (exec P cal (.asgT t x))) := by
  refine PS.imp (ps_asg ha hg hs hw he) fun D σ H ⟨F, G, m, r, S, rl, rv, out⟩ => ?_
  simp only [exec] at out
  refine tX.st rl rv out fun u H1 G1 m1 v S1 g l1 rv1 r1 out => ?_
  cases v with
  | d d =>
    dsimp only at out
    cases ha : asgD t d r with
    | none => rw [ha] at out; exact out.elim
    | some r' =>
      rw [ha] at out
      exact ⟨G1, m1, r, r', d, l1.ext, rv1, r1, ha, fun σ' rv' _ => out G1 m1 σ' H1 .refl l1 rv'⟩
  | loc _ => exact out.elim
  | xc _ _ => exact out.elim
theorem s_par2 {i j : Nat} {s t : Str} {px py pt : Pos} {kt k2 : Nat} {pt2 : Pos} {l r : Expr} {sc : Scope} {N : List Str} (C : Ck nm cl P cal n X W) (hi : X.N[i]? = some s) (hj : X.N[j]? = some t) (hij : i ≠ j) (h1 : X.env.scope.names.lookup s = some .local) (h2 : X.env.scope.names.lookup t = some .local)
    (hw : swappedStores [.Tuple [.Name s px, .Name t py] kt pt] (.Tuple [l, r] k2 pt2) X.env = pure (some [s, t])) (q1 : isE nm N sc x l = true) (q2 : isE nm N sc y r = true)
    (ha : PE X l (TX nm cl X W (ev P cal x))) (hb : PE X r (TX nm cl X W (ev P cal y))) : PS X (.Assign [.Tuple [.Name s px, .Name t py] kt pt] (.Tuple [l, r] k2 pt2) pos) (tS nm cl X W (exec P cal (.par2 i j x y))) := by
  refine PS.imp (ps_par C.calm C.nodup hi hj hij h1 h2 (pa_cons ha (pa_cons hb pa_nil (star_e q2)) (star_e q1)) hw rfl) fun D σ H ⟨F, G, m, r, S, rl, rv, out⟩ => ?_
  simp only [exec] at out
  refine tX.st rl rv out fun u H1 G1 m1 v S1 g l1 rv1 r1 out => ?_
  refine tX.st l1 rv1 out fun u2 H2 G2 m2 v2 S2 g2 l2 rv2 r2 out => ?_
  exact ⟨_, _, rfl, out G2 m2 _ H2 .refl l2 ((rv2.set i (r1.mono g2)).set j r2)⟩
theorem s_par3 {i j k : Nat} {s t o : Str} {px py pz pt : Pos} {kt k2 : Nat} {pt2 : Pos} {l r q : Expr} {sc : Scope} {N : List Str} (C : Ck nm cl P cal n X W) (hi : X.N[i]? = some s) (hj : X.N[j]? = some t) (hk : X.N[k]? = some o) (hij : i ≠ j) (hik : i ≠ k) (hjk : j ≠ k)
    (h1 : X.env.scope.names.lookup s = some .local) (h2 : X.env.scope.names.lookup t = some .local) (h3 : X.env.scope.names.lookup o = some .local)
    (hw : swappedStores [.Tuple [.Name s px, .Name t py, .Name o pz] kt pt] (.Tuple [l, r, q] k2 pt2) X.env = pure (some [s, t, o])) (q1 : isE nm N sc x l = true) (q2 : isE nm N sc y r = true) (q3 : isE nm N sc z q = true)
    (ha : PE X l (TX nm cl X W (ev P cal x))) (hb : PE X r (TX nm cl X W (ev P cal y))) (hc : PE X q (TX nm cl X W (ev P cal z))) : PS X (.Assign [.Tuple [.Name s px, .Name t py, .Name o pz] kt pt] (.Tuple [l, r, q] k2 pt2) pos) (tS nm cl X W (exec P cal (.par3 i j k x y z))) := by
  refine PS.imp (ps_par3 C.calm C.nodup hi hj hk hij hik hjk h1 h2 h3 (pa_cons ha (pa_cons hb (pa_cons hc pa_nil (star_e q3)) (star_e q2)) (star_e q1)) hw rfl) fun D σ H ⟨F, G, m, r, S, rl, rv, out⟩ => ?_
  simp only [exec] at out
  refine tX.st rl rv out fun u H1 G1 m1 v S1 g l1 rv1 r1 out => ?_
  refine tX.st l1 rv1 out fun u2 H2 G2 m2 v2 S2 g2 l2 rv2 r2 out => ?_
  refine tX.st l2 rv2 out fun u3 H3 G3 m3 v3 S3 g3 l3 rv3 r3 out => ?_
  exact ⟨_, _, _, rfl, out G3 m3 _ H3 .refl l3 (((rv3.set i (r1.mono (g2.trans g3))).set j (r2.mono g3)).set k r3)⟩
theorem s_par3c {i j k : Nat} {s t o : Str} {px py pz pt : Pos} {kt k2 : Nat} {pt2 : Pos} {l r q : Expr} {sc : Scope} {N : List Str} (C : Ck nm cl P cal n X W) (hi : X.N[i]? = some s) (hj : X.N[j]? = some t) (hk : X.N[k]? = some o) (hf : ∀ x, X.fn x = true)
    (h1 : stB true X.env.scope s = true) (h2 : stB true X.env.scope t = true) (h3 : stB true X.env.scope o = true) (hs : swapsWithSole [.Tuple [.Name s px, .Name t py, .Name o pz] kt pt] (.Tuple [l, r, q] k2 pt2) pos.line X.env = pure false)
    (hw : swappedStores [.Tuple [.Name s px, .Name t py, .Name o pz] kt pt] (.Tuple [l, r, q] k2 pt2) X.env = pure none) (q1 : isE nm N sc x l = true) (q2 : isE nm N sc y r = true) (q3 : isE nm N sc z q = true)
    (ha : PE X l (TX nm cl X W (ev P cal x))) (hb : PE X r (TX nm cl X W (ev P cal y))) (hc : PE X q (TX nm cl X W (ev P cal z))) : PS X (.Assign [.Tuple [.Name s px, .Name t py, .Name o pz] kt pt] (.Tuple [l, r, q] k2 pt2) pos) (tS nm cl X W (exec P cal (.par3c i j k x y z))) := by
  refine PS.imp (ps_asg (pe_tup (pa_cons ha (pa_cons hb (pa_cons hc pa_nil (star_e q3)) (star_e q2)) (star_e q1))) (pg_tup C.calm (n := 3) (pgs_cons (pg_name C.nodup hi (stB_d h1).1 (.inl (hf _))) (pgs_cons (pg_name C.nodup hj (stB_d h2).1 (.inl (hf _))) (pgs_cons (pg_name C.nodup hk (stB_d h3).1 (.inl (hf _))) pgs_nil rfl) rfl) rfl) rfl rfl) hs hw rfl) fun D σ H ⟨F, G, m, r, S, rl, rv, out⟩ => ?_
  simp only [exec] at out
  refine tX.st rl rv out fun u H1 G1 m1 v S1 g l1 rv1 r1 out => ?_
  refine tX.st l1 rv1 out fun u2 H2 G2 m2 v2 S2 g2 l2 rv2 r2 out => ?_
  refine tX.st l2 rv2 out fun u3 H3 G3 m3 v3 S3 g3 l3 rv3 r3 out => ?_
  refine ⟨by show 3 ≤ sizeLine; decide, fun p hp => ⟨p, _, rfl, .of upd_same, rfl, ?_⟩⟩
  have ex : ∀ o : HO, Ext H3 (upd H3 p o) := fun o b w hb => by rw [upd_ne (ne_of_none hb hp)]; exact hb
  have l4 := l3.more (G' := G3) (H' := upd H3 p (.tup [u, u2, u3])) (fun b w hb => ex _ b w (l3.ext b w hb)) (fun _ _ h => h) (ex _) (fun _ _ h _ => h) l3.tb.g
  exact ⟨_, _, rfl, _, _, rfl, _, _, rfl, rfl, out G3 m3 _ _ .refl l4 (((rv3.set i (r1.mono (g2.trans g3))).set j (r2.mono g3)).set k r3)⟩
theorem s_expr (hs : swapsWith e none pos.line X.env = pure false) (ha : PE X e (TX nm cl X W (ev P cal x))) : PS X (.Expr e pos) (tS nm cl X W (exec P cal (.expr x))) := by
  refine PS.imp (ps_expr ha hs) fun D σ H ⟨F, G, m, r, S, rl, rv, out⟩ => ?_
  simp only [exec] at out
  exact tX.st rl rv out fun u H1 G1 m1 v S1 g l1 rv1 r1 out => out G1 m1 σ H1 .refl l1 rv1
theorem s_ret (ha : PE X e (TX nm cl X W (ev P cal x))) : PS X (.Return (some e) pos) (tS nm cl X W (exec P cal (.ret x))) := by
  refine PS.imp (ps_ret ha) fun D σ H ⟨F, G, m, r, S, rl, rv, out⟩ => ?_
  simp only [exec] at out
  exact tX.st rl rv out fun u H1 G1 m1 v S1 g l1 rv1 r1 out => out G1 m1 H1 u .refl l1 r1
theorem s_retN : PS X (.Return none pos) (tS nm cl X W (exec P cal .retN)) := PS.imp ps_retN fun D σ H ⟨F, G, m, r, S, rl, rv, out⟩ => out G m H .non .refl rl .non
theorem s_brk : PS X (.Break pos) (tS nm cl X W (exec P cal .brk)) := PS.imp ps_break fun D σ H ⟨F, G, m, r, S, rl, rv, out⟩ => out G m σ H .refl rl rv
theorem s_cnt : PS X (.Continue pos) (tS nm cl X W (exec P cal .cnt)) := PS.imp ps_continue fun D σ H ⟨F, G, m, r, S, rl, rv, out⟩ => out G m σ H .refl rl rv
theorem s_pass : PS X (.Pass pos) (tS nm cl X W (exec P cal .skip)) := PS.imp ps_pass fun D σ H ⟨F, G, m, r, S, rl, rv, out⟩ => out G m σ H .refl rl rv
theorem s_ite {a b : St} {sa sb : List Stmt} (hc : PT X e (tB (TX nm cl X W (ev P cal x)))) (ha : PSs X sa (tS nm cl X W (exec P cal a))) (hb : PSs X sb (tS nm cl X W (exec P cal b))) : PS X (.If e sa sb pos) (tS nm cl X W (exec P cal (.ite x a b))) := by
  refine PS.imp (ps_if hc ha hb) fun D σ H ⟨F, G, m, r, S, rl, rv, out⟩ => ?_
  simp only [exec] at out
  refine tX.st rl rv out fun u H1 G1 m1 v S1 g l1 rv1 r1 out => ?_
  split at out
  · cases r1; exact ⟨true, rfl, iteT ⟨F, G1, m1, r, S1, l1, rv1, out⟩⟩
  · cases r1; exact ⟨false, rfl, iteF ⟨F, G1, m1, r, S1, l1, rv1, out⟩⟩
  · exact out.elim
theorem s_whl {b : St} {sb : List Stmt} (C : Ck nm cl P cal n X W) (hc : PT X e (tB (TX nm cl X W (ev P cal x)))) (hb : PSs X sb (tS nm cl X W (exec P cal b))) : PS X (.While e sb [] pos) (tS nm cl X W (exec P cal (.whl x b))) := by
  refine PS.imp (ps_while C.po hc hb) fun D σ H ⟨F, G, m, r, S, rl, rv, out⟩ => ?_
  simp only [exec] at out
  let WV : Nat → L2.St → Hp → Prop := fun k σ H => ∃ (G2 : Hp) (m2 : List Addr) (r2 : Ev) (S2 : Hs), Rl (kx cl X) F G2 m2 S2 H ∧ RlV (kx cl X) G2 m2 r2 σ ∧ OutS nm cl X W F G2 m2 D (whlL (fun r S => ev P cal x r S) (fun r S => exec P cal b r S) k r2 S2)
  refine ⟨WV, ⟨P.fuel, G, m, r, S, rl, rv, out⟩, ?_⟩
  rintro k σ2 H2 ⟨G2, m2, r2, S2, l2, rv2, out2⟩
  cases k with
  | zero => exact out2.elim
  | succ k =>
    simp only [whlL] at out2
    refine ⟨F, G2, m2, r2, S2, l2, rv2, ?_⟩
    cases hx : ev P cal x r2 S2 with
    | bad => rw [hx] at out2; exact out2.elim
    | exc c fs S3 =>
      rw [hx] at out2
      exact fun G' m' H' cls d g l1 r1 => out2 G' m' σ2 H' cls d g l1 (rv2.mono g) r1
    | ok v S3 =>
      rw [hx] at out2
      intro G3 m3 H3 u g3 l3 r3
      split at out2
      · rename_i S4 heq
        cases heq
        cases r3
        refine ⟨true, rfl, iteT ⟨WV k, fun σ' H' w => ⟨k, Nat.lt_succ_self _, w⟩, F, G3, m3, r2, S3, l3, rv2.mono g3, ?_⟩⟩
        cases hb : exec P cal b r2 S3 with
        | nx r4 S4 =>
          rw [hb] at out2
          exact fun G' m' σ' H' g l1 rv1 => ⟨G', m', r4, S4, l1, rv1, OutS.grow (g3.trans g) out2⟩
        | cnt r4 S4 =>
          rw [hb] at out2
          exact fun G' m' σ' H' g l1 rv1 => ⟨G', m', r4, S4, l1, rv1, OutS.grow (g3.trans g) out2⟩
        | brk r4 S4 =>
          rw [hb] at out2
          exact fun G' m' σ' H' g l1 rv1 => out2 G' m' σ' H' (g3.trans g) l1 rv1
        | ret v S4 =>
          rw [hb] at out2
          exact fun G' m' H' u g l1 r1 => out2 G' m' H' u (g3.trans g) l1 r1
        | exc c fs r4 S4 =>
          rw [hb] at out2
          exact fun G' m' σ' H' cls d g l1 rv1 r1 => out2 G' m' σ' H' cls d (g3.trans g) l1 rv1 r1
        | bad => rw [hb] at out2; exact out2.elim
      · rename_i S4 heq
        cases heq
        cases r3
        exact ⟨false, rfl, iteF (out2 G3 m3 σ2 H3 g3 l3 (rv2.mono g3))⟩
      · exact out2.elim
      · rename_i heq; cases heq
      · rename_i heq; cases heq
theorem s_loop {b : St} {t : Tg} {it : Ex} {sb : List Stmt} {tg iter : Expr} (C : Ck nm cl P cal n X W) (hi : PI X tg iter (TI' nm cl X W (evi P cal it))) (hf : ∀ v, foldedSetIterable iter X.env v = pure v) (hg : PG X tg (tgR (kx cl X) t)) (hb : PSs X sb (tS nm cl X W (exec P cal b))) :
    PS X (.For tg iter sb [] pos) (tS nm cl X W (exec P cal (.loop t it b))) := by
  refine PS.imp (ps_for C.po C.calm hi hg hb hf) fun D σ H ⟨F, G, m, r, S, rl, rv, out⟩ => ?_
  simp only [exec] at out
  refine tX.st rl rv out fun J H1 G1 m1 xs S1 g1 l1 rv1 r1 out => ?_
  let IV : Nat → L2.St → Hp → Prop := fun i σ H => i ≤ xs.length ∧ ∃ (G2 : Hp) (m2 : List Addr) (r2 : Ev) (S2 : Hs), Grow G1 m1 G2 m2 ∧ Rl (kx cl X) F G2 m2 S2 H ∧ RlV (kx cl X) G2 m2 r2 σ ∧ OutS nm cl X W F G2 m2 D (forL t (fun r S => exec P cal b r S) (xs.drop i) r2 S2)
  refine ⟨fun i k σ H => k = xs.length - i ∧ IV i σ H, ⟨xs.length, by simp, Nat.zero_le _, G1, m1, r, S1, .refl, l1, rv1, by simpa using out⟩, ?_⟩
  rintro i k σ2 H2 ⟨rfl, hi, G2, m2, r2, S2, g2, l2, rv2, out2⟩
  by_cases hlt : i < xs.length
  · right
    refine ⟨r1.go i H2 (g2.1.trans l2.ext) hlt, IV (i + 1), fun σ' H' iv => ⟨xs.length - (i + 1), by omega, rfl, iv⟩, fun x H3 hy => ?_⟩
    have hd : xs[i]? = some xs[i] := by simp [hlt]
    obtain ⟨G3, al, rep⟩ := r1.yld i G2 H2 x H3 _ g2.1 l2.ext hd hy
    have l3 := l2.al al
    have gr3 : Grow G2 m2 G3 m2 := al.grow l2.ext
    have hdrop : xs.drop i = xs[i] :: xs.drop (i + 1) := List.drop_eq_getElem_cons hlt
    rw [hdrop] at out2
    simp only [forL] at out2
    cases ha : asgD t xs[i] r2 with
    | none => rw [ha] at out2; exact out2.elim
    | some r3 =>
      rw [ha] at out2
      dsimp only at out2
      refine ⟨G3, m2, r2, r3, _, l3.ext, rv2.mono gr3, rep, ha, fun σ3 rv3 _ => ⟨F, G3, m2, r3, S2, l3, rv3, ?_⟩⟩
      cases hb : exec P cal b r3 S2 with
      | nx r4 S4 =>
        rw [hb] at out2
        exact fun G' m' σ' H' g l1 rv1 => ⟨by omega, G', m', r4, S4, (g2.trans gr3).trans g, l1, rv1, OutS.grow (gr3.trans g) out2⟩
      | cnt r4 S4 =>
        rw [hb] at out2
        exact fun G' m' σ' H' g l1 rv1 => ⟨by omega, G', m', r4, S4, (g2.trans gr3).trans g, l1, rv1, OutS.grow (gr3.trans g) out2⟩
      | brk r4 S4 =>
        rw [hb] at out2
        exact fun G' m' σ' H' g l1 rv1 => out2 G' m' σ' H' (gr3.trans g) l1 rv1
      | ret v S4 =>
        rw [hb] at out2
        exact fun G' m' H' u g l1 r1 => out2 G' m' H' u (gr3.trans g) l1 r1
      | exc c fs r4 S4 =>
        rw [hb] at out2
        exact fun G' m' σ' H' cls d g l1 rv1 r1 => out2 G' m' σ' H' cls d (gr3.trans g) l1 rv1 r1
      | bad => rw [hb] at out2; exact out2.elim
  · left
    have e : i = xs.length := by omega
    subst e
    refine ⟨r1.stop _ H2 (g2.1.trans l2.ext) (Nat.le_refl _) (Nat.le_refl _), ?_⟩
    rw [List.drop_length] at out2
    exact out2 G2 m2 σ2 H2 .refl l2 rv2
end
end Iv
end
section
set_option autoImplicit false
set_option maxRecDepth 100000
set_option maxHeartbeats 4000000
namespace Iv
open PySem L2
def rA (K : Fg) (o : BOp) : R2 := fun x y H Q => ∃ (G : Hp) (a b d : D), Ext G H ∧ Rep K G a x ∧ Rep K G b y ∧ augD o a b = some d ∧ ∀ v, Rep K G d v → Q v H
section
variable {nm : Nm} {cl : Cl} {P : Prg} {cal : Cal} {n : Nat} {X : Cx} {W : WX} {e : Expr} {x y z : Ex} {pos : Pos}
theorem ip_rA (o : BOp) : PIp X (bop o) (rA (kx cl X) o) := by
  intro pins s σ H x y v u Q I rx ry h
  obtain ⟨G, a, b, d, e, ha, hb, hd, g⟩ := h
  cases o with
  | add =>
    cases ha <;> cases hb <;> simp only [augD, reduceCtorEq, Option.some.injEq] at hd
    · subst hd; exact iop_add pins s σ H _ _ v u Q I rx ry ⟨_, _, rfl, rfl, g _ (.int _)⟩
    · rename_i o1 _ o2
      split at hd
      · rename_i hz
        simp only [Option.some.injEq] at hd; subst hd
        exact iop_add_str pins s σ H _ _ v u Q I rx ry ⟨_, _, rfl, rfl, by rw [S'_length, S'_length]; exact small_line hz, by rw [S'_append]; exact g _ (.str _ fun c hc => (List.mem_append.mp hc).elim (o1 c) (o2 c))⟩
      · cases hd
  | sub =>
    cases ha <;> cases hb <;> simp only [augD, reduceCtorEq, Option.some.injEq] at hd
    subst hd; exact iop_sub pins s σ H _ _ v u Q I rx ry ⟨_, _, rfl, rfl, g _ (.int _)⟩
  | mul =>
    cases ha <;> cases hb <;> simp only [augD, reduceCtorEq] at hd
    split at hd
    · rename_i i j hz
      simp only [Option.some.injEq] at hd; subst hd
      exact iop_mul pins s σ H _ _ v u Q I rx ry ⟨_, _, rfl, rfl, hz.elim (fun z => .inl ⟨by omega, by omega⟩) (fun z => .inr ⟨by omega, by omega⟩), g _ (.int _)⟩
    · cases hd
  | fdiv => cases ha <;> cases hb <;> simp only [augD, reduceCtorEq] at hd
  | mod => cases ha <;> cases hb <;> simp only [augD, reduceCtorEq] at hd
  | pow => cases ha <;> cases hb <;> simp only [augD, reduceCtorEq] at hd
theorem s_aug {i : Nat} {o : BOp} {s : Str} {p : Pos} (C : Ck nm cl P cal n X W) (hi : X.N[i]? = some s) (h1 : L2.Loc X.env.scope s) (h2 : X.fn s = true ∨ X.env.scope.names.lookup s = some .local)
    (ha : PE X e (TX nm cl X W (ev P cal x))) : PS X (.AugAssign (.Name s p) (bop o) e pos) (tS nm cl X W (exec P cal (.aug i o x))) := by
  refine PS.imp (ps_aug C.nodup hi h1 ha (ip_rA (cl := cl) o) h2) fun D σ H ⟨F, G, m, r, S, rl, rv, out⟩ => ?_
  simp only [exec] at out
  split at out
  · rename_i a hr
    obtain ⟨u, q1, q2⟩ := rv.2 i _ hr (fun _ _ z => by cases z)
    refine ⟨u, q1, tX.st rl rv out fun u1 H1 G1 m1 v1 S1 g l1 rv1 r1 out => ?_⟩
    cases v1 with
    | d b =>
      dsimp only at out
      cases hd : augD o a b with
      | none => rw [hd] at out; exact out.elim
      | some d =>
        rw [hd] at out
        exact ⟨G1, a, b, d, l1.ext, Rep.mono g.1 q2, r1, hd, fun v rv => out G1 m1 _ H1 .refl l1 (rv1.set i (v := .d d) rv)⟩
    | loc _ => exact out.elim
    | xc _ _ => exact out.elim
  · exact out.elim
theorem Rep.lst_inv {K : Fg} {G : Hp} {xs : List D} {v : V} (h : Rep K G (.lst xs) v) : ∃ a vs, v = .ref a ∧ G a = some (.lst vs) ∧ Reps K G xs vs := by
  cases h with
  | lst h r => exact ⟨_, _, rfl, h, r⟩
theorem s_app {i : Nat} {s : Str} {p ap p2 : Pos} {sc : Scope} {N : List Str} (hN : X.N[i]? = some s) (hv : visB X.env.scope s = true) (ho : okN s = true) (hl : (ap.endLine == p2.line) = true) (hs : isE nm N sc x e = true)
    (ha : PE X e (TX nm cl X W (ev P cal x))) : PS X (.Expr (.Call (.Attribute (.Name s p) ("append" : Str) ap) [e] [] p2) pos) (tS nm cl X W (exec P cal (.app i x))) := by
  have s3 : (((backTo p2 (starEach [e] X.env)).all fun x => !x.1) && ((backToKw p2 (keywordEach [] X.env)).all fun x => x.1.isSome) && decide ([e].length + ([] : List Keyword).length + (if ([] : List Keyword).isEmpty then 0 else 1) < 30)) = true := by
    rw [star_e hs]; rfl
  have key := pe_bm (X := X) (cpos := p2) (apos := ap) PySem.F.plainAttrs_list PySem.F.slot_list_append PySem.F.type_list_append mt_append (pe_var (pos := p) hN (visB_d hv) (okN_d ho).1 (okN_d ho).2.1) (pa_cons ha pa_nil (star_e hs)) rfl s3 hl (star_e hs) rfl
  refine PS.imp (ps_expr key rfl) fun D σ H ⟨F, G, m, r, S, rl, rv, out⟩ => ?_
  simp only [exec] at out
  split at out
  · rename_i k hr
    obtain ⟨u, q1, a, q2, rfl⟩ := rv.2 i _ hr (fun _ _ z => by cases z)
    split at out
    · rename_i ys hk
      obtain ⟨_, ws, q3, _⟩ := (rl.ob k a _ q2 hk).lst
      refine ⟨_, q1, .inl ⟨rfl, _, .of q3⟩, tX.st rl rv out fun u1 H1 G1 m1 v1 S1 g l1 rv1 r1 out => ?_⟩
      split at out
      · rename_i b zs hk1
        split at out
        · rename_i hz
          obtain ⟨q4, ws1, q5, q6⟩ := (l1.ob k a _ (g.2 _ _ q2) hk1).lst
          refine ⟨a, ws1, u1, rfl, rfl, q5, ?_, out G1 m1 σ _ .refl (l1.change (g.2 _ _ q2) hk1 (q6.append (.cons r1 .nil))) rv1⟩
          rw [← q6.length, sizeLine_eq]
          have : zs.length < 1000000 := hz
          omega
        · exact out.elim
      · exact out.elim
    · exact out.elim
  · exact out.elim
theorem s_ext {i : Nat} {s : Str} {p ap p2 : Pos} {sc : Scope} {N : List Str} (hN : X.N[i]? = some s) (hv : visB X.env.scope s = true) (ho : okN s = true) (hl : (ap.endLine == p2.line) = true) (hs : isE nm N sc x e = true)
    (ha : PE X e (TX nm cl X W (ev P cal x))) : PS X (.Expr (.Call (.Attribute (.Name s p) ("extend" : Str) ap) [e] [] p2) pos) (tS nm cl X W (exec P cal (.ext i x))) := by
  have s3 : (((backTo p2 (starEach [e] X.env)).all fun x => !x.1) && ((backToKw p2 (keywordEach [] X.env)).all fun x => x.1.isSome) && decide ([e].length + ([] : List Keyword).length + (if ([] : List Keyword).isEmpty then 0 else 1) < 30)) = true := by
    rw [star_e hs]; rfl
  have key := pe_bm (X := X) (cpos := p2) (apos := ap) PySem.F.plainAttrs_list PySem.F.slot_list_extend PySem.F.type_list_extend mt_extend (pe_var (pos := p) hN (visB_d hv) (okN_d ho).1 (okN_d ho).2.1) (pa_cons ha pa_nil (star_e hs)) rfl s3 hl (star_e hs) rfl
  refine PS.imp (ps_expr key rfl) fun D σ H ⟨F, G, m, r, S, rl, rv, out⟩ => ?_
  simp only [exec] at out
  split at out
  · rename_i k hr
    obtain ⟨u, q1, a, q2, rfl⟩ := rv.2 i _ hr (fun _ _ z => by cases z)
    split at out
    · rename_i ys hk
      obtain ⟨_, ws, q3, _⟩ := (rl.ob k a _ q2 hk).lst
      refine ⟨_, q1, .inl ⟨rfl, _, .of q3⟩, tX.st rl rv out fun u1 H1 G1 m1 v1 S1 g l1 rv1 r1 out => ?_⟩
      split at out
      · rename_i b zs hk1
        split at out
        · rename_i hz
          obtain ⟨q4, ws1, q5, q6⟩ := (l1.ob k a _ (g.2 _ _ q2) hk1).lst
          obtain ⟨pb, wb, rfl, q7, q8⟩ := Rep.lst_inv r1
          refine ⟨a, pb, ws1, wb, rfl, rfl, q5, l1.ext _ _ q7, ?_, out G1 m1 σ _ .refl (l1.change (g.2 _ _ q2) hk1 (q6.append q8)) rv1⟩
          rw [← q6.length, ← q8.length, sizeLine_eq]
          have : _ ≤ 1000000 := hz
          omega
        · exact out.elim
      · exact out.elim
    · exact out.elim
  · exact out.elim
theorem s_setix {i : Nat} {s : Str} {p p2 : Pos} {k : Expr} (hN : X.N[i]? = some s) (hv : visB X.env.scope s = true) (ho : okN s = true)
    (hs : swapsWithSole [.Subscript (.Name s p) k p2] e pos.line X.env = pure false) (hw : swappedStores [.Subscript (.Name s p) k p2] e X.env = pure none)
    (hA : ∀ v, assign (.Subscript (.Name s p) k p2) X.env v = (do
      let ov ← holding [v] (eval (.Name s p) X.env)
      let iv ← holding [v, ov] (eval k X.env)
      standAt p2
      holding [v, ov, iv] (setItem ov iv v)
      release [v, ov, iv] []))
    (ha : PE X e (TX nm cl X W (ev P cal x))) (hb : PE X k (TX nm cl X W (ev P cal y))) : PS X (.Assign [.Subscript (.Name s p) k p2] e pos) (tS nm cl X W (exec P cal (.setix i y x))) := by
  refine PS.imp (ps_asg ha (pg_sub (pe_var (pos := p) hN (visB_d hv) (okN_d ho).1 (okN_d ho).2.1) hb set_list hA) hs hw rfl) fun D σ H ⟨F, G, m, r, S, rl, rv, out⟩ => ?_
  simp only [exec] at out
  refine tX.st rl rv out fun u1 H1 G1 m1 v1 S1 g1 l1 rv1 r1 out => ?_
  split at out
  · rename_i k b hr
    obtain ⟨u, q1, a, q2, rfl⟩ := rv1.2 i _ hr (fun _ _ z => by cases z)
    refine ⟨_, q1, tX.st l1 rv1 out fun u2 H2 G2 m2 v2 S2 g2 l2 rv2 r2 out => ?_⟩
    split at out
    · rename_i j zs hk1
      cases r2
      obtain ⟨q4, ws1, q5, q6⟩ := (l2.ob k a _ (g2.2 _ _ q2) hk1).lst
      cases hp : plc j zs.length with
      | none => rw [hp] at out; exact out.elim
      | some t =>
        rw [hp] at out
        exact ⟨a, ws1, j, t, rfl, rfl, q5, by rw [ixN_plc, ← q6.length]; exact hp, out G2 m2 σ _ .refl (l2.change (g2.2 _ _ q2) hk1 (q6.set (Rep.mono g2.1 r1) t)) rv2⟩
    · exact out.elim
  · exact out.elim
theorem repOs_len {K : Fg} {G : Hp} {fs : List (Option D)} {vs : List (Option V)} (h : RepOs K G fs vs) : fs.length = vs.length := by
  induction h with
  | nil => rfl
  | none _ ih => simp [ih]
  | some _ _ ih => simp [ih]
theorem repOs_app {K : Fg} {G : Hp} {fs : List (Option D)} {vs : List (Option V)} (h : RepOs K G fs vs) (k : Nat) : RepOs K G (fs ++ List.replicate k none) (vs ++ List.replicate k none) := by
  induction h with
  | nil =>
    induction k with
    | zero => exact .nil
    | succ k ih => exact .none ih
  | none _ ih => exact .none ih
  | some r _ ih => exact .some r ih
theorem repOs_set {K : Fg} {G : Hp} {fs : List (Option D)} {vs : List (Option V)} (h : RepOs K G fs vs) {d : D} {v : V} (r : Rep K G d v) : ∀ k : Nat, RepOs K G (fs.set k (some d)) (vs.set k (some v)) := by
  induction h with
  | nil => intro k; exact .nil
  | none t ih =>
    intro k
    cases k with
    | zero => exact .some r t
    | succ k => exact .none (ih k)
  | some q t ih =>
    intro k
    cases k with
    | zero => exact .some r t
    | succ k => exact .some q (ih k)
theorem repOs_put {K : Fg} {G : Hp} {fs : List (Option D)} {vs : List (Option V)} (h : RepOs K G fs vs) {d : D} {v : V} (r : Rep K G d v) (k : Nat) : RepOs K G (putF k d fs) (SlX.putS k v vs) := by
  unfold putF SlX.putS
  rw [repOs_len h]
  exact repOs_set (repOs_app h _) r k
/-- self.f = e -/
theorem s_setsl {j : Nat} {s : Str} {o : Expr} {p2 : Pos} (C : Ck nm cl P cal n X W) (hj : nm.sls[j]? = some s) (hs : swapsWith e (some (.Attribute o s p2)) pos.line X.env = pure false) (ha : PE X o (TX nm cl X W (ev P cal y))) (hb : PE X e (TX nm cl X W (ev P cal x))) :
    PS X (.Assign [.Attribute o s p2] e pos) (tS nm cl X W (exec P cal (.setsl j y x))) := by
  refine PS.imp (SlX.ps_sl ha hb hs) fun D σ H ⟨F, G, m, r, S, rl, rv, out⟩ => ?_
  simp only [exec] at out
  refine tX.st rl rv out fun u1 H1 G1 m1 v1 S1 g1 l1 rv1 r1 out => ?_
  refine tX.st l1 rv1 out fun u2 H2 G2 m2 v2 S2 g2 l2 rv2 r2 out => ?_
  cases v1 with
  | loc _ => exact out.elim
  | xc _ _ => exact out.elim
  | d d =>
  cases v2 with
  | d _ => exact out.elim
  | xc _ _ => exact out.elim
  | loc k =>
  cases hq : P.sls[j]? with
  | none => rw [hq] at out; exact out.elim
  | some q =>
  rw [hq] at out
  dsimp only at out
  obtain ⟨a, ha2, rfl⟩ := r2
  cases hk : S2[k]? with
  | none => rw [hk] at out; exact out.elim
  | some ob =>
  rw [hk] at out
  cases ob with
  | ins c fs =>
    dsimp only at out
    split at out
    · rename_i hc
      subst hc
      obtain ⟨k1, p, k2⟩ := C.md.sl j q s hq hj
      obtain ⟨z1, dx, vs, z2, z3, z4, z5⟩ := (l2.ob k a _ ha2 hk).ins
      have hdx := l2.ext _ _ z3
      refine ⟨a, _, dx, p, vs, _, rfl, .inr ⟨z2, hdx⟩, k1, k2, ?_⟩
      have eH : SlX.slH H2 a (cl q.1) dx (SlX.putS q.2 u1 vs) = upd H2 a (SlX.SlO a (cl q.1) dx (SlX.putS q.2 u1 vs)) := by
        unfold SlX.slH
        funext b
        by_cases h1 : b = a
        · subst h1; rw [upd_same, upd_same]
        · rw [upd_ne h1, upd_ne h1]
          by_cases h2 : b = dx
          · subst h2; rw [upd_same]; exact hdx.symm
          · rw [upd_ne h2]
      rw [eH]
      exact out G2 m2 σ _ .refl (l2.turn ha2 z1 (ObV.ins (K := kx cl X) z3 z4 (repOs_put z5 (Rep.mono g2.1 r1) q.2))) rv2
    · exact out.elim
  | _ => exact out.elim
/-- d[k] = e -/
theorem s_setd {i : Nat} {s : Str} {p p2 : Pos} {k : Expr} (C : Ck nm cl P cal n X W) (hN : X.N[i]? = some s) (hv : visB X.env.scope s = true) (ho : okN s = true)
    (hs : swapsWithSole [.Subscript (.Name s p) k p2] e pos.line X.env = pure false) (hw : swappedStores [.Subscript (.Name s p) k p2] e X.env = pure none)
    (hA : ∀ v, assign (.Subscript (.Name s p) k p2) X.env v = (do
      let ov ← holding [v] (eval (.Name s p) X.env)
      let iv ← holding [v, ov] (eval k X.env)
      standAt p2
      holding [v, ov, iv] (setItem ov iv v)
      release [v, ov, iv] []))
    (ha : PE X e (TX nm cl X W (ev P cal x))) (hb : PE X k (TX nm cl X W (ev P cal y))) : PS X (.Assign [.Subscript (.Name s p) k p2] e pos) (tS nm cl X W (exec P cal (.setd i y x))) := by
  refine PS.imp (ps_asg ha (pg_sub (pe_var (pos := p) hN (visB_d hv) (okN_d ho).1 (okN_d ho).2.1) hb (set_dict (Nat.lt_of_le_of_lt (by omega) C.room.units)) hA) hs hw rfl) fun D σ H ⟨F, G, m, r, S, rl, rv, out⟩ => ?_
  simp only [exec] at out
  refine tX.st rl rv out fun u1 H1 G1 m1 v1 S1 g1 l1 rv1 r1 out => ?_
  split at out
  · rename_i k b hr
    obtain ⟨u, q1, a, q2, rfl⟩ := rv1.2 i _ hr (fun _ _ z => by cases z)
    refine ⟨_, q1, tX.st l1 rv1 out fun u2 H2 G2 m2 v2 S2 g2 l2 rv2 r2 out => ?_⟩
    split at out
    · rename_i d kvs hk1
      cases hq : keyD d with
      | none => rw [hq] at out; exact out.elim
      | some q =>
        rw [hq] at out
        dsimp only at out
        split at out
        · rename_i hz
          obtain ⟨rfl, ok⟩ := keyD_V r2 hq
          obtain ⟨q4, ks, q5, q6⟩ := (l2.ob k a _ (g2.2 _ _ q2) hk1).dct
          refine ⟨a, _, rfl, DPut.k q5 ?_, out G2 m2 σ _ .refl (l2.turn (g2.2 _ _ q2) q4 (.dct (kput_val ok (Rep.mono g2.1 r1) q6))) rv2⟩
          rw [← q6.len, sizeLine_eq]
          have : kvs.length < 1000000 := hz
          omega
        · exact out.elim
    · exact out.elim
  · exact out.elim
/-- a name's list becomes data -/
theorem s_frzv {i : Nat} {b : St} {rest : List Stmt} (hb : PSs X rest (tS nm cl X W (exec P cal b))) : PSs X rest (tS nm cl X W (exec P cal (.frzv i b))) := by
  refine PSs.imp hb fun D σ H ⟨F, G, m, r, S, rl, rv, out⟩ => ?_
  simp only [exec] at out
  split at out
  · rename_i k hr
    obtain ⟨u, q1, a, q2, rfl⟩ := rv.2 i _ hr (fun _ _ z => by cases z)
    split at out
    · rename_i xs hs
      obtain ⟨G', ex, l', rp⟩ := rl.freeze q2 hs
      have g : Grow G m G' m := ⟨ex, fun _ _ h => h⟩
      have rv' := rv.mono g
      refine ⟨F, G', m, _, _, l', ⟨by rw [List.length_set]; exact rv'.1, fun j v e nx => ?_⟩, OutS.grow g out⟩
      by_cases hj : i = j
      · subst hj
        rw [List.getElem?_set_self (List.getElem?_eq_some_iff.mp hr).1] at e
        cases e
        exact ⟨_, q1, rp⟩
      · rw [List.getElem?_set_ne hj] at e
        exact rv'.2 j v e nx
    · exact out.elim
  · exact out.elim
/-- name = [..], the name a local -/
theorem s_asgC {own : List Nat} {t : Tg} {it c : Ex} (hi : SI nm cl P cal n it) (hc : SC nm cl P cal n c) (hx : SE nm cl P cal n x) {i : Nat} {s : Str} {py spos : Pos} {elt tg iter : Expr} {ifs : List Expr} {scope : Scope} (C : Ck nm cl P cal n X W)
    (hN : X.N[i]? = some s) (hl : X.env.scope.names.lookup s = some .local)
    (hsw : swapsWith (.ListComp elt [⟨tg, iter, ifs, 0⟩] scope pos) (some (.Name s py)) spos.line X.env = pure true)
    (h1 : isI nm X.N X.env.scope it tg iter = true) (h2 : blkC X.N X.env.scope scope (ownN X.N own) = true) (h3 : isG X.N false (rl X.env.scope scope) t tg = true) (h4 : isC nm X.N (rl X.env.scope scope) c ifs = true) (h5 : isE nm X.N (rl X.env.scope scope) x elt = true) (h6 : tgIn own t = true) :
    PS X (.Assign [.Name s py] (.ListComp elt [⟨tg, iter, ifs, 0⟩] scope pos) spos) (tS nm cl X W (exec P cal (.asg i (.comp own t it c x)))) := by
  obtain ⟨q1, q2⟩ := hi X W tg iter C h1
  have key := ps_setLc (X := X) (pos := pos) (own := ownN X.N own) (g := tgR (kx cl X) t) (tt := tB (TX nm cl X noW (ev P cal c))) (te := TX nm cl X noW (ev P cal x)) C.calm C.nodup hN hl hsw q1 (blkOk_by h2)
    (fun s H Ca ce fp => g_tg (X := X.blk s H scope (compEnvC scope ce Ca X.env) fp) C.calm C.nodup (fn := false) (fun z => by cases z) t tg h3)
    (fun s H Ca ce fp => hc (X.blk s H scope (compEnvC scope ce Ca X.env) fp) noW ifs C.blk h4)
    (fun s H Ca ce fp => hx (X.blk s H scope (compEnvC scope ce Ca X.env) fp) noW elt C.blk h5) q2
  rw [ownN_map] at key
  refine PS.imp key fun D σ H ⟨F, G, m, r, S, rl, rv, out⟩ => ?_
  simp only [exec] at out
  refine comp_read rfl h6 ?_
  refine tX.st rl rv out fun u H1 G1 m1 v S1 g l1 rv1 r1 out => ?_
  exact out G1 m1 _ H1 .refl l1 (rv1.set i r1)
theorem s_asgN {own : List Nat} {t : Tg} {it c : Ex} (hi : SI nm cl P cal n it) (hc : SC nm cl P cal n c) (hx : SE nm cl P cal n x) {i : Nat} {s : Str} {py spos : Pos} {elt tg iter : Expr} {ifs : List Expr} {scope : Scope} (C : Ck nm cl P cal n X W)
    (hN : X.N[i]? = some s) (hl : X.env.scope.names.lookup s = some .local)
    (hsw : swapsWith (.ListComp elt [⟨tg, iter, ifs, 0⟩] scope pos) (some (.Name s py)) spos.line X.env = pure true)
    (h1 : isI nm X.N X.env.scope it tg iter = true) (h2 : blkC X.N X.env.scope scope (ownN X.N own) = true) (h3 : isG X.N false (rl X.env.scope scope) t tg = true) (h4 : isC nm X.N (rl X.env.scope scope) c ifs = true) (h5 : isE nm X.N (rl X.env.scope scope) x elt = true) (h6 : tgIn own t = true) :
    PS X (.Assign [.Name s py] (.ListComp elt [⟨tg, iter, ifs, 0⟩] scope pos) spos) (tS nm cl X W (exec P cal (.asg i (.newc own t it c x)))) := by
  obtain ⟨q1, q2⟩ := hi X W tg iter C h1
  have key := ps_setLc (X := X) (pos := pos) (own := ownN X.N own) (g := tgR (kx cl X) t) (tt := tB (TX nm cl X noW (ev P cal c))) (te := TX nm cl X noW (ev P cal x)) C.calm C.nodup hN hl hsw q1 (blkOk_by h2)
    (fun s H Ca ce fp => g_tg (X := X.blk s H scope (compEnvC scope ce Ca X.env) fp) C.calm C.nodup (fn := false) (fun z => by cases z) t tg h3)
    (fun s H Ca ce fp => hc (X.blk s H scope (compEnvC scope ce Ca X.env) fp) noW ifs C.blk h4)
    (fun s H Ca ce fp => hx (X.blk s H scope (compEnvC scope ce Ca X.env) fp) noW elt C.blk h5) q2
  rw [ownN_map] at key
  refine PS.imp key fun D σ H ⟨F, G, m, r, S, rl, rv, out⟩ => ?_
  simp only [exec] at out
  refine newc_read rfl h6 ?_
  refine tX.st rl rv out fun u H1 G1 m1 v S1 g l1 rv1 r1 out => ?_
  exact out G1 m1 _ H1 .refl l1 (rv1.set i r1)
end
end Iv
end
section
set_option autoImplicit false
set_option maxRecDepth 100000
set_option maxHeartbeats 4000000
namespace Iv
open PySem L2
/-! ### raise and try -/
theorem RepX.mono {xs : List Xc} {mg : Str → Option Value} {K : Fg} {G G' : Hp} (e : Ext G G') {c : Nat} {fs : List D} {cls : Value} {d : Option Addr} (h : RepX xs mg K G c fs cls d) : RepX xs mg K G' c fs cls d := by
  obtain ⟨x, C, h1, h2, h3, h4⟩ := h
  refine ⟨x, C, h1, h2, h3, ?_⟩
  cases hf : x.fld with
  | none => rw [hf] at h4; exact h4
  | some f =>
    rw [hf] at h4
    match fs, h4 with
    | [y], ⟨da, v, q1, q2, q3⟩ => exact ⟨da, v, q1, e _ _ q2, q3.mono e⟩
theorem RlV.unx {K : Fg} {G : Hp} {m : List Addr} {r : Ev} {σ : L2.St} (h : RlV K G m r σ) : RlV K G m (unx r) σ := by
  refine ⟨by simp [Iv.unx, h.1], fun i v e n => h.2 i v ?_ n⟩
  unfold Iv.unx at e
  rw [List.getElem?_map] at e
  cases q : r[i]? with
  | none => rw [q] at e; cases e
  | some o =>
    rw [q] at e
    cases o with
    | none => cases e
    | some w =>
      cases w with
      | d x => exact e
      | loc k => exact e
      | xc c fs => cases e
theorem unx_no {r : Ev} {i c : Nat} {fs : List D} : (unx r)[i]? ≠ some (some (.xc c fs)) := by
  unfold Iv.unx
  rw [List.getElem?_map]
  cases q : r[i]? with
  | none => intro z; cases z
  | some o =>
    cases o with
    | none => intro z; cases z
    | some w => cases w <;> (intro z; cases z)
section
variable {nm : Nm} {cl : Cl} {P : Prg} {cal : Cal} {n : Nat} {X : Cx} {W : WX} {D : Ends}
/-- the caught errors among the names: a, of the class cls, its dict d; k: the clause's class -/
def HX (nm : Nm) (cl : Cl) (X : Cx) (a : Addr) (cls : Value) (d : Option Addr) (k : Nat) (G : Hp) (r : Ev) (σ : L2.St) : Prop :=
  ∀ (i c : Nat) (fs : List Iv.D), r[i]? = some (some (.xc c fs)) → σ[i]? = some (some (.ref a)) ∧ nm.sub c k = true ∧ RepX nm.excs X.mg (kx cl X) G c fs cls d
/-- a reading in a suite -/
def tH {α β : Type} (nm : Nm) (cl : Cl) (X : Cx) (a : Addr) (cls : Value) (d : Option Addr) (k : Nat) (RR : Hp → List Addr → α → β → Prop) (f : Ev → Hs → R α) : L2.St → Hp → (β → Hp → Prop) → Prop := fun σ H Q =>
  ∃ (F G : Hp) (m : List Addr) (r : Ev) (S : Hs), Rl (kx cl X) F G m S H ∧ RlV (kx cl X) G m r σ ∧ HX nm cl X a cls d k G r σ ∧ Out nm.excs X.mg (kx cl X) noW F RR σ G m Q (f r S)
theorem HX.mono {a : Addr} {cls : Value} {d : Option Addr} {k : Nat} {G G' : Hp} {r : Ev} {σ : L2.St} (e : Ext G G') (h : HX nm cl X a cls d k G r σ) : HX nm cl X a cls d k G' r σ := fun i c fs q => let ⟨h1, h2, h3⟩ := h i c fs q; ⟨h1, h2, h3.mono e⟩
theorem tH.bind {α β γ δ : Type} {a : Addr} {cls : Value} {d : Option Addr} {k : Nat} {RR : Hp → List Addr → α → β → Prop} {RR2 : Hp → List Addr → γ → δ → Prop} {f : Ev → Hs → R α} {kk : α → Hs → R γ} {σ : L2.St} {F G H : Hp} {m : List Addr} {r : Ev} {S : Hs} {Q : δ → Hp → Prop} {Q1 : β → Hp → Prop}
    (hl : Rl (kx cl X) F G m S H) (hv : RlV (kx cl X) G m r σ) (hx : HX nm cl X a cls d k G r σ) (h : Out nm.excs X.mg (kx cl X) noW F RR2 σ G m Q ((f r S).bind kk))
    (q : ∀ u H1 G1 m1 v S1, Grow G m G1 m1 → Rl (kx cl X) F G1 m1 S1 H1 → RlV (kx cl X) G1 m1 r σ → HX nm cl X a cls d k G1 r σ → RR G1 m1 v u → Out nm.excs X.mg (kx cl X) noW F RR2 σ G1 m1 Q (kk v S1) → Q1 u H1) : tH nm cl X a cls d k RR f σ H Q1 :=
  ⟨F, G, m, r, S, hl, hv, hx, (Out.bind (RR := RR) h).imp fun u H1 ⟨G1, m1, v, S1, g, r1, r2, o⟩ => q u H1 G1 m1 v S1 g r1 (hv.mono g) (hx.mono g.1) r2 o⟩
theorem h_const {a : Addr} {cls : Value} {d : Option Addr} {k : Nat} {X' : Cx} {x : Ex} {c : PySem.Const} {j : Nat} {v : V} {y : Iv.D} {pos : Pos} (h : PE X' (.Constant c j pos) (tC v)) (hx : ∀ r S, ev P cal x r S = .ok (.d y) S) (hr : ∀ G, Rep (kx cl X) G y v) : PE X' (.Constant c j pos) (tH nm cl X a cls d k (RepV (kx cl X)) (ev P cal x)) :=
  PE.imp h fun σ H Q ⟨F, G, m, r, S, rl, rv, hx', out⟩ => by
    rw [hx] at out
    exact out G m H v .refl rl (hr G)
theorem starH {nm : Nm} {N : List Str} {sc : Scope} {k : Nat} {x : Ex} {e : Expr} {es : List Expr} {env : Env} (h : isH nm N sc k x e = true) : starEach (e :: es) env = (false, eval e env) :: starEach es env := by
  cases e with
  | Starred _ _ => cases x <;> cases h
  | _ => rfl
theorem hotE {a : Addr} {oe : Obj} {cls : Value} {d : Option Addr} {k : Nat} {pn : List (Addr × Obj)} (hz : Zc cls d oe) (hf : ∃ vs, oe.data = .fields vs) (hX : ∀ (c : Nat) (e : Xc), nm.excs[c]? = some e → X.mg e.name = some (.ref (xa cl c)) ∧ ExK X.prog X.K (xa cl c) e) :
    ∀ x : Ex, (∀ e, isH nm X.N X.env.scope k x e = true → PE (X.suite a ((a, oe) :: pn)) e (tH nm cl X a cls d k (RepV (kx cl X)) (ev P cal x))) ∧
      ∀ es, isHs nm X.N X.env.scope k x es = true → PA (X.suite a ((a, oe) :: pn)) es (tH nm cl X a cls d k (RVs (kx cl X)) (evs P cal x)) := by
  intro x
  induction x with
  | non =>
    refine ⟨fun e h => ?_, fun es h => (by cases h)⟩
    cases e with
    | Constant c j p =>
      cases c with
      | none => exact h_const pe_non (fun _ _ => rfl) fun _ => .non
      | _ => cases h
    | _ => cases h
  | bl b =>
    refine ⟨fun e h => ?_, fun es h => (by cases h)⟩
    cases e with
    | Constant c j p =>
      cases c with
      | bool c =>
        have : b = c := eq_of_beq h
        subst this
        exact h_const pe_bl (fun _ _ => rfl) fun _ => .bl b
      | _ => cases h
    | _ => cases h
  | int i =>
    refine ⟨fun e h => ?_, fun es h => (by cases h)⟩
    cases e with
    | Constant c j p =>
      cases c with
      | int c =>
        have : i = c := of_decide_eq_true h
        subst this
        exact h_const pe_int (fun _ _ => rfl) fun _ => .int i
      | _ => cases h
    | _ => cases h
  | str s =>
    refine ⟨fun e h => ?_, fun es h => (by cases h)⟩
    cases e with
    | Constant c j p =>
      cases c with
      | str c =>
        simp only [isH, Bool.and_eq_true] at h
        have : c = S' s := of_decide_eq_true h.1
        subst this
        exact h_const pe_str (fun _ _ => rfl) fun _ => .str s fun c hc => by simpa using List.all_eq_true.mp h.2 c hc
      | _ => cases h
    | _ => cases h
  | nil =>
    refine ⟨fun e h => (by cases h), fun es h => ?_⟩
    cases es with
    | nil =>
      refine PA.imp pa_nil fun σ H Q ⟨F, G, m, r, S, rl, rv, hx, out⟩ => ?_
      simp only [evs] at out
      exact out G m H [] .refl rl .nil
    | cons _ _ => cases h
  | cons x xs ih1 ih2 =>
    refine ⟨fun e h => (by cases h), fun es h => ?_⟩
    cases es with
    | nil => cases h
    | cons e es =>
      simp only [isHs, Bool.and_eq_true] at h
      refine PA.imp (pa_cons (ih1.1 e h.1) (ih2.2 es h.2) (starH h.1)) fun σ H Q ⟨F, G, m, r, S, rl, rv, hx, out⟩ => ?_
      simp only [evs] at out
      refine tH.bind rl rv hx out fun u1 H1 G1 m1 v1 S1 g1 l1 rv1 hx1 r1 out => ?_
      refine tH.bind l1 rv1 hx1 out fun u2 H2 G2 m2 v2 S2 g2 l2 rv2 hx2 r2 out => ?_
      exact out G2 m2 H2 _ .refl l2 (.cons (r1.mono g2) r2)
  | tup es ih =>
    refine ⟨fun e h => ?_, fun es h => (by cases h)⟩
    cases e with
    | Tuple l kk p =>
      refine PE.imp (pe_tup (ih.2 l h)) fun σ H Q ⟨F, G, m, r, S, rl, rv, hx, out⟩ => ?_
      simp only [ev] at out
      refine tH.bind rl rv hx out fun u1 H1 G1 m1 v1 S1 g1 l1 rv1 hx1 r1 out => ?_
      split at out
      · rename_i xs hxs
        split at out
        · rename_i hz
          exact ⟨by rw [← r1.length]; exact small_line hz, fun p hp => (Out.gives out l1).newT l1.ext (dsOf_reps r1 hxs) hp⟩
        · exact out.elim
      · exact out.elim
    | _ => cases h
  | fld i kk =>
    refine ⟨fun e h => ?_, fun es h => (by cases h)⟩
    match e, h with
    | .Attribute (.Name x p) f p2, h =>
      simp only [isH, Bool.and_eq_true, decide_eq_true_eq] at h
      obtain ⟨⟨⟨⟨h1, h2⟩, h3⟩, h4⟩, h5⟩ := h
      subst h1
      refine ⟨fun pins s σ H Q I hh => ?_⟩
      obtain ⟨F, G, m, r, S, rl, rv, hx, out⟩ := hh
      simp only [ev] at out
      split at out
      · rename_i c fs hr
        obtain ⟨q1, q2, x, C, q3, q4, q5, q6⟩ := hx i c fs hr
        have hlt : c < nm.excs.length := (List.getElem?_eq_some_iff.mp q3).1
        have hfl := List.all_eq_true.mp h5 c (List.mem_range.mpr hlt)
        rw [q2, q3] at hfl
        have hfl : x.fld = some f := by simpa using hfl
        obtain ⟨w1, w2⟩ := hX c x q3
        rw [q4] at w1
        have hC : C = xa cl c := by have := Option.some.inj w1; cases this; rfl
        subst hC
        subst q5
        unfold ExK at w2
        rw [hfl] at w2 q6
        obtain ⟨_, _, _, _, _, _, w3, w4⟩ := w2
        match fs, q6, out with
        | [y], ⟨da, v, z1, z2, z3⟩, out =>
          refine (pe_xf (X := X) (te := tVar i) w3 w4 hz hf (pe_var h2 (visB_d h3) (okN_d h4).1 (okN_d h4).2.1) rfl).run pins s σ H Q I ?_
          exact ⟨.ref a, q1, rfl, rfl, da, [(f, v)], v, z1, rl.ext _ _ z2, by simp [List.lookup], out G m H v .refl rl z3⟩
      · exact out.elim
  | _ => exact ⟨fun e h => (by cases h), fun es h => (by cases h)⟩
/-! ### raise -/
theorem s_rse0 {c j : Nat} {s m : Str} {y : Xc} {p p2 pos2 pos : Pos} (C : Ck nm cl P cal n X W) (hc : nm.excs[c]? = some y) (hn : y.name = s) (hf : y.fld = none) (hg : glB X.env.scope s = true) (ho : okN s = true) :
    PS X (.Raise (some (.Call (.Name s p) [.Constant (.str m) j p2] [] pos2)) none pos) (tS nm cl X W (exec P cal (.rse c .nil))) := by
  obtain ⟨gC, k⟩ := C.md.ex c y hc
  unfold ExK at k
  rw [hf] at k
  obtain ⟨B, newId, i, bmB, k1, k2, k3, k4, k5⟩ := k
  subst hn
  refine PS.imp (ps_raise C.calm C.tk (pmk_own k1 k2 gC k3 (raises_own k4 k5) (glB_d hg) (okN_d ho).1)) fun D σ H ⟨F, G, mm, r, S, rl, rv, out⟩ => ?_
  simp only [exec, evs, R.st, dsOf, List.all_nil, if_true] at out
  exact out G mm σ H _ none .refl rl rv ⟨y, _, hc, gC, rfl, by rw [hf]⟩
theorem strV_of {K : Fg} {G : Hp} {x : Iv.D} {u : V} (h : strD x = true) (r : Rep K G x u) : StrV u := by
  cases r with
  | non => exact .inl rfl
  | bl b => exact .inr (.inl ⟨b, rfl⟩)
  | int i => exact .inr (.inr (.inl ⟨i, rfl, Nat.lt_of_lt_of_le (log2_of (of_decide_eq_true h) (by decide)) (by decide)⟩))
  | str s o => exact .inr (.inr (.inr ⟨_, rfl⟩))
  | _ => cases h
theorem s_rse1 {c : Nat} {s f : Str} {y : Xc} {x : Ex} {e : Expr} {p pos2 pos : Pos} (C : Ck nm cl P cal n X W) (hc : nm.excs[c]? = some y) (hn : y.name = s) (hf : y.fld = some f) (hg : glB X.env.scope s = true) (ho : okN s = true) (hs : isE nm X.N X.env.scope x e = true)
    (he : PE X e (TX nm cl X W (ev P cal x))) : PS X (.Raise (some (.Call (.Name s p) [e] [] pos2)) none pos) (tS nm cl X W (exec P cal (.rse c (.cons x .nil)))) := by
  obtain ⟨gC, k⟩ := C.md.ex c y hc
  unfold ExK at k
  rw [hf] at k
  obtain ⟨B, newId, i, bmB, k1, k2, k3, k4⟩ := k
  subst hn
  refine PS.imp (ps_raise C.calm C.tk (pmk_X k1 k2 (C.room.mono (Nat.zero_le _)) gC (glB_d hg) he (star_e hs) (okN_d ho).1)) fun D σ H ⟨F, G, mm, r, S, rl, rv, out⟩ => ?_
  have out2 : OutS nm cl X W F G mm D (R.st (ev P cal x r S) r fun v S1 => match dsOf [v] with
      | some fs => if fs.all strD then .exc c fs r S1 else .bad
      | none => .bad) := by
    simp only [exec, evs] at out
    cases q : ev P cal x r S with
    | ok v S1 => rw [q] at out; exact out
    | exc c' fs S1 => rw [q] at out; exact out
    | bad => rw [q] at out; exact out
  refine tX.st rl rv out2 fun u1 H1 G1 m1 v1 S1 g1 l1 rv1 r1 out => ?_
  cases v1 with
  | d z =>
    simp only [dsOf, Option.map_some, List.all_cons, List.all_nil, Bool.and_true] at out
    by_cases hz : strD z = true
    · rw [if_pos hz] at out
      refine ⟨strV_of hz r1, fun d hd => ?_⟩
      have al : Al G1 H1 (upd G1 d (.xd [(f, u1)])) (upd H1 d (.xd [(f, u1)])) := Al.one hd
      have r1' : Rep (kx cl X) G1 z u1 := r1
      exact out _ _ _ _ _ _ (al.grow l1.ext) (l1.al al) (rv1.mono (al.grow l1.ext)) ⟨y, _, hc, gC, rfl, by rw [hf]; exact ⟨d, u1, rfl, upd_same, r1'.mono (al.ext l1.ext).2.1⟩⟩
    · rw [if_neg hz] at out; exact out.elim
  | loc _ => exact out.elim
  | xc _ _ => exact out.elim
/-! ### try -/
def isCl (nm : Nm) (N : List Str) (sc : Scope) : List Hd → List ExceptHandler → Bool
  | [], [] => true
  | h :: hs, .ExceptHandler (some (.Name x _)) o [.Return (some e) _] _ :: hds => (match nm.excs[h.c]? with
      | some y => decide (y.name = x)
      | none => false) && glB sc x && okN x && isH nm N sc h.c h.e e && (match h.i, o with
      | none, none => true
      | some i, some n => decide (N[i]? = some n) && decide (sc.names.lookup n = some .local)
      | _, _ => false) && isCl nm N sc hs hds
  | _, _ => false
def clT (nm : Nm) (cl : Cl) (P : Prg) (cal : Cal) (X : Cx) (h : Hd) : ClT := (.ref (xa cl h.c), h.i, fun a cls d => fun D σ H => tH nm cl X a cls d h.c (RepV (kx cl X)) (ev P cal h.e) σ H fun u H' => D.rt u H')
theorem kind_lookup {env : Env} {x : Str} (h : env.scope.kind = .function) : env.kindOf x = env.scope.names.lookup x := by
  first
    | rfl
    | simp [Env.kindOf, h]
theorem cl_ok (C : Ck nm cl P cal n X W) (hk : X.env.scope.kind = .function) : ∀ (hs : List Hd) (hds : List ExceptHandler), isCl nm X.N X.env.scope hs hds = true → ClOk X hds (hs.map (clT nm cl P cal X)) ∧ ∀ h ∈ hs, ∃ y, nm.excs[h.c]? = some y := by
  intro hs
  induction hs with
  | nil =>
    intro hds q
    cases hds with
    | nil => exact ⟨.nil, fun _ q => by simp at q⟩
    | cons _ _ => cases q
  | cons h hs ih =>
    intro hds q
    unfold isCl at q
    split at q
    · rename_i z1 z2
      cases z2
    · rename_i h0 hs0 x np o e rp pp hds z1
      cases z1
      simp only [Bool.and_eq_true] at q
      obtain ⟨⟨⟨⟨⟨q1, q2⟩, q3⟩, q4⟩, q5⟩, q6⟩ := q
      obtain ⟨r1, r2⟩ := ih hds q6
      cases hy : nm.excs[h.c]? with
      | none => rw [hy] at q1; cases q1
      | some y =>
        rw [hy] at q1
        have hn : y.name = x := of_decide_eq_true q1
        subst hn
        obtain ⟨gC, _⟩ := C.md.ex h.c y hy
        have nms : Names X y.name (.ref (xa cl h.c)) := ⟨glB_d q2, (okN_d q3).1, .inl gC⟩
        have hsu : ∀ (a : Addr) (oe : Obj) (cls : Value) (d : Option Addr) (pn : List (Addr × Obj)), Zc cls d oe → (∃ vs, oe.data = .fields vs) → PSs (X.suite a ((a, oe) :: pn)) [.Return (some e) rp] ((clT nm cl P cal X h).2.2 a cls d) := fun a oe cls d pn hz hf =>
          PSs.imp (pss_one (ps_ret ((hotE hz hf C.md.ex h.e).1 e q4))) fun D σ H z => z
        refine ⟨?_, fun h' hm => ?_⟩
        · cases hi : h.i with
          | none =>
            rw [hi] at q5
            cases o with
            | none =>
              have := ClOk.bare (np := np) (pp := pp) nms hsu r1
              simpa [clT, hi] using this
            | some _ => cases q5
          | some i =>
            rw [hi] at q5
            cases o with
            | none => cases q5
            | some nn =>
              have q5 := Bool.and_eq_true_iff.mp q5
              have := ClOk.named (np := np) (pp := pp) nms (of_decide_eq_true q5.1) ((kind_lookup hk).trans (of_decide_eq_true q5.2)) hsu r1
              simpa [clT, hi] using this
        · rcases List.mem_cons.mp hm with rfl | hm
          · exact ⟨y, hy⟩
          · exact r2 h' hm
    · cases q
theorem RlV.setx {K : Fg} {G : Hp} {m : List Addr} {r : Ev} {σ : L2.St} (h : RlV K G m r σ) (i c : Nat) (fs : List Iv.D) (o : Option V) : RlV K G m (r.set i (some (.xc c fs))) (σ.set i o) := by
  refine ⟨by simp [h.1], fun j w e nx => ?_⟩
  by_cases hj : i = j
  · subst hj
    by_cases hl : i < r.length
    · rw [List.getElem?_set_self hl] at e
      cases e
      exact absurd rfl (nx c fs)
    · rw [List.getElem?_eq_none (by simp; omega)] at e; cases e
  · rw [List.getElem?_set_ne hj] at e
    obtain ⟨u', h1, h2⟩ := h.2 j w e nx
    exact ⟨u', by rw [List.getElem?_set_ne hj]; exact h1, h2⟩
theorem Out.of_hot {F G : Hp} {m : List Addr} {σ : L2.St} {x : R Vl} (h : OutS nm cl X W F G m D (match x with
    | .ok v S => .ret v S
    | _ => .bad)) : Out nm.excs X.mg (kx cl X) noW F (RepV (kx cl X)) σ G m (fun u H' => D.rt u H') x := by
  cases x with
  | ok v S => exact h
  | exc c fs S => exact h.elim
  | bad => exact h
theorem exh_ok (C : Ck nm cl P cal n X W) : ∀ (hs : List Hd), (∀ h ∈ hs, ∃ y, nm.excs[h.c]? = some y) → ∀ {c : Nat} {fs : List Iv.D} {r : Ev} {S : Hs} {F G : Hp} {m : List Addr} {σ : L2.St} {H : Hp} {cls : Value} {d : Option Addr}, OutS nm cl X W F G m D (exh P cal hs c fs r S) → Rl (kx cl X) F G m S H → RlV (kx cl X) G m r σ → RepX nm.excs X.mg (kx cl X) G c fs cls d →
    wCl X.K W D (hs.map (clT nm cl P cal X)) cls d σ H
  | [], _, c, fs, r, S, F, G, m, σ, H, cls, d, out, rl, rv, rx => out G m σ H cls d .refl rl rv rx
  | h :: hs, hv, c, fs, r, S, F, G, m, σ, H, cls, d, out, rl, rv, rx => by
    obtain ⟨y, hy⟩ := hv h (List.mem_cons_self ..)
    obtain ⟨x, Cx', q3, q4, q5, q6⟩ := id rx
    obtain ⟨w1, w2⟩ := C.md.ex c x q3
    rw [q4] at w1
    have hC : Cx' = xa cl c := by have := Option.some.inj w1; cases this; rfl
    subst hC
    subst q5
    refine ⟨nm.sub c h.c, C.md.sb c h.c x y q3 hy, fun hb a ha => ?_, fun hb => ?_⟩
    · simp only [exh, C.md.ps, hb, if_true] at out
      cases hi : h.i with
      | none =>
        rw [hi] at out
        refine ⟨F, G, m, unx r, S, rl, rv.unx, fun i c' fs' q => absurd q unx_no, Out.of_hot out⟩
      | some i =>
        rw [hi] at out
        refine ⟨F, G, m, (unx r).set i (some (.xc c fs)), S, rl, rv.unx.setx i c fs (some (.ref a)), fun j c' fs' q => ?_, Out.of_hot (D := D) out⟩
        by_cases hj : i = j
        · subst hj
          by_cases hl : i < (unx r).length
          · rw [List.getElem?_set_self hl] at q
            cases q
            exact ⟨by rw [List.getElem?_set_self (by rw [← rv.unx.1]; exact hl)], hb, rx⟩
          · rw [List.getElem?_eq_none (by simp; omega)] at q; cases q
        · rw [List.getElem?_set_ne hj] at q
          exact absurd q unx_no
    · simp only [exh, C.md.ps, hb, if_false, Bool.false_eq_true] at out
      exact exh_ok C hs (fun h' hm => hv h' (List.mem_cons_of_mem _ hm)) out rl rv rx
theorem s_tri {b : St} {hs : List Hd} {body : List Stmt} {h₀ : ExceptHandler} {hds : List ExceptHandler} {pos : Pos} (C : Ck nm cl P cal n X W) (h1 : X.stack = X.env :: X.outer) (h2 : X.env.frame = some X.env.locals) (hk : X.env.scope.kind = .function)
    (hb : ∀ (W' : WX) (pn : List (Addr × Obj)) (xe : Value → Shared → Prop), Takes (X.tr pn xe) W' → PassesOwn (model X.prog X.w) X.A X.env xe → PSs (X.tr pn xe) body (tS nm cl X W' (exec P cal b))) (hc : isCl nm X.N X.env.scope hs (h₀ :: hds) = true) :
    PS X (.Try body (h₀ :: hds) [] [] pos) (tS nm cl X W (exec P cal (.tri b hs))) := by
  obtain ⟨k1, k2⟩ := cl_ok C hk hs _ hc
  refine PS.imp (ps_tryCl h1 h2 C.nodup C.tk hb k1) fun D σ H ⟨F, G, m, r, S, rl, rv, out⟩ => ⟨F, G, m, r, S, rl, rv, ?_⟩
  simp only [exec] at out
  cases e : exec P cal b r S with
  | nx r1 S1 => rw [e] at out; exact out
  | ret v S1 => rw [e] at out; exact out
  | brk r1 S1 => rw [e] at out; exact out
  | cnt r1 S1 => rw [e] at out; exact out
  | bad => rw [e] at out; exact out
  | exc c fs r1 S1 =>
    rw [e] at out
    exact fun G' m' σ' H' cls d g l1 rv1 rx => exh_ok C hs k2 (OutS.grow g out) l1 rv1 rx
end
end Iv
end
section
set_option autoImplicit false
set_option maxRecDepth 100000
set_option maxHeartbeats 4000000
namespace Iv
open PySem L2
/-! ### the check of statements -/
def isStar : Expr → Bool
  | .Starred _ _ => true
  | _ => false
def nmL (sc : Scope) (line : Nat) : Expr → Option Str
  | .Name x q => if (sc.names.lookup x == some .local && q.line == line) then some x else none
  | _ => none
def swN (sc : Scope) (ts vs : List Expr) : Option (Option (List Str)) :=
  if ((ts.length == 2 || ts.length == 3) && vs.length == ts.length && !vs.any isStar) = false then some none else
  let ns := ts.filterMap (nmL sc ((ts.head?.map (·.pos.line)).getD 0))
  if ns.length != ts.length || ns.eraseDups.length != ns.length then some none
  else if vs.all (foldedForSure 8) then some none
  else if vs.all (constantsAlone 8) then none else some (some ns)
theorem swapped_eq {env : Env} {ts vs : List Expr} {k k2 : Nat} {p p2 : Pos} {r : Option (List Str)} (hk : env.scope.kind = .function) (h : swN env.scope ts vs = some r) :
    swappedStores [.Tuple ts k p] (.Tuple vs k2 p2) env = pure r := by
  have hb : (env.blockKind != .function) = false := by unfold Env.blockKind; rw [hk]; rfl
  unfold swN at h
  show (if (!(ts.length == 2 || ts.length == 3) || vs.length != ts.length || env.blockKind != ScopeKind.function) = true then (pure none : Sem (Option (List Str))) else
    if vs.any isStar = true then pure none else
    (fun ns : List Str => if (ns.length != ts.length || ns.eraseDups.length != ns.length) = true then (pure none : Sem (Option (List Str))) else
      if vs.all (foldedForSure 8) = true then pure none else
      if vs.all (constantsAlone 8) = true then (unsupported "assign.tuple-of-constant-expressions:order-of-the-stores" >>= fun (_ : Unit) => pure (some ns)) else pure (some ns))
      (ts.filterMap (nmL env.scope ((ts.head?.map (·.pos.line)).getD 0)))) = pure r
  rw [hb, Bool.or_false]
  by_cases c1 : ((ts.length == 2 || ts.length == 3) && vs.length == ts.length && !vs.any isStar) = false
  · rw [if_pos c1] at h
    cases h
    by_cases d1 : (!(ts.length == 2 || ts.length == 3) || vs.length != ts.length) = true
    · rw [if_pos d1]
    · rw [if_neg d1]
      have d2 : vs.any isStar = true := by
        cases q : vs.any isStar with
        | true => rfl
        | false =>
          exfalso
          rw [Bool.not_eq_true, Bool.or_eq_false_iff] at d1
          have a1 : (ts.length == 2 || ts.length == 3) = true := by have q := d1.1; rwa [Bool.not_eq_false'] at q
          have a2 : (vs.length == ts.length) = true := by simpa [bne] using d1.2
          rw [a1, a2, q] at c1
          cases c1
      rw [if_pos d2]
  · rw [if_neg c1] at h
    rw [Bool.not_eq_false, Bool.and_eq_true, Bool.and_eq_true] at c1
    rw [if_neg (by rw [c1.1.1]; simp [bne, c1.1.2]), if_neg (by simpa using c1.2)]
    dsimp only at h ⊢
    split at h
    · rename_i d; rw [if_pos d]; cases h; rfl
    · rename_i d; rw [if_neg d]
      split at h
      · rename_i d; rw [if_pos d]; cases h; rfl
      · rename_i d; rw [if_neg d]
        split at h
        · cases h
        · rename_i d; rw [if_neg d]; cases h; rfl
/-- what swapsWith says of a store to a name -/
def swB (sc : Scope) (x : Str) (l : Nat) : Expr → Bool
  | .ListComp _ _ s p => decide (sc.names.lookup x = some .local) && (l == p.line) && !(s.names.any fun y => y.1 == x && (y.2 == .local || y.2 == .cell))
  | .SetComp _ _ s p => decide (sc.names.lookup x = some .local) && (l == p.line) && !(s.names.any fun y => y.1 == x && (y.2 == .local || y.2 == .cell))
  | .DictComp _ _ _ s p => decide (sc.names.lookup x = some .local) && (l == p.line) && !(s.names.any fun y => y.1 == x && (y.2 == .local || y.2 == .cell))
  | _ => false
theorem swaps_eq {env : Env} {x : Str} {px : Pos} {e : Expr} {l : Nat} (hk : env.scope.kind = .function) : swapsWith e (some (.Name x px)) l env = pure (swB env.scope x px.line e) := by
  have hb : (env.blockKind == .function) = true := by unfold Env.blockKind; rw [hk]; rfl
  have hd : ∀ o : Option NameKind, (o == some NameKind.local) = decide (o = some .local) := fun o => by
    cases o with
    | none => rfl
    | some k => cases k <;> rfl
  cases e <;> first
    | rfl
    | (show (pure (env.blockKind == .function && env.scope.names.lookup x == some .local && px.line == _ && !_) : Sem Bool) = _
       rw [hb, hd]; rfl)
def isComp : Expr → Bool
  | .ListComp _ _ _ _ => true
  | .SetComp _ _ _ _ => true
  | .DictComp _ _ _ _ _ => true
  | _ => false
theorem noSwap {e : Expr} {t : Option Expr} {l : Nat} {env : Env} (h : isComp e = false) : swapsWith e t l env = pure false := by
  cases e <;> first | rfl | cases h
def isTup : Expr → Bool
  | .Tuple _ _ _ => true
  | _ => false
section
variable (nm : Nm) (N : List Str) (sc : Scope)
mutual
def isS : St → Stmt → Bool
  | .never, _ => true
  | .skip, st => match st with
    | .Pass _ => true
    | _ => false
  | .asg i e, st => match st with
    | .Assign [.Name x px] v _ => decide (N[i]? = some x) && stB true sc x && isE nm N sc e v && (match e with
      | .comp _ _ _ _ _ => true
      | .newc _ _ _ _ _ => true
      | _ => !swB sc x px.line v)
    | _ => false
  | .asgT t e, st => match st with
    | .Assign [.Tuple ts _ _] v _ => isG N true sc t (.Tuple ts 0 ⟨0, 0, 0, 0⟩) && isE nm N sc e v && !isComp v && (match v with
      | .Tuple vs _ _ => swN sc ts vs == some none
      | _ => true)
    | _ => false
  | .par2 i j a b, st => match st with
    | .Assign [.Tuple [.Name x px, .Name y py] k p] (.Tuple [l, r] _ _) _ => decide (N[i]? = some x) && decide (N[j]? = some y) && !decide (i = j) && decide (sc.names.lookup x = some .local) && decide (sc.names.lookup y = some .local) &&
        (swN sc [.Name x px, .Name y py] [l, r] == some (some [x, y])) && isE nm N sc a l && isE nm N sc b r
    | _ => false
  | .par3 i j k a b c, st => match st with
    | .Assign [.Tuple [.Name x px, .Name y py, .Name z pz] _ _] (.Tuple [l, r, q] _ _) _ => decide (N[i]? = some x) && decide (N[j]? = some y) && decide (N[k]? = some z) && !decide (i = j) && !decide (i = k) && !decide (j = k) &&
        decide (sc.names.lookup x = some .local) && decide (sc.names.lookup y = some .local) && decide (sc.names.lookup z = some .local) &&
        (swN sc [.Name x px, .Name y py, .Name z pz] [l, r, q] == some (some [x, y, z])) && isE nm N sc a l && isE nm N sc b r && isE nm N sc c q
    | _ => false
  | .par3c i j k a b c, st => match st with
    | .Assign [.Tuple [.Name x px, .Name y py, .Name z pz] _ _] (.Tuple [l, r, q] _ _) _ => decide (N[i]? = some x) && decide (N[j]? = some y) && decide (N[k]? = some z) &&
        stB true sc x && stB true sc y && stB true sc z &&
        (swN sc [.Name x px, .Name y py, .Name z pz] [l, r, q] == some none) && isE nm N sc a l && isE nm N sc b r && isE nm N sc c q
    | _ => false
  | .aug i o e, st => match st with
    | .AugAssign (.Name x _) op v _ => decide (N[i]? = some x) && stB true sc x && decide (op = bop o) && isE nm N sc e v
    | _ => false
  | .setix i k e, st => match st with
    | .Assign [.Subscript (.Name x _) q _] v _ => decide (N[i]? = some x) && visB sc x && okN x && isE nm N sc k q && isE nm N sc e v && !isComp v
    | _ => false
  | .setd i k e, st => match st with
    | .Assign [.Subscript (.Name x _) q _] v _ => decide (N[i]? = some x) && visB sc x && okN x && isE nm N sc k q && isE nm N sc e v && !isComp v
    | _ => false
  | .setsl j o e, st => match st with
    | .Assign [.Attribute ob x _] v _ => decide (nm.sls[j]? = some x) && isE nm N sc o ob && isE nm N sc e v && !isComp v
    | _ => false
  | .app i e, st => match st with
    | .Expr (.Call (.Attribute (.Name x _) a ap) [v] [] p) _ => decide (N[i]? = some x) && visB sc x && okN x && decide (a = ("append" : Str)) && (ap.endLine == p.line) && isE nm N sc e v
    | _ => false
  | .ext i e, st => match st with
    | .Expr (.Call (.Attribute (.Name x _) a ap) [v] [] p) _ => decide (N[i]? = some x) && visB sc x && okN x && decide (a = ("extend" : Str)) && (ap.endLine == p.line) && isE nm N sc e v
    | _ => false
  | .expr e, st => match st with
    | .Expr v _ => isE nm N sc e v && !isComp v
    | _ => false
  | .ret e, st => match st with
    | .Return (some v) _ => isE nm N sc e v
    | _ => false
  | .retN, st => match st with
    | .Return none _ => true
    | _ => false
  | .ite c a b, st => match st with
    | .If t l r _ => isE nm N sc c t && tOk c && isSs a l && isSs b r
    | _ => false
  | .whl c b, st => match st with
    | .While t l [] _ => isE nm N sc c t && tOk c && isSs b l
    | _ => false
  | .loop t it b, st => match st with
    | .For tg iter l [] _ => isG N true sc t tg && isI nm N sc it tg iter && isSs b l
    | _ => false
  | .rse c es, st => match st with
    | .Raise (some (.Call (.Name x _) [a] [] _)) none _ => (match nm.excs[c]? with
      | some y => decide (y.name = x) && (match y.fld, es with
        | none, .nil => (match a with
          | .Constant (.str _) _ _ => true
          | _ => false)
        | some _, .cons z .nil => isE nm N sc z a
        | _, _ => false)
      | none => false) && glB sc x && okN x
    | _ => false
  | .tri b hs, st => match st with
    | .Try l (h₀ :: hds) [] [] _ => isSs b l && isCl nm N sc hs (h₀ :: hds)
    | _ => false
  | .brk, st => match st with
    | .Break _ => true
    | _ => false
  | .cnt, st => match st with
    | .Continue _ => true
    | _ => false
  | _, _ => false
def isSs : St → List Stmt → Bool
  | .skip, l => l.isEmpty
  | .frzv _ b, l => isSs b l
  | .seq a b, l => match l with
    | st :: rest => isS a st && isSs b rest
    | [] => false
  | _, _ => false
end
end
end Iv
end
section
set_option autoImplicit false
set_option maxRecDepth 100000
set_option maxHeartbeats 4000000
namespace Iv
open PySem L2
section
variable {nm : Nm} {cl : Cl} {P : Prg} {cal : Cal} {n : Nat}
structure CkS (nm : Nm) (cl : Cl) (P : Prg) (cal : Cal) (n : Nat) (X : Cx) (W : WX) : Prop where
  ck : Ck nm cl P cal n X W
  kd : X.env.scope.kind = .function
  fn : ∀ x, X.fn x = true
  st : X.stack = X.env :: X.outer
  fr : X.env.frame = some X.env.locals
structure SndS (nm : Nm) (cl : Cl) (P : Prg) (cal : Cal) (n : Nat) (a : St) : Prop where
  s : ∀ (X : Cx) (W : WX) (st : Stmt), CkS nm cl P cal n X W → isS nm X.N X.env.scope a st = true → PS X st (tS nm cl X W (exec P cal a))
  ss : ∀ (X : Cx) (W : WX) (l : List Stmt), CkS nm cl P cal n X W → isSs nm X.N X.env.scope a l = true → PSs X l (tS nm cl X W (exec P cal a))
theorem stB_fn {X : Cx} {W : WX} (C : CkS nm cl P cal n X W) {x : Str} (h : stB true X.env.scope x = true) : L2.Loc X.env.scope x ∧ (X.fn x = true ∨ X.env.scope.names.lookup x = some .local) :=
  ⟨(stB_d h).1, .inl (C.fn x)⟩
theorem swappedNot {e : Expr} {tg : Expr} {env : Env} (h : isTup e = false) : swappedStores [tg] e env = pure none := by
  cases tg <;> first | rfl | (cases e <;> first | rfl | cases h)
theorem isG_tup {N : List Str} {sc : Scope} {fn : Bool} {t : Tg} {ts : List Expr} {k k' : Nat} {p p' : Pos} (h : isG N fn sc t (.Tuple ts k p) = true) : isG N fn sc t (.Tuple ts k' p') = true := by
  cases t <;> first | exact h | cases h
theorem noSwapS {e : Expr} {t : Expr} {l : Nat} {env : Env} (h : isComp e = false) : swapsWithSole [t] e l env = pure false := by
  show swapsWith e (some t) l env = pure false
  exact noSwap h
theorem sndS : ∀ a : St, SndS nm cl P cal n a := by
  intro a
  induction a with
  | skip =>
    refine ⟨fun X W st C h => ?_, fun X W l C h => ?_⟩
    · cases st with
      | Pass p => exact s_pass
      | _ => cases h
    · cases l with
      | nil => exact s_skip
      | cons _ _ => cases h
  | never => exact ⟨fun X W st C h => PS.imp ps_never fun D σ H ⟨F, G, m, r, S, rl, rv, out⟩ => out.elim, fun X W l C h => (by cases h)⟩
  | seq a b ih1 ih2 =>
    refine ⟨fun X W st C h => (by cases h), fun X W l C h => ?_⟩
    cases l with
    | nil => cases h
    | cons st rest =>
      simp only [isSs, Bool.and_eq_true] at h
      exact s_seq (ih1.s X W st C h.1) (ih2.ss X W rest C h.2)
  | asg i e =>
    refine ⟨fun X W st C h => ?_, fun X W l C h => (by cases h)⟩
    unfold isS at h
    split at h
    · rename_i x px v p
      simp only [Bool.and_eq_true] at h
      obtain ⟨⟨⟨h1, h2⟩, h3⟩, h4⟩ := h
      obtain ⟨l1, l2⟩ := stB_fn C h2
      by_cases hw : swB X.env.scope x px.line v = true
      · -- stored from within a comprehension
        cases e with
        | comp own t it c y =>
          match v, h3, hw with
          | .ListComp elt [⟨tg, iter, ifs, as⟩] scope q, h3, hw =>
            simp only [isE, Bool.and_eq_true] at h3
            have : as = 0 := of_decide_eq_true h3.1.1.1.1.1.1
            subst this
            have hl : X.env.scope.names.lookup x = some .local := by
              simp only [swB, Bool.and_eq_true] at hw
              exact of_decide_eq_true hw.1.1
            exact s_asgC (snd_main it).i (snd_main c).c (snd_main y).e C.ck (of_decide_eq_true h1) hl (by rw [swaps_eq C.kd, hw]) h3.1.1.1.1.1.2 h3.1.1.1.1.2 h3.1.1.1.2 h3.1.1.2 h3.1.2 h3.2
        | newc own t it c y =>
          match v, h3, hw with
          | .ListComp elt [⟨tg, iter, ifs, as⟩] scope q, h3, hw =>
            simp only [isE, Bool.and_eq_true] at h3
            have : as = 0 := of_decide_eq_true h3.1.1.1.1.1.1
            subst this
            have hl : X.env.scope.names.lookup x = some .local := by
              simp only [swB, Bool.and_eq_true] at hw
              exact of_decide_eq_true hw.1.1
            exact s_asgN (snd_main it).i (snd_main c).c (snd_main y).e C.ck (of_decide_eq_true h1) hl (by rw [swaps_eq C.kd, hw]) h3.1.1.1.1.1.2 h3.1.1.1.1.2 h3.1.1.1.2 h3.1.1.2 h3.1.2 h3.2
        | _ => rw [hw] at h4; cases h4
      · exact s_asg C.ck (of_decide_eq_true h1) l1 l2 (by rw [swaps_eq C.kd, Bool.not_eq_true _ |>.mp hw]) ((snd_main e).e X W v C.ck h3)
    · cases h
  | asgT t e =>
    refine ⟨fun X W st C h => ?_, fun X W l C h => (by cases h)⟩
    unfold isS at h
    split at h
    · rename_i ts k q v p
      simp only [Bool.and_eq_true] at h
      obtain ⟨⟨⟨h1, h2⟩, h3⟩, h4⟩ := h
      have h3' : isComp v = false := by simpa using h3
      refine s_asgT (g_tg C.ck.calm C.ck.nodup (fun _ => C.fn) t _ (isG_tup h1)) (noSwapS h3') ?_ rfl ((snd_main e).e X W v C.ck h2)
      cases v with
      | Tuple vs k2 p2 => exact swapped_eq C.kd (eq_of_beq h4)
      | _ => rfl
    · cases h
  | par2 i j a b =>
    refine ⟨fun X W st C h => ?_, fun X W l C h => (by cases h)⟩
    unfold isS at h
    split at h
    · rename_i x px y py k q l r k2 q2 p
      simp only [Bool.and_eq_true] at h
      obtain ⟨⟨⟨⟨⟨⟨⟨h1, h2⟩, h3⟩, h4⟩, h5⟩, h6⟩, h7⟩, h8⟩ := h
      exact s_par2 C.ck (of_decide_eq_true h1) (of_decide_eq_true h2) (by simpa using h3) (of_decide_eq_true h4) (of_decide_eq_true h5) (swapped_eq C.kd (eq_of_beq h6)) h7 h8 ((snd_main a).e X W l C.ck h7) ((snd_main b).e X W r C.ck h8)
    · cases h
  | par3 i j k a b c =>
    refine ⟨fun X W st C h => ?_, fun X W l C h => (by cases h)⟩
    unfold isS at h
    split at h
    · rename_i x px y py z pz k q l r o k2 q2 p
      simp only [Bool.and_eq_true] at h
      obtain ⟨⟨⟨⟨⟨⟨⟨⟨⟨⟨⟨⟨h1, h2⟩, h3⟩, h4⟩, h5⟩, h6⟩, h7⟩, h8⟩, h9⟩, h10⟩, h11⟩, h12⟩, h13⟩ := h
      exact s_par3 C.ck (of_decide_eq_true h1) (of_decide_eq_true h2) (of_decide_eq_true h3) (by simpa using h4) (by simpa using h5) (by simpa using h6) (of_decide_eq_true h7) (of_decide_eq_true h8) (of_decide_eq_true h9) (swapped_eq C.kd (eq_of_beq h10)) h11 h12 h13 ((snd_main a).e X W l C.ck h11) ((snd_main b).e X W r C.ck h12) ((snd_main c).e X W o C.ck h13)
    · cases h
  | par3c i j k a b c =>
    refine ⟨fun X W st C h => ?_, fun X W l C h => (by cases h)⟩
    unfold isS at h
    split at h
    · rename_i x px y py z pz k q l r o k2 q2 p
      simp only [Bool.and_eq_true] at h
      obtain ⟨⟨⟨⟨⟨⟨⟨⟨⟨h1, h2⟩, h3⟩, h4⟩, h5⟩, h6⟩, h7⟩, h8⟩, h9⟩, h10⟩ := h
      exact s_par3c C.ck (of_decide_eq_true h1) (of_decide_eq_true h2) (of_decide_eq_true h3) C.fn h4 h5 h6 (noSwapS rfl) (swapped_eq C.kd (eq_of_beq h7)) h8 h9 h10 ((snd_main a).e X W l C.ck h8) ((snd_main b).e X W r C.ck h9) ((snd_main c).e X W o C.ck h10)
    · cases h
  | aug i o e =>
    refine ⟨fun X W st C h => ?_, fun X W l C h => (by cases h)⟩
    unfold isS at h
    split at h
    · rename_i x px op v p
      simp only [Bool.and_eq_true] at h
      obtain ⟨⟨⟨h1, h2⟩, h3⟩, h4⟩ := h
      obtain ⟨l1, l2⟩ := stB_fn C h2
      have : op = bop o := of_decide_eq_true h3
      subst this
      exact s_aug C.ck (of_decide_eq_true h1) l1 l2 ((snd_main e).e X W v C.ck h4)
    · cases h
  | setix i k e =>
    refine ⟨fun X W st C h => ?_, fun X W l C h => (by cases h)⟩
    unfold isS at h
    split at h
    · rename_i x px q pq v p
      simp only [Bool.and_eq_true] at h
      obtain ⟨⟨⟨⟨⟨h1, h2⟩, h3⟩, h4⟩, h5⟩, h6⟩ := h
      have h6' : isComp v = false := by simpa using h6
      refine s_setix (of_decide_eq_true h1) h2 h3 (noSwapS h6') ?_ ?_ ((snd_main e).e X W v C.ck h5) ((snd_main k).e X W q C.ck h4)
      · rfl
      · intro u
        cases q with
        | Slice _ _ _ _ => cases k <;> cases h4
        | _ => rfl
    · cases h
  | setd i k e =>
    refine ⟨fun X W st C h => ?_, fun X W l C h => (by cases h)⟩
    unfold isS at h
    split at h
    · rename_i x px q pq v p
      simp only [Bool.and_eq_true] at h
      obtain ⟨⟨⟨⟨⟨h1, h2⟩, h3⟩, h4⟩, h5⟩, h6⟩ := h
      have h6' : isComp v = false := by simpa using h6
      refine s_setd C.ck (of_decide_eq_true h1) h2 h3 (noSwapS h6') ?_ ?_ ((snd_main e).e X W v C.ck h5) ((snd_main k).e X W q C.ck h4)
      · rfl
      · intro u
        cases q with
        | Slice _ _ _ _ => cases k <;> cases h4
        | _ => rfl
    · cases h
  | setsl j o e =>
    refine ⟨fun X W st C h => ?_, fun X W l C h => (by cases h)⟩
    unfold isS at h
    split at h
    · rename_i ob x px v p
      simp only [Bool.and_eq_true] at h
      obtain ⟨⟨⟨h1, h2⟩, h3⟩, h4⟩ := h
      have h4' : isComp v = false := by simpa using h4
      exact s_setsl C.ck (of_decide_eq_true h1) (noSwap h4') ((snd_main o).e X W ob C.ck h2) ((snd_main e).e X W v C.ck h3)
    · cases h
  | frzv i b ih =>
    refine ⟨fun X W st C h => (by cases h), fun X W l C h => ?_⟩
    have h' : isSs nm X.N X.env.scope b l = true := h
    exact s_frzv (ih.ss X W l C h')
  | app i e =>
    refine ⟨fun X W st C h => ?_, fun X W l C h => (by cases h)⟩
    unfold isS at h
    split at h
    · rename_i x px a ap v q p
      simp only [Bool.and_eq_true] at h
      obtain ⟨⟨⟨⟨⟨h1, h2⟩, h3⟩, h4⟩, h5⟩, h6⟩ := h
      have : a = ("append" : Str) := of_decide_eq_true h4
      subst this
      exact s_app (of_decide_eq_true h1) h2 h3 h5 h6 ((snd_main e).e X W v C.ck h6)
    · cases h
  | ext i e =>
    refine ⟨fun X W st C h => ?_, fun X W l C h => (by cases h)⟩
    unfold isS at h
    split at h
    · rename_i x px a ap v q p
      simp only [Bool.and_eq_true] at h
      obtain ⟨⟨⟨⟨⟨h1, h2⟩, h3⟩, h4⟩, h5⟩, h6⟩ := h
      have : a = ("extend" : Str) := of_decide_eq_true h4
      subst this
      exact s_ext (of_decide_eq_true h1) h2 h3 h5 h6 ((snd_main e).e X W v C.ck h6)
    · cases h
  | expr e =>
    refine ⟨fun X W st C h => ?_, fun X W l C h => (by cases h)⟩
    cases st with
    | Expr v p =>
      simp only [isS, Bool.and_eq_true] at h
      have h6' : isComp v = false := by simpa using h.2
      exact s_expr (noSwap h6') ((snd_main e).e X W v C.ck h.1)
    | _ => cases h
  | ret e =>
    refine ⟨fun X W st C h => ?_, fun X W l C h => (by cases h)⟩
    unfold isS at h
    split at h
    · rename_i v p
      exact s_ret ((snd_main e).e X W v C.ck h)
    · cases h
  | retN =>
    refine ⟨fun X W st C h => ?_, fun X W l C h => (by cases h)⟩
    unfold isS at h
    split at h
    · rename_i p
      exact s_retN
    · cases h
  | ite c a b ih1 ih2 =>
    refine ⟨fun X W st C h => ?_, fun X W l C h => (by cases h)⟩
    cases st with
    | If t l r p =>
      simp only [isS, Bool.and_eq_true] at h
      obtain ⟨⟨⟨h1, h2⟩, h3⟩, h4⟩ := h
      exact s_ite ((snd_main c).t X W t C.ck h1 h2) (ih1.ss X W l C h3) (ih2.ss X W r C h4)
    | _ => cases h
  | whl c b ih =>
    refine ⟨fun X W st C h => ?_, fun X W l C h => (by cases h)⟩
    unfold isS at h
    split at h
    · rename_i t l p
      simp only [Bool.and_eq_true] at h
      exact s_whl C.ck ((snd_main c).t X W t C.ck h.1.1 h.1.2) (ih.ss X W l C h.2)
    · cases h
  | loop t it b ih =>
    refine ⟨fun X W st C h => ?_, fun X W l C h => (by cases h)⟩
    unfold isS at h
    split at h
    · rename_i tg iter l p
      simp only [Bool.and_eq_true] at h
      obtain ⟨q1, q2⟩ := (snd_main it).i X W tg iter C.ck h.1.2
      exact s_loop C.ck q1 q2 (g_tg C.ck.calm C.ck.nodup (fun _ => C.fn) t _ h.1.1) (ih.ss X W l C h.2)
    · cases h
  | brk =>
    refine ⟨fun X W st C h => ?_, fun X W l C h => (by cases h)⟩
    cases st with
    | Break p => exact s_brk
    | _ => cases h
  | cnt =>
    refine ⟨fun X W st C h => ?_, fun X W l C h => (by cases h)⟩
    cases st with
    | Continue p => exact s_cnt
    | _ => cases h
  | rse c es =>
    refine ⟨fun X W st C h => ?_, fun X W l C h => (by cases h)⟩
    unfold isS at h
    split at h
    · rename_i x px a p2 p
      simp only [Bool.and_eq_true] at h
      obtain ⟨⟨h1, h2⟩, h3⟩ := h
      cases hy : nm.excs[c]? with
      | none => rw [hy] at h1; cases h1
      | some y =>
        rw [hy] at h1
        simp only [Bool.and_eq_true, decide_eq_true_eq] at h1
        obtain ⟨h4, h5⟩ := h1
        cases hf : y.fld with
        | none =>
          rw [hf] at h5
          cases es with
          | nil =>
            cases a with
            | Constant cc j pp =>
              cases cc with
              | str m => exact s_rse0 C.ck hy h4 hf h2 h3
              | _ => cases h5
            | _ => cases h5
          | _ => cases h5
        | some f =>
          rw [hf] at h5
          match es, h5 with
          | .cons z .nil, h5 => exact s_rse1 C.ck hy h4 hf h2 h3 h5 ((snd_main z).e X W a C.ck h5)
    · cases h
  | tri b hs ih =>
    refine ⟨fun X W st C h => ?_, fun X W l C h => (by cases h)⟩
    unfold isS at h
    split at h
    · rename_i l h₀ hds p
      simp only [Bool.and_eq_true] at h
      refine s_tri C.ck C.st C.fr C.kd (fun W' pn xe tk po => ?_) h.2
      have C' : CkS nm cl P cal n (X.tr pn xe) W' := ⟨⟨C.ck.calm, C.ck.nodup, tk, po, C.ck.room, C.ck.md, C.ck.lm⟩, C.kd, C.fn, C.st, C.fr⟩
      exact ih.ss (X.tr pn xe) W' l C' h.1
    · cases h
end
end Iv
end
section
set_option autoImplicit false
set_option maxRecDepth 100000
set_option maxHeartbeats 4000000
namespace Iv
open PySem L2
/-! ### where a token is out: str.replace -/
theorem PET.imp {X : Cx} {e : Expr} {t t' : TE} (h : PET X e t) (k : ∀ σ H Q, t' σ H Q → t σ H Q) : PET X e t' := fun pins s σ H Q z I hw => h pins s σ H Q z I (k _ _ _ hw)
theorem PAT.imp {X : Cx} {e : List Expr} {t t' : TA} (h : PAT X e t) (k : ∀ σ H Q, t' σ H Q → t σ H Q) : PAT X e t' := fun p pins s σ H Q z I hw => h p pins s σ H Q z I (k _ _ _ hw)
theorem PST.imp {X : Cx} {e : Stmt} {t t' : TS} (h : PST X e t) (k : ∀ D σ H, t' D σ H → t D σ H) : PST X e t' := fun pins s σ H D z I hw => h pins s σ H D z I (k _ _ _ hw)
theorem PSsT.imp {X : Cx} {e : List Stmt} {t t' : TS} (h : PSsT X e t) (k : ∀ D σ H, t' D σ H → t D σ H) : PSsT X e t' := fun pins s σ H D z I hw => h pins s σ H D z I (k _ _ _ hw)
theorem replC_L {c : Nat} {z : Cs} : ∀ s : Cs, StrLaws.replL [c] z s = replC c z s
  | [] => StrLaws.replL_nil
  | x :: xs => by
    by_cases h : x = c
    · subst h
      rw [StrLaws.replL_hit (by simp) (by simp)]
      simp only [replC, if_true]
      rw [show (x :: xs).drop ([x] : Cs).length = xs from rfl, replC_L xs]
    · rw [StrLaws.replL_miss (by simpa using h)]
      simp only [replC, if_neg h]
      rw [replC_L xs]
theorem repl_S {c : Nat} {z s : Cs} : Txt.replace (S' s) (S' [c]) (S' z) = S' (replC c z s) := by
  rw [← S'_toList (Txt.replace (S' s) (S' [c]) (S' z)), StrLaws.replace_list (by simp [S'_length]), S'_list, S'_list, S'_list, replC_L]
theorem okc_repl {c : Nat} {z : Cs} (hz : Okc z) : ∀ {s : Cs}, Okc s → Okc (replC c z s)
  | [], h => h
  | x :: xs, h => by
    have h1 : Okc xs := fun c hc => h c (List.mem_cons_of_mem _ hc)
    simp only [replC]
    split
    · exact fun c hc => (List.mem_append.mp hc).elim (hz c) (okc_repl hz h1 c)
    · exact fun c hc => (List.mem_cons.mp hc).elim (fun e => e ▸ h x (List.mem_cons_self ..)) (okc_repl hz h1 c)
section
variable {nm : Nm} {cl : Cl} {P : Prg} {cal : Cal} {n : Nat} {X : Cx} {W : WX} {e l r : Expr} {es : List Expr} {pos : Pos} {x y z : Ex}
theorem te_repl {o : Ex} {c : Nat} {z : Cs} {ap p1 p2 : Pos} {j k : Nat} (h0 : noC0 l = true) (hl : (ap.endLine == pos.line) = true) (hz : ¬ z = [c]) (oz : Okc z) (ho : PE X l (TX nm cl X W (ev P cal o))) :
    PET X (.Call (.Attribute l "replace" ap) [.Constant (.str (S' [c])) j p1, .Constant (.str (S' z)) k p2] [] pos) (TX nm cl X W (ev P cal (.repl o c z))) := by
  have hyz : (S' [c] == S' z) = false := beq_eq_false_iff_ne.mpr fun q => hz (S'_inj q).symm
  refine PET.imp (CwR.pet_replC ho hyz rfl (base_e h0) hl) fun σ H Q ⟨F, G, m, r, S, rl, rv, out⟩ => ?_
  simp only [ev] at out
  refine tX.bind rl rv out fun u1 H1 G1 m1 v1 S1 g1 l1 rv1 r1 out => ?_
  split at out
  · rename_i s
    split at out
    · rename_i hs
      cases r1 with
      | str _ os =>
        refine ⟨S' s, rfl, ?_, ?_⟩
        · rw [S'_length, S'_length]
          have := Nat.mul_le_mul (show s.length + 1 ≤ 1001 by omega) hs.2
          omega
        · rw [repl_S]
          exact out G1 m1 H1 _ .refl l1 (.str _ (okc_repl oz os))
    · exact out.elim
  · exact out.elim
theorem pet_bmT {T id : String} {name : Str} {o e : Expr} {es : List Expr} {to : TE} {t : TA} {ap cp : Pos} {r : V → List V → Hp → VK → Prop} (pa : PlainAttrs T) (slot : Slot T name id) (hty : typeOf (.builtin id) = pure (.type "method_descriptor")) (hm : MtR X id r) (ho : PET X o to) (ha : PA X (e :: es) t)
    (hbase : attributeBase o name X.env (eval o X.env) = eval o X.env)
    (hfew : ((backTo cp (starEach (e :: es) X.env)).all (fun x => !x.1) && (backToKw cp (keywordEach [] X.env)).all (fun x => x.1.isSome) && decide ((e :: es).length + ([] : List Keyword).length + (if ([] : List Keyword).isEmpty then 0 else 1) < 30)) = true)
    (hline : (ap.endLine == cp.line) = true) (hs : starEach (e :: es) X.env = (false, eval e X.env) :: starEach es X.env) (hpl : (backTo cp (starEach es X.env)).any (fun x => x.1) = false) :
    PET X (.Call (.Attribute o name ap) (e :: es) [] cp) (tBM X.K T r to t) := by
  intro pins s σ H Q z I h
  refine wpAny_Call_method_late hbase hfew hline rfl (thn (ho pins s σ H _ z I h) fun v s1 ⟨y, H1, I1, r1, ty, q1⟩ => ?_)
  obtain ⟨h1, h2⟩ := tyV_is I1 r1 ty
  refine ⟨T, id, pa, slot, hty, h1, h2, ?_⟩
  have hA := ha.run cp pins s1 σ H1 _ I1 q1
  rw [hs] at hA ⊢
  refine Calls.callWith_builtin (by show (false || (backTo cp (starEach es X.env)).any (fun x => x.1)) = false; rw [hpl]; rfl) (Calls.evalArgs_plain ?_)
  exact thn hA fun us s2 ⟨vs, H2, I2, r2, q2⟩ => hm pins s2 σ H2 y vs v us Q I2 r1 r2 q2
theorem meth_read {m : Mt} {σ : L2.St} {H : Hp} {Q : VK} (h : TX nm cl X W (ev P cal (.meth m x y)) σ H Q) : tBM (kx cl X) "str" (rMt (kx cl X) m) (TX nm cl X W (ev P cal x)) (TXs nm cl X W (evs P cal y)) σ H Q := by
  obtain ⟨F, G, m', r, S, rl, rv, out⟩ := h
  simp only [ev] at out
  refine tX.bind rl rv out fun u1 H1 G1 m1 v1 S1 g1 l1 rv1 r1 out => ?_
  split at out
  · cases r1 with
    | str s os =>
      refine ⟨rfl, tX.bind l1 rv1 out fun u2 H2 G2 m2 v2 S2 g2 l2 rv2 r2 out => ?_⟩
      split at out
      · rename_i xs hx
        obtain ⟨d, hd, g⟩ := Out.optD out l2
        exact ⟨G2, _, xs, d, l2.ext, .str _ os, rdVs_rd l2 r2 hx, hd, g⟩
      · exact out.elim
  · exact out.elim
theorem te_meth {m : Mt} {ap : Pos} {sc' : Scope} {N' : List Str} (h0 : noC0 l = true) (hl : (ap.endLine == pos.line) = true) (hz : es.length < 20) (hs : isA nm N' sc' y (e :: es) = true)
    (ha : PET X l (TX nm cl X W (ev P cal x))) (hb : PA X (e :: es) (TXs nm cl X W (evs P cal y))) : PET X (.Call (.Attribute l (mtName m) ap) (e :: es) [] pos) (TX nm cl X W (ev P cal (.meth m x y))) := by
  obtain ⟨s1, s2⟩ := star_args (X := X) (pos := pos) hs
  have s3 : (((backTo pos (starEach (e :: es) X.env)).all fun x => !x.1) && ((backToKw pos (keywordEach [] X.env)).all fun x => x.1.isSome) && decide ((e :: es).length + ([] : List Keyword).length + (if ([] : List Keyword).isEmpty then 0 else 1) < 30)) = true := by
    rw [(any_star hs).2]
    have : decide ((e :: es).length + ([] : List Keyword).length + (if ([] : List Keyword).isEmpty then 0 else 1) < 30) = true := decide_eq_true (by simp; omega)
    rw [this]; rfl
  have key : PET X (.Call (.Attribute l (mtName m) ap) (e :: es) [] pos) (tBM (kx cl X) "str" (rMt (kx cl X) m) (TX nm cl X W (ev P cal x)) (TXs nm cl X W (evs P cal y))) := by
    have hr := mr_mt (cl := cl) (X := X) m
    cases m
    · exact pet_bmT PySem.F.plainAttrs_str PySem.F.slot_str_split PySem.F.type_str_split hr ha hb (base_e h0) s3 hl s1 s2
    · exact pet_bmT PySem.F.plainAttrs_str PySem.F.slot_str_join PySem.F.type_str_join hr ha hb (base_e h0) s3 hl s1 s2
    · exact pet_bmT PySem.F.plainAttrs_str PySem.F.slot_str_startswith PySem.F.type_str_startswith hr ha hb (base_e h0) s3 hl s1 s2
    · exact pet_bmT PySem.F.plainAttrs_str PySem.F.slot_str_lstrip PySem.F.type_str_lstrip hr ha hb (base_e h0) s3 hl s1 s2
    · exact pet_bmT PySem.F.plainAttrs_str PySem.F.slot_str_rstrip PySem.F.type_str_rstrip hr ha hb (base_e h0) s3 hl s1 s2
  exact PET.imp key fun σ H Q h => meth_read h
theorem te_lst (ha : PAT X es (TXs nm cl X W (evs P cal x))) : PET X (.List es pos) (TX nm cl X W (ev P cal (.lst x))) := by
  refine PET.imp (pet_lst ha) fun σ H Q ⟨F, G, m, r, S, rl, rv, out⟩ => ?_
  simp only [ev] at out
  refine tX.bind rl rv out fun u1 H1 G1 m1 v1 S1 g1 l1 rv1 r1 out => ?_
  split at out
  · rename_i xs hx
    split at out
    · rename_i hz
      exact ⟨by rw [← r1.length]; exact small_line hz, fun p hp => (Out.gives out l1).newL l1.ext (dsOf_reps r1 hx) hp⟩
    · exact out.elim
  · exact out.elim
theorem star_t {sc : Scope} {N : List Str} {env : Env} (h : isTE nm N sc x e = true) : starEach (e :: es) env = (false, eval e env) :: starEach es env := by
  cases e with
  | Starred _ _ => cases x <;> cases h
  | _ => rfl
theorem sndTE : ∀ x : Ex, (∀ (X : Cx) (W : WX) (e : Expr), Ck nm cl P cal n X W → isTE nm X.N X.env.scope x e = true → PET X e (TX nm cl X W (ev P cal x))) ∧
    (∀ (X : Cx) (W : WX) (es : List Expr), Ck nm cl P cal n X W → isTA nm X.N X.env.scope x es = true → PAT X es (TXs nm cl X W (evs P cal x))) := by
  intro x
  induction x with
  | repl o c z ih =>
    refine ⟨fun X W e C h => ?_, fun X W es C h => (by cases h)⟩
    match e, h with
    | .Call (.Attribute ob s ap) [.Constant (.str s1) j p1, .Constant (.str s2) k p2] [] p, h =>
      simp only [isTE, Bool.and_eq_true, decide_eq_true_eq, Bool.not_eq_true', decide_eq_false_iff_not] at h
      obtain ⟨⟨⟨⟨⟨⟨⟨rfl, h2⟩, h3⟩, rfl⟩, rfl⟩, h6⟩, h7⟩, h8⟩ := h
      exact te_repl h2 h3 h6 (fun c hc => by simpa using List.all_eq_true.mp h7 c hc) ((snd_main o).e X W ob C h8)
  | meth m o es ih1 ih2 =>
    refine ⟨fun X W e C h => ?_, fun X W es C h => (by cases h)⟩
    match e, h with
    | .Call (.Attribute ob s ap) (l :: ls) [] p, h =>
      simp only [isTE, Bool.and_eq_true, decide_eq_true_eq] at h
      obtain ⟨⟨⟨⟨⟨rfl, h2⟩, h3⟩, h4⟩, h5⟩, h6⟩ := h
      exact te_meth h2 h5 h6 h4 (ih1.1 X W ob C h3) ((snd_main es).pa X W (l :: ls) C h4)
  | lst es ih =>
    refine ⟨fun X W e C h => ?_, fun X W es C h => (by cases h)⟩
    match e, h with
    | .List l p, h => exact te_lst (ih.2 X W l C h)
  | nil =>
    refine ⟨fun X W e C h => CwR.PET.of ((snd_main _).e X W e C h), fun X W es C h => ?_⟩
    cases es with
    | nil => exact fun pos pins s σ H Q z I hw => a_nil.run pos pins s σ H Q I hw
    | cons _ _ => cases h
  | cons a b ih1 ih2 =>
    refine ⟨fun X W e C h => CwR.PET.of ((snd_main _).e X W e C h), fun X W es C h => ?_⟩
    cases es with
    | nil => cases h
    | cons e es =>
      simp only [isTA, Bool.and_eq_true] at h
      refine PAT.imp (pat_cons (ih1.1 X W e C h.1) (ih2.2 X W es C h.2) (star_t h.1)) fun σ H Q ⟨F, G, m, r, S, rl, rv, out⟩ => ?_
      simp only [evs] at out
      refine tX.bind rl rv out fun u1 H1 G1 m1 v1 S1 g1 l1 rv1 r1 out => ?_
      refine tX.bind l1 rv1 out fun u2 H2 G2 m2 v2 S2 g2 l2 rv2 r2 out => ?_
      exact out G2 m2 H2 _ .refl l2 (.cons (r1.mono g2) r2)
  | _ => exact ⟨fun X W e C h => CwR.PET.of ((snd_main _).e X W e C h), fun X W es C h => (by cases h)⟩
end
/-- suites where a token is out -/
def isSsT (nm : Nm) (N : List Str) (sc : Scope) : Iv.St → List Stmt → Bool
  | .skip, l => l.isEmpty
  | .seq (.ret e) b, l => match l with
    | .Return (some v) p :: rest => isTE nm N sc e v && isSsT nm N sc b rest
    | _ => false
  | .seq a b, l => match l with
    | st :: rest => isS nm N sc a st && isSsT nm N sc b rest
    | [] => false
  | _, _ => false
section
variable {nm : Nm} {cl : Cl} {P : Prg} {cal : Cal} {n : Nat}
theorem ts_seq {X : Cx} {W : WX} {a b : Iv.St} {st : Stmt} {rest : List Stmt} (ha : PST X st (tS nm cl X W (exec P cal a))) (hb : PSsT X rest (tS nm cl X W (exec P cal b))) : PSsT X (st :: rest) (tS nm cl X W (exec P cal (.seq a b))) := by
  refine PSsT.imp (psst_cons ha hb) fun D σ H ⟨F, G, m, r, S, rl, rv, out⟩ => ⟨F, G, m, r, S, rl, rv, ?_⟩
  simp only [exec] at out
  cases e : exec P cal a r S with
  | nx r1 S1 =>
    rw [e] at out
    exact fun G' m' σ' H' g l1 rv1 => ⟨F, G', m', r1, S1, l1, rv1, OutS.grow g out⟩
  | ret v S1 => rw [e] at out; exact out
  | brk r1 S1 => rw [e] at out; exact out
  | cnt r1 S1 => rw [e] at out; exact out
  | exc c fs r1 S1 => rw [e] at out; exact out
  | bad => rw [e] at out; exact out.elim
theorem sndST : ∀ (a : Iv.St) (X : Cx) (W : WX) (l : List Stmt), CkS nm cl P cal n X W → isSsT nm X.N X.env.scope a l = true → PSsT X l (tS nm cl X W (exec P cal a)) := by
  intro a
  induction a with
  | skip =>
    intro X W l C h
    cases l with
    | nil => exact PSsT.of s_skip
    | cons _ _ => cases h
  | seq a b ih1 ih2 =>
    intro X W l C h
    cases l with
    | nil => cases a <;> cases h
    | cons st rest =>
      by_cases hr : (∃ e, a = .ret e) 
      · obtain ⟨e, rfl⟩ := hr
        cases st with
        | Return v p =>
          cases v with
          | none => cases h
          | some v =>
            simp only [isSsT, Bool.and_eq_true] at h
            refine ts_seq (PST.imp (CwR.pst_ret ((sndTE e).1 X W v C.ck h.1)) fun D σ H ⟨F, G, m, r, S, rl, rv, out⟩ => ?_) (ih2 X W rest C h.2)
            simp only [exec] at out
            exact tX.st rl rv out fun u H1 G1 m1 v S1 g l1 rv1 r1 out => out G1 m1 H1 u .refl l1 r1
        | _ => cases h
      · have h' : (isS nm X.N X.env.scope a st && isSsT nm X.N X.env.scope b rest) = true := by
          cases a <;> first | exact h | exact absurd ⟨_, rfl⟩ hr
        rw [Bool.and_eq_true] at h'
        exact ts_seq (PST.of ((sndS a).s X W st C h'.1)) (ih2 X W rest C h'.2)
  | _ => intro X W l C h; cases h
end
end Iv
end
section
set_option autoImplicit false
set_option maxRecDepth 100000
set_option maxHeartbeats 4000000
namespace Iv
open PySem L2
/-! ### calls -/
theorem rlv_start {K : Fg} {G : Hp} {m : List Addr} {vs : List Vl} {us : List V} {N : List Str} {k : Nat} (r : RVs K G m vs us) (hk : k + us.length = N.length) : RlV K G m (vs.map some ++ List.replicate k none) (L2.start N us) := by
  have hl := r.length
  unfold L2.start
  refine ⟨by simp; omega, fun i v e n => ?_⟩
  by_cases hi : i < vs.length
  · rw [List.getElem?_append_left (by simpa using hi), List.getElem?_map] at e
    cases h : vs[i]? with
    | none => rw [h] at e; cases e
    | some w =>
      rw [h] at e; cases e
      have : ∃ u, us[i]? = some u ∧ RepV K G m v u := by
        clear hl hk n hi
        induction r generalizing i with
        | nil => simp at h
        | cons q r ih =>
          cases i with
          | zero => simp at h; subst h; exact ⟨_, rfl, q⟩
          | succ i => simpa using ih i (by simpa using h)
      obtain ⟨u, h1, h2⟩ := this
      exact ⟨u, by rw [List.getElem?_append_left (by simp; omega), List.getElem?_map, h1]; rfl, h2⟩
  · rw [List.getElem?_append_right (by simp; omega)] at e
    exfalso
    rw [List.getElem?_replicate] at e
    split at e <;> cases e
/-! ### a def's object, looked at -/
def pnames (p : Arguments) : List Str := p.args.map (·.arg) ++ (match p.vararg with | some a => [a.arg] | none => [])
def plainP (p : Arguments) : Bool := p.posonlyargs.isEmpty && p.kwonlyargs.isEmpty && p.kwarg.isNone
def scOk (N ps : List Str) (sc : Scope) : Bool := decide (sc.kind = .function) && !sc.isCoroutine && !sc.isGenerator && decide (N.Nodup) && decide (N.take ps.length = ps) &&
  ps.all (fun x => decide (sc.names.lookup x = some .local) || decide (sc.names.lookup x = some .cell)) && sc.names.all fun y => !decide (y.2 = .free)
theorem scOk_d {N ps : List Str} {sc : Scope} (h : scOk N ps sc = true) : FnScope N ps sc := by
  unfold scOk at h
  simp only [Bool.and_eq_true, decide_eq_true_eq, Bool.not_eq_true'] at h
  obtain ⟨⟨⟨⟨⟨⟨h1, h2⟩, h3⟩, h4⟩, h5⟩, h6⟩, h7⟩ := h
  refine ⟨h1, h2, h3, h4, h5, fun x hx => ?_, fun y hy => ?_⟩
  · have := List.all_eq_true.mp h6 x hx
    simpa using this
  · have := List.all_eq_true.mp h7 y hy
    simpa using this
def isAll : Ad → Bool
  | .all => true
  | _ => false
/-- the def at a is the def fn -/
def okFn (nm : Nm) (K : PySem.W.Frag) (fn : Fn) (N : List Str) (a : Addr) : Bool := match K.lookup a with
  | some ⟨_, _, .func fd, _⟩ => match fd.body with
    | .stmts body => decide (fd.globals = mainGlobals) && fd.closure.isEmpty && decide (fd.builtins = builtinsNs) && PySem.W.codeIn K fd.code fd.qualname && plainP fd.params && scOk N (pnames fd.params) fd.scope &&
      decide ((pnames fd.params).length = fn.np) && decide (N.length = fn.ns) && decide (fn.np ≤ fn.ns) && (isSs nm N fd.scope fn.body body || (isSsT nm N fd.scope fn.body body && (fd.scope.names.all fun y => !decide (y.2 = .cell)) && decide (1 ≤ fn.np) && isAll fn.ad))
    | _ => false
  | _ => false
section
variable {nm : Nm} {cl : Cl} {P : Prg} {fns : List Fn} {n : Nat} {prog : Program} {w : World} {K : PySem.W.Frag} {mg : Str → Option Value} {base : Heap}
/-- the promise of the whole arguments -/
def spR (nm : Nm) (mg : Str → Option Value) (K : Fg) (P : Prg) (cal : Cal) (fn : Fn) : Sp := fun us H Q E => us.length = fn.np ∧
  ∃ (F G : Hp) (m : List Addr) (vs : List Vl) (S : Hs), Rl K F G m S H ∧ RVs K G m vs us ∧ OutV nm.excs mg K (fun cls d _ H => E cls d H) F [] G m Q (runF P cal fn vs S)
/-- the def's code object and its table -/
def LmC (cl : Cl) (base : Heap) (mg : Str → Option Value) (cdv : Value) (qual : Str) : Prop := ∃ c P, cdv = .ref c ∧ LamX.TabB base mg c P ∧ (P, qual ++ ".<locals>." ++ "<lambda>") ∈ cl.tabs ∧ ∀ p ∈ cl.tabs, p.1 = P → p.2 = qual ++ ".<locals>." ++ "<lambda>"
/-- what the body does -/
theorem body_read {fn : Fn} {N ps : List Str} {qual : Str} {scope : Scope} {a : Addr} {cal : Cal} (M : Md nm cl P cal n prog w K mg base) (S : FnScope N ps scope) (h1 : fn.np ≤ fn.ns) (h2 : fn.ns = N.length)
    (cdv : Value) (A : Around) (outer : List Env) (s : Shared) (H : Hp) (vs : List V) (Q : VK) (E : XK) (hr : Room (5 * n + 4) (A.deeper (PyProof.Rows.envOfC qual scope s.heap.objs.size a cdv))) (hlm : nm.lam = true → LmC cl base mg cdv qual) (h : spR nm mg ⟨K, cl⟩ P cal fn vs H Q E) :
    CkS nm cl P cal n (cxOf (L2.CX prog w) prog w K mg base N qual scope a cdv A outer s H E) (fun cls d _ H => E cls d H) ∧
      tS nm cl (cxOf (L2.CX prog w) prog w K mg base N qual scope a cdv A outer s H E) (fun cls d _ H => E cls d H) (exec P cal fn.body) { nx := fun _ H' => Q .non H', rt := Q } (start N vs) H := by
  obtain ⟨hl, F0, G, m, ds, S0, l0, rv0, out⟩ := h
  let X : Cx := cxOf (L2.CX prog w) prog w K mg base N qual scope a cdv A outer s H E
  have ck : CkS nm cl P cal n X (fun cls d _ H => E cls d H) := ⟨⟨rfl, S.nd, takes_of rfl rfl rfl rfl, passes_of rfl, hr.mono (by omega), M, fun z => ⟨hr, hlm z⟩⟩, S.kind, fun _ => rfl, rfl, rfl⟩
  refine ⟨ck, ?_⟩
  have hd : ds.length = fn.np := by rw [rv0.length]; exact hl
  refine ⟨F0, G, m, ds.map some ++ List.replicate (fn.ns - fn.np) none, S0, l0, rlv_start rv0 (by rw [hl, ← h2]; omega), ?_⟩
  simp only [runF, hd, if_true] at out
  have hm : S0.length = m.length := l0.len.symm
  cases e : exec P cal fn.body (ds.map some ++ List.replicate (fn.ns - fn.np) none) S0 with
  | nx r1 S1 =>
    rw [e] at out
    simp only [fin, hm] at out
    exact fun G' m' σ' H' g l1 rv1 => out G' _ H' .non g.take (l1.take _) .non
  | ret v S1 =>
    rw [e] at out
    cases v with
    | d d =>
      simp only [fin, hm] at out
      exact fun G' m' H' u g l1 r1 => out G' _ H' u g.take (l1.take _) r1
    | loc k =>
      simp only [fin] at out
      exact fun G' m' H' u g l1 r1 => out G' m' H' u g l1 r1
    | xc c fs =>
      simp only [fin] at out
      exact fun G' m' H' u g l1 r1 => out G' m' H' u g l1 r1
  | brk r1 S1 => rw [e] at out; exact out.elim
  | cnt r1 S1 => rw [e] at out; exact out.elim
  | exc c fs r1 S1 =>
    rw [e] at out
    simp only [fin, hm] at out
    exact fun G' m' σ' H' cls d g l1 rv1 rx => out G' _ H' cls d g.take (l1.take _) rx
  | bad => rw [e] at out; exact out.elim
theorem body_sound {fn : Fn} {N ps : List Str} {body : List Stmt} {qual : Str} {scope : Scope} {a : Addr} {cal : Cal} (M : Md nm cl P cal n prog w K mg base) (S : FnScope N ps scope) (h1 : fn.np ≤ fn.ns) (h2 : fn.ns = N.length) (hb : isSs nm N scope fn.body body = true)
    (cdv : Value) (A : Around) (outer : List Env) (s : Shared) (H : Hp) (vs : List V) (Q : VK) (E : XK) (hr : Room (5 * n + 4) (A.deeper (PyProof.Rows.envOfC qual scope s.heap.objs.size a cdv))) (hlm : nm.lam = true → LmC cl base mg cdv qual) (h : spR nm mg ⟨K, cl⟩ P cal fn vs H Q E) :
    ∃ t, PSs (cxOf (L2.CX prog w) prog w K mg base N qual scope a cdv A outer s H E) body t ∧ t { nx := fun _ H' => Q .non H', rt := Q } (start N vs) H :=
  let ⟨ck, t⟩ := body_read M S h1 h2 cdv A outer s H vs Q E hr hlm h
  ⟨_, (sndS fn.body).ss _ _ body ck hb, t⟩
theorem body_soundT {fn : Fn} {N ps : List Str} {body : List Stmt} {qual : Str} {scope : Scope} {a : Addr} {cal : Cal} (M : Md nm cl P cal n prog w K mg base) (S : FnScope N ps scope) (h1 : fn.np ≤ fn.ns) (h2 : fn.ns = N.length) (hb : isSsT nm N scope fn.body body = true)
    (cdv : Value) (A : Around) (outer : List Env) (s : Shared) (H : Hp) (vs : List V) (Q : VK) (E : XK) (hr : Room (5 * n + 4) (A.deeper (PyProof.Rows.envOfC qual scope s.heap.objs.size a cdv))) (hlm : nm.lam = true → LmC cl base mg cdv qual) (h : spR nm mg ⟨K, cl⟩ P cal fn vs H Q E) :
    ∃ t, PSsT (cxOf (L2.CX prog w) prog w K mg base N qual scope a cdv A outer s H E) body t ∧ t { nx := fun _ H' => Q .non H', rt := Q } (start N vs) H :=
  let ⟨ck, t⟩ := body_read M S h1 h2 cdv A outer s H vs Q E hr hlm h
  ⟨_, sndST fn.body _ _ body ck hb, t⟩
/-- what okFn says -/
theorem okFn_d {fn : Fn} {N : List Str} {a : Addr} (h : okFn nm K fn N a = true) : ∃ (oc : Value) (od : Option Addr) (name qual : Str) (params : Arguments) (body : List Stmt) (scope : Scope) (dV kV doc pm : Value) (an : Option Addr) (cdv ct : Value) (osl : Array (Option Value)),
    K.lookup a = some ⟨oc, od, .func (PySem.W.fnOf name qual params body scope dV kV doc pm an cdv ct), osl⟩ ∧ PySem.W.codeIn K cdv qual = true ∧ plainP params = true ∧ FnScope N (pnames params) scope ∧ (pnames params).length = fn.np ∧ N.length = fn.ns ∧ fn.np ≤ fn.ns ∧ (isSs nm N scope fn.body body = true ∨ (isSsT nm N scope fn.body body = true ∧ (∀ y ∈ scope.names, y.2 ≠ .cell) ∧ 1 ≤ (pnames params).length ∧ isAll fn.ad = true)) := by
  unfold okFn at h
  split at h
  · rename_i oc od fd osl hk
    obtain ⟨name, qual, params, fb, scope, globals, closure, dV, kV, doc, pm, an, cdv, ct, bi⟩ := fd
    dsimp only at h
    split at h
    · rename_i fb0 body
      simp only [Bool.and_eq_true, decide_eq_true_eq, List.isEmpty_iff] at h
      obtain ⟨⟨⟨⟨⟨⟨⟨⟨⟨h1, h2⟩, h3⟩, h4⟩, h5⟩, h6⟩, h7⟩, h8⟩, h9⟩, h10⟩ := h
      subst h1; subst h2; subst h3

      refine ⟨oc, od, name, qual, params, body, scope, dV, kV, doc, pm, an, cdv, ct, osl, hk, h4, h5, scOk_d h6, h7, h8, h9, ?_⟩
      rw [Bool.or_eq_true, Bool.and_eq_true, Bool.and_eq_true, Bool.and_eq_true] at h10
      refine h10.imp id fun z => ⟨z.1.1.1, fun y hy e => ?_, by rw [h7]; exact of_decide_eq_true z.1.2, z.2⟩
      have := List.all_eq_true.mp z.1.1.2 y hy
      simp [e] at this
    · cases h
  · cases h
/-! ### how the arguments come -/
theorem lookup_zip : ∀ {ps : List Str} {us : List Value} {x : Str} {u : Value} {j : Nat}, ps.Nodup → ps[j]? = some x → us[j]? = some u → (ps.zip us).lookup x = some u
  | [], _, _, _, _, _, e, _ => by simp at e
  | p :: ps, [], _, _, j, _, _, e => by simp at e
  | p :: ps, v :: us, x, u, 0, _, e1, e2 => by
    simp at e1 e2; subst e1; subst e2
    simp [List.lookup]
  | p :: ps, v :: us, x, u, j + 1, nd, e1, e2 => by
    rw [List.nodup_cons] at nd
    have hx : ps[j]? = some x := by simpa using e1
    have ne : x ≠ p := fun e => nd.1 (e ▸ List.mem_of_getElem? hx)
    rw [List.zip_cons_cons, List.lookup_cons, beq_eq_false_iff_ne.mpr ne]
    exact lookup_zip nd.2 hx (by simpa using e2)
theorem filter_zip : ∀ (qs ps : List Str) (us ws : List Value), (∀ (j : Nat) (x : Str) (u : Value), qs[j]? = some x → ws[j]? = some u → (ps.zip us).lookup x = some u) → qs.length = ws.length → (qs.filterMap fun x => ((ps.zip us).lookup x).map (x, ·)) = qs.zip ws
  | [], _, _, [], _, _ => rfl
  | [], _, _, _ :: _, _, h => by simp at h
  | _ :: _, _, _, [], _, h => by simp at h
  | q :: qs, ps, us, v :: ws, h, hl => by
    have h0 := h 0 q v rfl rfl
    rw [List.filterMap_cons, h0]
    simp only [Option.map_some]
    rw [filter_zip qs ps us ws (fun j x u e1 e2 => h (j + 1) x u (by simpa using e1) (by simpa using e2)) (by simpa using hl)]
    rfl
theorem missing_zip {qs ps : List Str} {us : List Value} (nd : ps.Nodup) (hl : ps.length ≤ us.length) (hq : ∀ x ∈ qs, x ∈ ps) : (qs.filter fun x => ((ps.zip us).lookup x).isNone) = [] := by
  rw [List.filter_eq_nil_iff]
  intro x hx
  obtain ⟨j, hj⟩ := List.mem_iff_getElem?.mp (hq x hx)
  have hjl : j < us.length := Nat.lt_of_lt_of_le (List.getElem?_eq_some_iff.mp hj).1 hl
  rw [lookup_zip nd hj (List.getElem?_eq_getElem hjl)]
  simp
theorem binds_all {name qual : Str} {params : Arguments} {body : List Stmt} {scope : Scope} {kV doc pm cdv ct : Value} {an : Option Addr} (hp : plainP params = true) (hv : params.vararg = none) (nd : (params.args.map (·.arg)).Nodup) (us : List Value) (hl : us.length = (params.args.map (·.arg)).length) :
    bindArgs (PySem.W.fnOf name qual params body scope .none kV doc pm an cdv ct) ⟨us, []⟩ = pure ((params.args.map (·.arg)).zip us) := by
  unfold plainP at hp
  simp only [Bool.and_eq_true, List.isEmpty_iff, Option.isNone_iff_eq_none] at hp
  obtain ⟨⟨h1, h2⟩, h3⟩ := hp
  unfold bindArgs
  simp only [PySem.W.fnOf, h1, h2, h3, hv, List.map_nil, List.nil_append, List.append_nil]
  generalize params.args.map (·.arg) = ps at nd hl ⊢
  have hn : ¬ (ps.length < us.length) := by omega
  have e1 : (ps.filter fun n => ((ps.zip us).lookup n).isNone) = [] := missing_zip nd (by omega) fun x hx => hx
  have e2 := filter_zip ps ps us us (fun j x u f1 f2 => lookup_zip nd f1 f2) hl.symm
  have e3 : (notAStandIn Value.none : Sem Unit) = pure () := rfl
  have e4 : (ps.take ps.length) = ps := List.take_length
  simp [seqItems?, hn, e1, e2, e3, e4]
theorem binds_dfl {name qual : Str} {params : Arguments} {body : List Stmt} {scope : Scope} {kV doc pm cdv ct d : Value} {an : Option Addr} {T : Addr} {o : Obj} {k : Nat} {qs : List Str} {q : Str} (hp : plainP params = true) (hv : params.vararg = none) (hps : params.args.map (·.arg) = qs ++ [q]) (nd : (qs ++ [q]).Nodup)
    (lT : K.lookup T = some o) (oT : o.data = .seq #[d] k) (s : Shared) (X : K.In s.heap) (us ws : List Value) (hw : (us.length = qs.length + 1 ∧ ws = us) ∨ (us.length = qs.length ∧ ws = us ++ [d])) :
    BindsTo s (PySem.W.fnOf name qual params body scope (.ref T) kV doc pm an cdv ct) ⟨us, []⟩ ((qs ++ [q]).zip ws) := by
  unfold plainP at hp
  simp only [Bool.and_eq_true, List.isEmpty_iff, Option.isNone_iff_eq_none] at hp
  obtain ⟨⟨h1, h2⟩, h3⟩ := hp
  refine BindsTo.of_looks fun M => ?_
  unfold bindArgs
  simp only [PySem.W.fnOf, h1, h2, h3, hv, List.map_nil, List.nil_append, List.append_nil, hps]
  have hlw : ws.length = qs.length + 1 := by rcases hw with ⟨a, rfl⟩ | ⟨a, rfl⟩ <;> simp [a]
  have hn : ¬ ((qs ++ [q]).length < us.length) := by rcases hw with ⟨a, _⟩ | ⟨a, _⟩ <;> simp [a]
  have e1 : (qs.filter fun n => (((qs ++ [q]).zip us).lookup n).isNone) = [] := by
    rw [List.filter_eq_nil_iff]
    intro x hx
    obtain ⟨j, hj⟩ := List.mem_iff_getElem?.mp hx
    have hjq : j < qs.length := (List.getElem?_eq_some_iff.mp hj).1
    have hjl : j < us.length := by rcases hw with ⟨a, _⟩ | ⟨a, _⟩ <;> omega
    rw [lookup_zip nd (j := j) (by rw [List.getElem?_append_left hjq]; exact hj) (List.getElem?_eq_getElem hjl)]
    simp
  have e2 := filter_zip (qs ++ [q]) (qs ++ [q]) ws ws (fun j x u f1 f2 => lookup_zip nd f1 f2) (by simp [hlw])
  simp only [List.forIn_nil, pure_bind]
  refine looks_items X lT oT (PySem.W.Looks.of_pure ?_)
  simp only [Option.getD_some]
  have e5 : (qs ++ [q]).take ((qs ++ [q]).length - 1) = qs := by simp
  have e6 : (qs ++ [q]).drop ((qs ++ [q]).length - 1) = [q] := by simp
  have e7 : ([d] : List Value).drop (1 - (qs ++ [q]).length) = [d] := by simp
  have hn' : ¬ (qs.length + 1 < us.length) := by simpa using hn
  rcases hw with ⟨a, e⟩ | ⟨a, e⟩
  · rw [e] at e2 ⊢
    have lq : (((qs ++ [q]).zip us).lookup q) = some (us[qs.length]'(by omega)) := lookup_zip nd (j := qs.length) (by simp) (List.getElem?_eq_getElem (by omega))
    simp [-List.filterMap_append, hn', e1, e2, e5, e6, e7, lq]
  · rw [e] at e2 ⊢
    have lq : (((qs ++ [q]).zip us).lookup q) = none := by
      rw [show (qs ++ [q]).zip us = qs.zip us by
        rw [← List.append_nil us, List.zip_append a.symm]; simp]
      rw [List.nodup_append] at nd
      have hq : q ∉ qs := fun hm => nd.2.2 q hm q (by simp) rfl
      clear e1 e2 e5 e6 e7 hn hn' hlw hps nd a e
      induction qs generalizing us with
      | nil => rfl
      | cons p qs ih =>
        cases us with
        | nil => rfl
        | cons u us =>
          rw [List.zip_cons_cons, List.lookup_cons, beq_eq_false_iff_ne.mpr (fun e => hq (by simp [e]))]
          exact ih us fun hm => hq (List.mem_cons_of_mem _ hm)
    have ez : (qs ++ [q]).zip us ++ [(q, d)] = (qs ++ [q]).zip (us ++ [d]) := by
      rw [show (qs ++ [q]).zip us = qs.zip us by
        rw [← List.append_nil us, List.zip_append a.symm]; simp]
      rw [List.zip_append a.symm]; rfl
    simp [-List.filterMap_append, hn', e1, e5, e6, e7, lq, ez, e2]
theorem binds_star {name qual : Str} {params : Arguments} {body : List Stmt} {scope : Scope} {kV doc pm cdv ct : Value} {an : Option Addr} {pa : Str} {va : Arg} (hp : plainP params = true) (hv : params.vararg = some va) (hps : params.args.map (·.arg) = [pa]) (u : Value) (rest : List Value) :
    bindArgs (PySem.W.fnOf name qual params body scope .none kV doc pm an cdv ct) ⟨u :: rest, []⟩ = (newTuple rest >>= fun t => pure [(pa, u), (va.arg, t)]) := by
  unfold plainP at hp
  simp only [Bool.and_eq_true, List.isEmpty_iff, Option.isNone_iff_eq_none] at hp
  obtain ⟨⟨h1, h2⟩, h3⟩ := hp
  unfold bindArgs
  simp only [PySem.W.fnOf, h1, h2, h3, hv, List.map_nil, List.nil_append, List.append_nil, hps]
  have e3 : (notAStandIn Value.none : Sem Unit) = pure () := rfl
  simp [seqItems?, e3, List.lookup]
/-! ### static data -/
def repF : D → Value → Bool
  | .non, .none => true
  | .bl b, .bool c => b == c
  | .int i, .int j _ => decide (i = j)
  | .str s, .str x _ => decide (x = S' s) && s.all fun c => decide (c < 1114112)
  | _, _ => false
def repFs : List D → List Value → Bool
  | [], [] => true
  | d :: ds, u :: us => repF d u && repFs ds us
  | _, _ => false
theorem repF_d {d : D} {u : Value} (h : repF d u = true) : ∃ v, RelV v u ∧ ∀ (K : Fg) (G : Hp), Rep K G d v := by
  unfold repF at h
  split at h
  · exact ⟨.non, rfl, fun _ _ => .non⟩
  · rename_i b c
    have e := eq_of_beq h
    subst e
    exact ⟨.bl b, rfl, fun _ _ => .bl b⟩
  · rename_i i j t
    have e : i = j := of_decide_eq_true h
    subst e
    exact ⟨.int i, ⟨t, rfl⟩, fun _ _ => .int i⟩
  · rename_i s x t
    rw [Bool.and_eq_true] at h
    have e : x = S' s := of_decide_eq_true h.1
    subst e
    exact ⟨.str (S' s), ⟨t, rfl⟩, fun _ _ => .str s fun c hc => by simpa using List.all_eq_true.mp h.2 c hc⟩
  · cases h
theorem repFs_d : ∀ {ds : List D} {us : List Value}, repFs ds us = true → ∃ vs, Vals vs us ∧ ∀ (K : Fg) (G : Hp), Reps K G ds vs
  | [], [], _ => ⟨[], .nil, fun _ _ => .nil⟩
  | d :: ds, u :: us, h => by
    have h := Bool.and_eq_true_iff.mp (show (repF d u && repFs ds us) = true from h)
    obtain ⟨v, h1, h2⟩ := repF_d h.1
    obtain ⟨vs, h3, h4⟩ := repFs_d h.2
    exact ⟨v :: vs, .cons h1 h3, fun K G => .cons (h2 K G) (h4 K G)⟩
  | [], _ :: _, h => by cases h
  | _ :: _, [], h => by cases h
def repS (K : PySem.W.Frag) : D → Value → Bool
  | .non, .none => true
  | .bl b, .bool c => b == c
  | .int i, .int j _ => decide (i = j)
  | .str s, .str x _ => decide (x = S' s) && s.all fun c => decide (c < 1114112)
  | .ptp [], .ref b => match K.lookup b with
    | some ⟨.type t, none, .seq its _, _⟩ => decide (t = "tuple") && its.isEmpty
    | _ => false
  | .tup xs, .ref b => match K.lookup b with
    | some ⟨.type t, _, .seq its _, _⟩ => decide (t = "tuple") && decide (its.size ≤ 1000) && repFs xs its.toList
    | _ => false
  | _, _ => false
theorem repS_d {d : D} {u : Value} (h : repS K d u = true) : ∃ v, RelV v u ∧ ∀ G, Rep ⟨K, cl⟩ G d v := by
  unfold repS at h
  split at h
  · exact ⟨.non, rfl, fun _ => .non⟩
  · rename_i b c
    have e := eq_of_beq h
    subst e
    exact ⟨.bl b, rfl, fun _ => .bl b⟩
  · rename_i i j t
    have e : i = j := of_decide_eq_true h
    subst e
    exact ⟨.int i, ⟨t, rfl⟩, fun _ => .int i⟩
  · rename_i s x t
    rw [Bool.and_eq_true] at h
    have e : x = S' s := of_decide_eq_true h.1
    subst e
    exact ⟨.str (S' s), ⟨t, rfl⟩, fun _ => .str s fun c hc => by simpa using List.all_eq_true.mp h.2 c hc⟩
  · rename_i b
    split at h
    · rename_i t its k sl hk
      rw [Bool.and_eq_true] at h
      have e : t = "tuple" := of_decide_eq_true h.1
      subst e
      have hi : its = #[] := by simpa using h.2
      subst hi
      exact ⟨.ref b, rfl, fun _ => .ptp ⟨_, [], k, .inr ⟨hk, .nil⟩, rfl, rfl, rfl, by simp⟩ .nil⟩
    · cases h
  · rename_i xs b
    split at h
    · rename_i t dd its k sl hk
      simp only [Bool.and_eq_true] at h
      have e : t = "tuple" := of_decide_eq_true h.1.1
      subst e
      obtain ⟨vs, h1, h2⟩ := repFs_d h.2
      have hz : its.size ≤ 1000 := of_decide_eq_true h.1.2
      exact ⟨.ref b, rfl, fun G => .tup (.inr ⟨_, its, k, hk, rfl, rfl, by rw [sizeLine_eq]; omega, h1⟩) (h2 _ _)⟩
    · cases h
  · cases h
/-- the arguments of the def at a come so -/
def okAd (K : PySem.W.Frag) (ad : Ad) (a : Addr) : Bool := match K.lookup a with
  | some ⟨_, _, .func fd, _⟩ => match ad with
    | .all => fd.params.vararg.isNone && (match fd.defaults with
      | .none => true
      | .ref T => match K.lookup T with
        | some ⟨_, _, .seq its _, _⟩ => decide (its.size = 1) && !fd.params.args.isEmpty
        | _ => false
      | _ => false)
    | .dfl ds => fd.params.vararg.isNone && (match fd.defaults with
      | .ref T => match K.lookup T with
        | some ⟨_, _, .seq its _, _⟩ => !fd.params.args.isEmpty && (match ds, its.toList with
          | [d], [u] => repS K d u
          | _, _ => false)
        | _ => false
      | _ => false)
    | .star => match fd.defaults with
      | .none => fd.params.vararg.isSome && decide (fd.params.args.length = 1)
      | _ => false
  | _ => false
theorem cx_new : CXNew (L2.CX prog w) := by
  intro outer s H h2 p rest E e s' kp hp hn c
  obtain ⟨a, B, H', cls, d, q1, q2, q3, q4, q5, q6, q7, q8⟩ := c
  have ne : ∀ b o, s.heap.get? b = some o → b ≠ p := fun b o e => Nat.ne_of_lt (Nat.lt_of_lt_of_le (Heap.lt_size e) hp)
  have nh : ∀ b o, H b = some o → upd H p (.tup rest) b = some o := fun b o e => by rw [upd_ne (ne_of_none e hn)]; exact e
  refine ⟨a, B, H', cls, d, q1, q2, q3, ⟨fun b o e1 e2 => q4.keep b o (kp b o e1) (by rw [upd_ne (ne b o e1)]; exact e2), fun b o e1 => q4.slot b o (kp b o e1), fun b o e1 e2 => q4.free b o (kp b o e1) (by rw [upd_ne (ne b o e1)]; exact e2), fun b o e1 => q4.there b o (kp b o e1),
    fun b xs e1 => q4.tups b xs (nh _ _ e1), fun b o xs e1 => q4.frzs b o xs (nh _ _ e1), fun b ps e1 => q4.tbls b ps (nh _ _ e1)⟩, q5, q6, q7, q8⟩
theorem Paired.split {α β : Type} {R : α → β → Prop} : ∀ {as : List α} {bs : List β} {cs : List α} {ds : List β}, Paired R as bs → Paired R cs ds → Paired R (as ++ cs) (bs ++ ds)
  | _, _, _, _, .nil, h => h
  | _, _, _, _, .cons h t, q => .cons h (Paired.split t q)
theorem reps_rvs {K : Fg} {G : Hp} {m : List Addr} : ∀ {ds : List D} {vs : List V}, Reps K G ds vs → RVs K G m (ds.map .d) vs
  | _, _, .nil => .nil
  | _, _, .cons h t => .cons h (reps_rvs t)
/-- from the object of a def to what a call of it does -/
theorem fn_R {f : Nat} {fn : Fn} {N : List Str} {a : Addr} (M : Md nm cl P (call P fns n) n prog w K mg base) (hf : fns[f]? = some fn) (h : okFn nm K fn N a = true) (ha : okAd K fn.ad a = true) (hlm : nm.lam = true → ∀ (oc : Value) (od : Option Addr) (fd : FuncData) (osl : Array (Option Value)), K.lookup a = some ⟨oc, od, .func fd, osl⟩ → LmC cl base mg fd.code fd.qualname) :
    FnR prog w K mg base (L2.CX prog w) (5 * (n + 1)) a (spC nm mg ⟨K, cl⟩ (call P fns (n + 1) f)) := by
  obtain ⟨oc, od, name, qual, params, body, scope, dV, kV, doc, pm, an, cdv, ct, osl, lk, hcd, hpl, S, h7, h8, h9, h10⟩ := okFn_d h
  unfold okAd at ha
  rw [lk] at ha
  dsimp only at ha
  have hcall : ∀ vs S', call P fns (n + 1) f vs S' = match adapt fn.ad fn.np vs with
      | some ws => runF P (call P fns n) fn ws S'
      | none => .bad := fun vs S' => by first | (simp only [call, hf]; done) | (simp only [call, hf]; rfl)
  have F : FnOk prog w K mg base (L2.CX prog w) (5 * n + 5) a (PySem.W.fnOf name qual params body scope dV kV doc pm an cdv ct) (pnames params) (spR nm mg ⟨K, cl⟩ P (call P fns n) fn) :=
    h10.elim (fun z => fn_of (k := 5 * n + 4) lk hcd S (fun vs H Q E q => by rw [h7]; exact q.1) fun A outer s H vs Q E hr q => body_sound M S h9 h8.symm z cdv A outer s H vs Q E hr (fun z => hlm z _ _ _ _ lk) q)
      fun z => fn_ofT (k := 5 * n + 4) lk hcd S z.2.1 z.2.2.1 (fun vs H Q E q => by rw [h7]; exact q.1) fun A outer s H vs Q E hr q => body_soundT M S h9 h8.symm z.1 cdv A outer s H vs Q E hr (fun z => hlm z _ _ _ _ lk) q
  have runLen : ∀ {ws : List Vl} {S' : Hs} {σ : L2.St} {F G : Hp} {m : List Addr} {Q : VK} {W : WX}, OutV nm.excs mg ⟨K, cl⟩ W F σ G m Q (runF P (call P fns n) fn ws S') → ws.length = fn.np := fun {ws S' σ F G m Q W} o => by
    by_cases e : ws.length = fn.np
    · exact e
    · simp only [runF, e, if_false] at o; exact o.elim
  cases had : fn.ad with
  | all =>
    rw [had] at ha
    simp only [Bool.and_eq_true, Option.isNone_iff_eq_none] at ha
    have hpn : pnames params = params.args.map (·.arg) := by unfold pnames; rw [ha.1]; simp
    have nd : (params.args.map (·.arg)).Nodup := by
      have := S.pre
      rw [← hpn, ← S.pre]
      exact (List.take_sublist _ _).nodup S.nd
    have bnd : Binds K (PySem.W.fnOf name qual params body scope dV kV doc pm an cdv ct) (pnames params) [] := by
      intro s us X hl
      rw [List.append_nil] at hl ⊢
      rw [hpn] at hl ⊢
      have h2 := ha.2
      cases dV with
      | none => exact .of_eq (binds_all hpl ha.1 nd us hl)
      | ref T =>
        dsimp only at h2
        split at h2
        · rename_i oc' od' its k sl hT
          simp only [Bool.and_eq_true, decide_eq_true_eq, Bool.not_eq_true', List.isEmpty_eq_false_iff] at h2
          obtain ⟨d, hd⟩ : ∃ d, its = #[d] := by
            obtain ⟨l⟩ := its
            match l, h2.1 with
            | [d], _ => exact ⟨d, rfl⟩
          subst hd
          have hne : params.args.map (·.arg) ≠ [] := by simpa using h2.2
          obtain ⟨qs, q, hq⟩ : ∃ qs q, params.args.map (·.arg) = qs ++ [q] := ⟨_, _, (List.dropLast_concat_getLast hne).symm⟩
          rw [hq] at hl nd ⊢
          exact binds_dfl hpl ha.1 hq nd hT rfl s X us us (.inl ⟨by simpa using hl, rfl⟩)
        · cases h2
      | _ => cases h2
    refine (F.raw bnd .nil).mono (by omega) |>.imp fun vs H Q E ⟨F0, G, m, ds, S', l, r, out⟩ => ?_
    rw [hcall, had] at out
    simp only [adapt] at out
    have hl := runLen out
    refine ⟨by rw [List.append_nil, ← r.length]; exact hl, F0, G, m, ds, S', l, by rw [List.append_nil]; exact r, out⟩
  | dfl ds0 =>
    rw [had] at ha
    simp only [Bool.and_eq_true, Option.isNone_iff_eq_none] at ha
    have hpn : pnames params = params.args.map (·.arg) := by unfold pnames; rw [ha.1]; simp
    have nd : (params.args.map (·.arg)).Nodup := by
      rw [← hpn, ← S.pre]
      exact (List.take_sublist _ _).nodup S.nd
    have h2 := ha.2
    cases dV with
    | ref T =>
      dsimp only at h2
      split at h2
      · rename_i oc' od' its k sl hT
        rw [Bool.and_eq_true] at h2
        have h3 := h2.2
        split at h3
        · rename_i d u hits
          have hi : its = #[u] := by
            obtain ⟨l⟩ := its
            simp at hits
            subst hits
            rfl
          subst hi
          have hne : params.args.map (·.arg) ≠ [] := by simpa using h2.1
          obtain ⟨qs, q, hq⟩ : ∃ qs q, params.args.map (·.arg) = qs ++ [q] := ⟨_, _, (List.dropLast_concat_getLast hne).symm⟩
          obtain ⟨v, rv, rep⟩ := repS_d (cl := cl) h3
          have bnd : Binds K (PySem.W.fnOf name qual params body scope (.ref T) kV doc pm an cdv ct) (pnames params) [u] := by
            intro s us X hl
            rw [hpn] at hl ⊢
            rw [hq] at hl nd ⊢
            exact binds_dfl hpl ha.1 hq nd hT rfl s X us (us ++ [u]) (.inr ⟨by simpa using hl, rfl⟩)
          refine (F.raw (dvs := [v]) bnd (.cons rv .nil)).mono (by omega) |>.imp fun vs H Q E ⟨F0, G, m, ds, S', l, r, out⟩ => ?_
          rw [hcall, had] at out
          simp only [adapt, List.map_cons, List.map_nil] at out
          have hl := runLen out
          have r2 : RVs ⟨K, cl⟩ G m (ds ++ [.d d]) (vs ++ [v]) := Paired.split r (.cons (show RepV ⟨K, cl⟩ G m (.d d) v from rep G) .nil)
          exact ⟨by rw [← r2.length]; exact hl, F0, G, m, _, S', l, r2, out⟩
        · cases h3
      · cases h2
    | _ => cases h2
  | star =>
    rw [had] at ha
    dsimp only at ha
    cases dV with
    | none =>
      simp only [Bool.and_eq_true, decide_eq_true_eq, Option.isSome_iff_exists] at ha
      obtain ⟨⟨va, hva⟩, hlen⟩ := ha
      obtain ⟨pa, hpa⟩ : ∃ pa, params.args.map (·.arg) = [pa] := by
        match hh : params.args, hlen with
        | [x], _ => exact ⟨x.arg, rfl⟩
      have hpn : pnames params = [pa, va.arg] := by unfold pnames; rw [hva, hpa]; rfl
      have S' := S
      rw [hpn] at S'
      have h10 : isSs nm N scope fn.body body = true := h10.elim id fun z => (by have y := z.2.2.2; rw [had] at y; cases y)
      have FV := fn_ofV (CX := L2.CX prog w) (P := prog) (w := w) (mg := mg) (base := base) (k := 5 * n + 4) (nmax := 5) (sp := spR nm mg ⟨K, cl⟩ P (call P fns n) fn) lk hcd S' (by decide) (fun u rest _ => binds_star hpl hva hpa u rest) cx_new
        (fun A outer s H vs Q E hr q => body_sound M S' h9 h8.symm h10 cdv A outer s H vs Q E hr (fun z => hlm z _ _ _ _ lk) q)
      refine FV.mono (by omega) |>.imp fun vs H Q E ⟨F0, G, m, ds, S0, l, r, out⟩ => ?_
      rw [hcall, had] at out
      have hnp : fn.np = 2 := by rw [← h7, hpn]; rfl
      rw [hnp] at out
      cases r with
      | nil => simp only [adapt] at out; exact out.elim
      | @cons v u ds us r0 rs =>
        simp only [adapt] at out
        split at out
        · rename_i ws hws
          split at hws
          · rename_i h5
            cases hd : dsOf ds with
            | none => rw [hd] at hws; cases hws
            | some xs =>
              rw [hd] at hws
              cases hws
              refine ⟨u, us, rfl, by rw [← rs.length]; exact h5, fun p hp => ?_⟩
              have al : Al G H _ _ := Al.one (o := .tup us) hp
              refine ⟨by rw [hnp]; rfl, F0, _, m, _, S0, l.al al, .cons (r0.mono (al.grow l.ext)) (.cons (show RepV ⟨K, cl⟩ _ m (.d (.tup xs)) (.ref p) from .tup (.inl (.inl upd_same)) ((dsOf_reps rs hd).mono (al.ext l.ext).2.1)) .nil), Out.grow (al.grow l.ext) out⟩
          · cases hws
        · exact out.elim
    | _ => cases ha
end
end Iv
end
section
set_option autoImplicit false
set_option maxRecDepth 100000
set_option maxHeartbeats 4000000
namespace Iv
open PySem PySem.W PySem.Calls
/-! ### a look at the classes of errors -/
structure Bas where
  B : String
  newId : String
  i : String
  bmB : List Value
def bases : List Bas := [
  ⟨"ValueError", "ValueError.__new__", "ValueError.__init__", [.type "ValueError", .type "Exception", .type "BaseException", .type "object"]⟩,
  ⟨"LookupError", "LookupError.__new__", "LookupError.__init__", [.type "LookupError", .type "Exception", .type "BaseException", .type "object"]⟩,
  ⟨"IndexError", "IndexError.__new__", "IndexError.__init__", [.type "IndexError", .type "LookupError", .type "Exception", .type "BaseException", .type "object"]⟩,
  ⟨"OverflowError", "OverflowError.__new__", "OverflowError.__init__", [.type "OverflowError", .type "ArithmeticError", .type "Exception", .type "BaseException", .type "object"]⟩]
theorem bases_ok {b : Bas} (h : b ∈ bases) : BasF b.B b.newId b.i b.bmB := by
  simp only [bases, List.mem_cons, List.not_mem_nil, or_false] at h
  rcases h with rfl | rfl | rfl | rfl
  · exact ⟨F.excBase_ValueError, F.store_ValueError, kxs_ValueError⟩
  · exact ⟨F.excBase_LookupError, F.store_LookupError, kxs_LookupError⟩
  · exact ⟨F.excBase_IndexError, F.store_IndexError, kxs_IndexError⟩
  · exact ⟨F.excBase_OverflowError, F.store_OverflowError, kxs_OverflowError⟩
/-- the two statements of such an __init__ -/
def iniBody (a b f : Str) : List Stmt → Bool
  | [.Expr (.Call (.Attribute (.Call (.Name x0 _) [] [] _) x1 p2) [.Call (.Name x3 _) [.Name x4 _] [] _] [] p6) _, .Assign [.Attribute (.Name x8 _) x9 _] (.Name x10 _) _] =>
    decide (x0 = "super") && decide (x1 = "__init__") && decide (x3 = "str") && decide (x4 = b) && decide (x8 = a) && decide (x9 = f) && decide (x10 = b) && (p2.endLine == p6.line)
  | _ => false
theorem iniBody_d {a b f : Str} {l : List Stmt} (h : iniBody a b f l = true) : ∃ p : Fin 12 → Pos, l = [.Expr (.Call (.Attribute (.Call (.Name "super" (p 0)) [] [] (p 1)) "__init__" (p 2)) [.Call (.Name "str" (p 3)) [.Name b (p 4)] [] (p 5)] [] (p 6)) (p 7),
    .Assign [.Attribute (.Name a (p 8)) f (p 9)] (.Name b (p 10)) (p 11)] ∧ ((p 2).endLine == (p 6).line) = true := by
  unfold iniBody at h
  split at h
  · rename_i x0 p0 p1 x1 p2 x3 p3 x4 p4 p5 p6 p7 x8 p8 x9 p9 x10 p10 p11
    simp only [Bool.and_eq_true, decide_eq_true_eq] at h
    obtain ⟨⟨⟨⟨⟨⟨⟨rfl, rfl⟩, rfl⟩, rfl⟩, rfl⟩, rfl⟩, rfl⟩, hl⟩ := h
    refine ⟨fun k => match k.val with
      | 0 => p0 | 1 => p1 | 2 => p2 | 3 => p3 | 4 => p4 | 5 => p5 | 6 => p6 | 7 => p7 | 8 => p8 | 9 => p9 | 10 => p10 | _ => p11, rfl, hl⟩
  · cases h
def iniB (prog : Program) (K : Frag) (C fI : Addr) (f : Str) : Bool := match K.lookup fI with
  | some ⟨_, _, .func fd, _⟩ => match fd.body, fd.closure, fd.code, fd.params.args with
    | .stmts body, [(cx, cc)], .ref cda, [a, b] => iniBody a.arg b.arg f body && decide (cx = "__class__") && decide (fd.globals = mainGlobals) && decide (fd.builtins = builtinsNs) && (match fd.defaults with | .none => true | _ => false) &&
      fd.params.posonlyargs.isEmpty && fd.params.kwonlyargs.isEmpty && fd.params.vararg.isNone && fd.params.kwarg.isNone && !decide (a.arg = b.arg) && !(a.arg == ("__debug__" : Str)) && !(b.arg == ("__debug__" : Str)) &&
      codeIn K (.ref cda) fd.qualname && (match K.lookup cda with
        | some ⟨_, _, .fields vs, _⟩ => (match vs[2]? with
          | some (Value.str file _) => (prog.main.file : Str) == file
          | _ => false)
        | _ => false) && (match K.lookup cc with
        | some ⟨_, _, .cell (some (.ref D)), _⟩ => decide (D = C)
        | _ => false) && decide (fd.scope.kind = .function) && !fd.scope.isCoroutine && !fd.scope.isGenerator && (fd.scope.names.all fun y => !decide (y.2 = .cell)) &&
      decide (fd.scope.names.lookup a.arg = some .local) && decide (fd.scope.names.lookup b.arg = some .local) && decide (fd.scope.names.lookup ("super" : Str) = some .globalImplicit) && decide (fd.scope.names.lookup ("str" : Str) = some .globalImplicit) &&
      decide (fd.scope.names.lookup ("__class__" : Str) = some .free)
    | _, _, _, _ => false
  | _ => false
theorem iniB_d {prog : Program} {K : Frag} {C fI : Addr} {f : Str} (h : iniB prog K C fI f = true) : Nonempty (IniK prog K C fI f) := by
  unfold iniB at h
  split at h
  · rename_i oc od fd osl hk
    obtain ⟨name, qual, params, fb, scope, globals, closure, dV, kV, doc, pm, an, cdv, ct, bi⟩ := fd
    dsimp only at h
    split at h
    · rename_i body cx cc cda a b ha
      simp only [Bool.and_eq_true, decide_eq_true_eq, List.isEmpty_iff, Option.isNone_iff_eq_none, Bool.not_eq_true', decide_eq_false_iff_not] at h
      obtain ⟨⟨⟨⟨⟨⟨⟨⟨⟨⟨⟨⟨⟨⟨⟨⟨⟨⟨⟨⟨⟨⟨⟨h1, h2⟩, h3⟩, h4⟩, h5⟩, h6⟩, h7⟩, h8⟩, h9⟩, h10⟩, h11⟩, h12⟩, h13⟩, h14⟩, h15⟩, h16⟩, h17⟩, h18⟩, h19⟩, h20⟩, h21⟩, h22⟩, h23⟩, h24⟩ := h
      subst h2 h3 h4
      obtain ⟨p, rfl, hl⟩ := iniBody_d h1
      have e5 : dV = .none := by
        cases dV <;> first | rfl | cases h5
      subst e5
      split at h14
      · rename_i ccl cdd vs ccs hr
        split at h14
        · rename_i file tf hvs
          split at h15
          · rename_i cl cld D csl hc
            have e15 : D = C := of_decide_eq_true h15
            subst e15
            exact ⟨{ oc := oc, od := od, osl := osl, name := name, qual := qual, pa := a, pb := b, kd := [], doc := doc, pm := pm, an := an, kV := kV, ct := ct, scope := scope, params := params, cc := cc, cda := cda, vs := vs, file := file, tf := tf, ccl := ccl, cdd := cdd, ccs := ccs, cl := cl, cld := cld, csl := csl, p := p,
                     at_ := hk, pos := h6, args := ha, kwo := h7, va := h8, kwa := h9, ne := h10, da := h11, db := h12, code := h13, rec_ := hr, hvs := hvs, hfile := h14, cell := hc, kind := h16, co := h17, gen := h18,
                     nocell := fun x hx e => (by have := List.all_eq_true.mp h19 x hx; simp [e] at this), la := h20, lb := h21, ls := h22, lt := h23, lc := h24, ln := hl }⟩
          · cases h15
        · cases h14
      · cases h14
    · cases h
  · cases h
def xnB (prog : Program) (K : Frag) (b : Bas) (C : Addr) (f : Str) : Bool := excInitIn K C b.bmB b.newId && keepIn K (.ref C) && excOver K C b.bmB && hasDictIn K C && (subIn K (.ref C) (.type "BaseException") == some true) && (typeIn K (.ref C) == some (.type "type")) &&
  (findIn K (.ref C) "__setattr__" == some (some (.builtin "object.__setattr__"))) && (takerIn K C f == some none) && (subIn K (.ref C) (.type b.B) == some true) && (mroIn K C (.ref C) == some true) && (nsIn K mainGlobals "super" == some none) && (nsIn K mainGlobals "str" == some none) &&
  (ks_superIn K C C "__init__" == some (some (.builtin b.i))) && (nsIn K cStatics "thirdparty.any" == some none) && !(prog.main.scope.names.lookup ("super" : Str)).isSome && (match findIn K (.ref C) "__init__" with
    | some (some (.ref fI)) => isFn K (.ref fI) && iniB prog K C fI f
    | _ => false)
theorem xnB_d {prog : Program} {K : Frag} {b : Bas} {C : Addr} {f : Str} (h : xnB prog K b C f = true) : XnK prog K b.B b.newId b.i b.bmB C f := by
  unfold xnB at h
  simp only [Bool.and_eq_true, beq_iff_eq, Bool.not_eq_true'] at h
  obtain ⟨⟨⟨⟨⟨⟨⟨⟨⟨⟨⟨⟨⟨⟨⟨h1, h2⟩, h3⟩, h4⟩, h5⟩, h6⟩, h7⟩, h8⟩, h9⟩, h10⟩, h11⟩, h12⟩, h13⟩, h14⟩, h15⟩, h16⟩ := h
  split at h16
  · rename_i fI hf
    rw [Bool.and_eq_true] at h16
    exact ⟨h1, h2, h3, h4, h5, h6, h7, h8, h9, h10, h11, h12, h13, h14, h15, fI, hf, h16.1, iniB_d h16.2⟩
  · cases h16
/-- an error without own __init__ -/
def xpB (K : Frag) (b : Bas) (C : Addr) : Bool := excIn K C b.bmB b.newId && keepIn K (.ref C) && (subIn K (.ref C) (.type "BaseException") == some true) && (typeIn K (.ref C) == some (.type "type"))
end Iv
end
section
set_option autoImplicit false
set_option maxRecDepth 100000
set_option maxHeartbeats 4000000
namespace Iv
open PySem L2
/-! ### the text as data: tables, and a look at the written part -/
/-- where a def stands -/
inductive Wh where
  | glo (x : Str) | met (c : Nat) (x : Str) | prp (c : Nat) (x : Str) | cmt (c : Nat) (x : Str)
structure Tb where
  fns : List Fn
  Ns : List (List Str)
  wh : List Wh
  /-- global defs: the first ones -/
  gfn : List Str
  globs : List (Str × D)
  cls : List Str
  excs : List Xc
  fuel : Nat
  mks : List (Nat × Nat)
  /-- fields, methods, properties: the name, the class, the place or def -/
  sls : List (Str × Nat × Nat)
  mts : List (Str × Nat × Nat)
  prs : List (Str × Nat × Nat)
  cms : List (Str × Nat × Nat)
  ops : List (BOp × Nat × Nat)
  eqs : List (Nat × Nat)
  lns : List (Nat × Nat)
  bls : List (Nat × Nat)
  sts : List (Nat × Nat) := []
  /-- isinstance: the class, of which, the answer -/
  isc : List (Nat × Nat × Bool)
  /-- errors: the class, the one above it (each above itself too) -/
  subs : List (Nat × Nat) := []
  /-- defs that tell whether a lambda's call is refused: the name, the classes -/
  rfs : List (Str × Nat × Nat) := []
  /-- defs that make lambdas -/
  mkr : List Nat := []
def Tb.sb (t : Tb) (a b : Nat) : Bool := t.subs.any fun q => decide (q.1 = a) && decide (q.2 = b)
def Tb.nm (t : Tb) : Nm := { fns := t.gfn, globs := t.globs.map (·.1), excs := t.excs, nf := t.fns.length, mks := t.mks.map (fun q => t.cls.getD q.1 ("" : Str)), sls := t.sls.map (·.1), mts := t.mts.map (·.1), prs := t.prs.map (·.1), cms := t.cms.map (fun q => (t.cls.getD q.2.1 ("" : Str), q.1)), cls := t.cls, sub := t.sb, rfs := t.rfs }
def Tb.prg (t : Tb) : Prg where
  globs := t.globs.map (·.2)
  sub := t.sb
  fuel := t.fuel
  mks := t.mks
  sls := t.sls.map (·.2)
  mts := t.mts.map (·.2)
  prs := t.prs.map (·.2)
  cms := t.cms.map (·.2)
  rfs := t.rfs.map (·.2)
  isc := fun c j => (t.isc.find? fun q => decide (q.1 = c) && decide (q.2.1 = j)).map (·.2.2)
  opf := fun o c => (t.ops.find? fun q => decide (q.1 = o) && decide (q.2.1 = c)).map (·.2.2)
  eqf := fun c => (t.eqs.find? fun q => decide (q.1 = c)).map (·.2)
  lnf := fun c => (t.lns.find? fun q => decide (q.1 = c)).map (·.2)
  bof := fun c => (t.bls.find? fun q => decide (q.1 = c)).map (·.2)
  stf := fun c => (t.sts.find? fun q => decide (q.1 = c)).map (·.2)
section
variable (t : Tb) (K : PySem.W.Frag)
def gA (x : Str) : Addr := match PySem.W.nsIn K mainGlobals x with
  | some (some (.ref a)) => a
  | _ => 0
def clA (c : Nat) : Addr := match t.cls[c]? with
  | some x => gA K x
  | none => 0
def whA : Wh → Addr
  | .glo x => gA K x
  | .met c x => match PySem.W.findIn K (.ref (clA t K c)) x with
    | some (some (.ref a)) => a
    | _ => 0
  | .prp c x => match PySem.W.findIn K (.ref (clA t K c)) x with
    | some (some (.ref p)) => (match PySem.W.recIn K p "property" with
      | some (.ref g :: _) => g
      | _ => 0)
    | _ => 0
  | .cmt c x => match PySem.W.findIn K (.ref (clA t K c)) x with
    | some (some (.ref p)) => (match PySem.W.recIn K p "classmethod" with
      | some (.ref g :: _) => g
      | _ => 0)
    | _ => 0
/-- where the classes and the defs stand -/
def atK : Nat → Addr := fun i => if i < 4096 then clA t K i else if i < 8192 then (match t.wh[i - 4096]? with
  | some w => whA t K w
  | none => 0) else match t.excs[i - 8192]? with
  | some e => gA K e.name
  | none => 0
/-- the code object of the def at a, its table, the name of its lambdas -/
def tabFn (a : Addr) : Option (Addr × Addr × Str) := match K.lookup a with
  | some ⟨_, _, .func fd, _⟩ => (match fd.code with
    | .ref c => (match K.lookup c with
      | some ⟨_, _, .fields vs, _⟩ => (match (vs[11]? : Option Value) with
        | some (.ref P) => some (c, P, fd.qualname ++ ".<locals>." ++ "<lambda>")
        | _ => none)
      | _ => none)
    | _ => none)
  | _ => none
def csK : List (Addr × Addr × Str) := t.mkr.filterMap fun f => tabFn K (atK t K (f + 4096))
def clK : Cl := ⟨atK t K, (csK t K).map fun q => (q.2.1, q.2.2)⟩
abbrev atB (c f : Nat) (x : Str) : Bool := PySem.W.findIn K (.ref (clK t K c)) x == some (some (.ref (fa (clK t K) f))) && PySem.W.isFn K (.ref (fa (clK t K) f))
def sclsB (c : Nat) : Bool := PySem.W.plainGet K (clK t K c) Str.empty && PySem.W.isClsIn K (clK t K c) && PySem.W.plainOver K (clK t K c) && (PySem.W.findIn K (.ref (clK t K c)) "__setattr__" == some (some (.builtin "object.__setattr__")))
def sisiB (c : Nat) : Bool := (PySem.W.findIn K (.ref (clK t K c)) "__class__" == some (some (.builtin "object.__class__"))) && (PySem.W.specialIn K (.builtin "object.__class__") "__get__" == some (some (.builtin "getset_descriptor.__get__"))) &&
  (PySem.W.takesIn K (.builtin "object.__class__") == some true) && (PySem.W.mroIn K (clK t K c) (.type "object") == some true)
def glB' (x : Str) (a : Addr) : Bool := PySem.W.nsIn K mainGlobals x == some (some (.ref a))
def fnB : Bool := (List.range t.fns.length).all fun f => match t.fns[f]?, t.Ns[f]? with
  | some fn, some N => okFn (t.nm.put (t.mkr.contains f)) K fn N (fa (clK t K) f) && okAd K fn.ad (fa (clK t K) f)
  | _, _ => false
def gfB : Bool := decide (t.gfn.length ≤ t.fns.length) && (List.range t.gfn.length).all fun f => match t.gfn[f]? with
  | some x => glB' K x (fa (clK t K) f) && PySem.W.keepIn K (.ref (fa (clK t K) f))
  | none => false
def glsB : Bool := t.globs.all fun p => match PySem.W.nsIn K mainGlobals p.1 with
  | some (some u) => repS K p.2 u
  | _ => false
def freeB : Bool := (["len", "int", "str", "abs", "max", "min", "sum", "divmod", "tuple", "list", "all", "any", "bool", "isinstance", "range", "zip", "enumerate", "dict", "sorted", "repr"] : List Str).all fun x => PySem.W.nsIn K mainGlobals x == some none
def opB : Bool := t.ops.all fun q => PySem.W.selfFirst K (clK t K q.2.1) && atB t K q.2.1 q.2.2 (PySem.dunder (bop q.1).info.2) &&
  (match PySem.W.findIn K (.ref (clK t K q.2.1)) (dunderR (bop q.1).info.2) with
    | some none => true
    | some (some (.ref _)) => true
    | _ => false) && (PySem.W.findIn K (.type "int") (PySem.dunder (bop q.1).info.2)).isSome && (PySem.W.findIn K (.type "int") (dunderR (bop q.1).info.2)).isSome && (PySem.W.subIn K (.type "int") (.ref (clK t K q.2.1)) == some false)
def eqB : Bool := t.eqs.all fun q => atB t K q.1 q.2 "__eq__" && (PySem.W.findIn K (.ref (clK t K q.1)) "__ne__" == some (some (.builtin "object.__ne__"))) && PySem.W.plainOver K (clK t K q.1)
def lnB : Bool := t.lns.all fun q => atB t K q.1 q.2 "__len__"
def blB : Bool := (t.bls.all fun q => atB t K q.1 q.2 "__bool__") && (t.sts.all fun q => atB t K q.1 q.2 "__str__")
def mkB : Bool := t.mks.all fun q => decide (q.2 < t.fns.length) && PySem.W.makesIn K (clK t K q.1) && atB t K q.1 q.2 "__init__" && PySem.W.keepIn K (.ref (clK t K q.1)) && glB' K (t.cls.getD q.1 ("" : Str)) (clK t K q.1)
def slB : Bool := t.sls.all fun q => sclsB t K q.2.1 && (match PySem.W.findIn K (.ref (clK t K q.2.1)) q.1 with
  | some (some (.ref p)) => (PySem.W.specialIn K (.ref p) "__get__" == some (some (.builtin "member_descriptor.__get__"))) && (PySem.W.takesIn K (.ref p) == some true) && (PySem.W.typeIn K (.ref p) == some (.type "member_descriptor")) && (PySem.W.slotIn K p (clK t K q.2.1) == some q.2.2) && decide (q.2.2 < 1000)
  | _ => false)
def mtB : Bool := t.mts.all fun q => decide (q.2.2 < t.fns.length) && sclsB t K q.2.1 && atB t K q.2.1 q.2.2 q.1 && PySem.W.keepIn K (.ref (fa (clK t K) q.2.2))
def prB : Bool := t.prs.all fun q => decide (q.2.2 < t.fns.length) && sclsB t K q.2.1 && (match PySem.W.findIn K (.ref (clK t K q.2.1)) q.1 with
  | some (some (.ref p)) => (PySem.W.specialIn K (.ref p) "__get__" == some (some (.builtin "property.__get__"))) && (PySem.W.takesIn K (.ref p) == some true) && (match PySem.W.recIn K p "property" with
    | some (.ref g :: _) => decide (g = fa (clK t K) q.2.2)
    | _ => false)
  | _ => false)
def cmB : Bool := t.cms.all fun q => decide (q.2.2 < t.fns.length) && glB' K (t.cls.getD q.2.1 ("" : Str)) (clK t K q.2.1) && PySem.W.readsIn K (clK t K q.2.1) (.type "type") && (PySem.W.specialIn K (.ref (clK t K q.2.1)) "__getattribute__" == some (some (.builtin "type.__getattribute__"))) &&
  (match PySem.W.findCls K (.ref (clK t K q.2.1)) (.type "type") q.1 with
    | some (.get (.builtin b) (.ref p) .none (.ref C)) => decide (b = "classmethod.__get__") && decide (C = clK t K q.2.1) && (match PySem.W.recIn K p "classmethod" with
      | some (.ref g :: _) => decide (g = fa (clK t K) q.2.2)
      | _ => false)
    | _ => false) && PySem.W.fnIn K (fa (clK t K) q.2.2)
def isB : Bool := (List.range t.cls.length).all fun j => match t.cls[j]? with
  | some x => glB' K x (clK t K j) && (["NoneType", "bool", "int", "str", "tuple", "list", "dict"] : List String).all fun T => PySem.W.kitOne K (.type T) (.ref (clK t K j)) == some false
  | none => false
def iscB : Bool := t.isc.all fun q => sclsB t K q.1 && sisiB t K q.1 && (PySem.W.kitOne K (.ref (clK t K q.1)) (.ref (clK t K q.2.1)) == some q.2.2)
/-- the tables -/
def tabB : Bool := ((csK t K).all fun q => PySem.W.codeHdIn K q.1 q.2.1 && (K.lookup q.2.1).isNone) && (t.mkr.all fun f => (tabFn K (fa (clK t K) f)).isSome) && ((csK t K).all fun q => (csK t K).all fun q' => !decide (q'.2.1 = q.2.1) || decide (q'.2.2 = q.2.2))
/-- a body that tells whether a call is refused -/
def bodyRf : List Stmt → Option (Str × Str × Str)
  | [.Try [.Expr (.Call (.Name a _) [] [] _) _] [.ExceptHandler (some (.Tuple [.Name x1 _, .Name x2 _] _ _)) none [.Return (some (.Constant (.bool true) _ _)) _] _] [] [] _, .Return (some (.Constant (.bool false) _ _)) _] => some (a, x1, x2)
  | _ => none
def exN (c : Nat) : Option Str := t.excs[c]?.map (·.name)
def rfOne (r : Str × Nat × Nat) : Bool := match PySem.W.nsIn K mainGlobals r.1 with
  | some (some (.ref g)) => PySem.W.keepIn K (.ref g) && (match K.lookup g with
    | some ⟨_, _, .func fd, _⟩ => (match fd.body, fd.defaults with
      | .stmts body, .none => decide (fd.globals = mainGlobals) && fd.closure.isEmpty && decide (fd.builtins = builtinsNs) && decide (fd.name = r.1) && decide (fd.qualname = r.1) && PySem.W.codeIn K fd.code fd.qualname && plainP fd.params && fd.params.vararg.isNone &&
        (match bodyRf body with
          | some (a, x1, x2) => decide (pnames fd.params = [a]) && scOk [a] [a] fd.scope && visB fd.scope a && okN a && glB fd.scope x1 && okN x1 && glB fd.scope x2 && okN x2 && decide (exN t r.2.1 = some x1) && decide (exN t r.2.2 = some x2)
          | none => false)
      | _, _ => false)
    | _ => false)
  | _ => false
def rfB : Bool := t.rfs.all fun r => rfOne t K r
/-- the whole look -/
def look : Bool := fnB t K && gfB t K && glsB t K && freeB K && opB t K && eqB t K && lnB t K && blB t K && mkB t K && slB t K && mtB t K && prB t K && cmB t K && isB t K && iscB t K && (tabB t K && rfB t K)
/-- the look at the errors -/
def exB (prog : Program) : Bool := (List.range t.excs.length).all fun c => match t.excs[c]? with
  | some e => glB' K e.name (xa (clK t K) c) && (match bases[e.bs]?, e.fld with
    | some b, none => xpB K b (xa (clK t K) c)
    | some b, some f => xnB prog K b (xa (clK t K) c) f && L2.xfB K (xa (clK t K) c) && (PySem.W.findIn K (.ref (xa (clK t K) c)) f == some none)
    | none, _ => false)
  | none => false
def sbB : Bool := (List.range t.excs.length).all fun c => (List.range t.excs.length).all fun c' => PySem.W.exmOne K (.ref (xa (clK t K) c)) (.ref (xa (clK t K) c')) == some (t.sb c c')
def dgB : Bool := PySem.W.nsOkIn K cStatics && (PySem.W.nsIn K cStatics "sys.int_max_str_digits" == some none)
def lookX (prog : Program) : Bool := exB t K prog && sbB t K && dgB K
end
end Iv
end
section
set_option autoImplicit false
set_option maxRecDepth 100000
set_option maxHeartbeats 4000000
namespace Iv
open PySem L2
section
variable {t : Tb} {K : PySem.W.Frag} {prog : Program} {w : World} {mg : Str → Option Value} {h base : Heap}
theorem all_range {n : Nat} {p : Nat → Bool} (h : (List.range n).all p = true) {i : Nat} (hi : i < n) : p i = true := List.all_eq_true.mp h i (List.mem_range.mpr hi)
theorem map_get {α β : Type} {f : α → β} {l : List α} {j : Nat} {y : β} (h : (l.map f)[j]? = some y) : ∃ x, l[j]? = some x ∧ f x = y := by
  rw [List.getElem?_map] at h
  cases e : l[j]? with
  | none => rw [e] at h; cases h
  | some x => rw [e] at h; cases h; exact ⟨x, rfl, rfl⟩
theorem all_get {α : Type} {l : List α} {p : α → Bool} (h : l.all p = true) {j : Nat} {x : α} (hx : l[j]? = some x) : p x = true := List.all_eq_true.mp h x (List.mem_of_getElem? hx)
theorem find_map {α β : Type} {l : List α} {p : α → Bool} {f : α → β} {y : β} (h : (l.find? p).map f = some y) : ∃ x, x ∈ l ∧ p x = true ∧ f x = y := by
  cases e : l.find? p with
  | none => rw [e] at h; cases h
  | some x => rw [e] at h; cases h; exact ⟨x, List.mem_of_find?_eq_some e, List.find?_some e, rfl⟩
theorem scls_d {c : Nat} (h : sclsB t K c = true) : SlX.SCls K (clK t K c) := by
  unfold sclsB at h
  simp only [Bool.and_eq_true, beq_iff_eq] at h
  exact ⟨h.1.1.1, h.1.1.2, h.1.2, h.2⟩
theorem gl_d (X : K.In h) (G : h.Ns mainGlobals mg) {x : Str} {a : Addr} (e : glB' K x a = true) : mg x = some (.ref a) := PySem.W.mg_of X G (beq_iff_eq.mp e)
theorem free_d (X : K.In h) (G : h.Ns mainGlobals mg) {x : Str} (e : (PySem.W.nsIn K mainGlobals x == some none) = true) : mg x = none := PySem.W.mg_none_of X G (beq_iff_eq.mp e)
theorem bodyRf_d {b : List Stmt} {a x1 x2 : Str} (h : bodyRf b = some (a, x1, x2)) : ∃ (j j2 kk : Nat) (p1 p2 p3 p4 p5 p6 p7 p8 p9 p10 p11 pt : Pos),
    b = [.Try [.Expr (.Call (.Name a p1) [] [] p2) p3] [.ExceptHandler (some (.Tuple [.Name x1 p4, .Name x2 p5] kk pt)) none [.Return (some (.Constant (.bool true) j p6)) p7] p8] [] [] p9, .Return (some (.Constant (.bool false) j2 p10)) p11] := by
  unfold bodyRf at h
  split at h
  · cases h
    exact ⟨_, _, _, _, _, _, _, _, _, _, _, _, _, _, _, rfl⟩
  · cases h
theorem rf_d (X : K.In h) (G : h.Ns mainGlobals mg) (hx : exB t K prog = true) {x : Str} {q : Nat × Nat} (e : rfOne t K (x, q) = true) : (∃ e1 e2, t.nm.excs[q.1]? = some e1 ∧ t.nm.excs[q.2]? = some e2) ∧ RfK K mg x (xa (clK t K) q.1) (xa (clK t K) q.2) := by
  unfold rfOne at e
  split at e
  · rename_i g hg
    have e := Bool.and_eq_true_iff.mp e
    obtain ⟨hk, e⟩ := e
    split at e
    · rename_i oc od fd osl lk
      obtain ⟨name, qual, params, fb, scope, globals, closure, dV, kV, doc, pm, an, cdv, ct, bi⟩ := fd
      dsimp only at e
      split at e
      · rename_i body
        simp only [Bool.and_eq_true, decide_eq_true_eq, List.isEmpty_iff, Option.isNone_iff_eq_none] at e
        obtain ⟨⟨⟨⟨⟨⟨⟨⟨z1, z2⟩, z3⟩, z4⟩, z5⟩, z6⟩, z7⟩, z8⟩, z9⟩ := e
        subst z1; subst z2; subst z3; subst z4; subst z5
        split at z9
        · rename_i a x1 x2 hb
          simp only [Bool.and_eq_true, decide_eq_true_eq] at z9
          obtain ⟨⟨⟨⟨⟨⟨⟨⟨⟨y1, y2⟩, y3⟩, y4⟩, y5⟩, y6⟩, y7⟩, y8⟩, y9⟩, y10⟩ := z9
          obtain ⟨j, j2, kk, p1, p2, p3, p4, p5, p6, p7, p8, p9, p10, p11, pt, rfl⟩ := bodyRf_d hb
          have ex : ∀ {c : Nat} {y : Str}, exN t c = some y → (∃ e, t.excs[c]? = some e) ∧ mg y = some (.ref (xa (clK t K) c)) := fun {c y} h => by
            unfold exN at h
            cases he : t.excs[c]? with
            | none => rw [he] at h; cases h
            | some e =>
              rw [he] at h
              cases h
              have q := all_range hx (List.getElem?_eq_some_iff.mp he).1
              rw [he] at q
              exact ⟨⟨e, rfl⟩, gl_d X G (Bool.and_eq_true_iff.mp q).1⟩
          obtain ⟨⟨e1, he1⟩, hm1⟩ := ex y9
          obtain ⟨⟨e2, he2⟩, hm2⟩ := ex y10
          have hpn : pnames params = params.args.map (·.arg) := by unfold pnames; rw [z8]; simp
          have o4 := okN_d y4
          have bnd : L2.Binds K (PySem.W.fnOf qual qual params [.Try [.Expr (.Call (.Name a p1) [] [] p2) p3] [.ExceptHandler (some (.Tuple [.Name x1 p4, .Name x2 p5] kk pt)) none [.Return (some (.Constant (.bool true) j p6)) p7] p8] [] [] p9, .Return (some (.Constant (.bool false) j2 p10)) p11] scope .none kV doc pm an cdv ct) [a] [] := fun s us X hl => by
            rw [List.append_nil] at hl ⊢
            have b := binds_all (name := qual) (qual := qual) (body := [.Try [.Expr (.Call (.Name a p1) [] [] p2) p3] [.ExceptHandler (some (.Tuple [.Name x1 p4, .Name x2 p5] kk pt)) none [.Return (some (.Constant (.bool true) j p6)) p7] p8] [] [] p9, .Return (some (.Constant (.bool false) j2 p10)) p11]) (scope := scope) (kV := kV) (doc := doc) (pm := pm) (cdv := cdv) (ct := ct) (an := an) z7 z8 (by rw [← hpn, y1]; simp) us (by rw [← hpn, y1]; exact hl)
            rw [← hpn, y1] at b
            exact .of_eq b
          exact ⟨⟨e1, e2, he1, he2⟩, .mk (PySem.W.mg_of X G hg) hk lk z6 bnd (scOk_d y2) rfl (visB_d y3) o4.1 o4.2.1 (glB_d y5) hm1 (okN_d y6).1 (glB_d y7) hm2 (okN_d y8).1⟩
        · cases z9
      · cases e
    · cases e
  · cases e
/-- what the tables say of a def that makes lambdas -/
theorem tab_d (l : tabB t K = true) (TB : ∀ q ∈ csK t K, LamX.TabB base mg q.1 q.2.1) {f : Nat} (hf : t.mkr.contains f = true) {oc : Value} {od : Option Addr} {fd : FuncData} {osl : Array (Option Value)} (lk : K.lookup (fa (clK t K) f) = some ⟨oc, od, .func fd, osl⟩) : LmC (clK t K) base mg fd.code fd.qualname := by
  unfold tabB at l
  simp only [Bool.and_eq_true] at l
  obtain ⟨⟨l1, l2⟩, l3⟩ := l
  have hm : f ∈ t.mkr := by simpa using hf
  have z := List.all_eq_true.mp l2 f hm
  obtain ⟨⟨c, T, nm⟩, hq⟩ := Option.isSome_iff_exists.mp z
  have mem : (c, T, nm) ∈ csK t K := List.mem_filterMap.mpr ⟨f, hm, hq⟩
  have hq' := hq
  unfold tabFn at hq'
  rw [lk] at hq'
  dsimp only at hq'
  split at hq'
  · rename_i c' hc
    split at hq'
    · split at hq'
      · cases hq'
        refine ⟨c, T, hc, TB _ mem, List.mem_map.mpr ⟨_, mem, rfl⟩, fun p hp he => ?_⟩
        obtain ⟨p', hp', rfl⟩ := List.mem_map.mp hp
        have u := List.all_eq_true.mp (List.all_eq_true.mp l3 _ mem) _ hp'
        rw [Bool.or_eq_true, Bool.not_eq_true', decide_eq_false_iff_not, decide_eq_true_eq] at u
        exact u.resolve_left fun n => n he
      · cases hq'
    · cases hq'
  · cases hq'
/-- the look says all that is asked -/
theorem md_all (X : K.In h) (G : h.Ns mainGlobals mg) (lk : look t K = true) (lx : lookX t K prog = true) (TB : ∀ q ∈ csK t K, LamX.TabB base mg q.1 q.2.1) : ∀ n : Nat, Md t.nm (clK t K) t.prg (call t.prg t.fns n) n prog w K mg base := by
  unfold look at lk
  simp only [Bool.and_eq_true] at lk
  obtain ⟨⟨⟨⟨⟨⟨⟨⟨⟨⟨⟨⟨⟨⟨⟨l1, l2⟩, l3⟩, l4⟩, l5⟩, l6⟩, l7⟩, l8⟩, l9⟩, l10⟩, l11⟩, l12⟩, l13⟩, l14⟩, l15⟩, l16, l17⟩ := lk
  have lx' := lx
  unfold lookX at lx'
  simp only [Bool.and_eq_true] at lx'
  obtain ⟨⟨x1, x2⟩, x3⟩ := lx'
  have free : ∀ x ∈ (["len", "int", "str", "abs", "max", "min", "sum", "divmod", "tuple", "list", "all", "any", "bool", "isinstance", "range", "zip", "enumerate", "dict", "sorted", "repr"] : List Str), mg x = none := fun x hx => free_d X G (List.all_eq_true.mp l4 x hx)
  have fnd : ∀ f : Nat, f < t.fns.length → ∃ fn N, t.fns[f]? = some fn ∧ okFn (t.nm.put (t.mkr.contains f)) K fn N (fa (clK t K) f) = true ∧ okAd K fn.ad (fa (clK t K) f) = true := fun f hf => by
    have q := all_range l1 hf
    split at q
    · rename_i fn N e1 e2
      rw [Bool.and_eq_true] at q
      exact ⟨fn, N, e1, q.1, q.2⟩
    · cases q
  have atd : ∀ {c f : Nat} {x : Str}, atB t K c f x = true → PySem.W.findIn K (.ref (clK t K c)) x = some (some (.ref (fa (clK t K) f))) ∧ PySem.W.isFn K (.ref (fa (clK t K) f)) = true := fun {c f x} q => by
    have q' := Bool.and_eq_true_iff.mp q
    exact ⟨beq_iff_eq.mp q'.1, q'.2⟩
  have rest : ∀ (cal : Cal) (n : Nat), (∀ f : Nat, f < t.nm.nf → FnR prog w K mg base (L2.CX prog w) (5 * n) (fa (clK t K) f) (spC t.nm mg ⟨K, clK t K⟩ (cal f))) → (∀ f : Nat, ¬ f < t.nm.nf → ∀ vs S, cal f vs S = .bad) → Md t.nm (clK t K) t.prg cal n prog w K mg base := by
    intro cal n hfn hbad
    refine ⟨hfn, hbad, fun f x e => ?_, fun g x d e1 e2 => ?_, fun b => ?_, fun x hx => ?_, fun o c f e => ?_, fun c f e => ?_, fun c f e => ?_, fun c f e => ?_, fun c f e => ?_, fun j q e => ?_, fun j q x e1 e2 => ?_, fun j q x e1 e2 => ?_, fun j q x e1 e2 => ?_, fun j q x e1 e2 => ?_, fun j q c x e1 e2 => ?_, fun j x e => ?_, fun j x c b e1 e2 => ?_, fun c e h => ?_, fun c c' e e' h h' => ?_, rfl, ?_, fun j x q e => ?_, ?_⟩
    · -- global defs
      unfold gfB at l2
      rw [Bool.and_eq_true] at l2
      have hlt : f < t.gfn.length := (List.getElem?_eq_some_iff.mp e).1
      have q := all_range l2.2 hlt
      have e' : t.gfn[f]? = some x := e
      rw [e'] at q
      have q := Bool.and_eq_true_iff.mp q
      exact ⟨Nat.lt_of_lt_of_le hlt (of_decide_eq_true l2.1), gl_d X G q.1, q.2⟩
    · obtain ⟨p, p1, p2⟩ := map_get (l := t.globs) e1
      have e2' : (t.globs.map (·.2))[g]? = some d := e2
      rw [List.getElem?_map, p1] at e2'
      cases e2'
      have q := all_get l3 p1
      rw [p2] at q
      split at q
      · rename_i u hu
        obtain ⟨v, h1, h2⟩ := repS_d (cl := clK t K) q
        exact ⟨u, v, PySem.W.mg_of X G hu, h1, h2⟩
      · cases q
    · cases b <;> exact free _ (by decide)
    · refine free x ?_
      have : x ∈ (["isinstance", "range", "zip", "enumerate", "bool", "dict", "sorted"] : List Str) := hx
      simp only [List.mem_cons, List.not_mem_nil, or_false] at this ⊢
      rcases this with h | h | h | h | h | h | h <;> simp [h]
    · obtain ⟨q, q1, q2, q3⟩ := find_map (l := t.ops) e
      have z := List.all_eq_true.mp l5 q q1
      simp only [Bool.and_eq_true, decide_eq_true_eq] at q2
      obtain ⟨rfl, rfl⟩ := q2
      subst q3
      simp only [Bool.and_eq_true, beq_iff_eq, Option.isSome_iff_exists] at z
      obtain ⟨⟨⟨⟨⟨z1, z2⟩, z3⟩, ⟨z4, z4'⟩⟩, ⟨z5, z5'⟩⟩, z6⟩ := z
      refine ⟨⟨z1, z2.1, z2.2⟩, ?_, ⟨z4, z5, z4', z5'⟩, z6⟩
      split at z3
      · rename_i hz; exact ⟨none, hz, .inl rfl⟩
      · rename_i g hz; exact ⟨_, hz, .inr ⟨g, rfl⟩⟩
      · cases z3
    · obtain ⟨q, q1, q2, q3⟩ := find_map (l := t.eqs) e
      have z := List.all_eq_true.mp l6 q q1
      have q2 : q.1 = c := of_decide_eq_true q2
      subst q2; subst q3
      simp only [Bool.and_eq_true, beq_iff_eq] at z
      exact ⟨z.1.1.1, z.1.1.2, z.1.2, z.2⟩
    · obtain ⟨q, q1, q2, q3⟩ := find_map (l := t.lns) e
      have z := List.all_eq_true.mp l7 q q1
      have q2 : q.1 = c := of_decide_eq_true q2
      subst q2; subst q3
      exact atd z
    · obtain ⟨q, q1, q2, q3⟩ := find_map (l := t.bls) e
      have z := List.all_eq_true.mp (Bool.and_eq_true_iff.mp l8).1 q q1
      have q2 : q.1 = c := of_decide_eq_true q2
      subst q2; subst q3
      exact atd z
    · obtain ⟨q, q1, q2, q3⟩ := find_map (l := t.sts) e
      have z := List.all_eq_true.mp (Bool.and_eq_true_iff.mp l8).2 q q1
      have q2 : q.1 = c := of_decide_eq_true q2
      subst q2; subst q3
      exact atd z
    · have z := all_get l9 (show t.mks[j]? = some q from e)
      simp only [Bool.and_eq_true, decide_eq_true_eq] at z
      obtain ⟨⟨⟨⟨z1, z2⟩, z3⟩, z4⟩, z5⟩ := z
      have a := atd (Bool.and_eq_true_iff.mpr z3)
      exact ⟨z1, ⟨z2, a.1, a.2, z4⟩⟩
    · have z := all_get l9 (show t.mks[j]? = some q from e1)
      simp only [Bool.and_eq_true, decide_eq_true_eq] at z
      obtain ⟨p, p1, p2⟩ := map_get (l := t.mks) e2
      rw [show t.mks[j]? = some q from e1] at p1
      cases p1
      rw [← p2]
      exact gl_d X G z.2
    · obtain ⟨p, p1, p2⟩ := map_get (l := t.sls) e1
      obtain ⟨p', p3, p4⟩ := map_get (l := t.sls) e2
      rw [p1] at p3; cases p3
      subst p2; subst p4
      have z := Bool.and_eq_true_iff.mp (all_get l10 p1)
      refine ⟨scls_d z.1, ?_⟩
      have z2 := z.2
      split at z2
      · rename_i r hr
        simp only [Bool.and_eq_true, beq_iff_eq, decide_eq_true_eq] at z2
        obtain ⟨⟨⟨⟨y1, y2⟩, y3⟩, y4⟩, y5⟩ := z2
        exact ⟨r, hr, y1, y2, y3, y4, y5⟩
      · cases z2
    · obtain ⟨p, p1, p2⟩ := map_get (l := t.mts) e1
      obtain ⟨p', p3, p4⟩ := map_get (l := t.mts) e2
      rw [p1] at p3; cases p3
      subst p2; subst p4
      have z := all_get l11 p1
      rw [Bool.and_eq_true, Bool.and_eq_true, Bool.and_eq_true] at z
      obtain ⟨⟨⟨z1, z2⟩, z3⟩, z4⟩ := z
      have a := atd z3
      exact ⟨of_decide_eq_true z1, scls_d z2, a.1, a.2, z4⟩
    · obtain ⟨p, p1, p2⟩ := map_get (l := t.prs) e1
      obtain ⟨p', p3, p4⟩ := map_get (l := t.prs) e2
      rw [p1] at p3; cases p3
      subst p2; subst p4
      have z := all_get l12 p1
      rw [Bool.and_eq_true, Bool.and_eq_true] at z
      obtain ⟨⟨z1, z2⟩, z3⟩ := z
      refine ⟨of_decide_eq_true z1, scls_d z2, ?_⟩
      split at z3
      · rename_i r hr
        rw [Bool.and_eq_true, Bool.and_eq_true] at z3
        obtain ⟨⟨y1, y2⟩, y3⟩ := z3
        split at y3
        · rename_i g rst hg
          have : g = fa (clK t K) p.2.2 := of_decide_eq_true y3
          subst this
          exact ⟨r, hr, beq_iff_eq.mp y1, beq_iff_eq.mp y2, rst, hg⟩
        · cases y3
      · cases z3
    · obtain ⟨p, p1, p2⟩ := map_get (l := t.cms) e1
      obtain ⟨p', p3, p4⟩ := map_get (l := t.cms) e2
      rw [p1] at p3; cases p3
      subst p2
      cases p4
      have z := all_get l13 p1
      simp only [Bool.and_eq_true] at z
      obtain ⟨⟨⟨⟨⟨z1, z2⟩, z3⟩, z4⟩, z5⟩, z6⟩ := z
      refine ⟨of_decide_eq_true z1, gl_d X G z2, .type "type", ?_⟩
      split at z5
      · rename_i b r C hr
        simp only [Bool.and_eq_true, decide_eq_true_eq] at z5
        obtain ⟨⟨y1, y2⟩, y3⟩ := z5
        subst y1; subst y2
        split at y3
        · rename_i g rst hg
          have : g = fa (clK t K) p.2.2 := of_decide_eq_true y3
          subst this
          exact ⟨r, ⟨z3, beq_iff_eq.mp z4⟩, hr, ⟨rst, hg⟩, z6⟩
        · cases y3
      · cases z5
    · have e' : t.cls[j]? = some x := e
      have hlt : j < t.cls.length := (List.getElem?_eq_some_iff.mp e').1
      have q := all_range l14 hlt
      rw [e'] at q
      have q := Bool.and_eq_true_iff.mp q
      exact ⟨gl_d X G q.1, fun T hT => beq_iff_eq.mp (List.all_eq_true.mp q.2 T hT)⟩
    · obtain ⟨q, q1, q2, q3⟩ := find_map (l := t.isc) e2
      have z := List.all_eq_true.mp l15 q q1
      simp only [Bool.and_eq_true, decide_eq_true_eq] at q2
      obtain ⟨rfl, rfl⟩ := q2
      subst q3
      simp only [Bool.and_eq_true] at z
      have y := z.1.2
      unfold sisiB at y
      simp only [Bool.and_eq_true, beq_iff_eq] at y
      exact ⟨scls_d z.1.1, ⟨y.1.1.1, y.1.1.2, y.1.2, y.2⟩, beq_iff_eq.mp z.2⟩
    · have h : t.excs[c]? = some e := h
      have q := all_range x1 (List.getElem?_eq_some_iff.mp h).1
      rw [h] at q
      have q := Bool.and_eq_true_iff.mp q
      refine ⟨gl_d X G q.1, ?_⟩
      have q2 := q.2
      unfold ExK
      split at q2
      · rename_i b hb hf
        rw [hf]
        unfold xpB at q2
        simp only [Bool.and_eq_true, beq_iff_eq] at q2
        exact ⟨_, _, _, _, (bases_ok (List.mem_of_getElem? hb)).fb, q2.1.1.1, q2.1.1.2, q2.1.2, q2.2⟩
      · rename_i b f hb hf
        rw [hf]
        simp only [Bool.and_eq_true, beq_iff_eq] at q2
        exact ⟨_, _, _, _, bases_ok (List.mem_of_getElem? hb), xnB_d q2.1.1, L2.xfB_ok q2.1.2, q2.2⟩
      · cases q2
    · have h : t.excs[c]? = some e := h
      have h' : t.excs[c']? = some e' := h'
      have q := all_range (all_range x2 (List.getElem?_eq_some_iff.mp h).1) (List.getElem?_eq_some_iff.mp h').1
      exact beq_iff_eq.mp q
    · unfold dgB at x3
      have q := Bool.and_eq_true_iff.mp x3
      exact ⟨q.1, beq_iff_eq.mp q.2⟩
    · have e : t.rfs[j]? = some (x, q) := e
      refine ⟨?_, ?_⟩
      · show (t.rfs.map (·.2))[j]? = some q
        rw [List.getElem?_map, e]; rfl
      · exact rf_d X G x1 (all_get l17 e)
    · exact free _ (by decide)
  intro n
  induction n with
  | zero =>
    refine rest _ 0 (fun f hf A outer s H us vs Q E hr e0 rv q => ?_) fun f _ vs S => rfl
    obtain ⟨_, _, _, _, _, _, _, o⟩ := q
    exact o.elim
  | succ n ih =>
    refine rest _ (n + 1) (fun f hf => ?_) fun f hf vs S => ?_
    · obtain ⟨fn, N, e1, e2, e3⟩ := fnd f hf
      exact fn_R (nm := t.nm.put (t.mkr.contains f)) (ih.put _) e1 e2 e3 fun z oc od fd osl lk => tab_d l16 TB z lk
    · have : t.fns[f]? = none := List.getElem?_eq_none (Nat.le_of_not_lt hf)
      simp only [call, this]
end
end Iv
end
section
set_option autoImplicit false
set_option maxRecDepth 100000
set_option maxHeartbeats 4000000
namespace Iv
open PySem L2
def lawB (t : Tb) (K : PySem.W.Frag) (f : Nat) (x : Str) : Bool := match K.lookup (fa (clK t K) f) with
  | some ⟨_, _, .func fd, _⟩ => (match fd.defaults with | .none => true | _ => false) && decide (pnames fd.params = [x]) && fd.params.vararg.isNone
  | _ => false
/-- without the tables -/
def noT (H : Hp) : Hp := fun b => match H b with
  | some (.tbl _) => none
  | o => o
theorem noT_ext (H : Hp) : Ext (noT H) H := fun b o h => by
  unfold noT at h
  split at h
  · cases h
  · exact h
theorem noT_of {H : Hp} {b : Addr} {o : HO} (h : H b = some o) (n : ∀ ps, o ≠ .tbl ps) : noT H b = some o := by
  unfold noT
  rw [h]
  cases o <;> first | rfl | exact absurd rfl (n _)
theorem noT_nt {H : Hp} : ∀ b o, noT H b = some o → Nt o := fun b o h ps e => by
  subst e
  unfold noT at h
  split at h
  · cases h
  · rename_i z; exact z _ h
theorem noT_sql {K : PySem.W.Frag} {H : Hp} {a : Addr} {xs : List V} (h : SqL K H a xs) : SqL K (noT H) a xs := by
  rcases h with (h | ⟨ob, h⟩) | h
  · exact .inl (.inl (noT_of h fun ps e => by cases e))
  · exact .inl (.inr ⟨ob, noT_of h fun ps e => by cases e⟩)
  · exact .inr h
theorem walk {l : PySem.W.OpenLaw} {q : Program} {loose : List Str} {XP : (Str → Option Value) → Heap → Prop} {YP : World → Heap → Prop} {d : DefRec} {K : Params → PySem.W.Frag} (t : Tb) (f : Nat) (fn : Fn) (n : Nat) (x : Str)
    (hn : l.most = some 63) (hdf : d.params.defaults = []) (hr : Room (5 * n + 5) callerA) (hY : ∀ (w : World) (h : Heap), YP w h → (K w.params).In h) (hT : ∀ (w : World) (h : Heap), YP w h → ∀ q ∈ csK t (K w.params), h.get? q.2.1 = some { cls := .none, data := .fields #[] }) (hf : t.fns[f]? = some fn) (hg : t.gfn[f]? = some d.name)
    (lk : ∀ p, look t (K p) = true) (lx : ∀ p, lookX t (K p) l.prog = true) (lb : ∀ p, lawB t (K p) f x = true) (law : ∀ ns : List Int, ns.length ≤ 63 → ∃ S, runF t.prg (call t.prg t.fns n) fn [.d (.ro (ns.map .int))] [] = .ok (.d (.bl true)) S) :
    PySem.W.WalkO q loose XP YP l.row.toRowW d [] (fun f vs => PySem.call f vs) := by
  refine LamX.walk_ofTs (n := 63) (k := 5 * n + 5) (x := x) (CX := fun w => L2.CX l.prog w)
    hn (by decide) hdf hr hY (fun w mg a h Y X G hmg => ?_) (fun w H s e s' c => ?_)
  · have lk' := lk w.params
    have lk2 := lk'
    unfold look at lk2
    simp only [Bool.and_eq_true] at lk2
    obtain ⟨⟨⟨⟨⟨⟨⟨⟨⟨⟨⟨⟨⟨⟨⟨l1, l2⟩, l3⟩, l4⟩, l5⟩, l6⟩, l7⟩, l8⟩, l9⟩, l10⟩, l11⟩, l12⟩, l13⟩, l14⟩, l15⟩, l16, l17⟩ := lk2
    have hlt : f < t.fns.length := (List.getElem?_eq_some_iff.mp hf).1
    have q1 := all_range l1 hlt
    rw [hf] at q1
    split at q1
    · rename_i fn' N e1 e2
      cases e1
      rw [Bool.and_eq_true] at q1
      unfold gfB at l2
      rw [Bool.and_eq_true] at l2
      have q2 := all_range l2.2 (List.getElem?_eq_some_iff.mp hg).1
      rw [hg] at q2
      have q2 := Bool.and_eq_true_iff.mp q2
      have hm := gl_d X G q2.1
      rw [hmg] at hm
      cases hm
      obtain ⟨oc, od, name, qual, params, body, scope, dV, kV, doc, pm, an, cdv, ct, osl, lkp, hcd, hpl, S, h7, h8, h9, h10⟩ := okFn_d q1.1
      have b := lb w.params
      unfold lawB at b
      rw [lkp] at b
      simp only [Bool.and_eq_true, decide_eq_true_eq, Option.isNone_iff_eq_none] at b
      obtain ⟨⟨b1, b2⟩, b3⟩ := b
      cases dV with
      | none =>
        have hpn : pnames params = params.args.map (·.arg) := by unfold pnames; rw [b3]; simp
        have tabs := l16
        unfold tabB at tabs
        simp only [Bool.and_eq_true] at tabs
        refine ⟨PySem.W.fnOf name qual params body scope .none kV doc pm an cdv ct, (csK t (K w.params)).map (fun q => (q.1, q.2.1)), fun us H Q E => us.length = 1 ∧ ∃ (F G : Hp) (m : List Addr) (vs : List Vl) (S : Hs), Rl ⟨K w.params, clK t (K w.params)⟩ F G m S H ∧ RVs ⟨K w.params, clK t (K w.params)⟩ G m vs us ∧ ∃ S', runF t.prg (call t.prg t.fns n) fn vs S = .ok (.d (.bl true)) S' ∧ ∀ H', Q (.bl true) H',
          fun p hp => ?_, fun p hp => ?_, fun p hp => ?_, fun s u => ?_, fun H a ns hl _ hH hS => ?_, fun base _ _ TB => ?_⟩
        · obtain ⟨q, hq, rfl⟩ := List.mem_map.mp hp
          exact hT w h Y q hq
        · obtain ⟨q, hq, rfl⟩ := List.mem_map.mp hp
          have := List.all_eq_true.mp tabs.1.1 q hq
          rw [Bool.and_eq_true, Option.isNone_iff_eq_none] at this
          exact this.2
        · obtain ⟨q, hq, rfl⟩ := List.mem_map.mp hp
          have := List.all_eq_true.mp tabs.1.1 q hq
          rw [Bool.and_eq_true] at this
          exact PySem.W.codeHd_of_K X this.1
        · have e := binds_all (name := name) (qual := qual) (body := body) (scope := scope) (kV := kV) (doc := doc) (pm := pm) (cdv := cdv) (ct := ct) (an := an) hpl b3 (by
            rw [← hpn, b2]; simp) [u] (by rw [← hpn, b2]; rfl)
          rw [← hpn, b2] at e
          exact .of_eq e
        · refine ⟨rfl, fun _ => none, noT H, [], [.d (.ro (ns.map .int))], [], ⟨noT_ext H, (fun _ _ h => by cases h), (fun _ _ h => by cases h), (fun _ h => by cases h), rfl, List.nodup_nil, (fun n a o h => by cases h), ⟨fun _ _ h => (by cases h), noT_nt, fun _ h => (by cases h), fun p hp => ?_⟩⟩, .cons ?_ .nil, ?_⟩
          · obtain ⟨q, hq, rfl⟩ := List.mem_map.mp hp
            exact LamX.TabS.nil (hH (q.1, q.2.1) (List.mem_map.mpr ⟨q, hq, rfl⟩))
          · exact Rep.ro (K := ⟨K w.params, clK t (K w.params)⟩) (noT_sql hS) (reps_of_ints ns)
          · obtain ⟨S', e⟩ := law ns hl
            exact ⟨S', e, fun _ => rfl⟩
        · have S' := S
          rw [b2] at S'
          have hnp : fn.np = 1 := by rw [← h7, b2]; rfl
          have md := (md_all (base := base) (mg := mg) (prog := l.prog) (w := w) X G lk' (lx w.params) (fun q hq => TB _ (List.mem_map.mpr ⟨q, hq, rfl⟩)) n).put (t.mkr.contains f)
          have hlm : (t.nm.put (t.mkr.contains f)).lam = true → LmC (clK t (K w.params)) base mg cdv qual := fun z => tab_d l16 (fun q hq => TB _ (List.mem_map.mpr ⟨q, hq, rfl⟩)) z lkp
          rcases h10 with h10 | h10
          · refine fn_of (k := 5 * n + 4) lkp hcd S' (fun vs H Q E q => by rw [q.1]; rfl) fun A outer s H vs Q E hrm q => ?_
            obtain ⟨z1, F0, G0, m, ds, S0, l0, r0, S1, e1, e2⟩ := q
            refine body_sound md S' h9 h8.symm h10 cdv A outer s H vs Q E hrm hlm ⟨by rw [hnp]; exact z1, F0, G0, m, ds, S0, l0, r0, ?_⟩
            rw [e1]
            intro G' m' H' u g' l' r'
            cases r'
            exact e2 H'
          · refine fn_ofT (k := 5 * n + 4) lkp hcd S' h10.2.1 (Nat.le_refl 1) (fun vs H Q E q => by rw [q.1]; rfl) fun A outer s H vs Q E hrm q => ?_
            obtain ⟨z1, F0, G0, m, ds, S0, l0, r0, S1, e1, e2⟩ := q
            refine body_soundT md S' h9 h8.symm h10.1 cdv A outer s H vs Q E hrm hlm ⟨by rw [hnp]; exact z1, F0, G0, m, ds, S0, l0, r0, ?_⟩
            rw [e1]
            intro G' m' H' u g' l' r'
            cases r'
            exact e2 H'
      | _ => cases b1
    · cases q1
  · obtain ⟨_, _, _, _, _, _, _, _, _, _, _, _, h⟩ := c
    exact h
end Iv
end
section
set_option maxRecDepth 100000
namespace K30
open Iv
/-! the bodies as terms, printed by gen2.py -/
def b_is_state : Iv.St := (.seq (.ret (.and (.isi (.var 0) .str) (.one (.cmp .isin (.var 0) (.glob 0))))) .skip)
def b_require_state : Iv.St := (.seq (.ite (.not (.call 0 (.cons (.var 0) .nil))) (.seq (.rse 1 .nil) .skip) .skip) .skip)
def b_ends_behind : Iv.St := (.seq (.ite (.cmp .eq (.var 0) (.glob 1)) (.seq (.ret (.glob 2)) .skip) .skip) (.seq (.ret (.ite (.cmp .eq (.var 0) (.glob 3)) (.sl (.glob 2) (.one (.int 1)) .no) (.tup (.cons (.var 0) .nil)))) .skip))
def b_ends_of : Iv.St := (.seq (.expr (.call 1 (.cons (.var 0) .nil))) (.seq (.ret (.call 2 (.cons (.var 0) .nil))) .skip))
def b_is_atom_true : Iv.St := (.seq (.ite (.cmp .eq (.var 0) (.glob 3)) (.seq (.ret (.cmp .notin (.var 1) (.tup (.cons (.glob 1) (.cons (.glob 4) .nil))))) .skip) .skip) (.seq (.ret (.ite (.cmp .eq (.var 0) (.glob 5)) (.cmp .isin (.var 1) (.glob 2)) (.cmp .eq (.var 1) (.var 0)))) .skip))
def b_atoms_of : Iv.St := (.seq (.expr (.call 1 (.cons (.var 0) .nil))) (.seq (.ret (.bi .tuple (.cons (.comp [1] (.nm 1) (.one (.glob 6)) (.one (.call 4 (.cons (.var 1) (.cons (.var 0) .nil)))) (.var 1)) .nil))) .skip))
def b_may_follow : Iv.St := (.seq (.expr (.call 1 (.cons (.var 0) .nil))) (.seq (.expr (.call 1 (.cons (.var 1) .nil))) (.seq (.ite (.cmp .eq (.var 0) (.glob 1)) (.seq (.ret (.cmp .isin (.var 1) (.tup (.cons (.glob 3) (.cons (.glob 4) .nil))))) .skip) .skip) (.seq (.ret (.and (.cmp .eq (.var 0) (.glob 3)) (.one (.cmp .isin (.var 1) (.sl (.glob 2) (.one (.int 1)) .no))))) .skip))))
def b_is_integer : Iv.St := (.seq (.ret (.and (.isi (.var 0) .int) (.and (.not (.isi (.var 0) .bool)) (.one (.chain .lt .lt (.neg (.glob 7)) (.var 0) (.glob 7)))))) .skip)
def b_is_from : Iv.St := (.seq (.ret (.and (.call 7 (.cons (.var 0) .nil)) (.one (.chain .le .le (.var 1) (.var 0) (.var 2))))) .skip)
def b_is_job_number : Iv.St := (.seq (.ret (.call 8 (.cons (.var 0) (.cons (.int 1) (.cons (.glob 8) .nil))))) .skip)
def b_after_nodes : Iv.St := (.seq (.asg 2 (.bin .add (.glob 9) (.int 1))) (.seq (.ite (.or (.cmp .gt (.var 1) (.glob 10)) (.or (.not (.isi (.var 0) .tup)) (.or (.cmp .ne (.bi .len (.cons (.var 0) .nil)) (.int 2)) (.one (.not (.isi (.ix (.var 0) (.int 0)) .str)))))) (.seq (.ret (.var 2)) .skip) .skip) (.seq (.asgT (.tp (.cons (.nm 3) (.cons (.nm 4) .nil))) (.var 0)) (.seq (.ite (.cmp .isin (.var 3) (.glob 6)) (.seq (.ret (.ite (.call 9 (.cons (.var 4) .nil)) (.int 1) (.var 2))) .skip) .skip) (.seq (.ite (.or (.cmp .notin (.var 3) (.tup (.cons (.glob 13) (.cons (.glob 12) .nil)))) (.or (.not (.isi (.var 4) .tup)) (.one (.not (.chain .le .le (.int 2) (.bi .len (.cons (.var 4) .nil)) (.glob 11)))))) (.seq (.ret (.var 2)) .skip) .skip) (.seq (.ret (.bin .add (.int 1) (.bi .sum (.cons (.comp [5] (.nm 5) (.one (.var 4)) (.bl true) (.call 10 (.cons (.var 5) (.cons (.bin .add (.var 1) (.int 1)) .nil)))) .nil)))) .skip))))))
def b_atoms_in : Iv.St := (.seq (.ite (.cmp .notin (.ix (.var 0) (.int 0)) (.tup (.cons (.glob 13) (.cons (.glob 12) .nil)))) (.seq (.ret (.lst (.cons (.var 0) .nil))) .skip) .skip) (.seq (.ret (.comp2 [1, 2] [2] (.nm 1) (.one (.ix (.var 0) (.int 1))) (.nm 2) (.one (.call 11 (.cons (.var 1) .nil))) (.var 2))) .skip))
def b_named_in : Iv.St := (.seq (.ret (.srt (.dcmp [1, 2] (.tp (.cons (.nm 1) (.cons (.nm 2) .nil))) (.one (.call 11 (.cons (.var 0) .nil))) (.bl true) (.var 2) (.bl true)))) .skip)
def b_is_after_formula : Iv.St := (.seq (.ret (.and (.cmp .le (.call 10 (.cons (.var 0) (.cons (.int 1) .nil))) (.glob 9)) (.one (.cmp .le (.bi .len (.cons (.call 12 (.cons (.var 0) .nil)) .nil)) (.glob 14))))) .skip)
def b_require_after : Iv.St := (.seq (.ite (.not (.call 13 (.cons (.var 0) .nil))) (.seq (.rse 0 .nil) .skip) .skip) .skip)
def b_jobs_named : Iv.St := (.seq (.expr (.call 14 (.cons (.var 0) .nil))) (.seq (.ret (.bi .tuple (.cons (.call 12 (.cons (.var 0) .nil)) .nil))) .skip))
def b__law_dice : Iv.St := (.seq (.asg 2 (.ite (.cmp .lt (.var 1) (.bi .len (.cons (.var 0) .nil))) (.bi .int (.cons (.ix (.var 0) (.var 1)) .nil)) (.bin .add (.bin .mul (.int 71) (.var 1)) (.int 31)))) (.seq (.asg 3 (.bin .mod (.bi .max2 (.cons (.int 0) (.cons (.bin .sub (.bi .abs (.cons (.var 2) .nil)) (.bin .pow (.int 10) (.int 16))) .nil))) (.bin .mul (.bin .pow (.int 10) (.int 60)) (.bin .pow (.int 10) (.int 60))))) (.seq (.ret (.newl (.cons (.var 3) (.cons (.bin .add (.bin .add (.bin .add (.bin .mul (.bin .mod (.bi .abs (.cons (.var 2) .nil)) (.int 1152921504606846697)) (.int 59)) (.bin .mul (.int 821) (.var 1))) (.bin .mul (.int 37) (.bi .int (.cons (.cmp .lt (.var 2) (.int 0)) .nil)))) (.int 5)) (.cons (.int 0) .nil))))) .skip)))
def b__law_roll : Iv.St := (.seq (.ite (.cmp .gt (.ix (.var 0) (.int 0)) (.int 0)) (.seq (.asg 2 (.bin .mod (.bi .int (.cons (.ix (.var 0) (.int 0)) .nil)) (.var 1))) (.seq (.setix 0 (.int 0) (.bin .fdiv (.ix (.var 0) (.int 0)) (.var 1))) (.seq (.ret (.var 2)) .skip))) .skip) (.seq (.setix 0 (.int 2) (.bin .add (.ix (.var 0) (.int 2)) (.int 1))) (.seq (.asg 3 (.bin .mod (.bi .int (.cons (.bin .add (.ix (.var 0) (.int 1)) (.bin .mul (.int 67867967) (.ix (.var 0) (.int 2)))) .nil)) (.int 2305843009213693561))) (.seq (.asg 4 (.bin .add (.bin .mul (.bin .mod (.bi .int (.cons (.bin .add (.bin .mul (.var 3) (.var 3)) (.bin .mul (.int 101) (.ix (.var 0) (.int 2)))) .nil)) (.int 2305843009213693907)) (.int 7368847)) (.var 3))) (.seq (.ret (.bin .mod (.bi .int (.cons (.bin .fdiv (.var 4) (.int 65536)) .nil)) (.var 1))) .skip)))))
def b__law_pick : Iv.St := (.seq (.ret (.ix (.var 1) (.call 17 (.cons (.var 0) (.cons (.bi .len (.cons (.var 1) .nil)) .nil))))) .skip)
def b__law_all_states : Iv.St := (.seq (.ret (.lst (.cons (.str [119, 97, 105, 116, 105, 110, 103]) (.cons (.str [98, 101, 103, 117, 110]) (.cons (.str [108, 101, 102, 116]) (.cons (.str [119, 101, 108, 108]) (.cons (.str [105, 108, 108]) (.cons (.str [108, 97, 116, 101]) (.cons (.str [103, 111, 110, 101]) .nil))))))))) .skip)
def b__law_ends_behind : Iv.St := (.seq (.ite (.cmp .eq (.var 0) (.str [119, 97, 105, 116, 105, 110, 103])) (.seq (.ret (.lst (.cons (.str [108, 101, 102, 116]) (.cons (.str [119, 101, 108, 108]) (.cons (.str [105, 108, 108]) (.cons (.str [108, 97, 116, 101]) (.cons (.str [103, 111, 110, 101]) .nil))))))) .skip) .skip) (.seq (.ret (.ite (.cmp .eq (.var 0) (.str [98, 101, 103, 117, 110])) (.lst (.cons (.str [119, 101, 108, 108]) (.cons (.str [105, 108, 108]) (.cons (.str [108, 97, 116, 101]) (.cons (.str [103, 111, 110, 101]) .nil))))) (.lst (.cons (.var 0) .nil)))) .skip))
def b__law_atom_holds : Iv.St := (.seq (.ite (.cmp .eq (.var 0) (.str [98, 101, 103, 117, 110])) (.seq (.ret (.cmp .notin (.var 1) (.tup (.cons (.str [119, 97, 105, 116, 105, 110, 103]) (.cons (.str [108, 101, 102, 116]) .nil))))) .skip) .skip) (.seq (.ret (.ite (.cmp .eq (.var 0) (.str [111, 118, 101, 114])) (.cmp .notin (.var 1) (.tup (.cons (.str [119, 97, 105, 116, 105, 110, 103]) (.cons (.str [98, 101, 103, 117, 110]) .nil)))) (.cmp .eq (.var 1) (.var 0)))) .skip))
def b__law_after_jobs : Iv.St := (.seq (.asg 1 (.newl .nil)) (.seq (.ite (.cmp .notin (.ix (.var 0) (.int 0)) (.tup (.cons (.str [97, 110, 100]) (.cons (.str [111, 114]) .nil)))) (.seq (.ret (.lst (.cons (.ix (.var 0) (.int 1)) .nil))) .skip) .skip) (.seq (.loop (.nm 2) (.one (.ix (.var 0) (.int 1))) (.seq (.ext 1 (.comp [3] (.nm 3) (.one (.call 22 (.cons (.var 2) .nil))) (.one (.cmp .notin (.var 3) (.var 1))) (.var 3))) .skip)) (.seq (.ret (.srt (.var 1))) .skip))))
def b__law_after_atom : Iv.St := (.seq (.ret (.tup (.cons (.call 18 (.cons (.var 0) (.cons (.lst (.cons (.str [98, 101, 103, 117, 110]) (.cons (.str [111, 118, 101, 114]) (.cons (.str [119, 101, 108, 108]) (.cons (.str [105, 108, 108]) (.cons (.str [108, 97, 116, 101]) (.cons (.str [108, 101, 102, 116]) .nil))))))) .nil))) (.cons (.call 18 (.cons (.var 0) (.cons (.var 1) .nil))) .nil)))) .skip)
def b__law_after_drawn : Iv.St := (.seq (.ite (.or (.cmp .le (.var 2) (.int 0)) (.one (.cmp .eq (.call 17 (.cons (.var 0) (.cons (.int 3) .nil))) (.int 0)))) (.seq (.ret (.call 23 (.cons (.var 0) (.cons (.var 1) .nil)))) .skip) .skip) (.seq (.asg 3 (.comp [4] (.nm 4) (.rng (.bin .add (.int 2) (.call 17 (.cons (.var 0) (.cons (.int 2) .nil))))) (.bl true) (.call 24 (.cons (.var 0) (.cons (.var 1) (.cons (.bin .sub (.var 2) (.int 1)) .nil)))))) (.seq (.ret (.tup (.cons (.call 18 (.cons (.var 0) (.cons (.lst (.cons (.str [97, 110, 100]) (.cons (.str [97, 110, 100]) (.cons (.str [111, 114]) .nil)))) .nil))) (.cons (.bi .tuple (.cons (.var 3) .nil)) .nil)))) .skip)))
def b__law_states_right : Iv.St := (.seq (.ite (.cmp .ne (.glob 0) (.bi .tuple (.cons (.call0 19) .nil))) (.seq (.ret (.bl false)) .skip) .skip) (.seq (.asg 0 (.lst (.cons (.str [98, 101, 103, 117, 110]) (.cons (.str [111, 118, 101, 114]) (.cons (.str [119, 101, 108, 108]) (.cons (.str [105, 108, 108]) (.cons (.str [108, 97, 116, 101]) (.cons (.str [108, 101, 102, 116]) .nil)))))))) (.seq (.loop (.nm 1) (.one (.call0 19)) (.seq (.ite (.or (.cmp .ne (.call 3 (.cons (.var 1) .nil)) (.bi .tuple (.cons (.call 20 (.cons (.var 1) .nil)) .nil))) (.one (.isb true true (.call 0 (.cons (.var 1) .nil))))) (.seq (.ret (.bl false)) .skip) .skip) (.seq (.ite (.cmp .ne (.call 5 (.cons (.var 1) .nil)) (.bi .tuple (.cons (.comp [4] (.nm 4) (.one (.var 0)) (.one (.call 21 (.cons (.var 4) (.cons (.var 1) .nil)))) (.var 4)) .nil))) (.seq (.ret (.bl false)) .skip) .skip) (.seq (.asg 2 (.dgt (.dlit2 [119, 97, 105, 116, 105, 110, 103] (.lst (.cons (.str [98, 101, 103, 117, 110]) (.cons (.str [108, 101, 102, 116]) .nil))) [98, 101, 103, 117, 110] (.lst (.cons (.str [119, 101, 108, 108]) (.cons (.str [105, 108, 108]) (.cons (.str [108, 97, 116, 101]) (.cons (.str [103, 111, 110, 101]) .nil)))))) (.var 1) (.lst .nil))) (.seq (.loop (.nm 3) (.one (.call0 19)) (.seq (.ite (.cmp .ne (.rpr (.call 6 (.cons (.var 1) (.cons (.var 3) .nil)))) (.rpr (.cmp .isin (.var 3) (.var 2)))) (.seq (.ret (.bl false)) .skip) .skip) .skip)) .skip))))) (.seq (.ret (.bl true)) .skip))))
def b__law_bent : Iv.St := (.seq (.par2 2 3 (.tup (.cons (.str [98, 101, 103, 117, 110]) (.cons (.int 1) .nil))) (.var 1)) (.seq (.loop (.nm 4) (.rng (.int 8)) (.seq (.asg 3 (.tup (.cons (.str [97, 110, 100]) (.cons (.tup (.cons (.var 3) (.cons (.var 2) .nil))) .nil)))) .skip)) (.seq (.asg 5 (.lst (.cons (.bi .list (.cons (.var 1) .nil)) (.cons (.tup (.cons (.str [110, 111, 116]) (.cons (.var 1) .nil))) (.cons (.tup (.cons (.str [97, 110, 100]) (.cons (.tup (.cons (.var 1) .nil)) .nil))) (.cons (.tup (.cons (.str [111, 114]) (.cons (.lst (.cons (.var 1) (.cons (.var 1) .nil))) .nil))) (.cons (.tup (.cons (.str [97, 110, 100]) (.cons (.tup (.cons (.var 1) (.cons .non .nil))) .nil))) (.cons (.tup (.cons (.str [111, 114]) (.cons (.tup .nil) .nil))) (.cons (.tup (.cons (.str [111, 114]) (.cons (.bin .mul (.tup (.cons (.var 2) .nil)) (.int 21)) .nil))) .nil))))))))) (.seq (.asg 5 (.bin .add (.var 5) (.lst (.cons (.tup (.cons (.str [103, 111, 110, 101]) (.cons (.int 1) .nil))) (.cons (.tup (.cons (.str [119, 97, 105, 116, 105, 110, 103]) (.cons (.int 1) .nil))) (.cons (.tup (.cons (.str [119, 101, 108, 108]) (.cons (.int 0) .nil))) (.cons (.tup (.cons (.str [119, 101, 108, 108]) (.cons (.int 1000001) .nil))) (.cons (.tup (.cons (.str [119, 101, 108, 108]) (.cons (.bl true) .nil))) (.cons (.tup (.cons (.str [119, 101, 108, 108]) (.cons (.str [49]) .nil))) (.cons (.tup (.cons (.str [119, 101, 108, 108]) .nil)) .nil)))))))))) (.seq (.asg 5 (.bin .add (.var 5) (.lst (.cons (.var 3) (.cons (.tup (.cons (.str [97, 110, 100]) (.cons (.bi .tuple (.cons (.comp [6] (.nm 6) (.rng2 (.int 1) (.int 8)) (.bl true) (.tup (.cons (.str [108, 101, 102, 116]) (.cons (.var 6) .nil)))) .nil)) .nil))) (.cons (.tup (.cons (.str [119, 101, 108, 108]) (.cons (.int 1) (.cons (.int 2) .nil)))) (.cons .non (.cons (.str [119, 101, 108, 108, 40, 49, 41]) .nil)))))))) (.seq (.asg 7 (.tup (.cons (.str [97, 110, 100]) (.cons (.tup (.cons (.tup (.cons (.str [111, 114]) (.cons (.bin .mul (.tup (.cons (.var 2) .nil)) (.int 19)) .nil))) (.cons (.tup (.cons (.str [111, 114]) (.cons (.bin .mul (.tup (.cons (.var 2) .nil)) (.int 19)) .nil))) (.cons (.tup (.cons (.str [111, 114]) (.cons (.bin .mul (.tup (.cons (.var 2) .nil)) (.int 18)) .nil))) .nil)))) .nil)))) (.seq (.ret (.bin .add (.var 5) (.lst (.cons (.tup (.cons (.str [111, 114]) (.cons (.tup (.cons (.var 7) (.cons (.var 2) .nil))) .nil))) (.cons (.bin .add (.var 1) (.tup (.cons (.var 1) .nil))) (.cons .dct0 (.cons (.lst .nil) (.cons (.tup .nil) .nil)))))))) .skip)))))))
def b_law : Iv.St := (.seq (.ite (.not (.call0 25)) (.seq (.ret (.bl false)) .skip) .skip) (.seq (.loop (.nm 1) (.rng (.bi .max2 (.cons (.int 1) (.cons (.bi .min2 (.cons (.int 4) (.cons (.bi .len (.cons (.var 0) .nil)) .nil))) .nil)))) (.seq (.asg 2 (.call 16 (.cons (.var 0) (.cons (.var 1) .nil)))) (.seq (.asg 3 (.call 24 (.cons (.var 2) (.cons (.lst (.cons (.int 1) (.cons (.int 2) (.cons (.int 30) (.cons (.int 1000000) .nil))))) (.cons (.int 3) .nil))))) (.seq (.ite (.or (.isb true true (.call 13 (.cons (.var 3) .nil))) (.one (.cmp .ne (.call 15 (.cons (.var 3) .nil)) (.bi .tuple (.cons (.call 22 (.cons (.var 3) .nil)) .nil))))) (.seq (.ret (.bl false)) .skip) .skip) (.seq (.asg 4 (.call 26 (.cons (.var 2) (.cons (.var 3) .nil)))) (.seq (.ite (.cmp .ne (.comp [8] (.nm 8) (.one (.var 4)) (.one (.isb true false (.call 13 (.cons (.var 8) .nil)))) (.var 8)) (.lst .nil)) (.seq (.ret (.bl false)) .skip) .skip) (.seq (.asgT (.tp (.cons (.nm 6) (.cons (.nm 7) .nil))) (.tup (.cons (.call 18 (.cons (.var 2) (.cons (.var 4) .nil))) (.cons (.call 18 (.cons (.var 2) (.cons (.lst (.cons .non (.cons (.int 0) (.cons (.str [111, 118, 101, 114]) (.cons (.str [87, 101, 108, 108]) (.cons (.str []) (.cons (.tup (.cons (.str [119, 101, 108, 108]) .nil)) (.cons (.lst .nil) (.cons .dct0 (.cons (.bl true) .nil)))))))))) .nil))) .nil)))) (.seq (.asg 5 (.newl (.cons (.rfc 0 15 (.cons (.var 6) .nil)) .nil))) (.seq (.app 5 (.rfc 0 3 (.cons (.var 7) .nil))) (.seq (.app 5 (.rfc 0 5 (.cons (.var 7) .nil))) (.seq (.app 5 (.rfc 0 6 (.cons (.str [119, 97, 105, 116, 105, 110, 103]) (.cons (.var 7) .nil)))) (.seq (.app 5 (.rfc 0 6 (.cons (.var 7) (.cons (.str [108, 101, 102, 116]) .nil)))) (.seq (.ite (.or (.cmp .ne (.var 5) (.bin .mul (.lst (.cons (.bl true) .nil)) (.int 5))) (.one (.isb true false (.call 0 (.cons (.var 7) .nil))))) (.seq (.ret (.bl false)) .skip) .skip) .skip))))))))))))) (.seq (.asg 9 (.tup (.cons (.str [98, 101, 103, 117, 110]) (.cons (.int 1) .nil)))) (.seq (.asg 10 (.tup (.cons (.str [97, 110, 100]) (.cons (.tup (.cons (.tup (.cons (.str [111, 114]) (.cons (.bin .mul (.tup (.cons (.var 9) .nil)) (.int 19)) .nil))) (.cons (.tup (.cons (.str [111, 114]) (.cons (.bin .mul (.tup (.cons (.var 9) .nil)) (.int 19)) .nil))) (.cons (.tup (.cons (.str [111, 114]) (.cons (.bin .mul (.tup (.cons (.var 9) .nil)) (.int 18)) .nil))) .nil)))) .nil)))) (.seq (.ret (.and (.isb false true (.call 13 (.cons (.var 10) .nil))) (.one (.isb false true (.call 13 (.cons (.tup (.cons (.str [97, 110, 100]) (.cons (.bi .tuple (.cons (.comp [11] (.nm 11) (.rng (.int 6)) (.bl true) (.tup (.cons (.str [108, 101, 102, 116]) (.cons (.bin .add (.var 11) (.int 1)) .nil)))) .nil)) .nil))) .nil)))))) .skip)))))
def fns0 : List Iv.Fn := [⟨1, 1, b_is_state, .all⟩, ⟨1, 1, b_require_state, .all⟩, ⟨1, 1, b_ends_behind, .all⟩, ⟨1, 1, b_ends_of, .all⟩, ⟨2, 2, b_is_atom_true, .all⟩, ⟨1, 2, b_atoms_of, .all⟩, ⟨2, 2, b_may_follow, .all⟩, ⟨1, 1, b_is_integer, .all⟩, ⟨3, 3, b_is_from, .all⟩, ⟨1, 1, b_is_job_number, .all⟩, ⟨2, 6, b_after_nodes, .all⟩, ⟨1, 3, b_atoms_in, .all⟩, ⟨1, 3, b_named_in, .all⟩, ⟨1, 1, b_is_after_formula, .all⟩, ⟨1, 1, b_require_after, .all⟩, ⟨1, 1, b_jobs_named, .all⟩, ⟨2, 4, b__law_dice, .all⟩, ⟨2, 5, b__law_roll, .all⟩, ⟨2, 2, b__law_pick, .all⟩, ⟨0, 0, b__law_all_states, .all⟩, ⟨1, 1, b__law_ends_behind, .all⟩, ⟨2, 2, b__law_atom_holds, .all⟩, ⟨1, 4, b__law_after_jobs, .all⟩, ⟨2, 2, b__law_after_atom, .all⟩, ⟨3, 5, b__law_after_drawn, .all⟩, ⟨0, 5, b__law_states_right, .all⟩, ⟨2, 8, b__law_bent, .all⟩, ⟨1, 12, b_law, .all⟩]
def P0 : Iv.Prg where
  globs := [(.tup [.str [119, 97, 105, 116, 105, 110, 103], .str [98, 101, 103, 117, 110], .str [108, 101, 102, 116], .str [119, 101, 108, 108], .str [105, 108, 108], .str [108, 97, 116, 101], .str [103, 111, 110, 101]]), (.str [119, 97, 105, 116, 105, 110, 103]), (.tup [.str [108, 101, 102, 116], .str [119, 101, 108, 108], .str [105, 108, 108], .str [108, 97, 116, 101], .str [103, 111, 110, 101]]), (.str [98, 101, 103, 117, 110]), (.str [108, 101, 102, 116]), (.str [111, 118, 101, 114]), (.tup [.str [98, 101, 103, 117, 110], .str [111, 118, 101, 114], .str [119, 101, 108, 108], .str [105, 108, 108], .str [108, 97, 116, 101], .str [108, 101, 102, 116]]), (.int (1000000000000000000000000000000000000000000000000000000000000)), (.int (1000000)), (.int (60)), (.int (8)), (.int (20)), (.str [111, 114]), (.str [97, 110, 100]), (.int (6))]
  sub := fun a b => ([(0, 0), (1, 1)] : List (Nat × Nat)).any fun q => decide (q.1 = a) && decide (q.2 = b)
  fuel := 1000
  mks := []
  sls := []
  mts := []
  prs := []
  cms := []
  isc := fun c j => (([] : List (Nat × Nat × Bool)).find? fun q => decide (q.1 = c) && decide (q.2.1 = j)).map (·.2.2)
  opf := fun o c => (([] : List (Iv.BOp × Nat × Nat)).find? fun q => decide (q.1 = o) && decide (q.2.1 = c)).map (·.2.2)
  eqf := fun c => (([] : List (Nat × Nat)).find? fun q => decide (q.1 = c)).map (·.2)
  lnf := fun c => (([] : List (Nat × Nat)).find? fun q => decide (q.1 = c)).map (·.2)
  bof := fun c => (([] : List (Nat × Nat)).find? fun q => decide (q.1 = c)).map (·.2)
  stf := fun c => (([] : List (Nat × Nat)).find? fun q => decide (q.1 = c)).map (·.2)
  rfs := [(0, 1)]
end K30
end
section
set_option maxRecDepth 100000
namespace K30
open PySem L2 Iv
def tb : Tb where
  fns := fns0
  Ns := [(["value"] : List Str), (["value"] : List Str), (["state"] : List Str), (["state"] : List Str), (["word", "state"] : List Str), (["state", "word"] : List Str), (["one", "other"] : List Str), (["value"] : List Str), (["value", "least", "most"] : List Str), (["value"] : List Str), (["value", "depth", "wrong", "word", "what", "part"] : List Str), (["formula", "part", "atom"] : List Str), (["formula", "word", "number"] : List Str), (["value"] : List Str), (["value"] : List Str), (["f"] : List Str), (["_law_script", "_law_spot", "_law_cell", "_law_left"] : List Str), (["_law_dice_here", "_law_total", "_law_found", "_law_one", "_law_two"] : List Str), (["_law_dice_here", "_law_items"] : List Str), ([] : List Str), (["_law_state"] : List Str), (["_law_word", "_law_state"] : List Str), (["_law_f", "_law_found", "_law_part", "_law_number"] : List Str), (["_law_dice_here", "_law_jobs"] : List Str), (["_law_dice_here", "_law_jobs", "_law_deep", "_law_parts", "_law_turn"] : List Str), (["_law_words", "_law_state", "_law_nexts", "_law_other", "_law_word"] : List Str), (["_law_dice_here", "_law_f", "_law_one", "_law_deep", "_law_turn", "_law_found", "_law_number", "_law_many"] : List Str), (["_law_script", "_law_spot", "_law_dice_here", "_law_f", "_law_bent_here", "_law_told", "_law_odd", "_law_word", "_law_value", "_law_one", "_law_most", "_law_at"] : List Str)]
  wh := [.glo "is_state", .glo "require_state", .glo "ends_behind", .glo "ends_of", .glo "is_atom_true", .glo "atoms_of", .glo "may_follow", .glo "is_integer", .glo "is_from", .glo "is_job_number", .glo "after_nodes", .glo "atoms_in", .glo "named_in", .glo "is_after_formula", .glo "require_after", .glo "jobs_named", .glo "_law_dice", .glo "_law_roll", .glo "_law_pick", .glo "_law_all_states", .glo "_law_ends_behind", .glo "_law_atom_holds", .glo "_law_after_jobs", .glo "_law_after_atom", .glo "_law_after_drawn", .glo "_law_states_right", .glo "_law_bent", .glo "law"]
  gfn := ["is_state", "require_state", "ends_behind", "ends_of", "is_atom_true", "atoms_of", "may_follow", "is_integer", "is_from", "is_job_number", "after_nodes", "atoms_in", "named_in", "is_after_formula", "require_after", "jobs_named", "_law_dice", "_law_roll", "_law_pick", "_law_all_states", "_law_ends_behind", "_law_atom_holds", "_law_after_jobs", "_law_after_atom", "_law_after_drawn", "_law_states_right", "_law_bent", "law"]
  globs := [("STATES", (.tup [.str [119, 97, 105, 116, 105, 110, 103], .str [98, 101, 103, 117, 110], .str [108, 101, 102, 116], .str [119, 101, 108, 108], .str [105, 108, 108], .str [108, 97, 116, 101], .str [103, 111, 110, 101]])), ("WAITING", (.str [119, 97, 105, 116, 105, 110, 103])), ("ENDS", (.tup [.str [108, 101, 102, 116], .str [119, 101, 108, 108], .str [105, 108, 108], .str [108, 97, 116, 101], .str [103, 111, 110, 101]])), ("BEGUN", (.str [98, 101, 103, 117, 110])), ("LEFT", (.str [108, 101, 102, 116])), ("OVER", (.str [111, 118, 101, 114])), ("ATOM_WORDS", (.tup [.str [98, 101, 103, 117, 110], .str [111, 118, 101, 114], .str [119, 101, 108, 108], .str [105, 108, 108], .str [108, 97, 116, 101], .str [108, 101, 102, 116]])), ("GREATEST", (.int (1000000000000000000000000000000000000000000000000000000000000))), ("MAX_JOB_NUMBER", (.int (1000000))), ("MAX_AFTER_NODES", (.int (60))), ("MAX_DEEP", (.int (8))), ("MAX_MEMBERS", (.int (20))), ("EITHER", (.str [111, 114])), ("BOTH", (.str [97, 110, 100])), ("MAX_NAMED", (.int (6)))]
  cls := []
  excs := [⟨"InvalidFormula", none, 0⟩, ⟨"InvalidJob", none, 0⟩]
  fuel := 1000
  subs := [(0, 0), (1, 1)]
  mks := []
  sls := []
  mts := []
  prs := []
  cms := []
  ops := []
  eqs := []
  lns := []
  bls := []
  sts := []
  isc := []
  rfs := [("_law_is_refused", 0, 1)]
  mkr := [27]
theorem tb_prg : tb.prg = P0 := rfl
theorem tb_fns : tb.fns = fns0 := rfl
end K30
end
section
set_option maxRecDepth 100000
set_option maxHeartbeats 1000000
set_option exponentiation.threshold 2000
/-! Pw: ways through the interpreter that hold for every program. -/
namespace Pw
open Iv
theorem compL_all {f : D → Hs → R (Option D)} {S : Hs} {p : D → Bool} {g : D → D} : ∀ {xs acc : List D}, (∀ x ∈ xs, f x S = .ok (if p x then some (g x) else none) S) → compL f xs acc S = .ok (acc ++ (xs.filter p).map g) S
  | [], acc, _ => by simp [compL]
  | x :: xs, acc, h => by
    simp only [compL, h x List.mem_cons_self]
    have ih := fun acc => compL_all (acc := acc) (fun y hy => h y (List.mem_cons_of_mem _ hy))
    by_cases q : p x = true
    · rw [if_pos q]; dsimp only; rw [ih, List.filter_cons_of_pos q]; simp
    · rw [if_neg q]; dsimp only; rw [ih, List.filter_cons_of_neg q]
theorem compL_map {f : D → Hs → R (Option D)} {S : Hs} {g : D → D} {xs acc : List D} (h : ∀ x ∈ xs, f x S = .ok (some (g x)) S) : compL f xs acc S = .ok (acc ++ xs.map g) S := by
  rw [compL_all (p := fun _ => true) (g := g) (fun x hx => by rw [h x hx]; simp), List.filter_eq_self.mpr (fun _ _ => rfl)]
theorem kput_new {k : Ky} {v : D} {xs : List (Ky × D)} (h : ∀ p ∈ xs, p.1 ≠ k) : kput k v xs = xs ++ [(k, v)] := by
  unfold kput
  rw [if_neg]
  rw [List.any_eq_true]
  rintro ⟨p, hp, e⟩
  exact h p hp (of_decide_eq_true e)
theorem dcmpL_all {f : D → Hs → R (Option (Ky × D))} {S : Hs} {p : D → Bool} {g : D → Ky × D} : ∀ {xs : List D} {acc : List (Ky × D)}, (∀ x ∈ xs, f x S = .ok (if p x then some (g x) else none) S) → (acc.map (·.1) ++ ((xs.filter p).map fun x => (g x).1)).Nodup →
    dcmpL f xs acc S = .ok (acc ++ (xs.filter p).map g) S
  | [], acc, _, _ => by simp [dcmpL]
  | x :: xs, acc, h, nd => by
    simp only [dcmpL, h x List.mem_cons_self]
    by_cases q : p x = true
    · rw [if_pos q]; dsimp only
      rw [List.filter_cons_of_pos q] at nd ⊢
      rw [kput_new, dcmpL_all (fun y hy => h y (List.mem_cons_of_mem _ hy))]
      · simp
      · simpa using nd
      · intro a ha e
        rw [List.nodup_append] at nd
        exact nd.2.2 a.1 (List.mem_map_of_mem ha) (g x).1 (by simp) e
    · rw [if_neg q]; dsimp only
      rw [List.filter_cons_of_neg q] at nd ⊢
      exact dcmpL_all (fun y hy => h y (List.mem_cons_of_mem _ hy)) nd
/-! ### amounts -/
theorem bools_true {α : Type} : ∀ xs : List α, bools (xs.map fun _ => D.bl true) = some (xs.map fun _ => true)
  | [] => rfl
  | x :: xs => by simp [bools, bools_true xs]
theorem allB_true {α : Type} : ∀ xs : List α, allB (xs.map fun _ => true) = true
  | [] => rfl
  | x :: xs => by simp [allB, allB_true xs]
theorem forL_all {t : Tg} {f : Ev → Hs → RS} {S : Hs} {I : Ev → Prop} : ∀ {xs : List D} {r : Ev}, I r → (∀ x ∈ xs, ∀ r, I r → ∃ r1 r2, asgD t x r = some r1 ∧ f r1 S = .nx r2 S ∧ I r2) → ∃ r', forL t f xs r S = .nx r' S ∧ I r'
  | [], r, hI, _ => ⟨r, rfl, hI⟩
  | x :: xs, r, hI, h => by
    obtain ⟨r1, r2, h1, h2, h3⟩ := h x List.mem_cons_self r hI
    obtain ⟨r', h4, h5⟩ := forL_all h3 (fun y hy => h y (List.mem_cons_of_mem _ hy))
    exact ⟨r', by simp only [forL, h1, h2, h4], h5⟩
variable {P : Prg} {cal : Cal} {r r1 : Ev} {S S1 S2 : Hs}
theorem x_nx {a b : St} {r r1 : Ev} {S S1 : Hs} (h : exec P cal a r S = .nx r1 S1) : exec P cal (.seq a b) r S = exec P cal b r1 S1 := by simp only [exec, h]
theorem x_ret {a b : St} {r : Ev} {S S1 : Hs} {v : Vl} (h : exec P cal a r S = .ret v S1) : exec P cal (.seq a b) r S = .ret v S1 := by simp only [exec, h]
theorem x_loop {t : Tg} {it : Ex} {b : St} {r : Ev} {S S1 : Hs} {xs : List D} (h : evi P cal it r S = .ok xs S1) : exec P cal (.loop t it b) r S = forL t (fun r S => exec P cal b r S) xs r S1 := by simp only [exec, h, R.st]
theorem x_if {e : Ex} {a b : St} {r : Ev} {S S1 : Hs} {q : Bool} (h : ev P cal e r S = .ok (.d (.bl q)) S1) : exec P cal (.ite e a b) r S = if q then exec P cal a r S1 else exec P cal b r S1 := by
  cases q <;> simp only [exec, h, R.st] <;> rfl
theorem x_asg {e : Ex} {i : Nat} {r : Ev} {S S1 : Hs} {v : Vl} (h : ev P cal e r S = .ok v S1) : exec P cal (.asg i e) r S = .nx (r.set i (some v)) S1 := by simp only [exec, h, R.st]
theorem x_expr {e : Ex} {r : Ev} {S S1 : Hs} {v : Vl} (h : ev P cal e r S = .ok v S1) : exec P cal (.expr e) r S = .nx r S1 := by simp only [exec, h, R.st]
theorem x_retv {e : Ex} {r : Ev} {S S1 : Hs} {v : Vl} (h : ev P cal e r S = .ok v S1) : exec P cal (.ret e) r S = .ret v S1 := by simp only [exec, h, R.st]
theorem e_comp {own : List Nat} {t : Tg} {it c e : Ex} {r : Ev} {S S1 : Hs} {xs : List D} (p : D → Bool) (g : D → D) (h : evi P cal it r S = .ok xs S1) (hb : xs.length ≤ 1000000)
    (hx : ∀ x ∈ xs, ∃ r1, asgD t x (wipes r own) = some r1 ∧ ev P cal c r1 S1 = .ok (.d (.bl (p x))) S1 ∧ (p x = true → ev P cal e r1 S1 = .ok (.d (g x)) S1)) :
    ev P cal (.comp own t it c e) r S = .ok (.d (.lst ((xs.filter p).map g))) S1 := by
  simp only [ev, h, R.bind, if_neg (show ¬ big < xs.length from Nat.not_lt.mpr hb)]
  rw [compL_all (p := p) (g := g) fun x hm => ?_]
  · simp
  · obtain ⟨r1, h1, h2, h3⟩ := hx x hm
    simp only [h1, h2, R.bind]
    cases q : p x with
    | true => simp only [h3 q, if_true]
    | false => simp
theorem e_dcmp {own : List Nat} {t : Tg} {it c k e : Ex} {r : Ev} {S S1 : Hs} {xs : List D} (p : D → Bool) (g : D → Ky × D) (h : evi P cal it r S = .ok xs S1) (hb : xs.length ≤ 1000000)
    (hx : ∀ x ∈ xs, ∃ r1 y, asgD t x (wipes r own) = some r1 ∧ ev P cal c r1 S1 = .ok (.d (.bl (p x))) S1 ∧ (p x = true → ev P cal k r1 S1 = .ok (.d y) S1 ∧ keyD y = some (g x).1 ∧ ev P cal e r1 S1 = .ok (.d (g x).2) S1))
    (nd : ((xs.filter p).map fun x => (g x).1).Nodup) : ev P cal (.dcmp own t it c k e) r S = .ok (.d (.dct ((xs.filter p).map g))) S1 := by
  simp only [ev, h, R.bind, if_neg (show ¬ big < xs.length from Nat.not_lt.mpr hb)]
  rw [dcmpL_all (p := p) (g := g) (fun x hm => ?_) (by simpa using nd)]
  · simp
  · obtain ⟨r1, y, h1, h2, h3⟩ := hx x hm
    simp only [h1, h2, R.bind]
    cases q : p x with
    | true =>
      obtain ⟨a1, a2, a3⟩ := h3 q
      simp only [a1, a2, a3, if_true]
    | false => simp
theorem v_nil : evs P cal .nil r S = .ok [] S := by simp only [evs]
theorem v_cons {e es : Ex} {v : Vl} {vs : List Vl} (h : ev P cal e r S = .ok v S1) (h2 : evs P cal es r S1 = .ok vs S2) : evs P cal (.cons e es) r S = .ok (v :: vs) S2 := by simp only [evs, h, h2, R.bind]
theorem v_one {e : Ex} {v : Vl} (h : ev P cal e r S = .ok v S1) : evs P cal (.cons e .nil) r S = .ok [v] S1 := v_cons h v_nil
theorem v_var {i : Nat} {x : D} (h : r[i]? = some (some (.d x))) : ev P cal (.var i) r S = .ok (.d x.wk) S := by simp only [ev, h]
theorem v_loc {i n : Nat} (h : r[i]? = some (some (.loc n))) : ev P cal (.var i) r S = .ok (.loc n) S := by simp only [ev, h]
theorem v_call {f : Nat} {es : Ex} {vs : List Vl} {x : R Vl} (h : evs P cal es r S = .ok vs S1) (h2 : cal f vs S1 = x) : ev P cal (.call f es) r S = x := by simp only [ev, h, R.bind, h2]
theorem v_not {a : Ex} {q : Bool} (h : ev P cal a r S = .ok (.d (.bl q)) S1) : ev P cal (.not a) r S = .ok (.d (.bl (!q))) S1 := by simp only [ev, h, R.bind]
theorem v_and {a b : Ex} {p q : Bool} (h : ev P cal a r S = .ok (.d (.bl p)) S) (h2 : p = true → ev P cal b r S = .ok (.d (.bl q)) S) : ev P cal (.and a b) r S = .ok (.d (.bl (p && q))) S := by
  cases p with
  | true => simp only [ev, h, R.bind, h2 rfl, Bool.true_and]
  | false => simp only [ev, h, R.bind, Bool.false_and]
theorem v_or {a b : Ex} {p q : Bool} (h : ev P cal a r S = .ok (.d (.bl p)) S) (h2 : p = false → ev P cal b r S = .ok (.d (.bl q)) S) : ev P cal (.or a b) r S = .ok (.d (.bl (p || q))) S := by
  cases p with
  | true => simp only [ev, h, R.bind, Bool.true_or]
  | false => simp only [ev, h, R.bind, h2 rfl, Bool.false_or]
theorem v_1 {a : Ex} {x : R Vl} (h : ev P cal a r S = x) : ev P cal (.one a) r S = x := by simp only [ev, h]
theorem x_no {e : Ex} (h : ev P cal e r S = .ok (.d (.bl false)) S) : exec P cal (.ite e (.seq (.ret (.bl false)) .skip) .skip) r S = .nx r S := by
  rw [x_if h]; simp [exec]
theorem v_no {a : Ex} {p : Bool} (h : ev P cal a r S = .ok (.d (.bl p)) S) (hp : p = true) : ev P cal (.not a) r S = .ok (.d (.bl false)) S := by rw [v_not h, hp]; rfl
theorem v_ors {a b : Ex} (h : ev P cal a r S = .ok (.d (.bl false)) S) (h2 : ev P cal b r S = .ok (.d (.bl false)) S) : ev P cal (.or a b) r S = .ok (.d (.bl false)) S := v_or h fun _ => h2
theorem v_ands {a b : Ex} (h : ev P cal a r S = .ok (.d (.bl true)) S) (h2 : ev P cal b r S = .ok (.d (.bl true)) S) : ev P cal (.and a b) r S = .ok (.d (.bl true)) S := v_and h fun _ => h2
theorem v_neb {a b : Ex} {p q : Bool} (ha : ev P cal a r S = .ok (.d (.bl p)) S) (hb : ev P cal b r S = .ok (.d (.bl q)) S) : ev P cal (.cmp .ne a b) r S = .ok (.d (.bl (!(p == q)))) S := by
  simp only [ev, ha, hb, R.bind, rdV, cmpD, D.plain, D.eqv, Bool.and_self, if_true, Option.map_some, R.opt]
theorem v_eqb {a b : Ex} {p q : Bool} (ha : ev P cal a r S = .ok (.d (.bl p)) S) (hb : ev P cal b r S = .ok (.d (.bl q)) S) : ev P cal (.cmp .eq a b) r S = .ok (.d (.bl (p == q))) S := by
  simp only [ev, ha, hb, R.bind, rdV, cmpD, D.plain, D.eqv, Bool.and_self, if_true, Option.map_some, R.opt]
theorem v_eqi {a b : Ex} {p q : Int} (ha : ev P cal a r S = .ok (.d (.int p)) S) (hb : ev P cal b r S = .ok (.d (.int q)) S) : ev P cal (.cmp .eq a b) r S = .ok (.d (.bl (p == q))) S := by
  simp only [ev, ha, hb, R.bind, rdV, cmpD, D.plain, D.eqv, Bool.and_self, if_true, Option.map_some, R.opt]
theorem v_int {i : Int} : ev P cal (.int i) r S = .ok (.d (.int i)) S := by simp only [ev]
/-! ### amounts, at the depth k + 6 -/
theorem v_addi {a b : Ex} {i j : Int} (ha : ev P cal a r S = .ok (.d (.int i)) S) (hb : ev P cal b r S = .ok (.d (.int j)) S) : ev P cal (.bin .add a b) r S = .ok (.d (.int (i + j))) S := by
  simp only [ev, ha, hb, R.bind, binD, Option.map_some, R.opt]
theorem v_vi {i : Nat} {x : Int} (h : r[i]? = some (some (.d (.int x)))) : ev P cal (.var i) r S = .ok (.d (.int x)) S := v_var h
theorem x_go {e : Ex} {b : St} (h : ev P cal e r S = .ok (.d (.bl false)) S) : exec P cal (.ite e b .skip) r S = .nx r S := by
  rw [x_if h]; simp [exec]
theorem v_ixl {i n : Nat} {j : Int} {xs : List D} {x : D} (h : r[i]? = some (some (.loc n))) (hS : S[n]? = some (.lst xs)) (hx : ixD (.lst xs) (.int j) = some x) : ev P cal (.ix (.var i) (.int j)) r S = .ok (.d x) S := by
  rw [ev, v_loc h]
  simp only [R.bind, ev, rdV, hS, hx, Option.map_some, R.opt]
theorem v_ixd {i : Nat} {j : Int} {xs : List D} {x : D} (h : r[i]? = some (some (.d (.lst xs)))) (hx : ixD (.lst xs) (.int j) = some x) : ev P cal (.ix (.var i) (.int j)) r S = .ok (.d x) S := by
  rw [ev, v_var h]
  simp only [R.bind, ev, rdV, D.wk, hx, Option.map_some, R.opt]
theorem x_app {i n : Nat} {e : Ex} {xs : List D} {x : D} (h : r[i]? = some (some (.loc n))) (hS : S[n]? = some (.lst xs)) (he : ev P cal e r S = .ok (.d x) S) (hl : xs.length < big) : exec P cal (.app i e) r S = .nx r (S.set n (.lst (xs ++ [x]))) := by
  simp only [exec, h, hS, he, R.st, hl, if_true]
theorem x_frz {i n : Nat} {b : St} {xs : List D} (h : r[i]? = some (some (.loc n))) (hS : S[n]? = some (.lst xs)) : exec P cal (.frzv i b) r S = exec P cal b (r.set i (some (.d (.lst xs)))) (S.set n .dead) := by
  simp only [exec, h, hS]
section
variable {a b : Ex} {i j : Int}
theorem v_b {o : BOp} {z : Int} (ha : ev P cal a r S = .ok (.d (.int i)) S) (hb : ev P cal b r S = .ok (.d (.int j)) S) (h : binD o (.int i) (.int j) = some (.int z)) : ev P cal (.bin o a b) r S = .ok (.d (.int z)) S := by
  simp only [ev, ha, hb, R.bind, h, Option.map_some, R.opt]
theorem v_bi1 {f : Bi} {x y : D} (ha : ev P cal a r S = .ok (.d x) S) (h : biD f [x] = some y) : ev P cal (.bi f (.cons a .nil)) r S = .ok (.d y) S := by
  simp only [ev, v_one ha, R.bind, rdVs, rdV, Option.map_some, Option.bind_some, h, R.opt]
theorem v_bi2 {f : Bi} {x y z : D} (ha : ev P cal a r S = .ok (.d x) S) (hb : ev P cal b r S = .ok (.d y) S) (h : biD f [x, y] = some z) : ev P cal (.bi f (.cons a (.cons b .nil))) r S = .ok (.d z) S := by
  simp only [ev, v_cons ha (v_one hb), R.bind, rdVs, rdV, Option.map_some, Option.bind_some, h, R.opt]
theorem v_lt (ha : ev P cal a r S = .ok (.d (.int i)) S) (hb : ev P cal b r S = .ok (.d (.int j)) S) : ev P cal (.cmp .lt a b) r S = .ok (.d (.bl (decide (i < j)))) S := by
  simp only [ev, ha, hb, R.bind, rdV, cmpD, Option.map_some, R.opt]
end
theorem forL_S {t : Tg} {f : Ev → Hs → RS} {I : Nat → Ev → Hs → Prop} : ∀ {xs : List D} {r : Ev} {S : Hs} {i : Nat}, I i r S → (∀ j x, xs[j]? = some x → ∀ r S, I (i + j) r S → ∃ r1 r2 S2, asgD t x r = some r1 ∧ f r1 S = .nx r2 S2 ∧ I (i + j + 1) r2 S2) → ∃ r' S', forL t f xs r S = .nx r' S' ∧ I (i + xs.length) r' S'
  | [], r, S, i, hI, _ => ⟨r, S, rfl, hI⟩
  | x :: xs, r, S, i, hI, h => by
    obtain ⟨r1, r2, S2, h1, h2, h3⟩ := h 0 x rfl r S hI
    obtain ⟨r', S', h4, h5⟩ := forL_S (i := i + 1) (r := r2) (S := S2) (xs := xs) h3 (fun j y hy r S hI => by
      have e : i + 1 + j = i + (j + 1) := by omega
      rw [e] at hI ⊢
      exact h (j + 1) y (by simpa using hy) r S hI)
    refine ⟨r', S', by simp only [forL, h1, h2, h4], ?_⟩
    have e : i + (x :: xs).length = i + 1 + xs.length := by simp; omega
    rw [e]; exact h5
inductive Ea (Rel : D → Option D → Prop) : List D → List (Option D) → Prop
  | nil : Ea Rel [] []
  | cons {x : D} {o : Option D} {xs : List D} {os : List (Option D)} : Rel x o → Ea Rel xs os → Ea Rel (x :: xs) (o :: os)
theorem compL_S {f : D → Hs → R (Option D)} {I : Hs → Prop} {Rel : D → Option D → Prop} : ∀ {xs acc : List D} {S : Hs}, I S → (∀ x ∈ xs, ∀ S, I S → ∃ o S', f x S = .ok o S' ∧ I S' ∧ Rel x o) → ∃ os S', compL f xs acc S = .ok (acc ++ os.filterMap id) S' ∧ I S' ∧ Ea Rel xs os
  | [], acc, S, hI, _ => ⟨[], S, by simp [compL], hI, .nil⟩
  | x :: xs, acc, S, hI, h => by
    obtain ⟨o, S1, h1, h2, h3⟩ := h x List.mem_cons_self S hI
    cases o with
    | none =>
      obtain ⟨os, S', a, b, d⟩ := compL_S (acc := acc) h2 (fun y hy => h y (List.mem_cons_of_mem _ hy))
      exact ⟨none :: os, S', by simp only [compL, h1, a]; simp, b, .cons h3 d⟩
    | some y =>
      obtain ⟨os, S', a, b, d⟩ := compL_S (acc := acc ++ [y]) h2 (fun y hy => h y (List.mem_cons_of_mem _ hy))
      exact ⟨some y :: os, S', by simp only [compL, h1, a]; simp, b, .cons h3 d⟩
def turn (cal : Cal) (own : List Nat) (t : Tg) (c e : Ex) (r : Ev) : D → Hs → R (Option D) := fun x S2 => match asgD t x (wipes r own) with
  | none => .bad
  | some r1 => (ev P cal c r1 S2).bind fun k S3 => match k with
    | .d (.bl true) => (ev P cal e r1 S3).bind fun y S4 => match y with
      | .d y => .ok (some y) S4
      | _ => .bad
    | .d (.bl false) => .ok none S3
    | _ => .bad
theorem ev_comp0 {own : List Nat} {t : Tg} {it c e : Ex} {r : Ev} {S : Hs} : ev P cal (.comp own t it c e) r S = (evi P cal it r S).bind fun xs S1 => if big < xs.length then .bad else (compL (turn (P := P) cal own t c e r) xs [] S1).bind fun ys S5 => .ok (.d (.lst ys)) S5 := rfl
theorem ev_newc0 {own : List Nat} {t : Tg} {it c e : Ex} {r : Ev} {S : Hs} : ev P cal (.newc own t it c e) r S = (evi P cal it r S).bind fun xs S1 => if big < xs.length then .bad else (compL (turn (P := P) cal own t c e r) xs [] S1).bind fun ys S5 => .ok (.loc S5.length) (S5 ++ [.lst ys]) := rfl
theorem compS {own : List Nat} {t : Tg} {it c e : Ex} {r : Ev} {S S1 : Hs} {xs : List D} {I : Hs → Prop} (Rel : D → Option D → Prop) (h : evi P cal it r S = .ok xs S1) (hb : xs.length ≤ 1000000) (hI : I S1)
    (hx : ∀ x ∈ xs, ∀ S, I S → ∃ r1 S3 b, asgD t x (wipes r own) = some r1 ∧ ev P cal c r1 S = .ok (.d (.bl b)) S3 ∧ ((b = false ∧ I S3 ∧ Rel x none) ∨ (b = true ∧ ∃ y S4, ev P cal e r1 S3 = .ok (.d y) S4 ∧ I S4 ∧ Rel x (some y)))) :
    ∃ os S', ev P cal (.comp own t it c e) r S = .ok (.d (.lst (os.filterMap id))) S' ∧ ev P cal (.newc own t it c e) r S = .ok (.loc S'.length) (S' ++ [.lst (os.filterMap id)]) ∧ I S' ∧ Ea Rel xs os := by
  obtain ⟨os, S', a, b, d⟩ := compL_S (f := turn (P := P) cal own t c e r) (I := I) (Rel := Rel) (xs := xs) (acc := []) (S := S1) hI (fun x hm S hIS => by
    obtain ⟨r1, S3, b, h1, h2, h3⟩ := hx x hm S hIS
    rcases h3 with ⟨rfl, q1, q2⟩ | ⟨rfl, y, S4, q1, q2, q3⟩
    · exact ⟨none, S3, by simp only [turn, h1, h2, R.bind], q1, q2⟩
    · exact ⟨some y, S4, by simp only [turn, h1, h2, q1, R.bind], q2, q3⟩)
  rw [List.nil_append] at a
  refine ⟨os, S', ?_, ?_, b, d⟩
  · rw [ev_comp0, h]; simp only [R.bind, if_neg (show ¬ big < xs.length from Nat.not_lt.mpr hb), a]
  · rw [ev_newc0, h]; simp only [R.bind, if_neg (show ¬ big < xs.length from Nat.not_lt.mpr hb), a]
theorem fin_len {x : D} {S S' : Hs} (h : S'.length = S.length) : fin S.length (.ret (.d x) S') = .ok (.d x) S' := by
  simp only [fin]; rw [List.take_of_length_le (by omega)]
def Dice (n : Nat) (S : Hs) : Prop := ∃ a b d : Int, S[n]? = some (.lst [.int a, .int b, .int d])
theorem mulL {i j : Int} (h : i.natAbs < 2 ^ 64) : mulOk i j = true := by simp only [mulOk, decide_eq_true h, Bool.true_or]
theorem mulR {i j : Int} (h : j.natAbs < 2 ^ 64) : mulOk i j = true := by simp only [mulOk, decide_eq_true h, Bool.true_or, Bool.or_true]
theorem b_mul {i j : Int} (h : mulOk i j = true) : binD .mul (.int i) (.int j) = some (.int (i * j)) := by simp only [binD, h, if_true]
theorem b_mod {i j : Int} (h : 0 < j) : binD .mod (.int i) (.int j) = some (.int (i % j)) := by simp only [binD, h, if_true]
theorem b_div {i j : Int} (h : 0 < j) (h' : j < 2 ^ 1000) : binD .fdiv (.int i) (.int j) = some (.int (i / j)) := by simp only [binD, h, h', and_self, if_true]
def Near (n : Nat) (S S' : Hs) : Prop := Dice n S' ∧ S'.length = S.length ∧ ∀ j, j ≠ n → S'[j]? = S[j]?
theorem Near.trans {n : Nat} {A B C : Hs} (h : Near n A B) (g : Near n B C) : Near n A C := ⟨g.1, g.2.1.trans h.2.1, fun j hj => (g.2.2 j hj).trans (h.2.2 j hj)⟩
theorem hide {x : R Vl} {z : Int} (h : x = .ok (.d (.int z)) S) : ∃ m : Int, x = .ok (.d (.int m)) S := ⟨z, h⟩
def t60 : Int := 10 ^ 60
theorem p60 : binD .pow (.int 10) (.int 60) = some (.int t60) := rfl
theorem t60_mul : mulOk t60 t60 = true := by decide
theorem t60_pos : 0 < t60 * t60 := by decide
theorem p16 : binD .pow (.int 10) (.int 16) = some (.int (10 ^ 16)) := rfl
theorem upTo_mem : ∀ {n : Nat} {a : Int} {x : D}, x ∈ upTo n a → ∃ i, x = .int i ∧ a ≤ i ∧ i < a + n
  | 0, _, _, h => by cases h
  | n + 1, a, x, h => by
    rcases List.mem_cons.mp h with rfl | h
    · exact ⟨a, rfl, by omega, by omega⟩
    · obtain ⟨i, e, h1, h2⟩ := upTo_mem h
      exact ⟨i, e, by omega, by omega⟩
end Pw
end
section
set_option maxRecDepth 100000
set_option maxHeartbeats 1000000
set_option exponentiation.threshold 2000
/-! Pw2: the dice of the laws. -/
namespace Pw
open Iv
variable {P : Prg} {fns : List Fn} {cal : Cal} {k : Nat} {r : Ev} {S : Hs}
theorem call_all {f : Nat} {fn : Fn} {vs : List Vl} (h : fns[f]? = some fn) (had : fn.ad = .all) (hl : vs.length = fn.np) : call P fns (k + 1) f vs S = fin S.length (exec P (call P fns k) fn.body (vs.map some ++ List.replicate (fn.ns - fn.np) none) S) := by
  simp only [call, h, had, adapt, runF, hl, if_true]
theorem fin_ret (x : D) (S : Hs) : fin S.length (.ret (.d x) S) = .ok (.d x) S := by simp [fin]
theorem fin_nx (r : Ev) (S : Hs) : fin S.length (.nx r S) = .ok (.d .non) S := by simp [fin]
theorem fin_exc (c : Nat) (fs : List D) (r : Ev) (S : Hs) : fin S.length (.exc c fs r S) = .exc c fs S := by simp [fin]
def b_dice : St := (.seq (.asg 2 (.ite (.cmp .lt (.var 1) (.bi .len (.cons (.var 0) .nil))) (.bi .int (.cons (.ix (.var 0) (.var 1)) .nil)) (.bin .add (.bin .mul (.int 71) (.var 1)) (.int 31)))) (.seq (.asg 3 (.bin .mod (.bi .max2 (.cons (.int 0) (.cons (.bin .sub (.bi .abs (.cons (.var 2) .nil)) (.bin .pow (.int 10) (.int 16))) .nil))) (.bin .mul (.bin .pow (.int 10) (.int 60)) (.bin .pow (.int 10) (.int 60))))) (.seq (.ret (.newl (.cons (.var 3) (.cons (.bin .add (.bin .add (.bin .add (.bin .mul (.bin .mod (.bi .abs (.cons (.var 2) .nil)) (.int 1152921504606846697)) (.int 59)) (.bin .mul (.int 821) (.var 1))) (.bin .mul (.int 37) (.bi .int (.cons (.cmp .lt (.var 2) (.int 0)) .nil)))) (.int 5)) (.cons (.int 0) .nil))))) .skip)))
def b_roll : St := (.seq (.ite (.cmp .gt (.ix (.var 0) (.int 0)) (.int 0)) (.seq (.asg 2 (.bin .mod (.bi .int (.cons (.ix (.var 0) (.int 0)) .nil)) (.var 1))) (.seq (.setix 0 (.int 0) (.bin .fdiv (.ix (.var 0) (.int 0)) (.var 1))) (.seq (.ret (.var 2)) .skip))) .skip) (.seq (.setix 0 (.int 2) (.bin .add (.ix (.var 0) (.int 2)) (.int 1))) (.seq (.asg 3 (.bin .mod (.bi .int (.cons (.bin .add (.ix (.var 0) (.int 1)) (.bin .mul (.int 67867967) (.ix (.var 0) (.int 2)))) .nil)) (.int 2305843009213693561))) (.seq (.asg 4 (.bin .add (.bin .mul (.bin .mod (.bi .int (.cons (.bin .add (.bin .mul (.var 3) (.var 3)) (.bin .mul (.int 101) (.ix (.var 0) (.int 2)))) .nil)) (.int 2305843009213693907)) (.int 7368847)) (.var 3))) (.seq (.ret (.bin .mod (.bi .int (.cons (.bin .fdiv (.var 4) (.int 65536)) .nil)) (.var 1))) .skip)))))
def b_pick (f : Nat) : St := (.seq (.ret (.ix (.var 1) (.call f (.cons (.var 0) (.cons (.bi .len (.cons (.var 1) .nil)) .nil))))) .skip)
theorem roll {f n : Nat} {t : Int} (hf : fns[f]? = some ⟨2, 5, b_roll, .all⟩) (h0 : 0 < t) (h1 : t < 1000000000) (hd : Dice n S) : ∃ v S', call P fns (k + 1) f [.loc n, .d (.int t)] S = .ok (.d (.int v)) S' ∧ 0 ≤ v ∧ v < t ∧ Near n S S' := by
  obtain ⟨a, b, d, hS⟩ := hd
  have hn : n < S.length := (List.getElem?_eq_some_iff.mp hS).1
  have fd : ∀ x : Int, binD .fdiv (.int x) (.int t) = some (.int (x / t)) := fun x => b_div h0 (Int.lt_trans h1 (by decide))
  have md : ∀ x : Int, binD .mod (.int x) (.int t) = some (.int (x % t)) := fun x => b_mod h0
  rw [call_all hf rfl rfl]
  show ∃ v S', fin S.length (exec P (call P fns k) b_roll [some (.loc n), some (.d (.int t)), none, none, none] S) = .ok (.d (.int v)) S' ∧ _
  by_cases ha : 0 < a
  · refine ⟨a % t, S.set n (.lst [.int (a / t), .int b, .int d]), ?_, Int.emod_nonneg _ (by omega), Int.emod_lt_of_pos _ h0, ⟨a / t, b, d, by simp [hn]⟩, by simp, fun j hj => by simp [Ne.symm hj]⟩
    have e : exec P (call P fns k) b_roll [some (.loc n), some (.d (.int t)), none, none, none] S = .ret (.d (.int (a % t))) (S.set n (.lst [.int (a / t), .int b, .int d])) := by
      simp [b_roll, exec, ev, evs, R.st, R.bind, D.wk, rdV, hS, ixD, plc, R.opt, cmpD, ha, rdVs, biD, md, fd]
    rw [e]
    simp only [fin]
    rw [List.take_of_length_le (by simp)]
  · have e : ∃ v, exec P (call P fns k) b_roll [some (.loc n), some (.d (.int t)), none, none, none] S = .ret (.d (.int (v % t))) (S.set n (.lst [.int a, .int b, .int (d + 1)])) := by
      unfold b_roll
      rw [x_nx (r1 := [some (.loc n), some (.d (.int t)), none, none, none]) (S1 := S) (by
        rw [x_if (q := false) (S1 := S) (by simp [ev, R.bind, rdV, hS, ixD, plc, R.opt, cmpD]; omega)]
        simp [exec])]
      rw [x_nx (r1 := [some (.loc n), some (.d (.int t)), none, none, none]) (S1 := S.set n (.lst [.int a, .int b, .int (d + 1)])) (by simp [exec, ev, R.st, R.bind, rdV, hS, ixD, plc, R.opt, binD])]
      have hS' : (S.set n (.lst [.int a, .int b, .int (d + 1)]))[n]? = some (.lst [.int a, .int b, .int (d + 1)]) := by simp [hn]
      generalize S.set n (.lst [.int a, .int b, .int (d + 1)]) = S' at hS' ⊢
      obtain ⟨x, hx, e3⟩ : ∃ x : Int, x.natAbs < 2 ^ 64 ∧ ev P (call P fns k) (.bin .mod (.bi .int (.cons (.bin .add (.ix (.var 0) (.int 1)) (.bin .mul (.int 67867967) (.ix (.var 0) (.int 2)))) .nil)) (.int 2305843009213693561)) [some (.loc n), some (.d (.int t)), none, none, none] S' = .ok (.d (.int x)) S' := by
        refine ⟨(b + 67867967 * (d + 1)) % 2305843009213693561, ?_, ?_⟩
        · have h1 := Int.emod_nonneg (b + 67867967 * (d + 1)) (show (2305843009213693561 : Int) ≠ 0 by decide)
          have h2 := Int.emod_lt_of_pos (b + 67867967 * (d + 1)) (show (0 : Int) < 2305843009213693561 by decide)
          omega
        · have k1 := b_mul (i := 67867967) (j := d + 1) (mulL (by decide))
          have q1 := b_mod (i := b + 67867967 * (d + 1)) (j := 2305843009213693561) (by decide)
          have k0 : binD .add (.int b) (.int (67867967 * (d + 1))) = some (.int (b + 67867967 * (d + 1))) := rfl
          simp [ev, evs, R.bind, rdV, hS', ixD, plc, R.opt, k1, k0, rdVs, biD, q1]
      rw [x_nx (x_asg e3)]
      obtain ⟨y, e4⟩ : ∃ y : Int, ev P (call P fns k) (.bin .add (.bin .mul (.bin .mod (.bi .int (.cons (.bin .add (.bin .mul (.var 3) (.var 3)) (.bin .mul (.int 101) (.ix (.var 0) (.int 2)))) .nil)) (.int 2305843009213693907)) (.int 7368847)) (.var 3)) [some (.loc n), some (.d (.int t)), none, some (.d (.int x)), none] S' = .ok (.d (.int y)) S' := by
        refine ⟨(x * x + 101 * (d + 1)) % 2305843009213693907 * 7368847 + x, ?_⟩
        have k1 := b_mul (i := 101) (j := d + 1) (mulL (by decide))
        have k2 := b_mul (i := x) (j := x) (mulL hx)
        have k0 : binD .add (.int (x * x)) (.int (101 * (d + 1))) = some (.int (x * x + 101 * (d + 1))) := rfl
        have q1 := b_mod (i := x * x + 101 * (d + 1)) (j := 2305843009213693907) (by decide)
        have k4 := b_mul (i := (x * x + 101 * (d + 1)) % 2305843009213693907) (j := 7368847) (mulR (by decide))
        have k5 : binD .add (.int ((x * x + 101 * (d + 1)) % 2305843009213693907 * 7368847)) (.int x) = some (.int ((x * x + 101 * (d + 1)) % 2305843009213693907 * 7368847 + x)) := rfl
        simp [ev, evs, R.bind, D.wk, rdV, hS', ixD, plc, R.opt, k1, k2, k0, rdVs, biD, q1, k4, k5]
      show ∃ v, exec P (call P fns k) _ [some (.loc n), some (.d (.int t)), none, some (.d (.int x)), none] S' = _
      rw [x_nx (x_asg e4)]
      refine ⟨y / 65536, x_ret (x_retv ?_)⟩
      have q3 := b_div (i := y) (j := 65536) (by decide) (by decide)
      simp [ev, evs, R.bind, D.wk, R.opt, q3, rdVs, rdV, biD, md]
    obtain ⟨v, e⟩ := e
    refine ⟨v % t, S.set n (.lst [.int a, .int b, .int (d + 1)]), ?_, Int.emod_nonneg _ (by omega), Int.emod_lt_of_pos _ h0, ⟨a, b, d + 1, by simp [hn]⟩, by simp, fun j hj => by simp [Ne.symm hj]⟩
    rw [e]
    simp only [fin]
    rw [List.take_of_length_le (by simp)]

theorem v_ro {i : Nat} {xs : List D} (h : r[i]? = some (some (.d (.ro xs)))) : ev P cal (.var i) r S = .ok (.d (.ro xs)) S := v_var h
theorem dice {f : Nat} {ns : List Int} {i : Int} (hf : fns[f]? = some ⟨2, 4, b_dice, .all⟩) (h0 : 0 ≤ i) : ∃ a b, call P fns (k + 1) f [.d (.ro (ns.map .int)), .d (.int i)] S = .ok (.loc S.length) (S ++ [.lst [.int a, .int b, .int 0]]) := by
  rw [call_all hf rfl rfl]
  show ∃ a b, fin S.length (exec P (call P fns k) b_dice [some (.d (.ro (ns.map .int))), some (.d (.int i)), none, none] S) = _
  unfold b_dice
  have N : ∀ {y z : Option Vl}, ev P (call P fns k) (.var 0) [some (.d (.ro (ns.map .int))), some (.d (.int i)), y, z] S = .ok (.d (.ro (ns.map .int))) S := v_ro rfl
  have I : ∀ {y z : Option Vl}, ev P (call P fns k) (.var 1) [some (.d (.ro (ns.map .int))), some (.d (.int i)), y, z] S = .ok (.d (.int i)) S := v_vi rfl
  have hl : biD .len [.ro (ns.map .int)] = some (.int ns.length) := by simp [biD]
  obtain ⟨s, hs⟩ : ∃ s : Int, ev P (call P fns k) (.ite (.cmp .lt (.var 1) (.bi .len (.cons (.var 0) .nil))) (.bi .int (.cons (.ix (.var 0) (.var 1)) .nil)) (.bin .add (.bin .mul (.int 71) (.var 1)) (.int 31))) [some (.d (.ro (ns.map .int))), some (.d (.int i)), none, none] S = .ok (.d (.int s)) S := by
    have C := v_lt (I (y := none) (z := none)) (v_bi1 N hl)
    by_cases q : i < (ns.length : Int)
    · rw [decide_eq_true q] at C
      have hn : i.toNat < ns.length := by omega
      refine ⟨ns[i.toNat], ?_⟩
      have hx : ixD (.ro (ns.map .int)) (.int i) = some (.int ns[i.toNat]) := by
        simp [ixD, plc, h0, q, hn]
      have X : ev P (call P fns k) (.ix (.var 0) (.var 1)) [some (.d (.ro (ns.map .int))), some (.d (.int i)), none, none] S = .ok (.d (.int ns[i.toNat])) S := by
        rw [ev, N]; simp only [R.bind]; rw [I]; simp only [rdV, hx, Option.map_some, R.opt]
      have Y := v_bi1 (f := .int) X (y := .int ns[i.toNat]) rfl
      rw [ev, C]
      simp only [R.bind, Y]
    · rw [decide_eq_false q] at C
      refine ⟨71 * i + 31, ?_⟩
      have Y := v_b (o := .add) (v_b (o := .mul) (v_int (i := 71)) (I (y := none) (z := none)) (b_mul (mulL (by decide)))) (v_int (i := 31)) rfl
      rw [ev, C]
      simp only [R.bind, Y]
  rw [x_nx (x_asg hs)]
  show ∃ a b, fin S.length (exec P (call P fns k) _ [some (.d (.ro (ns.map .int))), some (.d (.int i)), some (.d (.int s)), none] S) = _
  have W : ∀ {z : Option Vl}, ev P (call P fns k) (.var 2) [some (.d (.ro (ns.map .int))), some (.d (.int i)), some (.d (.int s)), z] S = .ok (.d (.int s)) S := v_vi rfl
  have Ab := v_bi1 (f := .abs) (W (z := none)) rfl
  have Ab2 := fun m : Int => v_bi1 (f := .abs) (W (z := some (.d (.int m)))) rfl
  have M := v_b (o := .mod) (v_bi2 (f := .max2) (v_int (i := 0)) (v_b (o := .sub) Ab (v_b (o := .pow) (v_int (i := 10)) (v_int (i := 16)) p16) rfl) rfl) (v_b (o := .mul) (v_b (o := .pow) (v_int (i := 10)) (v_int (i := 60)) p60) (v_b (o := .pow) (v_int (i := 10)) (v_int (i := 60)) p60) (b_mul t60_mul)) (b_mod t60_pos)
  obtain ⟨m, M⟩ := hide M
  rw [x_nx (x_asg M)]
  show ∃ a b, fin S.length (exec P (call P fns k) _ [some (.d (.ro (ns.map .int))), some (.d (.int i)), some (.d (.int s)), some (.d (.int m))] S) = _
  have V3 : ev P (call P fns k) (.var 3) [some (.d (.ro (ns.map .int))), some (.d (.int i)), some (.d (.int s)), some (.d (.int m))] S = .ok (.d (.int m)) S := v_vi rfl
  have Lt := v_bi1 (f := .int) (v_lt (W (z := some (.d (.int m)))) (v_int (i := 0))) rfl
  have Q := v_b (o := .add) (v_b (o := .add) (v_b (o := .add) (v_b (o := .mul) (v_b (o := .mod) (Ab2 m) (v_int (i := 1152921504606846697)) (b_mod (by decide))) (v_int (i := 59)) (b_mul (mulR (by decide)))) (v_b (o := .mul) (v_int (i := 821)) I (b_mul (mulL (by decide)))) rfl) (v_b (o := .mul) (v_int (i := 37)) Lt (b_mul (mulL (by decide)))) rfl) (v_int (i := 5)) rfl
  obtain ⟨q, Q⟩ := hide Q
  refine ⟨m, q, ?_⟩
  have E := v_cons V3 (v_cons Q (v_one (v_int (i := 0))))
  have F : ∀ {es : Ex} {x y : Int} {r : Ev}, evs P (call P fns k) es r S = .ok [.d (.int x), .d (.int y), .d (.int 0)] S → ev P (call P fns k) (.newl es) r S = .ok (.loc S.length) (S ++ [.lst [.int x, .int y, .int 0]]) := fun h => by
    rw [ev, h]; simp [R.bind, dsOf, big]
  rw [x_ret (x_retv (F E))]
  rfl

theorem pick {f g n : Nat} {xs : List D} (hf : fns[f]? = some ⟨2, 5, b_roll, .all⟩) (hg : fns[g]? = some ⟨2, 2, b_pick f, .all⟩) (h0 : 0 < xs.length) (h1 : xs.length < 1000) (hd : Dice n S) : ∃ v S', call P fns (k + 2) g [.loc n, .d (.lst xs)] S = .ok (.d v) S' ∧ v ∈ xs ∧ Near n S S' := by
  obtain ⟨v, S', e1, h2, h3, h4⟩ := roll (k := k) (P := P) hf (t := (xs.length : Int)) (by omega) (by omega) hd
  rw [call_all hg rfl rfl]
  show ∃ v S', fin S.length (exec P (call P fns (k + 1)) (b_pick f) [some (.loc n), some (.d (.lst xs))] S) = .ok (.d v) S' ∧ _
  have hv : v.toNat < xs.length := by omega
  have e2 : evs P (call P fns (k + 1)) (.cons (.var 0) (.cons (.bi .len (.cons (.var 1) .nil)) .nil)) [some (.loc n), some (.d (.lst xs))] S = .ok [.loc n, .d (.int xs.length)] S := by
    simp [evs, ev, R.bind, D.wk, rdVs, rdV, biD, R.opt]
  refine ⟨xs[v.toNat], S', ?_, List.getElem_mem hv, h4⟩
  have hx : ixD (.lst xs) (.int v) = some xs[v.toNat] := by
    have : v < (xs.length : Int) := h3
    simp [ixD, plc, h2, this, hv]
  have e3 : exec P (call P fns (k + 1)) (b_pick f) [some (.loc n), some (.d (.lst xs))] S = .ret (.d xs[v.toNat]) S' := by
    unfold b_pick
    refine x_ret (x_retv ?_)
    rw [ev, v_var rfl]
    simp only [R.bind, D.wk]
    rw [v_call e2 e1]
    simp only [rdV, hx, Option.map_some, R.opt]
  rw [e3]
  exact fin_len h4.2.1
theorem e_rng {P : Prg} {cal : Cal} {a : Ex} {r : Ev} {S1 : Hs} {j : Int} (h : ev P cal a r S = .ok (.d (.int j)) S1) (h0 : 0 ≤ j) (hn : j ≤ 1000000) : evi P cal (.rng a) r S = .ok (upTo j.toNat 0) S1 := by
  rw [evi, h]
  simp only [R.bind]
  rw [if_pos ⟨by omega, by omega⟩]
theorem e_rng2 {P : Prg} {cal : Cal} {a b : Ex} {r : Ev} {S1 S2 : Hs} {i j : Int} (h : ev P cal a r S = .ok (.d (.int i)) S1) (h2 : ev P cal b r S1 = .ok (.d (.int j)) S2) (h0 : 0 ≤ i) (h1 : 0 ≤ j) (hi : i ≤ 1000000) (hn : j ≤ 1000000) : evi P cal (.rng2 a b) r S = .ok (upTo (j - i).toNat i) S2 := by
  rw [evi, h]
  simp only [R.bind, h2]
  rw [if_pos ⟨by omega, by omega, by omega, by omega⟩]
theorem dsOf_map : ∀ vs : List D, dsOf (vs.map .d) = some vs
  | [] => rfl
  | v :: vs => by simp [dsOf, dsOf_map vs]
section
variable {S1 S2 : Hs} {a b : Ex}
theorem v_addS {i j : Int} (ha : ev P cal a r S = .ok (.d (.int i)) S1) (hb : ev P cal b r S1 = .ok (.d (.int j)) S2) : ev P cal (.bin .add a b) r S = .ok (.d (.int (i + j))) S2 := by
  simp only [ev, ha, hb, R.bind, binD, Option.map_some, R.opt]
theorem v_addsS {x y : Cs} (ha : ev P cal a r S = .ok (.d (.str x)) S1) (hb : ev P cal b r S1 = .ok (.d (.str y)) S2) (h : x.length + y.length ≤ big) : ev P cal (.bin .add a b) r S = .ok (.d (.str (x ++ y))) S2 := by
  simp only [ev, ha, hb, R.bind, binD, if_pos h, Option.map_some, R.opt]
theorem v_str {s : Cs} : ev P cal (.str s) r S = .ok (.d (.str s)) S := by simp only [ev]
theorem v_lstS {es : Ex} {vs : List D} (h : evs P cal es r S = .ok (vs.map .d) S1) (hl : vs.length ≤ 1000000) : ev P cal (.lst es) r S = .ok (.d (.lst vs)) S1 := by
  simp only [ev, h, R.bind, dsOf_map]
  rw [if_pos (by rw [List.length_map]; exact hl)]
theorem x_par2 {i j : Nat} {v w : Vl} (ha : ev P cal a r S = .ok v S1) (hb : ev P cal b r S1 = .ok w S2) : exec P cal (.par2 i j a b) r S = .nx ((r.set i (some v)).set j (some w)) S2 := by
  simp only [exec, ha, hb, R.st]
theorem v_chain {o o' : COp} {d : Ex} {x y z : D} {q : Bool} (ha : ev P cal a r S = .ok (.d x) S) (hb : ev P cal b r S = .ok (.d y) S) (hd : ev P cal d r S = .ok (.d z) S) (h1 : cmpD o x y = some true) (h2 : cmpD o' y z = some q) : ev P cal (.chain o o' a b d) r S = .ok (.d (.bl q)) S := by
  simp only [ev, ha, hb, hd, R.bind, h1, h2, Option.map_some, R.opt]
theorem j_cons {e es : Ex} {acc s t : Cs} (h : ev P cal e r S = .ok (.d (.str s)) S) (hl : (acc ++ s).length ≤ big) (h2 : evj P cal es (acc ++ s) r S = .ok t S) : evj P cal (.cons e es) acc r S = .ok t S := by
  simp only [evj, h, R.bind, if_pos hl, h2]
theorem j_nil {acc : Cs} : evj P cal .nil acc r S = .ok acc S := by simp only [evj]
theorem v_fjoin {es : Ex} {t : Cs} (h : evj P cal es [] r S = .ok t S) : ev P cal (.fjoin es) r S = .ok (.d (.str t)) S := by simp only [ev, h, R.bind]
theorem v_iteS {d : Ex} {q : Bool} {v : R Vl} (hd : ev P cal d r S = .ok (.d (.bl q)) S1) (h : ev P cal (if q then a else b) r S1 = v) : ev P cal (.ite d a b) r S = v := by
  cases q <;> simp only [ev, hd, R.bind] <;> exact h
end
end Pw
end
section
set_option maxRecDepth 100000
set_option maxHeartbeats 1000000
set_option exponentiation.threshold 2000
/-! U0: how many nodes any value has. -/
namespace K30
open Iv Pw
abbrev c (k : Nat) : Cal := call P0 fns0 k
variable {k : Nat} {S : Hs}
theorem ca {f : Nat} {fn : Fn} {vs : List Vl} (h : fns0[f]? = some fn) (had : fn.ad = .all) (hl : vs.length = fn.np) : c (k + 1) f vs S = fin S.length (exec P0 (c k) fn.body (vs.map some ++ List.replicate (fn.ns - fn.np) none) S) := call_all h had hl
theorem plain_wk {x : D} {n : Nat} (h : x.plain n = true) : x.wk = x := by
  cases x <;> first | rfl | cases h
theorem plain_mem : ∀ {xs : List D} {n : Nat}, D.plains xs n = true → ∀ x ∈ xs, x.plain n = true
  | x :: xs, n, h, y, hy => by
    have h := Bool.and_eq_true_iff.mp (show (D.plain x n && D.plains xs n) = true from h)
    rcases List.mem_cons.mp hy with rfl | hy
    · exact h.1
    · exact plain_mem h.2 y hy
theorem plain_tup {xs : List D} {n : Nat} (h : (D.tup xs).plain n = true) : ∃ m, n = m + 1 ∧ D.plains xs m = true := by
  cases n with
  | zero => cases h
  | succ m => exact ⟨m, rfl, h⟩
theorem isi_plain {x : D} {n : Nat} (t : Ty) (h : x.plain n = true) : isiD t x = some (.bl (isTy t x)) := by
  cases x <;> first | rfl | cases h
theorem v_isi {cal : Cal} {r : Ev} {i n : Nat} {t : Ty} {x : D} (hr : r[i]? = some (some (.d x))) (h : x.plain n = true) : ev P0 cal (.isi (.var i) t) r S = .ok (.d (.bl (isTy t x))) S := by
  rw [ev, v_var hr]
  simp only [R.bind, plain_wk h, isi_plain t h, Option.map_some, R.opt]
def E60 : Int := 1000000000000000000000000000000000000000000000000000000000000
def isInt : D → Bool
  | .int j => decide (-E60 < j) && decide (j < E60)
  | _ => false
def isFr : D → Int → Int → Bool
  | .int j, a, b => decide (-E60 < j) && decide (j < E60) && (decide (a ≤ j) && decide (j ≤ b))
  | _, _, _ => false
theorem v_chainB {cal : Cal} {r : Ev} {o o' : COp} {a b d : Ex} {x y z : D} {p q : Bool} (ha : ev P0 cal a r S = .ok (.d x) S) (hb : ev P0 cal b r S = .ok (.d y) S) (hd : ev P0 cal d r S = .ok (.d z) S) (h1 : cmpD o x y = some p) (h2 : cmpD o' y z = some q) : ev P0 cal (.chain o o' a b d) r S = .ok (.d (.bl (p && q))) S := by
  rw [ev, ha]
  simp only [R.bind]
  rw [hb]
  simp only [h1]
  cases p with
  | true =>
    dsimp only
    rw [hd]
    simp only [h2, Option.map_some, R.opt, Bool.true_and]
  | false => rfl
theorem is_integer {x : D} {n : Nat} (h : x.plain n = true) : c (k + 1) 7 [.d x] S = .ok (.d (.bl (isInt x))) S := by
  rw [ca (fn := ⟨1, 1, b_is_integer, .all⟩) rfl rfl rfl, ← fin_ret]
  congr 1
  show exec P0 (c k) b_is_integer [some (.d x)] S = _
  unfold b_is_integer
  have e1 := v_isi (cal := c k) (S := S) (r := [some (.d x)]) (i := 0) (t := .int) rfl h
  have e2 := v_isi (cal := c k) (S := S) (r := [some (.d x)]) (i := 0) (t := .bool) rfl h
  refine x_ret (x_retv ?_)
  cases x with
  | int j =>
    have V : ev P0 (c k) (.var 0) [some (.d (.int j))] S = .ok (.d (.int j)) S := v_vi rfl
    have e4 : ev P0 (c k) (.glob 7) [some (.d (.int j))] S = .ok (.d (.int E60)) S := rfl
    have e3 : ev P0 (c k) (.neg (.glob 7)) [some (.d (.int j))] S = .ok (.d (.int (-E60))) S := by rw [ev, e4]; rfl
    have e5 := v_chainB (o := .lt) (o' := .lt) e3 V e4 rfl rfl
    have e6 := v_and e1 fun _ => v_and (v_not e2) fun _ => v_1 e5
    exact e6
  | bl b => exact v_and (q := false) e1 fun _ => v_and (q := false) (v_not e2) (fun z => by cases z)
  | _ => exact v_and (q := false) e1 (fun z => by cases z)
theorem is_from {x : D} {n : Nat} {a b : Int} (h : x.plain n = true) : c (k + 2) 8 [.d x, .d (.int a), .d (.int b)] S = .ok (.d (.bl (isFr x a b))) S := by
  rw [ca (fn := ⟨3, 3, b_is_from, .all⟩) rfl rfl rfl, ← fin_ret]
  congr 1
  show exec P0 (c (k + 1)) b_is_from [some (.d x), some (.d (.int a)), some (.d (.int b))] S = _
  unfold b_is_from
  refine x_ret (x_retv ?_)
  have V : ev P0 (c (k + 1)) (.var 0) [some (.d x), some (.d (.int a)), some (.d (.int b))] S = .ok (.d x) S := by
    rw [v_var (i := 0) (x := x) rfl, plain_wk h]
  have e1 := v_call (v_one V) (is_integer (k := k) (S := S) h)
  cases x with
  | int j =>
    have e5 := v_chainB (o := .le) (o' := .le) (v_vi (P := P0) (cal := c (k + 1)) (i := 1) (x := a) (S := S) (r := [some (.d (.int j)), some (.d (.int a)), some (.d (.int b))]) rfl) V (v_vi (i := 2) (x := b) rfl) rfl rfl
    have e6 := v_and e1 fun _ => v_1 e5
    exact e6
  | _ => exact v_and (q := false) e1 (fun z => by cases z)
def jobn (x : D) : Bool := isFr x 1 1000000
theorem is_job {x : D} {n : Nat} (h : x.plain n = true) : c (k + 3) 9 [.d x] S = .ok (.d (.bl (jobn x))) S := by
  rw [ca (fn := ⟨1, 1, b_is_job_number, .all⟩) rfl rfl rfl, ← fin_ret]
  congr 1
  show exec P0 (c (k + 2)) b_is_job_number [some (.d x)] S = _
  unfold b_is_job_number
  refine x_ret (x_retv ?_)
  have V : ev P0 (c (k + 2)) (.var 0) [some (.d x)] S = .ok (.d x) S := by
    rw [v_var (i := 0) (x := x) rfl, plain_wk h]
  exact v_call (v_cons V (v_cons (v_int (i := 1)) (v_one (show ev P0 (c (k + 2)) (.glob 8) [some (.d x)] S = .ok (.d (.int 1000000)) S from rfl)))) (is_from h)
/-! ### after_nodes -/
def W6D : List D := [.str [98, 101, 103, 117, 110], .str [111, 118, 101, 114], .str [119, 101, 108, 108], .str [105, 108, 108], .str [108, 97, 116, 101], .str [108, 101, 102, 116]]
def BOD : List D := [.str [97, 110, 100], .str [111, 114]]
def cnd (x : D) (d : Int) : Bool := decide (8 < d) || (match x with
  | .tup [a, _] => !isTy .str a
  | _ => true)
def ndY (f : D → Int) : D → Int
  | .tup ps => if 2 ≤ ps.length ∧ ps.length ≤ 20 then 1 + (ps.map f).sum else 61
  | _ => 61
def nd : Nat → D → Int → Int
  | 0, _, _ => 61
  | m + 1, x, d => if cnd x d then 61 else match x with
    | .tup [.str w, y] => if D.mem (.str w) W6D then (if jobn y then 1 else 61) else if !D.mem (.str w) BOD then 61 else ndY (fun p => nd m p (d + 1)) y
    | _ => 61
def rN (x : D) (d : Int) (a b : Option Vl) : Ev := [some (.d x), some (.d (.int d)), some (.d (.int 61)), a, b, none]
theorem v_gti {cal : Cal} {r : Ev} {a b : Ex} {i j : Int} (ha : ev P0 cal a r S = .ok (.d (.int i)) S) (hb : ev P0 cal b r S = .ok (.d (.int j)) S) : ev P0 cal (.cmp .gt a b) r S = .ok (.d (.bl (decide (j < i)))) S := by
  simp only [ev, ha, hb, R.bind, rdV, cmpD, Option.map_some, R.opt]
def cE : Ex := (.or (.cmp .gt (.var 1) (.glob 10)) (.or (.not (.isi (.var 0) .tup)) (.or (.cmp .ne (.bi .len (.cons (.var 0) .nil)) (.int 2)) (.one (.not (.isi (.ix (.var 0) (.int 0)) .str))))))
theorem cond {cal : Cal} {x : D} {d : Int} {n : Nat} (h : x.plain n = true) : ev P0 cal cE (rN x d none none) S = .ok (.d (.bl (cnd x d))) S := by
  have e1 := v_gti (v_vi (P := P0) (cal := cal) (r := rN x d none none) (S := S) (i := 1) (x := d) rfl) (show ev P0 cal (.glob 10) (rN x d none none) S = .ok (.d (.int 8)) S from rfl)
  have e2 := v_not (v_isi (cal := cal) (S := S) (r := rN x d none none) (i := 0) (t := .tup) rfl h)
  unfold cE cnd
  refine v_or e1 fun _ => ?_
  cases x with
  | tup ys =>
    have V : ev P0 cal (.var 0) (rN (.tup ys) d none none) S = .ok (.d (.tup ys)) S := v_var (x := .tup ys) rfl
    refine v_or (p := false) e2 fun _ => ?_
    have e3 := v_bi1 (f := .len) V (y := .int ys.length) rfl
    have ne : ∀ b, ((D.int ys.length).eqv (.int 2)) = !b → ev P0 cal (.cmp .ne (.bi .len (.cons (.var 0) .nil)) (.int 2)) (rN (.tup ys) d none none) S = .ok (.d (.bl b)) S := fun b hb => by
      rw [ev, e3]
      simp only [R.bind, v_int, rdV, cmpD, D.plain, Bool.and_self, if_true, hb, Bool.not_not, Option.map_some, R.opt]
    match ys, V, ne, h with
    | [], V, ne, h => exact v_or (q := false) (ne true rfl) (fun z => by cases z)
    | [a], V, ne, h => exact v_or (q := false) (ne true rfl) (fun z => by cases z)
    | [a, b], V, ne, h =>
      obtain ⟨m, rfl, hm⟩ := plain_tup h
      refine v_or (p := false) (ne false rfl) fun _ => v_1 ?_
      refine v_not ?_
      have e5 : ev P0 cal (.ix (.var 0) (.int 0)) (rN (.tup [a, b]) d none none) S = .ok (.d a) S := rfl
      rw [ev, e5]
      simp only [R.bind, isi_plain .str (plain_mem hm a (by simp)), Option.map_some, R.opt]
    | a :: b :: e :: l, V, ne, h => exact v_or (q := false) (ne true (by simp only [D.eqv, List.length_cons]; exact beq_false_of_ne (by omega))) (fun z => by cases z)
  | _ => exact v_or (p := true) (q := false) e2 (fun z => by cases z)
theorem sumD_map : ∀ (l : List Int) (acc : Int), sumD (l.map .int) acc = some (acc + l.sum)
  | [], acc => by simp [sumD]
  | x :: l, acc => by
    simp only [List.map_cons, sumD, sumD_map l, List.sum_cons]
    congr 1; omega
def nT : St := (.seq (.ite (.cmp .isin (.var 3) (.glob 6)) (.seq (.ret (.ite (.call 9 (.cons (.var 4) .nil)) (.int 1) (.var 2))) .skip) .skip) (.seq (.ite (.or (.cmp .notin (.var 3) (.tup (.cons (.glob 13) (.cons (.glob 12) .nil)))) (.or (.not (.isi (.var 4) .tup)) (.one (.not (.chain .le .le (.int 2) (.bi .len (.cons (.var 4) .nil)) (.glob 11)))))) (.seq (.ret (.var 2)) .skip) .skip) (.seq (.ret (.bin .add (.int 1) (.bi .sum (.cons (.comp [5] (.nm 5) (.one (.var 4)) (.bl true) (.call 10 (.cons (.var 5) (.cons (.bin .add (.var 1) (.int 1)) .nil)))) .nil)))) .skip)))
theorem nodes_eq : b_after_nodes = (.seq (.asg 2 (.bin .add (.glob 9) (.int 1))) (.seq (.ite cE (.seq (.ret (.var 2)) .skip) .skip) (.seq (.asgT (.tp (.cons (.nm 3) (.cons (.nm 4) .nil))) (.var 0)) nT))) := rfl
theorem nodes : ∀ (m : Nat) {k : Nat} {x : D} {d : Int} {n : Nat} {S : Hs}, 9 ≤ d + m → x.plain n = true → c (k + m + 4) 10 [.d x, .d (.int d)] S = .ok (.d (.int (nd m x d))) S := by
  intro m
  induction m with
  | zero =>
    intro k x d n S hd h
    rw [ca (fn := ⟨2, 6, b_after_nodes, .all⟩) rfl rfl rfl, ← fin_ret]
    congr 1
    show exec P0 (c (k + 3)) b_after_nodes [some (.d x), some (.d (.int d)), none, none, none, none] S = _
    rw [nodes_eq]
    have a0 : exec P0 (c (k + 3)) (.asg 2 (.bin .add (.glob 9) (.int 1))) [some (.d x), some (.d (.int d)), none, none, none, none] S = .nx (rN x d none none) S := rfl
    rw [x_nx a0]
    have ec := cond (cal := c (k + 3)) (S := S) (d := d) h
    have hc : cnd x d = true := by unfold cnd; rw [decide_eq_true (by omega), Bool.true_or]
    rw [hc] at ec
    rw [x_ret (v := .d (.int 61)) (S1 := S) (by rw [x_if ec, if_pos rfl]; rfl)]
    rfl
  | succ m ih =>
    intro k x d n S hd h
    rw [show k + (m + 1) + 4 = (k + m + 4) + 1 by omega, ca (fn := ⟨2, 6, b_after_nodes, .all⟩) rfl rfl rfl, ← fin_ret]
    congr 1
    show exec P0 (c (k + m + 4)) b_after_nodes [some (.d x), some (.d (.int d)), none, none, none, none] S = _
    rw [nodes_eq]
    have a0 : exec P0 (c (k + m + 4)) (.asg 2 (.bin .add (.glob 9) (.int 1))) [some (.d x), some (.d (.int d)), none, none, none, none] S = .nx (rN x d none none) S := rfl
    rw [x_nx a0]
    have ec := cond (cal := c (k + m + 4)) (S := S) (d := d) h
    cases hc : cnd x d with
    | true =>
      rw [hc] at ec
      rw [x_ret (v := .d (.int 61)) (S1 := S) (by rw [x_if ec, if_pos rfl]; rfl)]
      simp only [nd, hc, if_true]
    | false =>
      rw [hc] at ec
      rw [x_nx (r1 := rN x d none none) (S1 := S) (by rw [x_if ec, if_neg (by decide)]; rfl)]
      have hx : ∃ w y, x = .tup [.str w, y] := by
        unfold cnd at hc
        have hc2 := (Bool.or_eq_false_iff.mp hc).2
        clear hc
        split at hc2
        · rename_i a b
          cases a <;> first | exact ⟨_, _, rfl⟩ | (simp [isTy] at hc2)
        · cases hc2
      obtain ⟨w, y, rfl⟩ := hx
      obtain ⟨n1, rfl, hp⟩ := plain_tup h
      have hy : y.plain n1 = true := plain_mem hp y (by simp)
      have a1 : exec P0 (c (k + m + 4)) (.asgT (.tp (.cons (.nm 3) (.cons (.nm 4) .nil))) (.var 0)) (rN (.tup [.str w, y]) d none none) S = .nx (rN (.tup [.str w, y]) d (some (.d (.str w))) (some (.d y))) S := rfl
      rw [x_nx a1]
      generalize hr : rN (.tup [.str w, y]) d (some (.d (.str w))) (some (.d y)) = r
      have r4 : r[4]? = some (some (.d y)) := by rw [← hr]; rfl
      have V4 : ev P0 (c (k + m + 4)) (.var 4) r S = .ok (.d y) S := by rw [v_var r4, plain_wk hy]
      have V2 : ev P0 (c (k + m + 4)) (.var 2) r S = .ok (.d (.int 61)) S := by rw [← hr]; rfl
      unfold nT
      have e1 : ev P0 (c (k + m + 4)) (.cmp .isin (.var 3) (.glob 6)) r S = .ok (.d (.bl (D.mem (.str w) W6D))) S := by rw [← hr]; rfl
      have nd1 : nd (m + 1) (.tup [.str w, y]) d = if D.mem (.str w) W6D then (if jobn y then 1 else 61) else if !D.mem (.str w) BOD then 61 else ndY (fun p => nd m p (d + 1)) y := by
        simp only [nd, hc, Bool.false_eq_true, if_false]
      rw [nd1]
      cases hw : D.mem (.str w) W6D with
      | true =>
        rw [hw] at e1
        rw [if_pos rfl]
        have e2 := v_call (v_one V4) (is_job (k := k + m + 1) (S := S) hy)
        refine x_ret ?_
        rw [x_if e1, if_pos rfl]
        refine x_ret (x_retv (v_iteS e2 ?_))
        cases hj : jobn y with
        | true => rw [if_pos rfl, if_pos rfl]; exact v_int
        | false => rw [if_neg (by decide), if_neg (by decide)]; exact V2
      | false =>
        rw [hw] at e1
        rw [if_neg (by decide), x_nx (r1 := r) (S1 := S) (by rw [x_if e1, if_neg (by decide)]; rfl)]
        have e2 : ev P0 (c (k + m + 4)) (.cmp .notin (.var 3) (.tup (.cons (.glob 13) (.cons (.glob 12) .nil)))) r S = .ok (.d (.bl (!D.mem (.str w) BOD))) S := by rw [← hr]; rfl
        have e3 := v_not (v_isi (cal := c (k + m + 4)) (S := S) (r := r) (i := 4) (t := .tup) r4 hy)
        cases hb : D.mem (.str w) BOD with
        | false =>
          rw [hb] at e2
          rw [Bool.not_false, if_pos rfl]
          refine x_ret ?_
          rw [x_if (v_or (p := true) (q := false) e2 (fun z => by cases z)), Bool.true_or, if_pos rfl]
          exact x_ret (x_retv V2)
        | true =>
          rw [hb] at e2
          rw [Bool.not_true, if_neg (by decide)]
          cases y with
          | tup ps =>
            have e4 := v_bi1 (f := .len) V4 (y := .int ps.length) rfl
            have e5 := v_not (v_chainB (o := .le) (o' := .le) (v_int (i := 2)) e4 (show ev P0 (c (k + m + 4)) (.glob 11) r S = .ok (.d (.int 20)) S from rfl) rfl rfl)
            have e6 := v_or (p := false) e2 fun _ => v_or (p := false) e3 fun _ => v_1 e5
            rw [Bool.false_or, Bool.false_or] at e6
            simp only [ndY]
            by_cases hl : 2 ≤ ps.length ∧ ps.length ≤ 20
            · rw [if_pos hl]
              rw [decide_eq_true (by omega), decide_eq_true (by omega), Bool.and_self, Bool.not_true] at e6
              rw [x_nx (r1 := r) (S1 := S) (by rw [x_if e6, if_neg (by decide)]; rfl)]
              refine x_ret (x_retv ?_)
              obtain ⟨n2, rfl, hq⟩ := plain_tup hy
              have eit : evi P0 (c (k + m + 4)) (.one (.var 4)) r S = .ok ps S := by rw [evi, V4]; rfl
              have ecp := e_comp (cal := c (k + m + 4)) (own := [5]) (t := .nm 5) (c := .bl true) (e := .call 10 (.cons (.var 5) (.cons (.bin .add (.var 1) (.int 1)) .nil))) (fun _ => true) (fun p => .int (nd m p (d + 1))) eit (by omega) (fun p hp' => by
                have hpp := plain_mem hq p hp'
                refine ⟨rN (.tup [.str w, .tup ps]) d (some (.d (.str w))) (some (.d (.tup ps))) |>.set 5 (some (.d p)), by rw [← hr]; rfl, by simp only [ev], fun _ => ?_⟩
                have v5 : ev P0 (c (k + m + 4)) (.var 5) (rN (.tup [.str w, .tup ps]) d (some (.d (.str w))) (some (.d (.tup ps))) |>.set 5 (some (.d p))) S = .ok (.d p) S := by
                  rw [v_var (i := 5) (x := p) rfl, plain_wk hpp]
                have v1 : ev P0 (c (k + m + 4)) (.bin .add (.var 1) (.int 1)) (rN (.tup [.str w, .tup ps]) d (some (.d (.str w))) (some (.d (.tup ps))) |>.set 5 (some (.d p))) S = .ok (.d (.int (d + 1))) S := v_addi (v_vi (i := 1) (x := d) rfl) v_int
                exact v_call (v_cons v5 (v_one v1)) (ih (by omega) hpp))
              rw [List.filter_eq_self.mpr (fun _ _ => rfl)] at ecp
              have hs : biD .sum [.lst (ps.map fun p => .int (nd m p (d + 1)))] = some (.int ((ps.map fun p => nd m p (d + 1)).sum)) := by
                have := sumD_map (ps.map fun p => nd m p (d + 1)) 0
                rw [List.map_map] at this
                simp only [biD]
                rw [show (ps.map fun p => D.int (nd m p (d + 1))) = ps.map (D.int ∘ fun p => nd m p (d + 1)) from rfl, this]
                simp
              exact v_addi v_int (v_bi1 ecp hs)
            · rw [if_neg hl]
              have hf : (!(decide ((2 : Int) ≤ ps.length) && decide ((ps.length : Int) ≤ 20))) = true := by
                rw [Bool.not_eq_true', Bool.and_eq_false_iff]
                simp only [decide_eq_false_iff_not]
                omega
              rw [hf] at e6
              refine x_ret ?_
              rw [x_if e6, if_pos rfl]
              exact x_ret (x_retv V2)
          | _ =>
            refine x_ret ?_
            rw [x_if (v_or (p := false) e2 fun _ => v_or (p := true) (q := false) e3 (fun z => by cases z)), Bool.false_or, Bool.true_or, if_pos rfl]
            exact x_ret (x_retv V2)
end K30
end
section
set_option maxRecDepth 100000
set_option maxHeartbeats 1000000
set_option exponentiation.threshold 2000
/-! U1: the atoms of a formula, its job numbers. -/
namespace K30
open Iv Pw
variable {k : Nat} {S : Hs}
/-! ### sorting -/
def sI (l : List Int) : List Int := l.mergeSort fun a b => !decide (b < a)
theorem sort_ints (l : List Int) : sortD (l.map .int) = (sI l).map .int := by
  unfold sortD sI
  rw [List.map_mergeSort]
  intro a _ b _
  rfl
theorem sI_perm (l : List Int) : (sI l).Perm l := List.mergeSort_perm ..
theorem sI_le (l : List Int) : (sI l).Pairwise (fun a b => a ≤ b) := by
  have := List.pairwise_mergeSort (le := fun a b : Int => !decide (b < a)) (by
    intro a b e h1 h2
    simp only [Bool.not_eq_true', decide_eq_false_iff_not] at h1 h2 ⊢
    omega) (by
    intro a b
    by_cases h : b < a
    · have h2 : ¬ (a < b) := by omega
      rw [decide_eq_false h2]; simp
    · rw [decide_eq_false h]; rfl) l
  exact this.imp fun {a b} h => by
    simp only [Bool.not_eq_true', decide_eq_false_iff_not] at h
    omega
theorem le_one : ∀ {l m : List Int}, l.Perm m → l.Pairwise (fun a b => a ≤ b) → m.Pairwise (fun a b => a ≤ b) → l = m
  | [], m, p, _, _ => by rw [List.nil_perm.mp p]
  | a :: l, [], p, _, _ => by simp at p
  | a :: l, b :: m, p, hl, hm => by
    rw [List.pairwise_cons] at hl hm
    have e : a = b := by
      by_cases q : a = b
      · exact q
      · have h1 : a ∈ b :: m := p.subset List.mem_cons_self
        have h2 : b ∈ a :: l := p.symm.subset List.mem_cons_self
        have h3 := hm.1 a ((List.mem_cons.mp h1).resolve_left q)
        have h4 := hl.1 b ((List.mem_cons.mp h2).resolve_left fun z => q z.symm)
        omega
    subst e
    rw [le_one (List.Perm.cons_inv p) hl.2 hm.2]
theorem sI_same {l m : List Int} (hl : l.Nodup) (hm : m.Nodup) (h : ∀ a, a ∈ l ↔ a ∈ m) : sI l = sI m :=
  le_one (((sI_perm l).trans ((List.perm_ext_iff_of_nodup hl hm).mpr h)).trans (sI_perm m).symm) (sI_le l) (sI_le m)
theorem sI_len (l : List Int) : (sI l).length = l.length := (sI_perm l).length_eq
theorem sI_mem {l : List Int} {a : Int} : a ∈ sI l ↔ a ∈ l := (sI_perm l).mem_iff
theorem sI_nodup {l : List Int} (h : l.Nodup) : (sI l).Nodup := (sI_perm l).nodup_iff.mpr h
theorem sok {l : List Int} (h : l.length ≤ 1000000) : sortOk (l.map .int) = true := by
  unfold sortOk alikeAll
  simp [List.all_map, D.alike, D.plain, notTup, Function.comp_def, h]
/-- few kinds of numbers make few numbers -/
theorem few {l J : List Int} (hl : l.Nodup) (hJ : J.Nodup) (h : ∀ a ∈ l, a ∈ J) : l.length ≤ J.length := by
  have e : l.Perm (J.filter fun a => decide (a ∈ l)) := (List.perm_ext_iff_of_nodup hl (List.Pairwise.filter _ hJ)).mpr fun a => by
    rw [List.mem_filter, decide_eq_true_eq]
    exact ⟨fun z => ⟨h a z, z⟩, fun z => z.2⟩
  rw [e.length_eq]
  exact List.length_filter_le ..
/-! ### a comprehension with two fors -/
theorem flatL_map {f : D → List D → Hs → R (List D)} {S : Hs} {g : D → List D} : ∀ {xs acc : List D}, acc.length + (xs.flatMap g).length ≤ 1000000 → (∀ x ∈ xs, ∀ acc : List D, acc.length + (g x).length ≤ 1000000 → f x acc S = .ok (acc ++ g x) S) → flatL f xs acc S = .ok (acc ++ xs.flatMap g) S
  | [], acc, _, _ => by simp [flatL]
  | x :: xs, acc, hz, h => by
    rw [List.flatMap_cons, List.length_append] at hz
    simp only [flatL, h x List.mem_cons_self acc (by omega)]
    rw [flatL_map (by rw [List.length_append]; omega) fun y hy => h y (List.mem_cons_of_mem _ hy)]
    simp
theorem e_comp2 {P : Prg} {cal : Cal} {own own1 : List Nat} {t t1 : Tg} {it it1 e : Ex} {r : Ev} {S S1 : Hs} {xs : List D} (g : D → List D) (h : evi P cal it r S = .ok xs S1) (hb : xs.length ≤ 1000000) (hz : (xs.flatMap g).length ≤ 1000000)
    (hx : ∀ x ∈ xs, ∃ r1, asgD t x (wipes r own) = some r1 ∧ evi P cal it1 r1 S1 = .ok (g x) S1 ∧ ∀ y ∈ g x, ∃ r2, asgD t1 y (wipes r1 own1) = some r2 ∧ ev P cal e r2 S1 = .ok (.d y) S1) :
    ev P cal (.comp2 own own1 t it t1 it1 e) r S = .ok (.d (.lst (xs.flatMap g))) S1 := by
  simp only [ev, h, R.bind, if_neg (show ¬ big < xs.length from Nat.not_lt.mpr hb)]
  rw [flatL_map (g := g) (by simpa using hz) fun x hm acc ha => ?_]
  · simp
  · obtain ⟨r1, h1, h2, h3⟩ := hx x hm
    simp only [h1, h2, if_neg (show ¬ big < acc.length + (g x).length from Nat.not_lt.mpr ha)]
    rw [compL_map (g := fun y => y) fun y hy => ?_]
    · simp
    · obtain ⟨r2, q1, q2⟩ := h3 y hy
      simp only [q1, q2]
/-! ### atoms -/
def isF : Nat → D → Bool
  | 0, x => match x with
    | .tup [.str w, .int _] => !D.mem (.str w) BOD
    | _ => false
  | m + 1, x => match x with
    | .tup [.str w, .int _] => !D.mem (.str w) BOD
    | .tup [.str w, .tup ps] => (D.mem (.str w) BOD && decide (ps.length ≤ 20)) && ps.all (isF m)
    | _ => false
def ats : Nat → D → List D
  | 0, x => [x]
  | m + 1, x => match x with
    | .tup [.str w, .tup ps] => ps.flatMap (ats m)
    | _ => [x]
theorem atoms_eq : b_atoms_in = (.seq (.ite (.cmp .notin (.ix (.var 0) (.int 0)) (.tup (.cons (.glob 13) (.cons (.glob 12) .nil)))) (.seq (.ret (.lst (.cons (.var 0) .nil))) .skip) .skip) (.seq (.ret (.comp2 [1, 2] [2] (.nm 1) (.one (.ix (.var 0) (.int 1))) (.nm 2) (.one (.call 11 (.cons (.var 1) .nil))) (.var 2))) .skip)) := rfl
theorem isF_tup : ∀ {m : Nat} {x : D}, isF m x = true → x.wk = x
  | 0, x, h => by cases x <;> first | rfl | cases h
  | m + 1, x, h => by cases x <;> first | rfl | cases h
theorem ats_tup : ∀ {m : Nat} {x : D}, isF m x = true → ∀ a ∈ ats m x, ∃ (w : Cs) (j : Int), a = .tup [.str w, .int j] := by
  intro m
  induction m with
  | zero =>
    intro x h a ha
    unfold isF at h
    split at h
    · rw [show ats 0 _ = [_] from rfl, List.mem_singleton] at ha
      exact ⟨_, _, ha⟩
    · cases h
  | succ m ih =>
    intro x h a ha
    unfold isF at h
    split at h
    · rename_i w j
      rw [show ats (m + 1) (.tup [.str w, .int j]) = [.tup [.str w, .int j]] from rfl, List.mem_singleton] at ha
      exact ⟨_, _, ha⟩
    · rename_i w ps
      rw [show ats (m + 1) (.tup [.str w, .tup ps]) = ps.flatMap (ats m) from rfl, List.mem_flatMap] at ha
      obtain ⟨p, hp, hq⟩ := ha
      exact ih (List.all_eq_true.mp (Bool.and_eq_true_iff.mp h).2 p hp) a hq
    · cases h
theorem ats_small {m : Nat} {ps : List D} {p : D} (hp : p ∈ ps) : (ats m p).length ≤ (ps.flatMap (ats m)).length := by
  obtain ⟨s, t, rfl⟩ := List.append_of_mem hp
  rw [List.flatMap_append, List.flatMap_cons, List.length_append, List.length_append]
  omega
theorem atom1 {cal : Cal} {w : Cs} {y : D} {b : Bool} (hb : D.mem (.str w) BOD = b) : ev P0 cal (.cmp .notin (.ix (.var 0) (.int 0)) (.tup (.cons (.glob 13) (.cons (.glob 12) .nil)))) [some (.d (.tup [.str w, y])), none, none] S = .ok (.d (.bl (!b))) S := by
  subst hb; rfl
theorem atoms_in : ∀ (m : Nat) {k : Nat} {x : D} {S : Hs}, isF m x = true → (ats m x).length ≤ 1000 → c (k + m + 1) 11 [.d x] S = .ok (.d (.lst (ats m x))) S := by
  have leaf : ∀ {k : Nat} {w : Cs} {j : Int} {S : Hs}, D.mem (.str w) BOD = false → c (k + 1) 11 [.d (.tup [.str w, .int j])] S = .ok (.d (.lst [.tup [.str w, .int j]])) S := by
    intro k w j S hw
    rw [ca (fn := ⟨1, 3, b_atoms_in, .all⟩) rfl rfl rfl, ← fin_ret]
    congr 1
    show exec P0 (c k) b_atoms_in [some (.d (.tup [.str w, .int j])), none, none] S = _
    rw [atoms_eq]
    refine x_ret ?_
    rw [x_if (atom1 hw), Bool.not_false, if_pos rfl]
    rfl
  intro m
  induction m with
  | zero =>
    intro k x S h hl
    unfold isF at h
    split at h
    · exact leaf (by simpa using h)
    · cases h
  | succ m ih =>
    intro k x S h hl
    unfold isF at h
    split at h
    · exact leaf (by simpa using h)
    · rename_i w ps
      have h := Bool.and_eq_true_iff.mp h
      have hl : (ps.flatMap (ats m)).length ≤ 1000 := hl
      rw [show k + (m + 1) + 1 = (k + m + 1) + 1 by omega, ca (fn := ⟨1, 3, b_atoms_in, .all⟩) rfl rfl rfl, ← fin_ret]
      congr 1
      show exec P0 (c (k + m + 1)) b_atoms_in [some (.d (.tup [.str w, .tup ps])), none, none] S = _
      rw [atoms_eq, x_nx (r1 := [some (.d (.tup [.str w, .tup ps])), none, none]) (S1 := S) (by rw [x_if (atom1 (Bool.and_eq_true_iff.mp h.1).1), Bool.not_true, if_neg (by decide)]; rfl)]
      refine x_ret (x_retv ?_)
      have eit : evi P0 (c (k + m + 1)) (.one (.ix (.var 0) (.int 1))) [some (.d (.tup [.str w, .tup ps])), none, none] S = .ok ps S := rfl
      have hps : ∀ p ∈ ps, isF m p = true := List.all_eq_true.mp h.2
      have hm := Bool.and_eq_true_iff.mp h.1
      have hpl : ps.length ≤ 20 := of_decide_eq_true hm.2
      refine (e_comp2 (ats m) eit (by omega) (by omega) fun p hp => ?_)
      · refine ⟨[some (.d (.tup [.str w, .tup ps])), some (.d p), none], rfl, ?_, fun y hy => ⟨[some (.d (.tup [.str w, .tup ps])), some (.d p), some (.d y)], rfl, ?_⟩⟩
        · have v1 : ev P0 (c (k + m + 1)) (.var 1) [some (.d (.tup [.str w, .tup ps])), some (.d p), none] S = .ok (.d p) S := by rw [v_var (i := 1) (x := p) rfl, isF_tup (hps p hp)]
          rw [evi, v_call (v_one v1) (ih (hps p hp) (Nat.le_trans (ats_small hp) hl))]
          rfl
        · obtain ⟨w2, j2, rfl⟩ := ats_tup (hps p hp) y hy
          rfl
    · cases h
end K30
end
section
set_option maxRecDepth 100000
set_option maxHeartbeats 1000000
set_option exponentiation.threshold 2000
/-! U2: named_in, is_after_formula, jobs_named. -/
namespace K30
open Iv Pw
variable {k : Nat} {S : Hs}
def numO : D → Int
  | .tup [_, .int j] => j
  | _ => 0
def ded : List Int → List Int → List Int
  | [], acc => acc
  | j :: l, acc => ded l (if j ∈ acc then acc else acc ++ [j])
theorem ded_ok : ∀ {l acc : List Int}, acc.Nodup → (ded l acc).Nodup ∧ ∀ a, a ∈ ded l acc ↔ a ∈ acc ∨ a ∈ l
  | [], acc, h => ⟨h, fun a => by simp [ded]⟩
  | j :: l, acc, h => by
    have nd : (if j ∈ acc then acc else acc ++ [j]).Nodup := by
      split
      · exact h
      · rename_i hj
        rw [List.nodup_append]
        exact ⟨h, by simp, fun a ha b hb => by simp at hb; subst hb; exact fun e => hj (e ▸ ha)⟩
    obtain ⟨h1, h2⟩ := ded_ok (l := l) nd
    refine ⟨h1, fun a => ?_⟩
    rw [show ded (j :: l) acc = ded l (if j ∈ acc then acc else acc ++ [j]) from rfl, h2, List.mem_cons]
    split
    · rename_i hj
      constructor
      · rintro (z | z)
        · exact .inl z
        · exact .inr (.inr z)
      · rintro (z | z | z)
        · exact .inl z
        · exact .inl (z ▸ hj)
        · exact .inr z
    · rw [List.mem_append, List.mem_singleton, or_assoc]
def kv (j : Int) : Ky × D := (.i j, .bl true)
theorem kput_kv (j : Int) (acc : List Int) : kput (.i j) (.bl true) (acc.map kv) = (if j ∈ acc then acc else acc ++ [j]).map kv := by
  unfold kput
  by_cases h : j ∈ acc
  · rw [if_pos (by
      rw [List.any_eq_true]
      exact ⟨kv j, List.mem_map_of_mem h, by simp [kv]⟩), if_pos h, List.map_map]
    apply List.map_congr_left
    intro a _
    have gen : ∀ (P : Prop) [Decidable P] (z : Ky × D), (if P then z else z) = z := fun P _ z => by split <;> rfl
    exact gen _ _
  · rw [if_neg (by
      rw [List.any_eq_true]
      rintro ⟨p, hp, e⟩
      obtain ⟨a, ha, rfl⟩ := List.mem_map.mp hp
      simp [kv] at e
      exact h (e ▸ ha)), if_neg h, List.map_append]
    rfl
theorem dcmpL_ded {f : D → Hs → R (Option (Ky × D))} {S : Hs} : ∀ {xs : List D} {acc : List Int}, (∀ x ∈ xs, f x S = .ok (some (kv (numO x))) S) → dcmpL f xs (acc.map kv) S = .ok ((ded (xs.map numO) acc).map kv) S
  | [], acc, _ => rfl
  | x :: xs, acc, h => by
    simp only [dcmpL, h x List.mem_cons_self]
    rw [show (kv (numO x)).1 = Ky.i (numO x) from rfl, show (kv (numO x)).2 = D.bl true from rfl, kput_kv, dcmpL_ded fun y hy => h y (List.mem_cons_of_mem _ hy)]
    rfl
def js (m : Nat) (x : D) : List Int := (ats m x).map numO
theorem named_in {m : Nat} {x : D} (h : isF m x = true) (hl : (ats m x).length ≤ 1000) : c (k + m + 2) 12 [.d x] S = .ok (.d (.lst ((sI (ded (js m x) [])).map .int))) S := by
  rw [ca (fn := ⟨1, 3, b_named_in, .all⟩) rfl rfl rfl, ← fin_ret]
  congr 1
  show exec P0 (c (k + m + 1)) b_named_in [some (.d x), none, none] S = _
  unfold b_named_in
  refine x_ret (x_retv ?_)
  have V : ev P0 (c (k + m + 1)) (.var 0) [some (.d x), none, none] S = .ok (.d x) S := by rw [v_var (i := 0) (x := x) rfl, isF_tup h]
  have eit : evi P0 (c (k + m + 1)) (.one (.call 11 (.cons (.var 0) .nil))) [some (.d x), none, none] S = .ok (ats m x) S := by
    rw [evi, v_call (v_one V) (atoms_in m h hl)]; rfl
  have ed : ev P0 (c (k + m + 1)) (.dcmp [1, 2] (.tp (.cons (.nm 1) (.cons (.nm 2) .nil))) (.one (.call 11 (.cons (.var 0) .nil))) (.bl true) (.var 2) (.bl true)) [some (.d x), none, none] S = .ok (.d (.dct ((ded (js m x) []).map kv))) S := by
    have hb : ¬ big < (ats m x).length := by have : big = 1000000 := rfl; omega
    rw [ev, eit]
    simp only [R.bind, if_neg hb]
    rw [show ([] : List (Ky × D)) = ([] : List Int).map kv from rfl, dcmpL_ded (xs := ats m x) fun a ha => ?_]
    · rfl
    · obtain ⟨w, j, rfl⟩ := ats_tup h a ha
      rfl
  have nd0 : (ded (js m x) []).length ≤ 1000 := by
    have : ∀ (l acc : List Int), (ded l acc).length ≤ l.length + acc.length := by
      intro l
      induction l with
      | nil => intro acc; simp [ded]
      | cons j l ih =>
        intro acc
        have q := ih (if j ∈ acc then acc else acc ++ [j])
        rw [show ded (j :: l) acc = ded l (if j ∈ acc then acc else acc ++ [j]) from rfl, List.length_cons]
        have z : (if j ∈ acc then acc else acc ++ [j]).length ≤ acc.length + 1 := by
          split
          · omega
          · simp
        omega
    have q := this (js m x) []
    rw [js, List.length_map] at q
    simp only [List.length_nil] at q
    exact Nat.le_trans q hl
  rw [ev, ed]
  simp only [R.bind, srtL, rdK]
  have e : ((ded (js m x) []).map kv).map (fun p => kyD p.1) = (ded (js m x) []).map .int := by rw [List.map_map]; rfl
  rw [e, if_pos (sok (by omega)), sort_ints]
/-- is it? by nodes and names -/
theorem le_b {cal : Cal} {r : Ev} {a b : Ex} {i j : Int} (ha : ev P0 cal a r S = .ok (.d (.int i)) S) (hb : ev P0 cal b r S = .ok (.d (.int j)) S) : ev P0 cal (.cmp .le a b) r S = .ok (.d (.bl (decide (i ≤ j)))) S := by
  simp only [ev, ha, hb, R.bind, rdV, cmpD, Option.map_some, R.opt]
theorem is_after_no {x : D} {n : Nat} (h : x.plain n = true) (hn : ¬ nd 8 x 1 ≤ 60) : c (k + 13) 13 [.d x] S = .ok (.d (.bl false)) S := by
  rw [ca (fn := ⟨1, 1, b_is_after_formula, .all⟩) rfl rfl rfl, ← fin_ret]
  congr 1
  show exec P0 (c (k + 12)) b_is_after_formula [some (.d x)] S = _
  unfold b_is_after_formula
  refine x_ret (x_retv ?_)
  have V : ev P0 (c (k + 12)) (.var 0) [some (.d x)] S = .ok (.d x) S := by rw [v_var (i := 0) (x := x) rfl, plain_wk h]
  have e1 := le_b (b := .glob 9) (j := 60) (v_call (v_cons V (v_one (v_int (i := 1)))) (nodes 8 (k := k) (S := S) (d := 1) (by decide) h)) rfl
  rw [decide_eq_false hn] at e1
  exact v_and (q := false) e1 (fun z => by cases z)
theorem is_after_if {x : D} {n m : Nat} (h : x.plain n = true) (hn : nd 8 x 1 ≤ 60) (hm : m ≤ 10) (hf : isF m x = true) (hl : (ats m x).length ≤ 1000) : c (k + 13) 13 [.d x] S = .ok (.d (.bl (decide (((ded (js m x) []).length : Int) ≤ 6)))) S := by
  rw [ca (fn := ⟨1, 1, b_is_after_formula, .all⟩) rfl rfl rfl, ← fin_ret]
  congr 1
  show exec P0 (c (k + 12)) b_is_after_formula [some (.d x)] S = _
  unfold b_is_after_formula
  refine x_ret (x_retv ?_)
  have V : ev P0 (c (k + 12)) (.var 0) [some (.d x)] S = .ok (.d x) S := by rw [v_var (i := 0) (x := x) rfl, plain_wk h]
  have e1 := le_b (b := .glob 9) (j := 60) (v_call (v_cons V (v_one (v_int (i := 1)))) (nodes 8 (k := k) (S := S) (d := 1) (by decide) h)) rfl
  rw [decide_eq_true hn] at e1
  have e2 : ev P0 (c (k + 12)) (.call 12 (.cons (.var 0) .nil)) [some (.d x)] S = .ok (.d (.lst ((sI (ded (js m x) [])).map .int))) S := by
    refine v_call (v_one V) ?_
    rw [show k + 12 = (k + (10 - m)) + m + 2 by omega]
    exact named_in hf hl
  have e3 := v_bi1 (f := .len) e2 (y := .int (ded (js m x) []).length) (by simp only [biD, List.length_map, sI_len])
  have e4 := v_and e1 fun _ => v_1 (le_b (b := .glob 14) (j := 6) e3 rfl)
  rw [Bool.true_and] at e4
  exact e4
theorem require_no {x : D} (hw : x.wk = x) (h : c (k + 13) 13 [.d x] S = .ok (.d (.bl false)) S) : c (k + 14) 14 [.d x] S = .exc 0 [] S := by
  rw [ca (fn := ⟨1, 1, b_require_after, .all⟩) rfl rfl rfl]
  show fin S.length (exec P0 (c (k + 13)) b_require_after [some (.d x)] S) = _
  unfold b_require_after
  have V : ev P0 (c (k + 13)) (.var 0) [some (.d x)] S = .ok (.d x) S := by rw [v_var (i := 0) (x := x) rfl, hw]
  have e1 := v_not (v_call (v_one V) h)
  have e2 : exec P0 (c (k + 13)) (.ite (.not (.call 13 (.cons (.var 0) .nil))) (.seq (.rse 0 .nil) .skip) .skip) [some (.d x)] S = .exc 0 [] [some (.d x)] S := by
    rw [x_if e1, Bool.not_false, if_pos rfl]; rfl
  rw [show exec P0 (c (k + 13)) (.seq (.ite (.not (.call 13 (.cons (.var 0) .nil))) (.seq (.rse 0 .nil) .skip) .skip) .skip) [some (.d x)] S = .exc 0 [] [some (.d x)] S by rw [exec, e2]]
  exact fin_exc ..
theorem require_yes {x : D} (hw : x.wk = x) (h : c (k + 13) 13 [.d x] S = .ok (.d (.bl true)) S) : c (k + 14) 14 [.d x] S = .ok (.d .non) S := by
  rw [ca (fn := ⟨1, 1, b_require_after, .all⟩) rfl rfl rfl]
  show fin S.length (exec P0 (c (k + 13)) b_require_after [some (.d x)] S) = _
  unfold b_require_after
  have V : ev P0 (c (k + 13)) (.var 0) [some (.d x)] S = .ok (.d x) S := by rw [v_var (i := 0) (x := x) rfl, hw]
  have e1 := v_not (v_call (v_one V) h)
  rw [x_nx (r1 := [some (.d x)]) (S1 := S) (by rw [x_if e1, Bool.not_true, if_neg (by decide)]; rfl)]
  exact fin_nx ..
theorem jobs_no {x : D} (hw : x.wk = x) (h : c (k + 13) 13 [.d x] S = .ok (.d (.bl false)) S) : c (k + 15) 15 [.d x] S = .exc 0 [] S := by
  rw [ca (fn := ⟨1, 1, b_jobs_named, .all⟩) rfl rfl rfl]
  show fin S.length (exec P0 (c (k + 14)) b_jobs_named [some (.d x)] S) = _
  unfold b_jobs_named
  have V : ev P0 (c (k + 14)) (.var 0) [some (.d x)] S = .ok (.d x) S := by rw [v_var (i := 0) (x := x) rfl, hw]
  have e1 := v_call (v_one V) (require_no hw h)
  have e2 : exec P0 (c (k + 14)) (.expr (.call 14 (.cons (.var 0) .nil))) [some (.d x)] S = .exc 0 [] [some (.d x)] S := by
    rw [exec, e1]; rfl
  rw [show exec P0 (c (k + 14)) (.seq (.expr (.call 14 (.cons (.var 0) .nil))) (.seq (.ret (.bi .tuple (.cons (.call 12 (.cons (.var 0) .nil)) .nil))) .skip)) [some (.d x)] S = .exc 0 [] [some (.d x)] S by rw [exec, e2]]
  exact fin_exc ..
theorem jobs_yes {x : D} {m : Nat} (hw : x.wk = x) (h : c (k + 13) 13 [.d x] S = .ok (.d (.bl true)) S) (hm : m ≤ 10) (hf : isF m x = true) (hl : (ats m x).length ≤ 1000) : c (k + 15) 15 [.d x] S = .ok (.d (.tup ((sI (ded (js m x) [])).map .int))) S := by
  rw [ca (fn := ⟨1, 1, b_jobs_named, .all⟩) rfl rfl rfl, ← fin_ret]
  congr 1
  show exec P0 (c (k + 14)) b_jobs_named [some (.d x)] S = _
  unfold b_jobs_named
  have V : ev P0 (c (k + 14)) (.var 0) [some (.d x)] S = .ok (.d x) S := by rw [v_var (i := 0) (x := x) rfl, hw]
  rw [x_nx (x_expr (v_call (v_one V) (require_yes hw h)))]
  refine x_ret (x_retv ?_)
  refine v_bi1 (f := .tuple) (x := .lst ((sI (ded (js m x) [])).map .int)) (v_call (v_one V) ?_) rfl
  rw [show k + 14 = (k + (12 - m)) + m + 2 by omega]
  exact named_in hf hl
end K30
end
section
set_option maxRecDepth 100000
set_option maxHeartbeats 1000000
set_option exponentiation.threshold 2000
/-! U3: the law's own jobs of a formula. -/
namespace K30
open Iv Pw
variable {k : Nat} {S : Hs}
theorem mem_ints (j : Int) : ∀ l : List Int, D.mem (.int j) (l.map .int) = decide (j ∈ l)
  | [] => by simp [D.mem]
  | a :: l => by
    simp only [List.map_cons, D.mem, mem_ints j l, D.eqv, List.mem_cons]
    by_cases h : a = j
    · subst h; simp
    · have h2 : ¬ j = a := fun e => h e.symm
      simp [h, h2]
theorem flats_ints : ∀ l : List Int, D.flats (l.map .int) = true
  | [] => rfl
  | a :: l => by simp only [List.map_cons, D.flats, D.flat, flats_ints l, Bool.and_self]
def aT : Ex := (.cmp .notin (.ix (.var 0) (.int 0)) (.tup (.cons (.str [97, 110, 100]) (.cons (.str [111, 114]) .nil))))
def aL : St := (.seq (.ext 1 (.comp [3] (.nm 3) (.one (.call 22 (.cons (.var 2) .nil))) (.one (.cmp .notin (.var 3) (.var 1))) (.var 3))) .skip)
theorem ajobs_eq : b__law_after_jobs = (.seq (.asg 1 (.newl .nil)) (.seq (.ite aT (.seq (.ret (.lst (.cons (.ix (.var 0) (.int 1)) .nil))) .skip) .skip) (.seq (.loop (.nm 2) (.one (.ix (.var 0) (.int 1))) aL) (.seq (.ret (.srt (.var 1))) .skip)))) := rfl
theorem aT_v {cal : Cal} {w : Cs} {y : D} {b : Bool} {r1 r2 r3 : Option Vl} (hb : D.mem (.str w) BOD = b) : ev P0 cal aT [some (.d (.tup [.str w, y])), r1, r2, r3] S = .ok (.d (.bl (!b))) S := by
  subst hb; rfl
theorem two_nodup {f l : List Int} (hf : f.Nodup) (hl : l.Nodup) : (f ++ l.filter fun j => !decide (j ∈ f)).Nodup := by
  rw [List.nodup_append]
  refine ⟨hf, List.Pairwise.filter _ hl, fun a ha b hb e => ?_⟩
  subst e
  rw [List.mem_filter] at hb
  simp [ha] at hb
theorem after_jobs : ∀ (m : Nat) {k : Nat} {x : D} {S : Hs}, isF m x = true → (ats m x).length ≤ 1000 → ∃ l : List Int, c (k + m + 1) 22 [.d x] S = .ok (.d (.lst ((sI l).map .int))) S ∧ l.Nodup ∧ ∀ a, a ∈ l ↔ a ∈ js m x := by
  have leaf : ∀ {k : Nat} {w : Cs} {j : Int} {S : Hs}, D.mem (.str w) BOD = false → c (k + 1) 22 [.d (.tup [.str w, .int j])] S = .ok (.d (.lst ((sI [j]).map .int))) S := by
    intro k w j S hw
    rw [ca (fn := ⟨1, 4, b__law_after_jobs, .all⟩) rfl rfl rfl]
    show fin S.length (exec P0 (c k) b__law_after_jobs [some (.d (.tup [.str w, .int j])), none, none, none] S) = _
    rw [ajobs_eq]
    have a0 : exec P0 (c k) (.asg 1 (.newl .nil)) [some (.d (.tup [.str w, .int j])), none, none, none] S = .nx [some (.d (.tup [.str w, .int j])), some (.loc S.length), none, none] (S ++ [.lst []]) := rfl
    rw [x_nx a0]
    have e1 := aT_v (S := S ++ [.lst []]) (cal := c k) (y := .int j) (r1 := some (.loc S.length)) (r2 := none) (r3 := none) hw
    have s1 : sI [j] = [j] := by
      have := sI_len [j]
      match h : sI [j], this with
      | [a], _ =>
        have : a ∈ sI [j] := by rw [h]; simp
        rw [sI_mem] at this
        simp at this
        rw [this]
    rw [x_ret (v := .d (.lst [.int j])) (S1 := S ++ [.lst []]) (by rw [x_if e1, Bool.not_false, if_pos rfl]; rfl), s1]
    simp only [fin]
    rw [List.take_append_of_le_length (Nat.le_refl _), List.take_length]
    rfl
  intro m
  induction m with
  | zero =>
    intro k x S h hl
    unfold isF at h
    split at h
    · rename_i w j
      exact ⟨[j], leaf (by simpa using h), by simp, fun a => Iff.rfl⟩
    · cases h
  | succ m ih =>
    intro k x S h hl
    unfold isF at h
    split at h
    · rename_i w j
      exact ⟨[j], leaf (by simpa using h), by simp, fun a => Iff.rfl⟩
    · rename_i w ps
      have h := Bool.and_eq_true_iff.mp h
      have hm := Bool.and_eq_true_iff.mp h.1
      have hpl : ps.length ≤ 20 := of_decide_eq_true hm.2
      have hps : ∀ p ∈ ps, isF m p = true := List.all_eq_true.mp h.2
      have hl : (ps.flatMap (ats m)).length ≤ 1000 := hl
      rw [show k + (m + 1) + 1 = (k + m + 1) + 1 by omega, ca (fn := ⟨1, 4, b__law_after_jobs, .all⟩) rfl rfl rfl]
      show ∃ l : List Int, fin S.length (exec P0 (c (k + m + 1)) b__law_after_jobs [some (.d (.tup [.str w, .tup ps])), none, none, none] S) = _ ∧ _
      rw [ajobs_eq]
      generalize hX : D.tup [.str w, .tup ps] = X
      have a0 : exec P0 (c (k + m + 1)) (.asg 1 (.newl .nil)) [some (.d X), none, none, none] S = .nx [some (.d X), some (.loc S.length), none, none] (S ++ [.lst []]) := rfl
      rw [x_nx a0]
      have e1 : ev P0 (c (k + m + 1)) aT [some (.d X), some (.loc S.length), none, none] (S ++ [.lst []]) = .ok (.d (.bl false)) (S ++ [.lst []]) := by
        rw [← hX]; exact aT_v hm.1
      rw [x_nx (r1 := [some (.d X), some (.loc S.length), none, none]) (S1 := S ++ [.lst []]) (by rw [x_if e1, if_neg (by decide)]; rfl)]
      have eit : evi P0 (c (k + m + 1)) (.one (.ix (.var 0) (.int 1))) [some (.d X), some (.loc S.length), none, none] (S ++ [.lst []]) = .ok ps (S ++ [.lst []]) := by
        rw [← hX]; rfl
      obtain ⟨r', S', f1, ⟨y, rfl⟩, f, f2, f3, f4⟩ := forL_S (t := .nm 2) (f := fun r S => exec P0 (c (k + m + 1)) aL r S) (S := S ++ [.lst []]) (i := 0) (xs := ps) (r := [some (.d X), some (.loc S.length), none, none])
        (I := fun i r S1 => (∃ y, r = [some (.d X), some (.loc S.length), y, none]) ∧ ∃ f : List Int, S1 = S ++ [.lst (f.map .int)] ∧ f.Nodup ∧ ∀ a, a ∈ f ↔ ∃ p ∈ ps.take i, a ∈ js m p)
        ⟨⟨none, rfl⟩, [], rfl, List.nodup_nil, fun a => by simp⟩ (by
        rintro i p hp r S1 ⟨⟨y, rfl⟩, f, rfl, f3, f4⟩
        have hpm : p ∈ ps := List.mem_of_getElem? hp
        have hpw := isF_tup (hps p hpm)
        obtain ⟨l, l1, l2, l3⟩ := ih (k := k) (S := S ++ [.lst (f.map .int)]) (hps p hpm) (Nat.le_trans (ats_small hpm) hl)
        have bound : ∀ {q : List Int}, q.Nodup → (∀ a ∈ q, ∃ p ∈ ps, a ∈ js m p) → q.length ≤ 1000 := fun {q} h1 h2 => by
          have e : q.length ≤ (ded (ps.flatMap (js m)) []).length := by
            obtain ⟨d1, d2⟩ := ded_ok (l := ps.flatMap (js m)) (acc := []) List.nodup_nil
            refine few h1 d1 fun a ha => ?_
            obtain ⟨p, hp, hq⟩ := h2 a ha
            exact (d2 a).mpr (.inr (List.mem_flatMap.mpr ⟨p, hp, hq⟩))
          have e2 : (ps.flatMap (js m)).length = (ps.flatMap (ats m)).length := by
            unfold js
            rw [List.length_flatMap, List.length_flatMap]
            simp [Function.comp_def]
          have e3 : ∀ (l acc : List Int), (ded l acc).length ≤ l.length + acc.length := by
            intro l
            induction l with
            | nil => intro acc; simp [ded]
            | cons j l ih =>
              intro acc
              have q := ih (if j ∈ acc then acc else acc ++ [j])
              rw [show ded (j :: l) acc = ded l (if j ∈ acc then acc else acc ++ [j]) from rfl, List.length_cons]
              have z : (if j ∈ acc then acc else acc ++ [j]).length ≤ acc.length + 1 := by
                split
                · omega
                · simp
              omega
          have := e3 (ps.flatMap (js m)) []
          simp only [List.length_nil] at this
          omega
        have mem2 : ∀ a, a ∈ f ++ (sI l).filter (fun j => !decide (j ∈ f)) ↔ ∃ q ∈ ps.take (0 + i + 1), a ∈ js m q := fun a => by
          have et : ps.take (0 + i + 1) = ps.take (0 + i) ++ [p] := by
            rw [Nat.zero_add, List.take_succ, hp]; rfl
          rw [et]
          simp only [List.mem_append, List.mem_filter, sI_mem, l3, List.mem_singleton, Bool.not_eq_true', decide_eq_false_iff_not]
          rw [f4]
          constructor
          · rintro (⟨q, q1, q2⟩ | ⟨q1, _⟩)
            · exact ⟨q, .inl q1, q2⟩
            · exact ⟨p, .inr rfl, q1⟩
          · rintro ⟨q, q1 | q1, q2⟩
            · exact .inl ⟨q, q1, q2⟩
            · subst q1
              by_cases hin : ∃ q' ∈ ps.take (0 + i), a ∈ js m q'
              · exact .inl hin
              · exact .inr ⟨q2, hin⟩
        have nd2 := two_nodup f3 (sI_nodup l2)
        have hfl : (f ++ (sI l).filter fun j => !decide (j ∈ f)).length ≤ 1000 := bound nd2 fun a ha => by
          obtain ⟨q, q1, q2⟩ := (mem2 a).mp ha
          exact ⟨q, List.mem_of_mem_take q1, q2⟩
        refine ⟨[some (.d X), some (.loc S.length), some (.d p), none], [some (.d X), some (.loc S.length), some (.d p), none], S ++ [.lst ((f ++ (sI l).filter fun j => !decide (j ∈ f)).map .int)], rfl, ?_, ⟨_, rfl⟩, _, rfl, nd2, mem2⟩
        show exec P0 (c (k + m + 1)) aL _ _ = _
        unfold aL
        have v2 : ev P0 (c (k + m + 1)) (.var 2) [some (.d X), some (.loc S.length), some (.d p), none] (S ++ [.lst (f.map .int)]) = .ok (.d p) (S ++ [.lst (f.map .int)]) := by rw [v_var (i := 2) (x := p) rfl, hpw]
        have eit2 : evi P0 (c (k + m + 1)) (.one (.call 22 (.cons (.var 2) .nil))) [some (.d X), some (.loc S.length), some (.d p), none] (S ++ [.lst (f.map .int)]) = .ok ((sI l).map .int) (S ++ [.lst (f.map .int)]) := by
          rw [evi, v_call (v_one v2) l1]; rfl
        have hS : (S ++ [Ob.lst (f.map .int)])[S.length]? = some (.lst (f.map .int)) := by simp
        have sl : (sI l).length ≤ 1000 := by
          rw [sI_len]
          exact bound l2 fun a ha => ⟨p, hpm, (l3 a).mp ha⟩
        have ec := e_comp (P := P0) (cal := c (k + m + 1)) (own := [3]) (t := .nm 3) (c := .one (.cmp .notin (.var 3) (.var 1))) (e := .var 3) (fun x => !D.mem x (f.map .int)) (fun x => x) eit2 (by rw [List.length_map]; omega) (fun x hx => by
          obtain ⟨j, hj, rfl⟩ := List.mem_map.mp hx
          refine ⟨[some (.d X), some (.loc S.length), some (.d p), some (.d (.int j))], rfl, ?_, fun _ => v_var (i := 3) (x := .int j) rfl⟩
          refine v_1 ?_
          rw [ev, v_var (i := 3) (x := .int j) rfl]
          simp only [R.bind, D.wk]
          rw [v_loc (i := 1) (n := S.length) rfl]
          simp only [rdV, hS, cmpD, inD, D.flat, flats_ints, Bool.and_self, if_true, Option.map_some, R.opt])
        rw [List.map_id' ] at ec
        have ef : ((sI l).map D.int).filter (fun x => !D.mem x (f.map .int)) = ((sI l).filter fun j => !decide (j ∈ f)).map .int := by
          rw [List.filter_map]
          congr 1
          apply List.filter_congr
          intro j _
          simp only [Function.comp_apply, mem_ints]
        rw [ef] at ec
        have ex : exec P0 (c (k + m + 1)) (.ext 1 (.comp [3] (.nm 3) (.one (.call 22 (.cons (.var 2) .nil))) (.one (.cmp .notin (.var 3) (.var 1))) (.var 3))) [some (.d X), some (.loc S.length), some (.d p), none] (S ++ [.lst (f.map .int)]) = .nx [some (.d X), some (.loc S.length), some (.d p), none] (S ++ [.lst ((f ++ (sI l).filter fun j => !decide (j ∈ f)).map .int)]) := by
          rw [exec]
          rw [show ([some (Vl.d X), some (.loc S.length), some (.d p), none] : Ev)[1]? = some (some (.loc S.length)) from rfl]
          simp only [hS]
          rw [ec]
          simp only [R.st, hS]
          rw [if_pos (by
            rw [List.length_append] at hfl
            rw [List.length_map, List.length_map]
            have : big = 1000000 := rfl
            omega)]
          congr 1
          rw [List.set_append_right _ _ (Nat.le_refl _), Nat.sub_self, List.map_append]
          rfl
        rw [x_nx ex]
        rfl)
      rw [x_nx ((x_loop eit).trans f1), f2]
      rw [Nat.zero_add] at f4
      have hS : (S ++ [Ob.lst (f.map .int)])[S.length]? = some (.lst (f.map .int)) := by simp
      have hfl : f.length ≤ 1000000 := by
        have : f.length ≤ (ps.flatMap (js m)).length + 0 := by
          obtain ⟨d1, d2⟩ := ded_ok (l := ps.flatMap (js m)) (acc := []) List.nodup_nil
          refine Nat.le_trans (few f3 d1 fun a ha => ?_) ?_
          · obtain ⟨p, hp, hq⟩ := (f4 a).mp ha
            exact (d2 a).mpr (.inr (List.mem_flatMap.mpr ⟨p, List.mem_of_mem_take hp, hq⟩))
          · have e3 : ∀ (l acc : List Int), (ded l acc).length ≤ l.length + acc.length := by
              intro l
              induction l with
              | nil => intro acc; simp [ded]
              | cons j l ih =>
                intro acc
                have q := ih (if j ∈ acc then acc else acc ++ [j])
                rw [show ded (j :: l) acc = ded l (if j ∈ acc then acc else acc ++ [j]) from rfl, List.length_cons]
                have z : (if j ∈ acc then acc else acc ++ [j]).length ≤ acc.length + 1 := by
                  split
                  · omega
                  · simp
                omega
            exact e3 _ []
        have e2 : (ps.flatMap (js m)).length = (ps.flatMap (ats m)).length := by
          unfold js
          rw [List.length_flatMap, List.length_flatMap]
          simp [Function.comp_def]
        omega
      have es : ev P0 (c (k + m + 1)) (.srt (.var 1)) [some (.d X), some (.loc S.length), y, none] (S ++ [.lst (f.map .int)]) = .ok (.d (.lst ((sI f).map .int))) (S ++ [.lst (f.map .int)]) := by
        rw [ev, v_loc (i := 1) (n := S.length) rfl]
        simp only [R.bind, srtL, rdK, rdV, hS]
        rw [if_pos (sok hfl), sort_ints]
      rw [x_ret (x_retv es)]
      refine ⟨f, ?_, f3, fun a => ?_⟩
      · simp only [fin]
        rw [List.take_append_of_le_length (Nat.le_refl _), List.take_length]
      · rw [f4]
        have ej : js (m + 1) X = ps.flatMap (js m) := by
          rw [← hX]
          show (ps.flatMap (ats m)).map numO = _
          rw [List.map_flatMap]; rfl
        rw [ej, List.mem_flatMap, List.take_of_length_le (Nat.le_refl _)]
    · cases h
end K30
end
section
set_option maxRecDepth 100000
set_option maxHeartbeats 1000000
set_option exponentiation.threshold 2000
/-! U4: formulas drawn. -/
namespace K30
open Iv Pw
variable {k : Nat} {S : Hs}
def W6 : List Cs := [[98, 101, 103, 117, 110], [111, 118, 101, 114], [119, 101, 108, 108], [105, 108, 108], [108, 97, 116, 101], [108, 101, 102, 116]]
def J4 : List Int := [1, 2, 30, 1000000]
def Atm (x : D) : Prop := ∃ w ∈ W6, ∃ j ∈ J4, x = .tup [.str w, .int j]
/-- a drawn formula -/
def Gd : Nat → D → Prop
  | 0, x => Atm x
  | m + 1, x => Atm x ∨ ∃ b ps, (b = [97, 110, 100] ∨ b = [111, 114]) ∧ 2 ≤ ps.length ∧ ps.length ≤ 3 ∧ (∀ p ∈ ps, Gd m p) ∧ x = .tup [.str b, .tup ps]
theorem atm_F {m : Nat} {x : D} (h : Atm x) : isF m x = true ∧ ats m x = [x] := by
  obtain ⟨w, hw, j, hj, rfl⟩ := h
  have e : D.mem (.str w) BOD = false := by
    simp only [W6, List.mem_cons, List.not_mem_nil, or_false] at hw
    rcases hw with rfl | rfl | rfl | rfl | rfl | rfl <;> rfl
  cases m with
  | zero => exact ⟨by simp only [isF, e]; rfl, rfl⟩
  | succ m => exact ⟨by simp only [isF, e]; rfl, rfl⟩
theorem Gd.isF : ∀ {m : Nat} {x : D}, Gd m x → isF m x = true
  | 0, x, h => (atm_F h).1
  | m + 1, x, h => by
    rcases h with h | ⟨b, ps, hb, h1, h2, h3, rfl⟩
    · exact (atm_F h).1
    · have e : D.mem (.str b) BOD = true := by rcases hb with rfl | rfl <;> rfl
      simp only [K30.isF, e, decide_eq_true (show ps.length ≤ 20 by omega), Bool.and_self, Bool.true_and]
      exact List.all_eq_true.mpr fun p hp => Gd.isF (h3 p hp)
theorem flat_len {α : Type} {g : α → List D} {B : Nat} : ∀ {ps : List α}, (∀ p ∈ ps, (g p).length ≤ B) → (ps.flatMap g).length ≤ ps.length * B
  | [], _ => by simp
  | p :: ps, h => by
    rw [List.flatMap_cons, List.length_append, List.length_cons, Nat.succ_mul]
    have := flat_len (ps := ps) fun q hq => h q (List.mem_cons_of_mem _ hq)
    have := h p List.mem_cons_self
    omega
theorem Gd.ats : ∀ {m : Nat} {x : D}, Gd m x → (ats m x).length ≤ 3 ^ m
  | 0, x, h => by rw [(atm_F h).2]; exact Nat.le_refl 1
  | m + 1, x, h => by
    rcases h with h | ⟨b, ps, hb, h1, h2, h3, rfl⟩
    · rw [(atm_F h).2]; exact Nat.one_le_pow _ _ (by decide)
    · have := flat_len (B := 3 ^ m) fun p hp => Gd.ats (h3 p hp)
      rw [show K30.ats (m + 1) (.tup [.str b, .tup ps]) = ps.flatMap (K30.ats m) from rfl, Nat.pow_succ]
      refine Nat.le_trans this ?_
      rw [Nat.mul_comm]
      exact Nat.mul_le_mul_left _ h2
theorem Gd.js : ∀ {m : Nat} {x : D}, Gd m x → ∀ a ∈ js m x, a ∈ J4
  | 0, x, h => by
    intro a ha
    rw [K30.js, (atm_F h).2] at ha
    obtain ⟨w, hw, j, hj, rfl⟩ := h
    simp only [List.map_cons, List.map_nil, List.mem_singleton, numO] at ha
    rw [ha]; exact hj
  | m + 1, x, h => by
    intro a ha
    rcases h with h | ⟨b, ps, hb, h1, h2, h3, rfl⟩
    · rw [K30.js, (atm_F h).2] at ha
      obtain ⟨w, hw, j, hj, rfl⟩ := h
      simp only [List.map_cons, List.map_nil, List.mem_singleton, numO] at ha
      rw [ha]; exact hj
    · have e : K30.js (m + 1) (.tup [.str b, .tup ps]) = ps.flatMap (K30.js m) := by
        show (ps.flatMap (K30.ats m)).map numO = _
        rw [List.map_flatMap]; rfl
      rw [e, List.mem_flatMap] at ha
      obtain ⟨p, hp, hq⟩ := ha
      exact Gd.js (h3 p hp) a hq
theorem plains_of {n : Nat} : ∀ {xs : List D}, (∀ x ∈ xs, x.plain n = true) → D.plains xs n = true
  | [], _ => by simp [D.plains]
  | x :: xs, h => by
    simp only [D.plains, h x List.mem_cons_self, plains_of (fun y hy => h y (List.mem_cons_of_mem _ hy)), Bool.and_self]
theorem Gd.plain : ∀ {m n : Nat} {x : D}, Gd m x → 2 * m + 1 ≤ n → x.plain n = true
  | m, 0, x, h, hn => by omega
  | 0, n + 1, x, h, hn => by obtain ⟨w, hw, j, hj, rfl⟩ := h; rfl
  | m + 1, n + 1, x, h, hn => by
    rcases h with h | ⟨b, ps, hb, h1, h2, h3, rfl⟩
    · obtain ⟨w, hw, j, hj, rfl⟩ := h
      rfl
    · obtain ⟨n, rfl⟩ : ∃ q, n = q + 1 := ⟨n - 1, by omega⟩
      have := plains_of fun p hp => Gd.plain (n := n) (h3 p hp) (by omega)
      simp only [D.plain, D.plains, this, Bool.and_self]
theorem Gd.shape : ∀ {m : Nat} {x : D}, Gd m x → ∃ a b, x = .tup [a, b]
  | 0, x, h => by obtain ⟨w, hw, j, hj, rfl⟩ := h; exact ⟨_, _, rfl⟩
  | m + 1, x, h => by
    rcases h with ⟨w, hw, j, hj, rfl⟩ | ⟨b, ps, hb, h1, h2, h3, rfl⟩
    · exact ⟨_, _, rfl⟩
    · exact ⟨_, _, rfl⟩
def Bd : Nat → Int
  | 0 => 1
  | m + 1 => 1 + 3 * Bd m
theorem Bd_pos : ∀ m : Nat, 1 ≤ Bd m
  | 0 => by decide
  | m + 1 => by have := Bd_pos m; simp only [Bd]; omega
theorem sum_le {f : D → Int} {B : Int} (hB : 0 ≤ B) : ∀ {ps : List D}, (∀ p ∈ ps, 1 ≤ f p ∧ f p ≤ B) → 0 ≤ (ps.map f).sum ∧ (ps.map f).sum ≤ ps.length * B
  | [], _ => by simp
  | p :: ps, h => by
    have a := sum_le hB (ps := ps) fun q hq => h q (List.mem_cons_of_mem _ hq)
    have b := h p List.mem_cons_self
    rw [List.map_cons, List.sum_cons, List.length_cons]
    have e : ((ps.length + 1 : Nat) : Int) * B = ps.length * B + B := by
      rw [Int.natCast_add, Int.add_mul]; simp
    rw [e]
    omega
theorem nd_atm {f : Nat} {d : Int} {x : D} (h : Atm x) (hd : d ≤ 8) : nd (f + 1) x d = 1 := by
  obtain ⟨w, hw, j, hj, rfl⟩ := h
  have e : D.mem (.str w) W6D = true := by
    simp only [W6, List.mem_cons, List.not_mem_nil, or_false] at hw
    rcases hw with rfl | rfl | rfl | rfl | rfl | rfl <;> rfl
  have e2 : jobn (.int j) = true := by
    simp only [J4, List.mem_cons, List.not_mem_nil, or_false] at hj
    rcases hj with rfl | rfl | rfl | rfl <;> decide
  have e3 : cnd (.tup [.str w, .int j]) d = false := by
    unfold cnd
    rw [decide_eq_false (by omega)]; rfl
  simp only [nd, e3, e, e2, Bool.false_eq_true, if_false, if_true]
theorem nd_comp {f : Nat} {d : Int} {b : Cs} {ps : List D} (hb : b = [97, 110, 100] ∨ b = [111, 114]) (hd : d ≤ 8) (h1 : 2 ≤ ps.length) (h2 : ps.length ≤ 20) : nd (f + 1) (.tup [.str b, .tup ps]) d = 1 + (ps.map fun p => nd f p (d + 1)).sum := by
  have e : D.mem (.str b) W6D = false := by rcases hb with rfl | rfl <;> rfl
  have e2 : D.mem (.str b) BOD = true := by rcases hb with rfl | rfl <;> rfl
  have e3 : cnd (.tup [.str b, .tup ps]) d = false := by
    unfold cnd
    rw [decide_eq_false (by omega)]; rfl
  simp only [nd, e3, e, e2, Bool.false_eq_true, if_false, ndY, Bool.not_true, h1, h2, and_self, if_true]
theorem Gd.nd : ∀ {m : Nat} {x : D} {f : Nat} {d : Int}, Gd m x → d + m ≤ 8 → m + 1 ≤ f → 1 ≤ nd f x d ∧ nd f x d ≤ Bd m
  | 0, x, f, d, h, hd, hf => by
    obtain ⟨g, rfl⟩ : ∃ g, f = g + 1 := ⟨f - 1, by omega⟩
    rw [nd_atm h (by simpa using hd)]; decide
  | m + 1, x, f, d, h, hd, hf => by
    obtain ⟨g, rfl⟩ : ∃ g, f = g + 1 := ⟨f - 1, by omega⟩
    rcases h with h | ⟨b, ps, hb, h1, h2, h3, rfl⟩
    · rw [nd_atm h (by omega)]
      exact ⟨by decide, Bd_pos _⟩
    · rw [nd_comp hb (by omega) h1 (by omega)]
      have hp := Bd_pos m
      have := sum_le (B := Bd m) (by omega) fun p hp => Gd.nd (f := g) (d := d + 1) (h3 p hp) (by omega) (by omega)
      refine ⟨by omega, ?_⟩
      have e : (ps.length : Int) * Bd m ≤ 3 * Bd m := Int.mul_le_mul_of_nonneg_right (by omega) (by omega)
      simp only [Bd]
      omega
/-! ### drawing -/
theorem hdice : fns0[16]? = some ⟨2, 4, b_dice, .all⟩ := rfl
theorem hroll : fns0[17]? = some ⟨2, 5, b_roll, .all⟩ := rfl
theorem hpick : fns0[18]? = some ⟨2, 2, b_pick 17, .all⟩ := rfl
theorem v_tupS {cal : Cal} {r : Ev} {S1 : Hs} {es : Ex} {vs : List D} (h : evs P0 cal es r S = .ok (vs.map .d) S1) (hl : vs.length ≤ 1000000) : ev P0 cal (.tup es) r S = .ok (.d (.tup vs)) S1 := by
  rw [ev, h]
  simp only [R.bind, dsOf_map]
  rw [if_pos (by rw [List.length_map]; exact hl)]
def J4L : D := .lst [.int 1, .int 2, .int 30, .int 1000000]
theorem after_atom {n : Nat} (hd : Dice n S) : ∃ x S', c (k + 3) 23 [.loc n, .d J4L] S = .ok (.d x) S' ∧ Atm x ∧ Near n S S' := by
  rw [ca (fn := ⟨2, 2, b__law_after_atom, .all⟩) rfl rfl rfl]
  show ∃ x S', fin S.length (exec P0 (c (k + 2)) b__law_after_atom [some (.loc n), some (.d J4L)] S) = _ ∧ _
  unfold b__law_after_atom
  obtain ⟨v, S1, a1, a2, a3⟩ := pick (P := P0) (k := k) (xs := W6.map .str) hroll hpick (by decide) (by decide) hd
  obtain ⟨u, S2, b1, b2, b3⟩ := pick (P := P0) (k := k) (xs := J4.map .int) hroll hpick (by decide) (by decide) a3.1
  obtain ⟨w, hw, rfl⟩ := List.mem_map.mp a2
  obtain ⟨j, hj, rfl⟩ := List.mem_map.mp b2
  have N := a3.trans b3
  have e1 : ev P0 (c (k + 2)) (.call 18 (.cons (.var 0) (.cons (.lst (.cons (.str [98, 101, 103, 117, 110]) (.cons (.str [111, 118, 101, 114]) (.cons (.str [119, 101, 108, 108]) (.cons (.str [105, 108, 108]) (.cons (.str [108, 97, 116, 101]) (.cons (.str [108, 101, 102, 116]) .nil))))))) .nil))) [some (.loc n), some (.d J4L)] S = .ok (.d (.str w)) S1 :=
    v_call (v_cons (v_loc (i := 0) (n := n) rfl) (v_one (v_lstS (vs := W6.map .str) rfl (by decide)))) a1
  have e2 : ev P0 (c (k + 2)) (.call 18 (.cons (.var 0) (.cons (.var 1) .nil))) [some (.loc n), some (.d J4L)] S1 = .ok (.d (.int j)) S2 :=
    v_call (v_cons (v_loc (i := 0) (n := n) rfl) (v_one (v_var (i := 1) (x := J4L) rfl))) b1
  refine ⟨_, S2, ?_, ⟨w, hw, j, hj, rfl⟩, N⟩
  rw [x_ret (x_retv (v_tupS (vs := [.str w, .int j]) (v_cons e1 (v_one e2)) (by simp)))]
  exact fin_len N.2.1
theorem ea_gd {m : Nat} : ∀ {xs : List D} {os : List (Option D)}, Ea (fun _ o => ∃ y, o = some y ∧ Gd m y) xs os → (os.filterMap id).length = xs.length ∧ ∀ p ∈ os.filterMap id, Gd m p
  | _, _, .nil => ⟨rfl, fun p hp => by simp at hp⟩
  | _, _, .cons (os := os) ⟨y, rfl, hy⟩ r => by
    obtain ⟨h1, h2⟩ := ea_gd r
    rw [show (some y :: os).filterMap id = y :: os.filterMap id from rfl]
    exact ⟨by simp [h1], fun p hp => by
      rcases List.mem_cons.mp hp with rfl | hp
      · exact hy
      · exact h2 p hp⟩
theorem upTo_length : ∀ (n : Nat) (a : Int), (upTo n a).length = n
  | 0, _ => rfl
  | n + 1, a => by simp [upTo, upTo_length n]
def dC : Ex := (.or (.cmp .le (.var 2) (.int 0)) (.one (.cmp .eq (.call 17 (.cons (.var 0) (.cons (.int 3) .nil))) (.int 0))))
def dA : St := (.seq (.ret (.call 23 (.cons (.var 0) (.cons (.var 1) .nil)))) .skip)
def dP : Ex := (.comp [4] (.nm 4) (.rng (.bin .add (.int 2) (.call 17 (.cons (.var 0) (.cons (.int 2) .nil))))) (.bl true) (.call 24 (.cons (.var 0) (.cons (.var 1) (.cons (.bin .sub (.var 2) (.int 1)) .nil)))))
def dR : Ex := (.tup (.cons (.call 18 (.cons (.var 0) (.cons (.lst (.cons (.str [97, 110, 100]) (.cons (.str [97, 110, 100]) (.cons (.str [111, 114]) .nil)))) .nil))) (.cons (.bi .tuple (.cons (.var 3) .nil)) .nil)))
theorem drawn_eq : b__law_after_drawn = (.seq (.ite dC dA .skip) (.seq (.asg 3 dP) (.seq (.ret dR) .skip))) := rfl
theorem x_ifS {cal : Cal} {e : Ex} {a b : St} {r : Ev} {S1 : Hs} {q : Bool} (h : ev P0 cal e r S = .ok (.d (.bl q)) S1) : exec P0 cal (.ite e a b) r S = if q then exec P0 cal a r S1 else exec P0 cal b r S1 := x_if h
theorem drawn : ∀ (m : Nat) {k n : Nat} {S : Hs}, Dice n S → ∃ x S', c (k + m + 4) 24 [.loc n, .d J4L, .d (.int m)] S = .ok (.d x) S' ∧ Gd m x ∧ Near n S S' := by
  intro m
  induction m with
  | zero =>
    intro k n S hd
    rw [ca (fn := ⟨3, 5, b__law_after_drawn, .all⟩) rfl rfl rfl]
    show ∃ x S', fin S.length (exec P0 (c (k + 3)) b__law_after_drawn [some (.loc n), some (.d J4L), some (.d (.int 0)), none, none] S) = _ ∧ _
    rw [drawn_eq]
    obtain ⟨x, S1, a1, a2, a3⟩ := after_atom (k := k) hd
    have ec : ev P0 (c (k + 3)) dC [some (.loc n), some (.d J4L), some (.d (.int 0)), none, none] S = .ok (.d (.bl true)) S := by
      unfold dC
      exact v_or (p := true) (q := false) rfl (fun z => by cases z)
    refine ⟨x, S1, ?_, a2, a3⟩
    have e1 : exec P0 (c (k + 3)) (.ite dC dA .skip) [some (.loc n), some (.d J4L), some (.d (.int 0)), none, none] S = .ret (.d x) S1 := by
      rw [x_if ec, if_pos rfl]
      exact x_ret (x_retv (v_call (v_cons (v_loc (i := 0) (n := n) rfl) (v_one (v_var (i := 1) (x := J4L) rfl))) a1))
    rw [x_ret e1]
    exact fin_len a3.2.1
  | succ m ih =>
    intro k n S hd
    rw [show k + (m + 1) + 4 = (k + m + 4) + 1 by omega, ca (fn := ⟨3, 5, b__law_after_drawn, .all⟩) rfl rfl rfl]
    show ∃ x S', fin S.length (exec P0 (c (k + m + 4)) b__law_after_drawn [some (.loc n), some (.d J4L), some (.d (.int ((m + 1 : Nat) : Int))), none, none] S) = _ ∧ _
    rw [drawn_eq]
    generalize hr : ([some (.loc n), some (.d J4L), some (.d (.int ((m + 1 : Nat) : Int))), none, none] : Ev) = r
    have L : ∀ {S : Hs}, ev P0 (c (k + m + 4)) (.var 0) r S = .ok (.loc n) S := fun {S} => v_loc (by rw [← hr]; rfl)
    have V1 : ∀ {S : Hs}, ev P0 (c (k + m + 4)) (.var 1) r S = .ok (.d J4L) S := fun {S} => v_var (x := J4L) (by rw [← hr]; rfl)
    have V2 : ∀ {S : Hs}, ev P0 (c (k + m + 4)) (.var 2) r S = .ok (.d (.int ((m + 1 : Nat) : Int))) S := fun {S} => v_vi (by rw [← hr]; rfl)
    obtain ⟨v, S1, a1, a2, a3, a4⟩ := roll (P := P0) (fns := fns0) (k := k + m + 3) (t := 3) hroll (by decide) (by decide) hd
    have e1 : ev P0 (c (k + m + 4)) (.cmp .eq (.call 17 (.cons (.var 0) (.cons (.int 3) .nil))) (.int 0)) r S = .ok (.d (.bl (v == 0))) S1 := by
      rw [ev, v_call (v_cons L (v_one v_int)) a1]
      simp only [R.bind, v_int, rdV, cmpD, D.plain, Bool.and_self, if_true, D.eqv, Option.map_some, R.opt]
    have ec : ev P0 (c (k + m + 4)) dC r S = .ok (.d (.bl (v == 0))) S1 := by
      unfold dC
      rw [ev, le_b V2 (v_int (i := 0)), decide_eq_false (by omega)]
      simp only [R.bind]
      exact v_1 e1
    cases hv : (v == 0) with
    | true =>
      rw [hv] at ec
      obtain ⟨x, S2, b1, b2, b3⟩ := after_atom (k := k + m + 1) a4.1
      have N := a4.trans b3
      refine ⟨x, S2, ?_, .inl b2, N⟩
      have e2 : exec P0 (c (k + m + 4)) (.ite dC dA .skip) r S = .ret (.d x) S2 := by
        rw [x_if ec, if_pos rfl]
        exact x_ret (x_retv (v_call (v_cons L (v_one V1)) b1))
      rw [x_ret e2]
      exact fin_len N.2.1
    | false =>
      rw [hv] at ec
      have e2 : exec P0 (c (k + m + 4)) (.ite dC dA .skip) r S = .nx r S1 := by
        rw [x_if ec, if_neg (by decide)]; rfl
      rw [x_nx e2]
      obtain ⟨u, S2, b1, b2, b3, b4⟩ := roll (P := P0) (fns := fns0) (k := k + m + 3) (t := 2) hroll (by decide) (by decide) a4.1
      have eit : evi P0 (c (k + m + 4)) (.rng (.bin .add (.int 2) (.call 17 (.cons (.var 0) (.cons (.int 2) .nil))))) r S1 = .ok (upTo (2 + u).toNat 0) S2 :=
        e_rng (v_addS v_int (v_call (v_cons L (v_one v_int)) b1)) (by omega) (by omega)
      obtain ⟨os, S3, d1, _, d3, d4⟩ := compS (P := P0) (cal := c (k + m + 4)) (own := [4]) (t := .nm 4) (c := .bl true) (e := .call 24 (.cons (.var 0) (.cons (.var 1) (.cons (.bin .sub (.var 2) (.int 1)) .nil)))) (I := fun S' => Near n S2 S') (fun _ o => ∃ y, o = some y ∧ Gd m y) eit (by rw [upTo_length]; omega) ⟨b4.1, rfl, fun _ _ => rfl⟩ (fun x hx S' hS' => by
        obtain ⟨i, rfl, _, _⟩ := upTo_mem hx
        obtain ⟨y, S4, g1, g2, g3⟩ := ih (k := k) hS'.1
        refine ⟨[some (.loc n), some (.d J4L), some (.d (.int ((m + 1 : Nat) : Int))), none, some (.d (.int i))], S', true, by rw [← hr]; rfl, by simp only [ev], .inr ⟨rfl, y, S4, ?_, hS'.trans g3, y, rfl, g2⟩⟩
        have es : ev P0 (c (k + m + 4)) (.bin .sub (.var 2) (.int 1)) [some (.loc n), some (.d J4L), some (.d (.int ((m + 1 : Nat) : Int))), none, some (.d (.int i))] S' = .ok (.d (.int m)) S' :=
          v_b (v_vi (i := 2) (x := ((m + 1 : Nat) : Int)) rfl) v_int (by simp only [binD]; congr 2; omega)
        exact v_call (v_cons (v_loc (i := 0) (n := n) rfl) (v_cons (v_var (i := 1) (x := J4L) rfl) (v_one es))) g1)
      obtain ⟨l1, l2⟩ := ea_gd d4
      rw [upTo_length] at l1
      generalize os.filterMap id = ps at *
      have ep : exec P0 (c (k + m + 4)) (.asg 3 dP) r S1 = .nx [some (.loc n), some (.d J4L), some (.d (.int ((m + 1 : Nat) : Int))), some (.d (.lst ps)), none] S3 := by
        rw [x_asg (show ev P0 (c (k + m + 4)) dP r S1 = .ok (.d (.lst ps)) S3 from d1), ← hr]; rfl
      rw [x_nx ep]
      obtain ⟨b, S4, p1, p2, p3⟩ := pick (P := P0) (k := k + m + 2) (xs := [.str [97, 110, 100], .str [97, 110, 100], .str [111, 114]]) hroll hpick (by decide) (by decide) d3.1
      have N := ((a4.trans b4).trans d3).trans p3
      have hb : ∃ w, b = .str w ∧ (w = [97, 110, 100] ∨ w = [111, 114]) := by
        simp only [List.mem_cons, List.not_mem_nil, or_false] at p2
        rcases p2 with rfl | rfl | rfl
        · exact ⟨_, rfl, .inl rfl⟩
        · exact ⟨_, rfl, .inl rfl⟩
        · exact ⟨_, rfl, .inr rfl⟩
      obtain ⟨w, rfl, hw⟩ := hb
      refine ⟨.tup [.str w, .tup ps], S4, ?_, .inr ⟨w, ps, hw, by omega, by omega, l2, rfl⟩, N⟩
      have er : ev P0 (c (k + m + 4)) dR [some (.loc n), some (.d J4L), some (.d (.int ((m + 1 : Nat) : Int))), some (.d (.lst ps)), none] S3 = .ok (.d (.tup [.str w, .tup ps])) S4 := by
        unfold dR
        refine v_tupS (vs := [.str w, .tup ps]) (v_cons (v_call (v_cons (v_loc (i := 0) (n := n) rfl) (v_one (v_lstS (vs := [.str [97, 110, 100], .str [97, 110, 100], .str [111, 114]]) rfl (by decide)))) p1) (v_one ?_)) (by simp)
        exact v_bi1 (f := .tuple) (v_var (i := 3) (x := .lst ps) rfl) rfl
      rw [x_ret (x_retv er)]
      exact fin_len N.2.1
end K30
end
section
set_option maxRecDepth 100000
set_option maxHeartbeats 1000000
set_option exponentiation.threshold 2000
/-! U5: values that are no formulas. -/
namespace K30
open Iv Pw
variable {k : Nat} {S : Hs}
def one : D := .tup [(.str [98, 101, 103, 117, 110]), .int 1]
def deepN : Nat → D → D
  | 0, f => f
  | n + 1, f => .tup [(.str [97, 110, 100]), .tup [deepN n f, one]]
def many : D := .tup [(.str [97, 110, 100]), .tup [.tup [(.str [111, 114]), .tup (List.replicate 19 one)], .tup [(.str [111, 114]), .tup (List.replicate 19 one)], .tup [(.str [111, 114]), .tup (List.replicate 18 one)]]]
def Bn (x y f : D) : List D := [(.lst [x, y]), (.tup [(.str [110, 111, 116]), f]), (.tup [(.str [97, 110, 100]), (.tup [f])]), (.tup [(.str [111, 114]), (.lst [f, f])]), (.tup [(.str [97, 110, 100]), (.tup [f, .non])]), (.tup [(.str [111, 114]), (.tup [])]), (.tup [(.str [111, 114]), (.tup (List.replicate 21 one))]), (.tup [(.str [103, 111, 110, 101]), (.int 1)]), (.tup [(.str [119, 97, 105, 116, 105, 110, 103]), (.int 1)]), (.tup [(.str [119, 101, 108, 108]), (.int 0)]), (.tup [(.str [119, 101, 108, 108]), (.int 1000001)]), (.tup [(.str [119, 101, 108, 108]), (.bl true)]), (.tup [(.str [119, 101, 108, 108]), (.str [49])]), (.tup [(.str [119, 101, 108, 108])]), (deepN 8 f), (.tup [(.str [97, 110, 100]), (.tup ((upTo 7 1).map fun j => .tup [(.str [108, 101, 102, 116]), j]))]), (.tup [(.str [119, 101, 108, 108]), (.int 1), (.int 2)]), .non, (.str [119, 101, 108, 108, 40, 49, 41]), (.tup [(.str [111, 114]), (.tup [many, one])]), (.tup [x, y, f]), (.dct []), (.lst []), (.tup [])]
theorem bent_x (k n : Nat) (S : Hs) (x y : D) : exec P0 (c k) b__law_bent [some (.loc n), some (.d (.tup [x, y])), none, none, none, none, none, none] S = .ret (.d (.lst (Bn x y (.tup [x, y])))) S := by
  kernel_rfl
theorem bent {n : Nat} {x y : D} : c (k + 1) 26 [.loc n, .d (.tup [x, y])] S = .ok (.d (.lst (Bn x y (.tup [x, y])))) S := by
  rw [ca (fn := ⟨2, 8, b__law_bent, .all⟩) rfl rfl rfl]
  exact (congrArg (fin S.length) (bent_x k n S x y)).trans (fin_ret ..)
theorem states (k : Nat) : c (k + 8) 25 [] [] = .ok (.d (.bl true)) [] := by
  kernel_rfl
end K30
end
section
set_option maxRecDepth 100000
set_option maxHeartbeats 1000000
set_option exponentiation.threshold 2000
/-! U6: bent values are refused. -/
namespace K30
open Iv Pw
variable {k : Nat} {S : Hs}
/-- told to be none, by what is no formula -/
def No (v : D) : Prop := v.wk = v ∧ ∀ (k : Nat) (S : Hs), c (k + 13) 13 [.d v] S = .ok (.d (.bl false)) S
theorem no_nd {v : D} {n : Nat} (h : v.plain n = true) (q : ¬ nd 8 v 1 ≤ 60) : No v := ⟨plain_wk h, fun k S => is_after_no h q⟩
theorem deep_plain {f : D} {n : Nat} (h : f.plain n = true) (hn : 1 ≤ n) : ∀ m, (deepN m f).plain (n + 2 * m) = true
  | 0 => h
  | m + 1 => by
    have := deep_plain h hn m
    rw [show n + 2 * (m + 1) = ((n + 2 * m) + 1) + 1 by omega]
    obtain ⟨z, q⟩ : ∃ z, n + 2 * m = z + 1 := ⟨n + 2 * m - 1, by omega⟩
    rw [q] at this ⊢
    simp only [deepN, D.plain, D.plains, this, one, Bool.and_self]
theorem no_dct : No (.dct []) := by
  refine ⟨rfl, fun k S => ?_⟩
  have hn : c (k + 12) 10 [.d (.dct []), .d (.int 1)] S = .ok (.d (.int 61)) S := by
    rw [show k + 12 = (k + 11) + 1 by omega, ca (fn := ⟨2, 6, b_after_nodes, .all⟩) rfl rfl rfl]
    exact (congrArg (fin S.length) (show exec P0 (c (k + 11)) b_after_nodes [some (.d (.dct [])), some (.d (.int 1)), none, none, none, none] S = .ret (.d (.int 61)) S by kernel_rfl)).trans (fin_ret ..)
  rw [ca (fn := ⟨1, 1, b_is_after_formula, .all⟩) rfl rfl rfl, ← fin_ret]
  refine congrArg (fin S.length) ?_
  show exec P0 (c (k + 12)) b_is_after_formula [some (.d (.dct []))] S = _
  unfold b_is_after_formula
  refine x_ret (x_retv ?_)
  have e1 := le_b (b := .glob 9) (j := 60) (v_call (v_cons (v_var (P := P0) (cal := c (k + 12)) (S := S) (r := [some (.d (.dct []))]) (i := 0) (x := .dct []) rfl) (v_one (v_int (i := 1)))) hn) rfl
  rw [decide_eq_false (by decide)] at e1
  exact v_and (q := false) e1 (fun z => by cases z)
/-- seven jobs are too many -/
def seven : D := .tup [.str [97, 110, 100], .tup ((upTo 7 1).map fun j => .tup [.str [108, 101, 102, 116], j])]
theorem no_seven : No seven := by
  refine ⟨rfl, fun k S => ?_⟩
  have h := is_after_if (k := k) (S := S) (x := seven) (n := 5) (m := 1) (by kernel_rfl) (by rw [show nd 8 seven 1 = 8 by kernel_rfl]; decide) (by decide) (by kernel_rfl) (by rw [show (ats 1 seven).length = 7 by kernel_rfl]; decide)
  rw [show (ded (js 1 seven) []).length = 7 by kernel_rfl, decide_eq_false (by decide)] at h
  exact h
theorem bent_no {x y : D} (h : Gd 3 (.tup [x, y])) : ∀ v ∈ Bn x y (.tup [x, y]), No v := by
  have p7 : (D.tup [x, y]).plain 7 = true := h.plain (by decide)
  have p8 : (D.tup [x, y]).plain 8 = true := h.plain (by decide)
  have q7 : x.plain 6 = true ∧ y.plain 6 = true := by
    obtain ⟨m, e, hm⟩ := plain_tup p7
    cases e
    exact ⟨plain_mem hm x (by simp), plain_mem hm y (by simp)⟩
  have q8 : x.plain 7 = true ∧ y.plain 7 = true := by
    obtain ⟨m, e, hm⟩ := plain_tup p8
    cases e
    exact ⟨plain_mem hm x (by simp), plain_mem hm y (by simp)⟩
  have hn := (h.nd (f := 7) (d := 2) (by decide) (by decide)).1
  generalize hf : D.tup [x, y] = f at *
  intro v hv
  unfold Bn at hv
  simp only [List.mem_cons, List.not_mem_nil, or_false] at hv
  have c0 : ∀ {v : D} {n : Nat}, v.plain n = true → nd 8 v 1 = 61 → No v := fun h e => no_nd h (by rw [e]; decide)
  rcases hv with rfl | rfl | rfl | rfl | rfl | rfl | rfl | rfl | rfl | rfl | rfl | rfl | rfl | rfl | rfl | rfl | rfl | rfl | rfl | rfl | rfl | rfl | rfl | rfl
  · exact c0 (n := 7) (by simp only [D.plain, D.plains, q7, Bool.and_self]) rfl
  · exact c0 (n := 8) (by simp only [D.plain, D.plains, p7, Bool.and_self]) rfl
  · exact c0 (n := 9) (by simp only [D.plain, D.plains, p7, Bool.and_self]) rfl
  · exact c0 (n := 9) (by simp only [D.plain, D.plains, p7, Bool.and_self]) rfl
  · refine no_nd (n := 9) (by simp only [D.plain, D.plains, p7, Bool.and_self]) ?_
    rw [show nd 8 (.tup [.str [97, 110, 100], .tup [f, .non]]) 1 = 1 + (nd 7 f 2 + (61 + 0)) from rfl]
    omega
  · exact c0 (n := 9) rfl rfl
  · exact c0 (n := 9) rfl rfl
  · exact c0 (n := 9) rfl rfl
  · exact c0 (n := 9) rfl rfl
  · exact c0 (n := 9) rfl rfl
  · exact c0 (n := 9) rfl rfl
  · exact c0 (n := 9) rfl rfl
  · exact c0 (n := 9) rfl rfl
  · exact c0 (n := 9) rfl rfl
  · exact no_nd (deep_plain p7 (by decide) 8) (by rw [show nd 8 (deepN 8 f) 1 = 137 by kernel_rfl]; decide)
  · exact no_seven
  · exact c0 (n := 9) rfl rfl
  · exact c0 (n := 9) rfl rfl
  · exact c0 (n := 9) rfl rfl
  · exact no_nd (n := 12) (by kernel_rfl) (by rw [show nd 8 (.tup [.str [111, 114], .tup [many, one]]) 1 = 62 by kernel_rfl]; decide)
  · exact c0 (n := 8) (by simp only [D.plain, D.plains, p7, q8, Bool.and_self]) rfl
  · exact no_dct
  · exact c0 (n := 9) rfl rfl
  · exact c0 (n := 9) rfl rfl
/-! ### words that are no states -/
def Wd : List D := [.non, .int 0, .str [111, 118, 101, 114], .str [87, 101, 108, 108], .str [], .tup [.str [119, 101, 108, 108]], .lst [], .dct [], .bl true]
theorem is_state_no {v : D} (h : v ∈ Wd) : c (k + 1) 0 [.d v] S = .ok (.d (.bl false)) S := by
  rw [ca (fn := ⟨1, 1, b_is_state, .all⟩) rfl rfl rfl]
  unfold Wd at h
  simp only [List.mem_cons, List.not_mem_nil, or_false] at h
  have key : exec P0 (c k) b_is_state [some (.d v)] S = .ret (.d (.bl false)) S := by
    rcases h with rfl | rfl | rfl | rfl | rfl | rfl | rfl | rfl | rfl <;> rfl
  exact (congrArg (fin S.length) key).trans (fin_ret ..)
theorem wd_wk {v : D} (h : v ∈ Wd) : v.wk = v := by
  unfold Wd at h
  simp only [List.mem_cons, List.not_mem_nil, or_false] at h
  rcases h with rfl | rfl | rfl | rfl | rfl | rfl | rfl | rfl | rfl <;> rfl
theorem waiting_yes : c (k + 1) 0 [.d (.str [119, 97, 105, 116, 105, 110, 103])] S = .ok (.d (.bl true)) S := by
  rw [ca (fn := ⟨1, 1, b_is_state, .all⟩) rfl rfl rfl]
  exact (congrArg (fin S.length) (show exec P0 (c k) b_is_state [some (.d (.str [119, 97, 105, 116, 105, 110, 103]))] S = .ret (.d (.bl true)) S from rfl)).trans (fin_ret ..)
theorem req_no {v : D} (h : v ∈ Wd) : c (k + 2) 1 [.d v] S = .exc 1 [] S := by
  rw [ca (fn := ⟨1, 1, b_require_state, .all⟩) rfl rfl rfl]
  show fin S.length (exec P0 (c (k + 1)) b_require_state [some (.d v)] S) = _
  unfold b_require_state
  have V : ev P0 (c (k + 1)) (.var 0) [some (.d v)] S = .ok (.d v) S := by rw [v_var (i := 0) (x := v) rfl, wd_wk h]
  have e1 := v_not (v_call (v_one V) (is_state_no h))
  have e2 : exec P0 (c (k + 1)) (.ite (.not (.call 0 (.cons (.var 0) .nil))) (.seq (.rse 1 .nil) .skip) .skip) [some (.d v)] S = .exc 1 [] [some (.d v)] S := by
    rw [x_if e1, Bool.not_false, if_pos rfl]; rfl
  rw [show exec P0 (c (k + 1)) (.seq (.ite (.not (.call 0 (.cons (.var 0) .nil))) (.seq (.rse 1 .nil) .skip) .skip) .skip) [some (.d v)] S = .exc 1 [] [some (.d v)] S by rw [exec, e2]]
  exact fin_exc ..
theorem req_waiting : c (k + 2) 1 [.d (.str [119, 97, 105, 116, 105, 110, 103])] S = .ok (.d .non) S := by
  rw [ca (fn := ⟨1, 1, b_require_state, .all⟩) rfl rfl rfl]
  show fin S.length (exec P0 (c (k + 1)) b_require_state [some (.d (.str [119, 97, 105, 116, 105, 110, 103]))] S) = _
  unfold b_require_state
  have e1 := v_not (v_call (v_one (v_var (P := P0) (cal := c (k + 1)) (S := S) (r := [some (.d (.str [119, 97, 105, 116, 105, 110, 103]))]) (i := 0) (x := .str [119, 97, 105, 116, 105, 110, 103]) rfl)) (waiting_yes (k := k)))
  rw [x_nx (r1 := [some (.d (.str [119, 97, 105, 116, 105, 110, 103]))]) (S1 := S) (by rw [x_if e1, Bool.not_true, if_neg (by decide)]; rfl)]
  exact fin_nx ..
/-- an error ends the body -/
theorem x_excE {cal : Cal} {e : Ex} {b : St} {r : Ev} {j : Nat} {fs : List D} (h : ev P0 cal e r S = .exc j fs S) : exec P0 cal (.seq (.expr e) b) r S = .exc j fs r S := by
  simp only [exec, h, R.st]
theorem ends_no {v : D} (h : v ∈ Wd) : c (k + 3) 3 [.d v] S = .exc 1 [] S := by
  rw [ca (fn := ⟨1, 1, b_ends_of, .all⟩) rfl rfl rfl]
  show fin S.length (exec P0 (c (k + 2)) b_ends_of [some (.d v)] S) = _
  unfold b_ends_of
  have V : ev P0 (c (k + 2)) (.var 0) [some (.d v)] S = .ok (.d v) S := by rw [v_var (i := 0) (x := v) rfl, wd_wk h]
  rw [x_excE (v_call (v_one V) (req_no h))]
  exact fin_exc ..
theorem atoms_no {v : D} (h : v ∈ Wd) : c (k + 3) 5 [.d v] S = .exc 1 [] S := by
  rw [ca (fn := ⟨1, 2, b_atoms_of, .all⟩) rfl rfl rfl]
  show fin S.length (exec P0 (c (k + 2)) b_atoms_of [some (.d v), none] S) = _
  unfold b_atoms_of
  have V : ev P0 (c (k + 2)) (.var 0) [some (.d v), none] S = .ok (.d v) S := by rw [v_var (i := 0) (x := v) rfl, wd_wk h]
  rw [x_excE (v_call (v_one V) (req_no h))]
  exact fin_exc ..
theorem follow_no1 {v u : D} (h : v ∈ Wd) : c (k + 3) 6 [.d v, .d u] S = .exc 1 [] S := by
  rw [ca (fn := ⟨2, 2, b_may_follow, .all⟩) rfl rfl rfl]
  show fin S.length (exec P0 (c (k + 2)) b_may_follow [some (.d v), some (.d u)] S) = _
  unfold b_may_follow
  have V : ev P0 (c (k + 2)) (.var 0) [some (.d v), some (.d u)] S = .ok (.d v) S := by rw [v_var (i := 0) (x := v) rfl, wd_wk h]
  rw [x_excE (v_call (v_one V) (req_no h))]
  exact fin_exc ..
theorem follow_no2 {v : D} (h : v ∈ Wd) : c (k + 3) 6 [.d (.str [119, 97, 105, 116, 105, 110, 103]), .d v] S = .exc 1 [] S := by
  rw [ca (fn := ⟨2, 2, b_may_follow, .all⟩) rfl rfl rfl]
  show fin S.length (exec P0 (c (k + 2)) b_may_follow [some (.d (.str [119, 97, 105, 116, 105, 110, 103])), some (.d v)] S) = _
  unfold b_may_follow
  have V : ev P0 (c (k + 2)) (.var 1) [some (.d (.str [119, 97, 105, 116, 105, 110, 103])), some (.d v)] S = .ok (.d v) S := by rw [v_var (i := 1) (x := v) rfl, wd_wk h]
  rw [x_nx (x_expr (v_call (v_one (v_var (i := 0) (x := .str [119, 97, 105, 116, 105, 110, 103]) rfl)) req_waiting)), x_excE (v_call (v_one V) (req_no h))]
  exact fin_exc ..
theorem v_rfc {cal : Cal} {r : Ev} {f e : Nat} {es : Ex} {vs : List Vl} {fs : List D} {S1 S2 : Hs} (h : evs P0 cal es r S = .ok vs S1) (h2 : cal f vs S1 = .exc e fs S2) (he : e = 0 ∨ e = 1) : ev P0 cal (.rfc 0 f es) r S = .ok (.d (.bl true)) S2 := by
  rw [ev, h]
  simp only [R.bind, h2]
  rw [show P0.rfs[0]? = some (0, 1) from rfl]
  dsimp only
  rw [if_pos (by rcases he with rfl | rfl <;> rfl)]
end K30
end
section
set_option maxRecDepth 100000
set_option maxHeartbeats 1000000
set_option exponentiation.threshold 2000
/-! U7: the law of k30. -/
namespace K30
open Iv Pw
variable {k : Nat} {S : Hs}
theorem plains_ints (n : Nat) : ∀ l : List Int, D.plains (l.map .int) n = true
  | [] => by simp [D.plains]
  | a :: l => by simp only [List.map_cons, D.plains, D.plain, plains_ints n l, Bool.and_self]
theorem eqvs_ints : ∀ l : List Int, D.eqvs (l.map .int) (l.map .int) = true
  | [] => rfl
  | a :: l => by simp only [List.map_cons, D.eqvs, D.eqv, beq_self_eq_true, eqvs_ints l, Bool.and_self]
theorem v_isbn {cal : Cal} {r : Ev} {e : Ex} {b q : Bool} {S1 : Hs} (h : ev P0 cal e r S = .ok (.d (.bl q)) S1) : ev P0 cal (.isb true b e) r S = .ok (.d (.bl (!decide (q = b)))) S1 := by
  simp only [ev, h, R.bind, if_true]
theorem v_isbp {cal : Cal} {r : Ev} {e : Ex} {b q : Bool} {S1 : Hs} (h : ev P0 cal e r S = .ok (.d (.bl q)) S1) : ev P0 cal (.isb false b e) r S = .ok (.d (.bl (decide (q = b)))) S1 := by
  simp only [ev, h, R.bind, Bool.false_eq_true, if_false]
/-- the drawn formula is one -/
theorem few4 {x : D} (h : Gd 3 x) : ((ded (js 3 x) []).length : Int) ≤ 6 := by
  obtain ⟨h1, h2⟩ := ded_ok (l := js 3 x) (acc := []) List.nodup_nil
  have h4 : J4.Nodup := by decide
  have := few h1 h4 fun a ha => h.js a (((h2 a).mp ha).resolve_left (by simp))
  have : J4.length = 4 := rfl
  omega
theorem gd_is {x : D} (h : Gd 3 x) : c (k + 13) 13 [.d x] S = .ok (.d (.bl true)) S := by
  have hb : Bd 3 = 40 := by decide
  have := is_after_if (k := k) (S := S) (n := 7) (m := 3) (h.plain (by decide)) (by have := (h.nd (f := 8) (d := 1) (by decide) (by decide)).2; omega) (by decide) h.isF (by have := h.ats; omega)
  rw [decide_eq_true (few4 h)] at this
  exact this
def bA : St := (.ite (.or (.isb true true (.call 13 (.cons (.var 3) .nil))) (.one (.cmp .ne (.call 15 (.cons (.var 3) .nil)) (.bi .tuple (.cons (.call 22 (.cons (.var 3) .nil)) .nil))))) (.seq (.ret (.bl false)) .skip) .skip)
def bB : Ex := (.comp [8] (.nm 8) (.one (.var 4)) (.one (.isb true false (.call 13 (.cons (.var 8) .nil)))) (.var 8))
def bC : Ex := (.tup (.cons (.call 18 (.cons (.var 2) (.cons (.var 4) .nil))) (.cons (.call 18 (.cons (.var 2) (.cons (.lst (.cons .non (.cons (.int 0) (.cons (.str [111, 118, 101, 114]) (.cons (.str [87, 101, 108, 108]) (.cons (.str []) (.cons (.tup (.cons (.str [119, 101, 108, 108]) .nil)) (.cons (.lst .nil) (.cons .dct0 (.cons (.bl true) .nil)))))))))) .nil))) .nil)))
def bD : St := (.seq (.asg 5 (.newl (.cons (.rfc 0 15 (.cons (.var 6) .nil)) .nil))) (.seq (.app 5 (.rfc 0 3 (.cons (.var 7) .nil))) (.seq (.app 5 (.rfc 0 5 (.cons (.var 7) .nil))) (.seq (.app 5 (.rfc 0 6 (.cons (.str [119, 97, 105, 116, 105, 110, 103]) (.cons (.var 7) .nil)))) (.seq (.app 5 (.rfc 0 6 (.cons (.var 7) (.cons (.str [108, 101, 102, 116]) .nil)))) (.seq (.ite (.or (.cmp .ne (.var 5) (.bin .mul (.lst (.cons (.bl true) .nil)) (.int 5))) (.one (.isb true false (.call 0 (.cons (.var 7) .nil))))) (.seq (.ret (.bl false)) .skip) .skip) .skip))))))
def bL : St := (.seq (.asg 2 (.call 16 (.cons (.var 0) (.cons (.var 1) .nil)))) (.seq (.asg 3 (.call 24 (.cons (.var 2) (.cons (.lst (.cons (.int 1) (.cons (.int 2) (.cons (.int 30) (.cons (.int 1000000) .nil))))) (.cons (.int 3) .nil))))) (.seq bA (.seq (.asg 4 (.call 26 (.cons (.var 2) (.cons (.var 3) .nil)))) (.seq (.ite (.cmp .ne bB (.lst .nil)) (.seq (.ret (.bl false)) .skip) .skip) (.seq (.asgT (.tp (.cons (.nm 6) (.cons (.nm 7) .nil))) bC) bD))))))
def bO : Ex := (.tup (.cons (.str [98, 101, 103, 117, 110]) (.cons (.int 1) .nil)))
def bM : Ex := (.tup (.cons (.str [97, 110, 100]) (.cons (.tup (.cons (.tup (.cons (.str [111, 114]) (.cons (.bin .mul (.tup (.cons (.var 9) .nil)) (.int 19)) .nil))) (.cons (.tup (.cons (.str [111, 114]) (.cons (.bin .mul (.tup (.cons (.var 9) .nil)) (.int 19)) .nil))) (.cons (.tup (.cons (.str [111, 114]) (.cons (.bin .mul (.tup (.cons (.var 9) .nil)) (.int 18)) .nil))) .nil)))) .nil)))
def bS : Ex := (.tup (.cons (.str [97, 110, 100]) (.cons (.bi .tuple (.cons (.comp [11] (.nm 11) (.rng (.int 6)) (.bl true) (.tup (.cons (.str [108, 101, 102, 116]) (.cons (.bin .add (.var 11) (.int 1)) .nil)))) .nil)) .nil)))
def bR : St := (.seq (.asg 9 bO) (.seq (.asg 10 bM) (.seq (.ret (.and (.isb false true (.call 13 (.cons (.var 10) .nil))) (.one (.isb false true (.call 13 (.cons bS .nil)))))) .skip)))
theorem law_eq : b_law = (.seq (.ite (.not (.call0 25)) (.seq (.ret (.bl false)) .skip) .skip) (.seq (.loop (.nm 1) (.rng (.bi .max2 (.cons (.int 1) (.cons (.bi .min2 (.cons (.int 4) (.cons (.bi .len (.cons (.var 0) .nil)) .nil))) .nil)))) bL) bR)) := rfl
def Rw (ns : List Int) (x1 x2 x3 x4 x5 x6 x7 x8 : Option Vl) : Ev := [some (.d (.ro (ns.map .int))), x1, x2, x3, x4, x5, x6, x7, x8, none, none, none]
theorem stepA {ns : List Int} {x1 x2 x4 x5 x6 x7 x8 : Option Vl} {x : D} (h : Gd 3 x) : exec P0 (c (k + 15)) bA (Rw ns x1 x2 (some (.d x)) x4 x5 x6 x7 x8) S = .nx (Rw ns x1 x2 (some (.d x)) x4 x5 x6 x7 x8) S := by
  have hw : x.wk = x := isF_tup h.isF
  have V : ev P0 (c (k + 15)) (.var 3) (Rw ns x1 x2 (some (.d x)) x4 x5 x6 x7 x8) S = .ok (.d x) S := by rw [v_var (i := 3) (x := x) rfl, hw]
  have e1 := v_isbn (b := true) (v_call (v_one V) (gd_is (k := k + 2) (S := S) h))
  have hl : (ats 3 x).length ≤ 1000 := by have := h.ats; omega
  have e2 := v_call (v_one V) (jobs_yes (k := k) (S := S) (m := 3) hw (gd_is (k := k) h) (by decide) h.isF hl)
  obtain ⟨l, l1, l2, l3⟩ := after_jobs 3 (k := k + 11) (S := S) h.isF hl
  have hs : sI l = sI (ded (js 3 x) []) := by
    obtain ⟨d1, d2⟩ := ded_ok (l := js 3 x) (acc := []) List.nodup_nil
    exact sI_same l2 d1 fun a => by rw [l3, d2]; simp
  rw [hs] at l1
  have e3 := v_bi1 (f := .tuple) (y := .tup ((sI (ded (js 3 x) [])).map .int)) (v_call (v_one V) l1) rfl
  have e4 : ev P0 (c (k + 15)) (.cmp .ne (.call 15 (.cons (.var 3) .nil)) (.bi .tuple (.cons (.call 22 (.cons (.var 3) .nil)) .nil))) (Rw ns x1 x2 (some (.d x)) x4 x5 x6 x7 x8) S = .ok (.d (.bl false)) S := by
    rw [ev, e2]
    simp only [R.bind]
    rw [e3]
    have hp : ∀ l : List Int, D.plain (.tup (l.map .int)) deep = true := fun l => plains_ints _ l
    simp only [rdV, cmpD, hp, D.eqv, eqvs_ints, Bool.and_self, if_true, Option.map_some, R.opt, Bool.not_true]
  unfold bA
  exact x_no (v_ors e1 (v_1 e4))
theorem stepB {r : Ev} {xs : List D} (hr : r[4]? = some (some (.d (.lst xs)))) (h8 : ∀ v, asgD (.nm 8) v (wipes r [8]) = some (r.set 8 (some (.d v))) ∧ (r.set 8 (some (.d v)))[8]? = some (some (.d v))) (hl : xs.length ≤ 1000000) (hn : ∀ v ∈ xs, No v) : ev P0 (c (k + 15)) (.cmp .ne bB (.lst .nil)) r S = .ok (.d (.bl false)) S := by
  have eit : evi P0 (c (k + 15)) (.one (.var 4)) r S = .ok xs S := by rw [evi, v_var hr]; rfl
  have ec := e_comp (cal := c (k + 15)) (own := [8]) (t := .nm 8) (c := .one (.isb true false (.call 13 (.cons (.var 8) .nil)))) (e := .var 8) (fun _ => false) (fun v => v) eit hl (fun v hv => by
    obtain ⟨n1, n2⟩ := hn v hv
    refine ⟨_, (h8 v).1, v_1 ?_, fun z => by cases z⟩
    have e1 : ev P0 (c (k + 15)) (.var 8) (r.set 8 (some (.d v))) S = .ok (.d v) S := by rw [v_var (h8 v).2, n1]
    exact v_isbn (b := false) (v_call (v_one e1) (n2 (k + 2) S)))
  rw [List.filter_eq_nil_iff.mpr (by simp)] at ec
  have e0 : ev P0 (c (k + 15)) (.lst .nil) r S = .ok (.d (.lst [])) S := by
    rw [ev, v_nil]; rfl
  rw [ev, show ev P0 (c (k + 15)) bB r S = .ok (.d (.lst [])) S from ec]
  simp only [R.bind]
  rw [e0]
  rfl
theorem stepC {r : Ev} {n : Nat} {xs : List D} (h2 : r[2]? = some (some (.loc n))) (h4 : r[4]? = some (some (.d (.lst xs)))) (h0 : 0 < xs.length) (h1 : xs.length < 1000) (hd : Dice n S) : ∃ v w S', ev P0 (c (k + 15)) bC r S = .ok (.d (.tup [v, w])) S' ∧ v ∈ xs ∧ w ∈ Wd ∧ Near n S S' := by
  obtain ⟨v, S1, a1, a2, a3⟩ := pick (P := P0) (k := k + 13) (xs := xs) hroll hpick h0 h1 hd
  obtain ⟨w, S2, b1, b2, b3⟩ := pick (P := P0) (k := k + 13) (xs := Wd) hroll hpick (by decide) (by decide) a3.1
  refine ⟨v, w, S2, ?_, a2, b2, a3.trans b3⟩
  have eW : ∀ {S : Hs}, ev P0 (c (k + 15)) (.lst (.cons .non (.cons (.int 0) (.cons (.str [111, 118, 101, 114]) (.cons (.str [87, 101, 108, 108]) (.cons (.str []) (.cons (.tup (.cons (.str [119, 101, 108, 108]) .nil)) (.cons (.lst .nil) (.cons .dct0 (.cons (.bl true) .nil)))))))))) r S = .ok (.d (.lst Wd)) S := fun {S} => rfl
  unfold bC
  exact v_tupS (vs := [v, w]) (v_cons (v_call (v_cons (v_loc h2) (v_one (v_var (x := .lst xs) h4))) a1) (v_one (v_call (v_cons (v_loc h2) (v_one eW)) b1))) (by simp)
theorem stepD {ns : List Int} {x1 x2 x3 x4 x5 x8 : Option Vl} {v w : D} (hv : No v) (hw : w ∈ Wd) : ∃ S', exec P0 (c (k + 15)) bD (Rw ns x1 x2 x3 x4 x5 (some (.d v)) (some (.d w)) x8) S = .nx (Rw ns x1 x2 x3 x4 (some (.loc S.length)) (some (.d v)) (some (.d w)) x8) S' := by
  have W6 : ∀ {S : Hs} {y : Option Vl}, ev P0 (c (k + 15)) (.var 6) (Rw ns x1 x2 x3 x4 y (some (.d v)) (some (.d w)) x8) S = .ok (.d v) S := fun {S y} => by rw [v_var (i := 6) (x := v) rfl, hv.1]
  have W7 : ∀ {S : Hs} {y : Option Vl}, ev P0 (c (k + 15)) (.var 7) (Rw ns x1 x2 x3 x4 y (some (.d v)) (some (.d w)) x8) S = .ok (.d w) S := fun {S y} => by rw [v_var (i := 7) (x := w) rfl, wd_wk hw]
  unfold bD
  have e1 := v_rfc (v_one (W6 (S := S) (y := x5))) (jobs_no (k := k) hv.1 (hv.2 k S)) (.inl rfl)
  have e1' : ev P0 (c (k + 15)) (.newl (.cons (.rfc 0 15 (.cons (.var 6) .nil)) .nil)) (Rw ns x1 x2 x3 x4 x5 (some (.d v)) (some (.d w)) x8) S = .ok (.loc S.length) (S ++ [.lst [.bl true]]) := by
    rw [ev, v_one e1]; rfl
  rw [x_nx (x_asg e1')]
  show ∃ S', exec P0 (c (k + 15)) _ (Rw ns x1 x2 x3 x4 (some (.loc S.length)) (some (.d v)) (some (.d w)) x8) (S ++ [.lst [.bl true]]) = _
  have G : ∀ xs : List D, (S ++ [Ob.lst xs])[S.length]? = some (.lst xs) := fun xs => by simp
  have st : ∀ xs ys : List D, (S ++ [Ob.lst xs]).set S.length (.lst ys) = S ++ [.lst ys] := fun xs ys => by
    rw [List.set_append_right _ _ (Nat.le_refl _), Nat.sub_self]; rfl
  have A : ∀ {e : Ex} {xs : List D}, xs.length < 1000 → ev P0 (c (k + 15)) e (Rw ns x1 x2 x3 x4 (some (.loc S.length)) (some (.d v)) (some (.d w)) x8) (S ++ [.lst xs]) = .ok (.d (.bl true)) (S ++ [.lst xs]) → exec P0 (c (k + 15)) (.app 5 e) (Rw ns x1 x2 x3 x4 (some (.loc S.length)) (some (.d v)) (some (.d w)) x8) (S ++ [.lst xs]) = .nx (Rw ns x1 x2 x3 x4 (some (.loc S.length)) (some (.d v)) (some (.d w)) x8) (S ++ [.lst (xs ++ [.bl true])]) := fun {e xs} hl h => by
    have := x_app (i := 5) (n := S.length) (r := Rw ns x1 x2 x3 x4 (some (.loc S.length)) (some (.d v)) (some (.d w)) x8) rfl (G xs) h (by have : big = 1000000 := rfl; omega)
    rw [st] at this
    exact this
  rw [x_nx (A (by decide) (v_rfc (v_one W7) (ends_no (k := k + 12) hw) (.inr rfl)))]
  rw [x_nx (A (by decide) (v_rfc (v_one W7) (atoms_no (k := k + 12) hw) (.inr rfl)))]
  rw [x_nx (A (by decide) (v_rfc (v_cons v_str (v_one W7)) (follow_no2 (k := k + 12) hw) (.inr rfl)))]
  rw [x_nx (A (by decide) (v_rfc (v_cons W7 (v_one v_str)) (follow_no1 (k := k + 12) hw) (.inr rfl)))]
  refine ⟨S ++ [.lst [.bl true, .bl true, .bl true, .bl true, .bl true]], ?_⟩
  show exec P0 (c (k + 15)) _ (Rw ns x1 x2 x3 x4 (some (.loc S.length)) (some (.d v)) (some (.d w)) x8) (S ++ [.lst [.bl true, .bl true, .bl true, .bl true, .bl true]]) = _
  have m1 : ev P0 (c (k + 15)) (.bin .mul (.lst (.cons (.bl true) .nil)) (.int 5)) (Rw ns x1 x2 x3 x4 (some (.loc S.length)) (some (.d v)) (some (.d w)) x8) (S ++ [.lst [.bl true, .bl true, .bl true, .bl true, .bl true]]) = .ok (.d (.lst [.bl true, .bl true, .bl true, .bl true, .bl true])) (S ++ [.lst [.bl true, .bl true, .bl true, .bl true, .bl true]]) := rfl
  have m2 : ev P0 (c (k + 15)) (.cmp .ne (.var 5) (.bin .mul (.lst (.cons (.bl true) .nil)) (.int 5))) (Rw ns x1 x2 x3 x4 (some (.loc S.length)) (some (.d v)) (some (.d w)) x8) (S ++ [.lst [.bl true, .bl true, .bl true, .bl true, .bl true]]) = .ok (.d (.bl false)) (S ++ [.lst [.bl true, .bl true, .bl true, .bl true, .bl true]]) := by
    rw [ev, v_loc (i := 5) (n := S.length) rfl]
    simp only [R.bind]
    rw [m1]
    simp only [rdV, G]
    rfl
  have m3 := v_isbn (b := false) (v_call (v_one (W7 (S := S ++ [.lst [.bl true, .bl true, .bl true, .bl true, .bl true]]) (y := some (.loc S.length)))) (is_state_no (k := k + 14) hw))
  rw [x_nx (x_no (v_ors m2 (v_1 m3)))]
  simp only [exec]
theorem bn_len {x y f : D} : (Bn x y f).length = 24 := rfl
theorem turnL {ns : List Int} {i : Int} {x2 x3 x4 x5 x6 x7 x8 : Option Vl} (h0 : 0 ≤ i) : ∃ y2 y3 y4 y5 y6 y7 S', exec P0 (c (k + 15)) bL (Rw ns (some (.d (.int i))) x2 x3 x4 x5 x6 x7 x8) S = .nx (Rw ns (some (.d (.int i))) y2 y3 y4 y5 y6 y7 x8) S' := by
  obtain ⟨a, b, d1⟩ := dice (fns := fns0) (P := P0) (k := k + 14) (S := S) (ns := ns) (i := i) hdice h0
  have hD : Dice S.length (S ++ [.lst [.int a, .int b, .int 0]]) := ⟨a, b, 0, by simp⟩
  generalize hm : S.length = m at *
  generalize S ++ [Ob.lst [.int a, .int b, .int 0]] = S1 at *
  obtain ⟨x, S2, e1, e2, e3⟩ := drawn 3 (k := k + 8) hD
  obtain ⟨xa, xb, rfl⟩ := e2.shape
  unfold bL
  have c0 := v_call (v_cons (v_ro (P := P0) (cal := c (k + 15)) (S := S) (r := Rw ns (some (.d (.int i))) x2 x3 x4 x5 x6 x7 x8) (i := 0) (xs := ns.map .int) rfl) (v_one (v_vi (i := 1) (x := i) rfl))) d1
  rw [x_nx (x_asg c0)]
  show ∃ y2 y3 y4 y5 y6 y7 S', exec P0 (c (k + 15)) _ (Rw ns (some (.d (.int i))) (some (.loc m)) x3 x4 x5 x6 x7 x8) S1 = _
  have c1 : ev P0 (c (k + 15)) (.call 24 (.cons (.var 2) (.cons (.lst (.cons (.int 1) (.cons (.int 2) (.cons (.int 30) (.cons (.int 1000000) .nil))))) (.cons (.int 3) .nil)))) (Rw ns (some (.d (.int i))) (some (.loc m)) x3 x4 x5 x6 x7 x8) S1 = .ok (.d (.tup [xa, xb])) S2 := by
    refine v_call (v_cons (v_loc (i := 2) (n := m) rfl) (v_cons (v_lstS (vs := [.int 1, .int 2, .int 30, .int 1000000]) rfl (by decide)) (v_one v_int))) e1
  rw [x_nx (x_asg c1)]
  show ∃ y2 y3 y4 y5 y6 y7 S', exec P0 (c (k + 15)) _ (Rw ns (some (.d (.int i))) (some (.loc m)) (some (.d (.tup [xa, xb]))) x4 x5 x6 x7 x8) S2 = _
  rw [x_nx (stepA e2)]
  have c2 : ev P0 (c (k + 15)) (.call 26 (.cons (.var 2) (.cons (.var 3) .nil))) (Rw ns (some (.d (.int i))) (some (.loc m)) (some (.d (.tup [xa, xb]))) x4 x5 x6 x7 x8) S2 = .ok (.d (.lst (Bn xa xb (.tup [xa, xb])))) S2 :=
    v_call (v_cons (v_loc (i := 2) (n := m) rfl) (v_one (v_var (i := 3) (x := .tup [xa, xb]) rfl))) bent
  rw [x_nx (x_asg c2)]
  have hno := bent_no e2
  have hlen := bn_len (x := xa) (y := xb) (f := .tup [xa, xb])
  generalize Bn xa xb (.tup [xa, xb]) = xs at *
  show ∃ y2 y3 y4 y5 y6 y7 S', exec P0 (c (k + 15)) _ (Rw ns (some (.d (.int i))) (some (.loc m)) (some (.d (.tup [xa, xb]))) (some (.d (.lst xs))) x5 x6 x7 x8) S2 = _
  rw [x_nx (x_no (stepB (r := Rw ns (some (.d (.int i))) (some (.loc m)) (some (.d (.tup [xa, xb]))) (some (.d (.lst xs))) x5 x6 x7 x8) rfl (fun v => ⟨rfl, rfl⟩) (by omega) hno))]
  obtain ⟨v, w, S3, f1, f2, f3, f4⟩ := stepC (k := k) (r := Rw ns (some (.d (.int i))) (some (.loc m)) (some (.d (.tup [xa, xb]))) (some (.d (.lst xs))) x5 x6 x7 x8) rfl rfl (by omega) (by omega) e3.1
  have c3 : exec P0 (c (k + 15)) (.asgT (.tp (.cons (.nm 6) (.cons (.nm 7) .nil))) bC) (Rw ns (some (.d (.int i))) (some (.loc m)) (some (.d (.tup [xa, xb]))) (some (.d (.lst xs))) x5 x6 x7 x8) S2 = .nx (Rw ns (some (.d (.int i))) (some (.loc m)) (some (.d (.tup [xa, xb]))) (some (.d (.lst xs))) x5 (some (.d v)) (some (.d w)) x8) S3 := by
    rw [exec, f1]; rfl
  rw [x_nx c3]
  obtain ⟨S4, g1⟩ := stepD (k := k) (S := S3) (ns := ns) (x1 := some (.d (.int i))) (x2 := some (.loc m)) (x3 := some (.d (.tup [xa, xb]))) (x4 := some (.d (.lst xs))) (x5 := x5) (x8 := x8) (hno v f2) f3
  exact ⟨_, _, _, _, _, _, S4, g1⟩
theorem v_isbt {e : Ex} {r : Ev} {x : D} (h : ev P0 (c (k + 15)) e r S = .ok (.d x) S) (h2 : c (k + 15) 13 [.d x] S = .ok (.d (.bl true)) S) : ev P0 (c (k + 15)) (.isb false true (.call 13 (.cons e .nil))) r S = .ok (.d (.bl true)) S := v_isbp (b := true) (v_call (v_one h) h2)
def six : D := .tup [.str [97, 110, 100], .tup ((upTo 6 1).map fun j => .tup [.str [108, 101, 102, 116], j])]
theorem ma1 : nd 8 many 1 = 60 := by kernel_rfl
theorem ma2 : isF 2 many = true := by kernel_rfl
theorem ma3 : (ats 2 many).length = 56 := by kernel_rfl
theorem ma4 : (ded (js 2 many) []).length = 1 := by kernel_rfl
theorem ma5 : D.plain many 7 = true := by kernel_rfl
theorem is_many : c (k + 13) 13 [.d many] S = .ok (.d (.bl true)) S := by
  have h := is_after_if (k := k) (S := S) (x := many) (n := 7) (m := 2) ma5 (Int.le_of_eq ma1) (by decide) ma2 (by rw [ma3]; decide)
  rw [ma4, decide_eq_true (by decide)] at h
  exact h
theorem sx1 : nd 8 six 1 = 7 := by kernel_rfl
theorem sx2 : isF 1 six = true := by kernel_rfl
theorem sx3 : (ats 1 six).length = 6 := by kernel_rfl
theorem sx4 : (ded (js 1 six) []).length = 6 := by kernel_rfl
theorem sx5 : D.plain six 5 = true := by kernel_rfl
theorem is_six : c (k + 13) 13 [.d six] S = .ok (.d (.bl true)) S := by
  have h := is_after_if (k := k) (S := S) (x := six) (n := 5) (m := 1) sx5 (by rw [sx1]; decide) (by decide) sx2 (by rw [sx3]; decide)
  rw [sx4, decide_eq_true (by decide)] at h
  exact h
theorem many_v {ns : List Int} {x1 x2 x3 x4 x5 x6 x7 x8 : Option Vl} : ev P0 (c (k + 15)) bM [some (.d (.ro (ns.map .int))), x1, x2, x3, x4, x5, x6, x7, x8, some (.d one), none, none] S = .ok (.d many) S := by kernel_rfl
theorem six_v {ns : List Int} {x1 x2 x3 x4 x5 x6 x7 x8 x9 x10 : Option Vl} : ev P0 (c (k + 15)) bS [some (.d (.ro (ns.map .int))), x1, x2, x3, x4, x5, x6, x7, x8, x9, x10, none] S = .ok (.d six) S := by kernel_rfl
theorem law_run (ns : List Int) : runF P0 (c (k + 15)) ⟨1, 12, b_law, .all⟩ [.d (.ro (ns.map .int))] [] = fin 0 (exec P0 (c (k + 15)) b_law (Rw ns none none none none none none none none) []) := by
  generalize c (k + 15) = cal
  generalize b_law = b
  rfl
theorem plain0 (ns : List Int) : ∃ S, runF P0 (c (k + 15)) ⟨1, 12, b_law, .all⟩ [.d (.ro (ns.map .int))] [] = .ok (.d (.bl true)) S := by
  rw [law_run, law_eq]
  have N : ev P0 (c (k + 15)) (.var 0) (Rw ns none none none none none none none none) [] = .ok (.d (.ro (ns.map .int))) [] := v_ro rfl
  have s0 : ev P0 (c (k + 15)) (.call0 25) (Rw ns none none none none none none none none) [] = .ok (.d (.bl true)) [] := by
    rw [ev]; exact states (k + 7)
  rw [x_nx (x_no (v_no s0 rfl))]
  have hl : biD .len [.ro (ns.map .int)] = some (.int ns.length) := by simp [biD]
  have R1 := v_bi2 (f := .max2) (v_int (i := 1)) (v_bi2 (f := .min2) (v_int (i := 4)) (v_bi1 N hl) rfl) rfl
  obtain ⟨j, hj1, hj3, R2⟩ : ∃ j : Int, 1 ≤ j ∧ j ≤ 4 ∧ ev P0 (c (k + 15)) (.bi .max2 (.cons (.int 1) (.cons (.bi .min2 (.cons (.int 4) (.cons (.bi .len (.cons (.var 0) .nil)) .nil))) .nil))) (Rw ns none none none none none none none none) [] = .ok (.d (.int j)) [] := by
    refine ⟨_, ?_, ?_, R1⟩
    · split <;> split at * <;> omega
    · split <;> split at * <;> omega
  obtain ⟨r', S', f1, y1, y2, y3, y4, y5, y6, y7, rfl⟩ := forL_S (t := .nm 1) (f := fun r S => exec P0 (c (k + 15)) bL r S) (S := []) (i := 0) (I := fun _ r _ => ∃ y1 y2 y3 y4 y5 y6 y7, r = Rw ns y1 y2 y3 y4 y5 y6 y7 none) (xs := upTo j.toNat 0) (r := Rw ns none none none none none none none none) ⟨none, none, none, none, none, none, none, rfl⟩ (by
    rintro p x hx r S ⟨y1, y2, y3, y4, y5, y6, y7, rfl⟩
    obtain ⟨i, rfl, h1, h2⟩ := upTo_mem (List.mem_of_getElem? hx)
    obtain ⟨z2, z3, z4, z5, z6, z7, S2, q1⟩ := turnL (k := k) (S := S) (ns := ns) (i := i) (x2 := y2) (x3 := y3) (x4 := y4) (x5 := y5) (x6 := y6) (x7 := y7) (x8 := none) h1
    exact ⟨Rw ns (some (.d (.int i))) y2 y3 y4 y5 y6 y7 none, _, S2, rfl, q1, _, _, _, _, _, _, _, rfl⟩)
  rw [x_nx ((x_loop (e_rng R2 (by omega) (by omega))).trans f1)]
  unfold bR
  have o1 : ev P0 (c (k + 15)) bO (Rw ns y1 y2 y3 y4 y5 y6 y7 none) S' = .ok (.d one) S' := rfl
  rw [x_nx (x_asg o1)]
  show ∃ S, fin 0 (exec P0 (c (k + 15)) _ [some (.d (.ro (ns.map .int))), y1, y2, y3, y4, y5, y6, y7, none, some (.d one), none, none] S') = _
  rw [x_nx (x_asg many_v)]
  show ∃ S, fin 0 (exec P0 (c (k + 15)) _ [some (.d (.ro (ns.map .int))), y1, y2, y3, y4, y5, y6, y7, none, some (.d one), some (.d many), none] S') = _
  have g1 := v_isbt (k := k) (v_var (P := P0) (cal := c (k + 15)) (S := S') (r := [some (.d (.ro (ns.map .int))), y1, y2, y3, y4, y5, y6, y7, none, some (.d one), some (.d many), none]) (i := 10) (x := many) rfl) (is_many (k := k + 2))
  have g2 := v_isbt (k := k) (six_v (S := S') (ns := ns) (x1 := y1) (x2 := y2) (x3 := y3) (x4 := y4) (x5 := y5) (x6 := y6) (x7 := y7) (x8 := none) (x9 := some (.d one)) (x10 := some (.d many))) (is_six (k := k + 2))
  rw [x_ret (x_retv (v_ands g1 (v_1 g2)))]
  exact ⟨_, rfl⟩
end K30
end
theorem K30.tabs_in {t : Iv.Tb} {K : PySem.W.Frag} {ts : List PySem.Addr} (h : ((Iv.csK t K).all fun q => ts.contains q.2.1) = true) : ∀ q ∈ Iv.csK t K, q.2.1 ∈ ts := fun q hq => List.contains_iff_mem.mp (List.all_eq_true.mp h q hq)
theorem K30.plain : ∀ ns : List Int, ns.length ≤ 63 → ∃ S, Iv.runF K30.tb.prg (Iv.call K30.tb.prg K30.tb.fns 15) ⟨1, 12, K30.b_law, .all⟩ [.d (.ro (ns.map .int))] [] = .ok (.d (.bl true)) S := by
  intro ns _
  rw [K30.tb_prg, K30.tb_fns]
  exact K30.plain0 (k := 0) ns
set_option maxRecDepth 100000
set_option maxHeartbeats 0
open PySem PySem.W PyProof.Rows
theorem PySem.Challenge.cw_toldstarts_k30_states_and_formulas_told_holds : PySem.Challenge.rw_toldstarts_k30_states_and_formulas_told.Holds := by
  w_on; o_law; k_head; (case hw => w_witness2)
  k_fill
  exact Iv.walk (l := PySem.Challenge.rw_toldstarts_k30_states_and_formulas_told) K30.tb 27 ⟨1, 12, K30.b_law, .all⟩ 15 "_law_script" rfl rfl ⟨rfl, by decide, by decide⟩ (fun w h Y => PySem.W.km_in_of Y) (fun w h Y q hq => PySem.W.km_tabs_of Y _ (K30.tabs_in (by kernel_rfl) q hq)) rfl rfl (fun p => by kernel_rfl) (fun p => by kernel_rfl) (fun p => by kernel_rfl) K30.plain
