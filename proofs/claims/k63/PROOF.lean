import PyProof.Rows.All
import Wide.All
import OpenK.AllK
import Wide.FinOn
import HandS.ForMost
import HandS.ForExc
import HandS.TryOnly
import HandS.TryMany
import HandS.ExcIs
import HandS.SuiteRaise
import HandS.IsInst
import HandS.Conv
import HandS.TupLen
import HandS.SortRule
import HandS.SortInts
import HandS.Wide
import HandS.Flow
import HandS.RaiseMore
import HandS.Style
import HandS.Deep
import HandS.Steps
import HandS.Walk
import HandS.Rev
import HandS.Zip
import PyProof.LongRange
import HandS.NoneIn
import KE.DatumOrd
import HandS.SortKw
import KE.SortData
import HandS.Small
import HandS.CallSlots
import HandS.WordsExc
import HandS.Defaults
import HandS.DictTup
import HandS.Text
import HandS.StrMore
import KE.SortKeyHeap
import HandS.Strs
import KE.KDictCopyH
import KE.KDictKeyed
import KE.KDictOf
import HandS.Dict
import KE.KDictPairs
import HandS.ExcBuiltin
import HandS.WordsDict
import HandS.More
import HandS.HeadHook1
import HandS.EndBits
import HandS.HeadHook2
import HandS.HeadEnd
import HandS.Head0
import HandS.Head1
import HandS.Head2
import PySem.Challenge.RW_gaze_k63_what_is_no_event

section
set_option Elab.async false
set_option linter.all false
/-! Pv0: values as trees, the small language, its evaluator. -/
namespace Pv
open PySem

abbrev Key := Sum Int Str

inductive Val where
  | non | bl (b : Bool) | int (i : Int) | str (s : Str)
  | tup (xs : List Val) | lst (xs : List Val)
  | dK (kvs : List (Key × Val)) | dT (kvs : List (List Key × Val))
  | obj (c : Nat) (fs : List (Nat × Val)) | ref (n : Nat) | exc (c : Nat)
  | scr (ns : List Int)

instance : Inhabited Val := ⟨.non⟩

/-- an object of the store: an instance that changes; a list or a dict that changes; such a dict while a loop walks it -/
inductive SO where
  | inst (c : Nat) (fs : List (Nat × Val)) | cell (v : Val) | lk (v : Val)

abbrev Store := List SO
abbrev Env := List (Option Val)

inductive R (α : Type) where
  | ok (a : α) (S : Store) | exn (c : Nat) (S : Store) | stuck
inductive RS where
  | nx (ρ : Env) (S : Store) | ret (v : Val) (S : Store) | brk (ρ : Env) (S : Store) | cnt (ρ : Env) (S : Store) | exn (c : Nat) (ρ : Env) (S : Store) | stuck

@[simp] def R.bind {α β : Type} (r : R α) (f : α → Store → R β) : R β := match r with
  | .ok a S => f a S
  | .exn c S => .exn c S
  | .stuck => .stuck
/-- of a pure step that may be stuck -/
@[simp] def R.of {α : Type} (o : Option α) (S : Store) : R α := match o with
  | some a => .ok a S
  | none => .stuck

inductive Op where | add | sub | mul | fdiv | mod | pow
  deriving DecidableEq
inductive Cp where | lt | le | gt | ge | eq | ne | isn | isnt | inn | notin
  deriving DecidableEq
inductive Cn where | non | bl (b : Bool) | int (i : Int) | str (s : Str)
  deriving DecidableEq
inductive Bi where | len | abs | min2 | max2 | min1 | max1 | minD | maxD | minZ | maxZ | sum | sorted | list | any | all | str | int | dict | setLen | sortedSet | minLen | listR
  deriving DecidableEq
inductive Bm where | get | get2 | pop | popLast | index | split | join | upper | rjust
  deriving DecidableEq
inductive Ty where | int | bool | str | list | tuple | dict | valueError | cls (c : Nat)
  deriving DecidableEq
/-- a target: a slot, a tuple of slots -/
inductive Tg where | one (i : Nat) | many (is : List Nat)
  deriving DecidableEq

inductive E where
  | v (i : Nat) | k (c : Cn) | gl (x : Str) (c : Val)
  | op2 (o : Op) (a b : E) | rep (es : List E) (b : E) | neg (a : E)
  | cmp (o : Cp) (a b : E) | ch (o1 o2 : Cp) (a b c : E)
  | bop (isAnd : Bool) (es : List E) | nt (a : E) | ife (t a b : E)
  | tup (es : List E) | lst (es : List E) | ix (a b : E) | sl (a : E) (lo hi : Option E)
  | fld (a : E) (f : Nat)
  | call (f : Nat) (es : List E) | mk (c : Nat) (es : List E) | mth (o : E) (m : Nat) (es : List E)
  | bi (b : Bi) (es : List E) | bm (b : Bm) (o : E) (es : List E) | sortk (f : Nat) (a : E)
  | isi (a : E) (t : Ty) | isiT (a : E) (ts : List Ty)
  | comp (elt : E) (tg : Tg) (it : E) (cd : Option E)
  | d0 (t : Bool) | mkr (a : E) | lck (d a : E)
  | rng (es : List E) | zip (a b : E) | rev (a : E)
  | ch3 (o1 o2 o3 : Cp) (a b c d : E)

inductive Pl where | slot (i : Nat) | fldp (i f : Nat) | refp (e : E)
inductive Mu where | app (e : E) | ext (e : E) | clr | rev | seti (k e : E) | dpop (k : E) | dpopN (k : E)

inductive S where
  | set (i : Nat) (e : E) | unp (is : List Nat) (e : E) | sfld (o : E) (f : Nat) (e : E)
  | ex (e : E) | mu (p : Pl) (m : Mu)
  | ret (e : E) | retN | ife (c : E) (a b : List S) | for' (tg : Tg) (it : E) (body : List S) | whil (c : E) (body : List S)
  | brk | cnt | pas | rais (c : Nat) | nev | binit (f : Nat) (es : List E) | mvs (is : List Nat) (s : S) | lock (d : E) (s : S) | sti (o k e : E)
  | tr (body : List S) (hs : List (Nat × Option Nat × List S))

inductive Mode where | shr | own | brw | ini
  deriving DecidableEq
structure Fn where
  name : Str
  np : Nat
  names : List Str
  md : List Mode
  ret : Mode
  isIni : Bool
  body : List S
  meth : Bool := false
  cls : Str := ⟨#[]⟩
structure Cls where
  name : Str
  exc : Bool
  val : Bool
  sup : List Nat
  own : List Nat
  mths : List (Nat × Nat)
  ini : Option Nat
  flds : List Nat := []
structure Prog where
  fn : Nat → Option Fn
  cls : Nat → Option Cls
  nm : Nat → Str
  ids : List Nat := []

/-! ### values -/
/-- the script's item -/
def scrAt (ns : List Int) (i : Int) : Option Val := match L2.atI ns i with
  | some k => some (.int k)
  | none => none
def isDct : Val → Bool
  | .dK _ => true
  | .dT _ => true
  | _ => false
def deref (S : Store) : Val → Val
  | .ref n => match S[n]? with
    | some (.cell w) => w
    | _ => .ref n
  | v => v
/-- .. a locked dict, too -/
def look (S : Store) : Val → Val
  | .ref n => match S[n]? with
    | some (.cell w) => w
    | some (.lk w) => w
    | _ => .ref n
  | v => v
def keyK : Val → Option Key
  | .int i => some (.inl i)
  | .str s => some (.inr s)
  | _ => none
def keyT : List Val → Option (List Key)
  | [] => some []
  | v :: r => match keyK v, keyT r with
    | some k, some ks => some (k :: ks)
    | _, _ => none
def unkey : Key → Val
  | .inl i => .int i
  | .inr s => .str s
def dget {κ : Type} [DecidableEq κ] (k : κ) : List (κ × Val) → Option Val
  | [] => none
  | (a, v) :: r => if a = k then some v else dget k r
/-- in its place, or at the end -/
def dput {κ : Type} [DecidableEq κ] (k : κ) (x : Val) (l : List (κ × Val)) : List (κ × Val) :=
  if (l.any fun p => decide (p.1 = k)) = true then l.map (fun p => if p.1 = k then (p.1, x) else p) else l ++ [(k, x)]
def ddel {κ : Type} [DecidableEq κ] (k : κ) (l : List (κ × Val)) : List (κ × Val) := l.filter fun p => decide (p.1 ≠ k)
def fget (f : Nat) : List (Nat × Val) → Option Val
  | [] => none
  | (a, v) :: r => if a = f then some v else fget f r
def fput (f : Nat) (x : Val) : List (Nat × Val) → List (Nat × Val)
  | [] => [(f, x)]
  | (a, v) :: r => if a = f then (a, x) :: r else (a, v) :: fput f x r
abbrev atI {α : Type} (xs : List α) (i : Int) : Option α := L2.atI xs i
abbrev atN (n : Nat) (i : Int) : Option Nat := L2.ixN n i
def szb (n : Nat) : Bool := decide (n ≤ 16777215)
def mulOk (i j : Int) : Bool := decide (i.natAbs < 2 ^ 64) || decide (j.natAbs < 2 ^ 64) || decide (i.natAbs.log2 + j.natAbs.log2 < 100000000)
def sign1 (s : Str) (i : Int) : Option Val := match atI s.cps.toList i with
  | some c => some (.str ⟨#[c]⟩)
  | none => none

def op2 : Op → Val → Val → Option Val
  | .add, .int i, .int j => some (.int (i + j))
  | .add, .str x, .str y => if szb (x.length + y.length) = true then some (.str (x ++ y)) else none
  | .add, .lst xs, .lst ys => if szb (xs.length + ys.length) = true then some (.lst (xs ++ ys)) else none
  | .add, .tup (x :: xs), .tup ys => if szb (xs.length + 1 + ys.length) = true then some (.tup (x :: xs ++ ys)) else none
  | .sub, .int i, .int j => some (.int (i - j))
  | .mul, .int i, .int j => if mulOk i j = true then some (.int (i * j)) else none
  | .fdiv, .int i, .int j => if j = 0 then none else if j.natAbs.log2 < 9000 then (if 0 < j then some (.int (i / j)) else some (.int (i.fdiv j))) else none
  | .mod, .int i, .int j => if 0 < j then some (.int (i % j)) else if j < 0 then some (.int (i.fmod j)) else none
  | .pow, .int i, .int j => if 0 ≤ j ∧ j ≤ 1000000 ∧ i.natAbs < 2 ^ 64 then some (.int (i ^ j.toNat)) else none
  | _, _, _ => none

/-! ### == of data -/
mutual
/-- data of a depth, its texts well formed -/
def dataOk : Nat → Val → Bool
  | 0, _ => false
  | n + 1, .lst xs => dataOks n xs
  | n + 1, .tup xs => dataOks n xs
  | _ + 1, .non => true
  | _ + 1, .bl _ => true
  | _ + 1, .int _ => true
  | _ + 1, .str x => PyData.strOk x
  | _ + 1, _ => false
def dataOks : Nat → List Val → Bool
  | _, [] => true
  | n, x :: xs => dataOk n x && dataOks n xs
end
mutual
def eqv : Val → Val → Bool
  | .lst xs, .lst ys => eqvs xs ys
  | .tup xs, .tup ys => eqvs xs ys
  | .non, .non => true
  | .bl a, .bl b => a == b
  | .int i, .int j => decide (i = j)
  | .str x, .str y => decide (x = y)
  | .bl a, .int j => decide ((if a then 1 else 0) = j)
  | .int i, .bl b => decide (i = (if b then 1 else 0))
  | _, _ => false
def eqvs : List Val → List Val → Bool
  | [], [] => true
  | x :: xs, y :: ys => eqv x y && eqvs xs ys
  | [], _ :: _ => false
  | _ :: _, [] => false
end
/-- == of two values: texts, or data -/
def eqV : Val → Val → Option Bool
  | .str x, .str y => some (decide (x = y))
  | v, w => if dataOk 60 v = true ∧ dataOk 60 w = true then some (eqv v w) else none

/-! ### sorting by keys -/
def lexLe : List Int → List Int → Bool
  | [], _ => true
  | _ :: _, [] => false
  | x :: xs, y :: ys => if x < y then true else if y < x then false else lexLe xs ys
def intsOf : List Val → Option (List Int)
  | [] => some []
  | .int i :: r => match intsOf r with
    | some is => some (i :: is)
    | none => none
  | _ :: _ => none
/-- what a value is sorted by: ints by themselves, tuples and lists of ints item by item -/
def skey : Val → Option (Nat × List Int)
  | .int i => some (0, [i])
  | .tup (x :: xs) => match intsOf (x :: xs) with
    | some is => some (2, is)
    | none => none
  | .lst xs => match intsOf xs with
    | some is => some (3, is)
    | none => none
  | _ => none
def keyed : List Val → Option (List (Nat × List Int × Val))
  | [] => some []
  | v :: r => match skey v, keyed r with
    | some k, some ks => some ((k.1, k.2, v) :: ks)
    | _, _ => none
def sameKind : List (Nat × List Int × Val) → Bool
  | [] => true
  | x :: r => r.all fun y => y.1 == x.1
def sortV (xs : List Val) : Option (List Val) := match keyed xs with
  | some ks => if sameKind ks = true then some ((ks.mergeSort (fun a b => lexLe a.2.1 b.2.1)).map fun a => a.2.2) else none
  | none => none
end Pv
end

section
set_option Elab.async false
set_option linter.all false
/-! Pv1: the evaluator. -/
namespace Pv
open PySem

/-- names by numbers -/
def nmF (l : List Str) (i : Nat) : Str := l.getD i ⟨#[]⟩
/-! ### built-ins by values -/
def minI : Int → List Int → Int
  | a, [] => a
  | a, b :: r => minI (if b < a then b else a) r
def maxI : Int → List Int → Int
  | a, [] => a
  | a, b :: r => maxI (if b > a then b else a) r
def boolsOf : List Val → Option (List Bool)
  | [] => some []
  | .bl b :: r => match boolsOf r with
    | some bs => some (b :: bs)
    | none => none
  | _ :: _ => none
def strsOf : List Val → Option (List Str)
  | [] => some []
  | .str b :: r => match strsOf r with
    | some bs => some (b :: bs)
    | none => none
  | _ :: _ => none
def lenV : Val → Option Int
  | .lst xs => some xs.length
  | .tup xs => some xs.length
  | .str s => if szb s.length = true then some s.length else none
  | .dK kvs => some kvs.length
  | .dT kvs => some kvs.length
  | .scr ns => some ns.length
  | _ => none
/-- each once, in the order of their first places -/
def nubI : List Int → List Int
  | [] => []
  | x :: r => x :: (nubI r).filter (fun y => y ≠ x)
/-- pairs of small numbers: their hashes differ -/
def gridK (ks : List (List Key)) : Bool := ks.all fun k => match k with
  | [.inl e, .inl t] => decide (0 ≤ e ∧ e < 7 ∧ 0 ≤ t ∧ t < 12)
  | _ => false
def pairsT : List Val → Option (List (List Key × Val))
  | [] => some []
  | .tup [.tup ks, v] :: r => match keyT ks, pairsT r with
    | some k, some ps => some ((k, v) :: ps)
    | _, _ => none
  | _ :: _ => none
def lens : List Val → Option (List (Int × Val))
  | [] => some []
  | .lst xs :: r => match lens r with
    | some ls => some (((xs.length : Int), .lst xs) :: ls)
    | none => none
  | _ :: _ => none
def firstMin : Int × Val → List (Int × Val) → Val
  | a, [] => a.2
  | a, b :: r => firstMin (if b.1 < a.1 then b else a) r
def biV : Bi → List Val → Option Val
  | .len, [v] => match lenV v with
    | some n => some (.int n)
    | none => none
  | .abs, [.int i] => some (.int (if i < 0 then -i else i))
  | .min2, [.int i, .int j] => some (.int (if j < i then j else i))
  | .max2, [.int i, .int j] => some (.int (if j > i then j else i))
  | .min1, [.lst xs] => match intsOf xs with
    | some (i :: is) => some (.int (minI i is))
    | _ => none
  | .max1, [.lst xs] => match intsOf xs with
    | some (i :: is) => some (.int (maxI i is))
    | _ => none
  | .minD, [.lst xs] => match intsOf xs with
    | some (i :: is) => some (.int (minI i is))
    | some [] => some .non
    | _ => none
  | .maxD, [.lst xs] => match intsOf xs with
    | some (i :: is) => some (.int (maxI i is))
    | some [] => some .non
    | _ => none
  | .minZ, [.lst xs] => match intsOf xs with
    | some (i :: is) => some (.int (minI i is))
    | some [] => some (.int 0)
    | _ => none
  | .maxZ, [.lst xs] => match intsOf xs with
    | some (i :: is) => some (.int (maxI i is))
    | some [] => some (.int 0)
    | _ => none
  | .sum, [.lst xs] => match intsOf xs with
    | some is => some (.int is.sum)
    | none => none
  | .sorted, [.lst xs] => match sortV xs with
    | some ys => some (.lst ys)
    | none => none
  | .listR, [.lst xs] => if szb xs.length = true then some (.lst xs) else none
  | .list, [.lst xs] => some (.lst xs)
  | .list, [.tup xs] => some (.lst xs)
  | .list, [.dK kvs] => some (.lst (kvs.map fun kv => unkey kv.1))
  | .list, [.dT kvs] => some (.lst (kvs.map fun kv => .tup (kv.1.map unkey)))
  | .any, [.lst xs] => match boolsOf xs with
    | some bs => some (.bl (bs.any id))
    | none => none
  | .all, [.lst xs] => match boolsOf xs with
    | some bs => some (.bl (bs.all id))
    | none => none
  | .str, [.int i] => if i.natAbs.log2 < 1920 then some (.str (PySem.Str.ofString (toString i))) else none
  | .str, [.str s] => some (.str s)
  | .int, [.int i] => some (.int i)
  | .int, [.bl b] => some (.int (if b then 1 else 0))
  | .int, [.str s] => if s.length ≤ 640 then (match PySem.intText? s with
    | some n => some (.int n)
    | none => none) else none
  | .dict, [.dT kvs] => if gridK (kvs.map (·.1)) = true then some (.dT kvs) else none
  | .dict, [.lst xs] => match pairsT xs with
    | some ps => if (ps.map (·.1)).Nodup then some (.dT ps) else none
    | none => none
  | .setLen, [.lst xs] => match intsOf xs with
    | some is => if is.length < 4000 then some (.int (nubI is).length) else none
    | none => none
  | .sortedSet, [.lst xs] => match intsOf xs with
    | some is => if is.length < 64 then some (.lst (((nubI is).mergeSort (fun a b => decide (a ≤ b))).map .int)) else none
    | none => none
  | .minLen, [.lst xs] => match lens xs with
    | some (a :: r) => some (firstMin a r)
    | _ => none
  | _, _ => none

def lkT (kvs : List (List Key × Val)) (ks : List Val) : Option (Option Val) := match keyT ks with
  | some k => some (dget k kvs)
  | none => none
/-- x[i] -/
def ixV : Val → Val → Option Val
  | .lst xs, .int i => atI xs i
  | .tup xs, .int i => atI xs i
  | .scr ns, .int i => scrAt ns i
  | .str s, .int i => if szb s.length = true then sign1 s i else none
  | .dK kvs, k => match keyK k with
    | some k => dget k kvs
    | none => none
  | .dT kvs, .tup ks => match keyT ks with
    | some k => dget k kvs
    | none => none
  | _, _ => none
def cutL {α : Type} (xs : List α) (lo hi : Option Int) : List α := (xs.drop (_root_.HT.sIx xs.length 0 lo)).take (_root_.HT.sIx xs.length xs.length hi - _root_.HT.sIx xs.length 0 lo)
def slV : Val → Option Int → Option Int → Option Val
  | .lst xs, lo, hi => some (.lst (cutL xs lo hi))
  | .tup xs, lo, hi => if _root_.HT.sIx xs.length 0 lo = 0 ∧ _root_.HT.sIx xs.length xs.length hi = xs.length then none else some (.tup (cutL xs lo hi))
  | .str s, lo, hi => if szb s.length = true then some (.str ⟨(cutL s.cps.toList lo hi).toArray⟩) else none
  | .scr ns, lo, hi => some (.lst ((cutL ns lo hi).map .int))
  | _, _, _ => none
def bmV : Bm → Val → List Val → Option Val
  | .get, .dK kvs, [k] => match keyK k with
    | some k => some ((dget k kvs).getD .non)
    | none => none
  | .get, .dT kvs, [.tup ks] => match keyT ks with
    | some k => some ((dget k kvs).getD .non)
    | none => none
  | .index, .lst xs, [v] => if dataOk 60 v = true ∧ xs.all (dataOk 60) = true then (match xs.findIdx? (fun x => eqv x v) with
    | some i => some (.int i)
    | none => none) else none
  | .split, .str s, [.str t] => if szb (s.length + 2) = true ∧ 0 < t.length then some (.lst ((PySem.Txt.split s t).map .str)) else none
  | .join, .str s, [.lst xs] => match strsOf xs with
    | some ts => if szb ((ts.map Str.length).sum + s.length * ts.length) = true then some (.str (PySem.Txt.join s ts)) else none
    | none => none
  | .rjust, .str s, [.int i] => if PySem.PadOk i = true then some (.str (PySem.Txt.rjust s i)) else none
  | _, _, _ => none

/-! ### comparisons -/
def flatB : Val → Bool
  | .non => true
  | .bl _ => true
  | .int _ => true
  | .str _ => true
  | _ => false
def inV (v : Val) : Val → Option Bool
  | .lst xs => if dataOk 60 v = true ∧ xs.all (dataOk 60) = true then some (xs.any fun x => eqv x v) else none
  | .tup xs => if flatB v = true ∧ xs.all flatB = true then some (xs.any fun x => eqv x v) else none
  | .dK kvs => match keyK v with
    | some k => some (dget k kvs).isSome
    | none => none
  | .dT kvs => match v with
    | .tup ks => match keyT ks with
      | some k => some (dget k kvs).isSome
      | none => none
    | _ => none
  | .str s => match v with
    | .str t => if t.length = 1 then some (s.cps.toList.contains (t.cps.getD 0 0)) else none
    | _ => none
  | _ => none
def isNonB : Val → Bool
  | .non => true
  | _ => false
def isV : Val → Val → Option Bool
  | v, .non => some (isNonB v)
  | .bl a, .bl b => some (a == b)
  | _, _ => none
def nop (o : Option Bool) : Option Bool := match o with
  | some b => some (!b)
  | none => none
/-- pairs of numbers in order -/
def ltT : List Val → List Val → Option Bool
  | [.int a, .int b], [.int c, .int d] => some (if a = c then decide (b < d) else decide (a < c))
  | _, _ => none
def cpV : Cp → Val → Val → Option Bool
  | .lt, .int i, .int j => some (decide (i < j))
  | .lt, .tup xs, .tup ys => ltT xs ys
  | .le, .int i, .int j => some (decide (i ≤ j))
  | .gt, .int i, .int j => some (decide (j < i))
  | .ge, .int i, .int j => some (decide (j ≤ i))
  | .eq, v, w => eqV v w
  | .ne, v, w => nop (eqV v w)
  | .isn, v, w => isV v w
  | .isnt, v, w => nop (isV v w)
  | .inn, v, w => inV v w
  | .notin, v, w => nop (inV v w)
  | _, _, _ => none

def tyV (G : Prog) (S : Store) : Val → Ty → Option Bool
  | .ref _, _ => none
  | .obj c _, .cls d => (match G.cls c, G.cls d with
    | some C, some D => if C.exc = false ∧ D.exc = false then some (C.sup.contains d) else none
    | _, _ => none)
  | .obj _ _, _ => none
  | .exc c, .cls d => (match G.cls c, G.cls d with
    | some C, some D => if C.exc = true ∧ D.exc = true then some (C.sup.contains d) else none
    | _, _ => none)
  | .exc _, .valueError => some true
  | .exc _, _ => none
  | .scr _, _ => none
  | .non, _ => some false
  | .bl _, t => some (t == .bool || t == .int)
  | .int _, t => some (t == .int)
  | .str _, t => some (t == .str)
  | .lst _, t => some (t == .list)
  | .tup _, t => some (t == .tuple)
  | .dK _, t => some (t == .dict)
  | .dT _, t => some (t == .dict)

/-- one of some types -/
def tysV (G : Prog) (S : Store) (v : Val) : List Ty → Option Bool
  | [] => some false
  | t :: ts => match tyV G S v t, tysV G S v ts with
    | some b, some c => some (b || c)
    | _, _ => none
/-- 0, 1, .. -/
def upto (lo : Int) : Nat → List Val
  | 0 => []
  | n + 1 => .int lo :: upto (lo + 1) n
/-- how many items range(a, b, c) has -/
def rsz (a b c : Int) : Nat := if a < b then ((b - a - 1) / c + 1).toNat else 0
def rngV : List Val → Option (List Val)
  | [.int n] => if n.natAbs < 2 ^ 62 then some (upto 0 n.toNat) else none
  | [.int a, .int b] => if a.natAbs < 2 ^ 62 ∧ b.natAbs < 2 ^ 62 then some (upto a (b - a).toNat) else none
  | [.int a, .int b, .int c] => if a.natAbs < 2 ^ 61 ∧ b.natAbs < 2 ^ 61 ∧ 0 < c ∧ c < 1000 then some ((List.range (rsz a b c)).map fun k => .int (a + Int.ofNat k * c))
    else if a.natAbs < 2 ^ 61 ∧ b.natAbs < 2 ^ 61 ∧ c = -1 then some ((List.range (a - b).toNat).map fun k => .int (a + Int.ofNat k * -1)) else none
  | [.int a, .int b, .non, .non] => if (b - a).toNat ≤ 4096 then some (upto a (b - a).toNat) else none
  | _ => none
/-- lists, dicts -/
def collB : Val → Bool
  | .lst _ => true
  | .dK _ => true
  | .dT _ => true
  | _ => false
def itemsV : Val → Option (List Val)
  | .lst xs => some xs
  | .tup xs => some xs
  | .str s => some (s.cps.toList.map fun c => .str ⟨#[c]⟩)
  | _ => none

/-! ### loops -/
def compL (f : Val → Store → R (Option Val)) : List Val → Store → R (List Val)
  | [], S => .ok [] S
  | x :: xs, S => match f x S with
    | .ok (some v) S1 => (match compL f xs S1 with
      | .ok r S2 => .ok (v :: r) S2
      | .exn c S2 => .exn c S2
      | .stuck => .stuck)
    | .ok none S1 => compL f xs S1
    | .exn c S1 => .exn c S1
    | .stuck => .stuck
def forL (f : Val → Env → Store → RS) : List Val → Env → Store → RS
  | [], ρ, S => .nx ρ S
  | x :: xs, ρ, S => match f x ρ S with
    | .nx ρ1 S1 => forL f xs ρ1 S1
    | .cnt ρ1 S1 => forL f xs ρ1 S1
    | .brk ρ1 S1 => .nx ρ1 S1
    | r => r
def whileL (c : Env → Store → R Val) (f : Env → Store → RS) : Nat → Env → Store → RS
  | 0, _, _ => .stuck
  | n + 1, ρ, S => match c ρ S with
    | .ok (.bl true) S1 => (match f ρ S1 with
      | .nx ρ1 S2 => whileL c f n ρ1 S2
      | .cnt ρ1 S2 => whileL c f n ρ1 S2
      | .brk ρ1 S2 => .nx ρ1 S2
      | r => r)
    | .ok (.bl false) S1 => .nx ρ S1
    | .exn e S1 => .exn e ρ S1
    | _ => .stuck

/-- lists of the store, looked through -/
def deep (S : Store) : Nat → Val → Val
  | 0, v => v
  | n + 1, .ref m => (match S[m]? with
    | some (.cell (.lst xs)) => .lst (xs.map (deep S n))
    | _ => .ref m)
  | n + 1, .lst xs => .lst (xs.map (deep S n))
  | n + 1, .tup xs => .tup (xs.map (deep S n))
  | _ + 1, v => v
def eqW (v w : Val) : Option Bool := if dataOk 60 v = true ∧ dataOk 60 w = true then some (eqv v w) else none
def dcp : Cp → Store → Val → Val → Option Bool
  | .eq, S, v, w => eqW (deep S 8 v) (deep S 8 w)
  | .ne, S, v, w => nop (eqW (deep S 8 v) (deep S 8 w))
  | _, _, _, _ => none
def orO (o p : Option Bool) : Option Bool := match o with
  | some b => some b
  | none => p
def cpO (c : Cp) (S : Store) (v w : Val) : Option Bool := orO (cpV c (deref S v) (look S w)) (dcp c S v w)
/-- a dict's keys -/
def keysV : Val → Option (List Val)
  | .dK kvs => some (kvs.map fun kv => unkey kv.1)
  | .dT kvs => some (kvs.map fun kv => .tup (kv.1.map unkey))
  | _ => none
/-- a cell that may be changed -/
def cellN (v : Val) (S : Store) : Option (Nat × Val) := match v with
  | .ref n => (match S[n]? with
    | some (.cell w) => if isDct w = true then some (n, w) else none
    | _ => none)
  | _ => none
/-- the dict that is locked, its number -/
def lockN (r : R Val) : Option (Nat × Val × Store) := match r with
  | .ok (.ref n) S => (match S[n]? with
    | some (.cell w) => if isDct w = true then some (n, w, S) else none
    | _ => none)
  | _ => none
def unlkR (n : Nat) : R Val → R Val
  | .ok v S => (match S[n]? with
    | some (.lk w) => .ok v (S.set n (.cell w))
    | _ => .stuck)
  | _ => .stuck
/-- a dict is let go -/
def unlkS (n : Nat) : RS → RS
  | .nx ρ S => (match S[n]? with
    | some (.lk w) => .nx ρ (S.set n (.cell w))
    | _ => .stuck)
  | .ret v S => (match S[n]? with
    | some (.lk w) => .ret v (S.set n (.cell w))
    | _ => .stuck)
  | .brk ρ S => (match S[n]? with
    | some (.lk w) => .brk ρ (S.set n (.cell w))
    | _ => .stuck)
  | .cnt ρ S => (match S[n]? with
    | some (.lk w) => .cnt ρ (S.set n (.cell w))
    | _ => .stuck)
  | _ => .stuck
/-- a list of the store, a locked dict: what must stay while it is walked, the items -/
def isC (n : Nat) (xs : List Val) (S : Store) : Prop := S[n]? = some (.cell (.lst xs))
def isK (n : Nat) (w : Val) (S : Store) : Prop := S[n]? = some (.lk w)
def refL (v : Val) (S : Store) : Option ((Store → Prop) × List Val) := match v with
  | .ref n => (match S[n]? with
    | some (.cell (.lst xs)) => some (isC n xs, xs)
    | some (.lk w) => (match keysV w with
      | some xs => some (isK n w, xs)
      | none => none)
    | _ => none)
  | _ => none
open Classical in
noncomputable def chkC (P : Store → Prop) (f : Val → Store → R (Option Val)) (y : Val) (S : Store) : R (Option Val) := if P S then f y S else .stuck
open Classical in
noncomputable def chkE (P : Store → Prop) (r : R Val) (S : Store) : R Val := if P S then r else .stuck
open Classical in
noncomputable def chkF (P : Store → Prop) (f : Val → Env → Store → RS) (y : Val) (ρ : Env) (S : Store) : RS := if P S then f y ρ S else .stuck
open Classical in
noncomputable def chkS (P : Store → Prop) (r : RS) : RS := match r with
  | .nx ρ S => if P S then .nx ρ S else .stuck
  | r => r
def bindMany : List Nat → List Val → Env → Option Env
  | [], [], ρ => some ρ
  | i :: is, v :: vs, ρ => bindMany is vs (ρ.set i (some v))
  | _, _, _ => none
def bindT : Tg → Val → Env → Option Env
  | .one i, v, ρ => some (ρ.set i (some v))
  | .many is, .tup vs, ρ => bindMany is vs ρ
  | .many is, .lst vs, ρ => bindMany is vs ρ
  | .many _, _, _ => none

/-- stretches by their los, an open one first -/
def loKey : Val → Option (List Int)
  | .tup (.non :: _) => some [0, 0]
  | .tup (.int i :: _) => some [1, i]
  | _ => none
def loKs : List Val → Option (List (List Int × Val))
  | [] => some []
  | x :: xs => match loKey x, loKs xs with
    | some k, some r => some ((k, x) :: r)
    | _, _ => none
def sortK (xs : List Val) : Option (List Val) := match loKs xs with
  | some ks => some ((ks.mergeSort (fun a b => lexLe a.1 b.1)).map (·.2))
  | none => none

/-- a new cell; None stays None -/
def mkrV (v : Val) (S : Store) : R Val := match v with
  | .non => .ok .non S
  | v => if collB v = true then .ok (.ref S.length) (S ++ [.cell v]) else .stuck

structure Cfg where
  G : Prog
  wf : Nat
  cl : Nat → List Val → Store → R Val
  ini : Nat → Nat → List (Nat × Val) → List Val → Store → R (List (Nat × Val))

def fieldsOf (S : Store) : Val → Option (Nat × List (Nat × Val))
  | .obj c fs => some (c, fs)
  | .ref n => match S[n]? with
    | some (.inst c fs) => some (c, fs)
    | _ => none
  | _ => none
/-- a class whose instances are objects -/
def clsV (G : Prog) (c : Nat) : Bool := match G.cls c with
  | some C => !C.exc
  | none => false
/-- .. that have the field f -/
def fldV (G : Prog) (c f : Nat) : Bool := match G.cls c with
  | some C => !C.exc && C.flds.contains f
  | none => false
def fnOf (G : Prog) (c m : Nat) : Option Nat := match G.cls c with
  | some C => (C.mths.find? fun p => p.1 == m).map (·.2)
  | none => none

def cnV : Cn → Val
  | .non => .non
  | .bl b => .bl b
  | .int i => .int i
  | .str s => .str s

def mkObj (x : Cfg) (c : Nat) (vs : List Val) (S : Store) : R Val := match x.G.cls c with
  | some C => (match C.ini with
    | some f => (match x.ini f c [] vs S with
      | .ok fs S1 => if C.val = true ∧ C.exc = false then .ok (.obj c fs) S1 else .stuck
      | .exn e S1 => .exn e S1
      | .stuck => .stuck)
    | none => .stuck)
  | none => .stuck
def fieldsO : Val → Option (Nat × List (Nat × Val))
  | .obj c fs => some (c, fs)
  | _ => none
/-- an object's method; by m + 1000 another text of it -/
def mthOf (G : Prog) (v : Val) (m : Nat) : Option Nat := match fieldsO v with
  | some (c, fs) => if clsV G c = true then (match fnOf G c m, fget (m % 1000) fs with
    | some f, none => some f
    | _, _ => none) else none
  | none => none

noncomputable section
mutual
def evE (x : Cfg) : E → Env → Store → R Val
  | .v i, ρ, S => match ρ[i]? with
    | some (some v) => .ok v S
    | _ => .stuck
  | .k c, _, S => .ok (cnV c) S
  | .gl _ c, _, S => .ok c S
  | .op2 o a b, ρ, S => (evE x a ρ S).bind fun v S1 => (evE x b ρ S1).bind fun w S2 => R.of (op2 o (deref S2 v) (deref S2 w)) S2
  | .rep es b, ρ, S => (evs x es ρ S).bind fun vs S1 => if szb vs.length = true then (evE x b ρ S1).bind fun w S2 => match w with
    | .int j => if 0 ≤ j ∧ j < 100000 ∧ szb (vs.length * j.toNat) = true then .ok (.lst (List.replicate j.toNat vs).flatten) S2 else .stuck
    | _ => .stuck
    else .stuck
  | .neg a, ρ, S => (evE x a ρ S).bind fun v S1 => match v with
    | .int i => .ok (.int (-i)) S1
    | _ => .stuck
  | .cmp o a b, ρ, S => (evE x a ρ S).bind fun v S1 => (evE x b ρ S1).bind fun w S2 => match cpO o S2 v w with
    | some b => .ok (.bl b) S2
    | none => .stuck
  | .ch o1 o2 a b c, ρ, S => (evE x a ρ S).bind fun v S1 => (evE x b ρ S1).bind fun w S2 => match cpV o1 v w with
    | some b => if b = true then (evE x c ρ S2).bind fun u S3 => (match cpV o2 w u with
      | some b => .ok (.bl b) S3
      | none => .stuck) else .ok (.bl false) S2
    | none => .stuck
  | .ch3 o1 o2 o3 a b c d, ρ, S => (evE x a ρ S).bind fun v S1 => (evE x b ρ S1).bind fun w S2 => match cpV o1 v w with
    | some k => if k = true then (evE x c ρ S2).bind fun u S3 => (match cpV o2 w u with
      | some k => if k = true then (evE x d ρ S3).bind fun t S4 => (match cpV o3 u t with
        | some k => .ok (.bl k) S4
        | none => .stuck) else .ok (.bl false) S3
      | none => .stuck) else .ok (.bl false) S2
    | none => .stuck
  | .bop k es, ρ, S => evB x k es ρ S
  | .nt a, ρ, S => (evE x a ρ S).bind fun v S1 => match v with
    | .bl b => .ok (.bl (!b)) S1
    | _ => .stuck
  | .ife t a b, ρ, S => (evE x t ρ S).bind fun v S1 => match v with
    | .bl c => if c = true then evE x a ρ S1 else evE x b ρ S1
    | _ => .stuck
  | .tup es, ρ, S => (evs x es ρ S).bind fun vs S1 => if szb vs.length = true then .ok (.tup vs) S1 else .stuck
  | .lst es, ρ, S => (evs x es ρ S).bind fun vs S1 => if szb vs.length = true then .ok (.lst vs) S1 else .stuck
  | .ix a b, ρ, S => (evE x a ρ S).bind fun v S1 => (evE x b ρ S1).bind fun w S2 => R.of (ixV (look S2 v) w) S2
  | .sl a lo hi, ρ, S => (evE x a ρ S).bind fun v S1 => (evO x lo ρ S1).bind fun l S2 => (evO x hi ρ S2).bind fun h S3 => R.of (slV (deref S3 v) l h) S3
  | .fld a f, ρ, S => (evE x a ρ S).bind fun v S1 => match fieldsO v with
    | some (c, fs) => if fldV x.G c f = true then R.of (fget f fs) S1 else .stuck
    | none => .stuck
  | .call f es, ρ, S => (evs x es ρ S).bind fun vs S1 => x.cl f vs S1
  | .mk c es, ρ, S => (evs x es ρ S).bind fun vs S1 => mkObj x c vs S1
  | .mth o m es, ρ, S => (evE x o ρ S).bind fun v S1 => match mthOf x.G v m with
    | some f => (evs x es ρ S1).bind fun vs S2 => x.cl f (v :: vs) S2
    | none => .stuck
  | .bi b es, ρ, S => (evs x es ρ S).bind fun vs S1 => R.of (biV b (vs.map (deref S1))) S1
  | .bm b o es, ρ, S => (evE x o ρ S).bind fun v S1 => (evs x es ρ S1).bind fun vs S2 => R.of (bmV b (look S2 v) vs) S2
  | .sortk f a, ρ, S => (evE x a ρ S).bind fun v S1 => match deref S1 v with
    | .lst xs => (match sortK xs with
      | some ys => .ok (.lst ys) S1
      | none => .stuck)
    | _ => .stuck
  | .isi a t, ρ, S => (evE x a ρ S).bind fun v S1 => match tyV x.G S1 (deref S1 v) t with
    | some b => .ok (.bl b) S1
    | none => .stuck
  | .isiT a ts, ρ, S => (evE x a ρ S).bind fun v S1 => match tysV x.G S1 (deref S1 v) ts with
    | some b => .ok (.bl b) S1
    | none => .stuck
  | .comp e tg it cd, ρ, S => (evE x it ρ S).bind fun v S1 => match itemsV v with
    | some xs => if szb xs.length = true then (compL (fun y S => match bindT tg y ρ with
      | some ρ1 => (match evC x cd ρ1 S with
        | .ok true S1 => (match evE x e ρ1 S1 with
          | .ok w S2 => .ok (some w) S2
          | _ => .stuck)
        | .ok false S1 => .ok none S1
        | _ => .stuck)
      | none => .stuck) xs S1).bind (fun vs S2 => .ok (.lst vs) S2) else .stuck
    | none => (match refL v S1 with
      | some (P, xs) => if szb xs.length = true then (compL (chkC P (fun y S => match bindT tg y ρ with
      | some ρ1 => (match evC x cd ρ1 S with
        | .ok true S1 => (match evE x e ρ1 S1 with
          | .ok w S2 => .ok (some w) S2
          | _ => .stuck)
        | .ok false S1 => .ok none S1
        | _ => .stuck)
      | none => .stuck)) xs S1).bind (fun vs S2 => chkE P (.ok (.lst vs) S2) S2) else .stuck
      | none => .stuck)
  | .d0 t, _, S => .ok (if t = true then .dT [] else .dK []) S
  | .mkr a, ρ, S => (evE x a ρ S).bind fun v S1 => mkrV v S1
  | .lck d a, ρ, S => match lockN (evE x d ρ S) with
    | some (n, w, S0) => unlkR n (evE x a ρ (S0.set n (.lk w)))
    | none => .stuck
  | .rng es, ρ, S => (evs x es ρ S).bind fun vs S1 => match rngV vs with
    | some xs => .ok (.lst xs) S1
    | none => .stuck
  | .zip a b, ρ, S => (evE x a ρ S).bind fun v S1 => (evE x b ρ S1).bind fun w S2 => match v, w with
    | .lst xs, .lst ys => .ok (.lst ((xs.zip ys).map fun p => .tup [p.1, p.2])) S2
    | _, _ => .stuck
  | .rev a, ρ, S => (evE x a ρ S).bind fun v S1 => match v with
    | .lst xs => .ok (.lst xs.reverse) S1
    | _ => .stuck
def evs (x : Cfg) : List E → Env → Store → R (List Val)
  | [], _, S => .ok [] S
  | e :: es, ρ, S => (evE x e ρ S).bind fun v S1 => (evs x es ρ S1).bind fun vs S2 => .ok (v :: vs) S2
def evO (x : Cfg) : Option E → Env → Store → R (Option Int)
  | none, _, S => .ok none S
  | some e, ρ, S => (evE x e ρ S).bind fun v S1 => match v with
    | .int i => .ok (some i) S1
    | _ => .stuck
def evC (x : Cfg) : Option E → Env → Store → R Bool
  | none, _, S => .ok true S
  | some e, ρ, S => (evE x e ρ S).bind fun v S1 => match v with
    | .bl b => .ok b S1
    | _ => .stuck
def evB (x : Cfg) (k : Bool) : List E → Env → Store → R Val
  | [], _, _ => .stuck
  | [e], ρ, S => evE x e ρ S
  | e :: es, ρ, S => (evE x e ρ S).bind fun v S1 => match v with
    | .bl b => if b = k then evB x k es ρ S1 else .ok (.bl b) S1
    | _ => .stuck
end

/-! ### statements -/
def muV : Mu → Val → List Val → Option Val
  | .app _, .lst xs, [v] => if szb (xs.length + 1) = true then some (.lst (xs ++ [v])) else none
  | .ext _, .lst xs, [.lst ys] => if szb (xs.length + ys.length) = true then some (.lst (xs ++ ys)) else none
  | .clr, .lst _, [] => some (.lst [])
  | .rev, .lst xs, [] => some (.lst xs.reverse)
  | .seti _ _, .lst xs, [v, .int i] => match atN xs.length i with
    | some j => some (.lst (xs.set j v))
    | none => none
  | .seti _ _, .dK kvs, [v, k] => match keyK k with
    | some k => if szb (kvs.length + 1) = true then some (.dK (dput k v kvs)) else none
    | none => none
  | .seti _ _, .dT kvs, [v, .tup ks] => match keyT ks with
    | some k => if szb (kvs.length + 1) = true then some (.dT (dput k v kvs)) else none
    | none => none
  | .dpop _, .dT kvs, [.tup ks] => match keyT ks with
    | some k => (match dget k kvs with
      | some _ => some (.dT (ddel k kvs))
      | none => none)
    | none => none
  | .dpopN _, .dT kvs, [.tup ks, .non] => match keyT ks with
    | some k => some (.dT (ddel k kvs))
    | none => none
  | _, _, _ => none
def muArgs : Mu → List E
  | .app e => [e]
  | .ext e => [e]
  | .clr => []
  | .rev => []
  | .seti k e => [e, k]
  | .dpop k => [k]
  | .dpopN k => [k, .k .non]
/-- the content of a place -/
def plV : Pl → Val → Env → Store → Option Val
  | .slot i, _, ρ, _ => match ρ[i]? with
    | some (some v) => some v
    | _ => none
  | .fldp i f, _, ρ, S => match ρ[i]? with
    | some (some (.ref n)) => (match S[n]? with
      | some (.inst _ fs) => fget f fs
      | _ => none)
    | _ => none
  | .refp _, .ref n, _, S => match S[n]? with
    | some (.cell v) => some v
    | _ => none
  | .refp _, _, _, _ => none
def muTy : Mu → Val → Bool
  | .app _, .lst _ => true
  | .ext _, .lst _ => true
  | .clr, .lst _ => true
  | .rev, .lst _ => true
  | .seti _ _, .lst _ => true
  | .dpop _, .dT _ => true
  | .dpopN _, .dT _ => true
  | _, _ => false
/-- what is extended by is looked up -/
def muDe (m : Mu) (S : Store) (vs : List Val) : List Val := match m with
  | .ext _ => vs.map (deref S)
  | _ => vs
/-- the content of a place is changed -/
def muP (m : Mu) (vs : List Val) : Pl → Val → Env → Store → RS
  | .slot i, _, ρ, S => match ρ[i]? with
    | some (some v) => (match muV m v vs with
      | some w => .nx (ρ.set i (some w)) S
      | none => .stuck)
    | _ => .stuck
  | .fldp i f, _, ρ, S => match ρ[i]? with
    | some (some (.ref n)) => (match S[n]? with
      | some (.inst c fs) => (match fget f fs with
        | some v => (match muV m v vs with
          | some w => .nx ρ (S.set n (.inst c (fput f w fs)))
          | none => .stuck)
        | none => .stuck)
      | _ => .stuck)
    | _ => .stuck
  | .refp _, .ref n, ρ, S => match S[n]? with
    | some (.cell v) => (match muV m v vs with
      | some w => .nx ρ (S.set n (.cell w))
      | none => .stuck)
    | _ => .stuck
  | .refp _, _, _, _ => .stuck
def plE : Pl → List E
  | .refp e => [e]
  | _ => []
@[simp] def R.toS {α : Type} (r : R α) (ρ : Env) (f : α → Store → RS) : RS := match r with
  | .ok a S => f a S
  | .exn c S => .exn c ρ S
  | .stuck => .stuck
def catches (G : Prog) (c d : Nat) : Option Bool := match G.cls c with
  | some C => if C.exc = true then some (C.sup.contains d) else none
  | none => none
def asSlot (o : Option Nat) (v : Option Val) (ρ : Env) : Env := match o with
  | some i => ρ.set i v
  | none => ρ
def unAs (o : Option Nat) : RS → RS
  | .exn _ _ _ => .stuck
  | .nx ρ S => .nx (asSlot o none ρ) S
  | .brk ρ S => .brk (asSlot o none ρ) S
  | .cnt ρ S => .cnt (asSlot o none ρ) S
  | r => r

def dropE : List Nat → Env → Env
  | [], ρ => ρ
  | i :: r, ρ => dropE r (ρ.set i none)

mutual
def evS (x : Cfg) : S → Env → Store → RS
  | .set i e, ρ, S => (evE x e ρ S).toS ρ fun v S1 => .nx (ρ.set i (some v)) S1
  | .unp is e, ρ, S => (evE x e ρ S).toS ρ fun v S1 => match v with
    | .tup vs => (match bindMany is vs ρ with
      | some ρ1 => .nx ρ1 S1
      | none => .stuck)
    | .lst vs => (match bindMany is vs ρ with
      | some ρ1 => .nx ρ1 S1
      | none => .stuck)
    | _ => .stuck
  | .sfld o f e, ρ, S => (evE x e ρ S).toS ρ fun w S1 => (evE x o ρ S1).toS ρ fun v S2 => match v with
    | .ref n => (match S2[n]? with
      | some (.inst c fs) => if fs.length < 900 then .nx ρ (S2.set n (.inst c (fput f w fs))) else .stuck
      | _ => .stuck)
    | .obj c fs => (match o with
      | .v i => if fs.length < 900 ∧ fldV x.G c f = true then .nx (ρ.set i (some (.obj c (fput f w fs)))) S2 else .stuck
      | _ => .stuck)
    | _ => .stuck
  | .ex e, ρ, S => (evE x e ρ S).toS ρ fun _ S1 => .nx ρ S1
  | .mu p m, ρ, S => (evs x (plE p) ρ S).toS ρ fun ps S1 => match plV p (ps.headD .non) ρ S1 with
    | some v => if muTy m v = true then (evs x (muArgs m) ρ S1).toS ρ fun vs S2 => muP m (muDe m S2 vs) p (ps.headD .non) ρ S2 else .stuck
    | none => .stuck
  | .ret e, ρ, S => (evE x e ρ S).toS ρ fun v S1 => .ret v S1
  | .retN, _, S => .ret .non S
  | .ife c a b, ρ, S => (evE x c ρ S).toS ρ fun v S1 => match v with
    | .bl t => if t = true then evSs x a ρ S1 else evSs x b ρ S1
    | _ => .stuck
  | .for' tg it body, ρ, S => (evE x it ρ S).toS ρ fun v S1 => match itemsV v with
    | some xs => forL (fun y ρ S => match bindT tg y ρ with
      | some ρ1 => evSs x body ρ1 S
      | none => .stuck) xs ρ S1
    | none => (match refL v S1 with
      | some (P, xs) => chkS P (forL (chkF P (fun y ρ S => match bindT tg y ρ with
        | some ρ1 => evSs x body ρ1 S
        | none => .stuck)) xs ρ S1)
      | none => .stuck)
  | .whil c body, ρ, S => whileL (evE x c) (evSs x body) x.wf ρ S
  | .brk, ρ, S => .brk ρ S
  | .cnt, ρ, S => .cnt ρ S
  | .pas, ρ, S => .nx ρ S
  | .rais c, ρ, S => .exn c ρ S
  | .nev, _, _ => .stuck
  | .binit f es, ρ, S => match (ρ[0]? : Option (Option Val)) with
    | some (some (.obj c [])) => (evs x es ρ S).toS ρ fun vs S1 => (match x.ini f c [] vs S1 with
      | .ok fs1 S2 => .nx (ρ.set 0 (some (.obj c fs1))) S2
      | .exn e S2 => .exn e (ρ.set 0 none) S2
      | .stuck => .stuck)
    | _ => .stuck
  | .mvs is s, ρ, S => match evS x s ρ S with
    | .nx ρ1 S1 => .nx (dropE is ρ1) S1
    | .exn c ρ1 S1 => .exn c (dropE is ρ1) S1
    | .ret v S1 => .ret v S1
    | _ => .stuck
  | .sti o k e, ρ, S => (evE x e ρ S).toS ρ fun v S1 => (evE x o ρ S1).toS ρ fun p S2 => (evE x k ρ S2).toS ρ fun q S3 => match cellN p S3 with
    | some (n, w) => (match muV (.seti k e) w [v, q] with
      | some z => .nx ρ (S3.set n (.cell z))
      | none => .stuck)
    | none => .stuck
  | .lock d s, ρ, S => match lockN (evE x d ρ S) with
    | some (n, w, S0) => unlkS n (evS x s ρ (S0.set n (.lk w)))
    | none => .stuck
  | .tr body hs, ρ, S => match evSs x body ρ S with
    | .exn c ρ1 S1 => evH x c hs ρ1 S1
    | r => r
def evSs (x : Cfg) : List S → Env → Store → RS
  | [], ρ, S => .nx ρ S
  | s :: r, ρ, S => match evS x s ρ S with
    | .nx ρ1 S1 => evSs x r ρ1 S1
    | q => q
def evH (x : Cfg) (c : Nat) : List (Nat × Option Nat × List S) → Env → Store → RS
  | [], ρ, S => .exn c ρ S
  | (d, o, suite) :: r, ρ, S => match catches x.G c d with
    | some true => unAs o (evSs x suite (asSlot o (some (.exc c)) ρ) S)
    | some false => evH x c r ρ S
    | none => .stuck
end

/-! ### calls -/
def startE (n : Nat) (vs : List Val) : Env := vs.map some ++ List.replicate (n - vs.length) none
def ofBody (r : RS) : R Val := match r with
  | .ret v S => .ok v S
  | .nx _ S => .ok .non S
  | .exn c _ S => .exn c S
  | _ => .stuck
def ofInit (c : Nat) (r : RS) : R (List (Nat × Val)) := match r with
  | .nx ρ S => (match (ρ[0]? : Option (Option Val)) with
    | some (some (.obj d fs)) => if d = c then .ok fs S else .stuck
    | _ => .stuck)
  | .exn c _ S => .exn c S
  | _ => .stuck
mutual
def run (G : Prog) (wf : Nat) : Nat → Nat → List Val → Store → R Val
  | 0, _, _, _ => .stuck
  | n + 1, f, vs, S => match G.fn f with
    | some F => if vs.length = F.np ∧ F.isIni = false then ofBody (evSs ⟨G, wf, run G wf n, runI G wf n⟩ F.body (startE F.names.length vs) S) else .stuck
    | none => .stuck
def runI (G : Prog) (wf : Nat) : Nat → Nat → Nat → List (Nat × Val) → List Val → Store → R (List (Nat × Val))
  | 0, _, _, _, _, _ => .stuck
  | 1, _, _, _, _, _ => .stuck
  | n + 2, f, c, fs, vs, S => match G.fn f with
    | some F => if vs.length + 1 = F.np ∧ F.isIni = true then ofInit c (evSs ⟨G, wf, run G wf n, runI G wf n⟩ F.body (startE F.names.length (.obj c fs :: vs)) S) else .stuck
    | none => .stuck
end
end
end Pv
end

section
set_option Elab.async false
set_option linter.all false
set_option maxRecDepth 100000
set_option autoImplicit false
/-! Pv2: how values lie in the abstract heap. -/
namespace Pv
open PySem PySem.Spec PyProof.Rows L2

/-- whose an address is: nobody's; frozen; a caller's, only looked at; a fresh result; a slot's; a store object's; a store object's own field -/
inductive Tag where | no | fz | br | rt | sl (i : Nat) | st (n : Nat) | fo (n f : Nat)
  deriving DecidableEq
structure Gh where
  T : Addr → Tag
  ι : Nat → Option Addr
structure Kx where
  ca : Nat → Addr
  nm : Nat → Str
  own : Nat → Nat → Bool
  kl : Addr → List V → Prop
  slf : Addr := 0

def fzP (g : Gh) (H : Hp) : Hp := fun a => if g.T a = .fz then H a else none
theorem fzP_some {g : Gh} {H : Hp} {a : Addr} {o : HO} (h : fzP g H a = some o) : g.T a = .fz ∧ H a = some o := by
  unfold fzP at h
  split at h
  · exact ⟨by assumption, h⟩
  · cases h
theorem fzP_of {g : Gh} {H : Hp} {a : Addr} {o : HO} (t : g.T a = .fz) (h : H a = some o) : fzP g H a = some o := by
  unfold fzP
  rw [if_pos t]
  exact h

mutual
def VRep (k : Kx) (F : Hp) (ι : Nat → Option Addr) : Val → V → Prop
  | .non, u => u = .non
  | .bl b, u => u = .bl b
  | .int i, u => u = .int i
  | .str s, u => u = .str s
  | .tup xs, u => ∃ a us, u = .ref a ∧ F a = some (.tup us) ∧ VReps k F ι xs us
  | .lst xs, u => ∃ a us, u = .ref a ∧ F a = some (.lst us) ∧ VReps k F ι xs us
  | .dK kvs, u => ∃ a us, u = .ref a ∧ F a = some (.dK us) ∧ VKs k F ι kvs us
  | .dT kvs, u => ∃ a us, u = .ref a ∧ F a = some (.dT us) ∧ VTs k F ι kvs us
  | .obj c fs, u => ∃ a dx us, u = .ref a ∧ F a = some (.ins (k.ca c) dx us) ∧ VFs k F ι fs us
  | .ref n, u => ∃ a, ι n = some a ∧ u = .ref a
  | .exc _, u => ∃ a, u = .ref a
  | .scr ns, u => ∃ a, u = .ref a ∧ ((∃ o, F a = some (.frz o (.lst (ns.map V.int)))) ∨ k.kl a (ns.map V.int))
def VReps (k : Kx) (F : Hp) (ι : Nat → Option Addr) : List Val → List V → Prop
  | [], us => us = []
  | x :: xs, us => ∃ u r, us = u :: r ∧ VRep k F ι x u ∧ VReps k F ι xs r
def VKs (k : Kx) (F : Hp) (ι : Nat → Option Addr) : List (Key × Val) → List (Key × V) → Prop
  | [], us => us = []
  | (q, x) :: xs, us => ∃ u r, us = (q, u) :: r ∧ VRep k F ι x u ∧ VKs k F ι xs r
def VTs (k : Kx) (F : Hp) (ι : Nat → Option Addr) : List (List Key × Val) → List (List Key × V) → Prop
  | [], us => us = []
  | (q, x) :: xs, us => ∃ u r, us = (q, u) :: r ∧ VRep k F ι x u ∧ VTs k F ι xs r
def VFs (k : Kx) (F : Hp) (ι : Nat → Option Addr) : List (Nat × Val) → List (Str × V) → Prop
  | [], us => us = []
  | (q, x) :: xs, us => ∃ u r, us = (k.nm q, u) :: r ∧ VRep k F ι x u ∧ VFs k F ι xs r
end

section
variable {k : Kx} {F F' : Hp} {ι ι' : Nat → Option Addr}
theorem rd_sub {a : Addr} {u : HO} (hF : ∀ a o, F a = some o → F' a = some o) (h : Rd F a u) : Rd F' a u := by
  rcases h with h | ⟨o, h⟩
  · exact .inl (hF _ _ h)
  · exact .inr ⟨o, hF _ _ h⟩
mutual
theorem VRep.mono (hF : ∀ a o, F a = some o → F' a = some o) (hι : ∀ n a, ι n = some a → ι' n = some a) : ∀ (v : Val) (u : V), VRep k F ι v u → VRep k F' ι' v u
  | .non, _, h => by simp only [VRep] at h ⊢; exact h
  | .bl _, _, h => by simp only [VRep] at h ⊢; exact h
  | .int _, _, h => by simp only [VRep] at h ⊢; exact h
  | .str _, _, h => by simp only [VRep] at h ⊢; exact h
  | .tup xs, _, h => by
    simp only [VRep] at h ⊢
    obtain ⟨a, us, e, f, r⟩ := h
    exact ⟨a, us, e, hF _ _ f, VReps.mono hF hι xs us r⟩
  | .lst xs, _, h => by
    simp only [VRep] at h ⊢
    obtain ⟨a, us, e, f, r⟩ := h
    exact ⟨a, us, e, hF _ _ f, VReps.mono hF hι xs us r⟩
  | .dK xs, _, h => by
    simp only [VRep] at h ⊢
    obtain ⟨a, us, e, f, r⟩ := h
    exact ⟨a, us, e, hF _ _ f, VKs.mono hF hι xs us r⟩
  | .dT xs, _, h => by
    simp only [VRep] at h ⊢
    obtain ⟨a, us, e, f, r⟩ := h
    exact ⟨a, us, e, hF _ _ f, VTs.mono hF hι xs us r⟩
  | .obj c fs, _, h => by
    simp only [VRep] at h ⊢
    obtain ⟨a, dx, us, e, f, r⟩ := h
    exact ⟨a, dx, us, e, hF _ _ f, VFs.mono hF hι fs us r⟩
  | .ref n, _, h => by
    simp only [VRep] at h ⊢
    obtain ⟨a, e, f⟩ := h
    exact ⟨a, hι _ _ e, f⟩
  | .exc _, _, h => by simp only [VRep] at h ⊢; exact h
  | .scr _, _, h => by
    simp only [VRep] at h ⊢
    obtain ⟨a, e, h⟩ := h
    exact ⟨a, e, h.imp (fun ⟨o, q⟩ => ⟨o, hF _ _ q⟩) id⟩
theorem VReps.mono (hF : ∀ a o, F a = some o → F' a = some o) (hι : ∀ n a, ι n = some a → ι' n = some a) : ∀ (xs : List Val) (us : List V), VReps k F ι xs us → VReps k F' ι' xs us
  | [], _, h => by simp only [VReps] at h ⊢; exact h
  | x :: xs, _, h => by
    simp only [VReps] at h ⊢
    obtain ⟨u, r, e, h1, h2⟩ := h
    exact ⟨u, r, e, VRep.mono hF hι x u h1, VReps.mono hF hι xs r h2⟩
theorem VKs.mono (hF : ∀ a o, F a = some o → F' a = some o) (hι : ∀ n a, ι n = some a → ι' n = some a) : ∀ (xs : List (Key × Val)) (us : List (Key × V)), VKs k F ι xs us → VKs k F' ι' xs us
  | [], _, h => by simp only [VKs] at h ⊢; exact h
  | (q, x) :: xs, _, h => by
    simp only [VKs] at h ⊢
    obtain ⟨u, r, e, h1, h2⟩ := h
    exact ⟨u, r, e, VRep.mono hF hι x u h1, VKs.mono hF hι xs r h2⟩
theorem VTs.mono (hF : ∀ a o, F a = some o → F' a = some o) (hι : ∀ n a, ι n = some a → ι' n = some a) : ∀ (xs : List (List Key × Val)) (us : List (List Key × V)), VTs k F ι xs us → VTs k F' ι' xs us
  | [], _, h => by simp only [VTs] at h ⊢; exact h
  | (q, x) :: xs, _, h => by
    simp only [VTs] at h ⊢
    obtain ⟨u, r, e, h1, h2⟩ := h
    exact ⟨u, r, e, VRep.mono hF hι x u h1, VTs.mono hF hι xs r h2⟩
theorem VFs.mono (hF : ∀ a o, F a = some o → F' a = some o) (hι : ∀ n a, ι n = some a → ι' n = some a) : ∀ (xs : List (Nat × Val)) (us : List (Str × V)), VFs k F ι xs us → VFs k F' ι' xs us
  | [], _, h => by simp only [VFs] at h ⊢; exact h
  | (q, x) :: xs, _, h => by
    simp only [VFs] at h ⊢
    obtain ⟨u, r, e, h1, h2⟩ := h
    exact ⟨u, r, e, VRep.mono hF hι x u h1, VFs.mono hF hι xs r h2⟩
end
end

/-- what a value at an address of a kind P reads; what is within is frozen -/
def TRep (k : Kx) (F : Hp) (ι : Nat → Option Addr) (P : Addr → HO → Prop) : Val → V → Prop
  | .lst xs, u => ∃ a us, u = .ref a ∧ P a (.lst us) ∧ VReps k F ι xs us
  | .dK kvs, u => ∃ a us, u = .ref a ∧ P a (.dK us) ∧ VKs k F ι kvs us
  | .dT kvs, u => ∃ a us, u = .ref a ∧ P a (.dT us) ∧ VTs k F ι kvs us
  | v, u => VRep k F ι v u
theorem TRep.mono {k : Kx} {F F' : Hp} {ι ι' : Nat → Option Addr} {P P' : Addr → HO → Prop} (hF : ∀ a o, F a = some o → F' a = some o) (hι : ∀ n a, ι n = some a → ι' n = some a) (hP : ∀ a o, P a o → P' a o) :
    ∀ (v : Val) (u : V), TRep k F ι P v u → TRep k F' ι' P' v u := by
  intro v u h
  cases v <;> simp only [TRep] at h ⊢ <;> first
    | exact VRep.mono hF hι _ _ h
    | (obtain ⟨a, us, e, p, r⟩ := h
       first
         | exact ⟨a, us, e, hP _ _ p, VReps.mono hF hι _ _ r⟩
         | exact ⟨a, us, e, hP _ _ p, VKs.mono hF hι _ _ r⟩
         | exact ⟨a, us, e, hP _ _ p, VTs.mono hF hι _ _ r⟩)
theorem VRep.toT {k : Kx} {F : Hp} {ι : Nat → Option Addr} {P : Addr → HO → Prop} (hP : ∀ a o, F a = some o → P a o) : ∀ {v : Val} {u : V}, VRep k F ι v u → TRep k F ι P v u := by
  intro v u h
  cases v <;> simp only [TRep, VRep] at h ⊢ <;> first
    | exact h
    | (obtain ⟨a, us, e, p, r⟩ := h; exact ⟨a, us, e, hP _ _ p, r⟩)

/-- modes of a result: kept (all frozen); looked at, and stays behind a statement; looked at; looked at, an object's own field too; fresh -/
inductive Md where | V | L | B | P | O | N (n : Nat)
  deriving DecidableEq
/-- kept things may come as this; so may an argument ahead of others -/
def Md.kp : Md → Bool
  | .O => false
  | .N _ => false
  | _ => true
def Md.pq : Md → Bool
  | .P => true
  | .N _ => true
  | _ => false
def bTag : Tag → Bool
  | .fz => true
  | .br => true
  | .sl _ => true
  | _ => false
def pTag : Tag → Bool
  | .fo _ _ => true
  | t => bTag t
def lTag : Tag → Bool
  | .fz => true
  | .br => true
  | _ => false
def LP (g : Gh) (H : Hp) (a : Addr) (o : HO) : Prop := lTag (g.T a) = true ∧ H a = some o
def BP (g : Gh) (H : Hp) (a : Addr) (o : HO) : Prop := bTag (g.T a) = true ∧ H a = some o
def PP (g : Gh) (H : Hp) (a : Addr) (o : HO) : Prop := pTag (g.T a) = true ∧ H a = some o
def OP (g : Gh) (H : Hp) (t : Tag) (a : Addr) (o : HO) : Prop := g.T a = t ∧ H a = some o
def MRep (k : Kx) (g : Gh) (H : Hp) : Md → Val → V → Prop
  | .V, v, u => VRep k (fzP g H) g.ι v u
  | .L, v, u => TRep k (fzP g H) g.ι (LP g H) v u
  | .B, v, u => TRep k (fzP g H) g.ι (BP g H) v u
  | .P, v, u => TRep k (fzP g H) g.ι (PP g H) v u
  | .O, v, u => TRep k (fzP g H) g.ι (OP g H .rt) v u
  | .N n, v, u => TRep k (fzP g H) g.ι (OP g H (.st n)) v u
/-- readable now -/
def dctO : HO → Bool
  | .dK _ => true
  | .dT _ => true
  | _ => false
/-- it stands there; a dict may be locked -/
def NowP (H : Hp) (a : Addr) (o : HO) : Prop := H a = some o ∨ (dctO o = true ∧ ∃ ob, H a = some (.frz ob o))
theorem NowP.rd {H : Hp} {a : Addr} {o : HO} (h : NowP H a o) : Rd H a o := h.imp id fun z => z.2
theorem NowP.of {H : Hp} {a : Addr} {o : HO} (h : NowP H a o) (hn : dctO o = false) : H a = some o := by
  rcases h with h | ⟨h, _⟩
  · exact h
  · rw [hn] at h; cases h
def RRep (k : Kx) (g : Gh) (H : Hp) (v : Val) (u : V) : Prop := TRep k (fzP g H) g.ι (fun a o => H a = some o) v u
def LRep (k : Kx) (g : Gh) (H : Hp) (v : Val) (u : V) : Prop := TRep k (fzP g H) g.ι (NowP H) v u
theorem RRep.lo {k : Kx} {g : Gh} {H : Hp} {v : Val} {u : V} (h : RRep k g H v u) : LRep k g H v u := TRep.mono (fun _ _ h => h) (fun _ _ h => h) (fun a o r => .inl r) _ _ h

theorem fzP_rd {g : Gh} {H : Hp} {a : Addr} {o : HO} (h : Rd (fzP g H) a o) : g.T a = .fz ∧ Rd H a o := by
  rcases h with h | ⟨ob, h⟩
  · exact ⟨(fzP_some h).1, .inl (fzP_some h).2⟩
  · exact ⟨(fzP_some h).1, .inr ⟨ob, (fzP_some h).2⟩⟩
theorem MRep.VB {k : Kx} {g : Gh} {H : Hp} {v : Val} {u : V} (h : MRep k g H .V v u) : MRep k g H .B v u :=
  VRep.toT (fun a o r => ⟨by rw [(fzP_some r).1]; rfl, (fzP_some r).2⟩) h
theorem MRep.VL {k : Kx} {g : Gh} {H : Hp} {v : Val} {u : V} (h : MRep k g H .V v u) : MRep k g H .L v u :=
  VRep.toT (fun a o r => ⟨by rw [(fzP_some r).1]; rfl, (fzP_some r).2⟩) h
theorem MRep.LB {k : Kx} {g : Gh} {H : Hp} {v : Val} {u : V} (h : MRep k g H .L v u) : MRep k g H .B v u :=
  TRep.mono (fun _ _ h => h) (fun _ _ h => h) (fun a o r => ⟨by
    have := r.1
    cases e : g.T a <;> rw [e] at this <;> first | rfl | exact Bool.noConfusion this, r.2⟩) _ _ h
theorem MRep.BP {k : Kx} {g : Gh} {H : Hp} {v : Val} {u : V} (h : MRep k g H .B v u) : MRep k g H .P v u :=
  TRep.mono (fun _ _ h => h) (fun _ _ h => h) (fun a o r => ⟨by
    have := r.1
    unfold pTag
    cases e : g.T a <;> rw [e] at this <;> first | rfl | exact this, r.2⟩) _ _ h
theorem MRep.R {k : Kx} {g : Gh} {H : Hp} {v : Val} {u : V} : ∀ {m : Md}, MRep k g H m v u → RRep k g H v u
  | .V, h => VRep.toT (fun a o r => (fzP_some r).2) h
  | .L, h => TRep.mono (fun _ _ h => h) (fun _ _ h => h) (fun a o r => r.2) _ _ h
  | .B, h => TRep.mono (fun _ _ h => h) (fun _ _ h => h) (fun a o r => r.2) _ _ h
  | .P, h => TRep.mono (fun _ _ h => h) (fun _ _ h => h) (fun a o r => r.2) _ _ h
  | .O, h => TRep.mono (fun _ _ h => h) (fun _ _ h => h) (fun a o r => r.2) _ _ h
  | .N _, h => TRep.mono (fun _ _ h => h) (fun _ _ h => h) (fun a o r => r.2) _ _ h

/-! ### slots, the store -/
def SRep (k : Kx) (g : Gh) (H : Hp) (i : Nat) : Mode → Val → V → Prop
  | .shr, v, u => MRep k g H .V v u
  | .brw, v, u => MRep k g H .L v u
  | .own, v, u => TRep k (fzP g H) g.ι (OP g H (.sl i)) v u
  | .ini, v, u => ∃ c fs a dx us, v = .obj c fs ∧ (u = .ref a ∧ a = k.slf) ∧ g.T a = .sl i ∧ H a = some (.ins (k.ca c) dx us) ∧ VFs k (fzP g H) g.ι fs us
/-- the fields of an instance of the store -/
def FReps (k : Kx) (g : Gh) (H : Hp) (c n : Nat) : List (Nat × Val) → List (Str × V) → Prop
  | [], us => us = []
  | (f, x) :: xs, us => ∃ u r, us = (k.nm f, u) :: r ∧ (if k.own c f = true then TRep k (fzP g H) g.ι (OP g H (.fo n f)) x u else MRep k g H .V x u) ∧ FReps k g H c n xs r
def isColl : Val → Prop
  | .lst _ => True
  | .dK _ => True
  | .dT _ => True
  | _ => False
def ORep (k : Kx) (g : Gh) (H : Hp) (n : Nat) (a : Addr) : SO → Prop
  | .inst c fs => ∃ dx us, H a = some (.ins (k.ca c) dx us) ∧ FReps k g H c n fs us
  | .cell v => isColl v ∧ TRep k (fzP g H) g.ι (fun b o => b = a ∧ H b = some o) v (.ref a)
  | .lk v => isDct v = true ∧ TRep k (fzP g H) g.ι (fun b o => b = a ∧ ∃ ob, H b = some (.frz ob o)) v (.ref a)
structure SRel (k : Kx) (g : Gh) (H : Hp) (S : Store) : Prop where
  obj : ∀ n o, S[n]? = some o → ∃ a, g.ι n = some a ∧ g.T a = .st n ∧ ORep k g H n a o
  no : ∀ n, S.length ≤ n → g.ι n = none
  uniq : ∀ n f a b, g.T a = .fo n f → g.T b = .fo n f → a = b
  wf : ∀ a, g.T a ≠ .no → H a ≠ none
  tup : ∀ a xs, H a = some (.tup xs) → g.T a = .no ∨ g.T a = .fz
/-- the slots' modes; the slot that holds the exception of a suite, its address, its class -/
structure Sl where
  l : List Mode
  hx : Option (Nat × Addr × Nat) := none
structure Rel (k : Kx) (md : Sl) (g : Gh) (σ : L2.St) (H : Hp) (ρ : Env) (S : Store) : Prop where
  len : ρ.length = md.l.length
  lenσ : σ.length = md.l.length
  slot : ∀ i v, ρ[i]? = some (some v) → ∃ u, σ[i]? = some (some u) ∧ SRep k g H i (md.l.getD i .shr) v u
  hx : ∀ i a c, md.hx = some (i, a, c) → σ[i]? = some (some (.ref a)) ∧ ρ[i]? = some (some (.exc c))
  str : SRel k g H S

/-- a step of an expression; q: no object of the store is changed -/
structure Step (q : Bool) (g : Gh) (H : Hp) (g' : Gh) (H' : Hp) : Prop where
  keep : ∀ a, g.T a = .fz ∨ g.T a = .br ∨ (g.T a = .rt ∨ ∃ i, g.T a = .sl i) → g'.T a = g.T a ∧ H' a = H a
  st : ∀ a n, g.T a = .st n → g'.T a = .st n
  fo : ∀ a n f, g.T a = .fo n f → g'.T a = .fo n f
  pure : q = true → ∀ a, (∃ n, g.T a = .st n) ∨ (∃ n f, g.T a = .fo n f) → H' a = H a
  ι : ∀ n a, g.ι n = some a → g'.ι n = some a
  lk : ∀ a n ob o, g.T a = .st n → H a = some (.frz ob o) → H' a = H a
/-- a step of a statement -/
structure StepS (g : Gh) (H : Hp) (g' : Gh) (H' : Hp) : Prop where
  keep : ∀ a, g.T a = .fz ∨ g.T a = .br → g'.T a = g.T a ∧ H' a = H a
  st : ∀ a n, g.T a = .st n → g'.T a = .st n
  fo : ∀ a n f, g.T a = .fo n f → g'.T a = .fo n f
  ι : ∀ n a, g.ι n = some a → g'.ι n = some a
  lk : ∀ a n ob o, g.T a = .st n → H a = some (.frz ob o) → H' a = H a

section
variable {k : Kx} {g g' g2 : Gh} {H H' H2 : Hp} {q : Bool}
theorem Step.refl : Step q g H g H := ⟨fun _ _ => ⟨rfl, rfl⟩, fun _ _ h => h, fun _ _ _ h => h, fun _ _ _ => rfl, fun _ _ h => h, fun _ _ _ _ _ _ => rfl⟩
theorem Step.trans {q' : Bool} (a : Step q g H g' H') (b : Step q' g' H' g2 H2) : Step (q && q') g H g2 H2 where
  keep := fun x h => by
    obtain ⟨e1, e2⟩ := a.keep x h
    obtain ⟨e3, e4⟩ := b.keep x (by rw [e1]; exact h)
    exact ⟨e3.trans e1, e4.trans e2⟩
  st := fun x n h => b.st x n (a.st x n h)
  fo := fun x n f h => b.fo x n f (a.fo x n f h)
  pure := fun hq x h => by
    obtain ⟨h1, h2⟩ := Bool.and_eq_true_iff.mp hq
    have e := a.pure h1 x h
    refine (b.pure h2 x ?_).trans e
    rcases h with ⟨n, h⟩ | ⟨n, f, h⟩
    · exact .inl ⟨n, a.st x n h⟩
    · exact .inr ⟨n, f, a.fo x n f h⟩
  ι := fun n x h => b.ι n x (a.ι n x h)
  lk := fun x n ob o t h => by
    have e := a.lk x n ob o t h
    exact (b.lk x n ob o (a.st x n t) (e.trans h)).trans e
theorem Step.weak (a : Step q g H g' H') : Step false g H g' H' := ⟨a.keep, a.st, a.fo, fun h => (Bool.noConfusion h), a.ι, a.lk⟩
theorem Step.any (a : Step true g H g' H') : Step q g H g' H' := ⟨a.keep, a.st, a.fo, fun _ => a.pure rfl, a.ι, a.lk⟩
theorem Step.toS (a : Step q g H g' H') : StepS g H g' H' := ⟨fun x h => a.keep x (by rcases h with h | h <;> simp [h]), a.st, a.fo, a.ι, a.lk⟩
theorem StepS.refl : StepS g H g H := ⟨fun _ _ => ⟨rfl, rfl⟩, fun _ _ h => h, fun _ _ _ h => h, fun _ _ h => h, fun _ _ _ _ _ _ => rfl⟩
theorem StepS.trans (a : StepS g H g' H') (b : StepS g' H' g2 H2) : StepS g H g2 H2 where
  keep := fun x h => by
    obtain ⟨e1, e2⟩ := a.keep x h
    obtain ⟨e3, e4⟩ := b.keep x (by rw [e1]; exact h)
    exact ⟨e3.trans e1, e4.trans e2⟩
  st := fun x n h => b.st x n (a.st x n h)
  fo := fun x n f h => b.fo x n f (a.fo x n f h)
  ι := fun n x h => b.ι n x (a.ι n x h)
  lk := fun x n ob o t h => by
    have e := a.lk x n ob o t h
    exact (b.lk x n ob o (a.st x n t) (e.trans h)).trans e
theorem Step.fz (a : Step q g H g' H') : ∀ b o, fzP g H b = some o → fzP g' H' b = some o := fun b o h => by
  obtain ⟨t, e⟩ := fzP_some h
  obtain ⟨t', e'⟩ := a.keep b (.inl t)
  exact fzP_of (t'.trans t) (e'.trans e)
theorem StepS.fz (a : StepS g H g' H') : ∀ b o, fzP g H b = some o → fzP g' H' b = some o := fun b o h => by
  obtain ⟨t, e⟩ := fzP_some h
  obtain ⟨t', e'⟩ := a.keep b (.inl t)
  exact fzP_of (t'.trans t) (e'.trans e)
theorem rd_eq {a : Addr} {o : HO} (e : H' a = H a) (h : Rd H a o) : Rd H' a o := by
  unfold Rd at *
  rw [e]
  exact h
/-- a value kept or looked at is so behind a step -/
theorem Step.mV {v : Val} {u : V} (a : Step q g H g' H') (h : MRep k g H .V v u) : MRep k g' H' .V v u := VRep.mono a.fz a.ι _ _ h
theorem Step.mVs {v : List Val} {u : List V} (a : Step q g H g' H') (h : VReps k (fzP g H) g.ι v u) : VReps k (fzP g' H') g'.ι v u := VReps.mono a.fz a.ι _ _ h
theorem StepS.mV {v : Val} {u : V} (a : StepS g H g' H') (h : MRep k g H .V v u) : MRep k g' H' .V v u := VRep.mono a.fz a.ι _ _ h
theorem StepS.mL {v : Val} {u : V} (a : StepS g H g' H') (h : MRep k g H .L v u) : MRep k g' H' .L v u := by
  refine TRep.mono a.fz a.ι (fun b o r => ?_) _ _ h
  obtain ⟨t, r⟩ := r
  have hk : g.T b = .fz ∨ g.T b = .br := by
    cases e : g.T b <;> rw [e] at t <;> first | (exact .inl rfl) | (exact .inr rfl) | cases t
  obtain ⟨t', e'⟩ := a.keep b hk
  exact ⟨by rw [t']; exact t, e'.trans r⟩
theorem Step.mL {v : Val} {u : V} (a : Step q g H g' H') (h : MRep k g H .L v u) : MRep k g' H' .L v u := a.toS.mL h
theorem Step.mB {v : Val} {u : V} (a : Step q g H g' H') (h : MRep k g H .B v u) : MRep k g' H' .B v u := by
  refine TRep.mono a.fz a.ι (fun b o r => ?_) _ _ h
  obtain ⟨t, r⟩ := r
  have hk : g.T b = .fz ∨ g.T b = .br ∨ (g.T b = .rt ∨ ∃ i, g.T b = .sl i) := by
    cases e : g.T b <;> rw [e] at t <;> first | (exact .inl rfl) | (exact .inr (.inl rfl)) | (exact .inr (.inr (.inr ⟨_, rfl⟩))) | cases t
  obtain ⟨t', e'⟩ := a.keep b hk
  exact ⟨by rw [t']; exact t, e'.trans r⟩
theorem Step.mP {v : Val} {u : V} (a : Step true g H g' H') (h : MRep k g H .P v u) : MRep k g' H' .P v u := by
  refine TRep.mono a.fz a.ι (fun b o r => ?_) _ _ h
  obtain ⟨t, r⟩ := r
  cases e : g.T b <;> rw [e] at t
  case fo n f => exact ⟨by rw [a.fo b n f e]; rfl, (a.pure rfl b (.inr ⟨n, f, e⟩)).trans r⟩
  all_goals first
    | (obtain ⟨t', e'⟩ := a.keep b (by first | (exact .inl e) | (exact .inr (.inl e)) | (exact .inr (.inr (.inr ⟨_, e⟩))))
       exact ⟨by rw [t', e]; rfl, e'.trans r⟩)
    | exact Bool.noConfusion t
theorem Step.mO1 {v : Val} {u : V} (a : Step q g H g' H') (h : MRep k g H .O v u) : MRep k g' H' .O v u := by
  refine TRep.mono a.fz a.ι (fun b o r => ?_) _ _ h
  obtain ⟨t', e'⟩ := a.keep b (.inr (.inr (.inl r.1)))
  exact ⟨t'.trans r.1, e'.trans r.2⟩
theorem Step.mS {i : Nat} {m : Mode} {v : Val} {u : V} (a : Step q g H g' H') (h : SRep k g H i m v u) : SRep k g' H' i m v u := by
  cases m with
  | shr => exact a.mV h
  | brw => exact a.mL h
  | own =>
    refine TRep.mono a.fz a.ι (fun b o r => ?_) _ _ h
    obtain ⟨t', e'⟩ := a.keep b (.inr (.inr (.inr ⟨i, r.1⟩)))
    exact ⟨t'.trans r.1, e'.trans r.2⟩
  | ini =>
    obtain ⟨c, fs, x, dx, us, e1, e2, e3, e4, e5⟩ := h
    obtain ⟨t', e'⟩ := a.keep x (.inr (.inr (.inr ⟨i, e3⟩)))
    exact ⟨c, fs, x, dx, us, e1, e2, t'.trans e3, e'.trans e4, VFs.mono a.fz a.ι _ _ e5⟩
theorem Step.mF (a : Step true g H g' H') {c n : Nat} : ∀ {fs : List (Nat × Val)} {us : List (Str × V)}, FReps k g H c n fs us → FReps k g' H' c n fs us
  | [], _, h => h
  | (f, x) :: xs, _, h => by
    obtain ⟨u, r, e, h1, h2⟩ := h
    refine ⟨u, r, e, ?_, a.mF h2⟩
    split
    · rename_i ho
      rw [if_pos ho] at h1
      refine TRep.mono a.fz a.ι (fun b o r => ?_) _ _ h1
      exact ⟨a.fo b n f r.1, (a.pure rfl b (.inr ⟨n, f, r.1⟩)).trans r.2⟩
    · rename_i ho
      rw [if_neg ho] at h1
      exact a.mV h1
theorem Step.mO (a : Step true g H g' H') {n : Nat} {x : Addr} {o : SO} (t : g.T x = .st n) (h : ORep k g H n x o) : ORep k g' H' n x o := by
  have e := a.pure rfl x (.inl ⟨n, t⟩)
  cases o with
  | inst c fs =>
    obtain ⟨dx, us, h1, h2⟩ := h
    exact ⟨dx, us, e.trans h1, a.mF h2⟩
  | cell v =>
    obtain ⟨hc, h⟩ := h
    refine ⟨hc, TRep.mono a.fz a.ι (fun b ob r => ?_) _ _ h⟩
    obtain ⟨rfl, r⟩ := r
    exact ⟨rfl, e.trans r⟩
  | lk v =>
    obtain ⟨hc, h⟩ := h
    refine ⟨hc, TRep.mono a.fz a.ι (fun b ob r => ?_) _ _ h⟩
    obtain ⟨rfl, oo, r⟩ := r
    exact ⟨rfl, oo, e.trans r⟩
/-- nothing but new things -/
theorem Step.mN1 {n : Nat} {v : Val} {u : V} (a : Step true g H g' H') (h : MRep k g H (.N n) v u) : MRep k g' H' (.N n) v u := by
  refine TRep.mono a.fz a.ι (fun b o r => ?_) _ _ h
  exact ⟨a.st b n r.1, (a.pure rfl b (.inl ⟨n, r.1⟩)).trans r.2⟩
theorem Step.mM {v : Val} {u : V} {m : Md} (a : Step q g H g' H') (hm : m.pq = true → q = true) (h : MRep k g H m v u) : MRep k g' H' m v u := by
  cases m with
  | V => exact a.mV h
  | L => exact a.mL h
  | B => exact a.mB h
  | P => rw [hm rfl] at a; exact a.mP h
  | O => exact a.mO1 h
  | N n => rw [hm rfl] at a; exact a.mN1 h
theorem Step.rel (a : Step true g H g' H') {md : Sl} {σ : L2.St} {ρ : Env} {S : Store} (r : Rel k md g σ H ρ S) (hno : ∀ n, S.length ≤ n → g'.ι n = none)
    (hu : ∀ n f x y, g'.T x = .fo n f → g'.T y = .fo n f → x = y) (hw : ∀ x, g'.T x ≠ .no → H' x ≠ none) (ht : ∀ x xs, H' x = some (.tup xs) → g'.T x = .no ∨ g'.T x = .fz) : Rel k md g' σ H' ρ S :=
  ⟨r.len, r.lenσ, fun i v e => by
    obtain ⟨u, e2, h⟩ := r.slot i v e
    exact ⟨u, e2, a.mS h⟩, r.hx, ⟨fun n o e => by
    obtain ⟨x, i, t, h⟩ := r.str.obj n o e
    exact ⟨x, a.ι _ _ i, a.st x n t, a.mO t h⟩, hno, hu, hw, ht⟩⟩
end

/-! ### a new object -/
def Gh.put (g : Gh) (p : Addr) (t : Tag) : Gh := { g with T := fun a => if a = p then t else g.T a }
theorem put_same {g : Gh} {p : Addr} {t : Tag} : (g.put p t).T p = t := by
  unfold Gh.put
  exact if_pos rfl
theorem put_ne {g : Gh} {p a : Addr} {t : Tag} (h : a ≠ p) : (g.put p t).T a = g.T a := by
  unfold Gh.put
  exact if_neg h
section
variable {k : Kx} {md : Sl} {g : Gh} {σ : L2.St} {H : Hp} {ρ : Env} {S : Store} {p : Addr} {o : HO} {t : Tag}
theorem SRel.no_tag (r : SRel k g H S) (hp : H p = none) : g.T p = .no := by
  cases e : g.T p with
  | no => rfl
  | _ => exact absurd hp (r.wf p (by rw [e]; intro z; cases z))
theorem put_step (hp : g.T p = .no) : Step true g H (g.put p t) (upd H p o) := by
  have ne : ∀ a, g.T a ≠ .no → a ≠ p := fun a h e => h (by rw [e]; exact hp)
  refine ⟨fun a h => ?_, fun a n h => ?_, fun a n f h => ?_, fun _ a h => ?_, fun _ _ h => h, fun a n ob o t h => upd_ne (ne a (by rw [t]; intro z; cases z))⟩
  · have n := ne a (by rcases h with h | h | h | ⟨i, h⟩ <;> rw [h] <;> intro z <;> cases z)
    exact ⟨put_ne n, upd_ne n⟩
  · rw [put_ne (ne a (by rw [h]; intro z; cases z))]
    exact h
  · rw [put_ne (ne a (by rw [h]; intro z; cases z))]
    exact h
  · refine upd_ne (ne a ?_)
    rcases h with ⟨n, h⟩ | ⟨n, f, h⟩ <;> rw [h] <;> intro z <;> cases z
theorem put_rel (r : Rel k md g σ H ρ S) (hp : H p = none) (ht : t = .fz ∨ ((t = .rt ∨ ∃ n, t = .st n) ∧ ∀ xs, o ≠ .tup xs)) : Rel k md (g.put p t) σ (upd H p o) ρ S := by
  have hn := r.str.no_tag hp
  refine (put_step hn).rel r (fun n h => r.str.no n h) (fun n f x y hx hy => ?_) (fun x hx => ?_) (fun x xs hx => ?_)
  · have h1 : x ≠ p := fun e => by rw [e, put_same] at hx; rcases ht with h | ⟨h | ⟨_, h⟩, _⟩ <;> rw [h] at hx <;> cases hx
    have h2 : y ≠ p := fun e => by rw [e, put_same] at hy; rcases ht with h | ⟨h | ⟨_, h⟩, _⟩ <;> rw [h] at hy <;> cases hy
    rw [put_ne h1] at hx
    rw [put_ne h2] at hy
    exact r.str.uniq n f x y hx hy
  · by_cases e : x = p
    · rw [e, upd_same]
      intro z
      cases z
    · rw [upd_ne e]
      rw [put_ne e] at hx
      exact r.str.wf x hx
  · by_cases e : x = p
    · rw [e, put_same]
      rcases ht with h | ⟨_, h⟩
      · exact .inr h
      · rw [e, upd_same] at hx
        exact absurd (Option.some.inj hx) (h xs)
    · rw [upd_ne e] at hx
      rw [put_ne e]
      exact r.str.tup x xs hx
/-- what stands there already is frozen -/
theorem tag_step (hp : g.T p = .no) : Step true g H (g.put p t) H := by
  have ne : ∀ a, g.T a ≠ .no → a ≠ p := fun a h e => h (by rw [e]; exact hp)
  refine ⟨fun a h => ⟨put_ne (ne a ?_), rfl⟩, fun a n h => ?_, fun a n f h => ?_, fun _ a h => rfl, fun _ _ h => h, fun _ _ _ _ _ _ => rfl⟩
  · rcases h with h | h | h | ⟨i, h⟩ <;> rw [h] <;> intro z <;> cases z
  · rw [put_ne (ne a (by rw [h]; intro z; cases z))]
    exact h
  · rw [put_ne (ne a (by rw [h]; intro z; cases z))]
    exact h
theorem tag_rel (r : Rel k md g σ H ρ S) (hp : g.T p = .no) (hh : H p ≠ none) : Rel k md (g.put p .fz) σ H ρ S := by
  refine (tag_step hp).rel r (fun n h => r.str.no n h) (fun n f x y hx hy => ?_) (fun x hx => ?_) (fun x xs hx => ?_)
  · have h1 : x ≠ p := fun e => by rw [e, put_same] at hx; cases hx
    have h2 : y ≠ p := fun e => by rw [e, put_same] at hy; cases hy
    rw [put_ne h1] at hx
    rw [put_ne h2] at hy
    exact r.str.uniq n f x y hx hy
  · by_cases e : x = p
    · rw [e]; exact hh
    · rw [put_ne e] at hx
      exact r.str.wf x hx
  · by_cases e : x = p
    · rw [e, put_same]
      exact .inr rfl
    · rw [put_ne e]
      exact r.str.tup x xs hx
theorem put_fz (hp : g.T p = .no) : fzP (g.put p .fz) (upd H p o) p = some o := fzP_of put_same upd_same
end
end Pv
end

section
set_option Elab.async false
set_option linter.all false
set_option maxRecDepth 100000
set_option autoImplicit false
/-! Pv3: readings of expressions by the evaluator; how parts are put together. -/
namespace Pv
open PySem PySem.Spec PyProof.Rows L2

mutual
/-- no object of the store is changed -/
def pureE : E → Bool
  | .v _ => true
  | .k _ => true
  | .gl _ _ => true
  | .op2 _ a b => pureE a && pureE b
  | .rep es b => pureEs es && pureE b
  | .neg a => pureE a
  | .cmp _ a b => pureE a && pureE b
  | .ch _ _ a b c => pureE a && pureE b && pureE c
  | .ch3 _ _ _ a b c d => pureE a && (pureE b && (pureE c && pureE d))
  | .bop _ es => pureEs es
  | .nt a => pureE a
  | .ife t a b => pureE t && pureE a && pureE b
  | .tup es => pureEs es
  | .lst es => pureEs es
  | .ix a b => pureE a && pureE b
  | .sl a lo hi => pureE a && pureO lo && pureO hi
  | .fld a _ => pureE a
  | .bi _ es => pureEs es
  | .bm _ o es => pureE o && pureEs es
  | .isi a _ => pureE a
  | .comp e _ it cd => pureE e && pureE it && pureO cd
  | .d0 _ => true
  | .mkr a => pureE a
  | .lck _ a => pureE a
  | .isiT a _ => pureE a
  | .sortk _ a => pureE a
  | .rng es => pureEs es
  | .zip a b => pureE a && pureE b
  | .rev a => pureE a
  | _ => false
def pureEs : List E → Bool
  | [] => true
  | e :: r => pureE e && pureEs r
def pureO : Option E → Bool
  | none => true
  | some e => pureE e
end

/-- what a judgement is over -/
structure Jx where
  k : Kx
  x : Cfg
  md : Sl
  W : WX
variable (J : Jx)

def Jx.exnP (J : Jx) (g : Gh) (H : Hp) (σ : L2.St) (ρ : Env) (c : Nat) (S' : Store) : Prop :=
  ∀ g' H', Rel J.k J.md g' σ H' ρ S' → Step false g H g' H' → J.W (.ref (J.k.ca c)) none σ H'
def Jx.Post (J : Jx) (m : Md) (q : Bool) (g : Gh) (H : Hp) (σ : L2.St) (ρ : Env) (r : R Val) (Q : VK) : Prop := match r with
  | .ok v S' => ∀ u g' H', Rel J.k J.md g' σ H' ρ S' → Step q g H g' H' → MRep J.k g' H' m v u → Q u H'
  | .exn c S' => J.exnP g H σ ρ c S'
  | .stuck => False
/-- e's reading: e is looked at as m -/
def Jx.tE (J : Jx) (m : Md) (e : E) : TE := fun σ H Q => ∃ g ρ S, Rel J.k J.md g σ H ρ S ∧ J.Post m (pureE e) g H σ ρ (evE J.x e ρ S) Q
def MReps (k : Kx) (g : Gh) (H : Hp) : List Md → List Val → List V → Prop
  | _, [], us => us = []
  | ms, v :: vs, us => ∃ u r, us = u :: r ∧ MRep k g H (ms.headD .V) v u ∧ MReps k g H ms.tail vs r
def Jx.PostA (J : Jx) (ms : List Md) (q : Bool) (g : Gh) (H : Hp) (σ : L2.St) (ρ : Env) (r : R (List Val)) (Q : List V → Hp → Prop) : Prop := match r with
  | .ok vs S' => ∀ us g' H', Rel J.k J.md g' σ H' ρ S' → Step q g H g' H' → MReps J.k g' H' ms vs us → Q us H'
  | .exn c S' => J.exnP g H σ ρ c S'
  | .stuck => False
def Jx.tA (J : Jx) (ms : List Md) (es : List E) : TA := fun σ H Q => ∃ g ρ S, Rel J.k J.md g σ H ρ S ∧ J.PostA ms (pureEs es) g H σ ρ (evs J.x es ρ S) Q
/-- a test -/
def Jx.tT (J : Jx) (e : E) : TT := tTest (J.tE .B e)

theorem PE.imp {X : Cx} {e : Expr} {t t' : TE} (h : PE X e t) (w : ∀ σ H Q, t' σ H Q → t σ H Q) : PE X e t' := ⟨fun pins s σ H Q I q => h.run pins s σ H Q I (w σ H Q q)⟩
theorem PT.imp {X : Cx} {e : Expr} {t t' : TT} (h : PT X e t) (w : ∀ σ H Q, t' σ H Q → t σ H Q) : PT X e t' := ⟨fun pins s σ H Q I q => h.run pins s σ H Q I (w σ H Q q)⟩
theorem PA.imp {X : Cx} {e : List Expr} {t t' : TA} (h : PA X e t) (w : ∀ σ H Q, t' σ H Q → t σ H Q) : PA X e t' := ⟨fun pos pins s σ H Q I q => h.run pos pins s σ H Q I (w σ H Q q)⟩

section
variable {J : Jx} {g g' : Gh} {H H' : Hp} {σ : L2.St} {ρ : Env} {S S' : Store} {m m1 m2 : Md} {q q1 q2 : Bool} {c : Nat}
theorem exn_weak (h : J.exnP g H σ ρ c S') (a : Step q g H g' H') : J.exnP g' H' σ ρ c S' := fun g2 H2 r s => h g2 H2 r (Step.weak (a.trans s))
/-- the rest of a reading behind a step -/
theorem post_after {r : R Val} {Q : VK} (h : J.Post m (q1 && q2) g H σ ρ r Q) (a : Step q1 g H g' H') : J.Post m q2 g' H' σ ρ r Q := by
  cases r with
  | ok v S1 => exact fun u g2 H2 r s mr => h u g2 H2 r (a.trans s) mr
  | exn c S1 => exact exn_weak h a
  | stuck => exact h
theorem post_true {r : R Val} {Q : VK} (h : J.Post m q g H σ ρ r Q) (a : Step q g H g' H') : J.Post m true g' H' σ ρ r Q := by
  refine post_after (q1 := q) (q2 := true) ?_ a
  rw [Bool.and_true]
  exact h
/-- one part, then the rest: what the part's reading is asked for -/
theorem tE_bind {e : E} {f : Val → Store → R Val} {Q : VK} {Q1 : VK} (r : Rel J.k J.md g σ H ρ S) (h : J.Post m (pureE e && q2) g H σ ρ ((evE J.x e ρ S).bind f) Q)
    (hn : ∀ v S' u g' H', evE J.x e ρ S = .ok v S' → Rel J.k J.md g' σ H' ρ S' → MRep J.k g' H' m1 v u → J.Post m q2 g' H' σ ρ (f v S') Q → Q1 u H') : J.tE m1 e σ H Q1 := by
  refine ⟨g, ρ, S, r, ?_⟩
  cases ev : evE J.x e ρ S with
  | ok v S1 =>
    rw [ev] at h
    exact fun u g2 H2 r2 s mr => hn v S1 u g2 H2 ev r2 mr (post_after h s)
  | exn c S1 =>
    rw [ev] at h
    exact h
  | stuck =>
    rw [ev] at h
    exact h
/-- .. with what the step kept -/
theorem tE_bindS {e : E} {f : Val → Store → R Val} {Q : VK} {Q1 : VK} (r : Rel J.k J.md g σ H ρ S) (h : J.Post m (pureE e && q2) g H σ ρ ((evE J.x e ρ S).bind f) Q)
    (hn : ∀ v S' u g' H', evE J.x e ρ S = .ok v S' → Rel J.k J.md g' σ H' ρ S' → Step (pureE e) g H g' H' → MRep J.k g' H' m1 v u → J.Post m q2 g' H' σ ρ (f v S') Q → Q1 u H') : J.tE m1 e σ H Q1 := by
  refine ⟨g, ρ, S, r, ?_⟩
  cases ev : evE J.x e ρ S with
  | ok v S1 =>
    rw [ev] at h
    exact fun u g2 H2 r2 s mr => hn v S1 u g2 H2 ev r2 s mr (post_after h s)
  | exn c S1 =>
    rw [ev] at h
    exact h
  | stuck =>
    rw [ev] at h
    exact h
theorem tA_bind {es : List E} {ms : List Md} {f : List Val → Store → R Val} {Q : VK} {Q1 : List V → Hp → Prop} (r : Rel J.k J.md g σ H ρ S) (h : J.Post m (pureEs es && q2) g H σ ρ ((evs J.x es ρ S).bind f) Q)
    (hn : ∀ vs S' us g' H', evs J.x es ρ S = .ok vs S' → Rel J.k J.md g' σ H' ρ S' → Step (pureEs es) g H g' H' → MReps J.k g' H' ms vs us → J.Post m q2 g' H' σ ρ (f vs S') Q → Q1 us H') : J.tA ms es σ H Q1 := by
  refine ⟨g, ρ, S, r, ?_⟩
  cases ev : evs J.x es ρ S with
  | ok v S1 =>
    rw [ev] at h
    exact fun u g2 H2 r2 s mr => hn v S1 u g2 H2 ev r2 s mr (post_after h s)
  | exn c S1 =>
    rw [ev] at h
    exact h
  | stuck =>
    rw [ev] at h
    exact h
theorem post_q {r : R Val} {Q : VK} (h : J.Post m q g H σ ρ r Q) : J.Post m true g H σ ρ r Q := post_true h (Step.any Step.refl)
end

/-! ### results -/
def tagM : Md → Tag
  | .O => .rt
  | .N n => .st n
  | _ => .fz
theorem tagM_or (m : Md) : tagM m = .fz ∨ (tagM m = .rt ∨ ∃ n, tagM m = .st n) := by cases m <;> simp [tagM]
section
variable {k : Kx} {g : Gh} {H : Hp} {p : Addr} {m : Md}
/-- values that are no collections -/
def simple : Val → Bool
  | .non => true
  | .bl _ => true
  | .int _ => true
  | .str _ => true
  | _ => false
theorem MRep.of_V {v : Val} {u : V} (h : VRep k (fzP g H) g.ι v u) (hc : ¬ isColl v) : MRep k g H m v u := by
  cases m with
  | V => exact h
  | L => cases v <;> first | exact h | exact absurd trivial hc
  | B => cases v <;> first | exact h | exact absurd trivial hc
  | P => cases v <;> first | exact h | exact absurd trivial hc
  | O => cases v <;> first | exact h | exact absurd trivial hc
  | N _ => cases v <;> first | exact h | exact absurd trivial hc
theorem MRep.int (i : Int) : MRep k g H m (.int i) (.int i) := MRep.of_V (by simp only [VRep]) (fun h => h)
theorem MRep.bl (i : Bool) : MRep k g H m (.bl i) (.bl i) := MRep.of_V (by simp only [VRep]) (fun h => h)
theorem MRep.str (i : Str) : MRep k g H m (.str i) (.str i) := MRep.of_V (by simp only [VRep]) (fun h => h)
theorem MRep.non : MRep k g H m .non .non := MRep.of_V (by simp only [VRep]) (fun h => h)
theorem MRep.V_any {v : Val} {u : V} (hm : m.kp = true) (h : MRep k g H .V v u) : MRep k g H m v u := by
  cases m with
  | V => exact h
  | L => exact h.VL
  | B => exact h.VB
  | P => exact h.VB.BP
  | O => cases hm
  | N _ => cases hm
/-- a fresh collection -/
theorem mrep_lst {xs : List Val} {us : List V} (hp : g.T p = .no) (h : VReps k (fzP g H) g.ι xs us) : MRep k (g.put p (tagM m)) (upd H p (.lst us)) m (.lst xs) (.ref p) := by
  have st : Step true g H (g.put p (tagM m)) (upd H p (.lst us)) := put_step hp
  have h2 := st.mVs h
  cases m with
  | V =>
    show VRep _ _ _ _ _
    simp only [VRep]
    exact ⟨p, us, rfl, fzP_of put_same upd_same, h2⟩
  | L => exact ⟨p, us, rfl, ⟨by rw [show (g.put p (tagM .L)).T p = .fz from put_same]; rfl, upd_same⟩, h2⟩
  | B => exact ⟨p, us, rfl, ⟨by rw [show (g.put p (tagM .B)).T p = .fz from put_same]; rfl, upd_same⟩, h2⟩
  | P => exact ⟨p, us, rfl, ⟨by rw [show (g.put p (tagM .P)).T p = .fz from put_same]; rfl, upd_same⟩, h2⟩
  | O => exact ⟨p, us, rfl, ⟨put_same, upd_same⟩, h2⟩
  | N _ => exact ⟨p, us, rfl, ⟨put_same, upd_same⟩, h2⟩
theorem mrep_dK {xs : List (Key × Val)} {us : List (Key × V)} (hp : g.T p = .no) (h : VKs k (fzP g H) g.ι xs us) : MRep k (g.put p (tagM m)) (upd H p (.dK us)) m (.dK xs) (.ref p) := by
  have st : Step true g H (g.put p (tagM m)) (upd H p (.dK us)) := put_step hp
  have h2 := VKs.mono st.fz st.ι _ _ h
  cases m with
  | V =>
    show VRep _ _ _ _ _
    simp only [VRep]
    exact ⟨p, us, rfl, fzP_of put_same upd_same, h2⟩
  | L => exact ⟨p, us, rfl, ⟨by rw [show (g.put p (tagM .L)).T p = .fz from put_same]; rfl, upd_same⟩, h2⟩
  | B => exact ⟨p, us, rfl, ⟨by rw [show (g.put p (tagM .B)).T p = .fz from put_same]; rfl, upd_same⟩, h2⟩
  | P => exact ⟨p, us, rfl, ⟨by rw [show (g.put p (tagM .P)).T p = .fz from put_same]; rfl, upd_same⟩, h2⟩
  | O => exact ⟨p, us, rfl, ⟨put_same, upd_same⟩, h2⟩
  | N _ => exact ⟨p, us, rfl, ⟨put_same, upd_same⟩, h2⟩
theorem mrep_dT {xs : List (List Key × Val)} {us : List (List Key × V)} (hp : g.T p = .no) (h : VTs k (fzP g H) g.ι xs us) : MRep k (g.put p (tagM m)) (upd H p (.dT us)) m (.dT xs) (.ref p) := by
  have st : Step true g H (g.put p (tagM m)) (upd H p (.dT us)) := put_step hp
  have h2 := VTs.mono st.fz st.ι _ _ h
  cases m with
  | V =>
    show VRep _ _ _ _ _
    simp only [VRep]
    exact ⟨p, us, rfl, fzP_of put_same upd_same, h2⟩
  | L => exact ⟨p, us, rfl, ⟨by rw [show (g.put p (tagM .L)).T p = .fz from put_same]; rfl, upd_same⟩, h2⟩
  | B => exact ⟨p, us, rfl, ⟨by rw [show (g.put p (tagM .B)).T p = .fz from put_same]; rfl, upd_same⟩, h2⟩
  | P => exact ⟨p, us, rfl, ⟨by rw [show (g.put p (tagM .P)).T p = .fz from put_same]; rfl, upd_same⟩, h2⟩
  | O => exact ⟨p, us, rfl, ⟨put_same, upd_same⟩, h2⟩
  | N _ => exact ⟨p, us, rfl, ⟨put_same, upd_same⟩, h2⟩
theorem mrep_tup {xs : List Val} {us : List V} (hp : g.T p = .no) (h : VReps k (fzP g H) g.ι xs us) : MRep k (g.put p .fz) (upd H p (.tup us)) m (.tup xs) (.ref p) := by
  have st : Step true g H (g.put p .fz) (upd H p (.tup us)) := put_step hp
  refine MRep.of_V ?_ fun h => h
  simp only [VRep]
  exact ⟨p, us, rfl, fzP_of put_same upd_same, st.mVs h⟩
end
section
variable {J : Jx} {g : Gh} {H : Hp} {σ : L2.St} {ρ : Env} {S : Store} {m : Md} {Q : VK}
theorem fin_lst {xs : List Val} {us : List V} (r : Rel J.k J.md g σ H ρ S) (hv : VReps J.k (fzP g H) g.ι xs us) (h : J.Post m true g H σ ρ (.ok (.lst xs) S) Q) : ∀ p, H p = none → Q (.ref p) (upd H p (.lst us)) := fun p hp =>
  h _ _ _ (put_rel r hp ((tagM_or m).imp id fun e => ⟨e, fun _ z => nomatch z⟩)) (put_step (r.str.no_tag hp)) (mrep_lst (r.str.no_tag hp) hv)
theorem fin_dK {xs : List (Key × Val)} {us : List (Key × V)} (r : Rel J.k J.md g σ H ρ S) (hv : VKs J.k (fzP g H) g.ι xs us) (h : J.Post m true g H σ ρ (.ok (.dK xs) S) Q) : ∀ p, H p = none → Q (.ref p) (upd H p (.dK us)) := fun p hp =>
  h _ _ _ (put_rel r hp ((tagM_or m).imp id fun e => ⟨e, fun _ z => nomatch z⟩)) (put_step (r.str.no_tag hp)) (mrep_dK (r.str.no_tag hp) hv)
theorem fin_dT {xs : List (List Key × Val)} {us : List (List Key × V)} (r : Rel J.k J.md g σ H ρ S) (hv : VTs J.k (fzP g H) g.ι xs us) (h : J.Post m true g H σ ρ (.ok (.dT xs) S) Q) : ∀ p, H p = none → Q (.ref p) (upd H p (.dT us)) := fun p hp =>
  h _ _ _ (put_rel r hp ((tagM_or m).imp id fun e => ⟨e, fun _ z => nomatch z⟩)) (put_step (r.str.no_tag hp)) (mrep_dT (r.str.no_tag hp) hv)
theorem fin_tup {xs : List Val} {us : List V} (r : Rel J.k J.md g σ H ρ S) (hv : VReps J.k (fzP g H) g.ι xs us) (h : J.Post m true g H σ ρ (.ok (.tup xs) S) Q) : ∀ p, H p = none → Q (.ref p) (upd H p (.tup us)) := fun p hp =>
  h _ _ _ (put_rel r hp (.inl rfl)) (put_step (r.str.no_tag hp)) (mrep_tup (r.str.no_tag hp) hv)
theorem fin_V {v : Val} {u : V} (r : Rel J.k J.md g σ H ρ S) (hv : ∀ m, MRep J.k g H m v u) (h : J.Post m true g H σ ρ (.ok v S) Q) : Q u H := h _ _ _ r Step.refl (hv m)
theorem fin_kept {v : Val} {u : V} (r : Rel J.k J.md g σ H ρ S) (hm : m.kp = true) (hv : MRep J.k g H .V v u) (h : J.Post m true g H σ ρ (.ok v S) Q) : Q u H := h _ _ _ r Step.refl (hv.V_any hm)
end

/-! ### what is read -/
section
variable {k : Kx} {g : Gh} {H : Hp} {S : Store}
theorem RRep.int_of {i : Int} {u : V} (h : RRep k g H (.int i) u) : u = .int i := by
  have h2 : VRep _ _ _ _ _ := h
  simpa only [VRep] using h2
theorem RRep.bl_of {i : Bool} {u : V} (h : RRep k g H (.bl i) u) : u = .bl i := by
  have h2 : VRep _ _ _ _ _ := h
  simpa only [VRep] using h2
theorem RRep.str_of {i : Str} {u : V} (h : RRep k g H (.str i) u) : u = .str i := by
  have h2 : VRep _ _ _ _ _ := h
  simpa only [VRep] using h2
theorem RRep.non_of {u : V} (h : RRep k g H .non u) : u = .non := by
  have h2 : VRep _ _ _ _ _ := h
  simpa only [VRep] using h2
theorem RRep.lst_of {xs : List Val} {u : V} (h : RRep k g H (.lst xs) u) : ∃ a us, u = .ref a ∧ H a = some (.lst us) ∧ VReps k (fzP g H) g.ι xs us := h
theorem RRep.dK_of {xs : List (Key × Val)} {u : V} (h : RRep k g H (.dK xs) u) : ∃ a us, u = .ref a ∧ H a = some (.dK us) ∧ VKs k (fzP g H) g.ι xs us := h
theorem RRep.dT_of {xs : List (List Key × Val)} {u : V} (h : RRep k g H (.dT xs) u) : ∃ a us, u = .ref a ∧ H a = some (.dT us) ∧ VTs k (fzP g H) g.ι xs us := h
theorem LRep.dK_of {xs : List (Key × Val)} {u : V} (h : LRep k g H (.dK xs) u) : ∃ a us, u = .ref a ∧ Rd H a (.dK us) ∧ VKs k (fzP g H) g.ι xs us := by
  obtain ⟨a, us, e, h, r⟩ := h
  exact ⟨a, us, e, h.rd, r⟩
theorem LRep.dT_of {xs : List (List Key × Val)} {u : V} (h : LRep k g H (.dT xs) u) : ∃ a us, u = .ref a ∧ Rd H a (.dT us) ∧ VTs k (fzP g H) g.ι xs us := by
  obtain ⟨a, us, e, h, r⟩ := h
  exact ⟨a, us, e, h.rd, r⟩
/-- what is no dict is read as it stands -/
theorem LRep.R {v : Val} {u : V} (h : LRep k g H v u) (hd : isDct v = false) : RRep k g H v u := by
  cases v with
  | lst xs =>
    obtain ⟨a, us, e, h, r⟩ := h
    exact ⟨a, us, e, h.of rfl, r⟩
  | dK _ => cases hd
  | dT _ => cases hd
  | _ => exact h
theorem RRep.scr_of {ns : List Int} {u : V} {K : PySem.W.Frag} (hk : ∀ a us (H : Hp), k.kl a us → SqL K H a us) (h : RRep k g H (.scr ns) u) : ∃ a, u = .ref a ∧ SqL K H a (ns.map V.int) := by
  have h2 : VRep _ _ _ _ _ := h
  simp only [VRep] at h2
  obtain ⟨a, e, h3⟩ := h2
  refine ⟨a, e, ?_⟩
  rcases h3 with ⟨o, h3⟩ | h3
  · exact .inl (.inr ⟨o, (fzP_some h3).2⟩)
  · exact hk a _ H h3
theorem RRep.tup_of {xs : List Val} {u : V} (h : RRep k g H (.tup xs) u) : ∃ a us, u = .ref a ∧ H a = some (.tup us) ∧ g.T a = .fz ∧ VReps k (fzP g H) g.ι xs us := by
  have h2 : VRep _ _ _ _ _ := h
  simp only [VRep] at h2
  obtain ⟨a, us, e, f, r⟩ := h2
  exact ⟨a, us, e, (fzP_some f).2, (fzP_some f).1, r⟩
/-- a value as it is read now, the store's collections looked up -/
theorem deref_R {v : Val} {u : V} (s : SRel k g H S) (h : RRep k g H v u) : RRep k g H (deref S v) u := by
  cases v with
  | ref n =>
    have h2 : VRep _ _ _ _ _ := h
    simp only [VRep] at h2
    obtain ⟨a, e, rfl⟩ := h2
    cases hs : S[n]? with
    | none =>
      simp only [deref, hs]
      exact h
    | some o =>
      obtain ⟨a', e', t, ho⟩ := s.obj n o hs
      rw [e] at e'
      cases e'
      cases o with
      | inst c fs =>
        simp only [deref, hs]
        exact h
      | cell w =>
        simp only [deref, hs]
        have h3 := ho.2
        exact TRep.mono (P := fun b o => b = a ∧ H b = some o) (fun _ _ h => h) (fun _ _ h => h) (fun b o r => r.2) _ _ h3
      | lk w =>
        simp only [deref, hs]
        exact h
  | _ => exact h
theorem look_R {v : Val} {u : V} (s : SRel k g H S) (h : RRep k g H v u) : LRep k g H (look S v) u := by
  cases v with
  | ref n =>
    cases hs : S[n]? with
    | some o =>
      cases o with
      | lk w =>
        have h2 : VRep _ _ _ _ _ := h
        simp only [VRep] at h2
        obtain ⟨a, e, rfl⟩ := h2
        obtain ⟨a', e', t, hd, h3⟩ := s.obj n _ hs
        rw [e] at e'
        cases e'
        simp only [look, hs]
        cases w <;> try (cases hd; done)
        · obtain ⟨b, us, e1, ⟨rfl, ob, hb⟩, r⟩ := h3
          exact ⟨b, us, e1, .inr ⟨rfl, ob, hb⟩, r⟩
        · obtain ⟨b, us, e1, ⟨rfl, ob, hb⟩, r⟩ := h3
          exact ⟨b, us, e1, .inr ⟨rfl, ob, hb⟩, r⟩
      | cell w =>
        have := (deref_R s h).lo
        simp only [deref, hs] at this
        simp only [look, hs]
        exact this
      | inst c fs =>
        simp only [look, hs]
        exact h.lo
    | none =>
      simp only [look, hs]
      exact h.lo
  | _ => exact h.lo
theorem VReps.len : ∀ {F : Hp} {ι : Nat → Option Addr} {xs : List Val} {us : List V}, VReps k F ι xs us → us.length = xs.length
  | _, _, [], _, h => by simp only [VReps] at h; subst h; rfl
  | _, _, x :: xs, _, h => by
    simp only [VReps] at h
    obtain ⟨u, r, e, _, h2⟩ := h
    subst e
    rw [List.length_cons, List.length_cons, VReps.len h2]
theorem VReps.get : ∀ {F : Hp} {ι : Nat → Option Addr} {xs : List Val} {us : List V} {i : Nat} {x : Val}, VReps k F ι xs us → xs[i]? = some x → ∃ u, us[i]? = some u ∧ VRep k F ι x u
  | _, _, [], _, i, x, h, e => by simp at e
  | _, _, y :: xs, _, 0, x, h, e => by
    simp only [VReps] at h
    obtain ⟨u, r, e2, h1, _⟩ := h
    subst e2
    simp at e
    subst e
    exact ⟨u, rfl, h1⟩
  | _, _, y :: xs, _, i + 1, x, h, e => by
    simp only [VReps] at h
    obtain ⟨u, r, e2, _, h2⟩ := h
    subst e2
    obtain ⟨w, e3, h3⟩ := VReps.get h2 (i := i) (x := x) (by simpa using e)
    exact ⟨w, by simpa using e3, h3⟩
theorem VReps.app {F : Hp} {ι : Nat → Option Addr} : ∀ {xs ys : List Val} {us ws : List V}, VReps k F ι xs us → VReps k F ι ys ws → VReps k F ι (xs ++ ys) (us ++ ws)
  | [], _, _, _, h, h' => by simp only [VReps] at h; subst h; exact h'
  | x :: xs, ys, _, ws, h, h' => by
    simp only [VReps] at h
    obtain ⟨u, r, e, h1, h2⟩ := h
    subst e
    show VReps _ _ _ (x :: (xs ++ ys)) _
    simp only [VReps]
    exact ⟨u, r ++ ws, rfl, h1, VReps.app h2 h'⟩
theorem VReps.one {F : Hp} {ι : Nat → Option Addr} {x : Val} {u : V} (h : VRep k F ι x u) : VReps k F ι [x] [u] := by
  simp only [VReps]
  exact ⟨u, [], rfl, h, rfl⟩
theorem VReps.ints {F : Hp} {ι : Nat → Option Addr} : ∀ {xs : List Val} {us : List V} {is : List Int}, VReps k F ι xs us → intsOf xs = some is → us = is.map V.int
  | [], _, is, h, e => by
    simp only [VReps] at h
    simp only [intsOf, Option.some.injEq] at e
    subst h e
    rfl
  | x :: xs, _, is, h, e => by
    simp only [VReps] at h
    obtain ⟨u, r, e2, h1, h2⟩ := h
    cases x <;> simp only [intsOf] at e <;> try cases e
    rename_i i
    split at e
    · rename_i is' q
      cases e
      simp only [VRep] at h1
      subst e2 h1
      rw [VReps.ints h2 q]
      rfl
    · cases e
theorem VReps.bools {F : Hp} {ι : Nat → Option Addr} : ∀ {xs : List Val} {us : List V} {is : List Bool}, VReps k F ι xs us → boolsOf xs = some is → us = is.map V.bl
  | [], _, is, h, e => by
    simp only [VReps] at h
    simp only [boolsOf, Option.some.injEq] at e
    subst h e
    rfl
  | x :: xs, _, is, h, e => by
    simp only [VReps] at h
    obtain ⟨u, r, e2, h1, h2⟩ := h
    cases x <;> simp only [boolsOf] at e <;> try cases e
    rename_i i
    split at e
    · rename_i is' q
      cases e
      simp only [VRep] at h1
      subst e2 h1
      rw [VReps.bools h2 q]
      rfl
    · cases e
theorem VReps.strs {F : Hp} {ι : Nat → Option Addr} : ∀ {xs : List Val} {us : List V} {is : List Str}, VReps k F ι xs us → strsOf xs = some is → us = is.map V.str
  | [], _, is, h, e => by
    simp only [VReps] at h
    simp only [strsOf, Option.some.injEq] at e
    subst h e
    rfl
  | x :: xs, _, is, h, e => by
    simp only [VReps] at h
    obtain ⟨u, r, e2, h1, h2⟩ := h
    cases x <;> simp only [strsOf] at e <;> try cases e
    rename_i i
    split at e
    · rename_i is' q
      cases e
      simp only [VRep] at h1
      subst e2 h1
      rw [VReps.strs h2 q]
      rfl
    · cases e
end
end Pv
end

section
set_option Elab.async false
set_option linter.all false
set_option maxRecDepth 100000
set_option autoImplicit false
/-! Pv4: expressions: names, constants, operators, comparisons, displays, subscripts. -/
namespace Pv
open PySem PySem.Spec PyProof.Rows L2

theorem szb_le {n : Nat} (h : szb n = true) : n ≤ 16777215 := of_decide_eq_true h
theorem sizeLine_val : sizeLine = 16777216 := by decide
theorem szb_line {n : Nat} (h : szb n = true) : n ≤ sizeLine := by
  have := szb_le h
  rw [sizeLine_val]
  omega
theorem szb_lt {n : Nat} (h : szb n = true) : n < sizeLine := by
  have := szb_le h
  rw [sizeLine_val]
  omega

section
variable {X : Cx} {J : Jx} {m : Md} {pos : Pos}

/-! ### names, constants -/
def modeOk : Mode → Md → Bool
  | .shr, .O => false
  | .shr, .N _ => false
  | .shr, _ => true
  | .brw, .L => true
  | .ini, _ => false
  | _, .B => true
  | _, .P => true
  | _, _ => false
theorem SRep.M {k : Kx} {g : Gh} {H : Hp} {i : Nat} {md : Mode} {v : Val} {u : V} (ok : modeOk md m = true) (h : SRep k g H i md v u) : MRep k g H m v u := by
  cases md with
  | shr =>
    refine MRep.V_any ?_ h
    cases m <;> first | rfl | cases ok
  | brw => cases m <;> first | exact h | exact MRep.LB h | exact MRep.BP (MRep.LB h) | exact Bool.noConfusion ok
  | own =>
    have hB : MRep k g H .B v u := TRep.mono (fun _ _ h => h) (fun _ _ h => h) (fun a o r => ⟨by rw [r.1]; rfl, r.2⟩) _ _ h
    cases m <;> first | exact hB | exact MRep.BP hB | exact Bool.noConfusion ok
  | ini => cases m <;> exact Bool.noConfusion ok
theorem s_v {i : Nat} {x : Str} (hN : X.N[i]? = some x) (hv : Vis X.env.scope x) (hd : (x == ("__debug__" : Str)) = false) (hcd : (x == ("__classdict__" : Str)) = false) (ok : modeOk (J.md.l.getD i .shr) m = true) :
    PE X (.Name x pos) (J.tE m (.v i)) := by
  refine PE.imp (pe_var hN hv hd hcd) fun σ H Q h => ?_
  obtain ⟨g, ρ, S, r, p⟩ := h
  simp only [evE] at p
  split at p
  · rename_i v e
    obtain ⟨u, e2, h2⟩ := r.slot i v e
    exact ⟨u, e2, p u g H r Step.refl (h2.M ok)⟩
  · exact p.elim
def cnV' : Cn → V
  | .non => .non
  | .bl b => .bl b
  | .int i => .int i
  | .str s => .str s
theorem cn_rep {k : Kx} {g : Gh} {H : Hp} (c : Cn) : MRep k g H m (cnV c) (cnV' c) := by
  cases c
  · exact MRep.non
  · exact MRep.bl _
  · exact MRep.int _
  · exact MRep.str _
def cnC : Cn → Const
  | .non => .none
  | .bl b => .bool b
  | .int i => .int i
  | .str s => .str s
theorem s_k {c : Cn} {cc : Const} {kk : Nat} (h : cc = cnC c) : PE X (.Constant cc kk pos) (J.tE m (.k c)) := by
  have key : ∀ σ H Q, J.tE m (.k c) σ H Q → Q (cnV' c) H := fun σ H Q h => by
    obtain ⟨g, ρ, S, r, p⟩ := h
    simp only [evE] at p
    exact p _ g H r Step.refl (cn_rep c)
  subst h
  cases c with
  | non => exact PE.imp pe_non key
  | bl b => exact PE.imp pe_bl key
  | int i => exact PE.imp pe_int key
  | str s => exact PE.imp pe_str key
/-- a module's constant: an int, a text -/
theorem s_gl {x : Str} {c : Cn} {u : Value} (hg : Gl X x) (hm : X.mg x = some u) (r : RelV (cnV' c) u) (hd : (x == ("__debug__" : Str)) = false) : PE X (.Name x pos) (J.tE m (.gl x (cnV c))) :=
  PE.imp (pe_glob hg hm r hd) fun σ H Q h => by
    obtain ⟨g, ρ, S, r, p⟩ := h
    simp only [evE] at p
    exact p _ g H r Step.refl (cn_rep c)

/-! ### two operands, by a rule of values -/
theorem two_at {r : R2} {m1 m2 : Md} {a b : E} {comb : Store → Val → Val → R Val} {g : Gh} {H : Hp} {σ : L2.St} {ρ : Env} {S : Store} {Q : VK} (hm1 : m1 = .V ∨ m1 = .B ∨ (m1 = .P ∧ pureE b = true)) (rl : Rel J.k J.md g σ H ρ S)
    (p : J.Post m (pureE a && (pureE b && true)) g H σ ρ ((evE J.x a ρ S).bind fun v S1 => (evE J.x b ρ S1).bind fun w S2 => comb S2 v w) Q)
    (hr : ∀ g' H' v S1 w S2 u1 u2, evE J.x a ρ S = .ok v S1 → evE J.x b ρ S1 = .ok w S2 → Rel J.k J.md g' σ H' ρ S2 → MRep J.k g' H' m1 v u1 → MRep J.k g' H' m2 w u2 → J.Post m true g' H' σ ρ (comb S2 v w) Q → r u1 u2 H' Q) : tOp r (J.tE m1 a) (J.tE m2 b) σ H Q := by
  refine tE_bind (q2 := pureE b && true) rl p fun v S1 u1 g1 H1 e1 r1 mr1 p1 => ?_
  refine ⟨g1, ρ, S1, r1, ?_⟩
  cases ev2 : evE J.x b ρ S1 with
  | ok w S2 =>
    rw [ev2] at p1
    intro u2 g2 H2 r2 st mr2
    have mr1' : MRep J.k g2 H2 m1 v u1 := by
      rcases hm1 with rfl | rfl | ⟨rfl, hp⟩
      · exact st.mV mr1
      · exact st.mB mr1
      · rw [hp] at st
        exact st.mP mr1
    exact hr g2 H2 v S1 w S2 u1 u2 e1 ev2 r2 mr1' mr2 (post_after (q1 := pureE b) (q2 := true) p1 st)
  | exn c S2 =>
    rw [ev2] at p1
    exact p1
  | stuck =>
    rw [ev2] at p1
    exact p1
theorem two_of {r : R2} {m1 m2 : Md} {e a b : E} {comb : Store → Val → Val → R Val} (hm1 : m1 = .V ∨ m1 = .B ∨ (m1 = .P ∧ pureE b = true))
    (ev : ∀ ρ S, evE J.x e ρ S = (evE J.x a ρ S).bind fun v S1 => (evE J.x b ρ S1).bind fun w S2 => comb S2 v w) (hq : pureE e = (pureE a && (pureE b && true)))
    (hr : ∀ g H σ ρ S v w u1 u2 (Q : VK), Rel J.k J.md g σ H ρ S → MRep J.k g H m1 v u1 → MRep J.k g H m2 w u2 → J.Post m true g H σ ρ (comb S v w) Q → r u1 u2 H Q) (σ : L2.St) (H : Hp) (Q : VK) (h : J.tE m e σ H Q) : tOp r (J.tE m1 a) (J.tE m2 b) σ H Q := by
  obtain ⟨g, ρ, S, rl, p⟩ := h
  rw [ev, hq] at p
  exact two_at hm1 rl p fun g' H' v S1 w S2 u1 u2 _ _ r1 h1 h2 p1 => hr g' H' σ ρ S2 v w u1 u2 Q r1 h1 h2 p1

/-! ### + - * // % ** -/
theorem rdL {pins : List (Addr × Obj)} {σ : L2.St} {H : Hp} {s : Shared} {a : Addr} {xs : List V} (I : Inv X pins σ H s) (h : Rd H a (.lst xs)) : ∃ (its : List Value) (n : Nat), xs.length ≤ sizeLine ∧ Vals xs its ∧ s.heap.get? a = some { cls := .type "list", data := .seq its.toArray n } := by
  obtain ⟨z, its, n, r, e⟩ := h.ok I.hok
  exact ⟨its, n, z, r, e⟩
def rCatR : R2 := fun x y H Q => ∃ l b xs zs, x = .ref l ∧ y = .ref b ∧ Rd H l (.lst xs) ∧ Rd H b (.lst zs) ∧ xs.length + zs.length ≤ sizeLine ∧ ∀ p, H p = none → Q (.ref p) (upd H p (.lst (xs ++ zs)))
theorem op_catR : OpR X (binaryOp .Add) rCatR := by
  intro pins s σ H x y v u Q I rx ry h
  obtain ⟨l, b, xs, zs, rfl, rfl, hH, hB, hz, q⟩ := h
  cases rx
  cases ry
  obtain ⟨its, n, z, r, e⟩ := rdL I hH
  obtain ⟨its2, n2, z2, r2, e2⟩ := rdL I hB
  have hl := r.length
  have hl2 := r2.length
  refine PySem.P.add_list e e2 ?_ (by rw [List.size_toArray, List.size_toArray]; omega)
  have ea : its.toArray ++ its2.toArray = (its ++ its2).toArray := by simp
  rw [ea]
  exact ⟨.ref _, _, I.lnew (t' := s.toks) (r.append r2) (by rw [List.length_append]; omega), rfl, q _ I.fresh⟩
def CMulP (i j : Int) : Prop := mulOk i j = true
theorem CMulP.ok {i j : Int} (h : CMulP i j) : IntMulOk i j := by
  have b : ∀ x : Int, Builtin.Int.intBits x ≤ x.natAbs.log2 + 1 := fun x => by
    unfold Builtin.Int.intBits
    split <;> omega
  have b64 : ∀ x : Int, x.natAbs < 2 ^ 64 → Builtin.Int.intBits x ≤ 64 := fun x hx => by
    have h1 := b x
    have h2 : x.natAbs.log2 < 64 := by
      by_cases h0 : x.natAbs = 0
      · rw [h0]
        decide
      · exact (Nat.log2_lt h0).mpr hx
    omega
  unfold CMulP mulOk at h
  rw [Bool.or_eq_true, Bool.or_eq_true] at h
  rcases h with (h | h) | h
  · exact .of_left (b64 _ (of_decide_eq_true h))
  · exact .of_right (b64 _ (of_decide_eq_true h))
  · have h3 := of_decide_eq_true h
    have h1 := b i
    have h2 := b j
    have e : bitsLine = 134217728 := by decide
    unfold IntMulOk
    intro z
    rw [Bool.and_eq_true] at z
    have z2 := z.2
    unfold Builtin.Int.intTooBig at z2
    have z3 := of_decide_eq_true z2
    rw [e] at z3
    omega
theorem op_mulP : OpR X (binaryOp .Mult) (rI CMulP fun i j => .int (i * j)) := opI fun _ _ _ _ _ _ _ hc q => mul_int q hc.ok
def CDivP (_ j : Int) : Prop := j ≠ 0 ∧ j.natAbs.log2 < 9000
theorem op_fdivP : OpR X (binaryOp .FloorDiv) (rI CDivP fun i j => .int (i.fdiv j)) := opI fun i j _ _ _ _ _ hc q => floordiv_int hc.1 q (.inl (PyProof.noPylong_of_log2 hc.2))
def opS : Op → Operator
  | .add => .Add
  | .sub => .Sub
  | .mul => .Mult
  | .fdiv => .FloorDiv
  | .mod => .Mod
  | .pow => .Pow
def rOps (K : PySem.W.Frag) : Op → R2
  | .add => fun x y H Q => rI0 (fun i j => .int (i + j)) x y H Q ∨ (∃ i j, x = .str i ∧ y = .str j ∧ i.length + j.length ≤ sizeLine ∧ Q (.str (i ++ j)) H) ∨ rCatR x y H Q ∨ rCatT K x y H Q
  | .sub => rI0 fun i j => .int (i - j)
  | .mul => rI CMulP fun i j => .int (i * j)
  | .fdiv => rI CDivP fun i j => .int (i.fdiv j)
  | .mod => fun x y H Q => rI (fun _ j => 0 < j) (fun i j => .int (i % j)) x y H Q ∨ rI (fun _ j => j ≠ 0) (fun i j => .int (i.fmod j)) x y H Q
  | .pow => rI CPow fun i j => .int (i ^ j.toNat)
theorem opr_ops (o : Op) : OpR X (binaryOp (opS o)) (rOps X.K o) := by
  cases o
  · exact op_add.or (op_add_str.or (op_catR.or op_catT))
  · exact op_sub
  · exact op_mulP
  · exact op_fdivP
  · exact op_mod.or op_modN
  · exact op_pow

theorem op2_r {o : Op} {g : Gh} {H : Hp} {σ : L2.St} {ρ : Env} {S : Store} {v w : Val} {u1 u2 : V} {Q : VK} {K : PySem.W.Frag} (r : Rel J.k J.md g σ H ρ S) (h1 : RRep J.k g H v u1) (h2 : RRep J.k g H w u2)
    (p : J.Post m true g H σ ρ (R.of (op2 o v w) S) Q) : rOps K o u1 u2 H Q := by
  cases e : op2 o v w with
  | none =>
    rw [e] at p
    exact p.elim
  | some z =>
    rw [e] at p
    simp only [R.of] at p
    unfold op2 at e
    split at e
    · cases e
      rw [h1.int_of, h2.int_of]
      exact .inl ⟨_, _, rfl, rfl, fin_V r (fun m => MRep.int _) p⟩
    · split at e
      · cases e
        rename_i hz
        rw [h1.str_of, h2.str_of]
        exact .inr (.inl ⟨_, _, rfl, rfl, szb_line hz, fin_V r (fun m => MRep.str _) p⟩)
      · cases e
    · split at e
      · cases e
        rename_i hz
        obtain ⟨a, us, rfl, ha, hs⟩ := h1.lst_of
        obtain ⟨b, ws, rfl, hb, ht⟩ := h2.lst_of
        refine .inr (.inr (.inl ⟨a, b, us, ws, rfl, rfl, .inl ha, .inl hb, ?_, fin_lst r (hs.app ht) p⟩))
        rw [hs.len, ht.len]
        exact szb_line hz
      · cases e
    · split at e
      · cases e
        rename_i x xs ys hz
        obtain ⟨a, us, rfl, ha, ta, hs⟩ := h1.tup_of
        obtain ⟨b, ws, rfl, hb, tb, ht⟩ := h2.tup_of
        have hl := hs.len
        have hl2 := ht.len
        refine .inr (.inr (.inr ⟨a, b, us, ws, rfl, rfl, SqT.of ha, SqT.of hb, ?_, ?_, fun ew => ?_, fun _ => fin_tup r (hs.app ht) p⟩))
        · intro z
          rw [z] at hl
          cases hl
        · rw [hl, hl2]
          exact szb_line hz
        · subst ew
          have : ys = [] := by
            cases ys with
            | nil => rfl
            | cons _ _ => cases hl2
          subst this
          refine fin_V r (fun m => ?_) p
          refine MRep.of_V ?_ fun h => h
          rw [List.append_nil]
          simp only [VRep]
          exact ⟨a, us, rfl, fzP_of ta ha, hs⟩
      · cases e
    · cases e
      rw [h1.int_of, h2.int_of]
      exact ⟨_, _, rfl, rfl, fin_V r (fun m => MRep.int _) p⟩
    · split at e
      · cases e
        rename_i hz
        rw [h1.int_of, h2.int_of]
        exact ⟨_, _, rfl, rfl, hz, fin_V r (fun m => MRep.int _) p⟩
      · cases e
    · split at e
      · cases e
      · rename_i i j h0
        split at e
        · rename_i hl
          have key : z = .int (Int.fdiv i j) := by
            split at e
            · rename_i hp
              rw [Int.fdiv_eq_ediv_of_nonneg _ (Int.le_of_lt hp)]
              exact (Option.some.inj e).symm
            · exact (Option.some.inj e).symm
          subst key
          rw [h1.int_of, h2.int_of]
          exact ⟨_, _, rfl, rfl, ⟨h0, hl⟩, fin_V r (fun m => MRep.int _) p⟩
        · cases e
    · split at e
      · cases e
        rename_i hp
        rw [h1.int_of, h2.int_of]
        exact .inl ⟨_, _, rfl, rfl, hp, fin_V r (fun m => MRep.int _) p⟩
      · split at e
        · cases e
          rename_i hp
          rw [h1.int_of, h2.int_of]
          exact .inr ⟨_, _, rfl, rfl, by omega, fin_V r (fun m => MRep.int _) p⟩
        · cases e
    · split at e
      · cases e
        rename_i hp
        rw [h1.int_of, h2.int_of]
        exact ⟨_, _, rfl, rfl, hp, fin_V r (fun m => MRep.int _) p⟩
      · cases e
    · cases e
theorem s_op2 {o : Op} {a b : Expr} {ia ib : E} (ha : PE X a (J.tE .B ia)) (hb : PE X b (J.tE .B ib)) : PE X (.BinOp a (opS o) b pos) (J.tE m (.op2 o ia ib)) := by
  refine PE.imp (pe_op (opr_ops o) ha hb) ?_
  refine two_of (comb := fun S2 v w => R.of (op2 o (deref S2 v) (deref S2 w)) S2) (.inr (.inl rfl)) (fun ρ S => by simp only [evE]) (by simp only [pureE, Bool.and_true]) fun g H σ ρ S v w u1 u2 Q r h1 h2 p => ?_
  exact op2_r r (deref_R r.str h1.R) (deref_R r.str h2.R) p
end
end Pv
end

section
set_option Elab.async false
set_option linter.all false
set_option maxRecDepth 100000
set_option autoImplicit false
/-! Pv5: data, comparisons. -/
namespace Pv
open PySem PySem.Spec PyProof.Rows L2

mutual
def toD : Val → PyData
  | .non => .none
  | .bl b => .bool b
  | .int i => .int i
  | .str s => .str s
  | .tup xs => .tuple (toDs xs)
  | .lst xs => .list (toDs xs)
  | _ => .none
def toDs : List Val → List PyData
  | [] => []
  | x :: xs => toD x :: toDs xs
end
theorem toDs_map : ∀ xs : List Val, toDs xs = xs.map toD
  | [] => by simp only [toDs]; rfl
  | x :: xs => by simp only [toDs, toDs_map xs, List.map_cons]
section
variable {k : Kx} {g : Gh} {H : Hp} {K : PySem.W.Frag}
theorem fz_rd {a : Addr} {o : HO} (h : fzP g H a = some o) : Rd H a o := .inl (fzP_some h).2
mutual
theorem dp_of : ∀ (n : Nat) (v : Val) (u : V), VRep k (fzP g H) g.ι v u → dataOk n v = true → Dp K H u (toD v)
  | 0, v, u, _, d => by simp [dataOk] at d
  | n + 1, .non, u, h, d => by simp only [VRep] at h; subst h; simp only [toD]; exact .non
  | n + 1, .bl b, u, h, d => by simp only [VRep] at h; subst h; simp only [toD]; exact .bl b
  | n + 1, .int i, u, h, d => by simp only [VRep] at h; subst h; simp only [toD]; exact .int i
  | n + 1, .str s, u, h, d => by simp only [VRep] at h; subst h; simp only [toD]; exact .str s
  | n + 1, .tup xs, u, h, d => by
    simp only [VRep] at h
    obtain ⟨a, us, rfl, ha, hs⟩ := h
    simp only [toD]
    simp only [dataOk] at d
    exact .tup (SqT.of (fzP_some ha).2) (dps_of n xs us hs d)
  | n + 1, .lst xs, u, h, d => by
    simp only [VRep] at h
    obtain ⟨a, us, rfl, ha, hs⟩ := h
    simp only [toD]
    simp only [dataOk] at d
    exact .lst (.inl (fz_rd ha)) (dps_of n xs us hs d)
  | n + 1, .dK _, u, h, d => by simp [dataOk] at d
  | n + 1, .dT _, u, h, d => by simp [dataOk] at d
  | n + 1, .obj _ _, u, h, d => by simp [dataOk] at d
  | n + 1, .ref _, u, h, d => by simp [dataOk] at d
  | n + 1, .exc _, u, h, d => by simp [dataOk] at d
  | n + 1, .scr _, u, h, d => by simp [dataOk] at d
theorem dps_of : ∀ (n : Nat) (xs : List Val) (us : List V), VReps k (fzP g H) g.ι xs us → dataOks n xs = true → DpAll K H us (toDs xs)
  | n, [], us, h, d => by simp only [VReps] at h; subst h; simp only [toDs]; exact .nil
  | n, x :: xs, us, h, d => by
    simp only [VReps] at h
    obtain ⟨u, r, rfl, h1, h2⟩ := h
    simp only [dataOks, Bool.and_eq_true] at d
    simp only [toDs]
    exact .cons (dp_of n x u h1 d.1) (dps_of n xs r h2 d.2)
end
theorem dp_R {n : Nat} {v : Val} {u : V} (h : RRep k g H v u) (d : dataOk n v = true) : Dp K H u (toD v) := by
  cases v with
  | lst xs =>
    obtain ⟨a, us, rfl, ha, hs⟩ := h.lst_of
    cases n with
    | zero => simp [dataOk] at d
    | succ n =>
      simp only [dataOk] at d
      simp only [toD]
      exact .lst (.inl (.inl ha)) (dps_of n xs us hs d)
  | dK _ => cases n <;> simp [dataOk] at d
  | dT _ => cases n <;> simp [dataOk] at d
  | _ => exact dp_of (k := k) (g := g) n _ u h d
mutual
theorem toD_lay : ∀ (n : Nat) (v : Val), dataOk n v = true → (toD v).canLay0 = true ∧ (toD v).depth ≤ n
  | 0, v, d => by simp [dataOk] at d
  | n + 1, .non, d => by simp only [toD]; exact ⟨by simp only [PyData.canLay0], by simp only [PyData.depth]; omega⟩
  | n + 1, .bl b, d => by simp only [toD]; exact ⟨by simp only [PyData.canLay0], by simp only [PyData.depth]; omega⟩
  | n + 1, .int i, d => by simp only [toD]; exact ⟨by simp only [PyData.canLay0], by simp only [PyData.depth]; omega⟩
  | n + 1, .str s, d => by simp only [toD]; simp only [dataOk] at d; exact ⟨by simp only [PyData.canLay0]; exact d, by simp only [PyData.depth]; omega⟩
  | n + 1, .tup xs, d => by
    simp only [toD]
    simp only [dataOk] at d
    obtain ⟨h1, h2⟩ := toDs_lay n xs d
    exact ⟨by simp only [PyData.canLay0]; exact h1, by simp only [PyData.depth]; omega⟩
  | n + 1, .lst xs, d => by
    simp only [toD]
    simp only [dataOk] at d
    obtain ⟨h1, h2⟩ := toDs_lay n xs d
    exact ⟨by simp only [PyData.canLay0]; exact h1, by simp only [PyData.depth]; omega⟩
  | n + 1, .dK _, d => by simp [dataOk] at d
  | n + 1, .dT _, d => by simp [dataOk] at d
  | n + 1, .obj _ _, d => by simp [dataOk] at d
  | n + 1, .ref _, d => by simp [dataOk] at d
  | n + 1, .exc _, d => by simp [dataOk] at d
  | n + 1, .scr _, d => by simp [dataOk] at d
theorem toDs_lay : ∀ (n : Nat) (xs : List Val), dataOks n xs = true → PyData.canLayAll0 (toDs xs) = true ∧ PyData.depthAll (toDs xs) ≤ n
  | n, [], d => by simp only [toDs]; exact ⟨by simp only [PyData.canLayAll0], by simp only [PyData.depthAll]; omega⟩
  | n, x :: xs, d => by
    simp only [dataOks, Bool.and_eq_true] at d
    obtain ⟨h1, h2⟩ := toD_lay n x d.1
    obtain ⟨h3, h4⟩ := toDs_lay n xs d.2
    simp only [toDs]
    exact ⟨by simp only [PyData.canLayAll0, Bool.and_eq_true]; exact ⟨h1, h3⟩, by simp only [PyData.depthAll]; omega⟩
end
theorem shaped_of {n : Nat} {v : Val} (hn : n ≤ 64) (d : dataOk n v = true) : SeqAt.shaped (toD v) = true := by
  obtain ⟨h1, h2⟩ := toD_lay n v d
  unfold SeqAt.shaped
  rw [Bool.and_eq_true]
  exact ⟨h1, decide_eq_true (by omega)⟩
mutual
theorem eqv_toD : ∀ (n m : Nat) (v w : Val), dataOk n v = true → dataOk m w = true → PyData.eqv (toD v) (toD w) = eqv v w
  | 0, _, v, _, d, _ => by simp [dataOk] at d
  | n + 1, 0, v, w, _, d => by simp [dataOk] at d
  | n + 1, m + 1, .tup xs, w, d, d2 => by
    cases w <;> simp only [dataOk] at d2 <;> simp only [toD, PyData.eqv, eqv] <;> first | exact eqvs_toD n m xs _ (by simpa only [dataOk] using d) d2 | exact Bool.noConfusion d2
  | n + 1, m + 1, .lst xs, w, d, d2 => by
    cases w <;> simp only [dataOk] at d2 <;> simp only [toD, PyData.eqv, eqv] <;> first | exact eqvs_toD n m xs _ (by simpa only [dataOk] using d) d2 | exact Bool.noConfusion d2
  | n + 1, m + 1, .non, w, d, d2 => by cases w <;> simp only [dataOk] at d2 <;> simp only [toD, PyData.eqv, eqv] <;> exact Bool.noConfusion d2
  | n + 1, m + 1, .bl b, w, d, d2 => by cases w <;> simp only [dataOk] at d2 <;> simp only [toD, PyData.eqv, eqv] <;> first | (simp [beq_eq_decide]; done) | exact Bool.noConfusion d2 | (cases b <;> rfl) | skip
  | n + 1, m + 1, .int i, w, d, d2 => by cases w <;> simp only [dataOk] at d2 <;> simp only [toD, PyData.eqv, eqv] <;> first | exact Bool.noConfusion d2 | exact Bool.beq_eq_decide_eq _ _ | skip
  | n + 1, m + 1, .str s, w, d, d2 => by cases w <;> simp only [dataOk] at d2 <;> simp only [toD, PyData.eqv, eqv] <;> first | exact Bool.noConfusion d2 | exact Bool.beq_eq_decide_eq _ _ | skip
  | n + 1, _, .dK _, w, d, _ => by simp [dataOk] at d
  | n + 1, _, .dT _, w, d, _ => by simp [dataOk] at d
  | n + 1, _, .obj _ _, w, d, _ => by simp [dataOk] at d
  | n + 1, _, .ref _, w, d, _ => by simp [dataOk] at d
  | n + 1, _, .exc _, w, d, _ => by simp [dataOk] at d
  | n + 1, _, .scr _, w, d, _ => by simp [dataOk] at d
theorem eqvs_toD : ∀ (n m : Nat) (xs ys : List Val), dataOks n xs = true → dataOks m ys = true → PyData.eqvAll (toDs xs) (toDs ys) = eqvs xs ys
  | _, _, [], [], _, _ => by simp only [toDs, PyData.eqvAll, eqvs]
  | _, _, [], _ :: _, _, _ => by simp only [toDs, PyData.eqvAll, eqvs]
  | _, _, _ :: _, [], _, _ => by simp only [toDs, PyData.eqvAll, eqvs]
  | n, m, x :: xs, y :: ys, d, d2 => by
    simp only [dataOks, Bool.and_eq_true] at d d2
    simp only [toDs, PyData.eqvAll, eqvs]
    rw [eqv_toD n m x y d.1 d2.1, eqvs_toD n m xs ys d.2 d2.2]
end
end
end Pv
end

section
set_option Elab.async false
set_option linter.all false
set_option maxRecDepth 100000
set_option autoImplicit false
/-! Pv6: comparisons, truth, and, or, not. -/
namespace Pv
open PySem PySem.Spec PyProof.Rows L2

def cpS : Cp → CmpOp
  | .lt => .Lt
  | .le => .LtE
  | .gt => .Gt
  | .ge => .GtE
  | .eq => .Eq
  | .ne => .NotEq
  | .isn => .Is
  | .isnt => .IsNot
  | .inn => .In
  | .notin => .NotIn
def rCp (K : PySem.W.Frag) : Cp → R2
  | .lt => fun x y H Q => rI0 (fun i j => .bl (decide (i < j))) x y H Q ∨ rLtT K x y H Q
  | .le => rI0 fun i j => .bl (decide (i ≤ j))
  | .gt => rI0 fun i j => .bl (decide (j < i))
  | .ge => rI0 fun i j => .bl (decide (j ≤ i))
  | .eq => fun x y H Q => rEq x y H Q ∨ rEqD K x y H Q
  | .ne => fun x y H Q => rNe x y H Q ∨ rNeD K x y H Q
  | .isn => fun x y H Q => (y = .non ∧ Q (.bl (decide (x = .non))) H) ∨ rIsB x y H Q
  | .isnt => fun x y H Q => (y = .non ∧ Q (.bl (!decide (x = .non))) H) ∨ rNotB x y H Q
  | .inn => fun x y H Q => rIn K false x y H Q ∨ rInD K x y H Q ∨ rInS x y H Q
  | .notin => fun x y H Q => rIn K true x y H Q ∨ rNotInD K x y H Q ∨ rNotInS x y H Q
section
variable {X : Cx} {J : Jx} {m : Md} {pos : Pos}
theorem opr_cp (hu : X.A.units + 65 < cLine) (c : Cp) : OpR X (compareOp (cpS c)) (rCp X.K c) := by
  cases c
  · exact op_lt.or (op_ltT (by omega))
  · exact op_le
  · exact op_gt
  · exact op_ge
  · exact op_eq.or (op_eqD (by omega))
  · exact op_ne.or (op_neD (by omega))
  · exact op_isN.or op_isBl
  · exact op_notN.or op_notBl
  · exact op_in_seq.or ((op_inD hu).or op_inS)
  · exact op_notIn_seq.or ((op_notInD hu).or op_notInS)
section
variable {k : Kx} {g : Gh} {H : Hp}
theorem V_none_iff {F : Hp} {ι : Nat → Option Addr} {v : Val} {u : V} (h : VRep k F ι v u) : decide (u = .non) = isNonB v := by
  cases v <;> simp only [VRep] at h
  case non => subst h; rfl
  case bl => subst h; rfl
  case int => subst h; rfl
  case str => subst h; rfl
  case tup => obtain ⟨a, us, rfl, _⟩ := h; rfl
  case lst => obtain ⟨a, us, rfl, _⟩ := h; rfl
  case dK => obtain ⟨a, us, rfl, _⟩ := h; rfl
  case dT => obtain ⟨a, us, rfl, _⟩ := h; rfl
  case obj => obtain ⟨a, dx, us, rfl, _⟩ := h; rfl
  case ref => obtain ⟨a, _, rfl⟩ := h; rfl
  case exc => obtain ⟨a, rfl⟩ := h; rfl
  case scr => obtain ⟨a, rfl, _⟩ := h; rfl
theorem R_none_iff {v : Val} {u : V} (h : RRep k g H v u) : decide (u = .non) = isNonB v := by
  cases v with
  | lst xs => obtain ⟨a, us, rfl, _⟩ := h.lst_of; rfl
  | dK xs => obtain ⟨a, us, rfl, _⟩ := h.dK_of; rfl
  | dT xs => obtain ⟨a, us, rfl, _⟩ := h.dT_of; rfl
  | _ => exact V_none_iff (k := k) (F := fzP g H) (ι := g.ι) h
theorem eq_r {K : PySem.W.Frag} {v w : Val} {u1 u2 : V} {b : Bool} (h1 : RRep k g H v u1) (h2 : RRep k g H w u2) (e : eqV v w = some b) :
    (scal u1 u2 = true ∧ decide (u1 = u2) = b) ∨ ∃ d d', Dp K H u1 d ∧ Dp K H u2 d' ∧ SeqAt.shaped d = true ∧ SeqAt.shaped d' = true ∧ PyData.eqv d d' = b := by
  unfold eqV at e
  split at e
  · left
    cases e
    rw [h1.str_of, h2.str_of]
    refine ⟨rfl, ?_⟩
    rw [dec_str]
    exact Bool.beq_eq_decide_eq _ _
  · split at e
    · rename_i hd
      cases e
      right
      exact ⟨_, _, dp_R h1 hd.1, dp_R h2 hd.2, shaped_of (by decide) hd.1, shaped_of (by decide) hd.2, eqv_toD 60 60 _ _ hd.1 hd.2⟩
    · cases e
theorem flat_of {v : Val} {u : V} {F : Hp} {ι : Nat → Option Addr} (h : VRep k F ι v u) (hf : flatB v = true) : flatV u = true := by
  cases v <;> simp only [VRep] at h <;> first
    | (subst h; rfl)
    | exact Bool.noConfusion hf
theorem flat_eqv {v w : Val} {u1 u2 : V} {F : Hp} {ι : Nat → Option Addr} (h1 : VRep k F ι v u1) (h2 : VRep k F ι w u2) (f1 : flatB v = true) (f2 : flatB w = true) : L2.eqV u1 u2 = eqv v w := by
  cases v <;> (try exact Bool.noConfusion f1) <;> cases w <;> (try exact Bool.noConfusion f2) <;> simp only [VRep] at h1 h2 <;> subst h1 h2 <;> simp only [L2.eqV, eqv, Bool.beq_eq_decide_eq]
theorem flats_in {v : Val} {u : V} {F : Hp} {ι : Nat → Option Addr} (h1 : VRep k F ι v u) (f1 : flatB v = true) : ∀ {xs : List Val} {us : List V}, VReps k F ι xs us → xs.all flatB = true → us.all flatV = true ∧ (us.any fun y => L2.eqV y u) = xs.any fun x => eqv x v
  | [], _, h, _ => by simp only [VReps] at h; subst h; exact ⟨rfl, rfl⟩
  | x :: xs, _, h, f => by
    simp only [VReps] at h
    obtain ⟨w, r, rfl, h2, h3⟩ := h
    simp only [List.all_cons, Bool.and_eq_true] at f
    obtain ⟨i1, i2⟩ := flats_in h1 f1 h3 f.2
    refine ⟨by simp only [List.all_cons, Bool.and_eq_true]; exact ⟨flat_of h2 f.1, i1⟩, ?_⟩
    simp only [List.any_cons]
    rw [i2, flat_eqv h2 h1 f.1 f1]
theorem all_data {n : Nat} : ∀ {xs : List Val}, xs.all (dataOk n) = true → dataOks n xs = true
  | [], _ => by simp only [dataOks]
  | x :: xs, h => by
    simp only [List.all_cons, Bool.and_eq_true] at h
    simp only [dataOks, Bool.and_eq_true]
    exact ⟨h.1, all_data h.2⟩
theorem any_toD {v : Val} (d : dataOk 60 v = true) : ∀ {xs : List Val}, xs.all (dataOk 60) = true → ((toDs xs).any fun z => PyData.eqv z (toD v)) = xs.any fun x => eqv x v
  | [], _ => by simp only [toDs]; rfl
  | x :: xs, h => by
    simp only [List.all_cons, Bool.and_eq_true] at h
    simp only [toDs, List.any_cons]
    rw [any_toD d h.2, eqv_toD 60 60 _ _ h.1 d]
/-- what in asks, of no dict -/
theorem in_r {K : PySem.W.Frag} {v w : Val} {u1 u2 : V} {b : Bool} {Q : VK} (neg : Bool) (h1 : RRep k g H v u1) (h2 : RRep k g H w u2) (e : inV v w = some b) (hd : isDct w = false) (q : Q (.bl (if neg then !b else b)) H) :
    rIn K neg u1 u2 H Q ∨ (∃ d ds, Dp K H u1 d ∧ Dp K H u2 (.list ds) ∧ SeqAt.shaped d = true ∧ SeqAt.shaped (.list ds) = true ∧ Q (.bl (if neg then !(ds.any fun z => PyData.eqv z d) else ds.any fun z => PyData.eqv z d)) H) ∨
      ∃ (c : Nat) (z : Str), u1 = .str ⟨#[c]⟩ ∧ u2 = .str z ∧ Q (.bl (if neg then !decide (c ∈ z.cps.toList) else decide (c ∈ z.cps.toList))) H := by
  unfold inV at e
  split at e
  · rename_i xs
    split at e
    · rename_i hx
      cases e
      right; left
      have hl : dataOk 61 (.lst xs) = true := by
        simp only [dataOk]
        exact all_data hx.2
      have d2 := dp_R (K := K) h2 hl
      have s2 := shaped_of (by decide) hl
      simp only [toD] at d2 s2
      refine ⟨_, _, dp_R h1 hx.1, d2, shaped_of (by decide) hx.1, s2, ?_⟩
      rw [any_toD hx.1 hx.2]
      exact q
    · cases e
  · rename_i xs
    split at e
    · rename_i hx
      cases e
      left
      obtain ⟨a, us, rfl, ha, ta, hs⟩ := h2.tup_of
      have h1' : VRep k (fzP g H) g.ι v u1 := by
        have f := hx.1
        cases v <;> first | exact h1 | exact Bool.noConfusion f
      obtain ⟨i1, i2⟩ := flats_in h1' hx.1 hs hx.2
      refine ⟨a, us, rfl, .inr (SqT.of ha), flat_of h1' hx.1, i1, ?_⟩
      unfold L2.inV
      rw [i2]
      exact q
    · cases e
  · cases hd
  · cases hd
  · rename_i s
    split at e
    · rename_i t
      split at e
      · rename_i hl
        cases e
        right; right
        rw [h1.str_of, h2.str_of]
        refine ⟨t.cps.getD 0 0, s, ?_, rfl, ?_⟩
        · obtain ⟨c⟩ := t
          have : c.size = 1 := hl
          obtain ⟨x, hx⟩ := Array.size_eq_one_iff.mp this
          subst hx
          rfl
        · have e2 : (s.cps.toList.contains (t.cps.getD 0 0)) = decide (t.cps.getD 0 0 ∈ s.cps.toList) := by
            rw [Bool.eq_iff_iff]
            simp
          rw [e2] at q
          exact q
      · cases e
    · cases e
  · cases e
/-- what a comparison asks, but in of a dict -/
theorem cp_r {K : PySem.W.Frag} {c : Cp} {v w : Val} {u1 u2 : V} {b : Bool} {Q : VK} (h1 : RRep k g H v u1) (h2 : RRep k g H w u2) (e : cpV c v w = some b) (hd : (c = .inn ∨ c = .notin) → isDct w = false) (q : Q (.bl b) H) : rCp K c u1 u2 H Q := by
  unfold cpV at e
  split at e
  · cases e; rw [h1.int_of, h2.int_of]; exact .inl ⟨_, _, rfl, rfl, q⟩
  · unfold ltT at e
    split at e
    · rename_i a1 b1 c1 d1
      obtain ⟨a, us, rfl, ha, ta, hs⟩ := h1.tup_of
      obtain ⟨a', us', rfl, ha', ta', hs'⟩ := h2.tup_of
      simp only [VReps, VRep] at hs hs'
      obtain ⟨_, _, rfl, rfl, _, _, rfl, rfl, rfl⟩ := hs
      obtain ⟨_, _, rfl, rfl, _, _, rfl, rfl, rfl⟩ := hs'
      refine .inr ⟨a, a', [a1, b1], [c1, d1], rfl, rfl, SqT.of ha, SqT.of ha', ?_⟩
      have ee : HT.lexLt [a1, b1] [c1, d1] = (if a1 = c1 then decide (b1 < d1) else decide (a1 < c1)) := by
        simp only [HT.lexLt]
        split
        · split
          · rename_i z
            rw [z]
            simp
          · rfl
        · rfl
      rw [ee]
      cases e
      exact q
    · cases e
  · cases e; rw [h1.int_of, h2.int_of]; exact ⟨_, _, rfl, rfl, q⟩
  · cases e; rw [h1.int_of, h2.int_of]; exact ⟨_, _, rfl, rfl, q⟩
  · cases e; rw [h1.int_of, h2.int_of]; exact ⟨_, _, rfl, rfl, q⟩
  · rcases eq_r (K := K) h1 h2 e with ⟨hs, rfl⟩ | ⟨d, d', p1, p2, p3, p4, rfl⟩
    · exact .inl ⟨hs, q⟩
    · exact .inr ⟨d, d', p1, p2, p3, p4, q⟩
  · cases e2 : eqV v w with
    | none => rw [e2] at e; cases e
    | some b' =>
      rw [e2] at e
      cases e
      rcases eq_r (K := K) h1 h2 e2 with ⟨hs, rfl⟩ | ⟨d, d', p1, p2, p3, p4, rfl⟩
      · exact .inl ⟨hs, q⟩
      · exact .inr ⟨d, d', p1, p2, p3, p4, q⟩
  · unfold isV at e
    split at e
    · cases e
      rw [h2.non_of]
      refine .inl ⟨rfl, ?_⟩
      rw [R_none_iff h1]
      exact q
    · cases e
      rw [h1.bl_of, h2.bl_of]
      refine .inr ⟨_, _, rfl, rfl, ?_⟩
      rw [← Bool.beq_eq_decide_eq]
      exact q
    · cases e
  · cases e2 : isV v w with
    | none => rw [e2] at e; cases e
    | some b' =>
      rw [e2] at e
      cases e
      unfold isV at e2
      split at e2
      · cases e2
        rw [h2.non_of]
        refine .inl ⟨rfl, ?_⟩
        rw [R_none_iff h1]
        exact q
      · cases e2
        rw [h1.bl_of, h2.bl_of]
        refine .inr ⟨_, _, rfl, rfl, ?_⟩
        rw [← Bool.beq_eq_decide_eq]
        exact q
      · cases e2
  · exact in_r (K := K) (Q := Q) false h1 h2 e (hd (.inl rfl)) q
  · cases e2 : inV v w with
    | none => rw [e2] at e; cases e
    | some b' =>
      rw [e2] at e
      cases e
      exact in_r (K := K) (Q := Q) true h1 h2 e2 (hd (.inr rfl)) q
  · cases e
end
end
end Pv
end

section
set_option Elab.async false
set_option linter.all false
set_option maxRecDepth 100000
set_option autoImplicit false
/-! Pv7: comparisons as expressions and tests; and, or, not; displays; subscripts. -/
namespace Pv
open PySem PySem.Spec PyProof.Rows L2

theorem PE.or {X : Cx} {e : Expr} {t1 t2 : TE} (h1 : PE X e t1) (h2 : PE X e t2) : PE X e (fun σ H Q => t1 σ H Q ∨ t2 σ H Q) :=
  ⟨fun pins s σ H Q I h => h.elim (h1.run pins s σ H Q I) (h2.run pins s σ H Q I)⟩
theorem PT.or {X : Cx} {e : Expr} {t1 t2 : TT} (h1 : PT X e t1) (h2 : PT X e t2) : PT X e (fun σ H Q => t1 σ H Q ∨ t2 σ H Q) :=
  ⟨fun pins s σ H Q I h => h.elim (h1.run pins s σ H Q I) (h2.run pins s σ H Q I)⟩

/-! ### keys -/
section
variable {k : Kx} {F : Hp} {ι : Nat → Option Addr}
theorem key_of {v : Val} {u : V} {q : Key} (h : VRep k F ι v u) (e : keyK v = some q) : u = kV q := by
  cases v <;> simp only [keyK] at e <;> first
    | (cases e; simp only [VRep] at h; exact h)
    | cases e
theorem keys_of : ∀ {xs : List Val} {us : List V} {q : List Key}, VReps k F ι xs us → keyT xs = some q → us = q.map kV
  | [], _, q, h, e => by
    simp only [VReps] at h
    simp only [keyT, Option.some.injEq] at e
    subst h e
    rfl
  | x :: xs, _, q, h, e => by
    simp only [VReps] at h
    obtain ⟨u, r, rfl, h1, h2⟩ := h
    simp only [keyT] at e
    split at e
    · rename_i k' ks' e1 e2
      cases e
      rw [key_of h1 e1, keys_of h2 e2]
      rfl
    · cases e
theorem K_get {q : Key} : ∀ {xs : List (Key × Val)} {us : List (Key × V)}, VKs k F ι xs us → (match dget q xs with
    | some v => ∃ u, valV us q = some u ∧ VRep k F ι v u
    | none => valV us q = none)
  | [], _, h => by simp only [VKs] at h; subst h; rfl
  | (a, x) :: xs, _, h => by
    simp only [VKs] at h
    obtain ⟨u, r, rfl, h1, h2⟩ := h
    simp only [dget]
    by_cases e : a = q
    · rw [if_pos e]
      exact ⟨u, valV_pos e, h1⟩
    · rw [if_neg e, valV_neg (p := (a, u)) e]
      exact K_get h2
theorem T_get {q : List Key} : ∀ {xs : List (List Key × Val)} {us : List (List Key × V)}, VTs k F ι xs us → (match dget q xs with
    | some v => ∃ u, valV us q = some u ∧ VRep k F ι v u
    | none => valV us q = none)
  | [], _, h => by simp only [VTs] at h; subst h; rfl
  | (a, x) :: xs, _, h => by
    simp only [VTs] at h
    obtain ⟨u, r, rfl, h1, h2⟩ := h
    simp only [dget]
    by_cases e : a = q
    · rw [if_pos e]
      exact ⟨u, valV_pos e, h1⟩
    · rw [if_neg e, valV_neg (p := (a, u)) e]
      exact T_get h2
end
section
variable {k : Kx} {g : Gh} {H : Hp}
/-- d[k] looked up: what is there -/
def dlook (d key : Val) : Option (Option Val) := match d with
  | .dK kvs => match keyK key with
    | some q => some (dget q kvs)
    | none => none
  | .dT kvs => match key with
    | .tup ks => match keyT ks with
      | some q => some (dget q kvs)
      | none => none
    | _ => none
  | _ => none
theorem R_V {v : Val} {u : V} (h : RRep k g H v u) (hc : ¬ isColl v) : VRep k (fzP g H) g.ι v u := by
  cases v <;> first | exact h | exact absurd trivial hc
def LkR (k : Kx) (g : Gh) (H : Hp) (r : Option V) : Option Val → Prop
  | some v => ∃ u, r = some u ∧ VRep k (fzP g H) g.ι v u
  | none => r = none
theorem dlook_r {d key : Val} {o : Option Val} {u1 u2 : V} (h1 : LRep k g H d u1) (h2 : RRep k g H key u2) (e : dlook d key = some o) :
    ∃ a r, u1 = .ref a ∧ DGet H a u2 r ∧ LkR k g H r o := by
  cases d with
  | dK kvs =>
    simp only [dlook] at e
    cases eq : keyK key with
    | none => rw [eq] at e; cases e
    | some q =>
      rw [eq] at e
      cases e
      obtain ⟨a, us, rfl, ha, hs⟩ := h1.dK_of
      have hk : u2 = kV q := key_of (R_V h2 (by cases key <;> simp only [keyK] at eq <;> first | exact fun z => z | cases eq)) eq
      refine ⟨a, valV us q, rfl, .inl ⟨us, q, ha, hk, rfl⟩, ?_⟩
      have hg := K_get (q := q) hs
      cases ed : dget q kvs with
      | none => rw [ed] at hg; exact hg
      | some v => rw [ed] at hg; exact hg
  | dT kvs =>
    simp only [dlook] at e
    cases key with
    | tup ks =>
      simp only at e
      cases eq : keyT ks with
      | none => rw [eq] at e; cases e
      | some q =>
        rw [eq] at e
        cases e
        obtain ⟨a, us, rfl, ha, hs⟩ := h1.dT_of
        obtain ⟨b, ws, rfl, hb, tb, ht⟩ := h2.tup_of
        rw [keys_of ht eq] at hb
        refine ⟨a, valV us q, rfl, .inr ⟨us, q, b, ha, rfl, hb, rfl⟩, ?_⟩
        have hg := T_get (q := q) hs
        cases ed : dget q kvs with
        | none => rw [ed] at hg; exact hg
        | some v => rw [ed] at hg; exact hg
    | _ => cases e
  | _ => cases e
theorem in_dlook {d key : Val} {b : Bool} (hd : isDct d = true) (e : inV key d = some b) : ∃ o, dlook d key = some o ∧ b = o.isSome := by
  cases d with
  | dK kvs =>
    simp only [inV] at e
    simp only [dlook]
    cases eq : keyK key with
    | none => rw [eq] at e; cases e
    | some q => rw [eq] at e; cases e; exact ⟨_, rfl, rfl⟩
  | dT kvs =>
    simp only [inV] at e
    simp only [dlook]
    cases key with
    | tup ks =>
      simp only at e ⊢
      cases eq : keyT ks with
      | none => rw [eq] at e; cases e
      | some q => rw [eq] at e; cases e; exact ⟨_, rfl, rfl⟩
    | _ => cases e
  | _ => exact Bool.noConfusion hd
end

section
variable {X : Cx} {J : Jx} {m : Md} {pos : Pos}
/-! ### a comparison -/
/-- the operand's mode: of in, not in an object's own dict may stand behind -/
def cpMd : Cp → Md
  | .inn => .P
  | .notin => .P
  | _ => .B
theorem dp_deep {k : Kx} {g : Gh} {H : Hp} {K : PySem.W.Frag} {S : Store} (s : SRel k g H S) : ∀ (n : Nat) (v : Val) (u : V) (d : Nat), VRep k (fzP g H) g.ι v u → dataOk d (deep S n v) = true → Dp K H u (toD (deep S n v))
  | 0, v, u, d, h, hd => dp_of d v u h hd
  | n + 1, v, u, d, h, hd => by
    have all : ∀ (xs : List Val) (us : List V) (d : Nat), VReps k (fzP g H) g.ι xs us → dataOks d (xs.map (deep S n)) = true → DpAll K H us (toDs (xs.map (deep S n))) := by
      intro xs
      induction xs with
      | nil =>
        intro us d h hd
        simp only [VReps] at h
        subst h
        simp only [List.map_nil, toDs]
        exact .nil
      | cons x xs ih =>
        intro us d h hd
        simp only [VReps] at h
        obtain ⟨u, r, rfl, h1, h2⟩ := h
        simp only [List.map_cons, dataOks, Bool.and_eq_true] at hd
        simp only [List.map_cons, toDs]
        exact .cons (dp_deep s n x u d h1 hd.1) (ih r d h2 hd.2)
    cases v with
    | lst xs =>
      simp only [VRep] at h
      obtain ⟨a, us, rfl, ha, hs⟩ := h
      simp only [deep] at hd ⊢
      cases d with
      | zero => simp [dataOk] at hd
      | succ d =>
        simp only [dataOk] at hd
        simp only [toD]
        exact .lst (.inl (fz_rd ha)) (all xs us d hs hd)
    | tup xs =>
      simp only [VRep] at h
      obtain ⟨a, us, rfl, ha, hs⟩ := h
      simp only [deep] at hd ⊢
      cases d with
      | zero => simp [dataOk] at hd
      | succ d =>
        simp only [dataOk] at hd
        simp only [toD]
        exact .tup (SqT.of (fzP_some ha).2) (all xs us d hs hd)
    | ref m =>
      have h' := h
      simp only [VRep] at h
      obtain ⟨a, ha, rfl⟩ := h
      cases e : S[m]? with
      | none =>
        simp only [deep, e] at hd ⊢
        exact dp_of d _ _ h' hd
      | some o =>
        cases o with
        | cell w =>
          cases w with
          | lst xs =>
            obtain ⟨b, hb, tb, _, hr⟩ := s.obj m _ e
            rw [ha] at hb
            cases hb
            obtain ⟨c, us, e1, ⟨rfl, hc⟩, hs⟩ := (show ∃ c us, V.ref a = .ref c ∧ (c = a ∧ H c = some (.lst us)) ∧ _ from hr)
            simp only [deep, e] at hd ⊢
            cases d with
            | zero => simp [dataOk] at hd
            | succ d =>
              simp only [dataOk] at hd
              simp only [toD]
              exact .lst (.inl (.inl hc)) (all xs us d hs hd)
          | _ =>
            simp only [deep, e] at hd ⊢
            exact dp_of d _ _ h' hd
        | _ =>
          simp only [deep, e] at hd ⊢
          exact dp_of d _ _ h' hd
    | _ =>
      simp only [deep] at hd ⊢
      exact dp_of d _ u h hd
theorem dp_deepR {k : Kx} {g : Gh} {H : Hp} {K : PySem.W.Frag} {S : Store} (s : SRel k g H S) {n d : Nat} {v : Val} {u : V} (h : RRep k g H v u) (hd : dataOk d (deep S (n + 1) v) = true) : Dp K H u (toD (deep S (n + 1) v)) := by
  cases v with
  | lst xs =>
    obtain ⟨a, us, rfl, ha, hs⟩ := h.lst_of
    simp only [deep] at hd ⊢
    cases d with
    | zero => simp [dataOk] at hd
    | succ d =>
      simp only [dataOk] at hd
      simp only [toD]
      refine .lst (.inl (.inl ha)) ?_
      clear ha h
      induction xs generalizing us with
      | nil =>
        simp only [VReps] at hs
        subst hs
        simp only [List.map_nil, toDs]
        exact .nil
      | cons x xs ih =>
        simp only [VReps] at hs
        obtain ⟨u, r, rfl, h1, h2⟩ := hs
        simp only [List.map_cons, dataOks, Bool.and_eq_true] at hd
        simp only [List.map_cons, toDs]
        exact .cons (dp_deep s n x u d h1 hd.1) (ih r h2 hd.2)
  | dK _ => cases d <;> simp [deep, dataOk] at hd
  | dT _ => cases d <;> simp [deep, dataOk] at hd
  | _ => exact dp_deep s (n + 1) _ u d h hd
theorem eq_rD {k : Kx} {g : Gh} {H : Hp} {K : PySem.W.Frag} {S : Store} (s : SRel k g H S) {v w : Val} {u1 u2 : V} {b : Bool} (h1 : RRep k g H v u1) (h2 : RRep k g H w u2) (e : eqW (deep S 8 v) (deep S 8 w) = some b) :
    (scal u1 u2 = true ∧ decide (u1 = u2) = b) ∨ ∃ d d', Dp K H u1 d ∧ Dp K H u2 d' ∧ SeqAt.shaped d = true ∧ SeqAt.shaped d' = true ∧ PyData.eqv d d' = b := by
  unfold eqW at e
  split at e
  · rename_i hd
    cases e
    right
    exact ⟨_, _, dp_deepR s h1 hd.1, dp_deepR s h2 hd.2, shaped_of (by decide) hd.1, shaped_of (by decide) hd.2, eqv_toD 60 60 _ _ hd.1 hd.2⟩
  · cases e
theorem eqV_dct {v w : Val} (h : isDct w = true) : eqV v w = none := by
  have hw : ∀ n, dataOk n w = false := fun n => by cases n <;> cases w <;> first | rfl | cases h
  unfold eqV
  split
  · cases h
  · rw [hw]
    simp
theorem cpV_dct {c : Cp} {v w : Val} {b : Bool} (h : isDct w = true) (e : cpV c v w = some b) : c = .inn ∨ c = .notin := by
  cases c <;> first
    | exact .inl rfl
    | exact .inr rfl
    | (simp only [cpV, eqV_dct h, nop] at e; cases e; done)
    | (cases w <;> first | (cases h; done) | (cases v <;> simp [cpV, isV, nop] at e; done))
theorem cp_rO {k : Kx} {g : Gh} {H : Hp} {K : PySem.W.Frag} {S : Store} (s : SRel k g H S) {c : Cp} {v w : Val} {u1 u2 : V} {b : Bool} {Q : VK} (h1 : RRep k g H v u1) (h2 : RRep k g H w u2) (e : cpO c S v w = some b) (hd : (c = .inn ∨ c = .notin) → isDct (look S w) = false) (q : Q (.bl b) H) : rCp K c u1 u2 H Q := by
  unfold cpO at e
  cases ec : cpV c (deref S v) (look S w) with
  | some b0 =>
    rw [ec] at e
    cases e
    refine cp_r (deref_R s h1) ((look_R s h2).R ?_) ec hd q
    cases hw : isDct (look S w) with
    | false => rfl
    | true =>
      have := hd (cpV_dct hw ec)
      rw [hw] at this
      cases this
  | none =>
    rw [ec] at e
    simp only [orO] at e
    cases c <;> simp only [dcp] at e <;> try (cases e; done)
    · rcases eq_rD (K := K) s h1 h2 e with ⟨hs, rfl⟩ | ⟨d, d', p1, p2, p3, p4, rfl⟩
      · exact .inl ⟨hs, q⟩
      · exact .inr ⟨d, d', p1, p2, p3, p4, q⟩
    · cases e2 : eqW (deep S 8 v) (deep S 8 w) with
      | none => rw [e2] at e; cases e
      | some b' =>
        rw [e2] at e
        cases e
        rcases eq_rD (K := K) s h1 h2 e2 with ⟨hs, rfl⟩ | ⟨d, d', p1, p2, p3, p4, rfl⟩
        · exact .inl ⟨hs, q⟩
        · exact .inr ⟨d, d', p1, p2, p3, p4, q⟩
theorem cpO_in {neg : Bool} {S : Store} {v w : Val} : cpO (if neg = true then .notin else .inn) S v w = cpV (if neg = true then .notin else .inn) (deref S v) (look S w) := by
  unfold cpO
  cases neg <;> simp only [if_true, Bool.false_eq_true, if_false, dcp] <;> cases cpV _ (deref S v) (look S w) <;> rfl
theorem evE_cmp (x : Cfg) (c : Cp) (a b : E) (ρ : Env) (S : Store) : evE x (.cmp c a b) ρ S = (evE x a ρ S).bind fun v S1 => (evE x b ρ S1).bind fun w S2 => match cpO c S2 v w with
    | some b => .ok (.bl b) S2
    | none => .stuck := by
  simp only [evE] <;> rfl
theorem not_some {o : Option Bool} {b : Bool} (h : nop o = some b) : ∃ b0, o = some b0 ∧ b = !b0 := by
  cases o with
  | none => cases h
  | some b0 => cases h; exact ⟨b0, rfl, rfl⟩
theorem cp_inn {neg : Bool} {v w : Val} {b : Bool} (h : cpV (if neg = true then .notin else .inn) v w = some b) : ∃ b0, inV v w = some b0 ∧ b = if neg = true then !b0 else b0 := by
  cases neg with
  | false =>
    have h2 : inV v w = some b := by
      rw [← h]
      cases v <;> cases w <;> rfl
    exact ⟨b, h2, rfl⟩
  | true =>
    have h2 : nop (inV v w) = some b := by
      rw [← h]
      cases v <;> cases w <;> rfl
    exact not_some h2
/-- what a comparison is asked for: by values, or a dict's way of in -/
def tCp (X : Cx) (J : Jx) (c : Cp) (ia ib : E) : TE := fun σ H Q => tOp (rCp X.K c) (J.tE .B ia) (J.tE (cpMd c) ib) σ H Q ∨
  ∃ neg, c = (if neg = true then .notin else .inn) ∧ J.tE .B ia σ H fun y H1 => J.tE .P ib σ H1 fun x H2 => ∃ p o, x = .ref p ∧ DGet H2 p y o ∧ Q (.bl (if neg = true then !o.isSome else o.isSome)) H2
theorem cp_imp {c : Cp} {ia ib : E} (σ : L2.St) (H : Hp) (Q : VK) (h : J.tE m (.cmp c ia ib) σ H Q) : tCp X J c ia ib σ H Q := by
  obtain ⟨g, ρ, S, r, p⟩ := h
  have hq : pureE (.cmp c ia ib) = (pureE ia && (pureE ib && true)) := by simp only [pureE, Bool.and_true]
  rw [evE_cmp, hq] at p
  by_cases hd : (∃ neg, c = if neg = true then Cp.notin else Cp.inn) ∧ ∃ v S1 w S2, evE J.x ia ρ S = .ok v S1 ∧ evE J.x ib ρ S1 = .ok w S2 ∧ isDct (look S2 w) = true
  · right
    obtain ⟨⟨neg, hneg⟩, v, S1, w, S2, e1, e2, hdct⟩ := hd
    refine ⟨neg, hneg, ?_⟩
    refine tE_bind (q2 := pureE ib && true) r p fun v' S1' u1 g1 H1 ev1 r1 mr1 p1 => ?_
    rw [e1] at ev1
    cases ev1
    refine ⟨g1, ρ, S1, r1, ?_⟩
    rw [e2] at p1 ⊢
    intro u2 g2 H2 r2 st mr2
    have p2 := post_after (q1 := pureE ib) (q2 := true) p1 st
    have mr1' := st.mB mr1
    simp only [R.bind] at p2
    cases ec : cpO c S2 v w with
    | none => rw [ec] at p2; exact p2.elim
    | some bb =>
      rw [ec] at p2
      rw [hneg, cpO_in] at ec
      obtain ⟨b0, ei, rfl⟩ := cp_inn ec
      obtain ⟨o, el, rfl⟩ := in_dlook hdct ei
      obtain ⟨a0, rr, e4, dg, ho⟩ := dlook_r (look_R r2.str mr2.R) (deref_R r2.str mr1'.R) el
      refine ⟨a0, rr, e4, dg, ?_⟩
      have es : rr.isSome = o.isSome := by
        cases o with
        | none =>
          have ho' : rr = none := ho
          subst ho'
          rfl
        | some v =>
          obtain ⟨u, e5, _⟩ := (show ∃ u, rr = some u ∧ _ from ho)
          rw [e5]
          rfl
      rw [es]
      exact fin_V r2 (fun m => MRep.bl _) p2
  · left
    refine two_at (m1 := .B) (m2 := cpMd c) (.inr (.inl rfl)) r p fun g' H' v S1 w S2 u1 u2 e1 e2 r1 h1 h2 p1 => ?_
    have hnd : (c = .inn ∨ c = .notin) → isDct (look S2 w) = false := fun hc => by
      cases e3 : isDct (look S2 w) with
      | false => rfl
      | true =>
        refine absurd ⟨?_, v, S1, w, S2, e1, e2, e3⟩ hd
        rcases hc with rfl | rfl
        · exact ⟨false, rfl⟩
        · exact ⟨true, rfl⟩
    cases ec : cpO c S2 v w with
    | none =>
      simp only [ec] at p1
      exact p1.elim
    | some bb =>
      simp only [ec] at p1
      exact cp_rO r1.str h1.R h2.R ec hnd (fin_V r1 (fun m => MRep.bl _) p1)
theorem s_cmp {c : Cp} {a b : Expr} {ia ib : E} (hu : X.A.units + 65 < cLine) (ha : PE X a (J.tE .B ia)) (hb : PE X b (J.tE (cpMd c) ib)) (hm : behindInMarks (cpS c) b = false) : PE X (.Compare a [cpS c] [b] pos) (J.tE m (.cmp c ia ib)) := by
  refine PE.imp (t := tCp X J c ia ib) ⟨fun pins s σ H Q I h => ?_⟩ cp_imp
  rcases h with h | ⟨neg, rfl, h⟩
  · exact (pe_cmpR (opr_cp hu c) ha hb hm).run pins s σ H Q I h
  · cases neg with
    | false => exact (pe_cmp (pc_din (by omega) ha hb) hm).run pins s σ H Q I h
    | true => exact (pe_cmp (pc_dnotin (by omega) ha hb) hm).run pins s σ H Q I h
theorem t_val {e : Expr} {ie : E} (h : PE X e (J.tE .B ie)) (he : ∀ whole, isTrue e X.env whole = (do let v ← whole; standAt e.pos; holding [v] (truthy v))) : PT X e (J.tT ie) := pt_val h he
theorem t_cmp {c : Cp} {a b : Expr} {ia ib : E} (hu : X.A.units + 65 < cLine) (ha : PE X a (J.tE .B ia)) (hb : PE X b (J.tE (cpMd c) ib)) (hm : behindInMarks (cpS c) b = false) : PT X (.Compare a [cpS c] [b] pos) (J.tT (.cmp c ia ib)) := by
  refine PT.imp (t := fun σ H Q => tCp X J c ia ib σ H fun x H' => ∃ k, x = .bl k ∧ Q k H') ⟨fun pins s σ H Q I h => ?_⟩ fun σ H Q h => cp_imp σ H _ h
  rcases h with h | ⟨neg, rfl, h⟩
  · exact (pt_cmpR (opr_cp hu c) ha hb hm).run pins s σ H Q I h
  · cases neg with
    | false => exact (pt_cmp (pc_din (by omega) ha hb) hm).run pins s σ H Q I h
    | true => exact (pt_cmp (pc_dnotin (by omega) ha hb) hm).run pins s σ H Q I h
end
end Pv
end

section
set_option Elab.async false
set_option linter.all false
set_option maxRecDepth 100000
set_option autoImplicit false
/-! Pv8: chains, and, or, not, if, argument lists, displays, slices, subscripts. -/
namespace Pv
open PySem PySem.Spec PyProof.Rows L2

theorem szb_max {n : Nat} (h : n ≤ 16777215) : n ≤ sizeLine := by rw [sizeLine_val]; omega
def isIn : Cp → Bool
  | .inn => true
  | .notin => true
  | _ => false
theorem isIn_no {c : Cp} (h : isIn c = false) : ¬ (c = .inn ∨ c = .notin) := by
  rintro (rfl | rfl) <;> cases h
section
variable {X : Cx} {J : Jx} {m : Md} {pos : Pos}

/-! ### a chain -/
theorem ch_imp {o1 o2 : Cp} {ia ib ic : E} (n1 : isIn o1 = false) (n2 : isIn o2 = false) (σ : L2.St) (H : Hp) (Q : VK) (h : J.tE m (.ch o1 o2 ia ib ic) σ H Q) :
    tChain (rCp X.K o1) (rCp X.K o2) (J.tE .B ia) (J.tE .B ib) (J.tE .B ic) σ H Q := by
  obtain ⟨g, ρ, S, r, p⟩ := h
  have hq : pureE (.ch o1 o2 ia ib ic) = (pureE ia && (pureE ib && (pureE ic && true))) := by simp only [pureE, Bool.and_true, Bool.and_assoc]
  simp only [evE] at p
  rw [hq] at p
  refine tE_bindS r p fun v S1 u1 g1 H1 e1 r1 st1 mr1 p1 => ?_
  refine tE_bindS r1 p1 fun w S2 u2 g2 H2 e2 r2 st2 mr2 p2 => ?_
  have mr1' := st2.mB mr1
  cases ec : cpV o1 v w with
  | none => simp only [ec] at p2; exact p2.elim
  | some bb =>
    simp only [ec] at p2
    refine cp_r mr1'.R mr2.R ec (fun z => absurd z (isIn_no n1)) ⟨bb, rfl, ?_⟩
    cases bb with
    | false =>
      simp only [Bool.false_eq_true, if_false] at p2 ⊢
      exact fin_V r2 (fun m => MRep.bl _) (post_q p2)
    | true =>
      simp only [if_true] at p2 ⊢
      refine tE_bindS r2 p2 fun x S3 u3 g3 H3 e3 r3 st3 mr3 p3 => ?_
      cases ec2 : cpV o2 w x with
      | none => simp only [ec2] at p3; exact p3.elim
      | some b2 =>
        simp only [ec2] at p3
        exact cp_r (st3.mB mr2).R mr3.R ec2 (fun z => absurd z (isIn_no n2)) (fin_V r3 (fun m => MRep.bl _) p3)
theorem s_ch {o1 o2 : Cp} {a b c : Expr} {ia ib ic : E} (hu : X.A.units + 65 < cLine) (n1 : isIn o1 = false) (n2 : isIn o2 = false) (ha : PE X a (J.tE .B ia)) (hb : PE X b (J.tE .B ib)) (hc : PE X c (J.tE .B ic))
    (hm : lastMarks [cpS o1, cpS o2] [b, c] = false) : PE X (.Compare a [cpS o1, cpS o2] [b, c] pos) (J.tE m (.ch o1 o2 ia ib ic)) :=
  PE.imp (pe_chain (opr_cp hu o1) (opr_cp hu o2) ha hb hc hm) (ch_imp n1 n2)
theorem t_ch {o1 o2 : Cp} {a b c : Expr} {ia ib ic : E} (hu : X.A.units + 65 < cLine) (n1 : isIn o1 = false) (n2 : isIn o2 = false) (ha : PE X a (J.tE .B ia)) (hb : PE X b (J.tE .B ib)) (hc : PE X c (J.tE .B ic))
    (hm : lastMarks [cpS o1, cpS o2] [b, c] = false) : PT X (.Compare a [cpS o1, cpS o2] [b, c] pos) (J.tT (.ch o1 o2 ia ib ic)) :=
  PT.imp (pt_chain (opr_cp hu o1) (opr_cp hu o2) ha hb hc hm) fun σ H Q h => ch_imp n1 n2 σ H _ h

/-! ### and, or, not, if -/
def boS : Bool → BoolOp
  | true => .And
  | false => .Or
theorem bop_imp {k : Bool} {ie ie2 : E} {r : List E} (σ : L2.St) (H : Hp) (Q : VK) (h : J.tE m (.bop k (ie :: ie2 :: r)) σ H Q) :
    J.tE .B ie σ H fun x H1 => ∃ c, x = .bl c ∧ if c = k then J.tE m (.bop k (ie2 :: r)) σ H1 Q else Q (.bl c) H1 := by
  obtain ⟨g, ρ, S, rl, p⟩ := h
  have hq : pureE (.bop k (ie :: ie2 :: r)) = (pureE ie && pureE (.bop k (ie2 :: r))) := by simp only [pureE, pureEs]
  have ev : evE J.x (.bop k (ie :: ie2 :: r)) ρ S = (evE J.x ie ρ S).bind fun v S1 => match v with
    | .bl b => if b = k then evE J.x (.bop k (ie2 :: r)) ρ S1 else .ok (.bl b) S1
    | _ => .stuck := by
    simp only [evE]
    rw [evB] <;> first | rfl | (intro h; cases h)
  rw [hq, ev] at p
  refine tE_bindS rl p fun v S1 u g1 H1 e1 r1 st1 mr1 p1 => ?_
  cases v with
  | bl b =>
    refine ⟨b, mr1.R.bl_of, ?_⟩
    simp only at p1
    split
    · rename_i hk
      rw [if_pos hk] at p1
      exact ⟨g1, ρ, S1, r1, p1⟩
    · rename_i hk
      rw [if_neg hk] at p1
      exact fin_V r1 (fun m => MRep.bl _) (post_q p1)
  | _ => exact p1.elim
theorem bop1_imp {k : Bool} {ie : E} (σ : L2.St) (H : Hp) (Q : VK) (h : J.tE m (.bop k [ie]) σ H Q) : J.tE m ie σ H Q := by
  obtain ⟨g, ρ, S, rl, p⟩ := h
  refine ⟨g, ρ, S, rl, ?_⟩
  have e : evE J.x (.bop k [ie]) ρ S = evE J.x ie ρ S := by simp only [evE, evB]
  have e2 : pureE (.bop k [ie]) = pureE ie := by simp only [pureE, pureEs, Bool.and_true]
  rw [e, e2] at p
  exact p
theorem s_bop1 {k : Bool} {a : Expr} {ia : E} (ha : PE X a (J.tE m ia)) : PE X (.BoolOp (boS k) [a] pos) (J.tE m (.bop k [ia])) := PE.imp (pe_one ha) bop1_imp
theorem s_bop {k : Bool} {a b : Expr} {rest : List Expr} {ia ib : E} {ir : List E} (ha : PE X a (J.tE .B ia)) (hb : PE X (.BoolOp (boS k) (b :: rest) pos) (J.tE m (.bop k (ib :: ir)))) :
    PE X (.BoolOp (boS k) (a :: b :: rest) pos) (J.tE m (.bop k (ia :: ib :: ir))) := by
  cases k with
  | true =>
    refine PE.imp (pe_and ha hb) fun σ H Q h => ?_
    obtain ⟨g, ρ, S, rl, p⟩ := bop_imp σ H Q h
    refine ⟨g, ρ, S, rl, ?_⟩
    cases ev : evE J.x ia ρ S with
    | ok v S1 =>
      rw [ev] at p
      intro u g' H' r' st mr
      obtain ⟨c, e, q⟩ := p u g' H' r' st mr
      refine ⟨c, e, ?_⟩
      cases c with
      | true => exact q
      | false => exact q
    | exn c S1 => rw [ev] at p; exact p
    | stuck => rw [ev] at p; exact p
  | false =>
    refine PE.imp (pe_or ha hb) fun σ H Q h => ?_
    obtain ⟨g, ρ, S, rl, p⟩ := bop_imp σ H Q h
    refine ⟨g, ρ, S, rl, ?_⟩
    cases ev : evE J.x ia ρ S with
    | ok v S1 =>
      rw [ev] at p
      intro u g' H' r' st mr
      obtain ⟨c, e, q⟩ := p u g' H' r' st mr
      refine ⟨c, e, ?_⟩
      cases c with
      | true => exact q
      | false => exact q
    | exn c S1 => rw [ev] at p; exact p
    | stuck => rw [ev] at p; exact p
theorem t_bop1 {k : Bool} {a : Expr} {ia : E} (ha : PT X a (J.tT ia)) : PW X (.BoolOp (boS k) [a] pos) (J.tT (.bop k [ia])) := by
  have w : ∀ σ H Q, J.tT (.bop k [ia]) σ H Q → J.tT ia σ H Q := fun σ H Q h => bop1_imp σ H _ h
  cases k with
  | true => exact ⟨fun wh pins s σ H Q I h => (pw_and1 ha).run wh pins s σ H Q I (w σ H Q h)⟩
  | false => exact ⟨fun wh pins s σ H Q I h => (pw_or1 ha).run wh pins s σ H Q I (w σ H Q h)⟩
/-- the end of a reading is weakened -/
theorem tE_mono {m : Md} {e : E} {σ : L2.St} {H : Hp} {Q Q' : VK} (h : J.tE m e σ H Q) (w : ∀ u H', Q u H' → Q' u H') : J.tE m e σ H Q' := by
  obtain ⟨g, ρ, S, rl, p⟩ := h
  refine ⟨g, ρ, S, rl, ?_⟩
  cases ev : evE J.x e ρ S with
  | ok v S1 =>
    rw [ev] at p
    exact fun u g' H' r' st mr => w _ _ (p u g' H' r' st mr)
  | exn c S1 => rw [ev] at p; exact p
  | stuck => rw [ev] at p; exact p
theorem t_bop {k : Bool} {a b : Expr} {rest : List Expr} {ia ib : E} {ir : List E} (ha : PT X a (J.tT ia)) (hb : PW X (.BoolOp (boS k) (b :: rest) pos) (J.tT (.bop k (ib :: ir)))) :
    PW X (.BoolOp (boS k) (a :: b :: rest) pos) (J.tT (.bop k (ia :: ib :: ir))) := by
  have w : ∀ σ H (Q : Bool → Hp → Prop), J.tT (.bop k (ia :: ib :: ir)) σ H Q → J.tT ia σ H fun c H1 => if c = k then J.tT (.bop k (ib :: ir)) σ H1 Q else Q c H1 := fun σ H Q h => by
    refine tE_mono (bop_imp σ H _ h) fun u H' q => ?_
    obtain ⟨c, rfl, q⟩ := q
    refine ⟨c, rfl, ?_⟩
    show if c = k then J.tT (.bop k (ib :: ir)) σ H' Q else Q c H'
    split
    · rename_i hk
      rw [if_pos hk] at q
      exact q
    · rename_i hk
      rw [if_neg hk] at q
      obtain ⟨c', e, q⟩ := q
      cases e
      exact q
  cases k with
  | true =>
    refine ⟨fun wh pins s σ H Q I h => (pw_and ha hb).run wh pins s σ H Q I (tE_mono (w σ H Q h) fun u H' q => ?_)⟩
    obtain ⟨c, e, q⟩ := q
    refine ⟨c, e, ?_⟩
    cases c with
    | true => exact q
    | false => exact q
  | false =>
    refine ⟨fun wh pins s σ H Q I h => (pw_or ha hb).run wh pins s σ H Q I (tE_mono (w σ H Q h) fun u H' q => ?_)⟩
    obtain ⟨c, e, q⟩ := q
    refine ⟨c, e, ?_⟩
    cases c with
    | true => exact q
    | false => exact q
theorem nt_imp {ia : E} (σ : L2.St) (H : Hp) (Q : VK) (h : J.tE m (.nt ia) σ H Q) : J.tE .B ia σ H fun x H1 => ∃ c, x = .bl c ∧ Q (.bl (!c)) H1 := by
  obtain ⟨g, ρ, S, rl, p⟩ := h
  have hq : pureE (.nt ia) = (pureE ia && true) := by simp only [pureE, Bool.and_true]
  simp only [evE] at p
  rw [hq] at p
  refine tE_bindS rl p fun v S1 u g1 H1 e1 r1 st1 mr1 p1 => ?_
  cases v with
  | bl b => exact ⟨b, mr1.R.bl_of, fin_V r1 (fun m => MRep.bl _) p1⟩
  | _ => exact p1.elim
theorem s_nt {a : Expr} {ia : E} (ha : PE X a (J.tE .B ia)) : PE X (.UnaryOp .Not a pos) (J.tE m (.nt ia)) := PE.imp (pe_not ha) nt_imp
theorem t_nt {a : Expr} {ia : E} (ha : PT X a (J.tT ia)) : PT X (.UnaryOp .Not a pos) (J.tT (.nt ia)) := by
  refine PT.imp (pt_not ha) fun σ H Q h => ?_
  refine tE_mono (nt_imp σ H _ h) fun u H' q => ?_
  obtain ⟨c, rfl, c', e, q⟩ := q
  cases e
  exact ⟨c, rfl, q⟩
theorem s_ife {t a b : Expr} {it ia ib : E} (ht : PT X t (J.tT it)) (ha : PE X a (J.tE m ia)) (hb : PE X b (J.tE m ib)) : PE X (.IfExp t a b pos) (J.tE m (.ife it ia ib)) := by
  refine PE.imp (pe_ifExp ht ha hb) fun σ H Q h => ?_
  obtain ⟨g, ρ, S, rl, p⟩ := h
  have hq : pureE (.ife it ia ib) = (pureE it && (pureE ia && pureE ib)) := by simp only [pureE, Bool.and_assoc]
  simp only [evE] at p
  rw [hq] at p
  refine tE_bindS rl p fun v S1 u g1 H1 e1 r1 st1 mr1 p1 => ?_
  cases v with
  | bl c =>
    refine ⟨c, mr1.R.bl_of, ?_⟩
    have wk : ∀ {q1 q2 : Bool} {r : R Val}, (q1 = true → q2 = true) → J.Post m q1 g1 H1 σ ρ r Q → J.Post m q2 g1 H1 σ ρ r Q := fun {q1 q2 r} hq h => by
      cases r with
      | ok v S1 => exact fun u g2 H2 r s mr => h u g2 H2 r (by
          cases q1 with
          | true => rw [hq rfl] at s; exact s
          | false => exact s.weak) mr
      | exn c S1 => exact h
      | stuck => exact h
    cases c with
    | true =>
      simp only [if_true] at p1 ⊢
      exact ⟨g1, ρ, S1, r1, wk (fun z => (Bool.and_eq_true_iff.mp z).1) p1⟩
    | false =>
      simp only [Bool.false_eq_true, if_false] at p1 ⊢
      exact ⟨g1, ρ, S1, r1, wk (fun z => (Bool.and_eq_true_iff.mp z).2) p1⟩
  | _ => exact p1.elim
theorem s_neg {a : Expr} {ia : E} (ha : PE X a (J.tE .B ia)) : PE X (.UnaryOp .USub a pos) (J.tE m (.neg ia)) := by
  refine PE.imp (pe_un un_neg ha) fun σ H Q h => ?_
  obtain ⟨g, ρ, S, rl, p⟩ := h
  have hq : pureE (.neg ia) = (pureE ia && true) := by simp only [pureE, Bool.and_true]
  simp only [evE] at p
  rw [hq] at p
  refine tE_bindS rl p fun v S1 u g1 H1 e1 r1 st1 mr1 p1 => ?_
  cases v with
  | int i => exact ⟨i, mr1.R.int_of, fin_V r1 (fun m => MRep.int _) p1⟩
  | _ => exact p1.elim

/-! ### argument lists -/
theorem MReps.vs {k : Kx} {g : Gh} {H : Hp} : ∀ {vs : List Val} {us : List V}, MReps k g H [] vs us → VReps k (fzP g H) g.ι vs us
  | [], _, h => by
    simp only [VReps]
    exact h
  | v :: vs, us, h => by
    obtain ⟨u, r, e, h1, h2⟩ := h
    simp only [VReps]
    exact ⟨u, r, e, h1, MReps.vs h2⟩
theorem a_nil {ms : List Md} : PA X [] (J.tA ms []) := by
  refine PA.imp pa_nil fun σ H Q h => ?_
  obtain ⟨g, ρ, S, rl, p⟩ := h
  simp only [evs] at p
  exact p [] g H rl Step.refl rfl
theorem a_cons {ms : List Md} {e : Expr} {es : List Expr} {ie : E} {ies : List E} (ha : PE X e (J.tE (ms.headD .V) ie)) (hr : PA X es (J.tA ms.tail ies)) (hm : (ms.headD .V).pq = true → pureEs ies = true)
    (hs : starEach (e :: es) X.env = (false, eval e X.env) :: starEach es X.env) : PA X (e :: es) (J.tA ms (ie :: ies)) := by
  refine PA.imp (pa_cons ha hr hs) fun σ H Q h => ?_
  obtain ⟨g, ρ, S, rl, p⟩ := h
  refine ⟨g, ρ, S, rl, ?_⟩
  have ev : evs J.x (ie :: ies) ρ S = (evE J.x ie ρ S).bind fun v S1 => (evs J.x ies ρ S1).bind fun vs S2 => .ok (v :: vs) S2 := by simp only [evs]
  have hq : pureEs (ie :: ies) = (pureE ie && pureEs ies) := by simp only [pureEs]
  rw [ev, hq] at p
  cases ev1 : evE J.x ie ρ S with
  | ok v S1 =>
    rw [ev1] at p
    intro u g1 H1 r1 st mr
    refine ⟨g1, ρ, S1, r1, ?_⟩
    simp only [R.bind] at p
    cases ev2 : evs J.x ies ρ S1 with
    | ok vs S2 =>
      rw [ev2] at p
      intro us g2 H2 r2 st2 mrs
      exact p (u :: us) g2 H2 r2 (st.trans st2) ⟨u, us, rfl, st2.mM hm mr, mrs⟩
    | exn c S2 =>
      rw [ev2] at p
      exact exn_weak p st
    | stuck =>
      rw [ev2] at p
      exact p
  | exn c S1 => rw [ev1] at p; exact p
  | stuck => rw [ev1] at p; exact p

/-! ### displays -/
theorem s_tup {es : List Expr} {ies : List E} {x1} (h : PA X es (J.tA [] ies)) : PE X (.Tuple es x1 pos) (J.tE m (.tup ies)) := by
  refine PE.imp (pe_tup h) fun σ H Q h => ?_
  obtain ⟨g, ρ, S, rl, p⟩ := h
  have hq : pureE (.tup ies) = (pureEs ies && true) := by simp only [pureE, Bool.and_true]
  simp only [evE] at p
  rw [hq] at p
  refine tA_bind rl p fun vs S1 us g1 H1 e1 r1 st mr p1 => ?_
  split at p1
  · rename_i hz
    have hv := mr.vs
    exact ⟨by rw [hv.len]; exact szb_line hz, fin_tup r1 hv p1⟩
  · exact p1.elim
theorem s_lst {es : List Expr} {ies : List E} (h : PA X es (J.tA [] ies)) : PE X (.List es pos) (J.tE m (.lst ies)) := by
  refine PE.imp (pe_lst h) fun σ H Q h => ?_
  obtain ⟨g, ρ, S, rl, p⟩ := h
  have hq : pureE (.lst ies) = (pureEs ies && true) := by simp only [pureE, Bool.and_true]
  simp only [evE] at p
  rw [hq] at p
  refine tA_bind rl p fun vs S1 us g1 H1 e1 r1 st mr p1 => ?_
  split at p1
  · rename_i hz
    have hv := mr.vs
    exact ⟨by rw [hv.len]; exact szb_line hz, fin_lst r1 hv p1⟩
  · exact p1.elim
theorem VReps.flat {k : Kx} {F : Hp} {ι : Nat → Option Addr} {xs : List Val} {us : List V} (h : VReps k F ι xs us) : ∀ n : Nat, VReps k F ι (List.replicate n xs).flatten (List.replicate n us).flatten
  | 0 => by
    show VReps k F ι [] []
    simp only [VReps]
  | n + 1 => by
    rw [List.replicate_succ, List.replicate_succ, List.flatten_cons, List.flatten_cons]
    exact h.app (VReps.flat h n)
theorem s_rep {es : List Expr} {b : Expr} {ies : List E} {ib : E} {lp : Pos} (h : PA X es (J.tA [] ies)) (hb : PE X b (J.tE .B ib)) : PE X (.BinOp (.List es lp) .Mult b pos) (J.tE m (.rep ies ib)) := by
  refine PE.imp (pe_op op_rep (pe_lst h) hb) fun σ H Q h => ?_
  obtain ⟨g, ρ, S, rl, p⟩ := h
  have hq : pureE (.rep ies ib) = (pureEs ies && (pureE ib && true)) := by simp only [pureE, Bool.and_true]
  simp only [evE] at p
  rw [hq] at p
  refine tA_bind rl p fun vs S1 us g1 H1 e1 r1 st mr p1 => ?_
  have hv := mr.vs
  split at p1
  · rename_i hz
    refine ⟨by rw [hv.len]; exact szb_line hz, fun q hqn => ?_⟩
    have r1' := put_rel r1 hqn (o := .lst us) (.inr ⟨.inl rfl, fun _ z => nomatch z⟩)
    have st1 : Step true g1 H1 (g1.put q .rt) (upd H1 q (.lst us)) := put_step (r1.str.no_tag hqn)
    have p1' : J.Post m (pureE ib && true) _ _ σ ρ _ Q := post_after (q1 := true) (q2 := pureE ib && true) p1 st1
    refine tE_bindS r1' p1' fun w S2 u2 g2 H2 e2 r2 st2 mr2 p2 => ?_
    cases w with
    | int j =>
      simp only at p2
      split at p2
      · rename_i hj
        have hv2 := st2.mVs (st1.mVs hv)
        have hl := (st2.keep q (.inr (.inr (.inl put_same)))).2.trans upd_same
        refine ⟨q, j, us, rfl, mr2.R.int_of, hl, by omega, by omega, by rw [hv.len]; exact szb_line hj.2.2, fin_lst r2 (hv2.flat _) p2⟩
      · exact p2.elim
    | _ => exact p2.elim
  · exact p1.elim
end
end Pv
end

section
set_option Elab.async false
set_option linter.all false
set_option maxRecDepth 100000
set_option autoImplicit false
/-! Pv9: subscripts, slices. -/
namespace Pv
open PySem PySem.Spec PyProof.Rows L2

section
variable {k : Kx} {g : Gh} {H : Hp} {F : Hp} {ι : Nat → Option Addr}
theorem VReps.atI {xs : List Val} {us : List V} {i : Int} {z : Val} (h : VReps k F ι xs us) (e : L2.atI xs i = some z) : ∃ u, L2.atI us i = some u ∧ VRep k F ι z u := by
  unfold L2.atI at e ⊢
  rw [h.len]
  cases hj : ixN xs.length i with
  | none => rw [hj] at e; cases e
  | some j =>
    rw [hj] at e
    exact h.get e
theorem VReps.drop {xs : List Val} {us : List V} : ∀ {xs : List Val} {us : List V} (n : Nat), VReps k F ι xs us → VReps k F ι (xs.drop n) (us.drop n)
  | xs, us, 0, h => h
  | [], us, n + 1, h => by
    simp only [VReps] at h
    subst h
    simp only [List.drop_nil, VReps]
  | x :: xs, us, n + 1, h => by
    simp only [VReps] at h
    obtain ⟨u, r, rfl, _, h2⟩ := h
    rw [List.drop_succ_cons, List.drop_succ_cons]
    exact VReps.drop (xs := xs) (us := r) n h2
theorem VReps.take {xs : List Val} {us : List V} : ∀ {xs : List Val} {us : List V} (n : Nat), VReps k F ι xs us → VReps k F ι (xs.take n) (us.take n)
  | xs, us, 0, h => by
    rw [List.take_zero, List.take_zero]
    simp only [VReps]
  | [], us, n + 1, h => by
    simp only [VReps] at h
    subst h
    simp only [List.take_nil, VReps]
  | x :: xs, us, n + 1, h => by
    simp only [VReps] at h
    obtain ⟨u, r, rfl, h1, h2⟩ := h
    rw [List.take_succ_cons, List.take_succ_cons]
    simp only [VReps]
    exact ⟨u, _, rfl, h1, VReps.take (xs := xs) (us := r) n h2⟩
theorem VReps.ofInts {F : Hp} {ι : Nat → Option Addr} : ∀ (is : List Int), VReps k F ι (is.map .int) (is.map V.int)
  | [] => by
    simp only [List.map_nil, VReps]
  | i :: is => by
    simp only [List.map_cons, VReps]
    refine ⟨_, _, rfl, ?_, VReps.ofInts is⟩
    simp only [VRep]
theorem cut_map {α β : Type} (f : α → β) (xs : List α) (lo hi : Option Int) : cutL (xs.map f) lo hi = (cutL xs lo hi).map f := by
  unfold cutL
  rw [List.length_map, List.map_take, List.map_drop]
theorem VReps.cut {xs : List Val} {us : List V} (lo hi : Option Int) (h : VReps k F ι xs us) : VReps k F ι (cutL xs lo hi) (cutV us lo hi) := by
  unfold cutL cutV
  rw [h.len]
  exact VReps.take (xs := xs) (us := us) _ (VReps.drop (xs := xs) (us := us) _ h)
theorem ix_dlook {d key z : Val} (hd : isDct d = true) (e : ixV d key = some z) : dlook d key = some (some z) := by
  cases d with
  | dK kvs =>
    simp only [ixV] at e
    simp only [dlook]
    cases eq : keyK key with
    | none => rw [eq] at e; cases e
    | some q => rw [eq] at e; simp only at e ⊢; rw [e]
  | dT kvs =>
    simp only [dlook]
    cases key with
    | tup ks =>
      simp only [ixV] at e
      simp only
      cases eq : keyT ks with
      | none => rw [eq] at e; cases e
      | some q => rw [eq] at e; simp only at e ⊢; rw [e]
    | _ => simp [ixV] at e
  | _ => exact Bool.noConfusion hd
end

section
variable {X : Cx} {J : Jx} {m : Md} {pos : Pos}
/-! ### a[b] -/
def tIx (X : Cx) (ta tb : TE) : TE := fun σ H Q => tOp (rIx X.K) ta tb σ H Q ∨ tDGet ta tb σ H Q
theorem ix_imp {ma : Md} {ia ib : E} (hk : ∀ a us (H : Hp), J.k.kl a us → SqL X.K H a us) (hma : ma = .V ∨ ma = .B ∨ (ma = .P ∧ pureE ib = true)) (hm : m.kp = true) (σ : L2.St) (H : Hp) (Q : VK) (h : J.tE m (.ix ia ib) σ H Q) : tIx X (J.tE ma ia) (J.tE .B ib) σ H Q := by
  obtain ⟨g, ρ, S, r, p⟩ := h
  have hq : pureE (.ix ia ib) = (pureE ia && (pureE ib && true)) := by simp only [pureE, Bool.and_true]
  have ev : evE J.x (.ix ia ib) ρ S = (evE J.x ia ρ S).bind fun v S1 => (evE J.x ib ρ S1).bind fun w S2 => R.of (ixV (look S2 v) w) S2 := by simp only [evE]
  rw [ev, hq] at p
  have mA : ∀ {g1 g2 : Gh} {H1 H2 : Hp} {v : Val} {u : V}, Step (pureE ib) g1 H1 g2 H2 → MRep J.k g1 H1 ma v u → MRep J.k g2 H2 ma v u := fun st mr => st.mM (fun e => by
    rcases hma with h | h | h
    · rw [h] at e; cases e
    · rw [h] at e; cases e
    · exact h.2) mr
  by_cases hd : ∃ v S1 w S2, evE J.x ia ρ S = .ok v S1 ∧ evE J.x ib ρ S1 = .ok w S2 ∧ isDct (look S2 v) = true
  · right
    obtain ⟨v, S1, w, S2, e1, e2, hdct⟩ := hd
    refine tE_bindS (q2 := pureE ib && true) r p fun v' S1' u1 g1 H1 ev1 r1 st1 mr1 p1 => ?_
    rw [e1] at ev1
    cases ev1
    refine tE_bindS (q2 := true) r1 p1 fun w' S2' u2 g2 H2 ev2 r2 st2 mr2 p2 => ?_
    rw [e2] at ev2
    cases ev2
    cases ei : ixV (look S2 v) w with
    | none => rw [ei] at p2; exact p2.elim
    | some z =>
      rw [ei] at p2
      obtain ⟨a0, rr, e4, dg, ho⟩ := dlook_r (look_R r2.str (mA st2 mr1).R) mr2.R (ix_dlook hdct ei)
      obtain ⟨u, e5, hv⟩ := (show ∃ u, rr = some u ∧ _ from ho)
      subst e5
      exact ⟨a0, u, e4, dg, fin_kept r2 hm hv p2⟩
  · left
    refine two_at (m1 := ma) (m2 := .B) hma r p fun g' H' v S1 w S2 u1 u2 e1 e2 r1 h1 h2 p1 => ?_
    have hnd : isDct (look S2 v) = false := by
      cases e3 : isDct (look S2 v) with
      | false => rfl
      | true => exact absurd ⟨v, S1, w, S2, e1, e2, e3⟩ hd
    have h1' := (look_R r1.str h1.R).R hnd
    cases ei : ixV (look S2 v) w with
    | none => rw [ei] at p1; exact p1.elim
    | some z =>
      rw [ei] at p1
      simp only [R.of] at p1
      generalize look S2 v = v' at h1' hnd ei
      unfold ixV at ei
      split at ei
      · obtain ⟨a, us, rfl, ha, hs⟩ := h1'.lst_of
        obtain ⟨u, e, hv⟩ := hs.atI ei
        exact .inl ⟨a, us, _, u, rfl, h2.R.int_of, .inl (.inl ha), e, fin_kept r1 hm hv p1⟩
      · obtain ⟨a, us, rfl, ha, ta, hs⟩ := h1'.tup_of
        obtain ⟨u, e, hv⟩ := hs.atI ei
        exact .inr (.inl ⟨a, us, _, u, rfl, h2.R.int_of, SqT.of ha, e, fin_kept r1 hm hv p1⟩)
      · rename_i ns i
        unfold scrAt at ei
        split at ei
        · rename_i k' hk'
          cases ei
          obtain ⟨a, rfl, hs⟩ := h1'.scr_of hk
          refine .inl ⟨a, _, i, .int k', rfl, h2.R.int_of, hs, ?_, fin_V r1 (fun m => MRep.int _) p1⟩
          unfold L2.atI at hk' ⊢
          rw [List.length_map]
          cases hj : ixN ns.length i with
          | none => rw [hj] at hk'; cases hk'
          | some j =>
            rw [hj] at hk'
            show (ns.map V.int)[j]? = some (.int k')
            rw [List.getElem?_map]
            rw [show ns[j]? = some k' from hk']
            rfl
        · cases ei
      · split at ei
        · rename_i hz
          unfold sign1 at ei
          split at ei
          · rename_i c hc
            cases ei
            exact .inr (.inr ⟨_, _, c, h1'.str_of, h2.R.int_of, szb_line hz, hc, fin_V r1 (fun m => MRep.str _) p1⟩)
          · cases ei
        · cases ei
      · cases hnd
      · cases hnd
      · cases ei
theorem s_ix {ma : Md} {a b : Expr} {ia ib : E} (hk : ∀ a us (H : Hp), J.k.kl a us → SqL X.K H a us) (hu : X.A.units + 1 < cLine) (hma : ma = .V ∨ ma = .B ∨ (ma = .P ∧ pureE ib = true)) (hm : m.kp = true) (ha : PE X a (J.tE ma ia)) (hb : PE X b (J.tE .B ib)) (hs : PlainIx b) : PE X (.Subscript a b pos) (J.tE m (.ix ia ib)) :=
  PE.imp (PE.or (pe_ix ix_seq ha hb hs) (pe_dget hu ha hb hs)) (ix_imp hk hma hm)

/-! ### a[lo:hi] -/
def Jx.PostO (J : Jx) (q : Bool) (g : Gh) (H : Hp) (σ : L2.St) (ρ : Env) (r : R (Option Int)) (Q : Option Int → Hp → Prop) : Prop := match r with
  | .ok o S' => ∀ g' H', Rel J.k J.md g' σ H' ρ S' → Step q g H g' H' → Q o H'
  | .exn c S' => J.exnP g H σ ρ c S'
  | .stuck => False
def Jx.tO (J : Jx) (e : Option E) : TO := fun σ H Q => ∃ g ρ S, Rel J.k J.md g σ H ρ S ∧ J.PostO (pureO e) g H σ ρ (evO J.x e ρ S) Q
theorem PO.imp {e : Option Expr} {t t' : TO} (h : PO X e t) (w : ∀ σ H Q, t' σ H Q → t σ H Q) : PO X e t' := ⟨fun pins s σ H Q I q => h.run pins s σ H Q I (w σ H Q q)⟩
theorem o_none : PO X none (J.tO none) := by
  refine PO.imp po_none fun σ H Q h => ?_
  obtain ⟨g, ρ, S, r, p⟩ := h
  simp only [evO] at p
  exact p g H r Step.refl
theorem o_some {e : Expr} {ie : E} (he : PE X e (J.tE .B ie)) : PO X (some e) (J.tO (some ie)) := by
  refine PO.imp (po_some he) fun σ H Q h => ?_
  obtain ⟨g, ρ, S, r, p⟩ := h
  refine ⟨g, ρ, S, r, ?_⟩
  simp only [evO, pureO] at p
  cases ev : evE J.x ie ρ S with
  | ok v S1 =>
    rw [ev] at p
    intro u g' H' r' st mr
    simp only [R.bind] at p
    cases v with
    | int i => exact ⟨i, mr.R.int_of, p g' H' r' st⟩
    | _ => exact p.elim
  | exn c S1 => rw [ev] at p; exact p
  | stuck => rw [ev] at p; exact p
theorem tO_bindS {g : Gh} {H : Hp} {σ : L2.St} {ρ : Env} {S : Store} {q2 : Bool} {e : Option E} {f : Option Int → Store → R Val} {Q : VK} {Q1 : Option Int → Hp → Prop} (r : Rel J.k J.md g σ H ρ S) (h : J.Post m (pureO e && q2) g H σ ρ ((evO J.x e ρ S).bind f) Q)
    (hn : ∀ v S' g' H', evO J.x e ρ S = .ok v S' → Rel J.k J.md g' σ H' ρ S' → Step (pureO e) g H g' H' → J.Post m q2 g' H' σ ρ (f v S') Q → Q1 v H') : J.tO e σ H Q1 := by
  refine ⟨g, ρ, S, r, ?_⟩
  cases ev : evO J.x e ρ S with
  | ok v S1 =>
    rw [ev] at h
    exact fun g2 H2 r2 s => hn v S1 g2 H2 ev r2 s (post_after h s)
  | exn c S1 =>
    rw [ev] at h
    exact h
  | stuck =>
    rw [ev] at h
    exact h
theorem cutS_eq (s : Str) (lo hi : Option Int) : (⟨(cutL s.cps.toList lo hi).toArray⟩ : Str) = cutS s lo hi := by
  have e : s.cps.toList.length = s.length := by simp [Str.length]
  unfold cutL cutS
  rw [e]
theorem s_sl (hk : ∀ a us (H : Hp), J.k.kl a us → SqL X.K H a us) {a : Expr} {lo hi : Option Expr} {ia : E} {il ih : Option E} {p2 : Pos} (ha : PE X a (J.tE .B ia)) (hl : PO X lo (J.tO il)) (hh : PO X hi (J.tO ih)) : PE X (.Subscript a (.Slice lo hi none p2) pos) (J.tE m (.sl ia il ih)) := by
  refine PE.imp (pe_slice (sl_list.or (sl_tup.or sl_str)) ha hl hh) fun σ H Q h => ?_
  obtain ⟨g, ρ, S, r, p⟩ := h
  have hq : pureE (.sl ia il ih) = (pureE ia && (pureO il && (pureO ih && true))) := by simp only [pureE, Bool.and_true, Bool.and_assoc]
  simp only [evE] at p
  rw [hq] at p
  refine tE_bindS r p fun v S1 u1 g1 H1 e1 r1 st1 mr1 p1 => ?_
  refine tO_bindS r1 p1 fun l S2 g2 H2 e2 r2 st2 p2 => ?_
  refine tO_bindS r2 p2 fun h S3 g3 H3 e3 r3 st3 p3 => ?_
  have h1 := deref_R r3.str (st3.mB (st2.mB mr1)).R
  cases es : slV (deref S3 v) l h with
  | none => rw [es] at p3; exact p3.elim
  | some z =>
    rw [es] at p3
    simp only [R.of] at p3
    generalize deref S3 v = v' at h1 es
    unfold slV at es
    split at es
    · cases es
      obtain ⟨a, us, rfl, ha, hs⟩ := h1.lst_of
      exact .inl ⟨a, us, rfl, .inl (.inl ha), fin_lst r3 (hs.cut l h) p3⟩
    · split at es
      · cases es
      · rename_i hw
        cases es
        obtain ⟨a, us, rfl, ha, _, hs⟩ := h1.tup_of
        rw [← hs.len] at hw
        exact .inr (.inl ⟨a, us, rfl, by first | exact .inl ha | exact .inl (.inl ha), hw, fin_tup r3 (hs.cut l h) p3⟩)
    · split at es
      · rename_i hz
        cases es
        refine .inr (.inr ⟨_, h1.str_of, szb_line hz, ?_⟩)
        rw [cutS_eq] at p3
        exact fin_V r3 (fun m => MRep.str _) p3
      · cases es
    · cases es
      obtain ⟨a, rfl, hs⟩ := h1.scr_of hk
      refine .inl ⟨a, _, rfl, hs, fin_lst r3 ?_ p3⟩
      rw [show ∀ ns : List Int, cutV (ns.map V.int) l h = (cutL ns l h).map V.int from fun ns => cut_map V.int ns l h]
      exact VReps.ofInts _
    · cases es
end
end Pv
end

section
set_option Elab.async false
set_option linter.all false
set_option maxRecDepth 100000
set_option autoImplicit false
/-! Pv10: what is walked; targets. -/
namespace Pv
open PySem PySem.Spec PyProof.Rows L2

/-- a walk over things that stand for xs -/
def ItOk (k : Kx) (It : L2.It) (xs : List Val) (P : Store → Prop) (g : Gh) (H : Hp) : Prop := ∃ (Gd : Hp → Prop) (Y : Nat → Hp → V → Hp → Prop), L2.Walk It xs.length Gd Y ∧
  ∀ g2 H2 S2, StepS g H g2 H2 → SRel k g2 H2 S2 → P S2 → Gd H2 ∧ ∀ i x H', i < xs.length → Y i H2 x H' → ∃ v, xs[i]? = some v ∧
    ∀ md σ ρ, Rel k md g2 σ H2 ρ S2 → ∃ g', Rel k md g' σ H' ρ S2 ∧ Step true g2 H2 g' H' ∧ MRep k g' H' .V v x
def anyP : Store → Prop := fun _ => True
/-- the items, and what of the store must stay while they are walked -/
def srcOf (v : Val) (S : Store) : Option (List Val × (Store → Prop)) := match itemsV v with
  | some xs => some (xs, anyP)
  | none => (match refL v S with
    | some (P, xs) => some (xs, P)
    | none => none)
def Jx.tI (J : Jx) (e : E) : TI := fun σ H R => ∃ g ρ S, Rel J.k J.md g σ H ρ S ∧ match evE J.x e ρ S with
  | .ok v S' => ∃ xs P, srcOf v S' = some (xs, P) ∧ ∀ It g' H', Rel J.k J.md g' σ H' ρ S' → Step (pureE e) g H g' H' → ItOk J.k It xs P g' H' → R It H'
  | .exn c S' => J.exnP g H σ ρ c S'
  | .stuck => False
theorem PI.or {X : Cx} {tg it : Expr} {t1 t2 : TI} (h1 : PI X tg it t1) (h2 : PI X tg it t2) : PI X tg it (fun σ H R => t1 σ H R ∨ t2 σ H R) :=
  ⟨fun pins s σ H R I h => h.elim (h1.run pins s σ H R I) (h2.run pins s σ H R I)⟩
theorem PI.imp {X : Cx} {tg it : Expr} {t t' : TI} (h : PI X tg it t) (w : ∀ σ H Q, t' σ H Q → t σ H Q) : PI X tg it t' := ⟨fun pins s σ H Q I q => h.run pins s σ H Q I (w σ H Q q)⟩

section
variable {k : Kx} {g : Gh} {H : Hp} {F : Hp} {ι : Nat → Option Addr}
theorem VReps.get' : ∀ {xs : List Val} {us : List V} {i : Nat} {u : V}, VReps k F ι xs us → us[i]? = some u → ∃ x, xs[i]? = some x ∧ VRep k F ι x u
  | [], _, i, u, h, e => by
    simp only [VReps] at h
    subst h
    simp at e
  | x :: xs, _, 0, u, h, e => by
    simp only [VReps] at h
    obtain ⟨w, r, rfl, h1, _⟩ := h
    simp at e
    subst e
    exact ⟨x, rfl, h1⟩
  | x :: xs, _, i + 1, u, h, e => by
    simp only [VReps] at h
    obtain ⟨w, r, rfl, _, h2⟩ := h
    obtain ⟨y, e1, h3⟩ := VReps.get' h2 (i := i) (u := u) (by simpa using e)
    exact ⟨y, by simpa using e1, h3⟩
theorem itok_list {P : Store → Prop} {K : PySem.W.Frag} {a : Addr} {xs : List Val} {us : List V} (hl : lTag (g.T a) = true) (ha : H a = some (.lst us)) (hs : VReps k (fzP g H) g.ι xs us) : ItOk k (Itl K a) xs P g H := by
  refine ⟨_, _, by rw [← hs.len]; exact walk_list, fun g2 H2 S2 st _ _ => ?_⟩
  have hk : g.T a = .fz ∨ g.T a = .br := by
    cases e : g.T a <;> rw [e] at hl <;> first | (exact .inl rfl) | (exact .inr rfl) | cases hl
  refine ⟨.inl (.inl ((st.keep a hk).2.trans ha)), fun i x H' hi y => ?_⟩
  obtain ⟨rfl, y⟩ := y
  obtain ⟨v, e, hv⟩ := hs.get' y
  exact ⟨v, e, fun md σ ρ r => ⟨g2, r, Step.refl, VRep.mono st.fz st.ι _ _ hv⟩⟩
theorem itok_tup {P : Store → Prop} {K : PySem.W.Frag} {a : Addr} {xs : List Val} {us : List V} (hl : g.T a = .fz) (ha : H a = some (.tup us)) (hs : VReps k (fzP g H) g.ι xs us) : ItOk k (Itt K a) xs P g H := by
  refine ⟨_, _, by rw [← hs.len]; exact walk_tup, fun g2 H2 S2 st _ _ => ?_⟩
  refine ⟨SqT.of ((st.keep a (.inl hl)).2.trans ha), fun i x H' hi y => ?_⟩
  obtain ⟨rfl, y⟩ := y
  obtain ⟨v, e, hv⟩ := hs.get' y
  exact ⟨v, e, fun md σ ρ r => ⟨g2, r, Step.refl, VRep.mono st.fz st.ι _ _ hv⟩⟩
theorem itok_str {P : Store → Prop} {s : Str} : ItOk k (Its s) (s.cps.toList.map fun c => .str ⟨#[c]⟩) P g H := by
  refine ⟨_, _, by rw [List.length_map, Array.length_toList]; exact walk_str, fun g2 H2 S2 st _ _ => ?_⟩
  refine ⟨trivial, fun i x H' hi y => ?_⟩
  obtain ⟨rfl, c, e, rfl⟩ := y
  refine ⟨.str ⟨#[c]⟩, ?_, fun md σ ρ r => ⟨g2, r, Step.refl, MRep.str _⟩⟩
  rw [List.getElem?_map, Array.getElem?_toList, e]
  rfl
theorem itok_rev {P : Store → Prop} {K : PySem.W.Frag} {a : Addr} {xs : List Val} {us : List V} (hl : lTag (g.T a) = true) (ha : H a = some (.lst us)) (hs : VReps k (fzP g H) g.ι xs us) : ItOk k (Itv K a us.length) xs.reverse P g H := by
  refine ⟨_, _, by rw [List.length_reverse, ← hs.len]; exact walk_rev, fun g2 H2 S2 st _ _ => ?_⟩
  have hk : g.T a = .fz ∨ g.T a = .br := by
    cases e : g.T a <;> rw [e] at hl <;> first | (exact .inl rfl) | (exact .inr rfl) | cases hl
  refine ⟨.inl (.inl ((st.keep a hk).2.trans ha)), fun i x H' hi y => ?_⟩
  obtain ⟨rfl, y⟩ := y
  obtain ⟨v, e, hv⟩ := hs.get' y
  rw [List.length_reverse] at hi
  refine ⟨v, ?_, fun md σ ρ r => ⟨g2, r, Step.refl, VRep.mono st.fz st.ι _ _ hv⟩⟩
  rw [List.getElem?_reverse hi, ← hs.len]
  exact e
/-- a list of the store -/
theorem walk_cell {K : PySem.W.Frag} {a : Addr} {n : Nat} : L2.Walk (Itl K a) n (fun H => ∃ us : List V, us.length = n ∧ H a = some (.lst us)) (fun i H x H' => H' = H ∧ ∃ us : List V, us.length = n ∧ H a = some (.lst us) ∧ us[i]? = some x) :=
  ⟨fun i H hi ⟨us, hl, ha⟩ => ⟨us, us[i]'(by omega), .inl (.inl ha), by simp [show i < us.length by omega]⟩, fun H ⟨us, hl, ha⟩ => ⟨us, .inl (.inl ha), by omega⟩, fun i H x H' hi ⟨us, hl, ha⟩ y => ⟨y.1, us, hl, ha, y.2 us (.inl (.inl ha))⟩⟩
theorem cell_at {S : Store} {n : Nat} {xs : List Val} {a : Addr} (s : SRel k g H S) (e : S[n]? = some (.cell (.lst xs))) (ha : g.ι n = some a) : g.T a = .st n ∧ ∃ us, H a = some (.lst us) ∧ VReps k (fzP g H) g.ι xs us := by
  obtain ⟨b, hb, tb, _, h⟩ := s.obj n _ e
  rw [ha] at hb
  cases hb
  obtain ⟨c, us, e1, ⟨rfl, hc⟩, hs⟩ := (show ∃ c us, V.ref a = .ref c ∧ (c = a ∧ H c = some (.lst us)) ∧ _ from h)
  exact ⟨tb, us, hc, hs⟩
theorem itok_cell {K : PySem.W.Frag} {a : Addr} {n : Nat} {xs : List Val} (ha : g.ι n = some a) : ItOk k (Itl K a) xs (isC n xs) g H := by
  refine ⟨_, _, walk_cell, fun g2 H2 S2 st s2 hp => ?_⟩
  obtain ⟨t2, us, h2, hs⟩ := cell_at s2 hp (st.ι n a ha)
  refine ⟨⟨us, hs.len, h2⟩, fun i x H' hi y => ?_⟩
  obtain ⟨rfl, us', hl, hu, y⟩ := y
  rw [h2] at hu
  cases hu
  obtain ⟨v, e, hv⟩ := hs.get' y
  exact ⟨v, e, fun md σ ρ r => ⟨g2, r, Step.refl, hv⟩⟩
/-- a locked dict -/
theorem walk_dT {d : Addr} {o : Obj} {us : List (List Key × V)} : L2.Walk (Itkt d o us) us.length (fun H => H d = some (.frz o (.dT us))) (fun i H x H' => H' = H ∧ ∃ (q : List Key) (v : V) (b : Addr), us[i]? = some (q, v) ∧ x = .ref b ∧ H b = some (.tup (q.map kV))) :=
  ⟨fun i H hi h => ⟨h, hi⟩, fun H h => ⟨h, Nat.le_refl _⟩, fun i x H H' hi h y => y⟩
theorem walk_dK {d : Addr} {o : Obj} {us : List (Key × V)} : L2.Walk (Itk d o us) us.length (fun H => H d = some (.frz o (.dK us))) (fun i H x H' => H' = H ∧ ∃ q v, us[i]? = some (q, v) ∧ x = kV q) :=
  ⟨fun i H hi h => ⟨h, hi⟩, fun H h => ⟨h, Nat.le_refl _⟩, fun i x H H' hi h y => y⟩
theorem VTs.len : ∀ {xs : List (List Key × Val)} {us : List (List Key × V)}, VTs k F ι xs us → us.length = xs.length
  | [], _, h => by simp only [VTs] at h; subst h; rfl
  | (q, x) :: xs, _, h => by
    simp only [VTs] at h
    obtain ⟨u, r, rfl, _, h2⟩ := h
    rw [List.length_cons, List.length_cons, VTs.len h2]
theorem VKs.len : ∀ {xs : List (Key × Val)} {us : List (Key × V)}, VKs k F ι xs us → us.length = xs.length
  | [], _, h => by simp only [VKs] at h; subst h; rfl
  | (q, x) :: xs, _, h => by
    simp only [VKs] at h
    obtain ⟨u, r, rfl, _, h2⟩ := h
    rw [List.length_cons, List.length_cons, VKs.len h2]
theorem VTs.key : ∀ {xs : List (List Key × Val)} {us : List (List Key × V)} {i : Nat} {q : List Key} {v : V}, VTs k F ι xs us → us[i]? = some (q, v) → (xs.map fun kv => Val.tup (kv.1.map unkey))[i]? = some (.tup (q.map unkey))
  | [], _, i, q, v, h, e => by simp only [VTs] at h; subst h; simp at e
  | (p, x) :: xs, _, 0, q, v, h, e => by
    simp only [VTs] at h
    obtain ⟨u, r, rfl, _, h2⟩ := h
    simp at e
    obtain ⟨rfl, rfl⟩ := e
    rfl
  | (p, x) :: xs, _, i + 1, q, v, h, e => by
    simp only [VTs] at h
    obtain ⟨u, r, rfl, _, h2⟩ := h
    simpa using VTs.key (i := i) h2 (by simpa using e)
theorem VKs.key : ∀ {xs : List (Key × Val)} {us : List (Key × V)} {i : Nat} {q : Key} {v : V}, VKs k F ι xs us → us[i]? = some (q, v) → (xs.map fun kv => unkey kv.1)[i]? = some (unkey q)
  | [], _, i, q, v, h, e => by simp only [VKs] at h; subst h; simp at e
  | (p, x) :: xs, _, 0, q, v, h, e => by
    simp only [VKs] at h
    obtain ⟨u, r, rfl, _, h2⟩ := h
    simp at e
    obtain ⟨rfl, rfl⟩ := e
    rfl
  | (p, x) :: xs, _, i + 1, q, v, h, e => by
    simp only [VKs] at h
    obtain ⟨u, r, rfl, _, h2⟩ := h
    simpa using VKs.key (i := i) h2 (by simpa using e)
theorem unkey_rep (q : Key) : VRep k F ι (unkey q) (kV q) := by
  cases q <;> simp only [unkey, VRep] <;> rfl
theorem unkeys_rep : ∀ q : List Key, VReps k F ι (q.map unkey) (q.map kV)
  | [] => by simp only [List.map_nil, VReps]
  | a :: q => by
    simp only [List.map_cons, VReps]
    exact ⟨_, _, rfl, unkey_rep a, unkeys_rep q⟩
/-- a tuple that stands there is known as it is -/
theorem tup_known {md : Sl} {σ : L2.St} {ρ : Env} {S : Store} {b : Addr} {q : List Key} (r : Rel k md g σ H ρ S) (hb : H b = some (.tup (q.map kV))) : ∃ g', Rel k md g' σ H ρ S ∧ Step true g H g' H ∧ MRep k g' H .V (.tup (q.map unkey)) (.ref b) := by
  rcases r.str.tup b _ hb with h | h
  · refine ⟨g.put b .fz, tag_rel r h (by rw [hb]; intro z; cases z), tag_step h, ?_⟩
    show VRep _ _ _ _ _
    simp only [VRep]
    exact ⟨b, _, rfl, fzP_of put_same hb, unkeys_rep q⟩
  · refine ⟨g, r, Step.refl, ?_⟩
    show VRep _ _ _ _ _
    simp only [VRep]
    exact ⟨b, _, rfl, fzP_of h hb, unkeys_rep q⟩
theorem lk_at {S : Store} {n : Nat} {w : Val} {a : Addr} (s : SRel k g H S) (e : S[n]? = some (.lk w)) (ha : g.ι n = some a) : g.T a = .st n ∧ ((∃ kvs ob us, w = .dK kvs ∧ H a = some (.frz ob (.dK us)) ∧ VKs k (fzP g H) g.ι kvs us) ∨ ∃ kvs ob us, w = .dT kvs ∧ H a = some (.frz ob (.dT us)) ∧ VTs k (fzP g H) g.ι kvs us) := by
  obtain ⟨b, hb, tb, hd, h⟩ := s.obj n _ e
  rw [ha] at hb
  cases hb
  refine ⟨tb, ?_⟩
  cases w <;> try (cases hd; done)
  · obtain ⟨c, us, e1, ⟨rfl, ob, hc⟩, hs⟩ := h
    exact .inl ⟨_, ob, us, rfl, hc, hs⟩
  · obtain ⟨c, us, e1, ⟨rfl, ob, hc⟩, hs⟩ := h
    exact .inr ⟨_, ob, us, rfl, hc, hs⟩
theorem itok_dT {a : Addr} {n : Nat} {w : Val} {kvs : List (List Key × Val)} {us : List (List Key × V)} {ob : Obj} (ta : g.T a = .st n) (ha : H a = some (.frz ob (.dT us))) (hs : VTs k (fzP g H) g.ι kvs us) : ItOk k (Itkt a ob us) (kvs.map fun kv => .tup (kv.1.map unkey)) (isK n w) g H := by
  refine ⟨_, _, by rw [List.length_map, ← hs.len]; exact walk_dT, fun g2 H2 S2 st s2 hp => ?_⟩
  refine ⟨(st.lk a n ob _ ta ha).trans ha, fun i x H' hi y => ?_⟩
  obtain ⟨rfl, q, v, b, e, rfl, hb⟩ := y
  exact ⟨_, hs.key e, fun md σ ρ r => tup_known r hb⟩
theorem itok_dK {a : Addr} {n : Nat} {w : Val} {kvs : List (Key × Val)} {us : List (Key × V)} {ob : Obj} (ta : g.T a = .st n) (ha : H a = some (.frz ob (.dK us))) (hs : VKs k (fzP g H) g.ι kvs us) : ItOk k (Itk a ob us) (kvs.map fun kv => unkey kv.1) (isK n w) g H := by
  refine ⟨_, _, by rw [List.length_map, ← hs.len]; exact walk_dK, fun g2 H2 S2 st s2 hp => ?_⟩
  refine ⟨(st.lk a n ob _ ta ha).trans ha, fun i x H' hi y => ?_⟩
  obtain ⟨rfl, q, v, e, rfl⟩ := y
  exact ⟨_, hs.key e, fun md σ ρ r => ⟨g2, r, Step.refl, unkey_rep q⟩⟩
theorem srcOf_items {v : Val} {S : Store} {xs : List Val} (h : itemsV v = some xs) : srcOf v S = some (xs, anyP) := by
  unfold srcOf
  rw [h]
theorem srcOf_lst {xs : List Val} {S : Store} : srcOf (.lst xs) S = some (xs, anyP) := rfl
theorem upto_at : ∀ (n : Nat) (lo : Int) (i : Nat), i < n → (upto lo n)[i]? = some (.int (lo + i))
  | 0, _, _, h => absurd h (Nat.not_lt_zero _)
  | n + 1, lo, 0, _ => by simp [upto]
  | n + 1, lo, i + 1, h => by
    simp only [upto, List.getElem?_cons_succ]
    rw [upto_at n (lo + 1) i (by omega)]
    congr 2
    omega
theorem upto_len : ∀ (n : Nat) (lo : Int), (upto lo n).length = n
  | 0, _ => rfl
  | n + 1, lo => by simp only [upto, List.length_cons, upto_len n (lo + 1)]
theorem itok_range {P : Store → Prop} {lo : Int} {n : Nat} : ItOk k (Itr lo n) (upto lo n) P g H := by
  refine ⟨_, _, by rw [upto_len]; exact walk_range, fun g2 H2 S2 st _ _ => ?_⟩
  refine ⟨trivial, fun i x H' hi y => ?_⟩
  obtain ⟨rfl, rfl⟩ := y
  rw [upto_len] at hi
  exact ⟨_, upto_at n lo i hi, fun md σ ρ r => ⟨g2, r, Step.refl, MRep.int _⟩⟩
theorem itok_rangeC {P : Store → Prop} {lo c : Int} {n : Nat} : ItOk k (Itc lo c n) ((List.range n).map fun i => .int (lo + Int.ofNat i * c)) P g H := by
  refine ⟨_, _, by rw [List.length_map, List.length_range]; exact walk_rangeC, fun g2 H2 S2 st _ _ => ?_⟩
  refine ⟨trivial, fun i x H' hi y => ?_⟩
  obtain ⟨rfl, rfl⟩ := y
  rw [List.length_map, List.length_range] at hi
  refine ⟨.int (lo + Int.ofNat i * c), ?_, fun md σ ρ r => ⟨g2, r, Step.refl, MRep.int _⟩⟩
  rw [List.getElem?_map, List.getElem?_range hi]
  rfl
theorem itok_zip {P : Store → Prop} {K : PySem.W.Frag} {a b : Addr} {xs ys : List Val} {us ws : List V} (hl : lTag (g.T a) = true) (ha : H a = some (.lst us)) (hs : VReps k (fzP g H) g.ι xs us) (hl2 : lTag (g.T b) = true) (hb : H b = some (.lst ws)) (ht : VReps k (fzP g H) g.ι ys ws) :
    ItOk k (Itz K a b) ((xs.zip ys).map fun p => .tup [p.1, p.2]) P g H := by
  refine ⟨_, _, walk_zip (n := _) (by rw [List.length_map, List.length_zip, ← hs.len, ← ht.len]), fun g2 H2 S2 st _ _ => ?_⟩
  have key : ∀ {c : Addr}, lTag (g.T c) = true → g.T c = .fz ∨ g.T c = .br := fun {c} h => by
    cases e : g.T c <;> rw [e] at h <;> first | (exact .inl rfl) | (exact .inr rfl) | cases h
  refine ⟨⟨.inl (.inl ((st.keep a (key hl)).2.trans ha)), .inl (.inl ((st.keep b (key hl2)).2.trans hb))⟩, fun i x H' hi y => ?_⟩
  obtain ⟨T, x1, x2, rfl, hT, rfl, e1, e2⟩ := y
  obtain ⟨v1, f1, h1⟩ := hs.get' e1
  obtain ⟨v2, f2, h2⟩ := ht.get' e2
  refine ⟨.tup [v1, v2], ?_, fun md σ ρ r => ?_⟩
  · rw [List.getElem?_map]
    have : (xs.zip ys)[i]? = some (v1, v2) := by
      rw [List.getElem?_zip_eq_some]
      exact ⟨f1, f2⟩
    rw [this]
    rfl
  · have hv : VReps k (fzP g2 H2) g2.ι [v1, v2] [x1, x2] := by
      simp only [VReps]
      exact ⟨x1, [x2], rfl, VRep.mono st.fz st.ι _ _ h1, x2, [], rfl, VRep.mono st.fz st.ι _ _ h2, rfl⟩
    exact ⟨_, put_rel r hT (.inl rfl), put_step (r.str.no_tag hT), mrep_tup (r.str.no_tag hT) hv⟩
end

section
variable {X : Cx} {J : Jx} {m : Md} {pos : Pos}
theorem tE_ok {e : E} {g : Gh} {H : Hp} {σ : L2.St} {ρ : Env} {S S' : Store} {v : Val} {Q : VK} (r : Rel J.k J.md g σ H ρ S) (ev : evE J.x e ρ S = .ok v S') (h : ∀ u g' H', Rel J.k J.md g' σ H' ρ S' → Step (pureE e) g H g' H' → MRep J.k g' H' m v u → Q u H') : J.tE m e σ H Q := by
  refine ⟨g, ρ, S, r, ?_⟩
  rw [ev]
  exact h
theorem tE_exn {e : E} {g : Gh} {H : Hp} {σ : L2.St} {ρ : Env} {S S' : Store} {c : Nat} {Q : VK} (r : Rel J.k J.md g σ H ρ S) (ev : evE J.x e ρ S = .exn c S') (h : J.exnP g H σ ρ c S') : J.tE m e σ H Q := by
  refine ⟨g, ρ, S, r, ?_⟩
  rw [ev]
  exact h
theorem i_val {tg e : Expr} {ie : E} (he : PE X e (J.tE .L ie)) : PI X tg e (J.tI ie) := by
  refine PI.imp (PI.or (pi_list he) (PI.or (pi_tup he) (PI.or (pi_str he) (pi_keys he)))) fun σ H R h => ?_
  obtain ⟨g, ρ, S, r, p⟩ := h
  cases ev : evE J.x ie ρ S with
  | ok v S' =>
    rw [ev] at p
    obtain ⟨xs, P, ei, p⟩ := p
    unfold srcOf at ei
    cases e1 : itemsV v with
    | some ys =>
      rw [e1] at ei
      cases ei
      unfold itemsV at e1
      split at e1
      · cases e1
        refine .inl (tE_ok r ev fun u g' H' r' st mr => ?_)
        obtain ⟨a, us, rfl, ⟨hl, ha⟩, hs⟩ := (show ∃ a us, u = .ref a ∧ LP g' H' a (.lst us) ∧ _ from mr)
        exact ⟨a, rfl, ⟨us, .inl (.inl ha)⟩, p _ g' H' r' st (itok_list hl ha hs)⟩
      · cases e1
        refine .inr (.inl (tE_ok r ev fun u g' H' r' st mr => ?_))
        obtain ⟨a, us, rfl, ha, ta, hs⟩ := mr.R.tup_of
        exact ⟨a, rfl, ⟨us, SqT.of ha⟩, p _ g' H' r' st (itok_tup ta ha hs)⟩
      · cases e1
        refine .inr (.inr (.inl (tE_ok r ev fun u g' H' r' st mr => ?_)))
        exact ⟨_, mr.R.str_of, p _ g' H' r' st itok_str⟩
      · cases e1
    | none =>
      rw [e1] at ei
      unfold refL at ei
      cases v with
      | ref n =>
        simp only at ei
        cases e2 : S'[n]? with
        | none => rw [e2] at ei; cases ei
        | some o =>
          rw [e2] at ei
          cases o with
          | cell w =>
            cases w with
            | lst ys =>
              cases ei
              refine .inl (tE_ok r ev fun u g' H' r' st mr => ?_)
              have hr : VRep J.k (fzP g' H') g'.ι (.ref n) u := mr
              simp only [VRep] at hr
              obtain ⟨a, ha, rfl⟩ := hr
              obtain ⟨t2, us, h2, hs⟩ := cell_at r'.str e2 ha
              exact ⟨a, rfl, ⟨us, .inl (.inl h2)⟩, p _ g' H' r' st (itok_cell ha)⟩
            | _ => cases ei
          | lk w =>
            cases w with
            | dK kvs =>
              cases ei
              refine .inr (.inr (.inr (tE_ok r ev fun u g' H' r' st mr => ?_)))
              have hr : VRep J.k (fzP g' H') g'.ι (.ref n) u := mr
              simp only [VRep] at hr
              obtain ⟨a, ha, rfl⟩ := hr
              obtain ⟨ta, h | h⟩ := lk_at r'.str e2 ha
              · obtain ⟨_, ob, us, e3, h3, hs⟩ := h
                cases e3
                exact ⟨a, ob, rfl, .inl ⟨us, h3, p _ g' H' r' st (itok_dK ta h3 hs)⟩⟩
              · obtain ⟨_, ob, us, e3, h3, hs⟩ := h
                cases e3
            | dT kvs =>
              cases ei
              refine .inr (.inr (.inr (tE_ok r ev fun u g' H' r' st mr => ?_)))
              have hr : VRep J.k (fzP g' H') g'.ι (.ref n) u := mr
              simp only [VRep] at hr
              obtain ⟨a, ha, rfl⟩ := hr
              obtain ⟨ta, h | h⟩ := lk_at r'.str e2 ha
              · obtain ⟨_, ob, us, e3, h3, hs⟩ := h
                cases e3
              · obtain ⟨_, ob, us, e3, h3, hs⟩ := h
                cases e3
                exact ⟨a, ob, rfl, .inr ⟨us, h3, p _ g' H' r' st (itok_dT ta h3 hs)⟩⟩
            | _ => cases ei
          | _ => cases ei
      | _ => cases ei
  | exn c S' =>
    rw [ev] at p
    exact .inl (tE_exn r ev p)
  | stuck => rw [ev] at p; exact p.elim
theorem tA_bindI {g : Gh} {H : Hp} {σ : L2.St} {ρ : Env} {S : Store} {es : List E} {ms : List Md} {Q1 : List V → Hp → Prop} (r : Rel J.k J.md g σ H ρ S)
    (hx : ∀ c S', evs J.x es ρ S = .exn c S' → J.exnP g H σ ρ c S') (hs : evs J.x es ρ S ≠ .stuck)
    (hn : ∀ vs S' us g' H', evs J.x es ρ S = .ok vs S' → Rel J.k J.md g' σ H' ρ S' → Step (pureEs es) g H g' H' → MReps J.k g' H' ms vs us → Q1 us H') : J.tA ms es σ H Q1 := by
  refine ⟨g, ρ, S, r, ?_⟩
  cases ev : evs J.x es ρ S with
  | ok v S1 => exact fun u g2 H2 r2 s mr => hn v S1 u g2 H2 ev r2 s mr
  | exn c S1 => exact hx c S1 ev
  | stuck => exact absurd ev hs
theorem MReps.one {k : Kx} {g : Gh} {H : Hp} {ms : List Md} {v : Val} {us : List V} (h : MReps k g H ms [v] us) : ∃ u, us = [u] ∧ MRep k g H (ms.headD .V) v u := by
  obtain ⟨u, r, rfl, h1, h2⟩ := h
  have h2 : r = [] := h2
  subst h2
  exact ⟨u, rfl, h1⟩
theorem MReps.two {k : Kx} {g : Gh} {H : Hp} {ms : List Md} {v w : Val} {us : List V} (h : MReps k g H ms [v, w] us) : ∃ u u', us = [u, u'] ∧ MRep k g H (ms.headD .V) v u ∧ MRep k g H (ms.tail.headD .V) w u' := by
  obtain ⟨u, r, rfl, h1, h2⟩ := h
  obtain ⟨u', rfl, h3⟩ := MReps.one h2
  exact ⟨u, u', rfl, h1, h3⟩
theorem MReps.three {k : Kx} {g : Gh} {H : Hp} {ms : List Md} {v w x : Val} {us : List V} (h : MReps k g H ms [v, w, x] us) : ∃ u u' u2, us = [u, u', u2] ∧ MRep k g H (ms.headD .V) v u ∧ MRep k g H (ms.tail.headD .V) w u' ∧ MRep k g H (ms.tail.tail.headD .V) x u2 := by
  obtain ⟨u, r, rfl, h1, h2⟩ := h
  obtain ⟨u', u2, rfl, h3, h4⟩ := MReps.two h2
  exact ⟨u, u', u2, rfl, h1, h3, h4⟩
theorem evE_rng (x : Cfg) (es : List E) (ρ : Env) (S : Store) : evE x (.rng es) ρ S = (evs x es ρ S).bind fun vs S1 => match rngV vs with
    | some xs => .ok (.lst xs) S1
    | none => .stuck := by simp only [evE] <;> rfl
theorem evs_len {x : Cfg} : ∀ {es : List E} {ρ : Env} {S S' : Store} {vs : List Val}, evs x es ρ S = .ok vs S' → vs.length = es.length
  | [], ρ, S, S', vs, h => by
    simp only [evs] at h
    cases h
    rfl
  | e :: es, ρ, S, S', vs, h => by
    simp only [evs] at h
    cases e1 : evE x e ρ S with
    | ok v S1 =>
      rw [e1] at h
      simp only [Pv.R.bind] at h
      cases e2 : evs x es ρ S1 with
      | ok ws S2 =>
        rw [e2] at h
        cases h
        rw [List.length_cons, List.length_cons, evs_len e2]
      | exn c S2 => rw [e2] at h; cases h
      | stuck => rw [e2] at h; cases h
    | exn c S1 => rw [e1] at h; cases h
    | stuck => rw [e1] at h; cases h
/-- what a range's reading says of its arguments -/
theorem rng_imp {es : List E} {σ : L2.St} {H : Hp} {RR : L2.It → Hp → Prop} {Q1 : List V → Hp → Prop} (h : J.tI (.rng es) σ H RR)
    (hn : ∀ vs us g' H', vs.length = es.length → MReps J.k g' H' [] vs us → (∃ xs, rngV vs = some xs ∧ ∀ It, ItOk J.k It xs anyP g' H' → RR It H') → Q1 us H') : J.tA [] es σ H Q1 := by
  obtain ⟨g, ρ, S, r, p⟩ := h
  rw [evE_rng] at p
  refine tA_bindI r (fun c S' ev => ?_) (fun ev => ?_) fun vs S' us g' H' ev r' st mr => ?_
  · rw [ev] at p
    exact p
  · rw [ev] at p
    exact p
  · rw [ev] at p
    simp only [R.bind] at p
    refine hn vs us g' H' (evs_len ev) mr ?_
    cases er : rngV vs with
    | none => rw [er] at p; exact p.elim
    | some xs =>
      rw [er] at p
      obtain ⟨ys, P, ey, p⟩ := p
      cases ey
      exact ⟨_, rfl, fun It ok => p It g' H' r' (by simp only [pureE]; exact st) ok⟩
theorem i_rng1 {tg a : Expr} {ia : E} {p : Pos} (hg : Gl X "range") (hm : X.mg "range" = none) (ha : PA X [a] (J.tA [] [ia])) (hs : starEach [a] X.env = [(false, eval a X.env)]) : PI X tg (.Call (.Name "range" p) [a] [] pos) (J.tI (.rng [ia])) := by
  refine PI.imp (pi_range1 hg hm ha hs) fun σ H R h => ?_
  refine rng_imp h fun vs us g' H' hl mr hx => ?_
  obtain ⟨xs, er, ok⟩ := hx
  unfold rngV at er
  split at er
  · rename_i n
    split at er
    · rename_i hn
      cases er
      obtain ⟨u, rfl, h1⟩ := mr.one
      have e := h1.R.int_of
      subst e
      exact ⟨n, rfl, by omega, by omega, ok _ itok_range⟩
    · cases er
  · cases hl
  · cases hl
  · cases hl
  · cases er
theorem i_rng2 {tg a b : Expr} {ia ib : E} {p : Pos} (hg : Gl X "range") (hm : X.mg "range" = none) (ha : PA X [a, b] (J.tA [] [ia, ib])) (hs : starEach [a, b] X.env = [(false, eval a X.env), (false, eval b X.env)]) (hs2 : starEach [b] X.env = [(false, eval b X.env)]) :
    PI X tg (.Call (.Name "range" p) [a, b] [] pos) (J.tI (.rng [ia, ib])) := by
  refine PI.imp (pi_range2 hg hm ha hs hs2) fun σ H R h => ?_
  refine rng_imp h fun vs us g' H' hl mr hx => ?_
  obtain ⟨xs, er, ok⟩ := hx
  unfold rngV at er
  split at er
  · cases hl
  · rename_i i j
    split at er
    · rename_i hn
      cases er
      obtain ⟨u, u', rfl, h1, h2⟩ := mr.two
      have e := h1.R.int_of
      have e' := h2.R.int_of
      subst e e'
      exact ⟨i, j, rfl, ⟨by omega, by omega, by omega, by omega⟩, ok _ itok_range⟩
    · cases er
  · cases hl
  · cases hl
  · cases er
theorem rgc_pos {i j c : Int} (hi : i.natAbs < 2 ^ 61) (hj : j.natAbs < 2 ^ 61) (h0 : 0 < c) (h1 : c < 1000) : RgC i j c (rsz i j c) := by
  have hs : Builtin.Range.rangeSize i j c = (rsz i j c : Int) := by
    unfold Builtin.Range.rangeSize rsz
    rw [if_pos h0]
    split
    · have := Int.ediv_nonneg (a := j - i - 1) (b := c) (by omega) (by omega)
      omega
    · rfl
  have hb : rsz i j c ≤ (j - i).toNat := by
    unfold rsz
    split
    · have h2 := Int.ediv_le_self c (show (0 : Int) ≤ j - i - 1 by omega)
      omega
    · omega
  refine ⟨by omega, by omega, ?_, hs⟩
  unfold Builtin.Range.small
  rw [hs]
  simp only [Builtin.Range.rangeFitsLong, Bool.and_eq_true, Bool.or_eq_true, decide_eq_true_eq, beq_iff_eq, if_pos h0]
  omega
theorem i_rng3 {tg a b c : Expr} {ia ib ic : E} {p : Pos} (hg : Gl X "range") (hm : X.mg "range" = none) (ha : PA X [a, b, c] (J.tA [] [ia, ib, ic])) (hs : starEach [a, b, c] X.env = (false, eval a X.env) :: starEach [b, c] X.env)
    (hpl : (backTo pos (starEach [b, c] X.env)).any (·.1) = false) : PI X tg (.Call (.Name "range" p) [a, b, c] [] pos) (J.tI (.rng [ia, ib, ic])) := by
  refine PI.imp (pi_range3 hg hm ha hs hpl) fun σ H R h => ?_
  refine rng_imp h fun vs us g' H' hl mr hx => ?_
  obtain ⟨xs, er, ok⟩ := hx
  unfold rngV at er
  split at er
  · cases hl
  · cases hl
  · rename_i i j c
    obtain ⟨u, u', u2, rfl, h1, h2, h3⟩ := mr.three
    have e := h1.R.int_of
    have e' := h2.R.int_of
    have e2 := h3.R.int_of
    subst e e' e2
    split at er
    · rename_i hn
      cases er
      exact ⟨i, j, c, _, rfl, rgc_pos hn.1 hn.2.1 hn.2.2.1 hn.2.2.2, ok _ itok_rangeC⟩
    · split at er
      · rename_i hn
        cases er
        obtain ⟨h1, h2, rfl⟩ := hn
        exact ⟨i, j, -1, _, rfl, RgC.neg (by omega) (by omega) (by omega) (by omega), ok _ itok_rangeC⟩
      · cases er
  · cases hl
  · cases er
theorem i_rev {tg e : Expr} {ie : E} {p : Pos} (hg : Gl X "reversed") (hm : X.mg "reversed" = none) (he : PE X e (J.tE .L ie)) (hs : starEach [e] X.env = (false, eval e X.env) :: starEach [] X.env) : PI X tg (.Call (.Name "reversed" p) [e] [] pos) (J.tI (.rev ie)) := by
  refine PI.imp (RT.pi_revA hg hm he hs) fun σ H RR h => ?_
  obtain ⟨g, ρ, S, r, p⟩ := h
  simp only [evE] at p
  cases ev : evE J.x ie ρ S with
  | ok v S' =>
    rw [ev] at p
    simp only [_root_.Pv.R.bind] at p
    refine tE_ok r ev fun u g' H' r' st mr => ?_
    cases v with
    | lst xs =>
      obtain ⟨ys, P, ey, p⟩ := p
      cases ey
      obtain ⟨a, us, rfl, ⟨hl, ha⟩, hs⟩ := (show ∃ a us, u = .ref a ∧ LP g' H' a (.lst us) ∧ _ from mr)
      exact ⟨a, us, rfl, .inl ⟨.inl (.inl ha), p _ g' H' r' (by simp only [pureE]; exact st) (itok_rev hl ha hs)⟩⟩
    | _ => exact p.elim
  | exn c S' =>
    rw [ev] at p
    exact tE_exn r ev p
  | stuck => rw [ev] at p; exact p.elim
theorem i_zip {elts : List Expr} {kk : Nat} {tpos : Pos} {a b : Expr} {ia ib : E} {p : Pos} (hg : Gl X "zip") (hm : X.mg "zip" = none) (ha : PA X [a, b] (J.tA [.L, .L] [ia, ib])) (hs : starEach [a, b] X.env = (false, eval a X.env) :: starEach [b] X.env)
    (hpl : (backTo pos (starEach [b] X.env)).any (·.1) = false) : PI X (.Tuple elts kk tpos) (.Call (.Name "zip" p) [a, b] [] pos) (J.tI (.zip ia ib)) := by
  refine PI.imp (RZ.pi_zipA hg hm ha hs hpl) fun σ H RR h => ?_
  obtain ⟨g, ρ, S, r, p⟩ := h
  have ev0 : evE J.x (.zip ia ib) ρ S = (evs J.x [ia, ib] ρ S).bind fun vs S' => match vs with
    | [.lst xs, .lst ys] => .ok (.lst ((xs.zip ys).map fun p => .tup [p.1, p.2])) S'
    | _ => .stuck := by
    simp only [evE, evs]
    cases evE J.x ia ρ S with
    | ok v S1 =>
      simp only [_root_.Pv.R.bind]
      cases evE J.x ib ρ S1 with
      | ok w S2 => cases v <;> cases w <;> rfl
      | exn c S2 => rfl
      | stuck => rfl
    | exn c S1 => rfl
    | stuck => rfl
  rw [ev0] at p
  refine tA_bindI r (fun c S' ev => ?_) (fun ev => ?_) fun vs S' us g' H' ev r' st mr => ?_
  · rw [ev] at p
    exact p
  · rw [ev] at p
    exact p
  · rw [ev] at p
    simp only [_root_.Pv.R.bind] at p
    split at p
    · obtain ⟨zs, P, ez, p⟩ := p
      rename_i e0
      split at e0
      · cases e0
        cases ez
        obtain ⟨u, u', rfl, h1, h2⟩ := mr.two
        obtain ⟨a, us, rfl, ⟨hl, ha⟩, hs⟩ := (show ∃ a us, u = .ref a ∧ LP g' H' a (.lst us) ∧ _ from h1)
        obtain ⟨b, ws, rfl, ⟨hl2, hb⟩, ht⟩ := (show ∃ a us, u' = .ref a ∧ LP g' H' a (.lst us) ∧ _ from h2)
        exact ⟨a, b, us, ws, rfl, .inl ⟨.inl (.inl ha), .inl (.inl hb), p _ g' H' r' (by simpa only [pureE, pureEs, Bool.and_true] using st) (itok_zip hl ha hs hl2 hb ht)⟩⟩
      · cases e0
    · rename_i e0
      split at e0
      · cases e0
      · cases e0
    · exact p.elim
end
end Pv
end

section
set_option Elab.async false
set_option linter.all false
set_option maxRecDepth 100000
set_option autoImplicit false
/-! Pv10l: ranges of great numbers. -/
namespace L2
open PySem PySem.Spec PyProof.Rows
theorem turn_long {P : Program} {w : World} {K : PySem.W.Frag} {tg : Expr} (it : Addr) (lo : Int) (n : Nat) : Turn P w K tg (Itr lo n) [it] it (fun i h => IsLongIter h it (lo + (i : Nat) * 1) ((n : Int) - (i : Nat)) 1) where
  mem := by simp
  obj := fun i h st b hb => by
    have e : b = it := by simpa using hb
    subst e
    exact ⟨_, st, fun v z => by
      have z' : Data.fields _ = Data.cell v := z
      cases z'⟩
  keep := fun i h h' st k => k it (by simp) _ st
  item := by
    intro X hP hw hK hc i pins s σ H E I hf st hg
    subst hP hw hK
    obtain ⟨f0, f1, f2, f3, f4, f5⟩ := hf it (by simp)
    have W := Walks.longrange (prog := X.prog) (w := X.w) (I.ok.hd hc) it lo 1 n
    refine W.item i s _ _ hg st fun v h' tk hv st' kk => ?_
    obtain ⟨t, rfl⟩ := hv
    have I1 : Inv X pins σ H { s with heap := h', toks := tk } := I.turned (fun b o hb e => kk b o (by simpa using hb) e) f0 f1 f3 f4 f5
    refine ⟨_, rfl, go_of (s := { s with heap := h', toks := tk }) (n := "longrange_iterator") st' rfl rfl (by decide) ⟨.int (lo + i), H, I1, ⟨t, ?_⟩, ⟨rfl, rfl⟩, st', fun b hb => (hf b hb).1⟩⟩
    rw [Int.mul_one]
  done := by
    intro X hP hw hK hc i pins s σ H E I hf st hg
    subst hP hw hK
    obtain ⟨f0, f1, f2, f3, f4, f5⟩ := hf it (by simp)
    exact wpAny_pyNext_long_end (I.ok.hd hc) st (by have : n ≤ i := hg; omega) fun h' eb => ⟨rfl, I.turned (t' := s.toks) (fun b o hb e => eb b o hb e) f0 f1 f3 f4 f5⟩
  self := fun _ _ _ _ _ st h => wpAny_pyIter_longiter st h
section
variable {X : Cx} {tg : Expr}
theorem range_itL {pins : List (Addr × Obj)} {σ : St} {H : Hp} {s : Shared} {R : It → Hp → Prop} {E : Value → Shared → Prop} {lo hi : Int} {t u v : Tok} {tk : Nat} (I : Inv X pins σ H s)
    (q : R (Itr lo (hi - lo).toNat) H) : wpAny (model X.prog X.w) X.A (pyIter (.ref s.heap.objs.size)) (PIE X pins σ tg R) E { s with heap := s.heap.push { cls := .type "range", data := .fields #[.int lo t, .int hi u, .int 1 v] }, toks := tk } := by
  have I1 : Inv X pins σ H { s with heap := s.heap.push { cls := .type "range", data := .fields #[.int lo t, .int hi u, .int 1 v] }, toks := tk } := I.kept fun b o e => Heap.get?_push_of_some _ e
  have e1 : lo + ((0 : Nat) : Int) * 1 = lo := by simp
  have e2 : (((hi - lo).toNat : Nat) : Int) - ((0 : Nat) : Int) = Builtin.Range.rangeSize lo hi 1 := by rw [rangeSize_one]; split <;> omega
  cases hb : Builtin.Range.small lo hi 1 with
  | true =>
    refine wpAny_pyIter_range (IsRange.new ..) hb ?_
    refine ⟨(s.heap.push { cls := .type "range", data := .fields #[.int lo t, .int hi u, .int 1 v] }).objs.size, [(s.heap.push { cls := .type "range", data := .fields #[.int lo t, .int hi u, .int 1 v] }).objs.size], _, _, H, rfl,
      I1.kept (t' := tk) fun b o e => Heap.get?_push_of_some _ e, turn_range _ lo (hi - lo).toNat, ?_, fun b hb => ?_, q⟩
    · show IsRangeIter _ _ (lo + ((0 : Nat) : Int) * 1) ((((hi - lo).toNat : Nat) : Int) - ((0 : Nat) : Int)) 1
      rw [e1, e2]
      exact Heap.get?_push_size _ rfl
    · have e : b = (s.heap.push { cls := .type "range", data := .fields #[.int lo t, .int hi u, .int 1 v] }).objs.size := by simpa using hb
      subst e
      exact I1.fpOk (Nat.le_refl _) (I1.hok.fresh (Nat.le_refl _))
  | false =>
    refine wpAny_pyIter_longrange (IsRange.new ..) hb ?_
    refine ⟨(s.heap.push { cls := .type "range", data := .fields #[.int lo t, .int hi u, .int 1 v] }).objs.size, [(s.heap.push { cls := .type "range", data := .fields #[.int lo t, .int hi u, .int 1 v] }).objs.size], _, _, H, rfl,
      I1.kept (t' := tk) fun b o e => Heap.get?_push_of_some _ e, turn_long _ lo (hi - lo).toNat, ?_, fun b hb => ?_, q⟩
    · show IsLongIter _ _ (lo + ((0 : Nat) : Int) * 1) ((((hi - lo).toNat : Nat) : Int) - ((0 : Nat) : Int)) 1
      rw [e1, e2]
      exact Heap.get?_push_size _ rfl
    · have e : b = (s.heap.push { cls := .type "range", data := .fields #[.int lo t, .int hi u, .int 1 v] }).objs.size := by simpa using hb
      subst e
      exact I1.fpOk (Nat.le_refl _) (I1.hok.fresh (Nat.le_refl _))
def iRng2L (ta : TA) : TI := fun σ H R => ta σ H fun vs H1 => ∃ i j : Int, vs = [.int i, .int j] ∧ R (Itr i (j - i).toNat) H1
theorem pi_range2L {a b : Expr} {ta : TA} {p pos : Pos} (hg : Gl X "range") (hm : X.mg "range" = none) (ha : PA X [a, b] ta) (hs : starEach [a, b] X.env = [(false, eval a X.env), (false, eval b X.env)] := by rfl) (hs2 : starEach [b] X.env = [(false, eval b X.env)] := by rfl) :
    PI X tg (.Call (.Name "range" p) [a, b] [] pos) (iRng2L ta) := by
  refine ⟨fun pins s σ H R I h => ?_⟩
  refine Call_ (ld_blt I hg hm boot_range (PyProof.Rows.callWith_type1 (thn (ha.run pos pins s σ H _ I h) fun us s1 ⟨vs, H1, I1, r1, q1⟩ => ?_) (by rw [hs, hs2]) (by rw [hs2]; rfl)))
  obtain ⟨i, j, e, q⟩ := q1
  subst e
  cases r1 with
  | cons r rr =>
    cases rr with
    | cons r' rr =>
      cases rr
      obtain ⟨t, rfl⟩ := r
      obtain ⟨t', rfl⟩ := r'
      exact call_range_2 (range_itL I1 q)
end
end L2
namespace Pv
open PySem PySem.Spec PyProof.Rows L2
section
variable {X : Cx} {J : Jx} {m : Md} {pos : Pos}
theorem evs_app1 {x : Cfg} : ∀ {es : List E} {ρ : Env} {S : Store}, evs x (es ++ [.k .non, .k .non]) ρ S = (evs x es ρ S).bind fun vs S1 => .ok (vs ++ [.non, .non]) S1
  | [], ρ, S => by simp only [List.nil_append, evs, evE] <;> rfl
  | e :: es, ρ, S => by
    simp only [List.cons_append, evs]
    cases evE x e ρ S with
    | ok v S1 =>
      simp only [_root_.Pv.R.bind]
      rw [evs_app1]
      cases evs x es ρ S1 with
      | ok ws S2 => rfl
      | exn c S2 => rfl
      | stuck => rfl
    | exn c S1 => rfl
    | stuck => rfl
theorem rng_impL {ia ib : E} {σ : L2.St} {H : Hp} {RR : L2.It → Hp → Prop} {Q1 : List V → Hp → Prop} (h : J.tI (.rng [ia, ib, .k .non, .k .non]) σ H RR)
    (hn : ∀ vs us g' H', vs.length = 2 → MReps J.k g' H' [] vs us → (∃ xs, rngV (vs ++ [.non, .non]) = some xs ∧ ∀ It, ItOk J.k It xs anyP g' H' → RR It H') → Q1 us H') : J.tA [] [ia, ib] σ H Q1 := by
  obtain ⟨g, ρ, S, r, p⟩ := h
  rw [evE_rng, show [ia, ib, E.k .non, E.k .non] = [ia, ib] ++ [.k .non, .k .non] from rfl, evs_app1] at p
  refine tA_bindI r (fun c S' ev => ?_) (fun ev => ?_) fun vs S' us g' H' ev r' st mr => ?_
  · rw [ev] at p
    exact p
  · rw [ev] at p
    exact p
  · rw [ev] at p
    simp only [R.bind] at p
    refine hn vs us g' H' (evs_len ev) mr ?_
    cases er : rngV (vs ++ [.non, .non]) with
    | none => rw [er] at p; exact p.elim
    | some xs =>
      rw [er] at p
      obtain ⟨ys, P, ey, p⟩ := p
      cases ey
      exact ⟨_, rfl, fun It ok => p It g' H' r' (by simpa only [pureE, pureEs, Bool.and_true, List.cons_append, List.nil_append] using st) ok⟩
theorem i_rng2L {tg a b : Expr} {ia ib : E} {p : Pos} (hg : Gl X "range") (hm : X.mg "range" = none) (ha : PA X [a, b] (J.tA [] [ia, ib])) (hs : starEach [a, b] X.env = [(false, eval a X.env), (false, eval b X.env)]) (hs2 : starEach [b] X.env = [(false, eval b X.env)]) :
    PI X tg (.Call (.Name "range" p) [a, b] [] pos) (J.tI (.rng [ia, ib, .k .non, .k .non])) := by
  refine PI.imp (pi_range2L hg hm ha hs hs2) fun σ H R h => ?_
  refine rng_impL h fun vs us g' H' hl mr hx => ?_
  obtain ⟨xs, er, ok⟩ := hx
  match vs, hl, mr, er with
  | [v, w], _, mr, er =>
    obtain ⟨u, u', rfl, h1, h2⟩ := mr.two
    cases v <;> cases w <;> simp only [List.cons_append, List.nil_append, rngV] at er <;> try cases er
    rename_i i j hl0
    split at er
    · cases er
      have e := h1.R.int_of
      have e' := h2.R.int_of
      subst e e'
      exact ⟨i, j, rfl, ok _ itok_range⟩
    · cases er
end
end Pv
end

section
set_option Elab.async false
set_option linter.all false
set_option maxRecDepth 100000
set_option autoImplicit false
/-! Pv11: targets, comprehensions. -/
namespace Pv
open PySem PySem.Spec PyProof.Rows L2

/-! ### a slot is set -/
theorem set_at {α : Type} (l : List α) (i j : Nat) (x : α) : (l.set i x)[j]? = if i = j ∧ i < l.length then some x else l[j]? := by
  by_cases h : i = j
  · subst h
    by_cases hl : i < l.length
    · rw [List.getElem?_set_self hl, if_pos ⟨rfl, hl⟩]
    · rw [if_neg (fun z => hl z.2), List.getElem?_eq_none (by rw [List.length_set]; omega), List.getElem?_eq_none (by omega)]
  · rw [List.getElem?_set_ne h, if_neg (fun z => h z.1)]
section
variable {k : Kx} {md : Sl} {g : Gh} {H : Hp} {σ : L2.St} {ρ : Env} {S : Store}
/-- the suite's exception's slot is another -/
def hxOk (md : Sl) (i : Nat) : Prop := ∀ j a c, md.hx = some (j, a, c) → j ≠ i
theorem rel_set {i : Nat} {v : Val} {u : V} (r : Rel k md g σ H ρ S) (hx : hxOk md i) (h : SRep k g H i (md.l.getD i .shr) v u) : Rel k md g (σ.set i (some u)) H (ρ.set i (some v)) S := by
  refine ⟨by rw [List.length_set]; exact r.len, by rw [List.length_set]; exact r.lenσ, fun j w e => ?_, fun j a c e => ?_, r.str⟩
  · rw [set_at] at e
    rw [set_at]
    split at e
    · rename_i hj
      cases e
      obtain ⟨rfl, hl⟩ := hj
      refine ⟨u, ?_, h⟩
      rw [if_pos ⟨rfl, by rw [r.lenσ, ← r.len]; exact hl⟩]
    · rename_i hj
      rw [if_neg (fun z => hj ⟨z.1, by rw [r.len, ← r.lenσ]; exact z.2⟩)]
      exact r.slot j w e
  · have n := hx j a c e
    rw [set_at, set_at, if_neg (fun z => n z.1.symm), if_neg (fun z => n z.1.symm)]
    exact r.hx j a c e
/-- a slot is forgotten -/
theorem rel_drop {i : Nat} (r : Rel k md g σ H ρ S) (hx : hxOk md i) : Rel k md g σ H (ρ.set i none) S := by
  refine ⟨by rw [List.length_set]; exact r.len, r.lenσ, fun j w e => ?_, fun j a c e => ?_, r.str⟩
  · rw [set_at] at e
    split at e
    · cases e
    · exact r.slot j w e
  · have n := hx j a c e
    rw [set_at, if_neg (fun z => n z.1.symm)]
    exact r.hx j a c e
theorem rel_dropσ {i : Nat} (r : Rel k md g σ H ρ S) (hx : hxOk md i) : Rel k md g (σ.set i none) H (ρ.set i none) S := by
  refine ⟨by rw [List.length_set]; exact r.len, by rw [List.length_set]; exact r.lenσ, fun j w e => ?_, fun j a c e => ?_, r.str⟩
  · rw [set_at] at e
    split at e
    · cases e
    · rename_i hj
      rw [set_at, if_neg (fun z => hj ⟨z.1, by rw [r.len, ← r.lenσ]; exact z.2⟩)]
      exact r.slot j w e
  · have n := hx j a c e
    rw [set_at, set_at, if_neg (fun z => n z.1.symm), if_neg (fun z => n z.1.symm)]
    exact r.hx j a c e
end
def tgIs : Tg → List Nat
  | .one i => [i]
  | .many is => is
/-- slots that targets may have -/
def tgOk (md : Sl) (is : List Nat) : Prop := ∀ i ∈ is, md.l.getD i .shr = .shr ∧ hxOk md i
def Jx.tG (J : Jx) (tg : Tg) : TG := fun u σ H Q => ∃ g ρ S v ρ1, Rel J.k J.md g σ H ρ S ∧ MRep J.k g H .V v u ∧ bindT tg v ρ = some ρ1 ∧
  ∀ σ1, Rel J.k J.md g σ1 H ρ1 S → (∀ j, j ∉ tgIs tg → σ1[j]? = σ[j]?) → Q σ1 H
theorem PG.imp {X : Cx} {tg : Expr} {t t' : TG} (h : PG X tg t) (w : ∀ u σ H Q, t' u σ H Q → t u σ H Q) : PG X tg t' := ⟨fun pins s σ H v u Q I r q => h.run pins s σ H v u Q I r (w v σ H Q q)⟩
section
variable {X : Cx} {J : Jx} {m : Md} {pos : Pos}
theorem g_one {i : Nat} {x : Str} (hN : X.N.Nodup) (hi : X.N[i]? = some x) (hx : Loc X.env.scope x) (hf : X.fn x = true ∨ X.env.scope.names.lookup x = some .local) (ok : tgOk J.md [i]) : PG X (.Name x pos) (J.tG (.one i)) := by
  refine PG.imp (pg_name hN hi hx hf) fun u σ H Q h => ?_
  obtain ⟨g, ρ, S, v, ρ1, r, mr, eb, q⟩ := h
  cases eb
  obtain ⟨o1, o2⟩ := ok i List.mem_cons_self
  exact q _ (rel_set r o2 (by rw [o1]; exact mr)) fun j hj => by rw [set_at, if_neg (fun z => hj (by rw [z.1]; exact List.mem_cons_self))]
def gs : List Nat → TGs
  | [] => gNil
  | i :: r => gCons (gName i) (gs r)
theorem gs_run : ∀ {is : List Nat} {vs : List Val} {us : List V} {ρ ρ1 : Env} {σ : L2.St} {g : Gh} {H : Hp} {S : Store} {Q : L2.St → Hp → Prop}, tgOk J.md is → Rel J.k J.md g σ H ρ S → VReps J.k (fzP g H) g.ι vs us → bindMany is vs ρ = some ρ1 →
    (∀ σ1, Rel J.k J.md g σ1 H ρ1 S → (∀ j, j ∉ is → σ1[j]? = σ[j]?) → Q σ1 H) → gs is us σ H Q
  | [], [], us, ρ, ρ1, σ, g, H, S, Q, _, r, h, e, q => by
    simp only [VReps] at h
    simp only [bindMany, Option.some.injEq] at e
    subst h e
    exact ⟨rfl, q σ r fun _ _ => rfl⟩
  | [], _ :: _, _, _, _, _, _, _, _, _, _, _, _, e, _ => by simp [bindMany] at e
  | _ :: _, [], _, _, _, _, _, _, _, _, _, _, _, e, _ => by simp [bindMany] at e
  | i :: is, v :: vs, us, ρ, ρ1, σ, g, H, S, Q, ok, r, h, e, q => by
    simp only [VReps] at h
    obtain ⟨u, ur, rfl, h1, h2⟩ := h
    simp only [bindMany] at e
    obtain ⟨o1, o2⟩ := ok i List.mem_cons_self
    refine ⟨u, ur, rfl, ?_⟩
    have r1 := rel_set r o2 (u := u) (v := v) (by rw [o1]; exact h1)
    refine gs_run (fun j hj => ok j (List.mem_cons_of_mem _ hj)) r1 h2 e fun σ1 r2 hk => q σ1 r2 fun j hj => ?_
    rw [hk j (fun z => hj (List.mem_cons_of_mem _ z)), set_at, if_neg (fun z => hj (by rw [z.1]; exact List.mem_cons_self))]
theorem bindMany_len : ∀ {is : List Nat} {vs : List Val} {ρ ρ1 : Env}, bindMany is vs ρ = some ρ1 → vs.length = is.length
  | [], [], _, _, _ => rfl
  | [], _ :: _, _, _, e => by simp [bindMany] at e
  | _ :: _, [], _, _, e => by simp [bindMany] at e
  | i :: is, v :: vs, ρ, ρ1, e => by
    simp only [bindMany] at e
    rw [List.length_cons, List.length_cons, bindMany_len e]
/-- a row of names -/
inductive NamesAt (X : Cx) : List Expr → List Nat → Prop where
  | nil : NamesAt X [] []
  | cons {x : Str} {p : Pos} {i : Nat} {es : List Expr} {is : List Nat} (hi : X.N[i]? = some x) (hx : Loc X.env.scope x) (hf : X.fn x = true ∨ X.env.scope.names.lookup x = some .local) (r : NamesAt X es is) : NamesAt X (.Name x p :: es) (i :: is)
theorem NamesAt.each {X : Cx} {es : List Expr} {is : List Nat} (h : NamesAt X es is) : (assignEach es X.env).length = is.length ∧ (assignEach es X.env).findIdx? (·.1) = none := by
  induction h with
  | nil => exact ⟨rfl, rfl⟩
  | cons hi hx hf r ih =>
    refine ⟨?_, ?_⟩
    · show ((false, _) :: assignEach _ _).length = _
      rw [List.length_cons, List.length_cons, ih.1]
    · show List.findIdx? _ ((false, _) :: assignEach _ _) = none
      rw [List.findIdx?_cons]
      simp [ih.2]
theorem NamesAt.pgs {X : Cx} (hN : X.N.Nodup) {es : List Expr} {is : List Nat} (h : NamesAt X es is) : PGs X es (gs is) := by
  induction h with
  | nil => exact pgs_nil
  | cons hi hx hf r ih => exact pgs_cons (pg_name hN hi hx hf) ih
theorem PG.or {tg : Expr} {t1 t2 : TG} (h1 : PG X tg t1) (h2 : PG X tg t2) : PG X tg (fun v σ H Q => t1 v σ H Q ∨ t2 v σ H Q) :=
  ⟨fun pins s σ H v u Q I r h => h.elim (h1.run pins s σ H v u Q I r) (h2.run pins s σ H v u Q I r)⟩
theorem g_many {is : List Nat} {es : List Expr} {kk : Nat} (hc : X.calm = true) (hN : X.N.Nodup) (hn : NamesAt X es is) (ok : tgOk J.md is) : PG X (.Tuple es kk pos) (J.tG (.many is)) := by
  refine PG.imp (PG.or (pg_tup (n := is.length) hc (hn.pgs hN) hn.each.1 hn.each.2) (pg_unl (n := is.length) hc (hn.pgs hN) hn.each.1 hn.each.2)) fun u σ H Q h => ?_
  obtain ⟨g, ρ, S, v, ρ1, r, mr, eb, q⟩ := h
  unfold bindT at eb
  split at eb
  · cases eb
    rename_i h0
    cases h0
  · rename_i is' vs ρ' h0
    cases h0
    obtain ⟨a, us, rfl, ha, ta, hs⟩ := mr.R.tup_of
    exact .inl ⟨a, us, rfl, SqT.of ha, by rw [hs.len]; exact bindMany_len eb, gs_run ok r hs eb q⟩
  · rename_i is' vs ρ' h0
    cases h0
    obtain ⟨a, us, rfl, ha, hs⟩ := mr.R.lst_of
    exact .inr ⟨a, us, rfl, .inl (.inl ha), by rw [hs.len]; exact bindMany_len eb, gs_run ok r hs eb q⟩
  · cases eb
end
end Pv
end

section
set_option Elab.async false
set_option linter.all false
set_option maxRecDepth 100000
set_option autoImplicit false
/-! Pv12: changes beside what is held; comprehensions. -/
namespace Pv
open PySem PySem.Spec PyProof.Rows L2

section
variable {k : Kx} {md : Sl} {g g' : Gh} {H H' : Hp} {σ : L2.St} {ρ : Env} {S S' : Store}
/-- what is held by frozen things, by callers and by the store stays -/
structure Keep (g : Gh) (H : Hp) (g' : Gh) (H' : Hp) : Prop where
  at' : ∀ a, g.T a = .fz ∨ g.T a = .br ∨ (∃ n, g.T a = .st n) ∨ (∃ n f, g.T a = .fo n f) → g'.T a = g.T a ∧ H' a = H a
  ι : ∀ n a, g.ι n = some a → g'.ι n = some a
theorem Keep.fz (h : Keep g H g' H') : ∀ b o, fzP g H b = some o → fzP g' H' b = some o := fun b o e => by
  obtain ⟨t, e⟩ := fzP_some e
  obtain ⟨t', e'⟩ := h.at' b (.inl t)
  exact fzP_of (t'.trans t) (e'.trans e)
theorem Keep.mV (h : Keep g H g' H') {v : Val} {u : V} (m : MRep k g H .V v u) : MRep k g' H' .V v u := VRep.mono h.fz h.ι _ _ m
theorem Keep.vs (h : Keep g H g' H') {v : List Val} {u : List V} (m : VReps k (fzP g H) g.ι v u) : VReps k (fzP g' H') g'.ι v u := VReps.mono h.fz h.ι _ _ m
theorem Keep.mL (h : Keep g H g' H') {v : Val} {u : V} (m : MRep k g H .L v u) : MRep k g' H' .L v u := by
  refine TRep.mono h.fz h.ι (fun b o r => ?_) _ _ m
  obtain ⟨t, r⟩ := r
  have hk : g.T b = .fz ∨ g.T b = .br := by
    cases e : g.T b <;> rw [e] at t <;> first | (exact .inl rfl) | (exact .inr rfl) | cases t
  obtain ⟨t', e'⟩ := h.at' b (hk.imp id .inl)
  exact ⟨by rw [t']; exact t, e'.trans r⟩
theorem Keep.sl (h : Keep g H g' H') {j : Nat} (hj : ∀ a, g.T a = .sl j → g'.T a = g.T a ∧ H' a = H a) {mo : Mode} {v : Val} {u : V} (m : SRep k g H j mo v u) : SRep k g' H' j mo v u := by
  cases mo with
  | shr => exact h.mV m
  | brw => exact h.mL m
  | own =>
    refine TRep.mono h.fz h.ι (fun b o r => ?_) _ _ m
    obtain ⟨t', e'⟩ := hj b r.1
    exact ⟨t'.trans r.1, e'.trans r.2⟩
  | ini =>
    obtain ⟨c, fs, x, dx, us, e1, e2, e3, e4, e5⟩ := m
    obtain ⟨t', e'⟩ := hj x e3
    exact ⟨c, fs, x, dx, us, e1, e2, t'.trans e3, e'.trans e4, VFs.mono h.fz h.ι _ _ e5⟩
theorem Keep.fs (h : Keep g H g' H') {c n : Nat} : ∀ {fs : List (Nat × Val)} {us : List (Str × V)}, FReps k g H c n fs us → FReps k g' H' c n fs us
  | [], _, m => m
  | (f, x) :: xs, _, m => by
    obtain ⟨u, r, e, h1, h2⟩ := m
    refine ⟨u, r, e, ?_, h.fs h2⟩
    split
    · rename_i ho
      rw [if_pos ho] at h1
      refine TRep.mono h.fz h.ι (fun b o r => ?_) _ _ h1
      obtain ⟨t', e'⟩ := h.at' b (.inr (.inr (.inr ⟨n, f, r.1⟩)))
      exact ⟨t'.trans r.1, e'.trans r.2⟩
    · rename_i ho
      rw [if_neg ho] at h1
      exact h.mV h1
theorem Keep.obj (h : Keep g H g' H') {n : Nat} {x : Addr} {o : SO} (t : g.T x = .st n) (m : ORep k g H n x o) : ORep k g' H' n x o := by
  obtain ⟨_, e⟩ := h.at' x (.inr (.inr (.inl ⟨n, t⟩)))
  cases o with
  | inst c fs =>
    obtain ⟨dx, us, h1, h2⟩ := m
    exact ⟨dx, us, e.trans h1, h.fs h2⟩
  | cell v =>
    obtain ⟨hc, m⟩ := m
    refine ⟨hc, TRep.mono h.fz h.ι (fun b ob r => ?_) _ _ m⟩
    obtain ⟨rfl, r⟩ := r
    exact ⟨rfl, e.trans r⟩
  | lk v =>
    obtain ⟨hc, m⟩ := m
    refine ⟨hc, TRep.mono h.fz h.ι (fun b ob r => ?_) _ _ m⟩
    obtain ⟨rfl, oo, r⟩ := r
    exact ⟨rfl, oo, e.trans r⟩
/-- the other facts of a state -/
structure Side (g : Gh) (H : Hp) (S : Store) : Prop where
  no : ∀ n, S.length ≤ n → g.ι n = none
  uniq : ∀ n f a b, g.T a = .fo n f → g.T b = .fo n f → a = b
  wf : ∀ a, g.T a ≠ .no → H a ≠ none
  tup : ∀ a xs, H a = some (.tup xs) → g.T a = .no ∨ g.T a = .fz
theorem SRel.side (r : SRel k g H S) : Side g H S := ⟨r.no, r.uniq, r.wf, r.tup⟩
theorem Keep.str (h : Keep g H g' H') (r : SRel k g H S) (s : Side g' H' S) : SRel k g' H' S :=
  ⟨fun n o e => by
    obtain ⟨x, i, t, m⟩ := r.obj n o e
    exact ⟨x, h.ι _ _ i, (h.at' x (.inr (.inr (.inl ⟨n, t⟩)))).1.trans t, h.obj t m⟩, s.no, s.uniq, s.wf, s.tup⟩
theorem Keep.rel (h : Keep g H g' H') (hs : ∀ j v, ρ[j]? = some (some v) → ∀ a, g.T a = .sl j → g'.T a = g.T a ∧ H' a = H a) (r : Rel k md g σ H ρ S) (s : Side g' H' S) : Rel k md g' σ H' ρ S :=
  ⟨r.len, r.lenσ, fun i v e => by
    obtain ⟨u, e2, m⟩ := r.slot i v e
    exact ⟨u, e2, h.sl (hs i v e) m⟩, r.hx, h.str r.str s⟩
/-- the slots as they were, another store -/
theorem rel_back {q : Bool} (r : Rel k md g σ H ρ S) (st : Step q g H g' H') (s : SRel k g' H' S') : Rel k md g' σ H' ρ S' :=
  ⟨r.len, r.lenσ, fun i v e => by
    obtain ⟨u, e2, m⟩ := r.slot i v e
    exact ⟨u, e2, st.mS m⟩, r.hx, s⟩
/-- a fresh result's own list is written -/
theorem keep_rt {D : Addr} {o : HO} (t : g.T D = .rt) : Keep g H g (upd H D o) := ⟨fun a h => ⟨rfl, upd_ne (fun e => by
  subst e
  rw [t] at h
  rcases h with h | h | ⟨_, h⟩ | ⟨_, _, h⟩ <;> cases h)⟩, fun _ _ h => h⟩
theorem side_upd {D : Addr} {o : HO} (s : Side g H S) (no : ∀ xs, o ≠ .tup xs) : Side g (upd H D o) S := by
  refine ⟨s.no, s.uniq, fun a ha => ?_, fun a xs e => ?_⟩
  · by_cases h : a = D
    · rw [h, upd_same]
      intro z
      cases z
    · rw [upd_ne h]
      exact s.wf a ha
  · by_cases h : a = D
    · rw [h, upd_same] at e
      exact absurd (Option.some.inj e) (no xs)
    · rw [upd_ne h] at e
      exact s.tup a xs e
theorem rel_rt {D : Addr} {o : HO} (t : g.T D = .rt) (r : Rel k md g σ H ρ S) (no : ∀ xs, o ≠ .tup xs) : Rel k md g σ (upd H D o) ρ S :=
  (keep_rt t).rel (fun j v e a ha => ⟨rfl, upd_ne fun z => by subst z; rw [t] at ha; cases ha⟩) r (side_upd r.str.side no)
theorem rel_retag {D : Addr} {o : HO} (t : g.T D = .rt) (hD : H D = some o) (r : Rel k md g σ H ρ S) (m : Md) : Rel k md (g.put D (tagM m)) σ H ρ S := by
  have ne : ∀ a, g.T a ≠ .rt → (g.put D (tagM m)).T a = g.T a := fun a h => put_ne fun e => h (by rw [e]; exact t)
  have hm : ∀ x, x = tagM m → x = .fz ∨ (x = .rt ∨ ∃ n, x = .st n) := fun x e => by rw [e]; exact tagM_or m
  refine Keep.rel ⟨fun a h => ⟨ne a (by rcases h with h | h | ⟨_, h⟩ | ⟨_, _, h⟩ <;> rw [h] <;> intro z <;> cases z), rfl⟩, fun _ _ h => h⟩ (fun j v e a ha => ⟨ne a (by rw [ha]; intro z; cases z), rfl⟩) r ⟨r.str.no, fun n f a b ha hb => ?_, fun a ha => ?_, fun a xs e => ?_⟩
  · have h1 : a ≠ D := fun e => by rw [e, put_same] at ha; rcases tagM_or m with h | h | ⟨_, h⟩ <;> rw [h] at ha <;> cases ha
    have h2 : b ≠ D := fun e => by rw [e, put_same] at hb; rcases tagM_or m with h | h | ⟨_, h⟩ <;> rw [h] at hb <;> cases hb
    rw [put_ne h1] at ha
    rw [put_ne h2] at hb
    exact r.str.uniq n f a b ha hb
  · by_cases h : a = D
    · rw [h, hD]
      intro z
      cases z
    · rw [put_ne h] at ha
      exact r.str.wf a ha
  · by_cases h : a = D
    · subst h
      have := r.str.tup a xs e
      rw [t] at this
      rcases this with h | h <;> cases h
    · rw [put_ne h]
      exact r.str.tup a xs e
theorem step_put {q : Bool} {D : Addr} {t : Tag} (hD : g.T D = .no) (st : Step q g H g' H') : Step q g H (g'.put D t) H' := by
  have ne : ∀ a, g.T a ≠ .no → (g'.put D t).T a = g'.T a := fun a h => put_ne fun e => h (by rw [e]; exact hD)
  refine ⟨fun a h => ?_, fun a n h => ?_, fun a n f h => ?_, st.pure, st.ι, st.lk⟩
  · rw [ne a (by rcases h with h | h | h | ⟨_, h⟩ <;> rw [h] <;> intro z <;> cases z)]
    exact st.keep a h
  · rw [ne a (by rw [h]; intro z; cases z)]
    exact st.st a n h
  · rw [ne a (by rw [h]; intro z; cases z)]
    exact st.fo a n f h
theorem step_upd {q : Bool} {D : Addr} {o : HO} (hD : g.T D = .no) (st : Step q g H g' H') : Step q g H g' (upd H' D o) := by
  have ne : ∀ a, g.T a ≠ .no → a ≠ D := fun a h e => h (by rw [e]; exact hD)
  refine ⟨fun a h => ?_, st.st, st.fo, fun hq a h => ?_, st.ι, fun a n ob o t h => (upd_ne (ne a (by rw [t]; intro z; cases z))).trans (st.lk a n ob o t h)⟩
  · rw [upd_ne (ne a (by rcases h with h | h | h | ⟨_, h⟩ <;> rw [h] <;> intro z <;> cases z))]
    exact st.keep a h
  · rw [upd_ne (ne a (by rcases h with ⟨_, h⟩ | ⟨_, _, h⟩ <;> rw [h] <;> intro z <;> cases z))]
    exact st.pure hq a h
theorem mrep_rt {D : Addr} {av : List Val} {acc : List V} {m : Md} (t : g.T D = .rt) (hD : H D = some (.lst acc)) (h : VReps k (fzP g H) g.ι av acc) : MRep k (g.put D (tagM m)) H m (.lst av) (.ref D) := by
  have h2 : VReps k (fzP (g.put D (tagM m)) H) g.ι av acc := by
    refine VReps.mono (fun a o e => ?_) (fun _ _ h => h) _ _ h
    obtain ⟨t1, e1⟩ := fzP_some e
    exact fzP_of (by rw [put_ne (fun z => by subst z; rw [t] at t1; cases t1)]; exact t1) e1
  cases m with
  | V =>
    show VRep _ _ _ _ _
    simp only [VRep]
    exact ⟨D, acc, rfl, fzP_of put_same hD, h2⟩
  | L => exact ⟨D, acc, rfl, ⟨by rw [show (g.put D (tagM .L)).T D = .fz from put_same]; rfl, hD⟩, h2⟩
  | B => exact ⟨D, acc, rfl, ⟨by rw [show (g.put D (tagM .B)).T D = .fz from put_same]; rfl, hD⟩, h2⟩
  | P => exact ⟨D, acc, rfl, ⟨by rw [show (g.put D (tagM .P)).T D = .fz from put_same]; rfl, hD⟩, h2⟩
  | O => exact ⟨D, acc, rfl, ⟨put_same, hD⟩, h2⟩
  | N _ => exact ⟨D, acc, rfl, ⟨put_same, hD⟩, h2⟩
end

/-! ### slots of a block forgotten -/
def wipeE (ρ : Env) : List Nat → Env
  | [] => ρ
  | v :: vs => (wipeE ρ vs).set v none
theorem rel_wipe {k : Kx} {md : Sl} {g : Gh} {H : Hp} {σ : L2.St} {ρ : Env} {S : Store} (r : Rel k md g σ H ρ S) : ∀ {vs : List Nat}, (∀ i ∈ vs, hxOk md i) → Rel k md g (wipe σ vs) H (wipeE ρ vs) S
  | [], _ => r
  | v :: vs, h => by
    unfold wipe wipeE
    exact rel_dropσ (rel_wipe r fun i hi => h i (List.mem_cons_of_mem _ hi)) (h v List.mem_cons_self)
theorem wipeE_set {ρ : Env} {i : Nat} {x : Option Val} : ∀ {vs : List Nat}, i ∉ vs → (wipeE ρ vs).set i x = wipeE (ρ.set i x) vs
  | [], _ => rfl
  | v :: vs, h => by
    unfold wipeE
    rw [← wipeE_set (fun z => h (List.mem_cons_of_mem _ z)), List.set_comm _ _ (fun e => h (by rw [e]; exact List.mem_cons_self))]
theorem bindMany_wipe : ∀ {is : List Nat} {vs : List Val} {ρ : Env}, is.Nodup → bindMany is vs (wipeE ρ is) = bindMany is vs ρ
  | [], _, _, _ => rfl
  | _ :: _, [], _, _ => rfl
  | i :: is, v :: vs, ρ, h => by
    obtain ⟨h1, h2⟩ := List.nodup_cons.mp h
    simp only [bindMany]
    rw [wipeE, List.set_set, wipeE_set h1, bindMany_wipe h2]
theorem bindT_wipe {tg : Tg} {v : Val} {ρ : Env} (h : (tgIs tg).Nodup) : bindT tg v (wipeE ρ (tgIs tg)) = bindT tg v ρ := by
  cases tg with
  | one i =>
    simp only [bindT, tgIs, wipeE]
    rw [List.set_set]
  | many is =>
    cases v with
    | tup vs => exact bindMany_wipe h
    | lst vs => exact bindMany_wipe h
    | _ => rfl
theorem wipe_eq {σ τ : L2.St} {vs : List Nat} (hl : σ.length = τ.length) (h : ∀ j, j ∉ vs → σ[j]? = τ[j]?) : wipe σ vs = wipe τ vs := by
  have key : ∀ {vs : List Nat} {σ : L2.St} (j : Nat), (wipe σ vs)[j]? = if j ∈ vs ∧ j < σ.length then some none else σ[j]? := by
    intro vs
    induction vs with
    | nil =>
      intro σ j
      simp [wipe]
    | cons v vs ih =>
      intro σ j
      unfold wipe
      rw [set_at, ih j, wipe_length]
      by_cases e : v = j
      · subst e
        by_cases hl : v < σ.length
        · simp [hl]
        · simp [hl]
      · have e' : ¬ j = v := fun z => e z.symm
        simp [e, e']
  apply List.ext_getElem?
  intro j
  rw [key, key, hl]
  by_cases hj : j ∈ vs
  · by_cases hlt : j < τ.length
    · simp [hj, hlt]
    · rw [if_neg (fun z => hlt z.2), if_neg (fun z => hlt z.2), List.getElem?_eq_none (by omega), List.getElem?_eq_none (by omega)]
  · rw [if_neg (fun z => hj z.1), if_neg (fun z => hj z.1), h j hj]

/-! ### comprehensions -/
/-- one item of a comprehension -/
noncomputable def compF (x : Cfg) (e : E) (tg : Tg) (cd : Option E) (ρ : Env) : Val → Store → R (Option Val) := fun y S => match bindT tg y ρ with
  | some ρ1 => (match evC x cd ρ1 S with
    | .ok true S1 => (match evE x e ρ1 S1 with
      | .ok w S2 => .ok (some w) S2
      | _ => .stuck)
    | .ok false S1 => .ok none S1
    | _ => .stuck)
  | none => .stuck
open Classical in
theorem evE_comp (x : Cfg) (e : E) (tg : Tg) (it : E) (cd : Option E) (ρ : Env) (S : Store) : evE x (.comp e tg it cd) ρ S = (evE x it ρ S).bind fun v S1 => match srcOf v S1 with
    | some (xs, P) => if szb xs.length = true then (compL (chkC P (compF x e tg cd ρ)) xs S1).bind (fun vs S2 => chkE P (.ok (.lst vs) S2) S2) else .stuck
    | none => .stuck := by
  have e1 : chkC anyP (compF x e tg cd ρ) = compF x e tg cd ρ := by
    funext y S
    unfold chkC anyP
    rw [if_pos trivial]
  have e2 : ∀ (r : R Val) (S : Store), chkE anyP r S = r := fun r S => by
    unfold chkE anyP
    rw [if_pos trivial]
  have e3 : compF x e tg cd ρ = fun y S => (match bindT tg y ρ with
    | some ρ1 => (match evC x cd ρ1 S with
      | .ok true S1 => (match evE x e ρ1 S1 with
        | .ok w S2 => .ok (some w) S2
        | _ => .stuck)
      | .ok false S1 => .ok none S1
      | _ => .stuck)
    | none => .stuck : R (Option Val)) := rfl
  simp only [evE]
  congr 1
  funext v S1
  unfold srcOf
  cases h1 : itemsV v with
  | some xs =>
    simp only [e1, e2]
    rw [e3] <;> rfl
  | none =>
    simp only
    cases h2 : refL v S1 with
    | none => rfl
    | some q =>
      obtain ⟨P, xs⟩ := q
      simp only
      rw [e3] <;> rfl
theorem chkC_no {P : Store → Prop} {f : Val → Store → R (Option Val)} (hf : ∀ y S c S', f y S ≠ .exn c S') : ∀ y S c S', chkC P f y S ≠ .exn c S' := by
  intro y S c S' h
  unfold chkC at h
  split at h
  · exact hf y S c S' h
  · cases h
theorem compL_ok {f : Val → Store → R (Option Val)} (hf : ∀ y S c S', f y S ≠ .exn c S') : ∀ (xs : List Val) (S : Store), (∃ vs S', compL f xs S = .ok vs S') ∨ compL f xs S = .stuck
  | [], S => .inl ⟨[], S, rfl⟩
  | x :: xs, S => by
    simp only [compL]
    cases e : f x S with
    | ok o S1 =>
      cases o with
      | some v =>
        simp only
        rcases compL_ok hf xs S1 with ⟨vs, S', h⟩ | h
        · rw [h]
          exact .inl ⟨_, _, rfl⟩
        · rw [h]
          exact .inr rfl
      | none => exact compL_ok hf xs S1
    | exn c S1 => exact absurd e (hf x S c S1)
    | stuck => exact .inr rfl
theorem compF_no {x : Cfg} {e : E} {tg : Tg} {cd : Option E} {ρ : Env} : ∀ y S c S', compF x e tg cd ρ y S ≠ .exn c S' := by
  intro y S c S' h
  unfold compF at h
  split at h
  · split at h
    · split at h <;> cases h
    · cases h
    · cases h
  · cases h
def Jx.tC (J : Jx) : Option E → TT
  | none => tYes
  | some c => J.tT c
/-- no exception leaves it -/
def Jx.calm (J : Jx) : Jx := { J with W := fun _ _ _ _ => False }
section
variable {X : Cx} {J : Jx} {m : Md} {pos : Pos}
theorem tC_bind {g : Gh} {H : Hp} {σ : L2.St} {ρ : Env} {S S' : Store} {cd : Option E} {b : Bool} {Q : Bool → Hp → Prop} (r : Rel J.k J.md g σ H ρ S) (ev : evC J.x cd ρ S = .ok b S')
    (h : ∀ g' H', Rel J.k J.md g' σ H' ρ S' → Step (pureO cd) g H g' H' → Q b H') : J.tC cd σ H Q := by
  cases cd with
  | none =>
    simp only [evC] at ev
    cases ev
    exact h g H r Step.refl
  | some c =>
    simp only [evC] at ev
    cases e : evE J.x c ρ S with
    | ok v S1 =>
      rw [e] at ev
      simp only [R.bind] at ev
      cases v with
      | bl d =>
        cases ev
        exact tE_ok r e fun u g' H' r' st mr => ⟨b, mr.R.bl_of, h g' H' r' st⟩
      | _ => cases ev
    | exn c S1 => rw [e] at ev; cases ev
    | stuck => rw [e] at ev; cases ev
theorem tI_bind {g : Gh} {H : Hp} {σ : L2.St} {ρ : Env} {S : Store} {q2 : Bool} {e : E} {f : Val → Store → R Val} {Q : VK} {Q1 : L2.It → Hp → Prop} (r : Rel J.k J.md g σ H ρ S) (h : J.Post m (pureE e && q2) g H σ ρ ((evE J.x e ρ S).bind f) Q)
    (hi : ∀ v S', evE J.x e ρ S = .ok v S' → srcOf v S' ≠ none)
    (hn : ∀ v S' xs P It g' H', evE J.x e ρ S = .ok v S' → srcOf v S' = some (xs, P) → Rel J.k J.md g' σ H' ρ S' → ItOk J.k It xs P g' H' → J.Post m q2 g' H' σ ρ (f v S') Q → Q1 It H') : J.tI e σ H Q1 := by
  refine ⟨g, ρ, S, r, ?_⟩
  cases ev : evE J.x e ρ S with
  | ok v S1 =>
    rw [ev] at h
    cases ei : srcOf v S1 with
    | none => exact absurd ei (hi v S1 ev)
    | some q => exact ⟨q.1, q.2, ei, fun It g' H' r' st ok => hn v S1 q.1 q.2 It g' H' ev ei r' ok (post_after h st)⟩
  | exn c S1 => rw [ev] at h; exact h
  | stuck => rw [ev] at h; exact h
theorem chk_P {P : Store → Prop} {f : Val → Store → R (Option Val)} {xs rest : List Val} {S S2 : Store} (hP : P S2) (h : compL (chkC P f) xs S = .ok rest S2) : P S := by
  cases xs with
  | nil =>
    simp only [compL] at h
    cases h
    exact hP
  | cons x xs =>
    simp only [compL] at h
    unfold chkC at h
    split at h
    · rename_i o v S1 e
      split at e
      · assumption
      · cases e
    · rename_i e
      split at e
      · assumption
      · cases e
    · cases h
    · cases h
theorem comp_imp {ie iit : E} {tg : Tg} {icd : Option E} (hn : (tgIs tg).Nodup) (hok : tgOk J.md (tgIs tg)) (σ : L2.St) (H : Hp) (Q : VK) (h : J.tE m (.comp ie tg iit icd) σ H Q) :
    tLc (J.tI iit) (J.calm.tG tg) (J.calm.tC icd) (J.calm.tE .V ie) (tgIs tg) σ H Q := by
  obtain ⟨g, ρ, S, r, p⟩ := h
  have hq : pureE (.comp ie tg iit icd) = (pureE iit && (pureE ie && pureO icd)) := by
    simp only [pureE]
    cases pureE ie <;> cases pureE iit <;> cases pureO icd <;> rfl
  rw [evE_comp, hq] at p
  refine tI_bind r p (fun v S' ev z => ?_) fun v S1 xs P It g1 H1 ev ei r1 ok p1 => ?_
  · rw [ev] at p
    simp only [_root_.Pv.R.bind, z] at p
    exact p
  simp only [ei] at p1
  split at p1
  case isFalse => exact p1.elim
  rename_i hz
  rcases compL_ok (chkC_no (P := P) (compF_no (x := J.x) (e := ie) (tg := tg) (cd := icd) (ρ := ρ))) xs S1 with ⟨vs, S2, hc⟩ | hc
  case inr => rw [hc] at p1; exact p1.elim
  rw [hc] at p1
  simp only [_root_.Pv.R.bind] at p1
  unfold chkE at p1
  split at p1
  case isFalse => exact p1.elim
  rename_i hPE
  intro D hD
  have hDn := r1.str.no_tag hD
  obtain ⟨Gd, Y, wk, st⟩ := ok
  refine lc_it wk (fun i H' => ∃ g' S' av acc rest, Rel J.k J.md g' σ H' ρ S' ∧ Step (pureE ie && pureO icd) g1 H1 g' H' ∧ g'.T D = .rt ∧ H' D = some (.lst acc) ∧ VReps J.k (fzP g' H') g'.ι av acc ∧ av.length ≤ i ∧
    compL (chkC P (compF J.x ie tg icd ρ)) (xs.drop i) S' = .ok rest S2 ∧ vs = av ++ rest) ?_ ?_ ?_ ?_
  · -- at the start
    refine ⟨_, S1, [], [], vs, put_rel r1 hD (.inr ⟨.inl rfl, fun _ z => nomatch z⟩), (put_step hDn).any, put_same, upd_same, by simp only [VReps], Nat.le_refl _, hc, rfl⟩
  · rintro i H' hi ⟨g', S', av, acc, rest, r', st', tD, hD', hv, hl, hr, he⟩
    exact (st g' H' S' st'.toS r'.str (chk_P hPE hr)).1
  · rintro i x H' H2 hi ⟨g', S', av, acc, rest, r', st', tD, hD', hv, hl, hr, he⟩ y
    have hPS := chk_P hPE hr
    obtain ⟨v0, hx, hy⟩ := (st g' H' S' st'.toS r'.str hPS).2 i x H2 hi y
    obtain ⟨g2, r2, st2, mr2⟩ := hy J.md σ ρ r'
    have hdrop : xs.drop i = v0 :: xs.drop (i + 1) := by
      obtain ⟨hi', e⟩ := List.getElem?_eq_some_iff.mp hx
      rw [List.drop_eq_getElem_cons hi', e]
    rw [hdrop] at hr
    simp only [compL] at hr
    have eC : chkC P (compF J.x ie tg icd ρ) v0 S' = compF J.x ie tg icd ρ v0 S' := by
      unfold chkC
      rw [if_pos hPS]
    rw [eC] at hr
    cases eb : bindT tg v0 ρ with
    | none => simp only [compF, eb] at hr; cases hr
    | some ρ1 =>
      have ef : compF J.x ie tg icd ρ v0 S' = (match evC J.x icd ρ1 S' with
        | .ok true S1 => (match evE J.x ie ρ1 S1 with
          | .ok w S2 => .ok (some w) S2
          | _ => .stuck)
        | .ok false S1 => .ok none S1
        | _ => .stuck) := by simp only [compF, eb]
      rw [ef] at hr
      refine ⟨g2, wipeE ρ (tgIs tg), S', v0, ρ1, rel_wipe r2 fun j hj => (hok j hj).2, mr2, by rw [bindT_wipe hn]; exact eb, fun σ1 r3 hk => ⟨?_, ?_⟩⟩
      · have hww : wipe (wipe σ (tgIs tg)) (tgIs tg) = wipe σ (tgIs tg) := wipe_eq (wipe_length _ _) fun j hj => by
          have : ∀ {vs : List Nat}, j ∉ vs → (wipe σ vs)[j]? = σ[j]? := by
            intro vs
            induction vs with
            | nil => intro _; rfl
            | cons w vs ih =>
              intro h
              unfold wipe
              rw [List.getElem?_set_ne (fun e => h (by rw [e]; exact List.mem_cons_self)), ih (fun z => h (List.mem_cons_of_mem _ z))]
          exact this hj
        rw [← hww]
        exact wipe_eq (by rw [r3.lenσ, wipe_length]; exact r.lenσ.symm) hk
      · cases ec : evC J.x icd ρ1 S' with
        | ok b S3 =>
          rw [ec] at hr
          refine tC_bind (J := J.calm) r3 ec fun g3 H3 r4 st3 => ?_
          have s13 : Step (pureE ie && pureO icd) g1 H1 g3 H3 := by
            have := (st'.trans st2).trans st3
            revert this
            cases pureE ie <;> cases pureO icd <;> intro z <;> exact z
          have st23 : Step (pureO icd) g' H' g3 H3 := by
            have := st2.trans st3
            rwa [Bool.true_and] at this
          have k3 := st23.keep D (.inr (.inr (.inl tD)))
          cases b with
          | false =>
            simp only [Bool.false_eq_true, if_false] at hr ⊢
            exact ⟨g3, S3, av, acc, rest, rel_back r' st23 r4.str, s13, k3.1.trans tD, k3.2.trans hD', st23.mVs hv, by omega, hr, he⟩
          | true =>
            simp only [if_true] at hr ⊢
            cases ee : evE J.x ie ρ1 S3 with
            | ok w S4 =>
              rw [ee] at hr
              simp only at hr
              refine tE_ok (J := J.calm) r4 ee fun u g4 H4 r5 st4 mr4 => ?_
              have s14 : Step (pureE ie && pureO icd) g1 H1 g4 H4 := by
                have := s13.trans st4
                revert this
                cases pureE ie <;> cases pureO icd <;> intro z <;> exact z
              have st34 := st23.trans st4
              have k4 := st34.keep D (.inr (.inr (.inl tD)))
              have tD4 := k4.1.trans tD
              have hv4 := st34.mVs hv
              have hlen : acc.length < sizeLine := by
                rw [hv.len]
                have := szb_lt hz
                omega
              refine ⟨acc, k4.2.trans hD', hlen, ?_⟩
              cases er : compL (chkC P (compF J.x ie tg icd ρ)) (xs.drop (i + 1)) S4 with
              | ok rest' S5 =>
                rw [er] at hr
                cases hr
                have kp := keep_rt (H := H4) (o := .lst (acc ++ [u])) tD4
                refine ⟨g4, S4, av ++ [w], acc ++ [u], rest', rel_rt tD4 (rel_back r' st34 r5.str) (fun _ z => nomatch z), step_upd hDn s14, tD4, upd_same, kp.vs (hv4.app (VReps.one mr4)), by rw [List.length_append, List.length_singleton]; omega, er, by rw [he]; simp⟩
              | exn c S5 => rw [er] at hr; cases hr
              | stuck => rw [er] at hr; cases hr
            | exn c S4 => rw [ee] at hr; cases hr
            | stuck => rw [ee] at hr; cases hr
        | exn c S3 => rw [ec] at hr; cases hr
        | stuck => rw [ec] at hr; cases hr
  · rintro H' ⟨g', S', av, acc, rest, r', st', tD, hD', hv, hl, hr, he⟩
    rw [List.drop_length] at hr
    simp only [compL] at hr
    cases hr
    rw [List.append_nil] at he
    subst he
    exact p1 _ _ _ (rel_retag tD hD' r' m) (step_put hDn st') (mrep_rt tD hD' hv)
end
end Pv
end

section
set_option Elab.async false
set_option linter.all false
set_option maxRecDepth 100000
set_option autoImplicit false
/-! Pv13: built-in functions. -/
namespace Pv
open PySem PySem.Spec PyProof.Rows L2

section
variable {X : Cx} {J : Jx} {m : Md} {pos : Pos}
/-- what a built-in's rule asks is had of its values -/
def BiOk (J : Jx) (m : Md) (b : Bi) (ms : List Md) (n : Nat) (rr : List V → Hp → VK → Prop) : Prop :=
  ∀ g H σ ρ S vs us z Q, vs.length = n → Rel J.k J.md g σ H ρ S → MReps J.k g H ms vs us → biV b (vs.map (deref S)) = some z → J.Post m true g H σ ρ (.ok z S) Q → rr us H Q
theorem bi_imp {b : Bi} {ies : List E} {ms : List Md} {rr : List V → Hp → VK → Prop} (hr : BiOk J m b ms ies.length rr) (σ : L2.St) (H : Hp) (Q : VK) (h : J.tE m (.bi b ies) σ H Q) : tCB rr (J.tA ms ies) σ H Q := by
  obtain ⟨g, ρ, S, r, p⟩ := h
  have hq : pureE (.bi b ies) = (pureEs ies && true) := by simp only [pureE, Bool.and_true]
  simp only [evE] at p
  rw [hq] at p
  refine tA_bind r p fun vs S1 us g1 H1 e1 r1 st mr p1 => ?_
  cases eb : biV b (vs.map (deref S1)) with
  | none => rw [eb] at p1; exact p1.elim
  | some z =>
    rw [eb] at p1
    exact hr g1 H1 σ ρ S1 vs us z Q (evs_len e1) r1 mr eb p1
theorem one_of {k : Kx} {g : Gh} {H : Hp} {S : Store} {ms : List Md} {vs : List Val} {us : List V} (hl : vs.length = 1) (s : SRel k g H S) (h : MReps k g H ms vs us) : ∃ v u, vs.map (deref S) = [v] ∧ us = [u] ∧ RRep k g H v u := by
  cases vs with
  | nil => cases hl
  | cons v r =>
    cases r with
    | nil =>
      obtain ⟨u, rfl, h1⟩ := h.one
      exact ⟨_, u, rfl, rfl, deref_R s h1.R⟩
    | cons w r => cases hl
theorem two_of' {k : Kx} {g : Gh} {H : Hp} {S : Store} {ms : List Md} {vs : List Val} {us : List V} (hl : vs.length = 2) (s : SRel k g H S) (h : MReps k g H ms vs us) : ∃ v w u x, vs.map (deref S) = [v, w] ∧ us = [u, x] ∧ RRep k g H v u ∧ RRep k g H w x := by
  cases vs with
  | nil => cases hl
  | cons v r =>
    cases r with
    | nil => cases hl
    | cons w r =>
      cases r with
      | nil =>
        obtain ⟨u, x, rfl, h1, h2⟩ := h.two
        exact ⟨_, _, u, x, rfl, rfl, deref_R s h1.R, deref_R s h2.R⟩
      | cons _ _ => cases hl
def rLen (K : PySem.W.Frag) : List V → Hp → VK → Prop := fun xs H Q => (∃ x n, xs = [x] ∧ LenV K x H n ∧ Q (.int n) H) ∨ (∃ a kvs, xs = [V.ref a] ∧ H a = some (.dK kvs) ∧ Q (.int kvs.length) H) ∨ rLenT xs H Q
theorem b_len {ms : List Md} (hk : ∀ a us (H : Hp), J.k.kl a us → SqL X.K H a us) : BiOk J m .len ms 1 (rLen X.K) := by
  intro g H σ ρ S vs us z Q hl r mr e p
  obtain ⟨v, u, e1, rfl, h⟩ := one_of hl r.str mr
  rw [e1] at e
  simp only [biV] at e
  unfold lenV at e
  cases v with
  | lst xs =>
    cases e
    obtain ⟨a, us, rfl, ha, hs⟩ := h.lst_of
    exact .inl ⟨_, xs.length, rfl, .inl ⟨us, .inl (.inl ha), hs.len.symm⟩, fin_V r (fun m => MRep.int _) p⟩
  | tup xs =>
    cases e
    obtain ⟨a, us, rfl, ha, ta, hs⟩ := h.tup_of
    exact .inl ⟨_, xs.length, rfl, .inr ⟨us, SqT.of ha, hs.len.symm⟩, fin_V r (fun m => MRep.int _) p⟩
  | str s =>
    simp only at e
    split at e
    · rename_i hz
      split at hz
      · rename_i hz2
        cases hz
        cases e
        rw [h.str_of]
        exact .inl ⟨_, s.length, rfl, ⟨szb_line hz2, rfl⟩, fin_V r (fun m => MRep.int _) p⟩
      · cases hz
    · cases e
  | scr ns =>
    cases e
    obtain ⟨a, rfl, hs⟩ := h.scr_of hk
    refine .inl ⟨_, ns.length, rfl, .inl ⟨_, hs, by rw [List.length_map]⟩, fin_V r (fun m => MRep.int _) p⟩
  | dK kvs =>
    cases e
    obtain ⟨a, us, rfl, ha, hs⟩ := h.dK_of
    refine .inr (.inl ⟨a, us, rfl, ha, ?_⟩)
    rw [hs.len]
    exact fin_V r (fun m => MRep.int _) p
  | dT kvs =>
    cases e
    obtain ⟨a, us, rfl, ha, hs⟩ := h.dT_of
    refine .inr (.inr ⟨a, us, rfl, ha, ?_⟩)
    rw [hs.len]
    exact fin_V r (fun m => MRep.int _) p
  | _ => cases e
def rAbs : List V → Hp → VK → Prop := fun xs H Q => ∃ i, xs = [V.int i] ∧ Q (.int (if i < 0 then -i else i)) H
theorem b_abs {ms : List Md} : BiOk J m .abs ms 1 rAbs := by
  intro g H σ ρ S vs us z Q hl r mr e p
  obtain ⟨v, u, e1, rfl, h⟩ := one_of hl r.str mr
  rw [e1] at e
  cases v with
  | int i =>
    simp only [biV] at e
    cases e
    rw [h.int_of]
    exact ⟨i, rfl, fin_V r (fun m => MRep.int _) p⟩
  | _ => cases e
def rMin2 : List V → Hp → VK → Prop := fun xs H Q => ∃ i j, xs = [V.int i, V.int j] ∧ Q (.int (if j < i then j else i)) H
def rMax2 : List V → Hp → VK → Prop := fun xs H Q => ∃ i j, xs = [V.int i, V.int j] ∧ Q (.int (if j > i then j else i)) H
theorem b_min2 {ms : List Md} : BiOk J m .min2 ms 2 rMin2 := by
  intro g H σ ρ S vs us z Q hl r mr e p
  obtain ⟨v, w, u, x, e1, rfl, h1, h2⟩ := two_of' hl r.str mr
  rw [e1] at e
  cases v <;> try cases e
  cases w <;> try cases e
  rw [h1.int_of, h2.int_of]
  exact ⟨_, _, rfl, fin_V r (fun m => MRep.int _) p⟩
theorem b_max2 {ms : List Md} : BiOk J m .max2 ms 2 rMax2 := by
  intro g H σ ρ S vs us z Q hl r mr e p
  obtain ⟨v, w, u, x, e1, rfl, h1, h2⟩ := two_of' hl r.str mr
  rw [e1] at e
  cases v <;> try cases e
  cases w <;> try cases e
  rw [h1.int_of, h2.int_of]
  exact ⟨_, _, rfl, fin_V r (fun m => MRep.int _) p⟩
theorem minI_mem : ∀ (r : List Int) (a : Int), minI a r ∈ a :: r
  | [], a => List.mem_cons_self
  | b :: r, a => by
    simp only [minI]
    have := minI_mem r (if b < a then b else a)
    rcases List.mem_cons.mp this with e | h
    · rw [e]
      split
      · exact List.mem_cons_of_mem _ List.mem_cons_self
      · exact List.mem_cons_self
    · exact List.mem_cons_of_mem _ (List.mem_cons_of_mem _ h)
theorem minI_le : ∀ (r : List Int) (a x : Int), x ∈ a :: r → minI a r ≤ x
  | [], a, x, h => by
    simp only [List.mem_singleton] at h
    subst h
    exact Int.le_refl _
  | b :: r, a, x, h => by
    simp only [minI]
    have key := minI_le r (if b < a then b else a)
    rcases List.mem_cons.mp h with e | h
    · have := key _ List.mem_cons_self
      subst e
      split at this <;> split <;> omega
    · rcases List.mem_cons.mp h with e | h
      · have := key _ List.mem_cons_self
        subst e
        split at this <;> split <;> omega
      · exact key x (List.mem_cons_of_mem _ h)
theorem maxI_mem : ∀ (r : List Int) (a : Int), maxI a r ∈ a :: r
  | [], a => List.mem_cons_self
  | b :: r, a => by
    simp only [maxI]
    have := maxI_mem r (if b > a then b else a)
    rcases List.mem_cons.mp this with e | h
    · rw [e]
      split
      · exact List.mem_cons_of_mem _ List.mem_cons_self
      · exact List.mem_cons_self
    · exact List.mem_cons_of_mem _ (List.mem_cons_of_mem _ h)
theorem le_maxI : ∀ (r : List Int) (a x : Int), x ∈ a :: r → x ≤ maxI a r
  | [], a, x, h => by
    simp only [List.mem_singleton] at h
    subst h
    exact Int.le_refl _
  | b :: r, a, x, h => by
    simp only [maxI]
    have key := le_maxI r (if b > a then b else a)
    rcases List.mem_cons.mp h with e | h
    · have := key _ List.mem_cons_self
      subst e
      split at this <;> split <;> omega
    · rcases List.mem_cons.mp h with e | h
      · have := key _ List.mem_cons_self
        subst e
        split at this <;> split <;> omega
      · exact key x (List.mem_cons_of_mem _ h)
theorem b_min1 {ms : List Md} : BiOk J m .min1 ms 1 (rMin X.K) := by
  intro g H σ ρ S vs us z Q hl r mr e p
  obtain ⟨v, u, e1, rfl, h⟩ := one_of hl r.str mr
  rw [e1] at e
  cases v <;> try cases e
  rename_i xs
  simp only [biV] at e
  split at e
  · rename_i i is ei
    cases e
    obtain ⟨a, us, rfl, ha, hs⟩ := h.lst_of
    have := hs.ints ei
    subst this
    refine ⟨a, i :: is, rfl, .inl (.inl ha), Nat.succ_pos _, fun mm h1 h2 => ?_⟩
    have e3 : mm = minI i is := Int.le_antisymm (h2 _ (minI_mem is i)) (minI_le is i mm h1)
    rw [e3]
    exact fin_V r (fun m => MRep.int _) p
  · cases e
theorem b_max1 {ms : List Md} : BiOk J m .max1 ms 1 (rMax X.K) := by
  intro g H σ ρ S vs us z Q hl r mr e p
  obtain ⟨v, u, e1, rfl, h⟩ := one_of hl r.str mr
  rw [e1] at e
  cases v <;> try cases e
  rename_i xs
  simp only [biV] at e
  split at e
  · rename_i i is ei
    cases e
    obtain ⟨a, us, rfl, ha, hs⟩ := h.lst_of
    have := hs.ints ei
    subst this
    refine ⟨a, i :: is, rfl, .inl (.inl ha), Nat.succ_pos _, fun mm h1 h2 => ?_⟩
    have e3 : mm = maxI i is := Int.le_antisymm (le_maxI is i mm h1) (h2 _ (maxI_mem is i))
    rw [e3]
    exact fin_V r (fun m => MRep.int _) p
  · cases e
theorem b_sum {ms : List Md} : BiOk J m .sum ms 1 (rSum X.K) := by
  intro g H σ ρ S vs us z Q hl r mr e p
  obtain ⟨v, u, e1, rfl, h⟩ := one_of hl r.str mr
  rw [e1] at e
  cases v <;> try cases e
  simp only [biV] at e
  split at e
  · rename_i is ei
    cases e
    obtain ⟨a, us, rfl, ha, hs⟩ := h.lst_of
    have := hs.ints ei
    subst this
    exact ⟨a, is, rfl, .inl (.inl ha), fin_V r (fun m => MRep.int _) p⟩
  · cases e
theorem b_any {ms : List Md} : BiOk J m .any ms 1 (rAny X.K) := by
  intro g H σ ρ S vs us z Q hl r mr e p
  obtain ⟨v, u, e1, rfl, h⟩ := one_of hl r.str mr
  rw [e1] at e
  cases v <;> try cases e
  simp only [biV] at e
  split at e
  · rename_i is ei
    cases e
    obtain ⟨a, us, rfl, ha, hs⟩ := h.lst_of
    have := hs.bools ei
    subst this
    exact ⟨a, is, rfl, .inl (.inl ha), fin_V r (fun m => MRep.bl _) p⟩
  · cases e
theorem b_all {ms : List Md} : BiOk J m .all ms 1 (rAll X.K) := by
  intro g H σ ρ S vs us z Q hl r mr e p
  obtain ⟨v, u, e1, rfl, h⟩ := one_of hl r.str mr
  rw [e1] at e
  cases v <;> try cases e
  simp only [biV] at e
  split at e
  · rename_i is ei
    cases e
    obtain ⟨a, us, rfl, ha, hs⟩ := h.lst_of
    have := hs.bools ei
    subst this
    exact ⟨a, is, rfl, .inl (.inl ha), fin_V r (fun m => MRep.bl _) p⟩
  · cases e
def rListOf0 (K : PySem.W.Frag) : List V → Hp → VK → Prop := fun xs H Q => (∃ p ys, xs = [.ref p] ∧ (SqL K H p ys ∨ SqT K H p ys) ∧ ∀ l, H l = none → Q (.ref l) (upd H l (.lst ys))) ∨
  (∃ (a : Addr) (kvs : List (L2.Key × V)), xs = [.ref a] ∧ Rd H a (.dK kvs) ∧ ∀ p, H p = none → Q (.ref p) (upd H p (.lst (kvs.map fun kv => kV kv.1))))
def rListOf (K : PySem.W.Frag) : List V → Hp → VK → Prop := fun xs H Q => rListOf0 K xs H Q ∨ ∃ d kvs, xs = [V.ref d] ∧ Rd H d (.dT kvs) ∧ ∀ p bs, H p = none → IsKeys H kvs bs → Q (.ref p) (upd H p (.lst (bs.map V.ref)))
/-- tuples that stand there are known as they are -/
theorem keys_known {k : Kx} {md : Sl} {σ : L2.St} {ρ : Env} {S : Store} {H : Hp} : ∀ {kvs : List (List Key × Val)} {us : List (List Key × V)} {bs : List Addr} {g : Gh} {F : Hp} {ι : Nat → Option Addr}, Rel k md g σ H ρ S → VTs k F ι kvs us → IsKeys H us bs →
    ∃ g', Rel k md g' σ H ρ S ∧ Step true g H g' H ∧ VReps k (fzP g' H) g'.ι (kvs.map fun kv => Val.tup (kv.1.map unkey)) (bs.map V.ref)
  | [], us, bs, g, F, ι, r, h, q => by
    simp only [VTs] at h
    subst h
    cases q
    exact ⟨g, r, Step.refl, by simp only [List.map_nil, VReps]⟩
  | (a, x) :: kvs, us, bs, g, F, ι, r, h, q => by
    simp only [VTs] at h
    obtain ⟨u, rr, rfl, h1, h2⟩ := h
    cases q with
    | cons hb q =>
      obtain ⟨g1, r1, s1, m1⟩ := tup_known r hb
      obtain ⟨g2, r2, s2, m2⟩ := keys_known r1 h2 q
      refine ⟨g2, r2, s1.trans s2, ?_⟩
      simp only [List.map_cons, VReps]
      exact ⟨_, _, rfl, s2.mV m1, m2⟩
theorem kV_unkey {k : Kx} {F : Hp} {ι : Nat → Option Addr} (q : Key) : VRep k F ι (unkey q) (kV q) := by
  cases q <;> simp only [unkey, VRep] <;> rfl
theorem VKs.keys {k : Kx} {F : Hp} {ι : Nat → Option Addr} : ∀ {xs : List (Key × Val)} {us : List (Key × V)}, VKs k F ι xs us → VReps k F ι (xs.map fun kv => unkey kv.1) (us.map fun kv => kV kv.1)
  | [], _, h => by
    simp only [VKs] at h
    subst h
    simp only [List.map_nil, VReps]
  | (q, x) :: xs, _, h => by
    simp only [VKs] at h
    obtain ⟨u, r, e, _, h2⟩ := h
    subst e
    simp only [List.map_cons, VReps]
    exact ⟨_, _, rfl, kV_unkey q, VKs.keys h2⟩
theorem b_list {ms : List Md} : BiOk J m .list ms 1 (rListOf X.K) := by
  intro g H σ ρ S vs us z Q hl r mr e p
  obtain ⟨v, u, e1, rfl, h⟩ := one_of hl r.str mr
  rw [e1] at e
  cases v with
  | lst xs =>
    simp only [biV] at e
    cases e
    obtain ⟨a, us, rfl, ha, hs⟩ := h.lst_of
    exact .inl (.inl ⟨a, us, rfl, .inl (.inl (.inl ha)), fin_lst r hs p⟩)
  | tup xs =>
    simp only [biV] at e
    cases e
    obtain ⟨a, us, rfl, ha, ta, hs⟩ := h.tup_of
    exact .inl (.inl ⟨a, us, rfl, .inr (SqT.of ha), fin_lst r hs p⟩)
  | dK kvs =>
    simp only [biV] at e
    cases e
    obtain ⟨a, us, rfl, ha, hs⟩ := h.dK_of
    exact .inl (.inr ⟨a, us, rfl, .inl ha, fin_lst r hs.keys p⟩)
  | dT kvs =>
    simp only [biV] at e
    cases e
    obtain ⟨a, us, rfl, ha, hs⟩ := h.dT_of
    refine .inr ⟨a, us, rfl, .inl ha, fun q bs hq hb => ?_⟩
    obtain ⟨g2, r2, s2, m2⟩ := keys_known r hs hb
    exact fin_lst r2 m2 (post_after (q1 := true) (q2 := true) p s2) q hq
  | _ => cases e
def rStrOf : List V → Hp → VK → Prop := fun xs H Q => (∃ i, xs = [V.int i] ∧ i.natAbs.log2 < 1920 ∧ Q (.str (toString i)) H) ∨ ∃ a, xs = [V.str a] ∧ Q (.str a) H
theorem b_str {ms : List Md} : BiOk J m .str ms 1 rStrOf := by
  intro g H σ ρ S vs us z Q hl r mr e p
  obtain ⟨v, u, e1, rfl, h⟩ := one_of hl r.str mr
  rw [e1] at e
  cases v with
  | int i =>
    simp only [biV] at e
    split at e
    · rename_i hi
      cases e
      rw [h.int_of]
      exact .inl ⟨i, rfl, hi, fin_V r (fun m => MRep.str _) p⟩
    · cases e
  | str s =>
    simp only [biV] at e
    cases e
    rw [h.str_of]
    exact .inr ⟨s, rfl, fin_V r (fun m => MRep.str _) p⟩
  | _ => cases e
def rIntOf : List V → Hp → VK → Prop := fun xs H Q => ((∃ i, xs = [V.int i] ∧ Q (.int i) H) ∨ ∃ k, xs = [V.bl k] ∧ Q (.int (if k then 1 else 0)) H) ∨ ∃ a n, xs = [V.str a] ∧ PySem.intText? a = some n ∧ a.length ≤ 640 ∧ Q (.int n) H
theorem b_int {ms : List Md} : BiOk J m .int ms 1 rIntOf := by
  intro g H σ ρ S vs us z Q hl r mr e p
  obtain ⟨v, u, e1, rfl, h⟩ := one_of hl r.str mr
  rw [e1] at e
  cases v with
  | int i =>
    simp only [biV] at e
    cases e
    rw [h.int_of]
    exact .inl (.inl ⟨i, rfl, fin_V r (fun m => MRep.int _) p⟩)
  | bl b =>
    simp only [biV] at e
    cases e
    rw [h.bl_of]
    exact .inl (.inr ⟨b, rfl, fin_V r (fun m => MRep.int _) p⟩)
  | str s =>
    simp only [biV] at e
    split at e
    · rename_i hz
      split at e
      · rename_i n hn
        cases e
        rw [h.str_of]
        exact .inr ⟨s, n, rfl, hn, hz, fin_V r (fun m => MRep.int _) p⟩
      · cases e
    · cases e
  | _ => cases e

/-! ### isinstance -/
def tyN : Ty → String
  | .int => "int"
  | .bool => "bool"
  | .str => "str"
  | .list => "list"
  | .tuple => "tuple"
  | .dict => "dict"
  | .valueError => "ValueError"
  | .cls _ => ""
def tyB : Ty → Bool
  | .int => true
  | .bool => true
  | .str => true
  | .list => true
  | .tuple => true
  | .dict => true
  | _ => false
/-- data's types -/
def flatTy : Val → Bool
  | .obj _ _ => false
  | .ref _ => false
  | .exc _ => false
  | .scr _ => false
  | _ => true
theorem isi_r {K : PySem.W.Frag} {k : Kx} {g : Gh} {H : Hp} {G : Prog} {S : Store} {v : Val} {u : V} {t : Ty} {b : Bool} (hb : tyB t = true) (hf : flatTy v = true) (h : RRep k g H v u) (e : tyV G S v t = some b) :
    ∃ tv, TyX K H u tv ∧ PySem.W.kitOne K tv (.type (tyN t)) = some b := by
  cases v with
  | non =>
    rw [h.non_of]
    refine ⟨_, .base .non, ?_⟩
    simp only [tyV] at e
    cases e
    cases t <;> first | exact Bool.noConfusion hb | exact kit_ty (by decide +kernel)
  | bl x =>
    rw [h.bl_of]
    refine ⟨_, .base (.bl x), ?_⟩
    simp only [tyV] at e
    cases e
    cases t <;> first | exact Bool.noConfusion hb | exact kit_ty (by decide +kernel)
  | int i =>
    rw [h.int_of]
    refine ⟨_, .base (.int i), ?_⟩
    simp only [tyV] at e
    cases e
    cases t <;> first | exact Bool.noConfusion hb | exact kit_ty (by decide +kernel)
  | str s =>
    rw [h.str_of]
    refine ⟨_, .base (.str s), ?_⟩
    simp only [tyV] at e
    cases e
    cases t <;> first | exact Bool.noConfusion hb | exact kit_ty (by decide +kernel)
  | lst xs =>
    obtain ⟨a, us, rfl, ha, _⟩ := h.lst_of
    simp only [tyV] at e
    cases e
    exact ⟨_, .base (.lst ha), by cases t <;> first | exact Bool.noConfusion hb | exact kit_ty (by decide +kernel)⟩
  | tup xs =>
    obtain ⟨a, us, rfl, ha, ta, _⟩ := h.tup_of
    simp only [tyV] at e
    cases e
    exact ⟨_, .base (.tup ha), by cases t <;> first | exact Bool.noConfusion hb | exact kit_ty (by decide +kernel)⟩
  | dK kvs =>
    obtain ⟨a, us, rfl, ha, _⟩ := h.dK_of
    simp only [tyV] at e
    cases e
    exact ⟨_, .base (.dK ha), by cases t <;> first | exact Bool.noConfusion hb | exact kit_ty (by decide +kernel)⟩
  | dT kvs =>
    obtain ⟨a, us, rfl, ha, _⟩ := h.dT_of
    simp only [tyV] at e
    cases e
    exact ⟨_, .base (.dT ha), by cases t <;> first | exact Bool.noConfusion hb | exact kit_ty (by decide +kernel)⟩
  | _ => cases hf
end
end Pv
end

section
set_option Elab.async false
set_option linter.all false
set_option maxRecDepth 100000
set_option autoImplicit false
/-! Pv13d: min, max with default=None. -/
namespace Pv
open PySem PySem.Spec PyProof.Rows L2
theorem minOf_eq : ∀ (r : List Int) (a : Int), PySem.W.minOf a r = minI a r
  | [], a => rfl
  | b :: r, a => by
    have h := minOf_eq r (if b < a then b else a)
    unfold PySem.W.minOf at h ⊢
    rw [List.foldl_cons, minI, ← h]
    congr 1
    show (if decide (b < a) = true then b else a) = _
    simp only [decide_eq_true_eq]
theorem maxOf_eq : ∀ (r : List Int) (a : Int), PySem.W.maxOf a r = maxI a r
  | [], a => rfl
  | b :: r, a => by
    have h := maxOf_eq r (if b > a then b else a)
    unfold PySem.W.maxOf at h ⊢
    rw [List.foldl_cons, maxI, ← h]
    congr 1
    show (if decide (a < b) = true then b else a) = _
    simp only [decide_eq_true_eq]
theorem ints_hold {h : Heap} : ∀ {vs : List Value} {ns : List Int}, IntsAre vs ns → PySem.W.HoldAll h vs ns
  | _, _, .nil => ⟨[], .nil⟩
  | _, _, .cons _ _ r => PySem.W.HoldAll.cons (PySem.W.holds_int _ _) (ints_hold r)
section
variable {X : Cx} {J : Jx} {m : Md} {pos : Pos}
def optI (f : Int → List Int → Int) : List Int → V
  | [] => .non
  | i :: is => .int (f i is)
def rMnD (K : PySem.W.Frag) (f : Int → List Int → Int) : List V → List V → Hp → VK → Prop := fun vs zs H Q => ∃ (a : Addr) (ns : List Int), vs = [V.ref a] ∧ zs = [V.non] ∧ SqL K H a (ns.map V.int) ∧ Q (optI f ns) H
theorem cr_minD (hc : X.calm = true) (hu : X.A.units + 65 < cLine) : CallRK X (.builtin "min") [Str.ofString "default"] (rMnD X.K minI) := by
  intro pins s σ H vs zs us ws Q I r rz h
  obtain ⟨a, ns, rfl, rfl, hs, q⟩ := h
  obtain rfl := Vals.ref1 r
  obtain ⟨w1, rfl, e1⟩ := vals1 rz
  obtain rfl : w1 = Value.none := e1
  obtain ⟨its, rv, hl, _⟩ := I.list hs
  have hi := rv.ints
  refine PySem.W.min_list_datum_default (α := Int) (xs := ns) (I.ok.hd hc) hl.isList (by simpa using ints_hold hi) (by
    have : PySem.W.Datum.depth Int ≤ 60 := by decide
    omega) (fun e h' tk hk => ?_) fun y ys i v h' tk e hi' hv hk => ?_
  · subst e
    exact ⟨.non, H, I.kept hk, rfl, q⟩
  · subst e
    obtain ⟨t, rfl⟩ := PySem.W.int_of_holds hv
    rw [minOf_eq]
    exact ⟨.int _, H, I.kept hk, ⟨_, rfl⟩, q⟩
theorem cr_maxD (hc : X.calm = true) (hu : X.A.units + 65 < cLine) : CallRK X (.builtin "max") [Str.ofString "default"] (rMnD X.K maxI) := by
  intro pins s σ H vs zs us ws Q I r rz h
  obtain ⟨a, ns, rfl, rfl, hs, q⟩ := h
  obtain rfl := Vals.ref1 r
  obtain ⟨w1, rfl, e1⟩ := vals1 rz
  obtain rfl : w1 = Value.none := e1
  obtain ⟨its, rv, hl, _⟩ := I.list hs
  have hi := rv.ints
  refine PySem.W.max_list_datum_default (α := Int) (xs := ns) (I.ok.hd hc) hl.isList (by simpa using ints_hold hi) (by
    have : PySem.W.Datum.depth Int ≤ 60 := by decide
    omega) (fun e h' tk hk => ?_) fun y ys i v h' tk e hi' hv hk => ?_
  · subst e
    exact ⟨.non, H, I.kept hk, rfl, q⟩
  · subst e
    obtain ⟨t, rfl⟩ := PySem.W.int_of_holds hv
    rw [maxOf_eq]
    exact ⟨.int _, H, I.kept hk, ⟨_, rfl⟩, q⟩
def bdN : Bi → Bool
  | .minD => true
  | .maxD => true
  | _ => false
theorem b_minD {a : Addr} {g : Gh} {H : Hp} {σ : L2.St} {ρ : Env} {S : Store} {v : Val} {u : V} {Q : VK} (r : Rel J.k J.md g σ H ρ S) {z : Val} (h : RRep J.k g H v u) (e : biV .minD [v] = some z) (p : J.Post m true g H σ ρ (.ok z S) Q) : rMnD X.K minI [u] [V.non] H Q := by
  cases v <;> try cases e
  rename_i xs
  simp only [biV] at e
  obtain ⟨a, us, rfl, ha, hs⟩ := h.lst_of
  split at e
  · rename_i i is ei
    cases e
    have := hs.ints ei
    subst this
    exact ⟨a, i :: is, rfl, rfl, .inl (.inl ha), fin_V r (fun m => MRep.int _) p⟩
  · rename_i ei
    cases e
    have := hs.ints ei
    subst this
    exact ⟨a, [], rfl, rfl, .inl (.inl ha), fin_V r (fun m => MRep.non) p⟩
  · cases e
theorem b_maxD {a : Addr} {g : Gh} {H : Hp} {σ : L2.St} {ρ : Env} {S : Store} {v : Val} {u : V} {Q : VK} (r : Rel J.k J.md g σ H ρ S) {z : Val} (h : RRep J.k g H v u) (e : biV .maxD [v] = some z) (p : J.Post m true g H σ ρ (.ok z S) Q) : rMnD X.K maxI [u] [V.non] H Q := by
  cases v <;> try cases e
  rename_i xs
  simp only [biV] at e
  obtain ⟨a, us, rfl, ha, hs⟩ := h.lst_of
  split at e
  · rename_i i is ei
    cases e
    have := hs.ints ei
    subst this
    exact ⟨a, i :: is, rfl, rfl, .inl (.inl ha), fin_V r (fun m => MRep.int _) p⟩
  · rename_i ei
    cases e
    have := hs.ints ei
    subst this
    exact ⟨a, [], rfl, rfl, .inl (.inl ha), fin_V r (fun m => MRep.non) p⟩
  · cases e
theorem st_one {e : Expr} {env : PySem.Env} (h : starEach [e] env = (false, eval e env) :: starEach [] env) (pos : Pos) : backTo pos (starEach [e] env) = (false, eval e env) :: backTo pos (starEach [] env) := by
  rw [h]
  rfl
theorem s_mnD {b : Bi} {e : Expr} {ie : E} {p p2 kp : Pos} {j : Nat} {x : Str} (hb : (b = .minD ∧ x = "min") ∨ (b = .maxD ∧ x = "max")) (hc : X.calm = true) (hu : X.A.units + 65 < cLine) (hg : Gl X x) (hm : X.mg x = none) (ha : PA X [e] (J.tA [.P] [ie])) (h1 : ∀ {env : PySem.Env}, starEach [e] env = (false, eval e env) :: starEach [] env) :
    PE X (.Call (.Name x p) [e] [⟨some (Str.ofString "default"), .Constant .none j p2, kp⟩] pos) (J.tE m (.bi b [ie])) := by
  have h2 : (backTo pos (starEach [e] X.env)).any (·.1) = false := by
    rw [st_one h1 pos]
    rfl
  rcases hb with ⟨rfl, rfl⟩ | ⟨rfl, rfl⟩
  · refine PE.imp (pe_callBK (cr_minD hc hu) hg hm boot_min ha (pk_cons pe_non pk_nil) (he := st_one h1 pos) (hpl := h2)) fun σ H Q h => ?_
    obtain ⟨g, ρ, S, r, q⟩ := h
    have hq : pureE (.bi .minD [ie]) = (pureEs [ie] && true) := by simp only [pureE, Bool.and_true]
    simp only [evE] at q
    rw [hq] at q
    refine tA_bind r q fun vs S1 us g1 H1 e1 r1 st mr p1 => ?_
    obtain ⟨v, u, e2, rfl, h⟩ := one_of (evs_len e1) r1.str mr
    rw [e2] at p1
    cases eb : biV .minD [v] with
    | none => rw [eb] at p1; exact p1.elim
    | some z =>
      rw [eb] at p1
      exact b_minD (a := 0) r1 h eb p1
  · refine PE.imp (pe_callBK (cr_maxD hc hu) hg hm boot_max ha (pk_cons pe_non pk_nil) (he := st_one h1 pos) (hpl := h2)) fun σ H Q h => ?_
    obtain ⟨g, ρ, S, r, q⟩ := h
    have hq : pureE (.bi .maxD [ie]) = (pureEs [ie] && true) := by simp only [pureE, Bool.and_true]
    simp only [evE] at q
    rw [hq] at q
    refine tA_bind r q fun vs S1 us g1 H1 e1 r1 st mr p1 => ?_
    obtain ⟨v, u, e2, rfl, h⟩ := one_of (evs_len e1) r1.str mr
    rw [e2] at p1
    cases eb : biV .maxD [v] with
    | none => rw [eb] at p1; exact p1.elim
    | some z =>
      rw [eb] at p1
      exact b_maxD (a := 0) r1 h eb p1
end
end Pv
end

section
set_option Elab.async false
set_option linter.all false
set_option maxRecDepth 100000
set_option autoImplicit false
/-! Pv13s: sorted. -/
namespace Pv
open PySem PySem.Spec PyProof.Rows L2

/-- sorted(l), its items alike data -/
def rSortedD (K : PySem.W.Frag) : List V → Hp → VK → Prop := fun vs H Q => ∃ (a : Addr) (zs : List (V × PyData)), vs = [V.ref a] ∧ SqL K H a (zs.map (·.1)) ∧ (∀ z ∈ zs, Dp K H z.1 z.2) ∧ PySem.W.AllAlike (zs.map (·.2)) ∧ PySem.W.Sortable (zs.map (·.2)) ∧
  (∀ z ∈ zs, z.2.depth ≤ 60) ∧ ∀ p, H p = none → Q (.ref p) (upd H p (.lst ((zs.mergeSort (PySem.W.dataLe false (·.2))).map (·.1))))
theorem each_vals {α : Type} {f : α → V} : ∀ {zs : List α} {us : List Value}, Vals (zs.map f) us → PySem.W.EachIs (fun u z => RelV (f z) u) us zs
  | [], _, h => by cases h; exact .nil
  | z :: zs, us, h => by
    cases h with
    | cons h t => exact .cons h (each_vals t)
theorem vals_each {α : Type} {f : α → V} : ∀ {zs : List α} {us : List Value}, PySem.W.EachIs (fun u z => RelV (f z) u) us zs → Vals (zs.map f) us
  | [], _, h => by cases h; exact .nil
  | z :: zs, us, h => by
    cases h with
    | cons h t => exact .cons h (vals_each t)
theorem cr_sortedD {X : Cx} (hu : X.A.units + 65 < cLine) : CallR X (.builtin "sorted") (rSortedD X.K) := by
  intro pins s σ H vs us Q I r h
  obtain ⟨a, zs, rfl, hs, hd, hal, hk, hdp, q⟩ := h
  obtain ⟨its, rv, hl, hz⟩ := I.list hs
  obtain ⟨u, rfl, ru⟩ := vals1 r
  obtain rfl : u = Value.ref a := ru
  have e := each_vals rv
  have er : PySem.W.EachIs (fun u z => ∃ as, Reads s.heap u z.2 as) its zs := by
    refine PySem.W.EachIs.mono ?_ (PySem.W.each_mem e)
    intro u z ⟨h1, h2⟩
    exact Dp.reads I z.2 z.1 u (hd z h2) h1
  refine PySem.W.sorted_data (enc := fun z : V × PyData => z.2) hl.isList e er hal hk (by simpa using hz) (fun z hz => by have := hdp z hz; omega) fun out ho hR => ?_
  have rv2 := vals_each hR
  obtain ⟨n, hn⟩ := sortedAll_at s.heap its out.toArray
  refine ⟨.ref (s.heap.objs.size + 1), _, I.laid (t' := s.toks) (a := s.heap.objs.size + 1) (o := .lst ((zs.mergeSort (PySem.W.dataLe false (·.2))).map (·.1))) (fun b o hb => sortedAll_old hb) (Nat.le_succ _) ⟨?_, out, n, rv2, hn⟩, rfl, q _ (I.hok.fresh (Nat.le_succ _))⟩
  rw [List.length_map, List.length_mergeSort]
  simpa using hz
/-! ### what is sorted -/
theorem intsOf_mapS : ∀ {xs : List Val} {is : List Int}, intsOf xs = some is → xs = is.map .int
  | [], is, h => by simp only [intsOf, Option.some.injEq] at h; subst h; rfl
  | x :: xs, is, h => by
    cases x <;> simp only [intsOf] at h <;> try (cases h; done)
    rename_i i
    split at h
    · rename_i is' q
      cases h
      rw [intsOf_mapS q]
      rfl
    · cases h
/-- a key as data -/
def keyD : Nat × List Int → PyData
  | (0, i :: _) => .int i
  | (2, is) => .tuple (is.map .int)
  | (_, is) => .list (is.map .int)
theorem toDs_ints : ∀ is : List Int, toDs (is.map Val.int) = is.map PyData.int
  | [] => by simp only [List.map_nil, toDs]
  | i :: is => by simp only [List.map_cons, toDs, toDs_ints is, toD]
theorem dataOks_intsS : ∀ (n : Nat) (is : List Int), dataOks (n + 1) (is.map Val.int) = true
  | n, [] => by simp [dataOks]
  | n, i :: is => by simp only [List.map_cons, dataOks, dataOk, dataOks_intsS n is, Bool.and_self]
/-- the kinds: an int; a tuple that is not empty; a list -/
def keyOk : Nat × List Int → Prop
  | (0, is) => is.length = 1
  | (2, is) => is ≠ []
  | (3, _) => True
  | _ => False
theorem skey_is {v : Val} {k : Nat × List Int} (h : skey v = some k) : toD v = keyD k ∧ dataOk 3 v = true ∧ keyOk k := by
  unfold skey at h
  split at h
  · cases h
    exact ⟨by simp only [toD, keyD], by simp [dataOk], rfl⟩
  · rename_i x xs
    split at h
    · rename_i is q
      cases h
      have e := intsOf_mapS q
      rw [e]
      refine ⟨by simp only [toD, keyD, toDs_ints], by simp only [dataOk, dataOks_intsS], fun z => ?_⟩
      rw [z] at e
      cases e
    · cases h
  · rename_i xs
    split at h
    · rename_i is q
      cases h
      have e := intsOf_mapS q
      rw [e]
      exact ⟨by simp only [toD, keyD, toDs_ints], by simp only [dataOk, dataOks_intsS], trivial⟩
    · cases h
  · cases h
theorem lexLe_lt : ∀ xs ys : List Int, lexLe xs ys = !decide (ys < xs)
  | [], ys => by
    simp [lexLe]
  | x :: xs, [] => by simp [lexLe]
  | x :: xs, y :: ys => by
    simp only [lexLe]
    rw [lexLe_lt xs ys]
    by_cases h1 : x < y
    · have : ¬ y < x := by omega
      have h2 : ¬ y = x := by omega
      simp [h1, this, h2, List.cons_lt_cons_iff]
    · by_cases h2 : y < x
      · simp [h1, h2, List.cons_lt_cons_iff]
      · have : y = x := by omega
        simp [this, List.cons_lt_cons_iff]
theorem key_lt {a b : Nat × List Int} (ha : keyOk a) (hb : keyOk b) (e : a.1 = b.1) : (!PySem.W.dataLt (keyD b) (keyD a)) = lexLe a.2 b.2 := by
  obtain ⟨i, xs⟩ := a
  obtain ⟨j, ys⟩ := b
  simp only at e
  subst e
  rw [lexLe_lt]
  match i, ha, hb with
  | 0, ha, hb =>
    match xs, ys, ha, hb with
    | [x], [y], _, _ =>
      simp only [keyD]
      rw [PySem.W.dataLt_int]
      simp [List.cons_lt_cons_iff]
  | 2, ha, hb =>
    simp only [keyD]
    rw [show PySem.W.dataLt (.tuple (ys.map .int)) (.tuple (xs.map .int)) = PySem.W.rowLt (ys.map .int) (xs.map .int) from rfl, PySem.W.dataLt_ints]
  | 3, ha, hb =>
    simp only [keyD]
    rw [show PySem.W.dataLt (.list (ys.map .int)) (.list (xs.map .int)) = PySem.W.rowLt (ys.map .int) (xs.map .int) from rfl, PySem.W.dataLt_ints]
  | 1, ha, _ => exact ha.elim
  | n + 4, ha, _ => exact ha.elim
theorem key_alike {a b : Nat × List Int} (ha : keyOk a) (hb : keyOk b) (e : a.1 = b.1) : PySem.W.alike (keyD a) (keyD b) = true := by
  obtain ⟨i, xs⟩ := a
  obtain ⟨j, ys⟩ := b
  simp only at e
  subst e
  match i, ha, hb with
  | 0, ha, hb =>
    match xs, ys, ha, hb with
    | [x], [y], _, _ => simp only [keyD, PySem.W.alike]
  | 2, ha, hb => simp only [keyD, PySem.W.alike, PySem.W.alike_ints]
  | 3, ha, hb => simp only [keyD, PySem.W.alike, PySem.W.alike_ints]
  | 1, ha, _ => exact ha.elim
  | n + 4, ha, _ => exact ha.elim
theorem key_depth {a : Nat × List Int} (ha : keyOk a) : (keyD a).depth ≤ 60 := by
  obtain ⟨i, xs⟩ := a
  match i, ha with
  | 0, ha =>
    match xs, ha with
    | [x], _ => simp [keyD, PyData.depth]
  | 2, ha => simp [keyD, PyData.depth, PySem.W.depth_ints]
  | 3, ha => simp [keyD, PyData.depth, PySem.W.depth_ints]
  | 1, ha => exact ha.elim
  | n + 4, ha => exact ha.elim
/-- the items beside their keys -/
theorem keyed_all {k : Kx} {F : Hp} {ι : Nat → Option Addr} : ∀ {xs : List Val} {us : List V} {ks : List (Nat × List Int × Val)}, VReps k F ι xs us → keyed xs = some ks →
    ∃ l : List ((Nat × List Int) × Val × V), ks = l.map (fun p => (p.1.1, p.1.2, p.2.1)) ∧ us = l.map (·.2.2) ∧ ∀ p ∈ l, VRep k F ι p.2.1 p.2.2 ∧ skey p.2.1 = some p.1
  | [], us, ks, h, e => by
    simp only [VReps] at h
    simp only [keyed, Option.some.injEq] at e
    subst h e
    exact ⟨[], rfl, rfl, fun _ h => nomatch h⟩
  | x :: xs, us, ks, h, e => by
    simp only [VReps] at h
    obtain ⟨u, r, rfl, h1, h2⟩ := h
    simp only [keyed] at e
    split at e
    · rename_i a as e1 e2
      cases e
      obtain ⟨l, rfl, rfl, hl⟩ := keyed_all h2 e2
      refine ⟨(a, x, u) :: l, rfl, rfl, fun p hp => ?_⟩
      rcases List.mem_cons.mp hp with rfl | hp
      · exact ⟨h1, e1⟩
      · exact hl p hp
    · cases e
theorem vreps_map {k : Kx} {F : Hp} {ι : Nat → Option Addr} {α : Type} {f : α → Val} {f' : α → V} : ∀ {l : List α}, (∀ p ∈ l, VRep k F ι (f p) (f' p)) → VReps k F ι (l.map f) (l.map f')
  | [], _ => by simp only [List.map_nil, VReps]
  | p :: l, h => by
    simp only [List.map_cons, VReps]
    exact ⟨_, _, rfl, h p (List.mem_cons_self ..), vreps_map fun q hq => h q (List.mem_cons_of_mem _ hq)⟩
theorem same_all {ks : List (Nat × List Int × Val)} (h : sameKind ks = true) : ∀ a ∈ ks, ∀ b ∈ ks, a.1 = b.1 := by
  cases ks with
  | nil => intro a ha; cases ha
  | cons x r =>
    simp only [sameKind, List.all_eq_true, beq_iff_eq] at h
    have e : ∀ a ∈ x :: r, a.1 = x.1 := fun a ha => by
      rcases List.mem_cons.mp ha with rfl | ha
      · rfl
      · exact h a ha
    intro a ha b hb
    rw [e a ha, e b hb]
section
variable {X : Cx} {J : Jx} {m : Md}
theorem b_sorted {ms : List Md} : BiOk J m .sorted ms 1 (rSortedD X.K) := by
  intro g H σ ρ S vs us z Q hl r mr e p
  obtain ⟨v, u, e1, rfl, h⟩ := one_of hl r.str mr
  rw [e1] at e
  cases v with
  | lst xs =>
    simp only [biV] at e
    cases es : sortV xs with
    | none => rw [es] at e; cases e
    | some ys =>
      rw [es] at e
      cases e
      unfold sortV at es
      split at es
      · rename_i ks hk
        split at es
        · rename_i hsame
          cases es
          obtain ⟨a, us, rfl, ha, hs⟩ := h.lst_of
          obtain ⟨l, rfl, rfl, hl⟩ := keyed_all hs hk
          have same := same_all hsame
          have same : ∀ p ∈ l, ∀ q ∈ l, p.1.1 = q.1.1 := fun p hp q hq => same _ (List.mem_map.mpr ⟨p, hp, rfl⟩) _ (List.mem_map.mpr ⟨q, hq, rfl⟩)
          let f : (Nat × List Int) × Val × V → V × PyData := fun p => (p.2.2, keyD p.1)
          have ok : ∀ p ∈ l, keyOk p.1 := fun p hp => (skey_is (hl p hp).2).2.2
          have e1 : ((l.map f).mergeSort (PySem.W.dataLe false (·.2))) = (l.mergeSort fun p q => lexLe p.1.2 q.1.2).map f := by
            refine (PySem.W.sort_maps f fun p hp q hq => ?_).symm
            exact (key_lt (ok p hp) (ok q hq) (same p hp q hq)).symm
          have e2 : ((l.map (fun p => (p.1.1, p.1.2, p.2.1))).mergeSort fun a b => lexLe a.2.1 b.2.1) = (l.mergeSort fun p q => lexLe p.1.2 q.1.2).map (fun p => (p.1.1, p.1.2, p.2.1)) :=
            (PySem.W.sort_maps (fun p : (Nat × List Int) × Val × V => (p.1.1, p.1.2, p.2.1)) fun p hp q hq => rfl).symm
          refine ⟨a, l.map f, rfl, ?_, fun z hz => ?_, ?_, ?_, fun z hz => ?_, ?_⟩
          · rw [List.map_map]
            exact .inl (.inl ha)
          · obtain ⟨p, hp, rfl⟩ := List.mem_map.mp hz
            have h3 := skey_is (hl p hp).2
            show Dp X.K H p.2.2 (keyD p.1)
            rw [← h3.1]
            exact dp_of 3 p.2.1 p.2.2 (hl p hp).1 h3.2.1
          · intro d hd d' hd'
            rw [List.map_map] at hd hd'
            obtain ⟨p, hp, rfl⟩ := List.mem_map.mp hd
            obtain ⟨q, hq, rfl⟩ := List.mem_map.mp hd'
            exact key_alike (ok p hp) (ok q hq) (same p hp q hq)
          · rw [List.map_map]
            by_cases ht : ∃ p ∈ l, p.1.1 = 2
            · obtain ⟨p0, hp0, t0⟩ := ht
              refine .inl fun d hd => ?_
              obtain ⟨p, hp, rfl⟩ := List.mem_map.mp hd
              have t := (same p hp p0 hp0).trans t0
              have o := ok p hp
              show ∃ x r, keyD p.1 = .tuple (x :: r)
              obtain ⟨⟨i, is⟩, y⟩ := p
              simp only at t
              subst t
              cases is with
              | nil => exact absurd rfl o
              | cons i is => exact ⟨.int i, is.map .int, rfl⟩
            · refine .inr fun d hd => ?_
              obtain ⟨p, hp, rfl⟩ := List.mem_map.mp hd
              have t : p.1.1 ≠ 2 := fun z => ht ⟨p, hp, z⟩
              have o := ok p hp
              show keyD p.1 ≠ .none ∧ ∀ xs, keyD p.1 ≠ .tuple xs
              obtain ⟨⟨i, is⟩, y⟩ := p
              match i, t, o with
              | 0, t, o =>
                match is, o with
                | [x], _ => exact ⟨(fun z => nomatch z), fun xs z => nomatch z⟩
              | 3, t, o => exact ⟨(fun z => nomatch z), fun xs z => nomatch z⟩
              | 2, t, o => exact absurd rfl t
              | 1, _, o => exact o.elim
              | n + 4, _, o => exact o.elim
          · obtain ⟨p, hp, rfl⟩ := List.mem_map.mp hz
            exact key_depth (ok p hp)
          · rw [e1, List.map_map]
            rw [e2, List.map_map] at p
            refine fin_lst r (vreps_map fun q hq => ?_) p
            exact (hl q ((List.mergeSort_perm _ _).mem_iff.mp hq)).1
        · cases es
      · cases es
  | _ => simp only [biV] at e; cases e
end
end Pv
end

section
set_option Elab.async false
set_option linter.all false
set_option maxRecDepth 100000
set_option autoImplicit false
/-! Pv14: isinstance; statements. -/
namespace Pv
open PySem PySem.Spec PyProof.Rows L2

section
variable {X : Cx} {J : Jx} {m : Md} {pos : Pos}
theorem evE_isi (x : Cfg) (a : E) (t : Ty) (ρ : Env) (S : Store) : evE x (.isi a t) ρ S = (evE x a ρ S).bind fun v S1 => match tyV x.G S1 (deref S1 v) t with
    | some b => .ok (.bl b) S1
    | none => .stuck := by
  simp only [evE] <;> rfl
theorem isi_imp {ia : E} {t : Ty} (hb : tyB t = true) (σ : L2.St) (H : Hp) (Q : VK) (h : J.tE m (.isi ia t) σ H Q) :
    tCB (rIsi X.K) (tCons (J.tE .B ia) (tCons (tC (.ty (tyN t))) tNil)) σ H Q := by
  obtain ⟨g, ρ, S, r, p⟩ := h
  have hq : pureE (.isi ia t) = (pureE ia && true) := by simp only [pureE, Bool.and_true]
  rw [evE_isi, hq] at p
  refine tE_bindS r p fun v S1 u g1 H1 e1 r1 st1 mr1 p1 => ?_
  cases et : tyV J.x.G S1 (deref S1 v) t with
  | none => simp only [et] at p1; exact p1.elim
  | some b =>
    simp only [et] at p1
    have hf : flatTy (deref S1 v) = true := by
      cases hv : deref S1 v with
      | obj c fs => rw [hv] at et; cases t <;> first | exact Bool.noConfusion hb | (simp only [tyV] at et; cases et)
      | ref n => rw [hv] at et; cases t <;> first | exact Bool.noConfusion hb | (simp only [tyV] at et; cases et)
      | exc c => rw [hv] at et; cases t <;> first | exact Bool.noConfusion hb | (simp only [tyV] at et; cases et)
      | scr c => rw [hv] at et; simp only [tyV] at et; cases et
      | _ => rfl
    obtain ⟨tv, ht, hk⟩ := isi_r (K := X.K) hb hf (deref_R r1.str mr1.R) et
    exact ⟨u, .ty (tyN t), tv, .type (tyN t), b, rfl, .ty _, ht, hk, fin_V r1 (fun m => MRep.bl _) p1⟩
theorem s_isi {ia : E} {t : Ty} {a : Expr} {x1 : Str} {p1 p2 : Pos} (hb : tyB t = true) (hg : Gl X "isinstance") (hm : X.mg "isinstance" = none) (hx : x1 = Str.ofString (tyN t)) (hg2 : Gl X x1) (hm2 : X.mg x1 = none) (ha : PE X a (J.tE .B ia))
    (hs : starEach (a :: [.Name x1 p2]) X.env = (false, eval a X.env) :: starEach [.Name x1 p2] X.env) : PE X (.Call (.Name "isinstance" p1) [a, .Name x1 p2] [] pos) (J.tE m (.isi ia t)) := by
  subst hx
  have h2 : PE X (.Name (Str.ofString (tyN t)) p2) (tC (.ty (tyN t))) := by
    cases t <;> first
      | exact Bool.noConfusion hb
      | exact pe_bltn hg2 hm2 boot_int rfl
      | exact pe_bltn hg2 hm2 boot_bool rfl
      | exact pe_bltn hg2 hm2 boot_str rfl
      | exact pe_bltn hg2 hm2 boot_list rfl
      | exact pe_bltn hg2 hm2 boot_tuple rfl
      | exact pe_bltn hg2 hm2 boot_dict rfl
  exact PE.imp (pe_callB call_isi hg hm boot_isinstance (pa_cons ha (pa_cons h2 pa_nil) hs) (he := hs)) (isi_imp hb)
end

/-! ### readings of statements -/
structure Jr extends Jx where
  rm : Md
def Jr.PostS (J : Jr) (g : Gh) (H : Hp) (r : RS) (D : Ends) : Prop := match r with
  | .nx ρ S => ∀ σ g' H', Rel J.k J.md g' σ H' ρ S → StepS g H g' H' → D.nx σ H'
  | .brk ρ S => ∀ σ g' H', Rel J.k J.md g' σ H' ρ S → StepS g H g' H' → D.bk σ H'
  | .cnt ρ S => ∀ σ g' H', Rel J.k J.md g' σ H' ρ S → StepS g H g' H' → D.ct σ H'
  | .ret v S => ∀ u g' H', SRel J.k g' H' S → StepS g H g' H' → MRep J.k g' H' J.rm v u → D.rt u H'
  | .exn c ρ S => ∀ σ g' H', Rel J.k J.md g' σ H' ρ S → StepS g H g' H' → J.W (.ref (J.k.ca c)) none σ H'
  | .stuck => False
def Jr.tS (J : Jr) (s : S) : TS := fun D σ H => ∃ g ρ S, Rel J.k J.md g σ H ρ S ∧ J.PostS g H (evS J.x s ρ S) D
def Jr.tSs (J : Jr) (s : List S) : TS := fun D σ H => ∃ g ρ S, Rel J.k J.md g σ H ρ S ∧ J.PostS g H (evSs J.x s ρ S) D
theorem PS.imp {X : Cx} {st : Stmt} {t t' : TS} (h : PS X st t) (w : ∀ D σ H, t' D σ H → t D σ H) : PS X st t' := ⟨fun pins s σ H D I q => h.run pins s σ H D I (w D σ H q)⟩
theorem PSs.imp {X : Cx} {st : List Stmt} {t t' : TS} (h : PSs X st t) (w : ∀ D σ H, t' D σ H → t D σ H) : PSs X st t' := ⟨fun pins s σ H D I q => h.run pins s σ H D I (w D σ H q)⟩
section
variable {X : Cx} {J : Jr} {m : Md} {pos : Pos} {g g' : Gh} {H H' : Hp} {σ : L2.St} {ρ : Env} {S : Store} {D : Ends}
theorem postS_after {r : RS} (p : J.PostS g H r D) (st : StepS g H g' H') : J.PostS g' H' r D := by
  cases r with
  | nx ρ S => exact fun σ g2 H2 r2 s2 => p σ g2 H2 r2 (st.trans s2)
  | brk ρ S => exact fun σ g2 H2 r2 s2 => p σ g2 H2 r2 (st.trans s2)
  | cnt ρ S => exact fun σ g2 H2 r2 s2 => p σ g2 H2 r2 (st.trans s2)
  | ret v S => exact fun u g2 H2 r2 s2 => p u g2 H2 r2 (st.trans s2)
  | exn c ρ S => exact fun σ g2 H2 r2 s2 => p σ g2 H2 r2 (st.trans s2)
  | stuck => exact p
/-- an expression within a statement -/
theorem tE_bindR {m1 : Md} {e : E} {f : Val → Store → RS} {Q1 : VK} (r : Rel J.k J.md g σ H ρ S) (h : J.PostS g H ((evE J.x e ρ S).toS ρ f) D)
    (hn : ∀ v S' u g' H', evE J.x e ρ S = .ok v S' → Rel J.k J.md g' σ H' ρ S' → Step (pureE e) g H g' H' → MRep J.k g' H' m1 v u → J.PostS g' H' (f v S') D → Q1 u H') : J.tE m1 e σ H Q1 := by
  refine ⟨g, ρ, S, r, ?_⟩
  cases ev : evE J.x e ρ S with
  | ok v S1 =>
    rw [ev] at h
    exact fun u g2 H2 r2 s mr => hn v S1 u g2 H2 ev r2 s mr (postS_after h s.toS)
  | exn c S1 =>
    rw [ev] at h
    exact fun g2 H2 r2 s => h σ g2 H2 r2 s.toS
  | stuck =>
    rw [ev] at h
    exact h.elim
theorem ss_nil : PSs X [] (J.tSs []) := by
  refine PSs.imp pss_nil fun D σ H h => ?_
  obtain ⟨g, ρ, S, r, p⟩ := h
  simp only [evSs] at p
  exact p σ g H r StepS.refl
theorem ss_cons {st : Stmt} {rest : List Stmt} {is : _root_.Pv.S} {ir : List _root_.Pv.S} (h1 : PS X st (J.tS is)) (h2 : PSs X rest (J.tSs ir)) : PSs X (st :: rest) (J.tSs (is :: ir)) := by
  refine PSs.imp (pss_cons h1 h2) fun D σ H h => ?_
  obtain ⟨g, ρ, S, r, p⟩ := h
  refine ⟨g, ρ, S, r, ?_⟩
  simp only [evSs] at p
  cases ev : evS J.x is ρ S with
  | nx ρ1 S1 =>
    rw [ev] at p
    exact fun σ1 g1 H1 r1 st => ⟨g1, ρ1, S1, r1, postS_after p st⟩
  | brk ρ1 S1 => rw [ev] at p; exact p
  | cnt ρ1 S1 => rw [ev] at p; exact p
  | ret v S1 => rw [ev] at p; exact p
  | exn c ρ1 S1 => rw [ev] at p; exact p
  | stuck => rw [ev] at p; exact p
theorem s_pas : PS X (.Pass pos) (J.tS .pas) := by
  refine PS.imp ps_pass fun D σ H h => ?_
  obtain ⟨g, ρ, S, r, p⟩ := h
  simp only [evS] at p
  exact p σ g H r StepS.refl
theorem s_brk : PS X (.Break pos) (J.tS .brk) := by
  refine PS.imp ps_break fun D σ H h => ?_
  obtain ⟨g, ρ, S, r, p⟩ := h
  simp only [evS] at p
  exact p σ g H r StepS.refl
theorem s_cnt : PS X (.Continue pos) (J.tS .cnt) := by
  refine PS.imp ps_continue fun D σ H h => ?_
  obtain ⟨g, ρ, S, r, p⟩ := h
  simp only [evS] at p
  exact p σ g H r StepS.refl
theorem s_nev {st : Stmt} : PS X st (J.tS .nev) := by
  refine PS.imp ps_never fun D σ H h => ?_
  obtain ⟨g, ρ, S, r, p⟩ := h
  simp only [evS] at p
  exact p.elim
theorem s_ex {e : Expr} {ie : E} (he : PE X e (J.tE .B ie)) (hs : swapsWith e none pos.line X.env = pure false) : PS X (.Expr e pos) (J.tS (.ex ie)) := by
  refine PS.imp (ps_expr he hs) fun D σ H h => ?_
  obtain ⟨g, ρ, S, r, p⟩ := h
  simp only [evS] at p
  exact tE_bindR r p fun v S1 u g1 H1 e1 r1 st1 mr1 p1 => p1 σ g1 H1 r1 StepS.refl
theorem s_ret {e : Expr} {ie : E} (he : PE X e (J.tE J.rm ie)) : PS X (.Return (some e) pos) (J.tS (.ret ie)) := by
  refine PS.imp (ps_ret he) fun D σ H h => ?_
  obtain ⟨g, ρ, S, r, p⟩ := h
  simp only [evS] at p
  exact tE_bindR r p fun v S1 u g1 H1 e1 r1 st1 mr1 p1 => p1 u g1 H1 r1.str StepS.refl mr1
theorem s_retN : PS X (.Return none pos) (J.tS .retN) := by
  refine PS.imp ps_retN fun D σ H h => ?_
  obtain ⟨g, ρ, S, r, p⟩ := h
  simp only [evS] at p
  exact p .non g H r.str StepS.refl MRep.non
theorem s_if {c : Expr} {a b : List Stmt} {ic : E} {ia ib : List _root_.Pv.S} (hc : PT X c (J.tT ic)) (ha : PSs X a (J.tSs ia)) (hb : PSs X b (J.tSs ib)) : PS X (.If c a b pos) (J.tS (.ife ic ia ib)) := by
  refine PS.imp (ps_if hc ha hb) fun D σ H h => ?_
  obtain ⟨g, ρ, S, r, p⟩ := h
  simp only [evS] at p
  refine tE_bindR r p fun v S1 u g1 H1 e1 r1 st1 mr1 p1 => ?_
  cases v with
  | bl c =>
    refine ⟨c, mr1.R.bl_of, ?_⟩
    cases c with
    | true => exact ⟨g1, ρ, S1, r1, p1⟩
    | false => exact ⟨g1, ρ, S1, r1, p1⟩
  | _ => exact p1.elim
theorem s_whil {c : Expr} {body : List Stmt} {ic : E} {ib : List _root_.Pv.S} (hp : PassesOwn (model X.prog X.w) X.A X.env X.xe) (hc : PT X c (J.tT ic)) (hb : PSs X body (J.tSs ib)) : PS X (.While c body [] pos) (J.tS (.whil ic ib)) := by
  refine PS.imp (ps_while hp hc hb) fun D σ H h => ?_
  obtain ⟨g, ρ, S, r, p⟩ := h
  simp only [evS] at p
  refine ⟨fun n σ H => ∃ g ρ S, Rel J.k J.md g σ H ρ S ∧ J.PostS g H (whileL (evE J.x ic) (evSs J.x ib) n ρ S) D, ⟨_, g, ρ, S, r, p⟩, ?_⟩
  rintro n σ H ⟨g, ρ, S, r, p⟩
  cases n with
  | zero => exact p.elim
  | succ n =>
    simp only [whileL] at p
    refine ⟨g, ρ, S, r, ?_⟩
    cases ev : evE J.x ic ρ S with
    | ok v S1 =>
      rw [ev] at p
      intro u g1 H1 r1 st1 mr1
      cases v with
      | bl b =>
        refine ⟨b, mr1.R.bl_of, ?_⟩
        cases b with
        | true =>
          rw [if_pos rfl]
          simp only at p
          refine ⟨fun σ H => ∃ g ρ S, Rel J.k J.md g σ H ρ S ∧ J.PostS g H (whileL (evE J.x ic) (evSs J.x ib) n ρ S) D, fun σ' H' h => ⟨n, Nat.lt_succ_self n, h⟩, g1, ρ, S1, r1, ?_⟩
          have p' := postS_after p st1.toS
          cases ev2 : evSs J.x ib ρ S1 with
          | nx ρ2 S2 =>
            rw [ev2] at p'
            exact fun σ2 g2 H2 r2 st2 => ⟨g2, ρ2, S2, r2, postS_after p' st2⟩
          | cnt ρ2 S2 =>
            rw [ev2] at p'
            exact fun σ2 g2 H2 r2 st2 => ⟨g2, ρ2, S2, r2, postS_after p' st2⟩
          | brk ρ2 S2 => rw [ev2] at p'; exact p'
          | ret v S2 => rw [ev2] at p'; exact p'
          | exn c ρ2 S2 => rw [ev2] at p'; exact p'
          | stuck => rw [ev2] at p'; exact p'
        | false =>
          rw [if_neg Bool.false_ne_true]
          exact p σ g1 H1 r1 st1.toS
      | _ => exact p.elim
    | exn c S1 =>
      rw [ev] at p
      exact fun g1 H1 r1 st1 => p σ g1 H1 r1 st1.toS
    | stuck => rw [ev] at p; exact p.elim
theorem s_for {tg iter : Expr} {body : List Stmt} {it : E} {itg : Tg} {ib : List _root_.Pv.S} (hp : PassesOwn (model X.prog X.w) X.A X.env X.xe) (hc : X.calm = true) (hi : PI X tg iter (J.tI it)) (hg : PG X tg (J.tG itg)) (hb : PSs X body (J.tSs ib))
    (hs : ∀ x, foldedSetIterable iter X.env x = pure x) : PS X (.For tg iter body [] pos) (J.tS (.for' itg it ib)) := by
  refine PS.imp (ps_for hp hc hi hg hb hs) fun D σ H h => ?_
  obtain ⟨g, ρ, S, r, p⟩ := h
  have ev0 : evS J.x (.for' itg it ib) ρ S = (evE J.x it ρ S).toS ρ fun v S1 => match srcOf v S1 with
    | some (xs, P) => chkS P (forL (chkF P (fun y ρ S => match bindT itg y ρ with
      | some ρ1 => evSs J.x ib ρ1 S
      | none => .stuck)) xs ρ S1)
    | none => .stuck := by
    have e1 : ∀ f : Val → Env → Store → RS, chkF anyP f = f := fun f => by
      funext y ρ S
      unfold chkF anyP
      rw [if_pos trivial]
    have e2 : ∀ q : RS, chkS anyP q = q := fun q => by
      unfold chkS anyP
      cases q <;> first | rfl | exact if_pos trivial
    simp only [evS]
    congr 1
    funext v S1
    unfold srcOf
    cases h1 : itemsV v with
    | some xs =>
      simp only [e1, e2] <;> rfl
    | none =>
      simp only
      cases h2 : refL v S1 with
      | none => rfl
      | some q => rfl
  rw [ev0] at p
  refine ⟨g, ρ, S, r, ?_⟩
  cases ev : evE J.x it ρ S with
  | exn c S1 =>
    rw [ev] at p
    exact fun g1 H1 r1 st1 => p σ g1 H1 r1 st1.toS
  | stuck => rw [ev] at p; exact p.elim
  | ok v S1 =>
    rw [ev] at p
    simp only [_root_.Pv.R.toS] at p
    cases ei : srcOf v S1 with
    | none => rw [ei] at p; exact p.elim
    | some q =>
      obtain ⟨xs, P⟩ := q
      rw [ei] at p
      simp only at p
      refine ⟨xs, P, ei, fun It g1 H1 r1 st1 ok => ?_⟩
      obtain ⟨Gd, Y, wk, st⟩ := ok
      have p1 := postS_after p st1.toS
      generalize hF : (fun (y : Val) (ρ : Env) (S : Store) => (match bindT itg y ρ with
        | some ρ1 => evSs J.x ib ρ1 S
        | none => .stuck : RS)) = F at p1
      have inP : ∀ {g : Gh} {H : Hp} {ys : List Val} {ρ : Env} {S : Store}, J.PostS g H (chkS P (forL (chkF P F) ys ρ S)) D → P S := fun {g H ys ρ S} q => by
        cases ys with
        | nil =>
          simp only [forL, chkS] at q
          split at q
          · assumption
          · exact q.elim
        | cons y ys =>
          simp only [forL] at q
          unfold chkF at q
          by_cases hp : P S
          · exact hp
          · rw [if_neg hp] at q
            exact q.elim
      refine for_it wk (fun i σ H => ∃ g ρ S, Rel J.k J.md g σ H ρ S ∧ StepS g1 H1 g H ∧ J.PostS g H (chkS P (forL (chkF P F) (xs.drop i) ρ S)) D) ⟨g1, ρ, S1, r1, StepS.refl, p1⟩ ?_ ?_ ?_
      · rintro i σ' H' hi ⟨g', ρ', S', r', st', p'⟩
        exact (st g' H' S' st' r'.str (inP p')).1
      · rintro i x σ' H' H2 hi ⟨g', ρ', S', r', st', p'⟩ y
        have hp := inP p'
        obtain ⟨v0, hx, hy⟩ := (st g' H' S' st' r'.str hp).2 i x H2 hi y
        obtain ⟨g2, r2, st2, mr2⟩ := hy J.md σ' ρ' r'
        have hdrop : xs.drop i = v0 :: xs.drop (i + 1) := by
          obtain ⟨hi', e⟩ := List.getElem?_eq_some_iff.mp hx
          rw [List.drop_eq_getElem_cons hi', e]
        rw [hdrop] at p'
        simp only [forL] at p'
        have eF : chkF P F v0 ρ' S' = F v0 ρ' S' := by
          unfold chkF
          rw [if_pos hp]
        rw [eF, ← hF] at p'
        simp only at p'
        cases eb : bindT itg v0 ρ' with
        | none => rw [eb] at p'; exact p'.elim
        | some ρ1 =>
          rw [eb] at p'
          refine ⟨g2, ρ', S', v0, ρ1, r2, mr2, eb, fun σ1 r3 _ => ⟨g2, ρ1, S', r3, ?_⟩⟩
          have p2 := postS_after p' st2.toS
          simp only at p2
          cases ev2 : evSs J.x ib ρ1 S' with
          | nx ρ2 S2 =>
            rw [ev2] at p2
            rw [hF] at p2
            exact fun σ2 g3 H3 r4 st3 => ⟨g3, ρ2, S2, r4, (st'.trans st2.toS).trans st3, postS_after p2 st3⟩
          | cnt ρ2 S2 =>
            rw [ev2] at p2
            rw [hF] at p2
            exact fun σ2 g3 H3 r4 st3 => ⟨g3, ρ2, S2, r4, (st'.trans st2.toS).trans st3, postS_after p2 st3⟩
          | brk ρ2 S2 =>
            rw [ev2] at p2
            simp only [chkS] at p2
            split at p2
            · exact p2
            · exact p2.elim
          | ret v S2 => rw [ev2] at p2; exact p2
          | exn c ρ2 S2 => rw [ev2] at p2; exact p2
          | stuck => rw [ev2] at p2; exact p2
      · rintro σ' H' ⟨g', ρ', S', r', st', p'⟩
        have hp := inP p'
        rw [List.drop_length] at p'
        simp only [forL, chkS] at p'
        rw [if_pos hp] at p'
        exact p' σ' g' H' r' StepS.refl
end
end Pv
end

section
set_option Elab.async false
set_option linter.all false
set_option maxRecDepth 100000
set_option autoImplicit false
/-! Pv15: assignments, moves, changes of an own list. -/
namespace Pv
open PySem PySem.Spec PyProof.Rows L2

section
variable {k : Kx} {md : Sl} {g g' : Gh} {H H' : Hp} {σ : L2.St} {ρ : Env} {S S' : Store}
theorem coll_cases {v : Val} (h : isColl v) : (∃ xs, v = .lst xs) ∨ (∃ xs, v = .dK xs) ∨ ∃ xs, v = .dT xs := by
  cases v <;> first
    | exact .inl ⟨_, rfl⟩
    | exact .inr (.inl ⟨_, rfl⟩)
    | exact .inr (.inr ⟨_, rfl⟩)
    | exact h.elim
/-- a fresh result's address goes to a slot -/
theorem put_sl {a : Addr} {o : HO} {i : Nat} (t : g.T a = .rt) (ha : H a = some o) (no : ∀ xs, o ≠ .tup xs) (r : Rel k md g σ H ρ S) : Rel k md (g.put a (.sl i)) σ H ρ S ∧ Keep g H (g.put a (.sl i)) H := by
  have ne : ∀ b, g.T b ≠ .rt → (g.put a (.sl i)).T b = g.T b := fun b h => put_ne fun e => h (by rw [e]; exact t)
  have kp : Keep g H (g.put a (.sl i)) H := ⟨fun b h => ⟨ne b (by rcases h with h | h | ⟨_, h⟩ | ⟨_, _, h⟩ <;> rw [h] <;> intro z <;> cases z), rfl⟩, fun _ _ h => h⟩
  refine ⟨kp.rel (fun j v e b hb => ⟨ne b (by rw [hb]; intro z; cases z), rfl⟩) r ⟨r.str.no, fun n f b c hb hc => ?_, fun b hb => ?_, fun b xs e => ?_⟩, kp⟩
  · have h1 : b ≠ a := fun e => by rw [e, put_same] at hb; cases hb
    have h2 : c ≠ a := fun e => by rw [e, put_same] at hc; cases hc
    rw [put_ne h1] at hb
    rw [put_ne h2] at hc
    exact r.str.uniq n f b c hb hc
  · by_cases h : b = a
    · rw [h, ha]
      intro z
      cases z
    · rw [put_ne h] at hb
      exact r.str.wf b hb
  · by_cases h : b = a
    · rw [h, ha] at e
      exact absurd (Option.some.inj e) (no xs)
    · rw [put_ne h]
      exact r.str.tup b xs e
theorem stepS_put {a : Addr} {t : Tag} (h : g.T a = .rt ∨ g.T a = .no ∨ ∃ i, g.T a = .sl i) : StepS g H (g.put a t) H := by
  have ne : ∀ b, (g.T b = .fz ∨ g.T b = .br ∨ (∃ n, g.T b = .st n) ∨ ∃ n f, g.T b = .fo n f) → (g.put a t).T b = g.T b := fun b hb => put_ne fun e => by
    subst e
    rcases h with h | h | ⟨_, h⟩ <;> rw [h] at hb <;> rcases hb with z | z | ⟨_, z⟩ | ⟨_, _, z⟩ <;> cases z
  refine ⟨fun b hb => ⟨ne b (hb.imp id .inl), rfl⟩, fun b n hb => ?_, fun b n f hb => ?_, fun _ _ h => h, fun _ _ _ _ _ _ => rfl⟩
  · rw [ne b (.inr (.inr (.inl ⟨n, hb⟩)))]
    exact hb
  · rw [ne b (.inr (.inr (.inr ⟨n, f, hb⟩)))]
    exact hb
theorem rel_own {i : Nat} {v : Val} {u : V} (r : Rel k md g σ H ρ S) (hx : hxOk md i) (hm : md.l.getD i .shr = .own) (h : MRep k g H .O v u) : ∃ g', Rel k md g' (σ.set i (some u)) H (ρ.set i (some v)) S ∧ StepS g H g' H := by
  by_cases hc : isColl v
  · have go : ∀ {a : Addr} {o : HO}, g.T a = .rt → H a = some o → (∀ xs, o ≠ .tup xs) → (∀ g', Keep g H g' H → g'.T a = .sl i → SRep k g' H i .own v u) → ∃ g', Rel k md g' (σ.set i (some u)) H (ρ.set i (some v)) S ∧ StepS g H g' H := fun {a o} t ha no f => by
      obtain ⟨r1, kp⟩ := put_sl (i := i) t ha no r
      exact ⟨_, rel_set r1 hx (by rw [hm]; exact f _ kp put_same), stepS_put (.inl t)⟩
    rcases coll_cases hc with ⟨xs, rfl⟩ | ⟨xs, rfl⟩ | ⟨xs, rfl⟩
    · obtain ⟨a, us, rfl, ⟨t, ha⟩, hs⟩ := (show ∃ a us, u = .ref a ∧ OP g H .rt a (.lst us) ∧ _ from h)
      exact go t ha (fun _ z => nomatch z) fun g' kp t' => ⟨a, us, rfl, ⟨t', ha⟩, kp.vs hs⟩
    · obtain ⟨a, us, rfl, ⟨t, ha⟩, hs⟩ := (show ∃ a us, u = .ref a ∧ OP g H .rt a (.dK us) ∧ _ from h)
      exact go t ha (fun _ z => nomatch z) fun g' kp t' => ⟨a, us, rfl, ⟨t', ha⟩, VKs.mono kp.fz kp.ι _ _ hs⟩
    · obtain ⟨a, us, rfl, ⟨t, ha⟩, hs⟩ := (show ∃ a us, u = .ref a ∧ OP g H .rt a (.dT us) ∧ _ from h)
      exact go t ha (fun _ z => nomatch z) fun g' kp t' => ⟨a, us, rfl, ⟨t', ha⟩, VTs.mono kp.fz kp.ι _ _ hs⟩
  · refine ⟨g, rel_set r hx ?_, StepS.refl⟩
    rw [hm]
    cases v <;> first | exact h | exact absurd trivial hc
/-- a slot's name for what it holds -/
theorem rel_fill {i : Nat} {v : Val} {u : V} (r : Rel k md g σ H ρ S) (hx : hxOk md i) (hu : σ[i]? = some (some u)) (h : SRep k g H i (md.l.getD i .shr) v u) : Rel k md g σ H (ρ.set i (some v)) S := by
  refine ⟨by rw [List.length_set]; exact r.len, r.lenσ, fun j w e => ?_, fun j a c e => ?_, r.str⟩
  · rw [set_at] at e
    split at e
    · rename_i hj
      cases e
      obtain ⟨rfl, hl⟩ := hj
      exact ⟨u, hu, h⟩
    · exact r.slot j w e
  · have n := hx j a c e
    rw [set_at, if_neg (fun z => n z.1.symm)]
    exact r.hx j a c e
/-- an own list is changed -/
theorem rel_mut {i : Nat} {a : Addr} {o : HO} {v : Val} (r : Rel k md g σ H ρ S) (hx : hxOk md i) (hm : md.l.getD i .shr = .own) (t : g.T a = .sl i) (hu : σ[i]? = some (some (.ref a))) (no : ∀ xs, o ≠ .tup xs)
    (h : ∀ H', Keep g H g H' → H' a = some o → SRep k g H' i .own v (.ref a)) : Rel k md g σ (upd H a o) (ρ.set i (some v)) S ∧ StepS g H g (upd H a o) := by
  have ne : ∀ b, g.T b ≠ .sl i → b ≠ a := fun b hb e => hb (by rw [e]; exact t)
  have kp : Keep g H g (upd H a o) := ⟨fun b hb => ⟨rfl, upd_ne (ne b (by rcases hb with z | z | ⟨_, z⟩ | ⟨_, _, z⟩ <;> rw [z] <;> intro z <;> cases z))⟩, fun _ _ h => h⟩
  refine ⟨?_, ⟨fun b hb => ⟨rfl, upd_ne (ne b (by rcases hb with z | z <;> rw [z] <;> intro z <;> cases z))⟩, fun _ _ h => h, fun _ _ _ h => h, fun _ _ h => h, fun b n ob w tb z => upd_ne (ne b (by rw [tb]; intro z; cases z))⟩⟩
  have r1 := kp.rel (ρ := ρ.set i none) (fun j w e b hb => ⟨rfl, upd_ne (ne b (by
    rw [hb]
    intro z
    cases z
    rw [set_at] at e
    split at e
    · cases e
    · rename_i hn
      rw [List.getElem?_eq_none (by
        by_cases hl : i < ρ.length
        · exact absurd ⟨rfl, hl⟩ hn
        · omega)] at e
      cases e))⟩) (rel_drop r hx) (side_upd r.str.side no)
  have r2 := rel_fill (v := v) r1 hx hu (by rw [hm]; exact h _ kp upd_same)
  rw [List.set_set] at r2
  exact r2
/-! ### moved slots -/
def shrAll (l : List Mode) : List Nat → List Mode
  | [] => l
  | i :: r => (shrAll l r).set i .shr
theorem shrAll_len (l : List Mode) : ∀ is, (shrAll l is).length = l.length
  | [] => rfl
  | i :: r => by
    unfold shrAll
    rw [List.length_set, shrAll_len l r]
theorem getD_eq {l : List Mode} {j : Nat} : l.getD j .shr = (l[j]?).getD .shr := by rw [List.getD_eq_getElem?_getD]
theorem shrAll_at (l : List Mode) (j : Nat) : ∀ is, (shrAll l is).getD j .shr = if j ∈ is then .shr else l.getD j .shr
  | [] => by simp [shrAll]
  | i :: r => by
    unfold shrAll
    rw [getD_eq, set_at]
    by_cases e : i = j
    · subst e
      by_cases hl : i < (shrAll l r).length
      · rw [if_pos ⟨rfl, hl⟩, if_pos List.mem_cons_self]
        rfl
      · rw [if_neg (fun z => hl z.2), if_pos List.mem_cons_self, List.getElem?_eq_none (by omega)]
        rfl
    · rw [if_neg (fun z => e z.1), ← getD_eq, shrAll_at l j r]
      have : j ∈ i :: r ↔ j ∈ r := by
        simp only [List.mem_cons]
        exact ⟨fun h => h.resolve_left fun z => e z.symm, .inr⟩
      simp only [this]
def Gh.frz (g : Gh) (is : List Nat) : Gh := { g with T := fun a => match g.T a with
  | .sl i => if i ∈ is then .fz else .sl i
  | t => t }
theorem frz_of {is : List Nat} {a : Addr} {i : Nat} (h : g.T a = .sl i) : (g.frz is).T a = if i ∈ is then .fz else .sl i := by
  unfold Gh.frz
  simp only [h]
theorem frz_ne {is : List Nat} {a : Addr} (h : ∀ i, g.T a ≠ .sl i) : (g.frz is).T a = g.T a := by
  unfold Gh.frz
  cases e : g.T a with
  | sl i => exact absurd e (h i)
  | _ => simp only [e]
theorem frz_keep {is : List Nat} : Keep g H (g.frz is) H :=
  ⟨fun a h => ⟨frz_ne (fun i e => by rw [e] at h; rcases h with z | z | ⟨_, z⟩ | ⟨_, _, z⟩ <;> cases z), rfl⟩, fun _ _ h => h⟩
theorem frz_fo {is : List Nat} {a : Addr} {n f : Nat} (h : (g.frz is).T a = .fo n f) : g.T a = .fo n f := by
  cases e : g.T a with
  | sl i =>
    rw [frz_of e] at h
    split at h <;> cases h
  | _ =>
    rw [frz_ne (fun i z => by rw [e] at z; cases z), e] at h
    first | exact h | cases h
theorem frz_no {is : List Nat} {a : Addr} (h : (g.frz is).T a ≠ .no) : g.T a ≠ .no := fun e => h (by rw [frz_ne (fun i z => by rw [e] at z; cases z)]; exact e)
theorem frz_side {is : List Nat} (s : Side g H S) : Side (g.frz is) H S := by
  refine ⟨s.no, fun n f a b ha hb => s.uniq n f a b (frz_fo ha) (frz_fo hb), fun a h => s.wf a (frz_no h), fun a xs e => ?_⟩
  rcases s.tup a xs e with h | h
  · exact .inl (by rw [frz_ne (fun i z => by rw [h] at z; cases z)]; exact h)
  · exact .inr (by rw [frz_ne (fun i z => by rw [h] at z; cases z)]; exact h)
theorem frz_stepS {is : List Nat} : StepS g H (g.frz is) H :=
  ⟨fun a h => frz_keep.at' a (h.imp id .inl), fun a n h => ((frz_keep (H := H)).at' a (.inr (.inr (.inl ⟨n, h⟩)))).1.trans h, fun a n f h => ((frz_keep (H := H)).at' a (.inr (.inr (.inr ⟨n, f, h⟩)))).1.trans h, fun _ _ h => h, fun _ _ _ _ _ _ => rfl⟩
def Sl.mv (md : Sl) (is : List Nat) : Sl := { md with l := shrAll md.l is }
theorem rel_frz {is : List Nat} (r : Rel k md g σ H ρ S) (hs : ∀ i ∈ is, md.l.getD i .shr = .own) : Rel k (md.mv is) (g.frz is) σ H ρ S := by
  refine ⟨by rw [r.len]; exact (shrAll_len _ _).symm, by rw [r.lenσ]; exact (shrAll_len _ _).symm, fun j v e => ?_, r.hx, frz_keep.str r.str (frz_side r.str.side)⟩
  obtain ⟨u, e2, h⟩ := r.slot j v e
  refine ⟨u, e2, ?_⟩
  show SRep k (g.frz is) H j ((shrAll md.l is).getD j .shr) v u
  rw [shrAll_at]
  by_cases hj : j ∈ is
  · rw [if_pos hj]
    rw [hs j hj] at h
    have kp : Keep g H (g.frz is) H := frz_keep
    have tf : ∀ {a : Addr} {o : HO}, OP g H (.sl j) a o → fzP (g.frz is) H a = some o := fun {a o} q => fzP_of (by rw [frz_of q.1, if_pos hj]) q.2
    by_cases hc : isColl v
    · rcases coll_cases hc with ⟨xs, rfl⟩ | ⟨xs, rfl⟩ | ⟨xs, rfl⟩
      · obtain ⟨a, us, rfl, q, hv⟩ := (show ∃ a us, u = .ref a ∧ OP g H (.sl j) a (.lst us) ∧ _ from h)
        show VRep _ _ _ _ _
        simp only [VRep]
        exact ⟨a, us, rfl, tf q, kp.vs hv⟩
      · obtain ⟨a, us, rfl, q, hv⟩ := (show ∃ a us, u = .ref a ∧ OP g H (.sl j) a (.dK us) ∧ _ from h)
        show VRep _ _ _ _ _
        simp only [VRep]
        exact ⟨a, us, rfl, tf q, VKs.mono kp.fz kp.ι _ _ hv⟩
      · obtain ⟨a, us, rfl, q, hv⟩ := (show ∃ a us, u = .ref a ∧ OP g H (.sl j) a (.dT us) ∧ _ from h)
        show VRep _ _ _ _ _
        simp only [VRep]
        exact ⟨a, us, rfl, tf q, VTs.mono kp.fz kp.ι _ _ hv⟩
    · refine kp.mV (u := u) (v := v) ?_
      cases v <;> first | exact h | exact absurd trivial hc
  · rw [if_neg hj]
    exact frz_keep.sl (fun a ha => ⟨by rw [frz_of ha, if_neg hj]; exact ha.symm, rfl⟩) h
theorem dropE_at : ∀ {is : List Nat} {ρ : Env} {j : Nat} {v : Val}, (dropE is ρ)[j]? = some (some v) → ρ[j]? = some (some v) ∧ j ∉ is
  | [], _, _, _, h => ⟨h, by simp⟩
  | i :: r, ρ, j, v, h => by
    unfold dropE at h
    obtain ⟨h1, h2⟩ := dropE_at h
    rw [set_at] at h1
    split at h1
    · cases h1
    · rename_i hn
      refine ⟨h1, ?_⟩
      simp only [List.mem_cons, not_or]
      refine ⟨fun e => ?_, h2⟩
      subst e
      by_cases hl : j < ρ.length
      · exact hn ⟨rfl, hl⟩
      · rw [List.getElem?_eq_none (by omega)] at h1
        cases h1
theorem dropE_len : ∀ {is : List Nat} {ρ : Env}, (dropE is ρ).length = ρ.length
  | [], _ => rfl
  | i :: r, ρ => by
    unfold dropE
    rw [dropE_len, List.length_set]
theorem dropE_ne : ∀ {is : List Nat} {ρ : Env} {j : Nat}, j ∉ is → (dropE is ρ)[j]? = ρ[j]?
  | [], _, _, _ => rfl
  | i :: r, ρ, j, h => by
    unfold dropE
    rw [dropE_ne (fun z => h (List.mem_cons_of_mem _ z)), set_at, if_neg (fun z => h (by rw [z.1]; exact List.mem_cons_self))]
theorem rel_unmv {is : List Nat} (r : Rel k (md.mv is) g σ H ρ S) (hx : ∀ i ∈ is, hxOk md i) : Rel k md g σ H (dropE is ρ) S := by
  refine ⟨by rw [dropE_len, r.len]; exact shrAll_len _ _, by rw [r.lenσ]; exact shrAll_len _ _, fun j v e => ?_, fun j a c e => ?_, r.str⟩
  · obtain ⟨e1, hj⟩ := dropE_at e
    obtain ⟨u, e2, h⟩ := r.slot j v e1
    refine ⟨u, e2, ?_⟩
    have h' : SRep k g H j ((shrAll md.l is).getD j .shr) v u := h
    rw [shrAll_at, if_neg hj] at h'
    exact h'
  · have hj : j ∉ is := fun z => hx j z j a c e rfl
    rw [dropE_ne hj]
    exact r.hx j a c e
end

section
variable {X : Cx} {J : Jr} {m : Md} {pos : Pos}
/-! ### x = e -/
theorem set_imp {i : Nat} {ie : E} (hx : hxOk J.md i) (hm : (J.md.l.getD i .shr = .shr ∧ m = .V) ∨ (J.md.l.getD i .shr = .own ∧ m = .O)) (D : Ends) (σ : L2.St) (H : Hp) (h : J.tS (.set i ie) D σ H) : tAsg (J.tE m ie) (gName i) D σ H := by
  obtain ⟨g, ρ, S, r, p⟩ := h
  simp only [evS] at p
  refine tE_bindR r p fun v S1 u g1 H1 e1 r1 st1 mr1 p1 => ?_
  rcases hm with ⟨h1, rfl⟩ | ⟨h1, rfl⟩
  · exact p1 _ g1 H1 (rel_set r1 hx (by rw [h1]; exact mr1)) StepS.refl
  · obtain ⟨g2, r2, st⟩ := rel_own r1 hx h1 mr1
    exact p1 _ g2 H1 r2 st
theorem s_set {i : Nat} {x : Str} {e : Expr} {ie : E} {pos' : Pos} (hN : X.N.Nodup) (hi : X.N[i]? = some x) (hl : Loc X.env.scope x) (hf : X.fn x = true ∨ X.env.scope.names.lookup x = some .local) (hx : hxOk J.md i)
    (hm : (J.md.l.getD i .shr = .shr ∧ m = .V) ∨ (J.md.l.getD i .shr = .own ∧ m = .O)) (he : PE X e (J.tE m ie)) (hs : swapsWith e (some (.Name x pos')) pos.line X.env = pure false) : PS X (.Assign [.Name x pos'] e pos) (J.tS (.set i ie)) :=
  PS.imp (ps_set hN hi hl he hs hf) (set_imp hx hm)
theorem s_setLc {i : Nat} {y : Str} {py : Pos} {elt tg iter : Expr} {ifs : List Expr} {scope : Scope} {own : List (Str × Nat)} {spos : Pos} {ie iit : E} {itg : Tg} {icd : Option E} (hc : X.calm = true) (hN : X.N.Nodup) (hy : X.N[i]? = some y) (hyl : X.env.scope.names.lookup y = some .local)
    (hsw : swapsWith (.ListComp elt [⟨tg, iter, ifs, 0⟩] scope pos) (some (.Name y py)) spos.line X.env = pure true) (hi : PI X tg iter (J.tI iit)) (ok : BlkOk X.N X.env.scope scope own) (hown : own.map (·.2) = tgIs itg)
    (hg : ∀ (s : Shared) (H : Hp) (C : Addr) (cl : List (Str × Addr)) (fp : List Addr), PG (X.blk s H scope (compEnvC scope cl C X.env) fp) tg (J.calm.tG itg)) (ht : ∀ (s : Shared) (H : Hp) (C : Addr) (cl : List (Str × Addr)) (fp : List Addr), PTs (X.blk s H scope (compEnvC scope cl C X.env) fp) ifs (J.calm.tC icd))
    (he : ∀ (s : Shared) (H : Hp) (C : Addr) (cl : List (Str × Addr)) (fp : List Addr), PE (X.blk s H scope (compEnvC scope cl C X.env) fp) elt (J.calm.tE .V ie)) (hs : ∀ x, foldedSetIterable iter X.env x = pure x)
    (hn : (tgIs itg).Nodup) (hok : tgOk J.md (tgIs itg)) (hx : hxOk J.md i) (hm : (J.md.l.getD i .shr = .shr ∧ m = .V) ∨ (J.md.l.getD i .shr = .own ∧ m = .O)) :
    PS X (.Assign [.Name y py] (.ListComp elt [⟨tg, iter, ifs, 0⟩] scope pos) spos) (J.tS (.set i (.comp ie itg iit icd))) := by
  refine PS.imp (ps_setLc hc hN hy hyl hsw hi ok hg ht he hs) fun D σ H h => ?_
  have h2 := set_imp (m := m) hx hm D σ H h
  have h3 := comp_imp hn hok σ H _ h2
  rw [← hown] at h3
  exact h3
theorem s_comp {elt tg iter : Expr} {ifs : List Expr} {scope : Scope} {own : List (Str × Nat)} {ie iit : E} {itg : Tg} {icd : Option E} {K : Jx} (hc : X.calm = true) (hN : X.N.Nodup)
    (hi : PI X tg iter (K.tI iit)) (ok : BlkOk X.N X.env.scope scope own) (hown : own.map (·.2) = tgIs itg)
    (hg : ∀ (s : Shared) (H : Hp) (C : Addr) (cl : List (Str × Addr)) (fp : List Addr), PG (X.blk s H scope (compEnvC scope cl C X.env) fp) tg (K.calm.tG itg)) (ht : ∀ (s : Shared) (H : Hp) (C : Addr) (cl : List (Str × Addr)) (fp : List Addr), PTs (X.blk s H scope (compEnvC scope cl C X.env) fp) ifs (K.calm.tC icd))
    (he : ∀ (s : Shared) (H : Hp) (C : Addr) (cl : List (Str × Addr)) (fp : List Addr), PE (X.blk s H scope (compEnvC scope cl C X.env) fp) elt (K.calm.tE .V ie)) (hs : ∀ x, foldedSetIterable iter X.env x = pure x)
    (hn : (tgIs itg).Nodup) (hok : tgOk K.md (tgIs itg)) : PE X (.ListComp elt [⟨tg, iter, ifs, 0⟩] scope pos) (K.tE m (.comp ie itg iit icd)) := by
  refine PE.imp (pe_lc hc hN hi ok hg ht he hs) fun σ H Q h => ?_
  rw [hown]
  exact comp_imp hn hok σ H Q h
/-! ### a, b = e -/
theorem s_unp {is : List Nat} {es : List Expr} {kk : Nat} {tpos : Pos} {e : Expr} {ie : E} (hc : X.calm = true) (hN : X.N.Nodup) (hn : NamesAt X es is) (ok : tgOk J.md is) (he : PE X e (J.tE .V ie))
    (hs : swapsWithSole [.Tuple es kk tpos] e pos.line X.env = pure false) (hw : swappedStores [.Tuple es kk tpos] e X.env = pure none) : PS X (.Assign [.Tuple es kk tpos] e pos) (J.tS (.unp is ie)) := by
  refine PS.imp (ps_asg he (g_many (J := J.toJx) hc hN hn ok) hs hw) fun D σ H h => ?_
  obtain ⟨g, ρ, S, r, p⟩ := h
  simp only [evS] at p
  refine tE_bindR r p fun v S1 u g1 H1 e1 r1 st1 mr1 p1 => ?_
  cases v with
  | tup vs =>
    simp only at p1
    cases eb : bindMany is vs ρ with
    | none => rw [eb] at p1; exact p1.elim
    | some ρ1 =>
      rw [eb] at p1
      exact ⟨g1, ρ, S1, .tup vs, ρ1, r1, mr1, eb, fun σ1 r2 _ => p1 σ1 g1 H1 r2 StepS.refl⟩
  | lst vs =>
    simp only at p1
    cases eb : bindMany is vs ρ with
    | none => rw [eb] at p1; exact p1.elim
    | some ρ1 =>
      rw [eb] at p1
      exact ⟨g1, ρ, S1, .lst vs, ρ1, r1, mr1, eb, fun σ1 r2 _ => p1 σ1 g1 H1 r2 StepS.refl⟩
  | _ => exact p1.elim
theorem s_par {i j : Nat} {x y : Str} {a b : Expr} {ia ib : E} {px py pt : Pos} {kt k2 : Nat} {pt2 : Pos} (hc : X.calm = true) (hN : X.N.Nodup) (hi : X.N[i]? = some x) (hj : X.N[j]? = some y) (hij : i ≠ j)
    (hx : X.env.scope.names.lookup x = some .local) (hy : X.env.scope.names.lookup y = some .local) (ok : tgOk J.md [i, j]) (ha : PA X [a, b] (J.tA [] [ia, ib]))
    (hw : swappedStores [.Tuple [.Name x px, .Name y py] kt pt] (.Tuple [a, b] k2 pt2) X.env = pure (some [x, y])) (hs : swapsWithSole [.Tuple [.Name x px, .Name y py] kt pt] (.Tuple [a, b] k2 pt2) pos.line X.env = pure false) :
    PS X (.Assign [.Tuple [.Name x px, .Name y py] kt pt] (.Tuple [a, b] k2 pt2) pos) (J.tS (.unp [i, j] (.tup [ia, ib]))) := by
  refine PS.imp (ps_par hc hN hi hj hij hx hy ha hw hs) fun D σ H h => ?_
  obtain ⟨g, ρ, S, r, p⟩ := h
  simp only [evS, evE] at p
  refine tA_bindI r (fun c S' ev => ?_) (fun ev => ?_) fun vs S' us g' H' ev r' st mr => ?_
  · rw [ev] at p
    exact fun g2 H2 r2 s => p σ g2 H2 r2 s.toS
  · rw [ev] at p
    exact p
  · rw [ev] at p
    have hl := evs_len ev
    simp only [_root_.Pv.R.bind] at p
    cases hz : szb vs.length with
    | false =>
      rw [hz] at p
      exact p.elim
    | true =>
      rw [hz] at p
      simp only [if_true, _root_.Pv.R.toS] at p
      cases vs with
      | nil => cases hl
      | cons v vs =>
        cases vs with
        | nil => cases hl
        | cons w vs =>
          cases vs with
          | cons _ _ => cases hl
          | nil =>
            obtain ⟨u, u', rfl, h1, h2⟩ := mr.two
            simp only [bindMany] at p
            obtain ⟨o1, o2⟩ := ok i List.mem_cons_self
            obtain ⟨o3, o4⟩ := ok j (List.mem_cons_of_mem _ List.mem_cons_self)
            exact ⟨u, u', rfl, p _ g' H' (rel_set (rel_set r' o2 (by rw [o1]; exact h1)) o4 (by rw [o3]; exact h2)) st.toS⟩
/-! ### moved -/
def Jr.mv (J : Jr) (is : List Nat) : Jr := { J with md := J.md.mv is }
theorem s_mvs {is : List Nat} {st : Stmt} {ist : _root_.Pv.S} (ho : ∀ i ∈ is, J.md.l.getD i .shr = .own ∧ hxOk J.md i) (h : PS X st ((J.mv is).tS ist)) : PS X st (J.tS (.mvs is ist)) := by
  refine PS.imp h fun D σ H h => ?_
  obtain ⟨g, ρ, S, r, p⟩ := h
  refine ⟨g.frz is, ρ, S, rel_frz r fun i hi => (ho i hi).1, ?_⟩
  simp only [evS] at p
  have p := postS_after p (frz_stepS (is := is))
  show (J.mv is).PostS _ _ (evS J.x ist ρ S) D
  cases ev : evS J.x ist ρ S with
  | nx ρ1 S1 =>
    rw [ev] at p
    exact fun σ1 g1 H1 r1 st1 => p σ1 g1 H1 (rel_unmv r1 fun i hi => (ho i hi).2) st1
  | exn c ρ1 S1 =>
    rw [ev] at p
    exact fun σ1 g1 H1 r1 st1 => p σ1 g1 H1 (rel_unmv r1 fun i hi => (ho i hi).2) st1
  | ret v S1 =>
    rw [ev] at p
    exact p
  | brk ρ1 S1 => rw [ev] at p; exact p.elim
  | cnt ρ1 S1 => rw [ev] at p; exact p.elim
  | stuck => rw [ev] at p; exact p.elim
/-- an own list is given back as it is -/
theorem s_retO {i : Nat} {x : Str} {p1 : Pos} (hN : X.N[i]? = some x) (hv : Vis X.env.scope x) (hd : (x == ("__debug__" : Str)) = false) (hcd : (x == ("__classdict__" : Str)) = false) (ho : J.md.l.getD i .shr = .own) (hr : J.rm = .O) :
    PS X (.Return (some (.Name x p1)) pos) (J.tS (.ret (.v i))) := by
  refine PS.imp (ps_ret (pe_var hN hv hd hcd)) fun D σ H h => ?_
  obtain ⟨g, ρ, S, r, p⟩ := h
  simp only [evS, evE] at p
  split at p
  · rename_i v e
    obtain ⟨u, e2, h⟩ := r.slot i v e
    refine ⟨u, e2, ?_⟩
    rw [ho] at h
    simp only [_root_.Pv.R.toS] at p
    have go : ∀ {a : Addr} {o : HO}, g.T a = .sl i → H a = some o → (∀ xs, o ≠ .tup xs) → (∀ g', Keep g H g' H → g'.T a = .rt → MRep J.k g' H .O v u) → D.rt u H := fun {a o} t ha no f => by
      have ne : ∀ b, g.T b ≠ .sl i → (g.put a .rt).T b = g.T b := fun b h => put_ne fun e => h (by rw [e]; exact t)
      have kp : Keep g H (g.put a .rt) H := ⟨fun b h => ⟨ne b (by rcases h with h | h | ⟨_, h⟩ | ⟨_, _, h⟩ <;> rw [h] <;> intro z <;> cases z), rfl⟩, fun _ _ h => h⟩
      refine p u _ H (kp.str r.str ⟨r.str.no, fun n f b c hb hc => ?_, fun b hb => ?_, fun b xs e => ?_⟩) (stepS_put (.inr (.inr ⟨i, t⟩))) (by rw [hr]; exact f _ kp put_same)
      · have h1 : b ≠ a := fun e => by rw [e, put_same] at hb; cases hb
        have h2 : c ≠ a := fun e => by rw [e, put_same] at hc; cases hc
        rw [put_ne h1] at hb
        rw [put_ne h2] at hc
        exact r.str.uniq n f b c hb hc
      · by_cases h : b = a
        · rw [h, ha]
          intro z
          cases z
        · rw [put_ne h] at hb
          exact r.str.wf b hb
      · by_cases h : b = a
        · rw [h, ha] at e
          exact absurd (Option.some.inj e) (no xs)
        · rw [put_ne h]
          exact r.str.tup b xs e
    by_cases hc : isColl v
    · rcases coll_cases hc with ⟨xs, rfl⟩ | ⟨xs, rfl⟩ | ⟨xs, rfl⟩
      · obtain ⟨a, us, rfl, ⟨t, ha⟩, hs⟩ := (show ∃ a us, u = .ref a ∧ OP g H (.sl i) a (.lst us) ∧ _ from h)
        exact go t ha (fun _ z => nomatch z) fun g' kp t' => ⟨a, us, rfl, ⟨t', ha⟩, kp.vs hs⟩
      · obtain ⟨a, us, rfl, ⟨t, ha⟩, hs⟩ := (show ∃ a us, u = .ref a ∧ OP g H (.sl i) a (.dK us) ∧ _ from h)
        exact go t ha (fun _ z => nomatch z) fun g' kp t' => ⟨a, us, rfl, ⟨t', ha⟩, VKs.mono kp.fz kp.ι _ _ hs⟩
      · obtain ⟨a, us, rfl, ⟨t, ha⟩, hs⟩ := (show ∃ a us, u = .ref a ∧ OP g H (.sl i) a (.dT us) ∧ _ from h)
        exact go t ha (fun _ z => nomatch z) fun g' kp t' => ⟨a, us, rfl, ⟨t', ha⟩, VTs.mono kp.fz kp.ι _ _ hs⟩
    · refine p u g H r.str StepS.refl ?_
      rw [hr]
      cases v <;> first | exact h | exact absurd trivial hc
  · exact p.elim
end
end Pv
end

section
set_option Elab.async false
set_option linter.all false
set_option maxRecDepth 100000
set_option autoImplicit false
/-! Pv16: an own list is changed in place. -/
namespace Pv
open PySem PySem.Spec PyProof.Rows L2

section
variable {X : Cx} {J : Jr} {m : Md} {pos : Pos}
theorem evS_mu_slot (x : Cfg) (i : Nat) (mu : Mu) (ρ : Env) (S : Store) : evS x (.mu (.slot i) mu) ρ S = match (ρ[i]? : Option (Option Val)) with
    | some (some v) => if muTy mu v = true then (evs x (muArgs mu) ρ S).toS ρ fun vs S2 => (match muV mu v (muDe mu S2 vs) with
      | some w => .nx (ρ.set i (some w)) S2
      | none => .stuck) else .stuck
    | _ => .stuck := by
  simp only [evS, plE, evs, R.toS, plV]
  cases h : (ρ[i]? : Option (Option Val)) with
  | none => rfl
  | some o =>
    cases o with
    | none => rfl
    | some v =>
      simp only
      split
      · congr 1
        funext vs S2
        simp only [muP, h] <;> rfl
      · rfl
/-- the list of a slot -/
theorem own_lst {k : Kx} {md : Sl} {g : Gh} {H : Hp} {σ : L2.St} {ρ : Env} {S : Store} {i : Nat} {xs : List Val} (r : Rel k md g σ H ρ S) (ho : md.l.getD i .shr = .own) (e : ρ[i]? = some (some (.lst xs))) :
    ∃ a us, σ[i]? = some (some (.ref a)) ∧ g.T a = .sl i ∧ H a = some (.lst us) ∧ VReps k (fzP g H) g.ι xs us := by
  obtain ⟨u, e2, h⟩ := r.slot i _ e
  rw [ho] at h
  obtain ⟨a, us, rfl, ⟨t, ha⟩, hs⟩ := (show ∃ a us, u = .ref a ∧ OP g H (.sl i) a (.lst us) ∧ _ from h)
  exact ⟨a, us, e2, t, ha, hs⟩
/-- a list's method at a slot -/
theorem mu_imp {i : Nat} {mu : Mu} {ms : List Md} {rr : V → List V → Hp → VK → Prop} (ho : J.md.l.getD i .shr = .own) (hx : hxOk J.md i) (hl : ∀ v, muTy mu v = true → ∃ xs, v = .lst xs)
    (hr : ∀ g H σ ρ S vs us a xs ws z Q, vs.length = (muArgs mu).length → Rel J.k J.md g σ H ρ S → MReps J.k g H ms vs us → H a = some (.lst ws) → VReps J.k (fzP g H) g.ι xs ws → muV mu (.lst xs) (muDe mu S vs) = some z →
      (∀ (zs : List Val) (xz : List V), z = .lst zs → VReps J.k (fzP g H) g.ι zs xz → Q .non (upd H a (.lst xz))) → rr (.ref a) us H Q)
    (D : Ends) (σ : L2.St) (H : Hp) (h : J.tS (.mu (.slot i) mu) D σ H) : tDrop (tBM X.K "list" rr (tVar i) (J.tA ms (muArgs mu))) D σ H := by
  obtain ⟨g, ρ, S, r, p⟩ := h
  rw [evS_mu_slot] at p
  cases e : (ρ[i]? : Option (Option Val)) with
  | none => rw [e] at p; exact p.elim
  | some o =>
    cases o with
    | none => rw [e] at p; exact p.elim
    | some v =>
      rw [e] at p
      simp only at p
      split at p
      case isFalse => exact p.elim
      rename_i hty
      obtain ⟨xs, rfl⟩ := hl v hty
      obtain ⟨a, us0, eσ, t0, ha0, hs0⟩ := own_lst r ho e
      refine ⟨.ref a, eσ, .inl ⟨rfl, us0, .inl (.inl ha0)⟩, ?_⟩
      refine tA_bindI r (fun c S' ev => ?_) (fun ev => ?_) fun vs S' us g' H' ev r' st mr => ?_
      · rw [ev] at p
        exact fun g2 H2 r2 s => p σ g2 H2 r2 s.toS
      · rw [ev] at p
        exact p
      · rw [ev] at p
        simp only [_root_.Pv.R.toS] at p
        have k1 := st.keep a (.inr (.inr (.inr ⟨i, t0⟩)))
        have p' := postS_after p st.toS
        cases em : muV mu (.lst xs) (muDe mu S' vs) with
        | none => rw [em] at p'; exact p'.elim
        | some z =>
          rw [em] at p'
          refine hr g' H' σ ρ S' vs us a xs us0 z _ (evs_len ev) r' mr (k1.2.trans ha0) (st.mVs hs0) em fun zs xz ez hz => ?_
          subst ez
          have rm := rel_mut (o := .lst xz) (v := .lst zs) r' hx ho (k1.1.trans t0) eσ (fun _ z => nomatch z) fun H2 kp hH2 => ⟨a, xz, rfl, ⟨k1.1.trans t0, hH2⟩, kp.vs hz⟩
          exact p' σ g' _ rm.1 rm.2
theorem muTy_lst {mu : Mu} (h : (match mu with | .seti _ _ => false | .dpop _ => false | .dpopN _ => false | _ => true) = true) : ∀ v, muTy mu v = true → ∃ xs, v = .lst xs := by
  intro v hv
  cases mu <;> cases v <;> first
    | exact ⟨_, rfl⟩
    | exact Bool.noConfusion h
    | exact Bool.noConfusion hv
theorem s_app {i : Nat} {x : Str} {e : Expr} {ie : E} {p1 ap cp : Pos} (hN : X.N[i]? = some x) (hv : Vis X.env.scope x) (hd : (x == ("__debug__" : Str)) = false) (hcd : (x == ("__classdict__" : Str)) = false) (ho : J.md.l.getD i .shr = .own) (hx : hxOk J.md i)
    (ha : PA X [e] (J.tA [] [ie])) (hline : (ap.endLine == cp.line) = true) (hst : starEach [e] X.env = (false, eval e X.env) :: starEach [] X.env) (hs : swapsWith (.Call (.Attribute (.Name x p1) "append" ap) [e] [] cp) none pos.line X.env = pure false) :
    PS X (.Expr (.Call (.Attribute (.Name x p1) "append" ap) [e] [] cp) pos) (J.tS (.mu (.slot i) (.app ie))) := by
  refine PS.imp (ps_expr (pe_bm PySem.F.plainAttrs_list PySem.F.slot_list_append PySem.F.type_list_append mt_append (pe_var hN hv hd hcd) ha (hline := hline) (hs := hst) (hfew := by rw [hst]; rfl)) hs) ?_
  refine mu_imp ho hx (muTy_lst rfl) fun g H σ ρ S vs us a xs ws z Q hlen r mr ha hs em q => ?_
  cases vs with
  | nil => cases hlen
  | cons v vs =>
    cases vs with
    | cons _ _ => cases hlen
    | nil =>
      obtain ⟨u, rfl, h1⟩ := mr.one
      simp only [muDe, muV] at em
      split at em
      · rename_i hz
        cases em
        refine ⟨a, ws, u, rfl, rfl, ha, ?_, q _ _ rfl (hs.app (VReps.one h1))⟩
        rw [hs.len]
        have := szb_lt hz
        omega
      · cases em
theorem s_ext {i : Nat} {x : Str} {e : Expr} {ie : E} {p1 ap cp : Pos} (hN : X.N[i]? = some x) (hv : Vis X.env.scope x) (hd : (x == ("__debug__" : Str)) = false) (hcd : (x == ("__classdict__" : Str)) = false) (ho : J.md.l.getD i .shr = .own) (hx : hxOk J.md i)
    (ha : PA X [e] (J.tA [.B] [ie])) (hline : (ap.endLine == cp.line) = true) (hst : starEach [e] X.env = (false, eval e X.env) :: starEach [] X.env) (hs : swapsWith (.Call (.Attribute (.Name x p1) "extend" ap) [e] [] cp) none pos.line X.env = pure false) :
    PS X (.Expr (.Call (.Attribute (.Name x p1) "extend" ap) [e] [] cp) pos) (J.tS (.mu (.slot i) (.ext ie))) := by
  refine PS.imp (ps_expr (pe_bm PySem.F.plainAttrs_list PySem.F.slot_list_extend PySem.F.type_list_extend mt_extend (pe_var hN hv hd hcd) ha (hline := hline) (hs := hst) (hfew := by rw [hst]; rfl)) hs) ?_
  refine mu_imp ho hx (muTy_lst rfl) fun g H σ ρ S vs us a xs ws z Q hlen r mr ha hs em q => ?_
  cases vs with
  | nil => cases hlen
  | cons v vs =>
    cases vs with
    | cons _ _ => cases hlen
    | nil =>
      obtain ⟨u, rfl, h1⟩ := mr.one
      have h2 := deref_R r.str h1.R
      simp only [muDe, List.map_cons, List.map_nil] at em
      generalize deref S v = v' at h2 em
      cases v' <;> simp only [muV] at em <;> try cases em
      rename_i ys
      split at em
      · rename_i hz
        cases em
        obtain ⟨b, zs, rfl, hb, ht⟩ := h2.lst_of
        refine ⟨a, b, ws, zs, rfl, rfl, ha, hb, ?_, q _ _ rfl (hs.app ht)⟩
        rw [hs.len, ht.len]
        exact szb_line hz
      · cases em
theorem VReps.rev {k : Kx} {F : Hp} {ι : Nat → Option Addr} : ∀ {xs : List Val} {us : List V}, VReps k F ι xs us → VReps k F ι xs.reverse us.reverse
  | [], _, h => by
    simp only [VReps] at h
    subst h
    simp only [List.reverse_nil, VReps]
  | x :: xs, _, h => by
    simp only [VReps] at h
    obtain ⟨u, r, rfl, h1, h2⟩ := h
    rw [List.reverse_cons, List.reverse_cons]
    exact (VReps.rev h2).app (VReps.one h1)
/-- a method without arguments -/
theorem mu0_imp {i : Nat} {mu : Mu} {rr : V → List V → Hp → VK → Prop} (h0 : muArgs mu = []) (ho : J.md.l.getD i .shr = .own) (hx : hxOk J.md i) (hl : ∀ v, muTy mu v = true → ∃ xs, v = .lst xs)
    (hr : ∀ g H a xs ws z Q, H a = some (.lst ws) → VReps J.k (fzP g H) g.ι xs ws → (∀ S, muV mu (.lst xs) (muDe mu S []) = some z) →
      (∀ (zs : List Val) (xz : List V), z = .lst zs → VReps J.k (fzP g H) g.ι zs xz → Q .non (upd H a (.lst xz))) → rr (.ref a) [] H Q)
    (hd : ∀ S S' v, muV mu v (muDe mu S []) = muV mu v (muDe mu S' []))
    (D : Ends) (σ : L2.St) (H : Hp) (h : J.tS (.mu (.slot i) mu) D σ H) : tDrop (tBM0 X.K "list" rr (tVar i)) D σ H := by
  obtain ⟨g, ρ, S, r, p⟩ := h
  rw [evS_mu_slot] at p
  cases e : (ρ[i]? : Option (Option Val)) with
  | none => rw [e] at p; exact p.elim
  | some o =>
    cases o with
    | none => rw [e] at p; exact p.elim
    | some v =>
      rw [e] at p
      simp only at p
      split at p
      case isFalse => exact p.elim
      rename_i hty
      obtain ⟨xs, rfl⟩ := hl v hty
      obtain ⟨a, us0, eσ, t0, ha0, hs0⟩ := own_lst r ho e
      refine ⟨.ref a, eσ, .inl ⟨rfl, us0, .inl (.inl ha0)⟩, ?_⟩
      rw [h0] at p
      simp only [evs, _root_.Pv.R.toS] at p
      cases em : muV mu (.lst xs) (muDe mu S []) with
      | none => rw [em] at p; exact p.elim
      | some z =>
        rw [em] at p
        refine hr g H a xs us0 z _ ha0 hs0 (fun S' => (hd _ _ _).trans em) fun zs xz ez hz => ?_
        subst ez
        have rm := rel_mut (o := .lst xz) (v := .lst zs) r hx ho t0 eσ (fun _ z => nomatch z) fun H2 kp hH2 => ⟨a, xz, rfl, ⟨t0, hH2⟩, kp.vs hz⟩
        exact p σ g _ rm.1 rm.2
theorem s_clr {i : Nat} {x : Str} {p1 ap cp : Pos} (hN : X.N[i]? = some x) (hv : Vis X.env.scope x) (hd : (x == ("__debug__" : Str)) = false) (hcd : (x == ("__classdict__" : Str)) = false) (ho : J.md.l.getD i .shr = .own) (hx : hxOk J.md i)
    (hline : (ap.endLine == cp.line) = true) (hs : swapsWith (.Call (.Attribute (.Name x p1) "clear" ap) [] [] cp) none pos.line X.env = pure false) :
    PS X (.Expr (.Call (.Attribute (.Name x p1) "clear" ap) [] [] cp) pos) (J.tS (.mu (.slot i) .clr)) := by
  refine PS.imp (ps_expr (pe_bm0 PySem.F.plainAttrs_list PySem.F.slot_list_clear PySem.F.type_list_clear mt_clear (pe_var hN hv hd hcd) (hline := hline)) hs) ?_
  refine mu0_imp rfl ho hx (muTy_lst rfl) (fun g H a xs ws z Q ha hs em q => ?_) fun _ _ _ => rfl
  have em := em []
  simp only [muDe, muV] at em
  cases em
  exact ⟨a, ws, rfl, rfl, ha, q _ _ rfl (by simp only [VReps])⟩
theorem s_rev {i : Nat} {x : Str} {p1 ap cp : Pos} (hN : X.N[i]? = some x) (hv : Vis X.env.scope x) (hd : (x == ("__debug__" : Str)) = false) (hcd : (x == ("__classdict__" : Str)) = false) (ho : J.md.l.getD i .shr = .own) (hx : hxOk J.md i)
    (hline : (ap.endLine == cp.line) = true) (hs : swapsWith (.Call (.Attribute (.Name x p1) "reverse" ap) [] [] cp) none pos.line X.env = pure false) :
    PS X (.Expr (.Call (.Attribute (.Name x p1) "reverse" ap) [] [] cp) pos) (J.tS (.mu (.slot i) .rev)) := by
  refine PS.imp (ps_expr (pe_bm0 PySem.F.plainAttrs_list PySem.F.slot_list_reverse PySem.F.type_list_reverse mt_reverse (pe_var hN hv hd hcd) (hline := hline)) hs) ?_
  refine mu0_imp rfl ho hx (muTy_lst rfl) (fun g H a xs ws z Q ha hs em q => ?_) fun _ _ _ => rfl
  have em := em []
  simp only [muDe, muV] at em
  cases em
  exact ⟨a, ws, rfl, rfl, ha, q _ _ rfl hs.rev⟩

/-! ### x[i] = e -/
theorem VReps.set {k : Kx} {F : Hp} {ι : Nat → Option Addr} {y : Val} {w : V} (hy : VRep k F ι y w) : ∀ {xs : List Val} {us : List V} {j : Nat}, VReps k F ι xs us → VReps k F ι (xs.set j y) (us.set j w)
  | [], _, j, h => by
    simp only [VReps] at h
    subst h
    simp only [List.set_nil, VReps]
  | x :: xs, _, 0, h => by
    simp only [VReps] at h
    obtain ⟨u, r, rfl, h1, h2⟩ := h
    rw [List.set_cons_zero, List.set_cons_zero]
    simp only [VReps]
    exact ⟨w, r, rfl, hy, h2⟩
  | x :: xs, _, j + 1, h => by
    simp only [VReps] at h
    obtain ⟨u, r, rfl, h1, h2⟩ := h
    rw [List.set_cons_succ, List.set_cons_succ]
    simp only [VReps]
    exact ⟨u, _, rfl, h1, VReps.set hy h2⟩
end
end Pv
end

section
set_option Elab.async false
set_option linter.all false
set_option maxRecDepth 100000
set_option autoImplicit false
/-! Pv17: x[i] = e of an own list; raise; try. -/
namespace Pv
open PySem PySem.Spec PyProof.Rows L2

section
variable {X : Cx} {J : Jr} {m : Md} {pos : Pos}
theorem toS_two {x : Cfg} {a b : E} {ρ : Env} {S : Store} {f : List Val → Store → RS} : (evs x [a, b] ρ S).toS ρ f = (evE x a ρ S).toS ρ fun v S1 => (evE x b ρ S1).toS ρ fun w S2 => f [v, w] S2 := by
  simp only [evs]
  cases evE x a ρ S with
  | ok v S1 =>
    simp only [_root_.Pv.R.bind, _root_.Pv.R.toS]
    cases evE x b ρ S1 <;> rfl
  | exn c S1 => rfl
  | stuck => rfl
theorem s_seti {i : Nat} {x : Str} {e ix : Expr} {ie ik : E} {p1 tpos : Pos} (hN : X.N[i]? = some x) (hv : Vis X.env.scope x) (hd : (x == ("__debug__" : Str)) = false) (hcd : (x == ("__classdict__" : Str)) = false) (ho : J.md.l.getD i .shr = .own) (hx : hxOk J.md i)
    (he : PE X e (J.tE .V ie)) (hk : PE X ix (J.tE .V ik)) (hs : swapsWithSole [.Subscript (.Name x p1) ix tpos] e pos.line X.env = pure false) (hw : swappedStores [.Subscript (.Name x p1) ix tpos] e X.env = pure none)
    (ha : ∀ v, assign (.Subscript (.Name x p1) ix tpos) X.env v = (do
      let ov ← holding [v] (eval (.Name x p1) X.env)
      let iv ← holding [v, ov] (eval ix X.env)
      standAt tpos
      holding [v, ov, iv] (setItem ov iv v)
      release [v, ov, iv] [])) :
    PS X (.Assign [.Subscript (.Name x p1) ix tpos] e pos) (J.tS (.mu (.slot i) (.seti ik ie))) := by
  refine PS.imp (ps_asg he (pg_sub (pe_var hN hv hd hcd) hk set_list ha) hs hw) fun D σ H h => ?_
  obtain ⟨g, ρ, S, r, p⟩ := h
  rw [evS_mu_slot] at p
  cases e0 : (ρ[i]? : Option (Option Val)) with
  | none => rw [e0] at p; exact p.elim
  | some o =>
    cases o with
    | none => rw [e0] at p; exact p.elim
    | some v0 =>
      rw [e0] at p
      simp only at p
      split at p
      case isFalse => exact p.elim
      rename_i hty
      simp only [muArgs] at p
      rw [toS_two] at p
      refine tE_bindR r p fun v S1 u g1 H1 e1 r1 st1 mr1 p1 => ?_
      obtain ⟨uo, eσ, _⟩ := r1.slot i v0 e0
      refine ⟨uo, eσ, ?_⟩
      refine tE_bindR r1 p1 fun w S2 u2 g2 H2 e2 r2 st2 mr2 p2 => ?_
      simp only [muDe] at p2
      cases v0 with
      | lst xs =>
        cases w with
        | int j =>
          simp only [muV] at p2
          cases ej : atN xs.length j with
          | none => rw [ej] at p2; exact p2.elim
          | some n =>
            rw [ej] at p2
            obtain ⟨a, us, eσ2, t2, ha2, hs2⟩ := own_lst r2 ho e0
            rw [eσ] at eσ2
            cases eσ2
            have mv := st2.mV mr1
            refine ⟨a, us, j, n, rfl, mr2.R.int_of, ha2, by rw [hs2.len]; exact ej, ?_⟩
            have rm := rel_mut (o := .lst (us.set n u)) (v := .lst (xs.set n v)) r2 hx ho t2 eσ (fun _ z => nomatch z) fun H3 kp hH3 => ⟨a, _, rfl, ⟨t2, hH3⟩, kp.vs (hs2.set mv)⟩
            exact p2 σ g2 _ rm.1 rm.2
        | _ => exact p2.elim
      | _ => cases hty

/-! ### raise -/
theorem s_rais {x msg : Str} {c : Nat} {j : Nat} {p p2 p3 : Pos} {bmB : List Value} {B newId initId : String} (hc : X.calm = true) (tk : Takes X J.W) (F : ExcBaseFacts B newId initId bmB) (q : PySem.W.excIn X.K (J.k.ca c) bmB newId = true) (gC : X.mg x = some (.ref (J.k.ca c)))
    (kC : PySem.W.keepIn X.K (.ref (J.k.ca c)) = true) (r : Raises X (.ref (J.k.ca c))) (hg : Gl X x) (hdb : (x == ("__debug__" : Str)) = false) :
    PS X (.Raise (some (.Call (.Name x p) [.Constant (.str msg) j p2] [] p3)) none pos) (J.tS (.rais c)) := by
  refine PS.imp (ps_raise hc tk (pmk_own F q gC kC r hg hdb)) fun D σ H h => ?_
  obtain ⟨g, ρ, S, rl, p⟩ := h
  simp only [evS] at p
  exact p σ g H rl StepS.refl

/-! ### try -/
def Jr.wish (J : Jr) (W : WX) : Jr := { J with W := W }
/-- in a suite -/
def Jr.suit (J : Jr) (o : Option (Nat × Addr × Nat)) : Jr := { J with W := fun _ _ _ _ => False, md := { J.md with hx := o } }
/-- what a try's class says of a class -/
def Catch (K : PySem.W.Frag) (J : Jr) (d : Nat) : Prop := ∀ c b, catches J.x.G c d = some b → PySem.W.exmOne K (.ref (J.k.ca c)) (.ref (J.k.ca d)) = some b
theorem rel_hx {k : Kx} {md : Sl} {g : Gh} {H : Hp} {σ : L2.St} {ρ : Env} {S : Store} (r : Rel k md g σ H ρ S) : Rel k { md with hx := none } g σ H ρ S := ⟨r.len, r.lenσ, r.slot, (fun _ _ _ z => nomatch z), r.str⟩
theorem rel_unhx {k : Kx} {l : List Mode} {o : Option (Nat × Addr × Nat)} {g : Gh} {H : Hp} {σ : L2.St} {ρ : Env} {S : Store} (r : Rel k { l := l, hx := o } g σ H ρ S) : Rel k { l := l, hx := none } g σ H ρ S := ⟨r.len, r.lenσ, r.slot, (fun _ _ _ z => nomatch z), r.str⟩
/-- the end of a suite, as the try has it -/
theorem suit_post {J : Jr} {g : Gh} {H : Hp} {r : RS} {D : Ends} (h0 : J.md.hx = none) (p : J.PostS g H (unAs none r) D) : (J.suit none).PostS g H r D := by
  have w : ∀ {g' : Gh} {σ' : L2.St} {H' : Hp} {ρ' : Env} {S' : Store}, Rel (J.suit none).k (J.suit none).md g' σ' H' ρ' S' → Rel J.k J.md g' σ' H' ρ' S' := fun {g' σ' H' ρ' S'} q => ⟨q.len, q.lenσ, q.slot, (fun i a c z => by rw [h0] at z; cases z), q.str⟩
  cases r with
  | nx ρ S => exact fun σ g' H' q st => p σ g' H' (w q) st
  | brk ρ S => exact fun σ g' H' q st => p σ g' H' (w q) st
  | cnt ρ S => exact fun σ g' H' q st => p σ g' H' (w q) st
  | ret v S => exact p
  | exn c ρ S => exact p.elim
  | stuck => exact p
/-- except clauses without names -/
inductive HdsAt (X : Cx) (J : Jr) : List ExceptHandler → List (Nat × Option Nat × List _root_.Pv.S) → Prop where
  | nil : HdsAt X J [] []
  | cons {x : Str} {b₀ : Stmt} {suite : List Stmt} {np pos' : Pos} {d : Nat} {isu : List _root_.Pv.S} {hds : List ExceptHandler} {ihs : List (Nat × Option Nat × List _root_.Pv.S)} (hc : Names X x (.ref (J.k.ca d))) (hk : Catch X.K J d)
      (hsu : ∀ (a : Addr) (oe : Obj) (pn : List (Addr × Obj)), PSs (X.suite a ((a, oe) :: pn)) (b₀ :: suite) ((J.suit none).tSs isu)) (r : HdsAt X J hds ihs) : HdsAt X J (.ExceptHandler (some (.Name x np)) none (b₀ :: suite) pos' :: hds) ((d, none, isu) :: ihs)
def hdL (J : Jr) (ihs : List (Nat × Option Nat × List _root_.Pv.S)) : List (Value × (Addr → Value → Option Addr → TS)) := ihs.map fun ih => (.ref (J.k.ca ih.1), fun _ _ _ => (J.suit none).tSs ih.2.2)
theorem HdsAt.ok {X : Cx} {J : Jr} {hds : List ExceptHandler} {ihs : List (Nat × Option Nat × List _root_.Pv.S)} (h : HdsAt X J hds ihs) : HdsOk X hds (hdL J ihs) := by
  induction h with
  | nil => exact .nil
  | cons hc hk hsu r ih => exact .cons hc (fun a oe cls d pn _ _ => hsu a oe pn) ih
theorem HdsAt.many {X : Cx} {J : Jr} (h0 : J.md.hx = none) {D : Ends} {c : Nat} {hds : List ExceptHandler} {ihs : List (Nat × Option Nat × List _root_.Pv.S)} (h : HdsAt X J hds ihs) :
    ∀ {g : Gh} {H : Hp} {σ : L2.St} {ρ : Env} {S : Store}, Rel J.k J.md g σ H ρ S → J.PostS g H (evH J.x c ihs ρ S) D → wMany X.K J.W D (hdL J ihs) (.ref (J.k.ca c)) none σ H := by
  induction h with
  | nil =>
    intro g H σ ρ S r p
    simp only [evH] at p
    exact p σ g H r StepS.refl
  | @cons x b₀ suite np pos' d isu hds ihs hc hk hsu r' ih =>
    intro g H σ ρ S r p
    simp only [evH] at p
    cases ec : catches J.x.G c d with
    | none => rw [ec] at p; exact p.elim
    | some b =>
      rw [ec] at p
      refine ⟨b, hk c b ec, fun hb a _ => ?_, fun hb => ?_⟩
      · subst hb
        exact ⟨g, ρ, S, rel_hx r, suit_post h0 p⟩
      · subst hb
        exact ih r p
theorem s_try {X : Cx} {J : Jr} {pos : Pos} {body : List Stmt} {h₀ : ExceptHandler} {hds : List ExceptHandler} {ib : List _root_.Pv.S} {ihs : List (Nat × Option Nat × List _root_.Pv.S)} (h0 : J.md.hx = none) (hs : X.stack = X.env :: X.outer) (hf : X.env.frame = some X.env.locals) (tk : Takes X J.W)
    (hb : ∀ (W : WX) (pn : List (Addr × Obj)) (xe : Value → Shared → Prop), Takes (X.tr pn xe) W → PassesOwn (model X.prog X.w) X.A X.env xe → PSs (X.tr pn xe) body ((J.wish W).tSs ib))
    (hh : HdsAt X J (h₀ :: hds) ihs) : PS X (.Try body (h₀ :: hds) [] [] pos) (J.tS (.tr ib ihs)) := by
  refine PS.imp (ps_try_many hs hf tk hb hh.ok) fun D σ H h => ?_
  obtain ⟨g, ρ, S, r, p⟩ := h
  refine ⟨g, ρ, S, r, ?_⟩
  simp only [evS] at p
  show (J.wish _).PostS g H (evSs J.x ib ρ S) D
  cases ev : evSs J.x ib ρ S with
  | nx ρ1 S1 => rw [ev] at p; exact p
  | brk ρ1 S1 => rw [ev] at p; exact p
  | cnt ρ1 S1 => rw [ev] at p; exact p
  | ret v S1 => rw [ev] at p; exact p
  | stuck => rw [ev] at p; exact p
  | exn c ρ1 S1 =>
    rw [ev] at p
    exact fun σ1 g1 H1 r1 st => hh.many h0 r1 (postS_after p st)
/-- one clause with a name -/
theorem s_tryAs {X : Cx} {J : Jr} {pos : Pos} {body : List Stmt} {x n : Str} {b₀ : Stmt} {suite : List Stmt} {np pos' : Pos} {i d : Nat} {ib isu : List _root_.Pv.S} (h0 : J.md.hx = none) (hs : X.stack = X.env :: X.outer) (hf : X.env.frame = some X.env.locals)
    (hN : X.N.Nodup) (hi : X.N[i]? = some n) (hln : X.env.kindOf n = some .local) (hm : J.md.l[i]? = some .shr) (hc : Names X x (.ref (J.k.ca d))) (hk : Catch X.K J d) (tk : Takes X J.W)
    (hb : ∀ (W : WX) (pn : List (Addr × Obj)) (xe : Value → Shared → Prop), Takes (X.tr pn xe) W → PassesOwn (model X.prog X.w) X.A X.env xe → PSs (X.tr pn xe) body ((J.wish W).tSs ib))
    (hsu : ∀ (a : Addr) (oe : Obj) (c : Nat) (pn : List (Addr × Obj)), (∃ C, J.x.G.cls c = some C ∧ C.exc = true) → Zc (.ref (J.k.ca c)) none oe → (∃ vs, oe.data = .fields vs) → PSs (X.suite a ((a, oe) :: pn)) (b₀ :: suite) ((J.suit (some (i, a, c))).tSs isu)) :
    PS X (.Try body [.ExceptHandler (some (.Name x np)) (some n) (b₀ :: suite) pos'] [] [] pos) (J.tS (.tr ib [(d, some i, isu)])) := by
  refine PS.imp (ps_try_as (ts := fun a cls dd D σ H => ∃ c, cls = .ref (J.k.ca c) ∧ dd = none ∧ (∃ C, J.x.G.cls c = some C ∧ C.exc = true) ∧ (J.suit (some (i, a, c))).tSs isu D σ H) hs hf hN hi hln hc tk hb (fun a oe cls dd pn hz hd => ⟨fun pins s σ H D I h => ?_⟩)) fun D σ H h => ?_
  · obtain ⟨c, rfl, rfl, hC, h⟩ := h
    exact (hsu a oe c pn hC hz hd).run pins s σ H D I h
  · obtain ⟨g, ρ, S, r, p⟩ := h
    refine ⟨g, ρ, S, r, ?_⟩
    simp only [evS] at p
    show (J.wish _).PostS g H (evSs J.x ib ρ S) D
    cases ev : evSs J.x ib ρ S with
    | nx ρ1 S1 => rw [ev] at p; exact p
    | brk ρ1 S1 => rw [ev] at p; exact p
    | cnt ρ1 S1 => rw [ev] at p; exact p
    | ret v S1 => rw [ev] at p; exact p
    | stuck => rw [ev] at p; exact p
    | exn c ρ1 S1 =>
      rw [ev] at p
      intro σ1 g1 H1 r1 st
      have r1 : Rel J.k J.md g1 σ1 H1 ρ1 S1 := r1
      have p := postS_after p st
      simp only [evH] at p
      cases ec : catches J.x.G c d with
      | none => rw [ec] at p; exact p.elim
      | some b =>
        rw [ec] at p
        refine ⟨b, hk c b ec, fun hb a _ => ?_, fun hb => ?_⟩
        · subst hb
          have hC : ∃ C, J.x.G.cls c = some C ∧ C.exc = true := by
            unfold catches at ec
            split at ec
            · rename_i C hC
              split at ec
              · rename_i hx
                exact ⟨C, hC, hx⟩
              · cases ec
            · cases ec
          refine ⟨c, rfl, rfl, hC, g1, ρ1.set i (some (.exc c)), S1, ?_, ?_⟩
          · have hl : i < J.md.l.length := by
              by_cases z : i < J.md.l.length
              · exact z
              · rw [List.getElem?_eq_none (by omega)] at hm
                cases hm
            have hx0 : hxOk J.md i := fun j a c z => by rw [h0] at z; cases z
            have r2 := rel_set (v := .exc c) (u := .ref a) r1 hx0 (by
              rw [getD_eq, hm]
              show VRep _ _ _ _ _
              simp only [VRep]
              exact ⟨a, rfl⟩)
            refine ⟨r2.len, r2.lenσ, r2.slot, fun j a' c' z => ?_, r2.str⟩
            cases z
            rw [set_at, set_at, if_pos ⟨rfl, by rw [r1.lenσ]; exact hl⟩, if_pos ⟨rfl, by rw [r1.len]; exact hl⟩]
            exact ⟨rfl, rfl⟩
          · simp only [asSlot] at p
            have w : ∀ {g' : Gh} {σ' : L2.St} {H' : Hp} {ρ' : Env} {S' : Store}, Rel (J.suit (some (i, a, c))).k (J.suit (some (i, a, c))).md g' σ' H' ρ' S' → Rel J.k J.md g' (σ'.set i none) H' (ρ'.set i none) S' := fun {g' σ' H' ρ' S'} q => by
              have q2 : Rel J.k { J.md with hx := none } g' σ' H' ρ' S' := ⟨q.len, q.lenσ, q.slot, (fun _ _ _ z => nomatch z), q.str⟩
              have q3 := rel_dropσ (i := i) q2 (fun _ _ _ z => nomatch z)
              exact ⟨q3.len, q3.lenσ, q3.slot, (fun j a c z => by rw [h0] at z; cases z), q3.str⟩
            cases ev2 : evSs (J.suit (some (i, a, c))).x isu (ρ1.set i (some (.exc c))) S1 with
            | nx ρ2 S2 =>
              have e2 : evSs J.x isu (ρ1.set i (some (.exc c))) S1 = .nx ρ2 S2 := ev2
              rw [e2] at p
              exact fun σ2 g2 H2 q st2 => p _ g2 H2 (w q) st2
            | brk ρ2 S2 =>
              have e2 : evSs J.x isu (ρ1.set i (some (.exc c))) S1 = .brk ρ2 S2 := ev2
              rw [e2] at p
              exact fun σ2 g2 H2 q st2 => p _ g2 H2 (w q) st2
            | cnt ρ2 S2 =>
              have e2 : evSs J.x isu (ρ1.set i (some (.exc c))) S1 = .cnt ρ2 S2 := ev2
              rw [e2] at p
              exact fun σ2 g2 H2 q st2 => p _ g2 H2 (w q) st2
            | ret v S2 =>
              have e2 : evSs J.x isu (ρ1.set i (some (.exc c))) S1 = .ret v S2 := ev2
              rw [e2] at p
              exact p
            | exn c2 ρ2 S2 =>
              have e2 : evSs J.x isu (ρ1.set i (some (.exc c))) S1 = .exn c2 ρ2 S2 := ev2
              rw [e2] at p
              exact p.elim
            | stuck =>
              have e2 : evSs J.x isu (ρ1.set i (some (.exc c))) S1 = .stuck := ev2
              rw [e2] at p
              exact p.elim
        · subst hb
          simp only [evH] at p
          exact p σ1 g1 H1 r1 StepS.refl
end
end Pv
end

section
set_option Elab.async false
set_option linter.all false
set_option maxRecDepth 100000
set_option autoImplicit false
/-! Pv18: calls. -/
namespace Pv
open PySem PySem.Spec PyProof.Rows L2

/-! ### a callee's view of the addresses -/
def Gh.callee (g : Gh) : Gh := { g with T := fun a => match g.T a with
  | .sl _ => .br
  | .rt => .br
  | t => t }
/-- the caller's view behind a call -/
def Gh.back (g g' : Gh) : Gh := { g' with T := fun a => match g.T a with
  | .sl i => .sl i
  | .rt => .rt
  | .no => (match g'.T a with
    | .sl _ => .no
    | .br => .no
    | t => t)
  | _ => g'.T a }
def Clean (g : Gh) : Prop := ∀ a, g.T a ≠ .rt ∧ ∀ i, g.T a ≠ .sl i
section
variable {k : Kx} {md : Sl} {g g' : Gh} {H H' : Hp} {σ : L2.St} {ρ : Env} {S S' : Store}
/-- what a store's facts need to be carried over -/
structure Keep0 (g : Gh) (H : Hp) (g' : Gh) (H' : Hp) : Prop where
  at' : ∀ a, g.T a = .fz ∨ (∃ n, g.T a = .st n) ∨ (∃ n f, g.T a = .fo n f) → g'.T a = g.T a ∧ H' a = H a
  ι : ∀ n a, g.ι n = some a → g'.ι n = some a
theorem Keep0.fz (h : Keep0 g H g' H') : ∀ b o, fzP g H b = some o → fzP g' H' b = some o := fun b o e => by
  obtain ⟨t, e⟩ := fzP_some e
  obtain ⟨t', e'⟩ := h.at' b (.inl t)
  exact fzP_of (t'.trans t) (e'.trans e)
theorem Keep0.fs (h : Keep0 g H g' H') {c n : Nat} : ∀ {fs : List (Nat × Val)} {us : List (Str × V)}, FReps k g H c n fs us → FReps k g' H' c n fs us
  | [], _, m => m
  | (f, x) :: xs, _, m => by
    obtain ⟨u, r, e, h1, h2⟩ := m
    refine ⟨u, r, e, ?_, h.fs h2⟩
    split
    · rename_i ho
      rw [if_pos ho] at h1
      refine TRep.mono h.fz h.ι (fun b o r => ?_) _ _ h1
      obtain ⟨t', e'⟩ := h.at' b (.inr (.inr ⟨n, f, r.1⟩))
      exact ⟨t'.trans r.1, e'.trans r.2⟩
    · rename_i ho
      rw [if_neg ho] at h1
      exact VRep.mono h.fz h.ι _ _ h1
theorem Keep0.obj (h : Keep0 g H g' H') {n : Nat} {x : Addr} {o : SO} (t : g.T x = .st n) (m : ORep k g H n x o) : ORep k g' H' n x o := by
  obtain ⟨_, e⟩ := h.at' x (.inr (.inl ⟨n, t⟩))
  cases o with
  | inst c fs =>
    obtain ⟨dx, us, h1, h2⟩ := m
    exact ⟨dx, us, e.trans h1, h.fs h2⟩
  | cell v =>
    obtain ⟨hc, m⟩ := m
    refine ⟨hc, TRep.mono h.fz h.ι (fun b ob r => ?_) _ _ m⟩
    obtain ⟨rfl, r⟩ := r
    exact ⟨rfl, e.trans r⟩
  | lk v =>
    obtain ⟨hc, m⟩ := m
    refine ⟨hc, TRep.mono h.fz h.ι (fun b ob r => ?_) _ _ m⟩
    obtain ⟨rfl, oo, r⟩ := r
    exact ⟨rfl, oo, e.trans r⟩
theorem Keep0.str (h : Keep0 g H g' H') (r : SRel k g H S) (s : Side g' H' S) : SRel k g' H' S :=
  ⟨fun n o e => by
    obtain ⟨x, i, t, m⟩ := r.obj n o e
    exact ⟨x, h.ι _ _ i, (h.at' x (.inr (.inl ⟨n, t⟩))).1.trans t, h.obj t m⟩, s.no, s.uniq, s.wf, s.tup⟩
theorem callee_ne {a : Addr} (h1 : g.T a ≠ .rt) (h2 : ∀ i, g.T a ≠ .sl i) : g.callee.T a = g.T a := by
  unfold Gh.callee
  cases e : g.T a with
  | rt => exact absurd e h1
  | sl i => exact absurd e (h2 i)
  | _ => simp only [e]
theorem callee_rt {a : Addr} (h : g.T a = .rt) : g.callee.T a = .br := by
  unfold Gh.callee
  simp only [h]
theorem callee_sl {a : Addr} {i : Nat} (h : g.T a = .sl i) : g.callee.T a = .br := by
  unfold Gh.callee
  simp only [h]
theorem callee_clean : Clean g.callee := fun a => by
  cases e : g.T a with
  | rt => rw [callee_rt e]; exact ⟨(fun z => nomatch z), fun i z => nomatch z⟩
  | sl i => rw [callee_sl e]; exact ⟨(fun z => nomatch z), fun i z => nomatch z⟩
  | _ =>
    rw [callee_ne (by rw [e]; intro z; cases z) (fun i => by rw [e]; intro z; cases z), e]
    exact ⟨(fun z => nomatch z), fun i z => nomatch z⟩
theorem callee_keep : Keep0 g H g.callee H := ⟨fun a h => ⟨callee_ne (fun z => by rw [z] at h; rcases h with h | ⟨_, h⟩ | ⟨_, _, h⟩ <;> cases h) (fun i z => by rw [z] at h; rcases h with h | ⟨_, h⟩ | ⟨_, _, h⟩ <;> cases h), rfl⟩, fun _ _ h => h⟩
theorem callee_no {a : Addr} (h : g.callee.T a ≠ .no) : g.T a ≠ .no := fun e => h (by rw [callee_ne (by rw [e]; intro z; cases z) (fun i => by rw [e]; intro z; cases z)]; exact e)
theorem callee_fo {a : Addr} {n f : Nat} (h : g.callee.T a = .fo n f) : g.T a = .fo n f := by
  cases e : g.T a with
  | rt => rw [callee_rt e] at h; cases h
  | sl i => rw [callee_sl e] at h; cases h
  | _ =>
    rw [callee_ne (by rw [e]; intro z; cases z) (fun i => by rw [e]; intro z; cases z), e] at h
    first | exact h | cases h
theorem callee_str (r : SRel k g H S) : SRel k g.callee H S := callee_keep.str r ⟨r.no, fun n f a b ha hb => r.uniq n f a b (callee_fo ha) (callee_fo hb), fun a h => r.wf a (callee_no h), fun a xs e => by
  rcases r.tup a xs e with h | h
  · exact .inl (by rw [callee_ne (by rw [h]; intro z; cases z) (fun i => by rw [h]; intro z; cases z)]; exact h)
  · exact .inr (by rw [callee_ne (by rw [h]; intro z; cases z) (fun i => by rw [h]; intro z; cases z)]; exact h)⟩
/-! ### back -/
theorem back_sl {a : Addr} {i : Nat} (h : g.T a = .sl i) : (g.back g').T a = .sl i := by
  unfold Gh.back
  simp only [h]
theorem back_rt {a : Addr} (h : g.T a = .rt) : (g.back g').T a = .rt := by
  unfold Gh.back
  simp only [h]
theorem back_new {a : Addr} (h : g.T a = .no) : (g.back g').T a = match g'.T a with
    | .sl _ => .no
    | .br => .no
    | t => t := by
  unfold Gh.back
  simp only [h]
theorem back_else {a : Addr} (h0 : g.T a ≠ .no) (h1 : g.T a ≠ .rt) (h2 : ∀ i, g.T a ≠ .sl i) : (g.back g').T a = g'.T a := by
  unfold Gh.back
  cases e : g.T a with
  | no => exact absurd e h0
  | rt => exact absurd e h1
  | sl i => exact absurd e (h2 i)
  | _ => simp only [e]
/-- what the callee frees of tags -/
theorem back_same {a : Addr} (st : StepS g.callee H g' H') (h : g'.T a = .fz ∨ g'.T a = .rt ∨ (∃ n, g'.T a = .st n) ∨ (∃ n f, g'.T a = .fo n f)) : (g.back g').T a = g'.T a := by
  cases e : g.T a with
  | no =>
    rw [back_new e]
    rcases h with h | h | ⟨n, h⟩ | ⟨n, f, h⟩ <;> rw [h]
  | rt =>
    have := (st.keep a (.inr (callee_rt e))).1
    rw [callee_rt e] at this
    rw [this] at h
    rcases h with h | h | ⟨n, h⟩ | ⟨n, f, h⟩ <;> cases h
  | sl i =>
    have := (st.keep a (.inr (callee_sl e))).1
    rw [callee_sl e] at this
    rw [this] at h
    rcases h with h | h | ⟨n, h⟩ | ⟨n, f, h⟩ <;> cases h
  | _ => exact back_else (by rw [e]; intro z; cases z) (by rw [e]; intro z; cases z) (fun i => by rw [e]; intro z; cases z)
theorem back_keep (st : StepS g.callee H g' H') : Keep0 g' H' (g.back g') H' := ⟨fun a h => ⟨back_same st (h.imp id .inr), rfl⟩, fun _ _ h => h⟩
theorem back_fo {a : Addr} {n f : Nat} (h : (g.back g').T a = .fo n f) : g'.T a = .fo n f := by
  cases e : g.T a with
  | no =>
    rw [back_new e] at h
    cases e2 : g'.T a <;> rw [e2] at h <;> first | exact h | cases h
  | rt => rw [back_rt e] at h; cases h
  | sl i => rw [back_sl e] at h; cases h
  | _ => rwa [back_else (by rw [e]; intro z; cases z) (by rw [e]; intro z; cases z) (fun i => by rw [e]; intro z; cases z)] at h
theorem back_step (wf : ∀ a, g.T a ≠ .no → H a ≠ none) (st : StepS g.callee H g' H') : Step false g H (g.back g') H' := by
  refine ⟨fun a h => ?_, fun a n h => ?_, fun a n f h => ?_, fun z => Bool.noConfusion z, st.ι, fun a n ob o t h => st.lk a n ob o ((callee_ne (by rw [t]; intro z; cases z) (fun i => by rw [t]; intro z; cases z)).trans t) h⟩
  · rcases h with h | h | h | ⟨i, h⟩
    · have e : g.callee.T a = .fz := (callee_ne (by rw [h]; intro z; cases z) (fun i => by rw [h]; intro z; cases z)).trans h
      obtain ⟨t, e2⟩ := st.keep a (.inl e)
      exact ⟨by rw [back_else (by rw [h]; intro z; cases z) (by rw [h]; intro z; cases z) (fun i => by rw [h]; intro z; cases z), t, e, h], e2⟩
    · have e : g.callee.T a = .br := (callee_ne (by rw [h]; intro z; cases z) (fun i => by rw [h]; intro z; cases z)).trans h
      obtain ⟨t, e2⟩ := st.keep a (.inr e)
      exact ⟨by rw [back_else (by rw [h]; intro z; cases z) (by rw [h]; intro z; cases z) (fun i => by rw [h]; intro z; cases z), t, e, h], e2⟩
    · obtain ⟨t, e2⟩ := st.keep a (.inr (callee_rt h))
      exact ⟨by rw [back_rt h, h], e2⟩
    · obtain ⟨t, e2⟩ := st.keep a (.inr (callee_sl h))
      exact ⟨by rw [back_sl h, h], e2⟩
  · have e : g.callee.T a = .st n := (callee_ne (by rw [h]; intro z; cases z) (fun i => by rw [h]; intro z; cases z)).trans h
    rw [back_else (by rw [h]; intro z; cases z) (by rw [h]; intro z; cases z) (fun i => by rw [h]; intro z; cases z)]
    exact st.st a n e
  · have e : g.callee.T a = .fo n f := (callee_ne (by rw [h]; intro z; cases z) (fun i => by rw [h]; intro z; cases z)).trans h
    rw [back_else (by rw [h]; intro z; cases z) (by rw [h]; intro z; cases z) (fun i => by rw [h]; intro z; cases z)]
    exact st.fo a n f e
theorem back_str (wf : ∀ a, g.T a ≠ .no → H a ≠ none) (st : StepS g.callee H g' H') (r : SRel k g' H' S) : SRel k (g.back g') H' S := by
  refine (back_keep st).str r ⟨r.no, fun n f a b ha hb => r.uniq n f a b (back_fo ha) (back_fo hb), fun a h => ?_, fun a xs e => ?_⟩
  · cases e : g.T a with
    | no =>
      rw [back_new e] at h
      exact r.wf a fun z => h (by rw [z])
    | rt => rw [(st.keep a (.inr (callee_rt e))).2]; exact wf a (by rw [e]; intro z; cases z)
    | sl i => rw [(st.keep a (.inr (callee_sl e))).2]; exact wf a (by rw [e]; intro z; cases z)
    | _ =>
      rw [back_else (by rw [e]; intro z; cases z) (by rw [e]; intro z; cases z) (fun i => by rw [e]; intro z; cases z)] at h
      exact r.wf a h
  · rcases r.tup a xs e with h | h
    · cases e2 : g.T a with
      | no => left; rw [back_new e2, h]
      | rt =>
        have := (st.keep a (.inr (callee_rt e2))).1
        rw [callee_rt e2, h] at this
        cases this
      | sl i =>
        have := (st.keep a (.inr (callee_sl e2))).1
        rw [callee_sl e2, h] at this
        cases this
      | _ =>
        left
        rw [back_else (by rw [e2]; intro z; cases z) (by rw [e2]; intro z; cases z) (fun i => by rw [e2]; intro z; cases z)]
        exact h
    · right
      rw [back_same st (.inl h)]
      exact h
/-- a callee's fresh result is new to the caller -/
theorem back_rtno {a : Addr} (st : StepS g.callee H g' H') (t2 : g'.T a = .rt) : g.T a = .no := by
  cases e3 : g.T a with
  | no => rfl
  | rt =>
    have := (st.keep a (.inr (callee_rt e3))).1
    rw [callee_rt e3, t2] at this
    cases this
  | sl i =>
    have := (st.keep a (.inr (callee_sl e3))).1
    rw [callee_sl e3, t2] at this
    cases this
  | fz =>
    have e4 : g.callee.T a = .fz := (callee_ne (by rw [e3]; intro z; cases z) (fun i => by rw [e3]; intro z; cases z)).trans e3
    have := (st.keep a (.inl e4)).1
    rw [e4, t2] at this
    cases this
  | br =>
    have e4 : g.callee.T a = .br := (callee_ne (by rw [e3]; intro z; cases z) (fun i => by rw [e3]; intro z; cases z)).trans e3
    have := (st.keep a (.inr e4)).1
    rw [e4, t2] at this
    cases this
  | st n =>
    have e4 : g.callee.T a = .st n := (callee_ne (by rw [e3]; intro z; cases z) (fun i => by rw [e3]; intro z; cases z)).trans e3
    have := st.st a n e4
    rw [t2] at this
    cases this
  | fo n f =>
    have e4 : g.callee.T a = .fo n f := (callee_ne (by rw [e3]; intro z; cases z) (fun i => by rw [e3]; intro z; cases z)).trans e3
    have := st.fo a n f e4
    rw [t2] at this
    cases this
/-- a fresh result at any mode -/
theorem fin_O {g0 : Gh} {H0 : Hp} {q : Bool} {m : Md} {v : Val} {u : V} (r : Rel k md g σ H ρ S) (h : MRep k g H .O v u) (hn : isColl v → ∀ a, u = .ref a → g0.T a = .no) (st : Step q g0 H0 g H) : ∃ g', Rel k md g' σ H ρ S ∧ Step q g0 H0 g' H ∧ MRep k g' H m v u := by
  by_cases hc : isColl v
  · rcases coll_cases hc with ⟨xs, rfl⟩ | ⟨xs, rfl⟩ | ⟨xs, rfl⟩
    · obtain ⟨a, us, rfl, ⟨t, ha⟩, hs⟩ := (show ∃ a us, u = .ref a ∧ OP g H .rt a (.lst us) ∧ _ from h)
      exact ⟨_, rel_retag t ha r m, step_put (hn hc a rfl) st, mrep_rt t ha hs⟩
    · obtain ⟨a, us, rfl, ⟨t, ha⟩, hs⟩ := (show ∃ a us, u = .ref a ∧ OP g H .rt a (.dK us) ∧ _ from h)
      refine ⟨_, rel_retag t ha r m, step_put (hn hc a rfl) st, ?_⟩
      have h2 : VKs k (fzP (g.put a (tagM m)) H) g.ι xs us := by
        refine VKs.mono (fun b o e => ?_) (fun _ _ h => h) _ _ hs
        obtain ⟨t1, e1⟩ := fzP_some e
        exact fzP_of (by rw [put_ne (fun z => by subst z; rw [t] at t1; cases t1)]; exact t1) e1
      cases m with
      | V =>
        show VRep _ _ _ _ _
        simp only [VRep]
        exact ⟨a, us, rfl, fzP_of put_same ha, h2⟩
      | L => exact ⟨a, us, rfl, ⟨by rw [show (g.put a (tagM .L)).T a = .fz from put_same]; rfl, ha⟩, h2⟩
      | B => exact ⟨a, us, rfl, ⟨by rw [show (g.put a (tagM .B)).T a = .fz from put_same]; rfl, ha⟩, h2⟩
      | P => exact ⟨a, us, rfl, ⟨by rw [show (g.put a (tagM .P)).T a = .fz from put_same]; rfl, ha⟩, h2⟩
      | O => exact ⟨a, us, rfl, ⟨put_same, ha⟩, h2⟩
      | N _ => exact ⟨a, us, rfl, ⟨put_same, ha⟩, h2⟩
    · obtain ⟨a, us, rfl, ⟨t, ha⟩, hs⟩ := (show ∃ a us, u = .ref a ∧ OP g H .rt a (.dT us) ∧ _ from h)
      refine ⟨_, rel_retag t ha r m, step_put (hn hc a rfl) st, ?_⟩
      have h2 : VTs k (fzP (g.put a (tagM m)) H) g.ι xs us := by
        refine VTs.mono (fun b o e => ?_) (fun _ _ h => h) _ _ hs
        obtain ⟨t1, e1⟩ := fzP_some e
        exact fzP_of (by rw [put_ne (fun z => by subst z; rw [t] at t1; cases t1)]; exact t1) e1
      cases m with
      | V =>
        show VRep _ _ _ _ _
        simp only [VRep]
        exact ⟨a, us, rfl, fzP_of put_same ha, h2⟩
      | L => exact ⟨a, us, rfl, ⟨by rw [show (g.put a (tagM .L)).T a = .fz from put_same]; rfl, ha⟩, h2⟩
      | B => exact ⟨a, us, rfl, ⟨by rw [show (g.put a (tagM .B)).T a = .fz from put_same]; rfl, ha⟩, h2⟩
      | P => exact ⟨a, us, rfl, ⟨by rw [show (g.put a (tagM .P)).T a = .fz from put_same]; rfl, ha⟩, h2⟩
      | O => exact ⟨a, us, rfl, ⟨put_same, ha⟩, h2⟩
      | N _ => exact ⟨a, us, rfl, ⟨put_same, ha⟩, h2⟩
  · refine ⟨g, r, st, MRep.of_V ?_ hc⟩
    cases v <;> first | exact h | exact absurd trivial hc
end

/-! ### what a def promises -/
def argM : Mode → Md
  | .brw => .L
  | _ => .V
/-- the arguments, as the def's slots want them -/
def ArgsR (k : Kx) (g : Gh) (H : Hp) : List Mode → List Val → List V → Prop
  | _, [], us => us = []
  | ms, v :: vs, us => ∃ u r, us = u :: r ∧ MRep k g H (argM (ms.headD .shr)) v u ∧ ArgsR k g H ms.tail vs r
def PostC (k : Kx) (rm : Md) (g : Gh) (H : Hp) (r : R Val) (Q : VK) (E : XK) : Prop := match r with
  | .ok v S' => ∀ u g' H', SRel k g' H' S' → StepS g H g' H' → MRep k g' H' rm v u → Q u H'
  | .exn c S' => ∀ g' H', SRel k g' H' S' → StepS g H g' H' → E (.ref (k.ca c)) none H'
  | .stuck => False
def retM : Mode → Md
  | .own => .O
  | _ => .V
def spec (k : Kx) (F : Fn) (go : List Val → Store → R Val) : Sp := fun us H Q E => ∃ g S vs, SRel k g H S ∧ Clean g ∧ ArgsR k g H F.md vs us ∧ vs.length = F.np ∧ PostC k (retM F.ret) g H (go vs S) Q E
theorem ArgsR.len {k : Kx} {g : Gh} {H : Hp} : ∀ {ms : List Mode} {vs : List Val} {us : List V}, ArgsR k g H ms vs us → us.length = vs.length
  | _, [], _, h => by
    have h : _ = [] := h
    subst h
    rfl
  | ms, v :: vs, us, h => by
    obtain ⟨u, r, rfl, _, h2⟩ := h
    rw [List.length_cons, List.length_cons, ArgsR.len h2]
def callMs : List Mode → List Md
  | [] => []
  | .brw :: r => .B :: callMs r
  | _ :: r => .V :: callMs r
theorem callMs_at : ∀ (ms : List Mode), (callMs ms).headD .V = (match ms.headD .shr with
    | .brw => Md.B
    | _ => .V) ∧ (callMs ms).tail = callMs ms.tail
  | [] => ⟨rfl, rfl⟩
  | .brw :: r => ⟨rfl, rfl⟩
  | .shr :: r => ⟨rfl, rfl⟩
  | .own :: r => ⟨rfl, rfl⟩
  | .ini :: r => ⟨rfl, rfl⟩
theorem args_callee {k : Kx} {g : Gh} {H : Hp} : ∀ {ms : List Mode} {vs : List Val} {us : List V}, MReps k g H (callMs ms) vs us → ArgsR k g.callee H ms vs us
  | _, [], _, h => h
  | ms, v :: vs, us, h => by
    obtain ⟨u, r, rfl, h1, h2⟩ := h
    rw [(callMs_at ms).1] at h1
    rw [(callMs_at ms).2] at h2
    refine ⟨u, r, rfl, ?_, args_callee h2⟩
    have kp : Keep0 g H g.callee H := callee_keep
    cases e : ms.headD .shr with
    | brw =>
      rw [e] at h1
      refine TRep.mono kp.fz kp.ι (fun b o r => ⟨?_, r.2⟩) _ _ h1
      have hb : bTag (g.T b) = true := r.1
      cases e2 : g.T b with
      | fz => rw [callee_ne (by rw [e2]; intro z; cases z) (fun i => by rw [e2]; intro z; cases z), e2]; rfl
      | br => rw [callee_ne (by rw [e2]; intro z; cases z) (fun i => by rw [e2]; intro z; cases z), e2]; rfl
      | sl i => rw [callee_sl e2]; rfl
      | _ => rw [e2] at hb; exact Bool.noConfusion hb
    | shr => rw [e] at h1; exact VRep.mono kp.fz kp.ι _ _ h1
    | own => rw [e] at h1; exact VRep.mono kp.fz kp.ι _ _ h1
    | ini => rw [e] at h1; exact VRep.mono kp.fz kp.ι _ _ h1
section
variable {X : Cx} {J : Jx} {m : Md} {pos : Pos}
theorem spec_of {F : Fn} {f : Nat} {g1 : Gh} {H1 : Hp} {σ : L2.St} {ρ : Env} {S1 : Store} {vs : List Val} {us : List V} {Q : VK} (hm : retM F.ret = .O ∨ m.kp = true) (r1 : Rel J.k J.md g1 σ H1 ρ S1) (ha : ArgsR J.k g1.callee H1 F.md vs us) (hl : vs.length = F.np)
    (p : J.Post m false g1 H1 σ ρ (J.x.cl f vs S1) Q) : spec J.k F (J.x.cl f) us H1 Q (WE J.W σ) := by
  refine ⟨g1.callee, S1, vs, callee_str r1.str, callee_clean, ha, hl, ?_⟩
  cases e : J.x.cl f vs S1 with
  | ok v S2 =>
    rw [e] at p
    intro u g2 H2 s2 st2 mr2
    have wf := r1.str.wf
    have s3 := back_str wf st2 s2
    have st3 := back_step wf st2
    have r3 := rel_back r1 st3 s3
    have kp := back_keep st2
    by_cases hO : retM F.ret = .O
    · rw [hO] at mr2
      have mr3 : MRep J.k (g1.back g2) H2 .O v u := by
        refine TRep.mono kp.fz kp.ι (fun b o r => ⟨?_, r.2⟩) _ _ mr2
        rw [back_same st2 (.inr (.inl r.1))]
        exact r.1
      by_cases hmO : m = .O
      · subst hmO
        exact p u _ H2 r3 st3 mr3
      · obtain ⟨g4, r4, st4, mr4⟩ := fin_O (m := m) r3 mr3 (g0 := g1) (H0 := H1) (q := false) (fun hc a ea => by
          subst ea
          have t2 : g2.T a = .rt := by
            rcases coll_cases hc with ⟨xs, rfl⟩ | ⟨xs, rfl⟩ | ⟨xs, rfl⟩
            · obtain ⟨b, us, e1, ⟨t, ha⟩, hs⟩ := (show ∃ b us, V.ref a = .ref b ∧ OP g2 H2 .rt b (.lst us) ∧ _ from mr2)
              cases e1
              exact t
            · obtain ⟨b, us, e1, ⟨t, ha⟩, hs⟩ := (show ∃ b us, V.ref a = .ref b ∧ OP g2 H2 .rt b (.dK us) ∧ _ from mr2)
              cases e1
              exact t
            · obtain ⟨b, us, e1, ⟨t, ha⟩, hs⟩ := (show ∃ b us, V.ref a = .ref b ∧ OP g2 H2 .rt b (.dT us) ∧ _ from mr2)
              cases e1
              exact t
          exact back_rtno st2 t2) st3
        exact p u g4 H2 r4 st4 mr4
    · have hV : retM F.ret = .V := by
        revert hO
        cases F.ret <;> intro hO <;> first | rfl | exact absurd rfl hO
      rw [hV] at mr2
      have mr3 : MRep J.k (g1.back g2) H2 .V v u := VRep.mono kp.fz kp.ι _ _ mr2
      exact p u _ H2 r3 st3 (mr3.V_any (hm.resolve_left hO))
  | exn c S2 =>
    rw [e] at p
    intro g2 H2 s2 st2
    have wf := r1.str.wf
    have st3 := back_step wf st2
    exact p _ H2 (rel_back r1 st3 (back_str wf st2 s2)) st3
  | stuck => rw [e] at p; exact p
theorem call_imp {F : Fn} {f : Nat} {ies : List E} (hl : ies.length = F.np) (hm : retM F.ret = .O ∨ m.kp = true) (σ : L2.St) (H : Hp) (Q : VK) (h : J.tE m (.call f ies) σ H Q) :
    tCallSD (spec J.k F (J.x.cl f)) [] (WE J.W) (J.tA (callMs F.md) ies) σ H Q := by
  obtain ⟨g, ρ, S, r, p⟩ := h
  simp only [evE] at p
  refine tA_bindI r (fun c S' ev => ?_) (fun ev => ?_) fun vs S1 us g1 H1 ev r1 st1 mr => ?_
  · rw [ev] at p
    exact p
  · rw [ev] at p
    exact p
  · rw [ev] at p
    simp only [_root_.Pv.R.bind] at p
    rw [List.append_nil]
    have p : J.Post m false g1 H1 σ ρ (J.x.cl f vs S1) Q := by
      cases e : J.x.cl f vs S1 with
      | ok v S' =>
        rw [e] at p
        exact fun u g2 H2 r2 s mr => p u g2 H2 r2 (by
          have := st1.trans s
          rw [Bool.and_false] at this
          exact this) mr
      | exn c S' =>
        rw [e] at p
        exact exn_weak p st1
      | stuck => rw [e] at p; exact p
    exact spec_of hm r1 (args_callee mr) ((evs_len ev).trans hl) p
end
end Pv
end

section
set_option Elab.async false
set_option linter.all false
set_option maxRecDepth 100000
set_option autoImplicit false
/-! Pv18b: objects that do not change once they are made. -/
namespace Pv
open PySem PySem.Spec PyProof.Rows L2

/-! ### the form of a method's call -/
theorem form_ok {p : Pos} {env : PySem.Env} {es : List Expr} (h : (backTo p (starEach es env)).any (·.1) = false) (hn : es.length < 30) : methodCallForm (es.length + 0) (backTo p (starEach es env)) (backToKw p (keywordEach [] env)) = true := by
  unfold methodCallForm
  have e1 : (backTo p (starEach es env)).all (fun x => !x.1) = true := by
    rw [List.all_eq_true]
    intro x hx
    have := List.any_eq_false.mp h x hx
    simpa using this
  show ((backTo p (starEach es env)).all (fun x => !x.1) && true && decide (es.length + 0 + 0 < 30)) = true
  rw [e1]
  simp
  omega
theorem meth_form {o : Expr} {name : Str} {apos pos : Pos} {es : List Expr} {env : PySem.Env} (hb : attributeBase o name env (eval o env) = eval o env) (hl : (apos.endLine == pos.line) = true) (h : (backTo pos (starEach es env)).any (·.1) = false) (hn : es.length < 30) :
    eval (.Call (.Attribute o name apos) es [] pos) env = (eval o env >>= fun ov => standAt apos.atName >>= fun _ => holding [ov] (getMethod ov name (do return (← importBound o env).getD true)) >>= fun q => callWith pos q.1 q.2 (backTo pos (starEach es env)) (backToKw pos (keywordEach [] env))) := by
  have e : eval (.Call (.Attribute o name apos) es [] pos) env = (attributeBase o name env (eval o env) >>= fun ov => standAt apos.atName >>= fun _ => methodCall o name apos pos env ov (es.length + 0) (backTo pos (starEach es env)) (backToKw pos (keywordEach [] env))) := by rfl
  rw [e, hb]
  unfold methodCall
  rw [form_ok h hn]
  unfold calleeOf methodCallPos
  rw [hl]
  rfl
/-! ### fields -/
/-- names of fields are apart -/
def NmI (k : Kx) : Prop := ∀ f q, k.nm f ≠ "" → k.nm q = k.nm f → q = f
section
variable {k : Kx} {F : Hp} {ι : Nat → Option Addr}
theorem vfs_get (hn : NmI k) {f : Nat} (hf : k.nm f ≠ "") : ∀ {fs : List (Nat × Val)} {us : List (Str × V)} {v : Val}, VFs k F ι fs us → fget f fs = some v → ∃ u, us.lookup (k.nm f) = some u ∧ VRep k F ι v u
  | [], _, v, _, e => by cases e
  | (q, x) :: fs, us, v, h, e => by
    simp only [VFs] at h
    obtain ⟨u, r, rfl, h1, h2⟩ := h
    simp only [fget] at e
    by_cases hq : q = f
    · rw [if_pos hq] at e
      cases e
      subst hq
      exact ⟨u, by rw [List.lookup_cons]; simp, h1⟩
    · rw [if_neg hq] at e
      obtain ⟨u', e1, h3⟩ := vfs_get hn hf h2 e
      refine ⟨u', ?_, h3⟩
      rw [List.lookup_cons]
      have : (k.nm f == k.nm q) = false := by
        rw [beq_eq_false_iff_ne]
        exact fun z => hq (hn f q hf z.symm)
      rw [this]
      exact e1
theorem vfs_none (hn : NmI k) {f : Nat} (hf : k.nm f ≠ "") : ∀ {fs : List (Nat × Val)} {us : List (Str × V)}, VFs k F ι fs us → fget f fs = none → us.lookup (k.nm f) = none
  | [], _, h, _ => by
    simp only [VFs] at h
    subst h
    rfl
  | (q, x) :: fs, us, h, e => by
    simp only [VFs] at h
    obtain ⟨u, r, rfl, h1, h2⟩ := h
    simp only [fget] at e
    by_cases hq : q = f
    · rw [if_pos hq] at e
      cases e
    · rw [if_neg hq] at e
      rw [List.lookup_cons]
      have : (k.nm f == k.nm q) = false := by
        rw [beq_eq_false_iff_ne]
        exact fun z => hq (hn f q hf z.symm)
      rw [this]
      exact vfs_none hn hf h2 e
theorem vfs_put (hn : NmI k) {f : Nat} (hf : k.nm f ≠ "") {w : Val} {y : V} (hw : VRep k F ι w y) : ∀ {fs : List (Nat × Val)} {us : List (Str × V)}, VFs k F ι fs us → VFs k F ι (fput f w fs) (putF (k.nm f) y us)
  | [], _, h => by
    simp only [VFs] at h
    subst h
    simp only [fput, putF, VFs]
    exact ⟨y, [], rfl, hw, rfl⟩
  | (q, x) :: fs, us, h => by
    simp only [VFs] at h
    obtain ⟨u, r, rfl, h1, h2⟩ := h
    simp only [fput, putF]
    by_cases hq : q = f
    · subst hq
      rw [if_pos rfl, if_pos rfl]
      simp only [VFs]
      exact ⟨y, r, rfl, hw, h2⟩
    · rw [if_neg hq, if_neg fun z => hq (hn f q hf z)]
      simp only [VFs]
      exact ⟨u, _, rfl, h1, vfs_put hn hf hw h2⟩
theorem vfs_len : ∀ {fs : List (Nat × Val)} {us : List (Str × V)}, VFs k F ι fs us → us.length = fs.length
  | [], _, h => by
    simp only [VFs] at h
    subst h
    rfl
  | (q, x) :: fs, us, h => by
    simp only [VFs] at h
    obtain ⟨u, r, rfl, h1, h2⟩ := h
    rw [List.length_cons, List.length_cons, vfs_len h2]
end

section
variable {X : Cx} {J : Jx} {m : Md} {pos : Pos}
/-- a class of objects: its attributes are plain -/
def ObjC (X : Cx) (J : Jx) (f : Nat) (nm : Str) : Prop := ∀ c, fldV J.x.G c f = true → L2.Cls X.K (J.k.ca c) ∧ NoAttr X.K (J.k.ca c) nm
theorem obj_of {k : Kx} {g : Gh} {H : Hp} {m : Md} {c : Nat} {fs : List (Nat × Val)} {u : V} (h : MRep k g H m (.obj c fs) u) : ∃ a dx us, u = .ref a ∧ fzP g H a = some (.ins (k.ca c) dx us) ∧ VFs k (fzP g H) g.ι fs us := by
  have h2 : VRep k (fzP g H) g.ι (.obj c fs) u := by cases m <;> exact h
  simp only [VRep] at h2
  exact h2
/-! ### e.f -/
theorem s_fld {a : Expr} {ia : E} {f : Nat} {nm : Str} (hm : m.kp = true) (hn : NmI J.k) (hf : J.k.nm f = nm) (hne : nm ≠ "") (ho : ObjC X J f nm) (ha : PE X a (J.tE .B ia)) (hb : attributeBase a nm X.env (eval a X.env) = eval a X.env) : PE X (.Attribute a nm pos) (J.tE m (.fld ia f)) := by
  subst hf
  refine PE.imp (pe_fld ha hb) fun σ H Q h => ?_
  obtain ⟨g, ρ, S, r, p⟩ := h
  have hq : pureE (.fld ia f) = (pureE ia && true) := by simp only [pureE, Bool.and_true]
  simp only [evE] at p
  rw [hq] at p
  refine tE_bindS r p fun v S1 u g1 H1 e1 r1 st1 mr1 p1 => ?_
  cases v with
  | obj c fs =>
    simp only [fieldsO] at p1
    by_cases hc : fldV J.x.G c f = true
    · rw [if_pos hc] at p1
      obtain ⟨x, dx, us, rfl, hx, hv⟩ := obj_of mr1
      cases eg : fget f fs with
      | none => rw [eg] at p1; exact p1.elim
      | some w =>
        rw [eg] at p1
        obtain ⟨z, e2, h2⟩ := vfs_get hn hne hv eg
        obtain ⟨o1, o2⟩ := ho c hc
        exact ⟨x, _, dx, us, z, rfl, (fzP_some hx).2, o1, o2, e2, p1 z g1 H1 r1 Step.refl (MRep.V_any hm h2)⟩
    · rw [if_neg hc] at p1
      exact p1.elim
  | _ => exact p1.elim
/-! ### o.m(..) -/
theorem pe_any {ι : Type} {e : Expr} {t : ι → TE} {P : ι → Prop} (h : ∀ i, P i → PE X e (t i)) (w : ∃ i, P i) : PE X e (fun σ H Q => ∃ i, P i ∧ t i σ H Q) := ⟨fun pins s σ H Q I ⟨i, hi, q⟩ => (h i hi).run pins s σ H Q I q⟩
/-- what a method's rule wants -/
def MtX (X : Cx) (J : Jx) (c : Nat) (nm : Str) (f : Nat) (F : Fn) : Prop := ∃ n addr fd, Room n X.A ∧ L2.Cls X.K (J.k.ca c) ∧ Meth X.K (J.k.ca c) nm addr ∧ Binds X.K fd (F.names.take F.np) [] ∧
  FnOk X.prog X.w X.K X.mg X.base (L2.CX X.prog X.w) n addr fd (F.names.take F.np) (spec J.k F (J.x.cl f))
/-- o.m(..), σ's own wish of an exception -/
def tMethE (C : Addr) (m : Str) (sp : Sp) (E : L2.St → XK) (ta : TE) (t : TA) : TE := fun σ H Q => ta σ H fun x H1 => ∃ a dx fs, x = .ref a ∧ H1 a = some (.ins C dx fs) ∧ fs.lookup m = none ∧ t σ H1 fun vs H2 => sp (x :: vs) H2 Q (E σ)
theorem pe_methE {C f : Addr} {k : Nat} {fd : FuncData} {ps : List Str} {sp : Sp} {E : L2.St → XK} {x : Str} {apos : Pos} {e o : Expr} {es : List Expr} {ta : TE} {t : TA} {pl : Sem Bool} (he : PE X o ta) (c : L2.Cls X.K C) (hm : Meth X.K C x f)
    (F : FnOk X.prog X.w X.K X.mg X.base (L2.CX X.prog X.w) k f fd ps sp) (hr : Room k X.A) (hb : Binds X.K fd ps []) (hx : ∀ σ, PassesAt (L2.CX X.prog X.w) X σ (E σ)) (ha : PA X (e :: es) t)
    (hst : starEach (e :: es) X.env = (false, eval e X.env) :: starEach es X.env) (hpl : (backTo pos (starEach es X.env)).any (·.1) = false)
    (ht : eval (.Call (.Attribute o x apos) (e :: es) [] pos) X.env = (eval o X.env >>= fun ov => standAt apos.atName >>= fun _ => holding [ov] (getMethod ov x pl) >>= fun q => callWith pos q.1 q.2 (backTo pos (starEach (e :: es) X.env)) (backToKw pos (keywordEach [] X.env)))) :
    PE X (.Call (.Attribute o x apos) (e :: es) [] pos) (tMethE C x sp E ta t) :=
  ⟨fun pins s σ H Q I h => PySem.W.methodCall_KW (pl := pl) (thn (he.run pins s σ H _ I h) fun u s1 ⟨v, H1, I1, rx, a, dx, fs, ex, ea, l, q⟩ => by
    subst ex
    obtain rfl : u = Value.ref a := rx
    exact getmeth_ok I1 ea c hm l (PySem.W.callWith_K (first := [.ref a]) (h₀ := X.base) I.ok.mod.kin hm.kp (thn (ha.run pos pins s1 σ H1 _ I1 q) fun us s2 ⟨vs, H2, I2, r, q2⟩ =>
      ⟨I2.kIn, run_fnSD (dvs := []) (ds := []) (us := .ref a :: us) (vs := .ref a :: vs) F hr hb .nil (hx σ) I2 (.cons rfl r) (by rw [List.append_nil]; exact q2)⟩) hst hpl)) ht⟩
theorem mreps_take {k : Kx} {g : Gh} {H : Hp} : ∀ {l : List Mode} {n : Nat} {vs : List Val} {us : List V}, vs.length ≤ n → MReps k g H (callMs (l.take n)) vs us → MReps k g H (callMs l) vs us
  | _, _, [], _, _, h => h
  | l, 0, v :: vs, _, hn, _ => absurd hn (by simp)
  | [], n + 1, v :: vs, us, hn, h => h
  | a :: l, n + 1, v :: vs, us, hn, h => by
    obtain ⟨u, r, e, h1, h2⟩ := h
    rw [List.take_succ_cons] at h1 h2
    refine ⟨u, r, e, ?_, ?_⟩
    · rw [(callMs_at _).1] at h1 ⊢
      exact h1
    · rw [(callMs_at _).2] at h2 ⊢
      exact mreps_take (by simp only [List.length_cons] at hn; omega) h2
theorem meth_imp {io : E} {mm : Nat} {ies : List E} {nm : Str} {ms : List Md} {c f : Nat} {F : Fn} {g : Gh} {ρ : Env} {S S1 : Store} {fs : List (Nat × Val)} {σ : L2.St} {H : Hp} {Q : VK} (hn : NmI J.k) (hf : J.k.nm (mm % 1000) = nm) (hne : nm ≠ "")
    (hms : callMs (F.md.tail.take (F.np - 1)) = ms) (hl : ies.length + 1 = F.np) (hm : retM F.ret = .O ∨ m.kp = true) (r : Rel J.k J.md g σ H ρ S) (ev : evE J.x io ρ S = .ok (.obj c fs) S1) (hc : clsV J.x.G c = true) (hF : fnOf J.x.G c mm = some f) (hg : fget (mm % 1000) fs = none)
    (p : J.Post m false g H σ ρ ((evs J.x ies ρ S1).bind fun vs S2 => J.x.cl f (.obj c fs :: vs) S2) Q) : tMethE (J.k.ca c) nm (spec J.k F (J.x.cl f)) (WE J.W) (J.tE .B io) (J.tA ms ies) σ H Q := by
  subst hf
  refine ⟨g, ρ, S, r, ?_⟩
  rw [ev]
  intro u g1 H1 r1 st1 mr1
  obtain ⟨x, dx, us, rfl, hx, hv⟩ := obj_of mr1
  refine ⟨x, dx, us, rfl, (fzP_some hx).2, vfs_none hn hne hv hg, ?_⟩
  have p1 : J.Post m false g1 H1 σ ρ ((evs J.x ies ρ S1).bind fun vs S2 => J.x.cl f (.obj c fs :: vs) S2) Q := post_after (q1 := pureE io) (by rw [Bool.and_false]; exact p) st1
  have hq : J.Post m (pureEs ies && false) g1 H1 σ ρ ((evs J.x ies ρ S1).bind fun vs S2 => J.x.cl f (.obj c fs :: vs) S2) Q := by
    rw [Bool.and_false]
    exact p1
  refine tA_bind r1 hq fun vs S2 ws g2 H2 e2 r2 st2 mr2 p2 => ?_
  have mr3 : MRep J.k g2 H2 .V (.obj c fs) (.ref x) := st2.mV (by
    show VRep _ _ _ _ _
    simp only [VRep]
    exact ⟨x, dx, us, rfl, hx, hv⟩)
  refine spec_of hm r2 (show ArgsR J.k g2.callee H2 F.md (.obj c fs :: vs) (.ref x :: ws) from ⟨_, ws, rfl, ?_, args_callee (mreps_take (n := F.np - 1) (by rw [evs_len e2]; omega) (by rw [hms]; exact mr2))⟩) (by rw [List.length_cons, evs_len e2]; exact hl) p2
  have kp : Keep0 g2 H2 g2.callee H2 := callee_keep
  have mr4 : MRep J.k g2.callee H2 .V (.obj c fs) (.ref x) := VRep.mono kp.fz kp.ι _ _ mr3
  refine MRep.V_any ?_ mr4
  unfold argM
  split <;> rfl
/-- o.m(e, ..) of an object that doesn't change -/
theorem s_mth {o e : Expr} {es : List Expr} {io : E} {mm : Nat} {ies : List E} {nm : Str} {ms : List Md} {apos : Pos} {pl : Sem Bool} (hn : NmI J.k) (hf : J.k.nm (mm % 1000) = nm) (hne : nm ≠ "") (hex : ∀ ρ S c S', evE J.x io ρ S ≠ .exn c S')
    (hall : ∀ c f, clsV J.x.G c = true → fnOf J.x.G c mm = some f → ∃ F, callMs (F.md.tail.take (F.np - 1)) = ms ∧ ies.length + 1 = F.np ∧ (retM F.ret = .O ∨ m.kp = true) ∧ MtX X J c nm f F) (hx : ∀ σ, PassesAt (L2.CX X.prog X.w) X σ (WE J.W σ)) (ho : PE X o (J.tE .B io)) (ha : PA X (e :: es) (J.tA ms ies))
    (hst : starEach (e :: es) X.env = (false, eval e X.env) :: starEach es X.env) (hpl : (backTo pos (starEach es X.env)).any (·.1) = false)
    (ht : eval (.Call (.Attribute o nm apos) (e :: es) [] pos) X.env = (eval o X.env >>= fun ov => standAt apos.atName >>= fun _ => holding [ov] (getMethod ov nm pl) >>= fun q => callWith pos q.1 q.2 (backTo pos (starEach (e :: es) X.env)) (backToKw pos (keywordEach [] X.env)))) :
    PE X (.Call (.Attribute o nm apos) (e :: es) [] pos) (J.tE m (.mth io mm ies)) := by
  refine ⟨fun pins s σ H Q I h => ?_⟩
  obtain ⟨g, ρ, S, r, p⟩ := h
  simp only [evE, pureE] at p
  cases ev : evE J.x io ρ S with
  | exn c S' => exact absurd ev (hex ρ S c S')
  | stuck => rw [ev] at p; exact p.elim
  | ok v S1 =>
    rw [ev] at p
    simp only [_root_.Pv.R.bind] at p
    cases em : mthOf J.x.G v mm with
    | none => rw [em] at p; exact p.elim
    | some f =>
      rw [em] at p
      cases v with
      | obj c fs =>
        simp only [mthOf, fieldsO] at em
        split at em
        · rename_i hc
          split at em
          · rename_i f' hF hg
            cases em
            obtain ⟨F, h1, h2, h3, n, addr, fd, q1, q2, q3, q4, q5⟩ := hall c f hc hF
            exact (pe_methE ho q2 q3 q5 q1 q4 hx ha hst hpl ht).run pins s σ H Q I (meth_imp hn hf hne h1 h2 h3 r ev hc hF hg p)
          · cases em
        · cases em
      | _ => cases em
/-- o.m() -/
theorem tA_nil {ms : List Md} {σ : L2.St} {H : Hp} {Q : List V → Hp → Prop} (h : J.tA ms [] σ H Q) : Q [] H := by
  obtain ⟨g, ρ, S, r, p⟩ := h
  simp only [evs] at p
  exact p [] g H r Step.refl rfl
theorem pe_methE0 {C f : Addr} {k : Nat} {fd : FuncData} {ps : List Str} {sp : Sp} {E : L2.St → XK} {x : Str} {apos : Pos} {o : Expr} {ta : TE} {ms : List Md} {pl : Sem Bool} (he : PE X o ta) (c : L2.Cls X.K C) (hm : Meth X.K C x f)
    (F : FnOk X.prog X.w X.K X.mg X.base (L2.CX X.prog X.w) k f fd ps sp) (hr : Room k X.A) (hb : Binds X.K fd ps []) (hx : ∀ σ, PassesAt (L2.CX X.prog X.w) X σ (E σ))
    (ht : eval (.Call (.Attribute o x apos) [] [] pos) X.env = (eval o X.env >>= fun ov => standAt apos.atName >>= fun _ => holding [ov] (getMethod ov x pl) >>= fun q => callWith pos q.1 q.2 (backTo pos (starEach [] X.env)) (backToKw pos (keywordEach [] X.env)))) :
    PE X (.Call (.Attribute o x apos) [] [] pos) (tMethE C x sp E ta (J.tA ms [])) :=
  ⟨fun pins s σ H Q I h => PySem.W.methodCall_KW (pl := pl) (thn (he.run pins s σ H _ I h) fun u s1 ⟨v, H1, I1, rx, a, dx, fs, ex, ea, l, q⟩ => by
    subst ex
    obtain rfl : u = Value.ref a := rx
    exact getmeth_ok I1 ea c hm l (PySem.W.callWith_K0 (first := [.ref a]) I1.kIn hm.kp (run_fnSD (dvs := []) (ds := []) (us := [.ref a]) (vs := [.ref a]) F hr hb .nil (hx σ) I1 (.cons rfl .nil) (by rw [List.append_nil]; exact tA_nil q)))) ht⟩
theorem s_mth0 {o : Expr} {io : E} {mm : Nat} {nm : Str} {ms : List Md} {apos : Pos} {pl : Sem Bool} (hn : NmI J.k) (hf : J.k.nm (mm % 1000) = nm) (hne : nm ≠ "") (hex : (∀ ρ S c S', evE J.x io ρ S ≠ .exn c S') ∨ ∃ c f, clsV J.x.G c = true ∧ fnOf J.x.G c mm = some f)
    (hall : ∀ c f, clsV J.x.G c = true → fnOf J.x.G c mm = some f → ∃ F, callMs (F.md.tail.take (F.np - 1)) = ms ∧ 1 = F.np ∧ (retM F.ret = .O ∨ m.kp = true) ∧ MtX X J c nm f F) (hx : ∀ σ, PassesAt (L2.CX X.prog X.w) X σ (WE J.W σ)) (ho : PE X o (J.tE .B io))
    (ht : eval (.Call (.Attribute o nm apos) [] [] pos) X.env = (eval o X.env >>= fun ov => standAt apos.atName >>= fun _ => holding [ov] (getMethod ov nm pl) >>= fun q => callWith pos q.1 q.2 (backTo pos (starEach [] X.env)) (backToKw pos (keywordEach [] X.env)))) :
    PE X (.Call (.Attribute o nm apos) [] [] pos) (J.tE m (.mth io mm [])) := by
  refine ⟨fun pins s σ H Q I h => ?_⟩
  obtain ⟨g, ρ, S, r, p⟩ := h
  simp only [evE, pureE] at p
  cases ev : evE J.x io ρ S with
  | exn c S' =>
    rcases hex with hex | ⟨c2, f2, hc2, hf2⟩
    · exact absurd ev (hex ρ S c S')
    · rw [ev] at p
      obtain ⟨F, h1, h2, h3, n, addr, fd, q1, q2, q3, q4, q5⟩ := hall c2 f2 hc2 hf2
      exact (pe_methE0 (J := J) (ms := ms) ho q2 q3 q5 q1 q4 hx ht).run pins s σ H Q I ⟨g, ρ, S, r, by rw [ev]; exact p⟩
  | stuck => rw [ev] at p; exact p.elim
  | ok v S1 =>
    rw [ev] at p
    simp only [_root_.Pv.R.bind] at p
    cases em : mthOf J.x.G v mm with
    | none => rw [em] at p; exact p.elim
    | some f =>
      rw [em] at p
      cases v with
      | obj c fs =>
        simp only [mthOf, fieldsO] at em
        split at em
        · rename_i hc
          split at em
          · rename_i f' hF hg
            cases em
            obtain ⟨F, h1, h2, h3, n, addr, fd, q1, q2, q3, q4, q5⟩ := hall c f hc hF
            exact (pe_methE0 (ms := ms) ho q2 q3 q5 q1 q4 hx ht).run pins s σ H Q I (meth_imp (ies := []) hn hf hne h1 h2 h3 r ev hc hF hg p)
          · cases em
        · cases em
      | _ => cases em
/-! ### C(..) -/
/-- what __init__ promises: the new object's fields -/
def PostI (k : Kx) (g : Gh) (H : Hp) (x : Addr) (c : Nat) (r : R (List (Nat × Val))) (Q : VK) (E : XK) : Prop := match r with
  | .ok fs S' => ∀ g' H' dx us, SRel k g' H' S' → StepS g H g' H' → g'.T x = .no → H' x = some (.ins (k.ca c) dx us) → VFs k (fzP g' H') g'.ι fs us → Q .non H'
  | .exn e S' => ∀ g' H', SRel k g' H' S' → StepS g H g' H' → E (.ref (k.ca e)) none H'
  | .stuck => False
def specI (k : Kx) (F : Fn) (go : Nat → List (Nat × Val) → List Val → Store → R (List (Nat × Val))) : Sp := fun us H Q E => ∃ g S c vs x dx rest, us = .ref x :: rest ∧ H x = some (.ins (k.ca c) dx []) ∧ g.T x = .no ∧ SRel k g H S ∧ Clean g ∧
  ArgsR k g H F.md.tail vs rest ∧ vs.length + 1 = F.np ∧ PostI k g H x c (go c [] vs S) Q E
/-- two new objects -/
theorem SRel.new2 {k : Kx} {g : Gh} {H : Hp} {S : Store} {x dx : Addr} {o o2 : HO} (r : SRel k g H S) (hx : H x = none) (hd : H dx = none) (ho : ∀ xs, o ≠ .tup xs) (ho2 : ∀ xs, o2 ≠ .tup xs) : SRel k g (upd (upd H dx o2) x o) S := by
  have tx := r.no_tag hx
  have td := r.no_tag hd
  have ne : ∀ a, g.T a ≠ .no → (upd (upd H dx o2) x o) a = H a := fun a h => by
    rw [upd_ne (fun e => h (by rw [e]; exact tx)), upd_ne (fun e => h (by rw [e]; exact td))]
  have kp : Keep0 g H g (upd (upd H dx o2) x o) := ⟨fun a h => ⟨rfl, ne a (by rcases h with h | ⟨_, h⟩ | ⟨_, _, h⟩ <;> rw [h] <;> intro z <;> cases z)⟩, fun _ _ h => h⟩
  refine kp.str r ⟨r.no, r.uniq, fun a h => ?_, fun a xs e => ?_⟩
  · rw [ne a h]
    exact r.wf a h
  · by_cases h1 : a = x
    · rw [h1, upd_same] at e
      exact absurd (Option.some.inj e) (ho xs)
    · rw [upd_ne h1] at e
      by_cases h2 : a = dx
      · rw [h2, upd_same] at e
        exact absurd (Option.some.inj e) (ho2 xs)
      · rw [upd_ne h2] at e
        exact r.tup a xs e
theorem ArgsR.mono {k : Kx} {g : Gh} {H H' : Hp} (h : ∀ a, g.T a = .fz ∨ g.T a = .br ∨ (∃ n, g.T a = .st n) → H' a = H a) : ∀ {ms : List Mode} {vs : List Val} {us : List V}, ArgsR k g H ms vs us → ArgsR k g H' ms vs us
  | _, [], _, q => q
  | ms, v :: vs, us, ⟨u, r, e, h1, h2⟩ => by
    have st : StepS g H g H' := ⟨fun a ha => ⟨rfl, h a (ha.imp id .inl)⟩, fun _ _ z => z, fun _ _ _ z => z, fun _ _ z => z, fun a n _ _ t _ => h a (.inr (.inr ⟨n, t⟩))⟩
    refine ⟨u, r, e, ?_, ArgsR.mono h h2⟩
    cases e2 : ms.headD .shr with
    | brw => rw [e2] at h1; exact st.mL h1
    | shr => rw [e2] at h1; exact st.mV h1
    | own => rw [e2] at h1; exact st.mV h1
    | ini => rw [e2] at h1; exact st.mV h1
/-- an object that nobody holds is frozen -/
theorem rel_fz {k : Kx} {md : Sl} {g : Gh} {H : Hp} {σ : L2.St} {ρ : Env} {S : Store} {D : Addr} {o : HO} (t : g.T D = .no) (hD : H D = some o) (r : Rel k md g σ H ρ S) : Rel k md (g.put D .fz) σ H ρ S := by
  have ne : ∀ a, g.T a ≠ .no → (g.put D .fz).T a = g.T a := fun a h => put_ne fun e => h (by rw [e]; exact t)
  refine Keep.rel ⟨fun a h => ⟨ne a (by rcases h with h | h | ⟨_, h⟩ | ⟨_, _, h⟩ <;> rw [h] <;> intro z <;> cases z), rfl⟩, fun _ _ h => h⟩ (fun j v e a ha => ⟨ne a (by rw [ha]; intro z; cases z), rfl⟩) r ⟨r.str.no, fun n f a b ha hb => ?_, fun a ha => ?_, fun a xs e => ?_⟩
  · have h1 : a ≠ D := fun e => by rw [e, put_same] at ha; cases ha
    have h2 : b ≠ D := fun e => by rw [e, put_same] at hb; cases hb
    rw [put_ne h1] at ha
    rw [put_ne h2] at hb
    exact r.str.uniq n f a b ha hb
  · by_cases h : a = D
    · rw [h, hD]
      intro z
      cases z
    · rw [put_ne h] at ha
      exact r.str.wf a ha
  · by_cases h : a = D
    · rw [h, put_same]
      exact .inr rfl
    · rw [put_ne h]
      exact r.str.tup a xs e
theorem fz_put {g : Gh} {H : Hp} {D : Addr} (t : g.T D = .no) : ∀ b o, fzP g H b = some o → fzP (g.put D .fz) H b = some o := fun b o e => by
  obtain ⟨t1, e1⟩ := fzP_some e
  exact fzP_of (by rw [put_ne (fun z => by subst z; rw [t] at t1; cases t1)]; exact t1) e1
/-- C(..), σ's own wish of an exception -/
def tMakeE (C : Addr) (sp : Sp) (E : L2.St → XK) (t : TA) : TE := fun σ H Q => t σ H fun vs H1 => ∀ x dx, H1 x = none → H1 dx = none → dx ≠ x → sp (.ref x :: vs) (upd (upd H1 dx (.own x)) x (.ins C dx [])) (fun v H2 => v = .non ∧ Q (.ref x) H2) (E σ)
theorem pe_makeE {C f : Addr} {k : Nat} {fd : FuncData} {ps : List Str} {sp : Sp} {E : L2.St → XK} {x : Str} {p : Pos} {e : Expr} {es : List Expr} {t : TA} (M : Mk X.K C f) (F : FnOk X.prog X.w X.K X.mg X.base (L2.CX X.prog X.w) k f fd ps sp) (hr : ∀ us H Q E, sp us H Q E → Room (k + 1) X.A)
    (hg : Gl X x) (hm : X.mg x = some (.ref C)) (hb : Binds X.K fd ps []) (hx : ∀ σ, PassesAt (L2.CX X.prog X.w) X σ (E σ)) (ha : PA X (e :: es) t) (hdb : (x == ("__debug__" : Str)) = false)
    (he : starEach (e :: es) X.env = (false, eval e X.env) :: starEach es X.env) (hpl : (backTo pos (starEach es X.env)).any (·.1) = false) : PE X (.Call (.Name x p) (e :: es) [] pos) (tMakeE C sp E t) := by
  refine ⟨fun pins s σ H Q I h => wpAny_Call_Name_kw (ld_glob I hg hm (PySem.W.callWith_K (h₀ := X.base) I.ok.mod.kin M.kp (thn (ha.run pos pins s σ H _ I h) fun us s1 ⟨vs, H1, I1, r, q⟩ => ⟨I1.kIn, ?_⟩) he hpl) hdb)⟩
  have q1 := q (s1.heap.objs.size + 1) s1.heap.objs.size (I1.hok.fresh (Nat.le_succ _)) (I1.hok.fresh (Nat.le_refl _)) (Nat.ne_of_lt (Nat.lt_succ_self _))
  have J2 := Inv.made (C := C) I1
  have rr : Vals (V.ref (s1.heap.objs.size + 1) :: vs) (Value.ref (s1.heap.objs.size + 1) :: us) := .cons rfl r
  have len : ((Value.ref (s1.heap.objs.size + 1) :: us) ++ []).length = ps.length := by
    have z := rr.length
    rw [F.len _ _ _ _ q1] at z
    rw [List.append_nil]
    exact z.symm
  have bd := hb _ (Value.ref (s1.heap.objs.size + 1) :: us) J2.kIn len
  rw [List.append_nil] at bd
  refine wpAny_call (make_map (f := f) I1.kIn M.makes M.init (beq_iff_eq.mp M.fn) (codeAny_mono (F.run _ X.stack _ _ ⟨Value.ref (s1.heap.objs.size + 1) :: us, []⟩ (Value.ref (s1.heap.objs.size + 1) :: us) _ _ (E σ) ((hr _ _ _ _ q1).make C us [])
    (J2.env0.make C us []) bd rr q1) fun z s' hz => ?_))
  cases z with
  | error w => exact hx σ pins _ _ w s' J2 hz
  | ok fl =>
    cases fl with
    | ret w =>
      obtain ⟨v, H', J3, rv, ev, q3⟩ := J2.after hz
      subst ev
      exact ⟨rv, ⟨V.ref (s1.heap.objs.size + 1), H', J3, rfl, q3⟩⟩
    | _ => exact False.elim hz
/-- C.__init__ read off the class -/
def ClsI (K : PySem.W.Frag) (C f : Addr) : Prop := PySem.W.specialIn K (.ref C) "__getattribute__" = some (some (.builtin "type.__getattribute__")) ∧ PySem.W.readsIn K C (.type "type") = true ∧
  PySem.W.findCls K (.ref C) (.type "type") "__init__" = some (.val (.ref f)) ∧ PySem.W.keepIn K (.ref f) = true
/-- what the making of an instance of c wants -/
def MkX (X : Cx) (J : Jx) (c f : Nat) (F : Fn) : Prop := ∃ n addr fd, (∀ us H Q E, specI J.k F (J.x.ini f) us H Q E → Room (n + 1) X.A) ∧ Mk X.K (J.k.ca c) addr ∧ Binds X.K fd (F.names.take F.np) [] ∧ FnOk X.prog X.w X.K X.mg X.base (L2.CX X.prog X.w) n addr fd (F.names.take F.np) (specI J.k F (J.x.ini f)) ∧ ClsI X.K (J.k.ca c) addr
theorem mk_imp {F : Fn} {c f : Nat} {C : Pv.Cls} {ies : List E} {ms : List Md} (hC : J.x.G.cls c = some C) (hi : C.ini = some f) (hms : callMs F.md.tail = ms) (hl : ies.length + 1 = F.np) (hm : m.kp = true) (σ : L2.St) (H : Hp) (Q : VK) (h : J.tE m (.mk c ies) σ H Q) :
    tMakeE (J.k.ca c) (specI J.k F (J.x.ini f)) (WE J.W) (J.tA ms ies) σ H Q := by
  obtain ⟨g, ρ, S, r, p⟩ := h
  simp only [evE, pureE] at p
  have hq : J.Post m (pureEs ies && false) g H σ ρ ((evs J.x ies ρ S).bind fun vs S1 => mkObj J.x c vs S1) Q := by
    rw [Bool.and_false]
    exact p
  refine tA_bind r hq fun vs S1 us g1 H1 e1 r1 st1 mr p1 => ?_
  intro x dx hx hd hne
  have tx := r1.str.no_tag hx
  have td := r1.str.no_tag hd
  have cx : g1.callee.T x = .no := by rw [callee_ne (by rw [tx]; intro z; cases z) (fun i => by rw [tx]; intro z; cases z)]; exact tx
  have cd : g1.callee.T dx = .no := by rw [callee_ne (by rw [td]; intro z; cases z) (fun i => by rw [td]; intro z; cases z)]; exact td
  have ne : ∀ a, g1.callee.T a ≠ .no → (upd (upd H1 dx (.own x)) x (.ins (J.k.ca c) dx [])) a = H1 a := fun a h => by
    rw [upd_ne (fun e => h (by rw [e]; exact cx)), upd_ne (fun e => h (by rw [e]; exact cd))]
  refine ⟨g1.callee, S1, c, vs, x, dx, us, rfl, upd_same, cx, (callee_str r1.str).new2 hx hd (fun xs z => nomatch z) (fun xs z => nomatch z), callee_clean, ArgsR.mono (fun a h => ne a (by rcases h with h | h | ⟨_, h⟩ <;> rw [h] <;> intro z <;> cases z)) (args_callee (by rw [hms]; exact mr)), by rw [evs_len e1]; exact hl, ?_⟩
  have wf := r1.str.wf
  have low : ∀ {g2 H2}, StepS g1.callee (upd (upd H1 dx (.own x)) x (.ins (J.k.ca c) dx [])) g2 H2 → StepS g1.callee H1 g2 H2 := fun {g2 H2} st => ⟨fun a h => by
    obtain ⟨a1, a2⟩ := st.keep a h
    exact ⟨a1, a2.trans (ne a (by rcases h with h | h <;> rw [h] <;> intro z <;> cases z))⟩, st.st, st.fo, st.ι, fun a n ob o t h => by
    have q := ne a (by rw [t]; intro z; cases z)
    exact (st.lk a n ob o t (q.trans h)).trans q⟩
  simp only [mkObj, hC, hi] at p1
  cases e2 : J.x.ini f c [] vs S1 with
  | ok fs S2 =>
    rw [e2] at p1
    intro g2 H2 dx2 us2 s2 st2 t2 h2 hv2
    refine ⟨rfl, ?_⟩
    by_cases hv : C.val = true ∧ C.exc = false
    · simp only [hv, and_self, if_true] at p1
      have st2' := low st2
      have s3 := back_str wf st2' s2
      have st3 := back_step wf st2'
      have r3 := rel_back r1 st3 s3
      have t3 : (g1.back g2).T x = .no := by
        rw [back_new tx, t2]
      refine p1 (.ref x) _ H2 (rel_fz t3 h2 r3) (step_put tx st3) (MRep.V_any hm ?_)
      show VRep _ _ _ _ _
      simp only [VRep]
      exact ⟨x, dx2, us2, rfl, fzP_of put_same h2, VFs.mono (fun b o e => fz_put t3 b o ((back_keep st2').fz b o e)) (fun _ _ z => z) _ _ hv2⟩
    · have p2 : J.Post m false g1 H1 σ ρ (if C.val = true ∧ C.exc = false then R.ok (Val.obj c fs) S2 else R.stuck) Q := p1
      rw [if_neg hv] at p2
      exact p2.elim
  | exn e S2 =>
    rw [e2] at p1
    intro g2 H2 s2 st2
    have st2' := low st2
    have st3 := back_step wf st2'
    exact p1 _ H2 (rel_back r1 st3 (back_str wf st2' s2)) st3
  | stuck => rw [e2] at p1; exact p1.elim
end
section
variable {X : Cx} {J : Jr} {m : Md} {pos : Pos}
/-! ### self.f = e, in __init__ -/
theorem s_sfld {i f : Nat} {nm x : Str} {v : Expr} {ie : E} {xp ap : Pos} (hn : NmI J.k) (hf : J.k.nm f = nm) (hne : nm ≠ "") (ho : ObjC X J.toJx f nm) (hN : X.N[i]? = some x) (hv : Vis X.env.scope x) (hd : (x == ("__debug__" : Str)) = false) (hcd : (x == ("__classdict__" : Str)) = false)
    (hmd : J.md.l.getD i .shr = .ini) (he : PE X v (J.tE .V ie)) (hs : swapsWith v (some (.Attribute (.Name x xp) nm ap)) pos.line X.env = pure false) : PS X (.Assign [.Attribute (.Name x xp) nm ap] v pos) (J.tS (.sfld (.v i) f ie)) := by
  subst hf
  refine PS.imp (ps_fld (pe_var hN hv hd hcd) he hs) fun D σ H h => ?_
  obtain ⟨g, ρ, S, r, p⟩ := h
  simp only [evS] at p
  refine tE_bindR r p fun w S1 y g1 H1 e1 r1 st1 mr1 p1 => ?_
  simp only [evE] at p1
  cases ev : ρ[i]? with
  | none => rw [ev] at p1; exact p1.elim
  | some ov =>
    cases ov with
    | none => rw [ev] at p1; exact p1.elim
    | some v0 =>
      rw [ev] at p1
      obtain ⟨u, eu, h2⟩ := r1.slot i v0 ev
      rw [hmd] at h2
      obtain ⟨c, fs, a, dx, us, rfl, ⟨rfl, hslf⟩, t, ha, hvf⟩ := h2
      simp only [R.toS] at p1
      by_cases hc : fs.length < 900 ∧ fldV J.x.G c f = true
      · rw [if_pos hc] at p1
        obtain ⟨o1, o2⟩ := ho c hc.2
        refine ⟨.ref a, eu, a, _, dx, us, rfl, ha, o1, o2, by rw [vfs_len hvf]; omega, ?_⟩
        have hw : VRep J.k (fzP g1 H1) g1.ι w y := mr1
        have na : ∀ b, g1.T b ≠ .sl i → upd H1 a (.ins (J.k.ca c) dx (putF (J.k.nm f) y us)) b = H1 b := fun b hb => upd_ne fun e => hb (by rw [e]; exact t)
        have kp : Keep g1 H1 g1 (upd H1 a (.ins (J.k.ca c) dx (putF (J.k.nm f) y us))) := ⟨fun b hb => ⟨rfl, na b (by rcases hb with h | h | ⟨_, h⟩ | ⟨_, _, h⟩ <;> rw [h] <;> intro z <;> cases z)⟩, fun _ _ z => z⟩
        refine p1 σ g1 _ ⟨by rw [List.length_set]; exact r1.len, r1.lenσ, fun j w2 ej => ?_, fun j b c2 hj => ?_, kp.str r1.str (side_upd r1.str.side fun xs z => nomatch z)⟩ ⟨fun b hb => ⟨rfl, na b (by rcases hb with h | h <;> rw [h] <;> intro z <;> cases z)⟩, fun _ _ z => z, fun _ _ _ z => z, fun _ _ z => z, fun b n ob w tb _ => na b (by rw [tb]; intro z; cases z)⟩
        · rw [set_at] at ej
          split at ej
          · rename_i hj
            cases ej
            obtain ⟨rfl, hl⟩ := hj
            refine ⟨.ref a, eu, ?_⟩
            rw [hmd]
            exact ⟨c, _, a, dx, _, rfl, ⟨rfl, hslf⟩, t, upd_same, vfs_put hn hne (kp.mV (v := w) (u := y) hw) (VFs.mono kp.fz kp.ι _ _ hvf)⟩
          · rename_i hj
            obtain ⟨u2, e3, h3⟩ := r1.slot j w2 ej
            refine ⟨u2, e3, kp.sl (fun b hb => ⟨rfl, na b fun z => ?_⟩) h3⟩
            rw [hb] at z
            cases z
            refine hj ⟨rfl, ?_⟩
            by_cases hl : i < ρ.length
            · exact hl
            · rw [List.getElem?_eq_none (by omega)] at ev
              cases ev
        · obtain ⟨e3, e4⟩ := r1.hx j b c2 hj
          refine ⟨e3, ?_⟩
          rw [set_at]
          split
          · rename_i hz
            rw [← hz.1, ev] at e4
            cases e4
          · exact e4
      · rw [if_neg hc] at p1
        exact p1.elim
end
end Pv
end

section
set_option Elab.async false
set_option linter.all false
set_option maxRecDepth 100000
set_option autoImplicit false
/-! Pv18c: the base class's __init__, called off the class. -/
namespace Pv
open PySem PySem.Spec PyProof.Rows L2

section
variable {k : Kx} {md : Sl} {g : Gh} {H : Hp} {σ : L2.St} {ρ : Env} {S : Store} {x : Addr}
/-- the object that is being made is let go -/
theorem rel_drop0 {c : Nat} {fs : List (Nat × Val)} (r : Rel k md g σ H ρ S) (t : g.T x = .sl 0) (h0 : ρ[0]? = some (some (.obj c fs))) : Rel k md (g.put x .no) σ H (ρ.set 0 none) S := by
  have ne : ∀ a, g.T a ≠ .sl 0 → (g.put x .no).T a = g.T a := fun a h => put_ne fun e => h (by rw [e]; exact t)
  have kp : Keep g H (g.put x .no) H := ⟨fun a h => ⟨ne a (by rcases h with h | h | ⟨_, h⟩ | ⟨_, _, h⟩ <;> rw [h] <;> intro z <;> cases z), rfl⟩, fun _ _ h => h⟩
  refine ⟨by rw [List.length_set]; exact r.len, r.lenσ, fun i v e => ?_, fun i a c2 e => ?_, kp.str r.str ⟨r.str.no, fun n f a b ha hb => ?_, fun a ha => ?_, fun a xs e => ?_⟩⟩
  · rw [set_at] at e
    split at e
    · cases e
    · rename_i hj
      obtain ⟨u, e2, h2⟩ := r.slot i v e
      refine ⟨u, e2, kp.sl (fun a ha => ⟨ne a ?_, rfl⟩) h2⟩
      intro z
      rw [ha] at z
      cases z
      refine hj ⟨rfl, ?_⟩
      by_cases hl : 0 < ρ.length
      · exact hl
      · rw [List.getElem?_eq_none (by omega)] at e
        cases e
  · obtain ⟨e2, e3⟩ := r.hx i a c2 e
    refine ⟨e2, ?_⟩
    rw [set_at]
    split
    · rename_i hj
      rw [← hj.1, h0] at e3
      cases e3
    · exact e3
  · have h1 : a ≠ x := fun e => by rw [e, put_same] at ha; cases ha
    have h2 : b ≠ x := fun e => by rw [e, put_same] at hb; cases hb
    rw [put_ne h1] at ha
    rw [put_ne h2] at hb
    exact r.str.uniq n f a b ha hb
  · have h1 : a ≠ x := fun e => ha (by rw [e, put_same])
    rw [put_ne h1] at ha
    exact r.str.wf a ha
  · by_cases h1 : a = x
    · rw [h1, put_same]
      exact .inl rfl
    · rw [put_ne h1]
      exact r.str.tup a xs e
/-- .. and held again -/
theorem rel_fill0 {c : Nat} {fs : List (Nat × Val)} {dx : Addr} {us : List (Str × V)} (r : Rel k md g σ H (ρ.set 0 none) S) (t : g.T x = .no) (hσ : σ[0]? = some (some (.ref x))) (hs : x = k.slf) (hm : md.l.getD 0 .shr = .ini)
    (hH : H x = some (.ins (k.ca c) dx us)) (hv : VFs k (fzP g H) g.ι fs us) : Rel k md (g.put x (.sl 0)) σ H (ρ.set 0 (some (.obj c fs))) S := by
  have ne : ∀ a, g.T a ≠ .no → (g.put x (.sl 0)).T a = g.T a := fun a h => put_ne fun e => h (by rw [e]; exact t)
  have kp : Keep g H (g.put x (.sl 0)) H := ⟨fun a h => ⟨ne a (by rcases h with h | h | ⟨_, h⟩ | ⟨_, _, h⟩ <;> rw [h] <;> intro z <;> cases z), rfl⟩, fun _ _ h => h⟩
  have at0 : ∀ i, i ≠ 0 → (ρ.set 0 none)[i]? = ρ[i]? := fun i hi => by
    rw [set_at, if_neg fun z => hi z.1.symm]
  refine ⟨?_, r.lenσ, fun i v e => ?_, fun i a c2 e => ?_, kp.str r.str ⟨r.str.no, fun n f a b ha hb => ?_, fun a ha => ?_, fun a xs e => ?_⟩⟩
  · have := r.len
    rw [List.length_set] at this ⊢
    exact this
  · rw [set_at] at e
    split at e
    · rename_i hj
      cases e
      rw [← hj.1, hm]
      exact ⟨.ref x, hσ, c, fs, x, dx, us, rfl, ⟨rfl, hs⟩, put_same, hH, VFs.mono kp.fz kp.ι _ _ hv⟩
    · rename_i hj
      have e' : (ρ.set 0 none)[i]? = some (some v) := by
        by_cases hi : i = 0
        · subst hi
          rw [List.getElem?_eq_none (by
            by_cases hl : 0 < ρ.length
            · exact absurd ⟨rfl, hl⟩ hj
            · omega)] at e
          cases e
        · rw [at0 i hi]
          exact e
      obtain ⟨u, e2, h2⟩ := r.slot i v e'
      exact ⟨u, e2, kp.sl (fun a ha => ⟨ne a (by rw [ha]; intro z; cases z), rfl⟩) h2⟩
  · obtain ⟨e2, e3⟩ := r.hx i a c2 e
    refine ⟨e2, ?_⟩
    have hi : i ≠ 0 := fun z => by
      subst z
      rw [set_at] at e3
      split at e3
      · cases e3
      · rename_i hj
        rw [List.getElem?_eq_none (by
          by_cases hl : 0 < ρ.length
          · exact absurd ⟨rfl, hl⟩ hj
          · omega)] at e3
        cases e3
    rw [set_at, if_neg fun z => hi z.1.symm]
    rw [at0 i hi] at e3
    exact e3
  · have h1 : a ≠ x := fun e => by rw [e, put_same] at ha; cases ha
    have h2 : b ≠ x := fun e => by rw [e, put_same] at hb; cases hb
    rw [put_ne h1] at ha
    rw [put_ne h2] at hb
    exact r.str.uniq n f a b ha hb
  · by_cases h1 : a = x
    · rw [h1, hH]
      intro z
      cases z
    · rw [put_ne h1] at ha
      exact r.str.wf a ha
  · by_cases h1 : a = x
    · rw [h1, hH] at e
      cases e
    · rw [put_ne h1]
      exact r.str.tup a xs e
theorem stepS_of0 {g1 g2 : Gh} {H1 H2 : Hp} {q : Bool} (t : g1.T x = .sl 0) (st : Step q (g1.put x .no) H1 g2 H2) : StepS g1 H1 g2 H2 := by
  have ne : ∀ a, g1.T a ≠ .sl 0 → (g1.put x .no).T a = g1.T a := fun a h => put_ne fun e => h (by rw [e]; exact t)
  refine ⟨fun a h => ?_, fun a n h => ?_, fun a n f h => ?_, st.ι, fun a n ob o h e => st.lk a n ob o (by rw [ne a (by rw [h]; intro z; cases z)]; exact h) e⟩
  · have e := ne a (by rcases h with h | h <;> rw [h] <;> intro z <;> cases z)
    obtain ⟨a1, a2⟩ := st.keep a (by rw [e]; exact h.imp id .inl)
    exact ⟨a1.trans e, a2⟩
  · exact st.st a n (by rw [ne a (by rw [h]; intro z; cases z)]; exact h)
  · exact st.fo a n f (by rw [ne a (by rw [h]; intro z; cases z)]; exact h)
theorem args_V : ∀ {ms : List Mode} {vs : List Val} {us : List V}, ms.all (fun m => decide (argM m = .V)) = true → VReps k (fzP g H) g.ι vs us → ArgsR k g H ms vs us
  | _, [], us, _, h => by
    simp only [VReps] at h
    exact h
  | ms, v :: vs, us, hm, h => by
    simp only [VReps] at h
    obtain ⟨u, r, e, h1, h2⟩ := h
    refine ⟨u, r, e, ?_, args_V (ms := ms.tail) ?_ h2⟩
    · have : argM (ms.headD .shr) = .V := by
        cases ms with
        | nil => rfl
        | cons m ms =>
          simp only [List.all_cons, Bool.and_eq_true, decide_eq_true_eq] at hm
          exact hm.1
      rw [this]
      exact h1
    · cases ms with
      | nil => rfl
      | cons m ms =>
        simp only [List.all_cons, Bool.and_eq_true, decide_eq_true_eq] at hm
        exact hm.2
end

/-- C.__init__(e, ..), σ's own wish of an exception -/
def tClsE (sp : Sp) (E : L2.St → XK) (t : TA) : TE := fun σ H Q => t σ H fun vs H1 => sp vs H1 Q (E σ)
section
variable {X : Cx} {pos : Pos}
theorem pe_clsE {C f : Addr} {k : Nat} {fd : FuncData} {ps : List Str} {sp : Sp} {E : L2.St → XK} {x : Str} {p apos : Pos} {e : Expr} {es : List Expr} {t : TA} {pl : Sem Bool} (hg : Gl X x) (hm : X.mg x = some (.ref C)) (hd : (x == ("__debug__" : Str)) = false) (c : ClsI X.K C f)
    (F : FnOk X.prog X.w X.K X.mg X.base (L2.CX X.prog X.w) k f fd ps sp) (hr : ∀ us H Q E, sp us H Q E → Room k X.A) (hb : Binds X.K fd ps []) (hx : ∀ σ, PassesAt (L2.CX X.prog X.w) X σ (E σ)) (ha : PA X (e :: es) t)
    (hst : starEach (e :: es) X.env = (false, eval e X.env) :: starEach es X.env) (hpl : (backTo pos (starEach es X.env)).any (·.1) = false)
    (ht : eval (.Call (.Attribute (.Name x p) "__init__" apos) (e :: es) [] pos) X.env = (eval (.Name x p) X.env >>= fun ov => standAt apos.atName >>= fun _ => holding [ov] (getMethod ov "__init__" pl) >>= fun q => callWith pos q.1 q.2 (backTo pos (starEach (e :: es) X.env)) (backToKw pos (keywordEach [] X.env)))) :
    PE X (.Call (.Attribute (.Name x p) "__init__" apos) (e :: es) [] pos) (tClsE sp E t) :=
  ⟨fun pins s σ H Q I h => PySem.W.methodCall_KW (pl := pl) (ld_glob I hg hm (PySem.W.method_cls I.kIn c.1 (PySem.W.cls_value I.kIn c.2.1 c.2.2.1 rfl (PySem.W.callWith_K (first := []) (h₀ := X.base) I.ok.mod.kin c.2.2.2 (thn (ha.run pos pins _ σ H _ (I.tok _) h) fun us s2 ⟨vs, H2, I2, r, q2⟩ =>
      ⟨I2.kIn, run_fnSD (dvs := []) (ds := []) (us := us) (vs := vs) F (hr _ _ _ _ q2) hb .nil (hx σ) I2 r (by rw [List.append_nil]; exact q2)⟩) hst hpl))) hd) ht⟩
end
section
variable {X : Cx} {J : Jr} {pos : Pos}
theorem binit_imp {f : Nat} {F : Fn} {ies : List E} (hmd : J.md.l.getD 0 .shr = .ini) (hal : F.md.tail.all (fun m => decide (argM m = .V)) = true) (hl : ies.length + 1 = F.np) (D : Ends) (σ : L2.St) (H : Hp) (h : J.tS (.binit f ies) D σ H) :
    tDrop (tClsE (specI J.k F (J.x.ini f)) (WE J.W) (tCons (tVar 0) (J.tA [] ies))) D σ H := by
  obtain ⟨g, ρ, S, r, p⟩ := h
  simp only [evS] at p
  split at p
  · rename_i c e0
    obtain ⟨u, eu, h2⟩ := r.slot 0 _ e0
    rw [hmd] at h2
    obtain ⟨c', fs', x, dx, us0, ec, ⟨rfl, hslf⟩, t0, hx0, hvf⟩ := h2
    cases ec
    simp only [VFs] at hvf
    subst hvf
    refine ⟨.ref x, eu, ?_⟩
    refine tA_bindI r (fun c S' ev => ?_) (fun ev => ?_) fun vs S1 us g1 H1 ev r1 st1 mr => ?_
    · rw [ev] at p
      exact fun g2 H2 r2 s => p σ g2 H2 r2 s.toS
    · rw [ev] at p
      exact p
    · rw [ev] at p
      simp only [R.toS] at p
      have p := postS_after p st1.toS
      obtain ⟨u1, eu1, h3⟩ := r1.slot 0 _ e0
      rw [hmd] at h3
      obtain ⟨c', fs', x', dx1, us1, ec, ⟨ex, hslf'⟩, t1, hx1, hvf1⟩ := h3
      cases ec
      rw [← hslf] at hslf'
      subst hslf'
      simp only [VFs] at hvf1
      subst hvf1
      have rd := rel_drop0 r1 t1 e0
      have hv : VReps J.k (fzP (g1.put x' .no) H1) (g1.put x' .no).ι vs us := by
        refine VReps.mono (fun b o e => ?_) (fun _ _ z => z) _ _ mr.vs
        obtain ⟨t2, e2⟩ := fzP_some e
        exact fzP_of (by rw [put_ne (fun z => by subst z; rw [t1] at t2; cases t2)]; exact t2) e2
      have kc : Keep0 (g1.put x' .no) H1 (g1.put x' .no).callee H1 := callee_keep
      have cx : (g1.put x' .no).callee.T x' = .no := by rw [callee_ne (by rw [put_same]; intro z; cases z) (fun i => by rw [put_same]; intro z; cases z)]; exact put_same
      refine ⟨(g1.put x' .no).callee, S1, c, vs, x', dx1, us, rfl, hx1, cx, callee_str rd.str, callee_clean, args_V hal (VReps.mono kc.fz kc.ι _ _ hv), by rw [evs_len ev]; exact hl, ?_⟩
      have wf := rd.str.wf
      cases e2 : J.x.ini f c [] vs S1 with
      | ok fs S2 =>
        rw [e2] at p
        intro g2 H2 dx2 us2 s2 st2 t2 h2 hv2
        have s3 := back_str wf st2 s2
        have st3 := back_step wf st2
        have r3 := rel_back rd st3 s3
        have t3 : ((g1.put x' .no).back g2).T x' = .no := by
          rw [back_new put_same, t2]
        refine p σ _ H2 (rel_fill0 r3 t3 eu hslf hmd h2 (VFs.mono (back_keep st2).fz (fun _ _ z => z) _ _ hv2)) ((stepS_of0 t1 st3).trans (stepS_put (.inr (.inl t3))))
      | exn e S2 =>
        rw [e2] at p
        intro g2 H2 s2 st2
        have s3 := back_str wf st2 s2
        have st3 := back_step wf st2
        exact p σ _ H2 (rel_back rd st3 s3) (stepS_of0 t1 st3)
      | stuck => rw [e2] at p; exact p.elim
  · exact p.elim
theorem s_binit {f : Nat} {F : Fn} {C fa : Addr} {n : Nat} {fd : FuncData} {ps : List Str} {cn x : Str} {p px apos epos : Pos} {es : List Expr} {ies : List E} (hN : X.N[0]? = some x) (hv : Vis X.env.scope x) (hd : (x == ("__debug__" : Str)) = false) (hcd : (x == ("__classdict__" : Str)) = false)
    (hmd : J.md.l.getD 0 .shr = .ini) (hg : Gl X cn) (hm : X.mg cn = some (.ref C)) (hdc : (cn == ("__debug__" : Str)) = false) (c : ClsI X.K C fa) (FO : FnOk X.prog X.w X.K X.mg X.base (L2.CX X.prog X.w) n fa fd ps (specI J.k F (J.x.ini f)))
    (hr : ∀ us H Q E, specI J.k F (J.x.ini f) us H Q E → Room n X.A) (hb : Binds X.K fd ps []) (hx : ∀ σ, PassesAt (L2.CX X.prog X.w) X σ (WE J.W σ)) (ha : PA X es (J.tA [] ies)) (hal : F.md.tail.all (fun m => decide (argM m = .V)) = true) (hl : ies.length + 1 = F.np)
    (hst : ∀ env : PySem.Env, (backTo pos (starEach es env)).any (·.1) = false) (hline : (apos.endLine == pos.line) = true) (hfew : es.length < 29) :
    PS X (.Expr (.Call (.Attribute (.Name cn p) "__init__" apos) (.Name x px :: es) [] pos) epos) (J.tS (.binit f ies)) :=
  PS.imp (ps_expr (pe_clsE hg hm hdc c FO hr hb hx (pa_cons (pe_var hN hv hd hcd) ha) rfl (hst _) (meth_form rfl hline (hst _) (by rw [List.length_cons]; omega)))) (binit_imp hmd hal hl)
end
end Pv
end

section
set_option Elab.async false
set_option linter.all false
set_option maxRecDepth 100000
set_option autoImplicit false
/-! Pv18d: a slot's own list is lent while an expression is read. -/
namespace Pv
open PySem PySem.Spec PyProof.Rows L2
theorem brw_at (l : List Mode) (i j : Nat) : (l.set i .brw).getD j .shr = if i = j ∧ i < l.length then .brw else l.getD j .shr := by
  rw [getD_eq, set_at]
  split
  · rfl
  · rw [getD_eq]
def Gh.lend (g : Gh) (i : Nat) : Gh := { g with T := fun a => match g.T a with
  | .sl j => if j = i then .br else .sl j
  | t => t }
def Gh.unlend (g g' : Gh) : Gh := { g' with T := fun a => match g.T a with
  | .sl j => .sl j
  | _ => g'.T a }
def Jx.lend (J : Jx) (i : Nat) : Jx := { J with md := { J.md with l := J.md.l.set i .brw } }
section
variable {k : Kx} {md : Sl} {g g' : Gh} {H H' : Hp} {σ : L2.St} {ρ : Env} {S S' : Store} {i : Nat} {q : Bool} {m : Md}
theorem lend_of {a : Addr} {j : Nat} (h : g.T a = .sl j) : (g.lend i).T a = if j = i then .br else .sl j := by
  unfold Gh.lend
  simp only [h]
theorem lend_ne {a : Addr} (h : ∀ j, g.T a ≠ .sl j) : (g.lend i).T a = g.T a := by
  unfold Gh.lend
  cases e : g.T a with
  | sl j => exact absurd e (h j)
  | _ => simp only [e]
theorem unlend_of {a : Addr} {j : Nat} (h : g.T a = .sl j) : (g.unlend g').T a = .sl j := by
  unfold Gh.unlend
  simp only [h]
theorem unlend_ne {a : Addr} (h : ∀ j, g.T a ≠ .sl j) : (g.unlend g').T a = g'.T a := by
  unfold Gh.unlend
  cases e : g.T a with
  | sl j => exact absurd e (h j)
  | _ => simp only [e]
theorem lend_keep : Keep g H (g.lend i) H :=
  ⟨fun a h => ⟨lend_ne (fun j e => by rw [e] at h; rcases h with z | z | ⟨_, z⟩ | ⟨_, _, z⟩ <;> cases z), rfl⟩, fun _ _ h => h⟩
theorem lend_fo {a : Addr} {n f : Nat} (h : (g.lend i).T a = .fo n f) : g.T a = .fo n f := by
  cases e : g.T a with
  | sl j =>
    rw [lend_of e] at h
    split at h <;> cases h
  | _ =>
    rw [lend_ne (fun j z => by rw [e] at z; cases z), e] at h
    first | exact h | cases h
theorem lend_no {a : Addr} (h : (g.lend i).T a ≠ .no) : g.T a ≠ .no := fun e => h (by rw [lend_ne (fun j z => by rw [e] at z; cases z)]; exact e)
theorem lend_side (s : Side g H S) : Side (g.lend i) H S := by
  refine ⟨s.no, fun n f a b ha hb => s.uniq n f a b (lend_fo ha) (lend_fo hb), fun a h => s.wf a (lend_no h), fun a xs e => ?_⟩
  rcases s.tup a xs e with h | h
  · exact .inl (by rw [lend_ne (fun j z => by rw [h] at z; cases z)]; exact h)
  · exact .inr (by rw [lend_ne (fun j z => by rw [h] at z; cases z)]; exact h)
theorem lend_rel (r : Rel k md g σ H ρ S) (hs : md.l.getD i .shr = .own) : Rel k { md with l := md.l.set i .brw } (g.lend i) σ H ρ S := by
  refine ⟨by rw [r.len]; exact (List.length_set ..).symm, by rw [r.lenσ]; exact (List.length_set ..).symm, fun j v e => ?_, r.hx, lend_keep.str r.str (lend_side r.str.side)⟩
  obtain ⟨u, e2, h⟩ := r.slot j v e
  refine ⟨u, e2, ?_⟩
  show SRep k (g.lend i) H j ((md.l.set i .brw).getD j .shr) v u
  rw [brw_at]
  have kp : Keep g H (g.lend i) H := lend_keep
  by_cases hj : i = j ∧ i < md.l.length
  · rw [if_pos hj]
    obtain ⟨rfl, _⟩ := hj
    rw [hs] at h
    exact TRep.mono kp.fz kp.ι (fun a o q => ⟨by rw [lend_of q.1, if_pos rfl]; rfl, q.2⟩) _ _ h
  · rw [if_neg hj]
    have hij : j ≠ i := fun z => by
      subst z
      by_cases hl : j < md.l.length
      · exact hj ⟨rfl, hl⟩
      · rw [getD_eq, List.getElem?_eq_none (by omega)] at hs
        cases hs
    exact kp.sl (fun a ha => ⟨by rw [lend_of ha, if_neg hij]; exact ha.symm, rfl⟩) h
theorem unlend_step (st : Step q (g.lend i) H g' H') : Step q g H (g.unlend g') H' where
  keep := fun a h => by
    cases e : g.T a with
    | sl j =>
      rw [unlend_of e]
      refine ⟨rfl, (st.keep a ?_).2⟩
      rw [lend_of e]
      by_cases hj : j = i
      · rw [if_pos hj]; exact .inr (.inl rfl)
      · rw [if_neg hj]; exact .inr (.inr (.inr ⟨j, rfl⟩))
    | _ =>
      have hn : ∀ j, g.T a ≠ .sl j := fun j z => by rw [e] at z; cases z
      have el := lend_ne (i := i) hn
      rw [unlend_ne hn, ← e, ← el]
      exact st.keep a (by rw [el]; exact h)
  st := fun a n h => by
    have hn : ∀ j, g.T a ≠ .sl j := fun j z => by rw [h] at z; cases z
    rw [unlend_ne hn]
    exact st.st a n (by rw [lend_ne hn]; exact h)
  fo := fun a n f h => by
    have hn : ∀ j, g.T a ≠ .sl j := fun j z => by rw [h] at z; cases z
    rw [unlend_ne hn]
    exact st.fo a n f (by rw [lend_ne hn]; exact h)
  pure := fun hq a h => by
    have hn : ∀ j, g.T a ≠ .sl j := fun j z => by rw [z] at h; rcases h with ⟨_, h⟩ | ⟨_, _, h⟩ <;> cases h
    exact st.pure hq a (by rw [lend_ne hn]; exact h)
  ι := st.ι
  lk := fun a n ob o h e => st.lk a n ob o (by rw [lend_ne fun j z => by rw [h] at z; cases z]; exact h) e
/-- a slot's address behind the reading -/
theorem lent_at (st : Step q (g.lend i) H g' H') {a : Addr} {j : Nat} (e : g.T a = .sl j) : (g'.T a = .br ∨ g'.T a = .sl j) ∧ H' a = H a := by
  have k := st.keep a (by
    rw [lend_of e]
    by_cases hj : j = i
    · rw [if_pos hj]; exact .inr (.inl rfl)
    · rw [if_neg hj]; exact .inr (.inr (.inr ⟨j, rfl⟩)))
  refine ⟨?_, k.2⟩
  rw [k.1, lend_of e]
  by_cases hj : j = i
  · rw [if_pos hj]; exact .inl rfl
  · rw [if_neg hj]; exact .inr rfl
theorem unlend_same (st : Step q (g.lend i) H g' H') {a : Addr} (h : g'.T a ≠ .br ∧ ∀ j, g'.T a ≠ .sl j) : (g.unlend g').T a = g'.T a := by
  refine unlend_ne fun j e => ?_
  rcases (lent_at st e).1 with z | z
  · exact h.1 z
  · exact h.2 j z
theorem unlend_keep (st : Step q (g.lend i) H g' H') : Keep0 g' H' (g.unlend g') H' :=
  ⟨fun a h => ⟨unlend_same st (by
    rcases h with z | ⟨n, z⟩ | ⟨n, f, z⟩ <;> rw [z] <;> exact ⟨(fun z => nomatch z), fun j z => nomatch z⟩), rfl⟩, fun _ _ h => h⟩
theorem unlend_str (w : SRel k g H S) (st : Step q (g.lend i) H g' H') (r : SRel k g' H' S') : SRel k (g.unlend g') H' S' := by
  refine (unlend_keep st).str r ⟨r.no, fun n f a b ha hb => ?_, fun a h => ?_, fun a xs e => ?_⟩
  · have key : ∀ a, (g.unlend g').T a = .fo n f → g'.T a = .fo n f := fun a h => by
      cases e : g.T a with
      | sl j => rw [unlend_of e] at h; cases h
      | _ => rw [unlend_ne (fun j z => by rw [e] at z; cases z)] at h; exact h
    exact r.uniq n f a b (key a ha) (key b hb)
  · cases e : g.T a with
    | sl j =>
      rw [(lent_at st e).2]
      exact w.wf a (by rw [e]; intro z; cases z)
    | _ =>
      rw [unlend_ne (fun j z => by rw [e] at z; cases z)] at h
      exact r.wf a h
  · cases e2 : g.T a with
    | sl j =>
      rw [(lent_at st e2).2] at e
      rcases w.tup a xs e with z | z <;> rw [e2] at z <;> cases z
    | _ =>
      rw [unlend_ne (fun j z => by rw [e2] at z; cases z)]
      exact r.tup a xs e
theorem unlend_rep (st : Step q (g.lend i) H g' H') (hm : m ≠ .L) {v : Val} {u : V} (h : MRep k g' H' m v u) : MRep k (g.unlend g') H' m v u := by
  have kp := unlend_keep st
  have other : ∀ a, g'.T a = .sl 0 ∨ g'.T a ≠ .sl 0 := fun a => Classical.em _
  have tb : ∀ a, (g.unlend g').T a = g'.T a ∨ ∃ j, (g.unlend g').T a = .sl j := fun a => by
    cases e : g.T a with
    | sl j => exact .inr ⟨j, unlend_of e⟩
    | _ => exact .inl (unlend_ne (fun j z => by rw [e] at z; cases z))
  cases m with
  | L => exact absurd rfl hm
  | V => exact VRep.mono kp.fz kp.ι _ _ h
  | B =>
    refine TRep.mono kp.fz kp.ι (fun a o r => ⟨?_, r.2⟩) _ _ h
    rcases tb a with z | ⟨j, z⟩
    · rw [z]; exact r.1
    · rw [z]; rfl
  | P =>
    refine TRep.mono kp.fz kp.ι (fun a o r => ⟨?_, r.2⟩) _ _ h
    rcases tb a with z | ⟨j, z⟩
    · rw [z]; exact r.1
    · rw [z]; rfl
  | O =>
    refine TRep.mono kp.fz kp.ι (fun a o r => ⟨?_, r.2⟩) _ _ h
    exact (unlend_same st (by rw [r.1]; exact ⟨(fun z => nomatch z), fun j z => nomatch z⟩)).trans r.1
  | N _ =>
    refine TRep.mono kp.fz kp.ι (fun a o r => ⟨?_, r.2⟩) _ _ h
    exact (unlend_same st (by rw [r.1]; exact ⟨(fun z => nomatch z), fun j z => nomatch z⟩)).trans r.1
end
theorem lend_imp {J : Jx} {i : Nat} {m : Md} (hs : J.md.l.getD i .shr = .own) (hm : m ≠ .L) (e : E) (σ : L2.St) (H : Hp) (Q : VK) (h : J.tE m e σ H Q) : (J.lend i).tE m e σ H Q := by
  obtain ⟨g, ρ, S, r, p⟩ := h
  refine ⟨g.lend i, ρ, S, lend_rel r hs, ?_⟩
  show (J.lend i).Post m (pureE e) (g.lend i) H σ ρ (evE J.x e ρ S) Q
  cases ev : evE J.x e ρ S with
  | ok v S1 =>
    rw [ev] at p
    intro u g' H' r' st mr
    have st2 := unlend_step st
    exact p u _ H' (rel_back r st2 (unlend_str r.str st r'.str)) st2 (unlend_rep st hm mr)
  | exn c S1 =>
    rw [ev] at p
    intro g' H' r' st
    have st2 := unlend_step st
    exact p _ H' (rel_back r st2 (unlend_str r.str st r'.str)) st2
  | stuck =>
    rw [ev] at p
    exact p.elim
section
variable {X : Cx} {J : Jr} {m : Md} {pos : Pos}
theorem s_setLcK {K : Jx} {i : Nat} {y : Str} {py : Pos} {elt tg iter : Expr} {ifs : List Expr} {scope : Scope} {own : List (Str × Nat)} {spos : Pos} {ie iit : E} {itg : Tg} {icd : Option E} (hK : ∀ e σ H Q, J.tE m e σ H Q → K.tE m e σ H Q) (hc : X.calm = true) (hN : X.N.Nodup) (hy : X.N[i]? = some y) (hyl : X.env.scope.names.lookup y = some .local)
    (hsw : swapsWith (.ListComp elt [⟨tg, iter, ifs, 0⟩] scope pos) (some (.Name y py)) spos.line X.env = pure true) (hi : PI X tg iter (K.tI iit)) (ok : BlkOk X.N X.env.scope scope own) (hown : own.map (·.2) = tgIs itg)
    (hg : ∀ (s : Shared) (H : Hp) (C : Addr) (cl : List (Str × Addr)) (fp : List Addr), PG (X.blk s H scope (compEnvC scope cl C X.env) fp) tg (K.calm.tG itg)) (ht : ∀ (s : Shared) (H : Hp) (C : Addr) (cl : List (Str × Addr)) (fp : List Addr), PTs (X.blk s H scope (compEnvC scope cl C X.env) fp) ifs (K.calm.tC icd))
    (he : ∀ (s : Shared) (H : Hp) (C : Addr) (cl : List (Str × Addr)) (fp : List Addr), PE (X.blk s H scope (compEnvC scope cl C X.env) fp) elt (K.calm.tE .V ie)) (hs : ∀ x, foldedSetIterable iter X.env x = pure x)
    (hn : (tgIs itg).Nodup) (hok : tgOk K.md (tgIs itg)) (hx : hxOk J.md i) (hm : (J.md.l.getD i .shr = .shr ∧ m = .V) ∨ (J.md.l.getD i .shr = .own ∧ m = .O)) :
    PS X (.Assign [.Name y py] (.ListComp elt [⟨tg, iter, ifs, 0⟩] scope pos) spos) (J.tS (.set i (.comp ie itg iit icd))) := by
  refine PS.imp (ps_setLc hc hN hy hyl hsw hi ok hg ht he hs) fun D σ H h => ?_
  have h2 := set_imp (m := m) hx hm D σ H h
  have h3 := comp_imp hn hok σ H _ (hK _ _ _ _ h2)
  rw [← hown] at h3
  exact h3
end
end Pv
end

section
set_option Elab.async false
set_option linter.all false
set_option maxRecDepth 100000
set_option autoImplicit false
/-! Pv18e: isinstance of the program's classes; a list of a range; a loop over an own list that is read later. -/
namespace Pv
open PySem PySem.Spec PyProof.Rows L2

/-! ### isinstance of the program's classes -/
def tyNs : List String := ["NoneType", "bool", "int", "str", "list", "tuple", "dict"]
structure InsT (K : PySem.W.Frag) (C : Addr) : Prop where
  cl : L2.Cls K C
  ha : PySem.W.findIn K (.ref C) "__class__" = some (some (.builtin "object.__class__"))
  hn : PySem.W.specialIn K (.builtin "object.__class__") "__get__" = some (some (.builtin "getset_descriptor.__get__"))
  htk : PySem.W.takesIn K (.builtin "object.__class__") = some true
  hm : PySem.W.mroIn K C (.type "object") = some true
def IsiF (K : PySem.W.Frag) (ca : Nat → Addr) (G : Prog) : Prop := ∀ d D, G.cls d = some D → D.exc = false → InsT K (ca d) ∧ (∀ n ∈ tyNs, PySem.W.kitOne K (.type n) (.ref (ca d)) = some false) ∧ ∀ c C, G.cls c = some C → C.exc = false → PySem.W.kitOne K (.ref (ca c)) (.ref (ca d)) = some (C.sup.contains d)
section
variable {X : Cx} {J : Jx} {m : Md} {pos : Pos}
/-- a data value has one of these types -/
theorem ty_flat {K : PySem.W.Frag} {k : Kx} {g : Gh} {H : Hp} {v : Val} {u : V} (hf : flatTy v = true) (h : RRep k g H v u) : ∃ n, n ∈ tyNs ∧ TyX K H u (.type n) := by
  cases v with
  | non =>
    rw [h.non_of]
    exact ⟨"NoneType", by decide, .base .non⟩
  | bl x =>
    rw [h.bl_of]
    exact ⟨"bool", by decide, .base (.bl x)⟩
  | int i =>
    rw [h.int_of]
    exact ⟨"int", by decide, .base (.int i)⟩
  | str s =>
    rw [h.str_of]
    exact ⟨"str", by decide, .base (.str s)⟩
  | lst xs =>
    obtain ⟨a, us, rfl, ha, _⟩ := h.lst_of
    exact ⟨"list", by decide, .base (.lst ha)⟩
  | tup xs =>
    obtain ⟨a, us, rfl, ha, ta, _⟩ := h.tup_of
    exact ⟨"tuple", by decide, .base (.tup ha)⟩
  | dK kvs =>
    obtain ⟨a, us, rfl, ha, _⟩ := h.dK_of
    exact ⟨"dict", by decide, .base (.dK ha)⟩
  | dT kvs =>
    obtain ⟨a, us, rfl, ha, _⟩ := h.dT_of
    exact ⟨"dict", by decide, .base (.dT ha)⟩
  | _ => cases hf
theorem flat_cls {G : Prog} {S : Store} {v : Val} {d : Nat} {b : Bool} (hf : flatTy v = true) (e : tyV G S v (.cls d) = some b) : b = false := by
  cases v <;> first
    | (cases hf; done)
    | (simp only [tyV] at e
       cases e
       rfl)
theorem isO_imp {ia : E} {d : Nat} {D : Cls} (hD : J.x.G.cls d = some D) (hx : D.exc = false) (hF : IsiF X.K J.k.ca J.x.G) (σ : L2.St) (H : Hp) (Q : VK) (h : J.tE m (.isi ia (.cls d)) σ H Q) :
    tCB (rIsi X.K) (tCons (J.tE .B ia) (tCons (tC (.ref (J.k.ca d))) tNil)) σ H Q := by
  obtain ⟨g, ρ, S, r, p⟩ := h
  have hq : pureE (.isi ia (.cls d)) = (pureE ia && true) := by simp only [pureE, Bool.and_true]
  rw [evE_isi, hq] at p
  refine tE_bindS r p fun v S1 u g1 H1 e1 r1 st1 mr1 p1 => ?_
  obtain ⟨it, kf, ko⟩ := hF d D hD hx
  cases et : tyV J.x.G S1 (deref S1 v) (.cls d) with
  | none => simp only [et] at p1; exact p1.elim
  | some b =>
    simp only [et] at p1
    have hr := deref_R r1.str mr1.R
    by_cases hf : flatTy (deref S1 v) = true
    · obtain ⟨n, hn, ht⟩ := ty_flat (K := X.K) hf hr
      have hb := flat_cls hf et
      subst hb
      exact ⟨u, .ref (J.k.ca d), .type n, .ref (J.k.ca d), false, rfl, .own _, ht, kf n hn, fin_V r1 (fun m => MRep.bl _) p1⟩
    · cases hv : deref S1 v with
      | obj c fs =>
        rw [hv] at et hr
        have hr2 : VRep J.k (fzP g1 H1) g1.ι (.obj c fs) u := hr
        simp only [VRep] at hr2
        obtain ⟨a, dx, us, rfl, hx1, _⟩ := hr2
        simp only [tyV] at et
        cases hC : J.x.G.cls c with
        | none => rw [hC] at et; cases et
        | some C =>
          rw [hC, hD] at et
          simp only at et
          split at et
          · rename_i hh
            cases et
            obtain ⟨i2, _, _⟩ := hF c C hC hh.1
            exact ⟨.ref a, .ref (J.k.ca d), .ref (J.k.ca c), .ref (J.k.ca d), _, rfl, .own _, .base (.ins (fzP_some hx1).2 i2.cl i2.ha i2.hn i2.htk i2.hm), ko c C hC hh.1, fin_V r1 (fun m => MRep.bl _) p1⟩
          · cases et
      | ref n => rw [hv] at et; simp only [tyV] at et; cases et
      | exc c =>
        rw [hv] at et
        simp only [tyV] at et
        cases hC : J.x.G.cls c with
        | none => rw [hC] at et; cases et
        | some C =>
          rw [hC, hD] at et
          simp only [hx, Bool.false_eq_true, and_false, if_false] at et
          cases et
      | scr ns => rw [hv] at et; simp only [tyV] at et; cases et
      | _ => rw [hv] at hf; exact absurd rfl hf
theorem s_isO {ia : E} {d : Nat} {D : Cls} {a : Expr} {y : Str} {p1 p2 : Pos} (hD : J.x.G.cls d = some D) (hx : D.exc = false) (hF : IsiF X.K J.k.ca J.x.G) (hg : Gl X "isinstance") (hm : X.mg "isinstance" = none) (hyg : Gl X y) (hmy : X.mg y = some (.ref (J.k.ca d)))
    (hyd : (y == ("__debug__" : Str)) = false) (ha : PE X a (J.tE .B ia)) (hs : starEach (a :: [.Name y p2]) X.env = (false, eval a X.env) :: starEach [.Name y p2] X.env) : PE X (.Call (.Name "isinstance" p1) [a, .Name y p2] [] pos) (J.tE m (.isi ia (.cls d))) := by
  have h2 : PE X (.Name y p2) (tC (.ref (J.k.ca d))) := pe_glob hyg hmy rfl hyd
  exact PE.imp (pe_callB call_isi hg hm boot_isinstance (pa_cons ha (pa_cons h2 pa_nil) hs) (he := hs)) (isO_imp hD hx hF)

/-! ### list(range(..)) -/
def tRgA1 (ta : TA) : L2.St → Hp → (Int → Int → Hp → Prop) → Prop := fun σ H Q => ta σ H fun us H1 => ∃ n, us = [.int n] ∧ Q 0 n H1
def tRgA2 (ta : TA) : L2.St → Hp → (Int → Int → Hp → Prop) → Prop := fun σ H Q => ta σ H fun us H1 => ∃ i j, us = [.int i, .int j] ∧ Q i j H1
theorem prg_A1 {a : Expr} {ta : TA} {p pos : Pos} (hg : Gl X "range") (hm : X.mg "range" = none) (ha : PA X [a] ta) (hs : starEach [a] X.env = [(false, eval a X.env)]) : PRg X (.Call (.Name "range" p) [a] [] pos) (tRgA1 ta) := by
  intro pins s σ H Q I h
  refine Call_ (ld_blt I hg hm boot_range (PyProof.Rows.callWith_type1 (thn (ha.run pos pins s σ H _ I h) fun us s1 ⟨vs, H1, I1, r1, q1⟩ => ?_) hs rfl))
  obtain ⟨n, rfl, q⟩ := q1
  cases r1 with
  | cons r rr =>
    cases rr
    obtain ⟨t, rfl⟩ := r
    exact call_range_1 ⟨_, 0, n, _, _, _, H1, rfl, IsRange.new _ _ _ _ _ _ _, I1.kept fun b u e => Heap.get?_push_of_some _ e, q⟩
theorem prg_A2 {a b : Expr} {ta : TA} {p pos : Pos} (hg : Gl X "range") (hm : X.mg "range" = none) (ha : PA X [a, b] ta) (hs : starEach [a, b] X.env = [(false, eval a X.env), (false, eval b X.env)]) (hs2 : starEach [b] X.env = [(false, eval b X.env)]) :
    PRg X (.Call (.Name "range" p) [a, b] [] pos) (tRgA2 ta) := by
  intro pins s σ H Q I h
  refine Call_ (ld_blt I hg hm boot_range (PyProof.Rows.callWith_type1 (thn (ha.run pos pins s σ H _ I h) fun us s1 ⟨vs, H1, I1, r1, q1⟩ => ?_) (by rw [hs, hs2]) (by rw [hs2]; rfl)))
  obtain ⟨i, j, rfl, q⟩ := q1
  cases r1 with
  | cons r rr =>
    cases rr with
    | cons r' rr =>
      cases rr
      obtain ⟨t, rfl⟩ := r
      obtain ⟨t', rfl⟩ := r'
      exact call_range_2 ⟨_, i, j, _, _, _, H1, rfl, IsRange.new _ _ _ _ _ _ _, I1.kept fun b u e => Heap.get?_push_of_some _ e, q⟩
theorem upto_rg {k : Kx} {P : Hp} {ι : _} : ∀ (n : Nat) (lo : Int), VReps k P ι (upto lo n) ((List.range n).map fun i => V.int (lo + (i : Nat)))
  | 0, lo => rfl
  | n + 1, lo => by
    rw [List.range_succ_eq_map, List.map_cons, List.map_map]
    refine ⟨_, _, rfl, ?_, ?_⟩
    · simp only [Int.natCast_zero, Int.add_zero, VRep]
    · have h := upto_rg (k := k) (P := P) (ι := ι) n (lo + 1)
      have e : ((fun i : Nat => V.int (lo + (i : Nat))) ∘ Nat.succ) = fun i : Nat => V.int (lo + 1 + (i : Nat)) := by
        funext i
        simp only [Function.comp, V.int.injEq, Nat.succ_eq_add_one, Int.natCast_add]
        omega
      rw [e]
      exact h
theorem listR_imp {es : List E} {σ : L2.St} {H : Hp} {Q : VK} {Q1 : List V → Hp → Prop} (h : J.tE m (.bi .listR [.rng es]) σ H Q)
    (hn : ∀ vs us g' H', vs.length = es.length → MReps J.k g' H' [] vs us → (∃ xs, rngV vs = some xs ∧ xs.length ≤ 16777215 ∧ ∀ ws, VReps J.k (fzP g' H') g'.ι xs ws → ∀ p, H' p = none → Q (.ref p) (upd H' p (.lst ws))) → Q1 us H') : J.tA [] es σ H Q1 := by
  obtain ⟨g, ρ, S, r, p⟩ := h
  have hq : pureE (.bi .listR [.rng es]) = (pureEs es && true) := by simp only [pureE, pureEs, Bool.and_true]
  have ev : evE J.x (.bi .listR [.rng es]) ρ S = (evs J.x es ρ S).bind fun vs S1 => match rngV vs with
      | some xs => if szb xs.length = true then .ok (.lst xs) S1 else .stuck
      | none => .stuck := by
    simp only [evE, evs]
    cases evs J.x es ρ S with
    | exn c S1 => rfl
    | stuck => rfl
    | ok vs S1 =>
      simp only [_root_.Pv.R.bind]
      cases rngV vs with
      | none => rfl
      | some xs =>
        simp only [List.map_cons, List.map_nil, deref, biV]
        split <;> rfl
  rw [ev, hq] at p
  refine tA_bind r p fun vs S1 us g1 H1 e1 r1 st mr p1 => ?_
  refine hn vs us g1 H1 (evs_len e1) mr ?_
  cases er : rngV vs with
  | none => rw [er] at p1; exact p1.elim
  | some xs =>
    rw [er] at p1
    simp only at p1
    split at p1
    · rename_i hz
      exact ⟨xs, rfl, of_decide_eq_true hz, fun ws hw => fin_lst r1 hw p1⟩
    · exact p1.elim
theorem upto_length : ∀ (n : Nat) (lo : Int), (upto lo n).length = n
  | 0, _ => rfl
  | n + 1, lo => by
    unfold upto
    rw [List.length_cons, upto_length n (lo + 1)]
theorem s_listR1 {a : Expr} {ia : E} {p p2 pos2 : Pos} (hc : X.calm = true) (hgl : Gl X "list") (hml : X.mg "list" = none) (hg : Gl X "range") (hm : X.mg "range" = none) (ha : PA X [a] (J.tA [] [ia])) (hs : starEach [a] X.env = [(false, eval a X.env)]) :
    PE X (.Call (.Name "list" p) [.Call (.Name "range" p2) [a] [] pos2] [] pos) (J.tE m (.bi .listR [.rng [ia]])) := by
  refine PE.imp (pe_listRg hc hgl hml (prg_A1 hg hm ha hs)) fun σ H Q h => ?_
  refine listR_imp h fun vs us g' H' hl mr hx => ?_
  obtain ⟨xs, er, hz, ok⟩ := hx
  unfold rngV at er
  split at er
  · rename_i n
    split at er
    · rename_i hn
      cases er
      obtain ⟨u, rfl, h1⟩ := mr.one
      have e := h1.R.int_of
      subst e
      rw [upto_length] at hz
      refine ⟨n, rfl, ⟨by omega, by omega, by omega, by omega, by omega⟩, fun q hq => ok _ ?_ q hq⟩
      have e : (n - 0).toNat = n.toNat := by omega
      unfold rgV
      rw [e]
      exact upto_rg n.toNat 0
    · cases er
  · cases hl
  · cases hl
  · cases hl
  · cases er
theorem s_listR2 {a b : Expr} {ia ib : E} {p p2 pos2 : Pos} (hc : X.calm = true) (hgl : Gl X "list") (hml : X.mg "list" = none) (hg : Gl X "range") (hm : X.mg "range" = none) (ha : PA X [a, b] (J.tA [] [ia, ib])) (hs : starEach [a, b] X.env = [(false, eval a X.env), (false, eval b X.env)]) (hs2 : starEach [b] X.env = [(false, eval b X.env)]) :
    PE X (.Call (.Name "list" p) [.Call (.Name "range" p2) [a, b] [] pos2] [] pos) (J.tE m (.bi .listR [.rng [ia, ib]])) := by
  refine PE.imp (pe_listRg hc hgl hml (prg_A2 hg hm ha hs hs2)) fun σ H Q h => ?_
  refine listR_imp h fun vs us g' H' hl mr hx => ?_
  obtain ⟨xs, er, hz, ok⟩ := hx
  unfold rngV at er
  split at er
  · cases hl
  · rename_i i j
    split at er
    · rename_i hn
      cases er
      obtain ⟨u, u', rfl, h1, h2⟩ := mr.two
      have e := h1.R.int_of
      have e' := h2.R.int_of
      subst e e'
      rw [upto_length] at hz
      exact ⟨i, j, rfl, ⟨by omega, by omega, by omega, by omega, by omega⟩, fun q hq => ok _ (upto_rg _ i) q hq⟩
    · cases er
  · cases hl
  · cases hl
  · cases er
end

section
variable {X : Cx} {J : Jr}
/-- own lists that are handed away for the rest of a suite -/
theorem ss_mvs {is : List Nat} {ss : List Stmt} {rest : List _root_.Pv.S} (ho : ∀ i ∈ is, J.md.l.getD i .shr = .own ∧ hxOk J.md i) (h : PSs X ss ((J.mv is).tSs rest)) : PSs X ss (J.tSs [.mvs is (.ife (.k (.bl true)) rest [])]) := by
  refine PSs.imp h fun D σ H h => ?_
  obtain ⟨g, ρ, S, r, p⟩ := h
  refine ⟨g.frz is, ρ, S, rel_frz r fun i hi => (ho i hi).1, ?_⟩
  have e0 : evSs J.x [.mvs is (.ife (.k (.bl true)) rest [])] ρ S = (match evSs J.x rest ρ S with
    | .nx ρ1 S1 => .nx (dropE is ρ1) S1
    | .exn c ρ1 S1 => .exn c (dropE is ρ1) S1
    | .ret v S1 => .ret v S1
    | _ => .stuck) := by
    simp only [evSs, evS, evE, cnV, _root_.Pv.R.toS, if_true]
    cases evSs J.x rest ρ S <;> rfl
  rw [e0] at p
  have p := postS_after p (frz_stepS (is := is))
  show (J.mv is).PostS _ _ (evSs J.x rest ρ S) D
  cases ev : evSs J.x rest ρ S with
  | nx ρ1 S1 =>
    rw [ev] at p
    exact fun σ1 g1 H1 r1 st1 => p σ1 g1 H1 (rel_unmv r1 fun i hi => (ho i hi).2) st1
  | exn c ρ1 S1 =>
    rw [ev] at p
    exact fun σ1 g1 H1 r1 st1 => p σ1 g1 H1 (rel_unmv r1 fun i hi => (ho i hi).2) st1
  | ret v S1 =>
    rw [ev] at p
    exact p
  | brk ρ1 S1 => rw [ev] at p; exact p.elim
  | cnt ρ1 S1 => rw [ev] at p; exact p.elim
  | stuck => rw [ev] at p; exact p.elim
end
end Pv
end

section
set_option Elab.async false
set_option linter.all false
set_option maxRecDepth 100000
set_option autoImplicit false
/-! Pv18f: things of the store: made, changed. -/
namespace Pv
open PySem PySem.Spec PyProof.Rows L2

theorem collB_is {v : Val} (h : collB v = true) : isColl v := by
  cases v <;> first | exact trivial | cases h
def Gh.cell (g : Gh) (n : Nat) (a : Addr) : Gh := { g with ι := fun i => if i = n then some a else g.ι i }
section
variable {k : Kx} {md : Sl} {g g' : Gh} {H H' : Hp} {σ : L2.St} {ρ : Env} {S : Store}
/-- a new cell -/
theorem cell_new {v : Val} {u : V} (r : Rel k md g σ H ρ S) (hc : collB v = true) (h : MRep k g H (.N S.length) v u) : ∃ a, u = .ref a ∧ Rel k md (g.cell S.length a) σ H ρ (S ++ [.cell v]) ∧ Step true g H (g.cell S.length a) H ∧ ∀ m, MRep k (g.cell S.length a) H m (.ref S.length) u := by
  have key : ∃ a, u = .ref a ∧ g.T a = .st S.length ∧ TRep k (fzP g H) g.ι (fun b o => b = a ∧ H b = some o) v (.ref a) := by
    cases v with
    | lst xs =>
      obtain ⟨a, us, rfl, ⟨t, ha⟩, hs⟩ := (show ∃ a us, u = .ref a ∧ OP g H (.st S.length) a (.lst us) ∧ _ from h)
      exact ⟨a, rfl, t, a, us, rfl, ⟨rfl, ha⟩, hs⟩
    | dK xs =>
      obtain ⟨a, us, rfl, ⟨t, ha⟩, hs⟩ := (show ∃ a us, u = .ref a ∧ OP g H (.st S.length) a (.dK us) ∧ _ from h)
      exact ⟨a, rfl, t, a, us, rfl, ⟨rfl, ha⟩, hs⟩
    | dT xs =>
      obtain ⟨a, us, rfl, ⟨t, ha⟩, hs⟩ := (show ∃ a us, u = .ref a ∧ OP g H (.st S.length) a (.dT us) ∧ _ from h)
      exact ⟨a, rfl, t, a, us, rfl, ⟨rfl, ha⟩, hs⟩
    | _ => cases hc
  obtain ⟨a, rfl, ta, ht⟩ := key
  have hn := r.str.no S.length (Nat.le_refl _)
  have st : Step true g H (g.cell S.length a) H := ⟨fun _ _ => ⟨rfl, rfl⟩, fun _ _ h => h, fun _ _ _ h => h, fun _ _ _ => rfl, fun n b e => by
    show (if n = S.length then some a else g.ι n) = some b
    rw [if_neg (fun z => by rw [z, hn] at e; cases e)]
    exact e, fun _ _ _ _ _ _ => rfl⟩
  have hι : (g.cell S.length a).ι S.length = some a := if_pos rfl
  refine ⟨a, rfl, ⟨r.len, r.lenσ, fun i w e => ?_, r.hx, ⟨fun n o e => ?_, fun n h => ?_, r.str.uniq, r.str.wf, r.str.tup⟩⟩, st, fun m => MRep.of_V ?_ fun z => z⟩
  · obtain ⟨u, e2, h⟩ := r.slot i w e
    exact ⟨u, e2, st.mS h⟩
  · by_cases hlt : n < S.length
    · rw [List.getElem?_append_left hlt] at e
      obtain ⟨x, i, t, q⟩ := r.str.obj n o e
      exact ⟨x, st.ι _ _ i, t, st.mO t q⟩
    · rw [List.getElem?_append_right (by omega)] at e
      have hl : n - S.length = 0 := by
        by_cases z : n - S.length = 0
        · exact z
        · rw [List.getElem?_eq_none (by rw [List.length_singleton]; omega)] at e
          cases e
      have en : n = S.length := by omega
      subst en
      rw [hl] at e
      cases e
      exact ⟨a, hι, ta, collB_is hc, TRep.mono st.fz st.ι (fun b o q => q) _ _ ht⟩
  · rw [List.length_append, List.length_singleton] at h
    show (if n = S.length then some a else g.ι n) = none
    rw [if_neg (by omega)]
    exact r.str.no n (by omega)
  · simp only [VRep]
    exact ⟨a, hι, rfl⟩
/-- a cell's new content -/
theorem cell_set {n : Nat} {v0 v : Val} {a : Addr} {o : HO} (r : Rel k md g σ H ρ S) (e : S[n]? = some (.cell v0)) (ha : g.ι n = some a) (hnt : ∀ xs, o ≠ .tup xs) (hc : isColl v)
    (ht : ∀ H2, (∀ b w, fzP g H b = some w → fzP g H2 b = some w) → H2 a = some o → TRep k (fzP g H2) g.ι (fun b w => b = a ∧ H2 b = some w) v (.ref a)) : Rel k md g σ (upd H a o) ρ (S.set n (.cell v)) ∧ StepS g H g (upd H a o) := by
  obtain ⟨b, hb, tb, _⟩ := r.str.obj n _ e
  rw [ha] at hb
  cases hb
  have ne : ∀ c, g.T c ≠ .st n → upd H a o c = H c := fun c h => upd_ne fun z => h (by rw [z]; exact tb)
  have fz : ∀ b w, fzP g H b = some w → fzP g (upd H a o) b = some w := fun b w h => by
    obtain ⟨t, e⟩ := fzP_some h
    exact fzP_of t ((ne b (by rw [t]; intro z; cases z)).trans e)
  have nfz : ∀ ob w, H a ≠ some (.frz ob w) := fun ob w z => by
    obtain ⟨b, hb, _, hc', q⟩ := r.str.obj n _ e
    rw [ha] at hb
    cases hb
    cases v0 <;> first
      | exact hc'.elim
      | (obtain ⟨c, us, e1, ⟨rfl, q⟩, _⟩ := q
         rw [z] at q
         cases q)
  have st : StepS g H g (upd H a o) := ⟨fun b h => ⟨rfl, ne b (by rcases h with h | h <;> rw [h] <;> intro z <;> cases z)⟩, fun _ _ h => h, fun _ _ _ h => h, fun _ _ h => h, fun b m ob w t z => upd_ne fun y => nfz ob w (by rw [← y]; exact z)⟩
  have fs : ∀ {c m : Nat} {fs : List (Nat × Val)} {us : List (Str × V)}, FReps k g H c m fs us → FReps k g (upd H a o) c m fs us := by
    intro c m fs
    induction fs with
    | nil => intro us h; exact h
    | cons q fs ih =>
      intro us h
      obtain ⟨f, x⟩ := q
      obtain ⟨u, r', rfl, h1, h2⟩ := h
      refine ⟨u, r', rfl, ?_, ih h2⟩
      split
      · rename_i ho
        rw [if_pos ho] at h1
        exact TRep.mono fz (fun _ _ h => h) (fun b w q => ⟨q.1, (ne b (by rw [q.1]; intro z; cases z)).trans q.2⟩) _ _ h1
      · rename_i ho
        rw [if_neg ho] at h1
        exact VRep.mono fz (fun _ _ h => h) _ _ h1
  refine ⟨⟨r.len, r.lenσ, fun i w e => ?_, r.hx, ⟨fun m o' e2 => ?_, fun m h => r.str.no m (by rw [List.length_set] at h; exact h), r.str.uniq, fun b h => ?_, fun b xs h => ?_⟩⟩, st⟩
  · obtain ⟨u, e2, h⟩ := r.slot i w e
    refine ⟨u, e2, ?_⟩
    cases hm : md.l.getD i .shr with
    | shr => rw [hm] at h; exact VRep.mono fz (fun _ _ h => h) _ _ h
    | brw =>
      rw [hm] at h
      refine TRep.mono fz (fun _ _ h => h) (fun b w q => ⟨q.1, (ne b fun z => ?_).trans q.2⟩) _ _ h
      have := q.1
      rw [z] at this
      cases this
    | own =>
      rw [hm] at h
      exact TRep.mono fz (fun _ _ h => h) (fun b w q => ⟨q.1, (ne b (by rw [q.1]; intro z; cases z)).trans q.2⟩) _ _ h
    | ini =>
      rw [hm] at h
      obtain ⟨c, fs', x, dx, us, e1, e2', e3, e4, e5⟩ := h
      exact ⟨c, fs', x, dx, us, e1, e2', e3, (ne x (by rw [e3]; intro z; cases z)).trans e4, VFs.mono fz (fun _ _ h => h) _ _ e5⟩
  · by_cases hm : m = n
    · subst hm
      have hlt : m < S.length := (List.getElem?_eq_some_iff.mp e).1
      rw [List.getElem?_set_self hlt] at e2
      cases e2
      exact ⟨a, ha, tb, hc, ht _ fz upd_same⟩
    · rw [List.getElem?_set_ne (fun z => hm z.symm)] at e2
      obtain ⟨x, i, t, q⟩ := r.str.obj m _ e2
      refine ⟨x, i, t, ?_⟩
      have hx : upd H a o x = H x := ne x (by rw [t]; intro z; cases z; exact hm rfl)
      cases o' with
      | inst c fs' =>
        obtain ⟨dx, us, h1, h2⟩ := q
        exact ⟨dx, us, hx.trans h1, fs h2⟩
      | cell w =>
        obtain ⟨hc', q⟩ := q
        refine ⟨hc', TRep.mono fz (fun _ _ h => h) (fun b ob z => ?_) _ _ q⟩
        obtain ⟨rfl, z⟩ := z
        exact ⟨rfl, hx.trans z⟩
      | lk w =>
        obtain ⟨hc', q⟩ := q
        refine ⟨hc', TRep.mono fz (fun _ _ h => h) (fun b ob z => ?_) _ _ q⟩
        obtain ⟨rfl, oo, z⟩ := z
        exact ⟨rfl, oo, hx.trans z⟩
  · by_cases z : b = a
    · rw [z, upd_same]; intro w; cases w
    · rw [upd_ne z]; exact r.str.wf b h
  · by_cases z : b = a
    · rw [z, upd_same] at h
      exact absurd (Option.some.inj h) (hnt xs)
    · rw [upd_ne z] at h
      exact r.str.tup b xs h
end
theorem PE.ex {X : Cx} {e : Expr} {t : Nat → TE} (h : ∀ n, PE X e (t n)) : PE X e (fun σ H Q => ∃ n, t n σ H Q) := ⟨fun pins s σ H Q I ⟨n, q⟩ => (h n).run pins s σ H Q I q⟩
section
variable {X : Cx} {J : Jx} {m : Md} {pos : Pos}
theorem mkr_imp {ie : E} (σ : L2.St) (H : Hp) (Q : VK) (hE : J.tE m (.mkr ie) σ H Q) : ∃ n, J.tE (.N n) ie σ H Q := by
  obtain ⟨g, ρ, S, r, p⟩ := hE
  have ev0 : evE J.x (.mkr ie) ρ S = (evE J.x ie ρ S).bind fun v S1 => mkrV v S1 := by simp only [evE]
  rw [ev0] at p
  cases ev : evE J.x ie ρ S with
  | ok v S1 =>
    rw [ev] at p
    simp only [_root_.Pv.R.bind] at p
    unfold mkrV at p
    split at p
    · refine ⟨0, tE_ok r ev fun u g' H' r' st mr => ?_⟩
      have e : u = .non := mr.R.non_of
      subst e
      exact p _ g' H' r' (by simpa only [pureE] using st) MRep.non
    · split at p
      · rename_i hc
        refine ⟨S1.length, tE_ok r ev fun u g' H' r' st mr => ?_⟩
        obtain ⟨a, rfl, r2, st2, m2⟩ := cell_new r' hc mr
        have st3 := st.trans st2
        rw [Bool.and_true] at st3
        exact p _ _ H' r2 (by simp only [pureE]; exact st3) (m2 m)
      · exact p.elim
  | exn c S1 =>
    rw [ev] at p
    exact ⟨0, tE_exn r ev p⟩
  | stuck => rw [ev] at p; exact p.elim
theorem s_mkr {e : Expr} {ie : E} (h : ∀ n, PE X e (J.tE (.N n) ie)) : PE X e (J.tE m (.mkr ie)) := PE.imp (PE.ex h) mkr_imp
end

/-- what stands ahead of a dot -/
def recvB : Expr → Bool
  | .Name _ _ => true
  | .Attribute _ _ _ => true
  | .Subscript _ _ _ => true
  | .Call _ (_ :: _) _ _ => true
  | _ => false
theorem recv_base {o : Expr} {nm : Str} {env : PySem.Env} {w : Sem Value} (h : recvB o = true) : attributeBase o nm env w = w := by
  cases o with
  | Call f a k p =>
    cases a with
    | nil => cases h
    | cons x xs => cases f <;> rfl
  | _ => first | rfl | cases h
theorem PS.ex {X : Cx} {s : Stmt} {t : Nat → TS} (h : ∀ n, PS X s (t n)) : PS X s (fun D σ H => ∃ n, t n D σ H) := ⟨fun pins s' σ H D I ⟨n, q⟩ => (h n).run pins s' σ H D I q⟩
section
variable {X : Cx} {J : Jr} {m : Md} {pos : Pos}
theorem s_setLcN {K : Jx} {n i : Nat} {y : Str} {py : Pos} {elt tg iter : Expr} {ifs : List Expr} {scope : Scope} {own : List (Str × Nat)} {spos : Pos} {ie iit : E} {itg : Tg} {icd : Option E} (hK : ∀ e σ H Q, J.tE (.N n) e σ H Q → K.tE (.N n) e σ H Q) (hc : X.calm = true) (hN : X.N.Nodup) (hy : X.N[i]? = some y) (hyl : X.env.scope.names.lookup y = some .local)
    (hsw : swapsWith (.ListComp elt [⟨tg, iter, ifs, 0⟩] scope pos) (some (.Name y py)) spos.line X.env = pure true) (hi : PI X tg iter (K.tI iit)) (ok : BlkOk X.N X.env.scope scope own) (hown : own.map (·.2) = tgIs itg)
    (hg : ∀ (s : Shared) (H : Hp) (C : Addr) (cl : List (Str × Addr)) (fp : List Addr), PG (X.blk s H scope (compEnvC scope cl C X.env) fp) tg (K.calm.tG itg)) (ht : ∀ (s : Shared) (H : Hp) (C : Addr) (cl : List (Str × Addr)) (fp : List Addr), PTs (X.blk s H scope (compEnvC scope cl C X.env) fp) ifs (K.calm.tC icd))
    (he : ∀ (s : Shared) (H : Hp) (C : Addr) (cl : List (Str × Addr)) (fp : List Addr), PE (X.blk s H scope (compEnvC scope cl C X.env) fp) elt (K.calm.tE .V ie)) (hs : ∀ x, foldedSetIterable iter X.env x = pure x)
    (hn : (tgIs itg).Nodup) (hok : tgOk K.md (tgIs itg)) :
    PS X (.Assign [.Name y py] (.ListComp elt [⟨tg, iter, ifs, 0⟩] scope pos) spos) (tAsg (J.tE (.N n) (.comp ie itg iit icd)) (gName i)) := by
  refine PS.imp (ps_setLc hc hN hy hyl hsw hi ok hg ht he hs) fun D σ H h => ?_
  have h3 := comp_imp hn hok σ H _ (hK _ _ _ _ h)
  rw [← hown] at h3
  exact h3
theorem s_setLcR {i : Nat} {s : Stmt} {e : E} (hx : hxOk J.md i) (hm : (J.md.l.getD i .shr = .shr ∧ m = .V) ∨ (J.md.l.getD i .shr = .own ∧ m = .O)) (h : ∀ n, PS X s (tAsg (J.tE (.N n) e) (gName i))) : PS X s (J.tS (.set i (.mkr e))) := by
  refine PS.imp (PS.ex h) fun D σ H h => ?_
  exact mkr_imp σ H _ (set_imp (m := m) hx hm D σ H h)
end

section
variable {X : Cx} {J : Jx} {m : Md} {pos : Pos}
theorem s_d0 {t : Bool} : PE X (.Dict [] [] pos) (J.tE m (.d0 t)) := by
  cases t with
  | true =>
    refine PE.imp pe_dnewT fun σ H Q h => ?_
    obtain ⟨g, ρ, S, r, p⟩ := h
    have ev : evE J.x (.d0 true) ρ S = .ok (.dT []) S := by simp only [evE, if_true]
    rw [ev] at p
    exact fin_dT (xs := []) (us := []) r (by simp only [VTs]) (by simpa only [pureE] using p)
  | false =>
    refine PE.imp pe_dnewK fun σ H Q h => ?_
    obtain ⟨g, ρ, S, r, p⟩ := h
    have ev : evE J.x (.d0 false) ρ S = .ok (.dK []) S := by simp only [evE, Bool.false_eq_true, if_false]
    rw [ev] at p
    exact fin_dK (xs := []) (us := []) r (by simp only [VKs]) (by simpa only [pureE] using p)
end
/-! ### a cell's list is changed -/
section
variable {X : Cx} {J : Jr} {m : Md} {pos : Pos}
theorem evS_mu_refp (x : Cfg) (e : E) (mu : Mu) (ρ : Env) (S : Store) : evS x (.mu (.refp e) mu) ρ S = (evE x e ρ S).toS ρ fun v S1 => match v with
    | .ref n => (match S1[n]? with
      | some (.cell w) => if muTy mu w = true then (evs x (muArgs mu) ρ S1).toS ρ fun vs S2 => (match S2[n]? with
        | some (.cell w2) => (match muV mu w2 (muDe mu S2 vs) with
          | some z => .nx ρ (S2.set n (.cell z))
          | none => .stuck)
        | _ => .stuck) else .stuck
      | _ => .stuck)
    | _ => .stuck := by
  simp only [evS, plE, evs]
  cases evE x e ρ S with
  | exn c S1 => rfl
  | stuck => rfl
  | ok v S1 =>
    simp only [_root_.Pv.R.bind, R.toS, List.headD_cons, plV]
    cases v with
    | ref n =>
      simp only
      cases S1[n]? with
      | none => rfl
      | some o =>
        cases o with
        | cell w =>
          simp only
          split
          · rfl
          · rfl
        | inst c fs => rfl
        | lk w => rfl
    | _ => rfl
theorem toS_bindI {e : E} {f : Val → Store → RS} {g : Gh} {H : Hp} {σ : L2.St} {ρ : Env} {S : Store} {D : Ends} {Q1 : VK} {m1 : Md} (r : Rel J.k J.md g σ H ρ S) (h : J.PostS g H ((evE J.x e ρ S).toS ρ f) D)
    (hn : ∀ v S' u g' H', evE J.x e ρ S = .ok v S' → Rel J.k J.md g' σ H' ρ S' → Step (pureE e) g H g' H' → MRep J.k g' H' m1 v u → J.PostS g' H' (f v S') D → Q1 u H') : J.tE m1 e σ H Q1 := by
  refine ⟨g, ρ, S, r, ?_⟩
  cases ev : evE J.x e ρ S with
  | ok v S1 =>
    rw [ev] at h
    exact fun u g2 H2 r2 s mr => hn v S1 u g2 H2 ev r2 s mr (postS_after h s.toS)
  | exn c S1 =>
    rw [ev] at h
    exact fun g2 H2 r2 s => h σ g2 H2 r2 s.toS
  | stuck => rw [ev] at h; exact h.elim
/-- a list's method at a cell -/
theorem muR_imp {ie : E} {mu : Mu} {ms : List Md} {rr : V → List V → Hp → VK → Prop} (hl : ∀ v, muTy mu v = true → ∃ xs, v = .lst xs) (hl2 : ∀ v vs z, muV mu v vs = some z → ∃ xs, v = .lst xs)
    (hr : ∀ g H σ ρ S vs us a xs ws z Q, vs.length = (muArgs mu).length → Rel J.k J.md g σ H ρ S → MReps J.k g H ms vs us → H a = some (.lst ws) → VReps J.k (fzP g H) g.ι xs ws → muV mu (.lst xs) (muDe mu S vs) = some z →
      (∀ (zs : List Val) (xz : List V), z = .lst zs → VReps J.k (fzP g H) g.ι zs xz → Q .non (upd H a (.lst xz))) → rr (.ref a) us H Q)
    (D : Ends) (σ : L2.St) (H : Hp) (h : J.tS (.mu (.refp ie) mu) D σ H) : tDrop (tBM X.K "list" rr (J.tE .V ie) (J.tA ms (muArgs mu))) D σ H := by
  obtain ⟨g, ρ, S, r, p⟩ := h
  rw [evS_mu_refp] at p
  refine toS_bindI r p fun v S1 u g1 H1 ev r1 st1 mr1 p1 => ?_
  cases v with
  | ref n =>
    simp only at p1
    cases e1 : S1[n]? with
    | none => rw [e1] at p1; exact p1.elim
    | some o =>
      rw [e1] at p1
      cases o with
      | cell w =>
        simp only at p1
        split at p1
        case isFalse => exact p1.elim
        rename_i hty
        obtain ⟨xs0, rfl⟩ := hl w hty
        have hv : VRep J.k (fzP g1 H1) g1.ι (.ref n) u := mr1
        simp only [VRep] at hv
        obtain ⟨a, ha, rfl⟩ := hv
        obtain ⟨ta, us0, ha0, hs0⟩ := cell_at r1.str e1 ha
        refine ⟨.inl ⟨rfl, us0, .inl (.inl ha0)⟩, ?_⟩
        refine tA_bindI r1 (fun c S' ev2 => ?_) (fun ev2 => ?_) fun vs S' us g' H' ev2 r' st mr => ?_
        · rw [ev2] at p1
          exact fun g2 H2 r2 s => p1 σ g2 H2 r2 s.toS
        · rw [ev2] at p1
          exact p1
        · rw [ev2] at p1
          simp only [_root_.Pv.R.toS] at p1
          have p' := postS_after p1 st.toS
          cases e2 : S'[n]? with
          | none => rw [e2] at p'; exact p'.elim
          | some o2 =>
            rw [e2] at p'
            cases o2 with
            | cell w2 =>
              simp only at p'
              cases em : muV mu w2 (muDe mu S' vs) with
              | none => rw [em] at p'; exact p'.elim
              | some z =>
                rw [em] at p'
                obtain ⟨xs, rfl⟩ := hl2 _ _ _ em
                have ha' := st.ι n a ha
                obtain ⟨ta', ws, hw, hs⟩ := cell_at r'.str e2 ha'
                refine hr g' H' σ ρ S' vs us a xs ws z _ (evs_len ev2) r' mr hw hs em fun zs xz ez hz => ?_
                subst ez
                obtain ⟨r3, st3⟩ := cell_set (o := .lst xz) (v := .lst zs) r' e2 ha' (fun _ z => nomatch z) trivial fun H2 fz hH2 => ⟨a, xz, rfl, ⟨rfl, hH2⟩, VReps.mono fz (fun _ _ h => h) _ _ hz⟩
                exact p' σ g' _ r3 st3
            | inst c fs => exact p'.elim
            | lk w => exact p'.elim
      | inst c fs => exact p1.elim
      | lk w => exact p1.elim
  | _ => exact p1.elim
/-- .. without arguments -/
theorem muR0_imp {ie : E} {mu : Mu} {rr : V → List V → Hp → VK → Prop} (h0 : muArgs mu = []) (hl : ∀ v, muTy mu v = true → ∃ xs, v = .lst xs)
    (hr : ∀ (H : Hp) a g xs ws z Q S, H a = some (.lst ws) → VReps J.k (fzP g H) g.ι xs ws → muV mu (.lst xs) (muDe mu S []) = some z →
      (∀ (zs : List Val) (xz : List V), z = .lst zs → VReps J.k (fzP g H) g.ι zs xz → Q .non (upd H a (.lst xz))) → rr (.ref a) [] H Q)
    (D : Ends) (σ : L2.St) (H : Hp) (h : J.tS (.mu (.refp ie) mu) D σ H) : tDrop (tBM0 X.K "list" rr (J.tE .V ie)) D σ H := by
  obtain ⟨g, ρ, S, r, p⟩ := h
  rw [evS_mu_refp] at p
  refine toS_bindI r p fun v S1 u g1 H1 ev r1 st1 mr1 p1 => ?_
  cases v with
  | ref n =>
    simp only at p1
    cases e1 : S1[n]? with
    | none => rw [e1] at p1; exact p1.elim
    | some o =>
      rw [e1] at p1
      cases o with
      | cell w =>
        simp only at p1
        split at p1
        case isFalse => exact p1.elim
        rename_i hty
        obtain ⟨xs0, rfl⟩ := hl w hty
        have hv : VRep J.k (fzP g1 H1) g1.ι (.ref n) u := mr1
        simp only [VRep] at hv
        obtain ⟨a, ha, rfl⟩ := hv
        obtain ⟨ta, us0, ha0, hs0⟩ := cell_at r1.str e1 ha
        refine ⟨.inl ⟨rfl, us0, .inl (.inl ha0)⟩, ?_⟩
        rw [h0] at p1
        simp only [evs, _root_.Pv.R.toS, e1] at p1
        cases em : muV mu (.lst xs0) (muDe mu S1 []) with
        | none => rw [em] at p1; exact p1.elim
        | some z =>
          rw [em] at p1
          refine hr H1 a g1 xs0 us0 z _ S1 ha0 hs0 em fun zs xz ez hz => ?_
          subst ez
          obtain ⟨r3, st3⟩ := cell_set (o := .lst xz) (v := .lst zs) r1 e1 ha (fun _ z => nomatch z) trivial fun H2 fz hH2 => ⟨a, xz, rfl, ⟨rfl, hH2⟩, VReps.mono fz (fun _ _ h => h) _ _ hz⟩
          exact p1 σ g1 _ r3 st3
      | inst c fs => exact p1.elim
      | lk w => exact p1.elim
  | _ => exact p1.elim
theorem s_clrR {o : Expr} {io : E} {ap cp : Pos} (ho : PE X o (J.tE .V io)) (hb : recvB o = true) (hline : (ap.endLine == cp.line) = true)
    (hs : swapsWith (.Call (.Attribute o "clear" ap) [] [] cp) none pos.line X.env = pure false) :
    PS X (.Expr (.Call (.Attribute o "clear" ap) [] [] cp) pos) (J.tS (.mu (.refp io) .clr)) := by
  refine PS.imp (ps_expr (pe_bm0 PySem.F.plainAttrs_list PySem.F.slot_list_clear PySem.F.type_list_clear mt_clear ho (hbase := recv_base hb) (hline := hline)) hs) ?_
  refine muR0_imp rfl (muTy_lst rfl) fun H a g xs ws z Q S ha hs em q => ?_
  simp only [muDe, muV] at em
  cases em
  exact ⟨a, ws, rfl, rfl, ha, q _ _ rfl (by simp only [VReps])⟩
theorem s_appR {o e : Expr} {io ie : E} {ap cp : Pos} (ho : PE X o (J.tE .V io)) (ha : PA X [e] (J.tA [] [ie])) (hb : recvB o = true) (hline : (ap.endLine == cp.line) = true) (hst : starEach [e] X.env = (false, eval e X.env) :: starEach [] X.env)
    (hs : swapsWith (.Call (.Attribute o "append" ap) [e] [] cp) none pos.line X.env = pure false) :
    PS X (.Expr (.Call (.Attribute o "append" ap) [e] [] cp) pos) (J.tS (.mu (.refp io) (.app ie))) := by
  refine PS.imp (ps_expr (pe_bm PySem.F.plainAttrs_list PySem.F.slot_list_append PySem.F.type_list_append mt_append ho ha (hbase := recv_base hb) (hline := hline) (hs := hst) (hfew := by rw [hst]; rfl)) hs) ?_
  refine muR_imp (muTy_lst rfl) (fun v vs z h => by cases v <;> first | exact ⟨_, rfl⟩ | cases h) fun g H σ ρ S vs us a xs ws z Q hlen r mr ha hs em q => ?_
  cases vs with
  | nil => cases hlen
  | cons v vs =>
    cases vs with
    | cons _ _ => cases hlen
    | nil =>
      obtain ⟨u, rfl, h1⟩ := mr.one
      simp only [muDe, muV] at em
      split at em
      · rename_i hz
        cases em
        refine ⟨a, ws, u, rfl, rfl, ha, ?_, q _ _ rfl (hs.app (VReps.one h1))⟩
        rw [hs.len]
        have := szb_lt hz
        omega
      · cases em
theorem s_extR {o e : Expr} {io ie : E} {ap cp : Pos} (ho : PE X o (J.tE .V io)) (ha : PA X [e] (J.tA [.B] [ie])) (hb : recvB o = true) (hline : (ap.endLine == cp.line) = true) (hst : starEach [e] X.env = (false, eval e X.env) :: starEach [] X.env)
    (hs : swapsWith (.Call (.Attribute o "extend" ap) [e] [] cp) none pos.line X.env = pure false) :
    PS X (.Expr (.Call (.Attribute o "extend" ap) [e] [] cp) pos) (J.tS (.mu (.refp io) (.ext ie))) := by
  refine PS.imp (ps_expr (pe_bm PySem.F.plainAttrs_list PySem.F.slot_list_extend PySem.F.type_list_extend mt_extend ho ha (hbase := recv_base hb) (hline := hline) (hs := hst) (hfew := by rw [hst]; rfl)) hs) ?_
  refine muR_imp (muTy_lst rfl) (fun v vs z h => by cases v <;> first | exact ⟨_, rfl⟩ | cases h) fun g H σ ρ S vs us a xs ws z Q hlen r mr ha hs em q => ?_
  cases vs with
  | nil => cases hlen
  | cons v vs =>
    cases vs with
    | cons _ _ => cases hlen
    | nil =>
      obtain ⟨u, rfl, h1⟩ := mr.one
      have h2 := deref_R r.str h1.R
      simp only [muDe, List.map_cons, List.map_nil] at em
      generalize deref S v = v' at h2 em
      cases v' <;> simp only [muV] at em <;> try cases em
      rename_i ys
      split at em
      · rename_i hz
        cases em
        obtain ⟨b, zs, rfl, hb, ht⟩ := h2.lst_of
        refine ⟨a, b, ws, zs, rfl, rfl, ha, hb, ?_, q _ _ rfl (hs.app ht)⟩
        rw [hs.len, ht.len]
        exact szb_line hz
      · cases em
end
end Pv
end

section
set_option Elab.async false
set_option linter.all false
set_option maxRecDepth 100000
set_option autoImplicit false
/-! Pv18g: dicts of the store: put, taken away, looked up; locked while a statement runs. -/
namespace Pv
open PySem PySem.Spec PyProof.Rows L2

/-! ### what is put, what is taken away, on both sides -/
section
variable {k : Kx} {F : Hp} {ι : Nat → Option Addr}
theorem VTs.any {q : List Key} : ∀ {xs : List (List Key × Val)} {us : List (List Key × V)}, VTs k F ι xs us → (us.any fun p => decide (p.1 = q)) = xs.any fun p => decide (p.1 = q)
  | [], _, h => by
    simp only [VTs] at h
    subst h
    rfl
  | (a, y) :: xs, _, h => by
    simp only [VTs] at h
    obtain ⟨w, r, rfl, _, h2⟩ := h
    simp only [List.any_cons, VTs.any h2]
theorem VTs.snoc {q : List Key} {x : Val} {u : V} (hx : VRep k F ι x u) : ∀ {xs : List (List Key × Val)} {us : List (List Key × V)}, VTs k F ι xs us → VTs k F ι (xs ++ [(q, x)]) (us ++ [(q, u)])
  | [], _, h => by
    simp only [VTs] at h
    subst h
    simp only [List.nil_append, VTs]
    exact ⟨u, [], rfl, hx, rfl⟩
  | (a, y) :: xs, _, h => by
    simp only [VTs] at h
    obtain ⟨w, r, rfl, h1, h2⟩ := h
    simp only [List.cons_append, VTs]
    exact ⟨w, _, rfl, h1, VTs.snoc hx h2⟩
theorem VTs.rep {q : List Key} {x : Val} {u : V} (hx : VRep k F ι x u) : ∀ {xs : List (List Key × Val)} {us : List (List Key × V)}, VTs k F ι xs us → VTs k F ι (xs.map fun p => if p.1 = q then (p.1, x) else p) (us.map fun p => if p.1 = q then (p.1, u) else p)
  | [], _, h => by
    simp only [VTs] at h
    subst h
    simp only [List.map_nil, VTs]
  | (a, y) :: xs, _, h => by
    simp only [VTs] at h
    obtain ⟨w, r, rfl, h1, h2⟩ := h
    simp only [List.map_cons]
    by_cases e : a = q
    · simp only [e, if_true, VTs]
      exact ⟨u, _, rfl, hx, VTs.rep hx h2⟩
    · simp only [e, if_false, VTs]
      exact ⟨w, _, rfl, h1, VTs.rep hx h2⟩
theorem VTs.put {q : List Key} {x : Val} {u : V} (hx : VRep k F ι x u) {xs : List (List Key × Val)} {us : List (List Key × V)} (h : VTs k F ι xs us) : VTs k F ι (dput q x xs) (putK us q u) := by
  unfold dput putK
  rw [h.any]
  split
  · exact h.rep hx
  · exact h.snoc hx
theorem VTs.del {q : List Key} : ∀ {xs : List (List Key × Val)} {us : List (List Key × V)}, VTs k F ι xs us → VTs k F ι (ddel q xs) (dropK us q)
  | [], _, h => by
    simp only [VTs] at h
    subst h
    simp only [ddel, dropK, List.filter_nil, VTs]
  | (a, y) :: xs, _, h => by
    simp only [VTs] at h
    obtain ⟨w, r, rfl, h1, h2⟩ := h
    have ih := VTs.del (q := q) h2
    unfold ddel dropK at ih ⊢
    by_cases e : a = q
    · rw [List.filter_cons_of_neg (by simp [e]), List.filter_cons_of_neg (by simp [e])]
      exact ih
    · rw [List.filter_cons_of_pos (by simp [e]), List.filter_cons_of_pos (by simp [e])]
      simp only [VTs]
      exact ⟨w, _, rfl, h1, ih⟩
theorem VKs.any {q : Key} : ∀ {xs : List (Key × Val)} {us : List (Key × V)}, VKs k F ι xs us → (us.any fun p => decide (p.1 = q)) = xs.any fun p => decide (p.1 = q)
  | [], _, h => by
    simp only [VKs] at h
    subst h
    rfl
  | (a, y) :: xs, _, h => by
    simp only [VKs] at h
    obtain ⟨w, r, rfl, _, h2⟩ := h
    simp only [List.any_cons, VKs.any h2]
theorem VKs.snoc {q : Key} {x : Val} {u : V} (hx : VRep k F ι x u) : ∀ {xs : List (Key × Val)} {us : List (Key × V)}, VKs k F ι xs us → VKs k F ι (xs ++ [(q, x)]) (us ++ [(q, u)])
  | [], _, h => by
    simp only [VKs] at h
    subst h
    simp only [List.nil_append, VKs]
    exact ⟨u, [], rfl, hx, rfl⟩
  | (a, y) :: xs, _, h => by
    simp only [VKs] at h
    obtain ⟨w, r, rfl, h1, h2⟩ := h
    simp only [List.cons_append, VKs]
    exact ⟨w, _, rfl, h1, VKs.snoc hx h2⟩
theorem VKs.rep {q : Key} {x : Val} {u : V} (hx : VRep k F ι x u) : ∀ {xs : List (Key × Val)} {us : List (Key × V)}, VKs k F ι xs us → VKs k F ι (xs.map fun p => if p.1 = q then (p.1, x) else p) (us.map fun p => if p.1 = q then (p.1, u) else p)
  | [], _, h => by
    simp only [VKs] at h
    subst h
    simp only [List.map_nil, VKs]
  | (a, y) :: xs, _, h => by
    simp only [VKs] at h
    obtain ⟨w, r, rfl, h1, h2⟩ := h
    simp only [List.map_cons]
    by_cases e : a = q
    · simp only [e, if_true, VKs]
      exact ⟨u, _, rfl, hx, VKs.rep hx h2⟩
    · simp only [e, if_false, VKs]
      exact ⟨w, _, rfl, h1, VKs.rep hx h2⟩
theorem VKs.put {q : Key} {x : Val} {u : V} (hx : VRep k F ι x u) {xs : List (Key × Val)} {us : List (Key × V)} (h : VKs k F ι xs us) : VKs k F ι (dput q x xs) (putK us q u) := by
  unfold dput putK
  rw [h.any]
  split
  · exact h.rep hx
  · exact h.snoc hx
theorem VKs.del {q : Key} : ∀ {xs : List (Key × Val)} {us : List (Key × V)}, VKs k F ι xs us → VKs k F ι (ddel q xs) (dropK us q)
  | [], _, h => by
    simp only [VKs] at h
    subst h
    simp only [ddel, dropK, List.filter_nil, VKs]
  | (a, y) :: xs, _, h => by
    simp only [VKs] at h
    obtain ⟨w, r, rfl, h1, h2⟩ := h
    have ih := VKs.del (q := q) h2
    unfold ddel dropK at ih ⊢
    by_cases e : a = q
    · rw [List.filter_cons_of_neg (by simp [e]), List.filter_cons_of_neg (by simp [e])]
      exact ih
    · rw [List.filter_cons_of_pos (by simp [e]), List.filter_cons_of_pos (by simp [e])]
      simp only [VKs]
      exact ⟨w, _, rfl, h1, ih⟩
end
/-! ### d.pop(k), its keys tuples: it is there -/
section
variable {K : Type} [DecidableEq K] {prog : Program} {w : World} {knd : HeapKind prog w K}
theorem meets_pop1 {d b : Addr} {k : K} (hd : (d == sysModules) = false) :
    MeetsIn prog w (Builtin.«dict.pop» ⟨[.ref d, .ref b], []⟩) (fun A R s => ∃ xs p, knd.room A.in1 ∧ knd.is s.heap k b ∧ s.heap.DictOfH knd d xs ∧ xs.length ≤ sizeLine ∧ atKey xs k = some p ∧
      ∀ h' tk, h'.DictOfH knd d (DT.dropH xs k) → Heap.SameBut d s.heap h' → R (.ok (.ret p.2)) { s with heap := h', toks := tk }) :=
  .of_wp fun A R s ⟨xs, p0, hu, hkey, hm, hsz, hp0, hgo⟩ => by
    obtain ⟨o, es, ep, ho, hc, hdat, he, his, hn⟩ := id hm
    have hlen : es.size = xs.length := size_of_entries he
    unfold Builtin.«dict.pop»
    refine wpAny_bind ?_
    unfold Builtin.Dict.keyAndDefault
    refine wpAny_bind (wpAny_notOrdered_dict hm.typeIs ?_)
    show wpAny _ _ (pure (d, Value.ref b, none)) _ _ s
    refine wpAny_pure ?_
    have hk0 : (keyPart (Value.ref b)).isSome = false := rfl
    simp only [hk0, Bool.false_eq_true, if_false]
    refine wpAny_bind (wpAny_dictEntries ho hdat (wpAny_bind (wpAny_pure ?_)))
    have hne : es.isEmpty = false := by
      cases h0 : es.isEmpty with
      | false => rfl
      | true =>
        have hz : xs = [] := List.length_eq_zero_iff.mp (by rw [← hlen]; simpa using h0)
        rw [hz] at hp0
        cases hp0
    simp only [hne, Bool.false_eq_true, if_false]
    refine wpAny_bind (DT.takeH hu hkey hm hsz (fun hno => absurd hno (by rw [hp0]; intro z; cases z)) fun p e hp hev h' hm' hs' => ?_)
    rw [hp0] at hp
    cases hp
    simp only [Option.isNone_some, Bool.false_eq_true, if_false]
    exact wpAny_bind (wpAny_letGo (wpAny_pure ⟨e.val, rfl, by rw [hev]; exact hgo h' _ hm' hs'⟩))
end
section
variable {X : Cx}
def rPop1T : V → List V → Hp → VK → Prop := fun x xs H Q => ∃ (a : Addr) (kvs : List (List L2.Key × V)) (k : List L2.Key) (b : Addr) (v : V), x = .ref a ∧ xs = [.ref b] ∧ H a = some (.dT kvs) ∧ H b = some (.tup (k.map kV)) ∧
  valV kvs k = some v ∧ Q v (upd H a (.dT (dropK kvs k)))
theorem mt_pop1T (hu : X.A.units + 1 < cLine) : MtR X "dict.pop" rPop1T := by
  intro pins s σ H x xs v us Q I rx rxs h
  obtain ⟨a, kvs, k, b, v0, rfl, rfl, ha, hb, ev, q⟩ := h
  cases rx
  obtain ⟨u1, rfl, r1⟩ := vals1 rxs
  cases r1
  obtain ⟨z, hd, xs', rel, dd⟩ := dt_of I.hok ha
  have hv := rel.val k
  rw [ev] at hv
  cases hp : atKey xs' k with
  | none => rw [hp] at hv; exact hv.elim
  | some p =>
    rw [hp] at hv
    refine call_meetsIn PySem.F.slot_dict_pop dd.typeIs PySem.F.entry_dict_pop (PySem.F.args_dict_pop_2 _ _) (meets_pop1 (knd := tupleKind (mixKind X.prog X.w)) (k := k) hd)
      ⟨xs', p, tupleKind_room_in1 hu, L2.key_of I.hok hb, dd, by rw [← Paired.length rel]; exact z, hp, fun h' tk dd' hs => ?_⟩
    obtain ⟨o, es, ep, hq, h2, h3, h4, _, h5⟩ := dd'
    have I2 : Inv X pins σ (upd H a (.dT (dropK kvs k))) { s with heap := h', toks := tk } :=
      d_write I (by rw [ha]; exact True.intro) hs ⟨o, hq⟩ ⟨Nat.le_trans (dropK_le kvs k) z, hd, _, (L2.DX.KT_drop k rel).keeps (fun c ys ec => (by rw [upd_ne (ne_of ec ha (fun z => nomatch z))]; exact ec)), o, es, ep, hq, h2, h3, h4, h5⟩
    exact ⟨v0, _, I2, hv, q⟩
end

/-! ### d[k] = e -/
section
variable {X : Cx} {J : Jr} {m : Md} {pos : Pos}
theorem evS_sti (x : Cfg) (o k e : E) (ρ : Env) (S : Store) : evS x (.sti o k e) ρ S = (evE x e ρ S).toS ρ fun v S1 => (evE x o ρ S1).toS ρ fun p S2 => (evE x k ρ S2).toS ρ fun q S3 => match cellN p S3 with
    | some (n, w) => (match muV (.seti k e) w [v, q] with
      | some z => .nx ρ (S3.set n (.cell z))
      | none => .stuck)
    | none => .stuck := by
  simp only [evS] <;> rfl
theorem cellN_is {v : Val} {S : Store} {n : Nat} {w : Val} (h : cellN v S = some (n, w)) : v = .ref n ∧ S[n]? = some (.cell w) ∧ isDct w = true := by
  unfold cellN at h
  split at h
  · split at h
    · rename_i e
      split at h
      · rename_i hd
        cases h
        exact ⟨rfl, e, hd⟩
      · cases h
    · cases h
  · cases h
/-- a dict of the store, where it stands -/
theorem cellD {k : Kx} {g : Gh} {H : Hp} {S : Store} {n : Nat} {w : Val} {a : Addr} (s : SRel k g H S) (e : S[n]? = some (.cell w)) (hd : isDct w = true) (ha : g.ι n = some a) :
    (∃ kvs us, w = .dK kvs ∧ H a = some (.dK us) ∧ VKs k (fzP g H) g.ι kvs us) ∨ ∃ kvs us, w = .dT kvs ∧ H a = some (.dT us) ∧ VTs k (fzP g H) g.ι kvs us := by
  obtain ⟨b, hb, tb, _, h⟩ := s.obj n _ e
  rw [ha] at hb
  cases hb
  cases w <;> try (cases hd; done)
  · obtain ⟨c, us, e1, ⟨rfl, hc⟩, hs⟩ := h
    exact .inl ⟨_, us, rfl, hc, hs⟩
  · obtain ⟨c, us, e1, ⟨rfl, hc⟩, hs⟩ := h
    exact .inr ⟨_, us, rfl, hc, hs⟩
theorem key_at {k : Kx} {g : Gh} {H : Hp} {ks : List Val} {q : List Key} {u : V} (h : MRep k g H .V (.tup ks) u) (e : keyT ks = some q) : ∃ b, u = .ref b ∧ H b = some (.tup (q.map kV)) := by
  obtain ⟨b, ws, rfl, hb, tb, ht⟩ := h.R.tup_of
  rw [keys_of ht e] at hb
  exact ⟨b, rfl, hb⟩
theorem s_sti {o i value : Expr} {io ik ie : E} {pos' : Pos} (hu : X.A.units + 65 < cLine) (hv : PE X value (J.tE .V ie)) (ho : PE X o (J.tE .V io)) (hk : PE X i (J.tE .V ik)) (hs : swapsWith value (some (.Subscript o i pos')) pos.line X.env = pure false) :
    PS X (.Assign [.Subscript o i pos'] value pos) (J.tS (.sti io ik ie)) := by
  refine PS.imp (ps_dput (by omega) ho hk hv hs) fun D σ H h => ?_
  obtain ⟨g, ρ, S, r, p⟩ := h
  rw [evS_sti] at p
  refine toS_bindI r p fun v S1 u1 g1 H1 e1 r1 st1 mr1 p1 => ?_
  refine toS_bindI r1 p1 fun pv S2 u2 g2 H2 e2 r2 st2 mr2 p2 => ?_
  refine toS_bindI r2 p2 fun q S3 u3 g3 H3 e3 r3 st3 mr3 p3 => ?_
  have mr1' := st3.mV (st2.mV mr1)
  have mr2' := st3.mV mr2
  cases ec : cellN pv S3 with
  | none => rw [ec] at p3; exact p3.elim
  | some nw =>
    obtain ⟨n, w⟩ := nw
    rw [ec] at p3
    simp only at p3
    obtain ⟨rfl, en, hd⟩ := cellN_is ec
    have hr : VRep J.k (fzP g3 H3) g3.ι (.ref n) u2 := mr2'
    simp only [VRep] at hr
    obtain ⟨a, ha, rfl⟩ := hr
    rcases cellD r3.str en hd ha with ⟨kvs, us, rfl, h3, hvs⟩ | ⟨kvs, us, rfl, h3, hvs⟩
    · simp only [muV] at p3
      cases eq : keyK q with
      | none => rw [eq] at p3; exact p3.elim
      | some kq =>
        rw [eq] at p3
        simp only at p3
        split at p3
        · rename_i z em
          split at em
          · rename_i hz
            cases em
            have hu3 : u3 = kV kq := key_of mr3 eq
            subst hu3
            have hvs' := hvs.put (q := kq) mr1'
            obtain ⟨r4, st4⟩ := cell_set (o := .dK (putK us kq u1)) (v := .dK (dput kq v kvs)) r3 en ha (fun _ z => nomatch z) trivial fun H' fz hH => ⟨a, _, rfl, ⟨rfl, hH⟩, VKs.mono fz (fun _ _ h => h) _ _ hvs'⟩
            refine ⟨a, _, rfl, DPut.k h3 ?_, p3 σ g3 _ r4 st4⟩
            rw [hvs.len]
            have := szb_lt hz
            omega
          · cases em
        · exact p3.elim
    · cases q with
      | tup ks =>
        simp only [muV] at p3
        cases eq : keyT ks with
        | none => rw [eq] at p3; exact p3.elim
        | some kq =>
          rw [eq] at p3
          simp only at p3
          split at p3
          · rename_i z em
            split at em
            · rename_i hz
              cases em
              obtain ⟨b, rfl, hb⟩ := key_at mr3 eq
              have hvs' := hvs.put (q := kq) mr1'
              obtain ⟨r4, st4⟩ := cell_set (o := .dT (putK us kq u1)) (v := .dT (dput kq v kvs)) r3 en ha (fun _ z => nomatch z) trivial fun H' fz hH => ⟨a, _, rfl, ⟨rfl, hH⟩, VTs.mono fz (fun _ _ h => h) _ _ hvs'⟩
              refine ⟨a, _, rfl, DPut.t h3 hb ?_, p3 σ g3 _ r4 st4⟩
              rw [hvs.len]
              have := szb_lt hz
              omega
            · cases em
          · exact p3.elim
      | _ => simp only [muV] at p3; exact p3.elim
end

/-! ### d.pop(k) -/
section
variable {X : Cx} {J : Jr} {m : Md} {pos : Pos}
theorem mt_popD (hu : X.A.units + 1 < cLine) : MtR X "dict.pop" (fun x xs H Q => rPop1T x xs H Q ∨ L2.DX.rPopT x xs H Q) := by
  intro pins s σ H x xs v us Q I rx rxs h
  exact h.elim (mt_pop1T hu pins s σ H x xs v us Q I rx rxs) (L2.DX.mt_popT hu pins s σ H x xs v us Q I rx rxs)
theorem VTs.there {k : Kx} {F : Hp} {ι : Nat → Option Addr} {q : List Key} {x : Val} {xs : List (List Key × Val)} {us : List (List Key × V)} (h : VTs k F ι xs us) (e : dget q xs = some x) : ∃ u, valV us q = some u := by
  have := T_get (q := q) h
  rw [e] at this
  obtain ⟨u, e2, _⟩ := this
  exact ⟨u, e2⟩
/-- a method of a dict at a cell -/
theorem muD_imp {ie : E} {mu : Mu} {ms : List Md} {rr : V → List V → Hp → VK → Prop} (hl : ∀ v, muTy mu v = true → ∃ kvs, v = .dT kvs)
    (hr : ∀ g H σ ρ S vs us a kvs ws z Q, vs.length = (muArgs mu).length → Rel J.k J.md g σ H ρ S → MReps J.k g H ms vs us → H a = some (.dT ws) → VTs J.k (fzP g H) g.ι kvs ws → muV mu (.dT kvs) (muDe mu S vs) = some z →
      (∀ (zs : List (List Key × Val)) (xz : List (List Key × V)), z = .dT zs → VTs J.k (fzP g H) g.ι zs xz → ∀ u, Q u (upd H a (.dT xz))) → (∀ u, z = .dT kvs → Q u H) → rr (.ref a) us H Q)
    (hd : ∀ w vs z, muV mu w vs = some z → (∃ zs, z = .dT zs) ∧ ∃ zs, w = .dT zs)
    (D : Ends) (σ : L2.St) (H : Hp) (h : J.tS (.mu (.refp ie) mu) D σ H) : tDrop (tBM X.K "dict" rr (J.tE .V ie) (J.tA ms (muArgs mu))) D σ H := by
  obtain ⟨g, ρ, S, r, p⟩ := h
  rw [evS_mu_refp] at p
  refine toS_bindI r p fun v S1 u g1 H1 ev r1 st1 mr1 p1 => ?_
  cases v with
  | ref n =>
    simp only at p1
    cases e1 : S1[n]? with
    | none => rw [e1] at p1; exact p1.elim
    | some o =>
      rw [e1] at p1
      cases o with
      | cell w =>
        simp only at p1
        split at p1
        case isFalse => exact p1.elim
        rename_i hty
        obtain ⟨xs0, rfl⟩ := hl w hty
        have hv : VRep J.k (fzP g1 H1) g1.ι (.ref n) u := mr1
        simp only [VRep] at hv
        obtain ⟨a, ha, rfl⟩ := hv
        have had : ∃ us, H1 a = some (.dT us) := by
          rcases cellD r1.str e1 rfl ha with ⟨_, us, e3, _⟩ | ⟨_, us, _, h3, _⟩
          · cases e3
          · exact ⟨us, h3⟩
        refine ⟨.inr (.inr (.inl ⟨rfl, .inr had⟩)), ?_⟩
        refine tA_bindI r1 (fun c S' ev2 => ?_) (fun ev2 => ?_) fun vs S' us g' H' ev2 r' st mr => ?_
        · rw [ev2] at p1
          exact fun g2 H2 r2 s => p1 σ g2 H2 r2 s.toS
        · rw [ev2] at p1
          exact p1
        · rw [ev2] at p1
          simp only [_root_.Pv.R.toS] at p1
          have p' := postS_after p1 st.toS
          cases e2 : S'[n]? with
          | none => rw [e2] at p'; exact p'.elim
          | some o2 =>
            rw [e2] at p'
            cases o2 with
            | cell w2 =>
              simp only at p'
              cases em : muV mu w2 (muDe mu S' vs) with
              | none => rw [em] at p'; exact p'.elim
              | some z =>
                rw [em] at p'
                obtain ⟨⟨z0, hz0⟩, w0, rfl⟩ := hd _ _ _ em
                have ha' := st.ι n a ha
                rcases cellD r'.str e2 rfl ha' with ⟨_, ws, e3, _⟩ | ⟨kvs, ws, e3, hw, hs⟩
                · cases e3
                cases e3
                refine hr g' H' σ ρ S' vs us a w0 ws z _ (evs_len ev2) r' mr hw hs em (fun zs xz ez hz u => ?_) fun u ez => ?_
                · subst ez
                  obtain ⟨r3, st3⟩ := cell_set (o := .dT xz) (v := .dT zs) r' e2 ha' (fun _ z => nomatch z) trivial fun H2 fz hH2 => ⟨a, xz, rfl, ⟨rfl, hH2⟩, VTs.mono fz (fun _ _ h => h) _ _ hz⟩
                  exact p' σ g' _ r3 st3
                · subst ez
                  have es : S'.set n (.cell (.dT w0)) = S' := by
                    apply List.ext_getElem?
                    intro i
                    by_cases hi : i = n
                    · subst hi
                      rw [List.getElem?_set_self (List.getElem?_eq_some_iff.mp e2).1, e2]
                    · rw [List.getElem?_set_ne (fun z => hi z.symm)]
                  simp only at p'
                  rw [es] at p'
                  exact p' σ g' H' r' StepS.refl
            | inst c fs => exact p'.elim
            | lk w => exact p'.elim
      | inst c fs => exact p1.elim
      | lk w => exact p1.elim
  | _ => exact p1.elim
theorem s_dpop {o e : Expr} {io ie : E} {ap cp : Pos} (hu : X.A.units + 65 < cLine) (ho : PE X o (J.tE .V io)) (ha : PA X [e] (J.tA [] [ie])) (hb : recvB o = true) (hline : (ap.endLine == cp.line) = true) (hst : starEach [e] X.env = (false, eval e X.env) :: starEach [] X.env)
    (hs : swapsWith (.Call (.Attribute o "pop" ap) [e] [] cp) none pos.line X.env = pure false) :
    PS X (.Expr (.Call (.Attribute o "pop" ap) [e] [] cp) pos) (J.tS (.mu (.refp io) (.dpop ie))) := by
  refine PS.imp (ps_expr (pe_bm PySem.F.plainAttrs_dict PySem.F.slot_dict_pop PySem.F.type_dict_pop (mt_popD (by omega)) ho ha (hbase := recv_base hb) (hline := hline) (hs := hst) (hfew := by rw [hst]; rfl)) hs) ?_
  refine muD_imp (fun v h => ?_) (fun g H σ ρ S vs us a kvs ws z Q hlen r mr ha hs em q q2 => ?_) (fun w vs z h => ?_)
  · cases v <;> first | exact ⟨_, rfl⟩ | (simp only [muTy] at h; cases h)
  · cases vs with
    | nil => cases hlen
    | cons v vs =>
      cases vs with
      | cons _ _ => cases hlen
      | nil =>
        obtain ⟨u, rfl, h1⟩ := mr.one
        simp only [muDe] at em
        cases v <;> try (simp only [muV] at em; cases em; done)
        rename_i ks
        simp only [muV] at em
        cases ek : keyT ks with
        | none => rw [ek] at em; cases em
        | some kq =>
          rw [ek] at em
          simp only at em
          cases ed : dget kq kvs with
          | none => rw [ed] at em; cases em
          | some x =>
            rw [ed] at em
            cases em
            obtain ⟨b, rfl, hb2⟩ := key_at h1 ek
            obtain ⟨u0, hu0⟩ := hs.there ed
            exact .inl ⟨a, ws, kq, b, u0, rfl, rfl, ha, hb2, hu0, q _ _ rfl hs.del _⟩
  · cases w <;> first
      | (cases vs with
         | nil => simp only [muV] at h; cases h
         | cons v vs =>
           cases vs <;> cases v <;> simp only [muV] at h <;> try (cases h; done)
           all_goals
             (split at h
              · split at h
                · cases h; exact ⟨⟨_, rfl⟩, _, rfl⟩
                · cases h
              · cases h))
      | (cases vs with
         | nil => simp only [muV] at h; cases h
         | cons v vs => cases vs <;> cases v <;> simp only [muV] at h <;> cases h)
theorem s_dpopN {o e : Expr} {io ie : E} {ap cp p0 : Pos} {k0 : Nat} (hu : X.A.units + 65 < cLine) (ho : PE X o (J.tE .V io)) (ha : PA X [e, .Constant .none k0 p0] (J.tA [] [ie, .k .non])) (hb : recvB o = true) (hline : (ap.endLine == cp.line) = true) (hst : starEach [e, .Constant .none k0 p0] X.env = (false, eval e X.env) :: starEach [.Constant .none k0 p0] X.env)
    (hs : swapsWith (.Call (.Attribute o "pop" ap) [e, .Constant .none k0 p0] [] cp) none pos.line X.env = pure false) :
    PS X (.Expr (.Call (.Attribute o "pop" ap) [e, .Constant .none k0 p0] [] cp) pos) (J.tS (.mu (.refp io) (.dpopN ie))) := by
  have hst2 : starEach [Expr.Constant .none k0 p0] X.env = [(false, eval (.Constant .none k0 p0) X.env)] := rfl
  refine PS.imp (ps_expr (pe_bm PySem.F.plainAttrs_dict PySem.F.slot_dict_pop PySem.F.type_dict_pop (mt_popD (by omega)) ho ha (hbase := recv_base hb) (hline := hline) (hs := hst) (hfew := by rw [hst]; rfl)) hs) ?_
  refine muD_imp (mu := .dpopN ie) (ms := []) (fun v h => ?_) (fun g H σ ρ S vs us a kvs ws z Q hlen r mr ha hs em q q2 => ?_) (fun w vs z h => ?_)
  · cases v <;> first | exact ⟨_, rfl⟩ | (simp only [muTy] at h; cases h)
  · cases vs with
    | nil => cases hlen
    | cons v vs =>
      cases vs with
      | nil => cases hlen
      | cons v2 vs =>
        cases vs with
        | cons _ _ => cases hlen
        | nil =>
          obtain ⟨u, u2, rfl, h1, h2⟩ := mr.two
          simp only [muDe] at em
          cases v <;> try (cases v2 <;> simp only [muV] at em <;> cases em; done)
          rename_i ks
          cases v2 <;> try (simp only [muV] at em; cases em; done)
          simp only [muV] at em
          cases ek : keyT ks with
          | none => rw [ek] at em; cases em
          | some kq =>
            rw [ek] at em
            cases em
            obtain ⟨b, rfl, hb2⟩ := key_at h1 ek
            refine .inr ⟨a, ws, kq, b, u2, rfl, rfl, ha, hb2, fun v _ => q _ _ rfl hs.del _, fun hn => q2 _ ?_⟩
            have := T_get (q := kq) hs
            cases ed : dget kq kvs with
            | some x =>
              rw [ed] at this
              obtain ⟨u, e5, _⟩ := this
              rw [hn] at e5
              cases e5
            | none =>
              congr 1
              have hk : ∀ l : List (List Key × Val), dget kq l = none → ddel kq l = l := by
                intro l
                induction l with
                | nil => intro _; rfl
                | cons p l ih =>
                  obtain ⟨c, x⟩ := p
                  intro h
                  simp only [dget] at h
                  split at h
                  · cases h
                  · rename_i hc
                    unfold ddel at ih ⊢
                    rw [List.filter_cons_of_pos (by simp [hc]), ih h]
              exact hk _ ed
  · cases w <;> first
      | (cases vs with
         | nil => simp only [muV] at h; cases h
         | cons v vs =>
           cases vs with
           | nil => cases v <;> simp only [muV] at h <;> cases h
           | cons v2 vs =>
             cases vs <;> cases v2 <;> cases v <;> simp only [muV] at h <;> try (cases h; done)
             all_goals
               (split at h
                · cases h; exact ⟨⟨_, rfl⟩, _, rfl⟩
                · cases h))
      | (cases vs with
         | nil => simp only [muV] at h; cases h
         | cons v vs =>
           cases vs with
           | nil => cases v <;> simp only [muV] at h <;> cases h
           | cons v2 vs => cases vs <;> cases v2 <;> cases v <;> simp only [muV] at h <;> cases h)
end
end Pv
end

section
set_option Elab.async false
set_option linter.all false
set_option maxRecDepth 100000
set_option autoImplicit false
/-! Pv18h: d.get(k); locks. -/
namespace Pv
open PySem PySem.Spec PyProof.Rows L2

/-! ### keys that never raise -/
/-- expressions that never raise -/
def isVar : E → Bool
  | .v _ => true
  | .fld a _ => isVar a
  | .ix a b => isVar a && isVar b
  | .k _ => true
  | .op2 _ a b => isVar a && isVar b
  | _ => false
/-- a receiver: what never raises, or a new object that has the method -/
def rcvM (G : Prog) (mm : Nat) (es : List E) (o : E) : Bool := isVar o || (es.isEmpty && (match o with
  | .mk c _ => clsV G c && (fnOf G c mm).isSome
  | _ => false))
theorem rcv_cases {G : Prog} {mm : Nat} {es : List E} {o : E} (h : rcvM G mm es o = true) : isVar o = true ∨ (es = [] ∧ ∃ c f, clsV G c = true ∧ fnOf G c mm = some f) := by
  unfold rcvM at h
  rw [Bool.or_eq_true, Bool.and_eq_true] at h
  rcases h with h | ⟨h1, h2⟩
  · exact .inl h
  · refine .inr ⟨List.isEmpty_iff.mp h1, ?_⟩
    split at h2
    · rename_i c _
      rw [Bool.and_eq_true] at h2
      obtain ⟨f, hf⟩ := Option.isSome_iff_exists.mp h2.2
      exact ⟨c, f, h2.1, hf⟩
    · cases h2
theorem isVar_ok {x : Cfg} : ∀ {o : E}, isVar o = true → ∀ ρ S, (∃ v, evE x o ρ S = .ok v S) ∨ evE x o ρ S = .stuck
  | .v i, _, ρ, S => by
    simp only [evE]
    split
    · exact .inl ⟨_, rfl⟩
    · exact .inr rfl
  | .k c0, _, ρ, S => by
    simp only [evE]
    exact .inl ⟨_, rfl⟩
  | .fld a f, h, ρ, S => by
    simp only [evE]
    rcases isVar_ok (x := x) (o := a) h ρ S with ⟨v, e⟩ | e
    · rw [e]
      simp only [_root_.Pv.R.bind]
      cases fieldsO v with
      | none => exact .inr rfl
      | some q =>
        simp only []
        split
        · cases fget f q.2 with
          | none => exact .inr rfl
          | some w => exact .inl ⟨w, rfl⟩
        · exact .inr rfl
    · rw [e]
      exact .inr rfl
  | .ix a b, h, ρ, S => by
    obtain ⟨h1, h2⟩ := Bool.and_eq_true_iff.mp (show (isVar a && isVar b) = true from h)
    simp only [evE]
    rcases isVar_ok (x := x) h1 ρ S with ⟨v, e⟩ | e
    · rw [e]
      simp only [_root_.Pv.R.bind]
      rcases isVar_ok (x := x) h2 ρ S with ⟨w, e2⟩ | e2
      · rw [e2]
        simp only []
        cases ixV (look S v) w with
        | none => exact .inr rfl
        | some z => exact .inl ⟨z, rfl⟩
      · rw [e2]
        exact .inr rfl
    · rw [e]
      exact .inr rfl
  | .op2 q a b, h, ρ, S => by
    obtain ⟨h1, h2⟩ := Bool.and_eq_true_iff.mp (show (isVar a && isVar b) = true from h)
    simp only [evE]
    rcases isVar_ok (x := x) h1 ρ S with ⟨v, e⟩ | e
    · rw [e]
      simp only [_root_.Pv.R.bind]
      rcases isVar_ok (x := x) h2 ρ S with ⟨w, e2⟩ | e2
      · rw [e2]
        simp only []
        cases op2 q (deref S v) (deref S w) with
        | none => exact .inr rfl
        | some z => exact .inl ⟨z, rfl⟩
      · rw [e2]
        exact .inr rfl
    · rw [e]
      exact .inr rfl
theorem isVar_pure : ∀ {o : E}, isVar o = true → pureE o = true
  | .v i, _ => by simp only [pureE]
  | .k c0, _ => by simp only [pureE]
  | .fld a f, h => by
    simp only [pureE]
    exact isVar_pure (o := a) h
  | .ix a b, h => by
    obtain ⟨h1, h2⟩ := Bool.and_eq_true_iff.mp (show (isVar a && isVar b) = true from h)
    simp only [pureE, isVar_pure h1, isVar_pure h2, Bool.and_self]
  | .op2 q a b, h => by
    obtain ⟨h1, h2⟩ := Bool.and_eq_true_iff.mp (show (isVar a && isVar b) = true from h)
    simp only [pureE, isVar_pure h1, isVar_pure h2, Bool.and_self]
theorem isVars_ok {x : Cfg} : ∀ {es : List E}, es.all isVar = true → ∀ ρ S, (∃ vs, evs x es ρ S = .ok vs S) ∨ evs x es ρ S = .stuck
  | [], _, ρ, S => by
    simp only [evs]
    exact .inl ⟨_, rfl⟩
  | e :: es, h, ρ, S => by
    simp only [List.all_cons, Bool.and_eq_true] at h
    simp only [evs]
    rcases isVar_ok (x := x) h.1 ρ S with ⟨v, e1⟩ | e1
    · rw [e1]
      simp only [_root_.Pv.R.bind]
      rcases isVars_ok (x := x) h.2 ρ S with ⟨vs, e2⟩ | e2
      · rw [e2]
        exact .inl ⟨_, rfl⟩
      · rw [e2]
        exact .inr rfl
    · rw [e1]
      exact .inr rfl
theorem isVars_pure : ∀ {es : List E}, es.all isVar = true → pureEs es = true
  | [], _ => by simp only [pureEs]
  | e :: es, h => by
    simp only [List.all_cons, Bool.and_eq_true] at h
    simp only [pureEs, isVar_pure h.1, isVars_pure h.2, Bool.and_self]
/-- a key that is written out -/
def keyB : E → Bool
  | .tup es => es.all isVar
  | e => isVar e
theorem keyB_ok {x : Cfg} {e : E} (h : keyB e = true) (ρ : Env) (S : Store) : (∃ v, evE x e ρ S = .ok v S) ∨ evE x e ρ S = .stuck := by
  cases e with
  | tup es =>
    simp only [evE]
    rcases isVars_ok (x := x) (show es.all isVar = true from h) ρ S with ⟨vs, e1⟩ | e1
    · rw [e1]
      simp only [_root_.Pv.R.bind]
      split
      · exact .inl ⟨_, rfl⟩
      · exact .inr rfl
    · rw [e1]
      exact .inr rfl
  | _ => exact isVar_ok h ρ S
theorem keyB_pure {e : E} (h : keyB e = true) : pureE e = true := by
  cases e with
  | tup es =>
    simp only [pureE]
    exact isVars_pure (show es.all isVar = true from h)
  | _ => exact isVar_pure h

/-! ### d.get(k) -/
section
variable {X : Cx} {J : Jx} {m : Md} {pos : Pos}
theorem get_dlook {d key : Val} {v : Val} (e : bmV .get d [key] = some v) : isDct d = true ∧ ∃ o, dlook d key = some o ∧ v = o.getD .non := by
  cases d <;> try (simp only [bmV] at e; cases e; done)
  · simp only [bmV] at e
    refine ⟨rfl, ?_⟩
    simp only [dlook]
    cases ek : keyK key with
    | none => rw [ek] at e; cases e
    | some q => rw [ek] at e; cases e; exact ⟨_, rfl, rfl⟩
  · refine ⟨rfl, ?_⟩
    cases key <;> simp only [bmV] at e <;> try (cases e; done)
    rename_i kvs ks
    simp only [dlook]
    cases ek : keyT ks with
    | none => rw [ek] at e; cases e
    | some q => rw [ek] at e; cases e; exact ⟨_, rfl, rfl⟩
theorem evE_bm1 (x : Cfg) (b : Bm) (o e : E) (ρ : Env) (S : Store) : evE x (.bm b o [e]) ρ S = (evE x o ρ S).bind fun v S1 => (evE x e ρ S1).bind fun w S2 => R.of (bmV b (look S2 v) [w]) S2 := by
  simp only [evE, evs]
  cases evE x o ρ S with
  | ok v S1 =>
    simp only [_root_.Pv.R.bind]
    cases evE x e ρ S1 with
    | ok w S2 => rfl
    | exn c S2 => rfl
    | stuck => rfl
  | exn c S1 => rfl
  | stuck => rfl
theorem get_imp {io ik : E} (hk : keyB ik = true) (hm : m.kp = true) (σ : L2.St) (H : Hp) (Q : VK) (h : J.tE m (.bm .get io [ik]) σ H Q) : tDGet1 (J.tE .V io) (J.tE .B ik) σ H Q := by
  obtain ⟨g, ρ, S, r, p⟩ := h
  have hq : pureE (.bm .get io [ik]) = (pureE io && (pureE ik && true)) := by simp only [pureE, pureEs]
  rw [evE_bm1, hq] at p
  refine tE_bindS r p fun v S1 u1 g1 H1 e1 r1 st1 mr1 p1 => ?_
  rcases keyB_ok (x := J.x) hk ρ S1 with ⟨w, ew⟩ | ew
  · rw [ew] at p1
    simp only [_root_.Pv.R.bind] at p1
    cases eb : bmV .get (look S1 v) [w] with
    | none => rw [eb] at p1; exact p1.elim
    | some z =>
      rw [eb] at p1
      simp only [_root_.Pv.R.of] at p1
      obtain ⟨hd, o, el, ez⟩ := get_dlook eb
      have lk : ∀ {g2 H2}, Rel J.k J.md g2 σ H2 ρ S1 → MRep J.k g2 H2 .V v u1 → ∃ a, u1 = .ref a ∧ IsD H2 a := fun {g2 H2} r2 m2 => by
        have h2 := look_R r2.str m2.R
        cases hv : look S1 v with
        | dK kvs =>
          rw [hv] at h2
          obtain ⟨a, us, e, ha, _⟩ := h2.dK_of
          exact ⟨a, e, .inl ⟨us, ha⟩⟩
        | dT kvs =>
          rw [hv] at h2
          obtain ⟨a, us, e, ha, _⟩ := h2.dT_of
          exact ⟨a, e, .inr ⟨us, ha⟩⟩
        | _ => rw [hv] at hd; cases hd
      obtain ⟨a, ea, hD⟩ := lk r1 mr1
      refine ⟨a, ea, hD, ?_⟩
      refine ⟨g1, ρ, S1, r1, ?_⟩
      rw [ew]
      intro u2 g2 H2 r2 st2 mr2
      obtain ⟨a', rr, e4, dg, ho⟩ := dlook_r (look_R r2.str (st2.mV mr1).R) mr2.R el
      rw [ea] at e4
      cases e4
      refine ⟨rr, dg, ?_⟩
      have p2 := post_after (q1 := pureE ik) (q2 := true) p1 st2
      cases o with
      | none =>
        have ho' : rr = none := ho
        subst ho'
        cases ez
        exact fin_V r2 (fun m => MRep.non) p2
      | some x =>
        obtain ⟨u, e5, hv⟩ := (show ∃ u, rr = some u ∧ _ from ho)
        subst e5
        cases ez
        exact fin_kept r2 hm hv p2
  · rw [ew] at p1
    exact p1.elim
theorem s_get {o e : Expr} {io ik : E} {ap cp : Pos} (hu : X.A.units + 65 < cLine) (hk : keyB ik = true) (hm : m.kp = true) (ho : PE X o (J.tE .V io)) (he : PE X e (J.tE .B ik)) (hb : recvB o = true) (hline : (ap.endLine == cp.line) = true) (hst : starEach [e] X.env = (false, eval e X.env) :: starEach [] X.env) :
    PE X (.Call (.Attribute o "get" ap) [e] [] cp) (J.tE m (.bm .get io [ik])) :=
  PE.imp (pe_dget1 (by omega) ho he ⟨recv_base hb, by rw [hst]; rfl, hline, by rw [hst]; rfl⟩) (get_imp hk hm)
end

/-! ### locks -/
section
variable {k : Kx} {md : Sl} {g g' : Gh} {H H' : Hp} {σ : L2.St} {ρ : Env} {S : Store} {n : Nat} {a : Addr} {o : HO}
theorem fz_upd (t : g.T a = .st n) : ∀ b w, fzP g H b = some w → fzP g (upd H a o) b = some w := fun b w h => by
  obtain ⟨t2, e⟩ := fzP_some h
  exact fzP_of t2 ((upd_ne (fun z => by rw [z, t] at t2; cases t2)).trans e)
theorem fs_upd (t : g.T a = .st n) {c m : Nat} : ∀ {fs : List (Nat × Val)} {us : List (Str × V)}, FReps k g H c m fs us → FReps k g (upd H a o) c m fs us
  | [], _, h => h
  | (f, x) :: fs, us, ⟨u, r', e, h1, h2⟩ => by
    refine ⟨u, r', e, ?_, fs_upd t h2⟩
    split
    · rename_i ho
      rw [if_pos ho] at h1
      exact TRep.mono (fz_upd t) (fun _ _ h => h) (fun b w q => ⟨q.1, (upd_ne (fun z => by have := q.1; rw [z, t] at this; cases this)).trans q.2⟩) _ _ h1
    · rename_i ho
      rw [if_neg ho] at h1
      exact VRep.mono (fz_upd t) (fun _ _ h => h) _ _ h1
theorem obj_upd (t : g.T a = .st n) {m : Nat} {x : Addr} {o' : SO} (hx : x ≠ a) (q : ORep k g H m x o') : ORep k g (upd H a o) m x o' := by
  have e : upd H a o x = H x := upd_ne hx
  cases o' with
  | inst c fs' =>
    obtain ⟨dx, us, h1, h2⟩ := q
    exact ⟨dx, us, e.trans h1, fs_upd t h2⟩
  | cell w =>
    obtain ⟨hc', q⟩ := q
    refine ⟨hc', TRep.mono (fz_upd t) (fun _ _ h => h) (fun b ob z => ?_) _ _ q⟩
    obtain ⟨rfl, z⟩ := z
    exact ⟨rfl, e.trans z⟩
  | lk w =>
    obtain ⟨hc', q⟩ := q
    refine ⟨hc', TRep.mono (fz_upd t) (fun _ _ h => h) (fun b ob z => ?_) _ _ q⟩
    obtain ⟨rfl, oo, z⟩ := z
    exact ⟨rfl, oo, e.trans z⟩
/-- an object of the store becomes another -/
theorem str_set {o0 o2 : SO} (r : SRel k g H S) (e : S[n]? = some o0) (ha : g.ι n = some a) (hnt : ∀ xs, o ≠ .tup xs) (ht : ORep k g (upd H a o) n a o2) : SRel k g (upd H a o) (S.set n o2) := by
  obtain ⟨b, hb, tb, _⟩ := r.obj n _ e
  rw [ha] at hb
  cases hb
  refine ⟨fun m o' e2 => ?_, fun m h => r.no m (by rw [List.length_set] at h; exact h), r.uniq, fun b h => ?_, fun b xs h => ?_⟩
  · by_cases hm : m = n
    · subst hm
      rw [List.getElem?_set_self (List.getElem?_eq_some_iff.mp e).1] at e2
      cases e2
      exact ⟨a, ha, tb, ht⟩
    · rw [List.getElem?_set_ne (fun z => hm z.symm)] at e2
      obtain ⟨x, i, t, q⟩ := r.obj m _ e2
      exact ⟨x, i, t, obj_upd tb (fun z => by rw [z, tb] at t; cases t; exact hm rfl) q⟩
  · by_cases z : b = a
    · rw [z, upd_same]; intro w; cases w
    · rw [upd_ne z]; exact r.wf b h
  · by_cases z : b = a
    · rw [z, upd_same] at h
      exact absurd (Option.some.inj h) (hnt xs)
    · rw [upd_ne z] at h
      exact r.tup b xs h
theorem rel_so {o0 o2 : SO} (r : Rel k md g σ H ρ S) (e : S[n]? = some o0) (ha : g.ι n = some a) (hnt : ∀ xs, o ≠ .tup xs) (ht : ORep k g (upd H a o) n a o2) : Rel k md g σ (upd H a o) ρ (S.set n o2) := by
  obtain ⟨b, hb, tb, _⟩ := r.str.obj n _ e
  rw [ha] at hb
  cases hb
  refine ⟨r.len, r.lenσ, fun i w e => ?_, r.hx, str_set r.str e ha hnt ht⟩
  obtain ⟨u, e2, h⟩ := r.slot i w e
  refine ⟨u, e2, ?_⟩
  cases hm : md.l.getD i .shr with
  | shr => rw [hm] at h; exact VRep.mono (fz_upd tb) (fun _ _ h => h) _ _ h
  | brw =>
    rw [hm] at h
    refine TRep.mono (fz_upd tb) (fun _ _ h => h) (fun b w q => ⟨q.1, (upd_ne fun z => ?_).trans q.2⟩) _ _ h
    have := q.1
    rw [z, tb] at this
    cases this
  | own =>
    rw [hm] at h
    exact TRep.mono (fz_upd tb) (fun _ _ h => h) (fun b w q => ⟨q.1, (upd_ne (fun z => by have := q.1; rw [z, tb] at this; cases this)).trans q.2⟩) _ _ h
  | ini =>
    rw [hm] at h
    obtain ⟨c, fs', x, dx, us, e1, e2', e3, e4, e5⟩ := h
    exact ⟨c, fs', x, dx, us, e1, e2', e3, (upd_ne (fun z => by rw [z, tb] at e3; cases e3)).trans e4, VFs.mono (fz_upd tb) (fun _ _ h => h) _ _ e5⟩
def Md.noN : Md → Bool
  | .N _ => false
  | _ => true
theorem mrep_upd {m : Md} {v : Val} {u : V} (hm : m.noN = true) (t : g.T a = .st n) (h : MRep k g H m v u) : MRep k g (upd H a o) m v u := by
  cases m with
  | V => exact VRep.mono (fz_upd t) (fun _ _ h => h) _ _ h
  | L => exact TRep.mono (fz_upd t) (fun _ _ h => h) (fun b w q => ⟨q.1, (upd_ne (fun z => by have := q.1; rw [z, t] at this; cases this)).trans q.2⟩) _ _ h
  | B => exact TRep.mono (fz_upd t) (fun _ _ h => h) (fun b w q => ⟨q.1, (upd_ne (fun z => by have := q.1; rw [z, t] at this; cases this)).trans q.2⟩) _ _ h
  | P => exact TRep.mono (fz_upd t) (fun _ _ h => h) (fun b w q => ⟨q.1, (upd_ne (fun z => by have := q.1; rw [z, t] at this; cases this)).trans q.2⟩) _ _ h
  | O => exact TRep.mono (fz_upd t) (fun _ _ h => h) (fun b w q => ⟨q.1, (upd_ne (fun z => by have := q.1; rw [z, t] at this; cases this)).trans q.2⟩) _ _ h
  | N _ => cases hm
theorem mut_no {u : HO} (mu : Mut (some u)) : ∀ ob w, u ≠ .frz ob w := fun ob w z => by subst z; exact mu
/-- what is done while a is locked -/
theorem lock_stepS {u : HO} {ob : Obj} (mu : Mut (some u)) (t : g.T a = .st n) (hu : H a = some u) (st : StepS g (upd H a (.frz ob u)) g' H') : StepS g H g' (upd H' a u) ∧ H' a = some (.frz ob u) := by
  have ea : H' a = some (.frz ob u) := (st.lk a n ob u t upd_same).trans upd_same
  have ne : ∀ b, g.T b ≠ .st n → b ≠ a := fun b h z => h (by rw [z]; exact t)
  refine ⟨⟨fun b h => ?_, st.st, st.fo, st.ι, fun b m o w tb hb => ?_⟩, ea⟩
  · have hb := ne b (by rcases h with h | h <;> rw [h] <;> intro z <;> cases z)
    obtain ⟨e1, e2⟩ := st.keep b h
    exact ⟨e1, (upd_ne hb).trans (e2.trans (upd_ne hb))⟩
  · have hba : b ≠ a := fun z => by rw [z, hu] at hb; exact mut_no mu _ _ (Option.some.inj hb)
    exact (upd_ne hba).trans ((st.lk b m o w tb ((upd_ne hba).trans hb)).trans (upd_ne hba))
theorem lock_step {q : Bool} {u : HO} {ob : Obj} (mu : Mut (some u)) (t : g.T a = .st n) (hu : H a = some u) (st : Step q g (upd H a (.frz ob u)) g' H') : Step q g H g' (upd H' a u) ∧ H' a = some (.frz ob u) := by
  have ea : H' a = some (.frz ob u) := (st.lk a n ob u t upd_same).trans upd_same
  have ne : ∀ b, g.T b ≠ .st n → b ≠ a := fun b h z => h (by rw [z]; exact t)
  refine ⟨⟨fun b h => ?_, st.st, st.fo, fun hq b h => ?_, st.ι, fun b m o w tb hb => ?_⟩, ea⟩
  · have hb := ne b (by rcases h with h | h | h | ⟨_, h⟩ <;> rw [h] <;> intro z <;> cases z)
    obtain ⟨e1, e2⟩ := st.keep b h
    exact ⟨e1, (upd_ne hb).trans (e2.trans (upd_ne hb))⟩
  · by_cases hb : b = a
    · rw [hb, upd_same, hu]
    · exact (upd_ne hb).trans ((st.pure hq b h).trans (upd_ne hb))
  · have hba : b ≠ a := fun z => by rw [z, hu] at hb; exact mut_no mu _ _ (Option.some.inj hb)
    exact (upd_ne hba).trans ((st.lk b m o w tb ((upd_ne hba).trans hb)).trans (upd_ne hba))
/-- a dict that is locked, let go -/
theorem lock_obj {w : Val} {u : HO} {ob : Obj} (s : SRel k g H S) (e : S[n]? = some (.cell w)) (hd : isDct w = true) (ha : g.ι n = some a) : ∃ u, H a = some u ∧ Mut (some u) ∧ (∀ xs, u ≠ .tup xs) ∧ ∀ ob, ORep k g (upd H a (.frz ob u)) n a (.lk w) := by
  obtain ⟨b, hb, tb, _⟩ := s.obj n _ e
  rw [ha] at hb
  cases hb
  rcases cellD s e hd ha with ⟨kvs, us, rfl, h3, hvs⟩ | ⟨kvs, us, rfl, h3, hvs⟩
  · exact ⟨_, h3, trivial, (fun _ z => nomatch z), fun ob => ⟨rfl, a, us, rfl, ⟨rfl, ob, upd_same⟩, VKs.mono (fz_upd tb) (fun _ _ h => h) _ _ hvs⟩⟩
  · exact ⟨_, h3, trivial, (fun _ z => nomatch z), fun ob => ⟨rfl, a, us, rfl, ⟨rfl, ob, upd_same⟩, VTs.mono (fz_upd tb) (fun _ _ h => h) _ _ hvs⟩⟩
theorem unlock_obj {w : Val} {u : HO} {ob : Obj} (s : SRel k g H S) (e : S[n]? = some (.lk w)) (ha : g.ι n = some a) (hf : H a = some (.frz ob u)) : ORep k g (upd H a u) n a (.cell w) := by
  obtain ⟨tb, h⟩ := lk_at s e ha
  rcases h with ⟨kvs, ob', us, rfl, h3, hvs⟩ | ⟨kvs, ob', us, rfl, h3, hvs⟩
  · rw [h3] at hf
    cases hf
    exact ⟨trivial, a, us, rfl, ⟨rfl, upd_same⟩, VKs.mono (fz_upd tb) (fun _ _ h => h) _ _ hvs⟩
  · rw [h3] at hf
    cases hf
    exact ⟨trivial, a, us, rfl, ⟨rfl, upd_same⟩, VTs.mono (fz_upd tb) (fun _ _ h => h) _ _ hvs⟩
end
theorem lockN_is {r : _root_.Pv.R Val} {n : Nat} {w : Val} {S : Store} (h : lockN r = some (n, w, S)) : r = .ok (.ref n) S ∧ S[n]? = some (.cell w) ∧ isDct w = true := by
  unfold lockN at h
  split at h
  · split at h
    · rename_i e
      split at h
      · rename_i hd
        cases h
        exact ⟨rfl, e, hd⟩
      · cases h
    · cases h
  · cases h
section
variable {X : Cx} {J : Jr} {pos : Pos}
theorem s_lock {d : E} {s : Stmt} {is : _root_.Pv.S} (hd : isVar d = true) (hrm : J.rm.noN = true) (h : PS X s (J.tS is)) : PS X s (J.tS (.lock d is)) := by
  refine PS.imp (ps_lock h) fun D σ H q => ?_
  obtain ⟨g, ρ, S, r, p⟩ := q
  have ev : evS J.x (.lock d is) ρ S = match lockN (evE J.x d ρ S) with
    | some (n, w, S0) => unlkS n (evS J.x is ρ (S0.set n (.lk w)))
    | none => .stuck := by simp only [evS] <;> rfl
  rw [ev] at p
  cases el : lockN (evE J.x d ρ S) with
  | none => rw [el] at p; exact p.elim
  | some q =>
    obtain ⟨n, w, S0⟩ := q
    rw [el] at p
    simp only at p
    obtain ⟨e0, en, hw⟩ := lockN_is el
    have hS : S0 = S := by
      rcases isVar_ok (x := J.x) hd ρ S with ⟨v, e⟩ | e
      · rw [e] at e0; cases e0; rfl
      · rw [e] at e0; cases e0
    subst hS
    obtain ⟨a, ha, ta, _⟩ := r.str.obj n _ en
    obtain ⟨u, hu, mu, hnt, ho⟩ := lock_obj (u := .own 0) (ob := default) r.str en hw ha
    refine ⟨a, u, hu, mu, fun od => ⟨g, ρ, _, rel_so r en ha (fun _ z => nomatch z) (ho od), ?_⟩⟩
    have back : ∀ {g' : Gh} {H' : Hp} {ρ' : Env} {S' : Store} {σ' : L2.St} {w' : Val}, Rel J.k J.md g' σ' H' ρ' S' → StepS g (upd H a (.frz od u)) g' H' → S'[n]? = some (.lk w') → Rel J.k J.md g' σ' (upd H' a u) ρ' (S'.set n (.cell w')) ∧ StepS g H g' (upd H' a u) ∧ H' a = some (.frz od u) := fun {g' H' ρ' S' σ' w'} r' st e' => by
      obtain ⟨st2, ea⟩ := lock_stepS mu ta hu st
      exact ⟨rel_so r' e' (st.ι n a ha) hnt (unlock_obj r'.str e' (st.ι n a ha) ea), st2, ea⟩
    cases er : evS J.x is ρ (S0.set n (.lk w)) with
    | nx ρ' S' =>
      rw [er] at p
      intro σ' g' H' r' st
      simp only [unlkS] at p
      cases e' : S'[n]? with
      | none => rw [e'] at p; exact p.elim
      | some o =>
        rw [e'] at p
        cases o with
        | lk w' =>
          obtain ⟨r2, st2, ea⟩ := back r' st e'
          exact ⟨ea, p σ' g' _ r2 st2⟩
        | _ => exact p.elim
    | brk ρ' S' =>
      rw [er] at p
      intro σ' g' H' r' st
      simp only [unlkS] at p
      cases e' : S'[n]? with
      | none => rw [e'] at p; exact p.elim
      | some o =>
        rw [e'] at p
        cases o with
        | lk w' =>
          obtain ⟨r2, st2, ea⟩ := back r' st e'
          exact ⟨ea, p σ' g' _ r2 st2⟩
        | _ => exact p.elim
    | cnt ρ' S' =>
      rw [er] at p
      intro σ' g' H' r' st
      simp only [unlkS] at p
      cases e' : S'[n]? with
      | none => rw [e'] at p; exact p.elim
      | some o =>
        rw [e'] at p
        cases o with
        | lk w' =>
          obtain ⟨r2, st2, ea⟩ := back r' st e'
          exact ⟨ea, p σ' g' _ r2 st2⟩
        | _ => exact p.elim
    | ret v S' =>
      rw [er] at p
      intro x g' H' s' st mr
      simp only [unlkS] at p
      cases e' : S'[n]? with
      | none => rw [e'] at p; exact p.elim
      | some o =>
        rw [e'] at p
        cases o with
        | lk w' =>
          obtain ⟨st2, ea⟩ := lock_stepS mu ta hu st
          have ha' := st.ι n a ha
          exact ⟨ea, p x g' _ (str_set s' e' ha' hnt (unlock_obj s' e' ha' ea)) st2 (mrep_upd hrm (st.st a n ta) mr)⟩
        | _ => exact p.elim
    | exn c ρ' S' => rw [er] at p; exact p.elim
    | stuck => rw [er] at p; exact p.elim
end
section
variable {X : Cx} {J : Jx} {m : Md} {pos : Pos}
theorem s_lck {d : E} {e : Expr} {ie : E} (hd : isVar d = true) (hm : m.noN = true) (h : PE X e (J.tE m ie)) : PE X e (J.tE m (.lck d ie)) := by
  refine PE.imp (pe_lock h) fun σ H Q q => ?_
  obtain ⟨g, ρ, S, r, p⟩ := q
  have ev : evE J.x (.lck d ie) ρ S = match lockN (evE J.x d ρ S) with
    | some (n, w, S0) => unlkR n (evE J.x ie ρ (S0.set n (.lk w)))
    | none => .stuck := by simp only [evE] <;> rfl
  have hq : pureE (.lck d ie) = pureE ie := by simp only [pureE]
  rw [ev, hq] at p
  cases el : lockN (evE J.x d ρ S) with
  | none => rw [el] at p; exact p.elim
  | some q =>
    obtain ⟨n, w, S0⟩ := q
    rw [el] at p
    simp only at p
    obtain ⟨e0, en, hw⟩ := lockN_is el
    have hS : S0 = S := by
      rcases isVar_ok (x := J.x) hd ρ S with ⟨v, e⟩ | e
      · rw [e] at e0; cases e0; rfl
      · rw [e] at e0; cases e0
    subst hS
    obtain ⟨a, ha, ta, _⟩ := r.str.obj n _ en
    obtain ⟨u, hu, mu, hnt, ho⟩ := lock_obj (u := .own 0) (ob := default) r.str en hw ha
    refine ⟨a, u, hu, mu, fun od => ⟨g, ρ, _, rel_so r en ha (fun _ z => nomatch z) (ho od), ?_⟩⟩
    cases er : evE J.x ie ρ (S0.set n (.lk w)) with
    | ok v S' =>
      rw [er] at p
      intro x g' H' r' st mr
      simp only [unlkR] at p
      cases e' : S'[n]? with
      | none => rw [e'] at p; exact p.elim
      | some o =>
        rw [e'] at p
        cases o with
        | lk w' =>
          obtain ⟨st2, ea⟩ := lock_step mu ta hu st
          have ha' := st.ι n a ha
          exact ⟨ea, p x g' _ (rel_so r' e' ha' hnt (unlock_obj r'.str e' ha' ea)) st2 (mrep_upd hm (st.st a n ta) mr)⟩
        | _ => exact p.elim
    | exn c S' => rw [er] at p; exact p.elim
    | stuck => rw [er] at p; exact p.elim
end

/-! ### l.index(x) -/
theorem toDs_at : ∀ (xs : List Val) (i : Nat), (toDs xs)[i]? = (xs[i]?).map toD
  | [], i => by simp [toDs]
  | x :: xs, 0 => by simp [toDs]
  | x :: xs, i + 1 => by
    simp only [toDs, List.getElem?_cons_succ]
    exact toDs_at xs i
section
variable {X : Cx} {J : Jx} {m : Md} {pos : Pos}
theorem index_imp {io ik : E} (hk : keyB ik = true) (σ : L2.St) (H : Hp) (Q : VK) (h : J.tE m (.bm .index io [ik]) σ H Q) : tBM X.K "list" (rIndexD X.K) (J.tE .B io) (J.tA [.B] [ik]) σ H Q := by
  obtain ⟨g, ρ, S, r, p⟩ := h
  have hq : pureE (.bm .index io [ik]) = (pureE io && (pureE ik && true)) := by simp only [pureE, pureEs]
  rw [evE_bm1, hq] at p
  refine tE_bindS r p fun v S1 u1 g1 H1 e1 r1 st1 mr1 p1 => ?_
  rcases keyB_ok (x := J.x) hk ρ S1 with ⟨w, ew⟩ | ew
  · rw [ew] at p1
    simp only [_root_.Pv.R.bind] at p1
    cases eb : bmV .index (look S1 v) [w] with
    | none => rw [eb] at p1; exact p1.elim
    | some z =>
      rw [eb] at p1
      simp only [_root_.Pv.R.of] at p1
      cases hv : look S1 v with
      | lst xs =>
        have hd : isDct (look S1 v) = false := by rw [hv]; rfl
        have lk : ∀ {g2 H2}, Rel J.k J.md g2 σ H2 ρ S1 → MRep J.k g2 H2 .B v u1 → RRep J.k g2 H2 (.lst xs) u1 := fun {g2 H2} r2 m2 => by
          have := (look_R r2.str m2.R).R hd
          rw [hv] at this
          exact this
        obtain ⟨a, us, rfl, ha, hs⟩ := (lk r1 mr1).lst_of
        refine ⟨.inl ⟨rfl, us, .inl (.inl ha)⟩, ?_⟩
        have ev : evs J.x [ik] ρ S1 = .ok [w] S1 := by
          simp only [evs, ew]
          rfl
        refine ⟨g1, ρ, S1, r1, ?_⟩
        rw [ev]
        intro us2 g2 H2 r2 st2 mrs
        obtain ⟨u2, rfl, mr2⟩ := mrs.one
        have st2 : Step (pureE ik && true) g1 H1 g2 H2 := by simpa only [pureEs] using st2
        have p2 := post_after (q1 := pureE ik && true) (q2 := true) (by rw [Bool.and_true]; exact p1) st2
        have l2 := lk r2 (st2.mB mr1)
        rw [hv] at eb
        simp only [bmV] at eb
        split at eb
        · rename_i hx
          split at eb
          · rename_i i hi
            cases eb
            have hl : dataOk 61 (.lst xs) = true := by
              simp only [dataOk]
              exact all_data hx.2
            have d2 := dp_R (K := X.K) l2 hl
            have s2 := shaped_of (by decide) hl
            simp only [toD] at d2 s2
            rw [List.findIdx?_eq_some_iff_getElem] at hi
            obtain ⟨hlt, he, hno⟩ := hi
            have hall := List.all_eq_true.mp hx.2
            refine ⟨a, u2, toD w, toDs xs, i, toD xs[i], rfl, rfl, d2, dp_R mr2.R hx.1, s2, shaped_of (by decide) hx.1, ?_, ?_, fun j z hj hz => ?_, fin_V r2 (fun m => MRep.int _) p2⟩
            · rw [toDs_at, List.getElem?_eq_getElem hlt]
              rfl
            · rw [eqv_toD 60 60 _ _ (hall _ (List.getElem_mem hlt)) hx.1]
              exact he
            · rw [toDs_at, List.getElem?_eq_getElem (by omega)] at hz
              cases hz
              rw [eqv_toD 60 60 _ _ (hall _ (List.getElem_mem (by omega))) hx.1]
              exact Bool.eq_false_iff.mpr (hno j hj)
          · cases eb
        · cases eb
      | _ =>
        rw [hv] at eb
        simp only [bmV] at eb
        cases eb
  · rw [ew] at p1
    exact p1.elim
theorem s_index {o e : Expr} {io ik : E} {ap cp : Pos} (hu : X.A.units + 65 < cLine) (hk : keyB ik = true) (ho : PE X o (J.tE .B io)) (ha : PA X [e] (J.tA [.B] [ik])) (hb : recvB o = true) (hline : (ap.endLine == cp.line) = true) (hst : starEach [e] X.env = (false, eval e X.env) :: starEach [] X.env) :
    PE X (.Call (.Attribute o "index" ap) [e] [] cp) (J.tE m (.bm .index io [ik])) :=
  PE.imp (pe_bm PySem.F.plainAttrs_list PySem.F.slot_list_index PySem.F.type_list_index (mt_indexD hu) ho ha (hbase := recv_base hb) (hline := hline) (hs := hst) (hfew := by rw [hst]; rfl)) (index_imp hk)
theorem s_sorted {e : Expr} {ie : E} {p : Pos} (hu : X.A.units + 65 < cLine) (hg : Gl X "sorted") (hm : X.mg "sorted" = none) (ha : PA X [e] (J.tA [.P] [ie])) (hst : starEach [e] X.env = (false, eval e X.env) :: starEach [] X.env) :
    PE X (.Call (.Name "sorted" p) [e] [] pos) (J.tE m (.bi .sorted [ie])) :=
  PE.imp (pe_callB (cr_sortedD hu) hg hm boot_sorted ha (he := hst) (hpl := by rfl)) (bi_imp b_sorted)
end
end Pv
end

section
set_option Elab.async false
set_option linter.all false
set_option maxRecDepth 100000
set_option autoImplicit false
/-! Pv18i: texts: sep.join(list), str(i).rjust(n). -/
namespace Pv
open PySem PySem.Spec PyProof.Rows L2
/-- expressions that give a text or raise -/
def strE : E → Bool
  | .k (.str _) => true
  | .bi .str [_] => true
  | _ => false
/-- what stands ahead of a dot: a text -/
def recvT : Expr → Bool
  | .Constant _ _ _ => true
  | .Call _ (_ :: _) _ _ => true
  | _ => false
theorem recvT_base {o : Expr} {nm : Str} {env : PySem.Env} {w : Sem Value} (h : recvT o = true) : attributeBase o nm env w = w := by
  cases o <;> first | rfl | cases h | skip
  rename_i f as ks p
  cases as with
  | nil => cases h
  | cons a as => cases f <;> rfl
theorem biV_str {us : List Val} {z : Val} (h : biV .str us = some z) : ∃ s, z = .str s := by
  rcases us with _ | ⟨u, _ | ⟨w, us⟩⟩
  · simp [biV] at h
  · cases u <;> simp [biV] at h
    · exact ⟨_, h.2.symm⟩
    · exact ⟨_, h.symm⟩
  · simp [biV] at h
theorem strE_ok {x : Cfg} {e : E} (h : strE e = true) {ρ : Env} {S S1 : Store} {v : Val} (ev : evE x e ρ S = .ok v S1) : ∃ s, v = .str s := by
  cases e with
  | k c =>
    cases c with
    | str s =>
      simp only [evE] at ev
      cases ev
      exact ⟨s, rfl⟩
    | _ => cases h
  | bi b es =>
    cases b <;> try cases h
    cases es with
    | nil => cases h
    | cons e es =>
      cases es with
      | cons _ _ => cases h
      | nil =>
        simp only [evE] at ev
        cases e1 : evs x [e] ρ S with
        | ok vs S2 =>
          rw [e1] at ev
          simp only [_root_.Pv.R.bind] at ev
          cases hb : biV .str (vs.map (deref S2)) with
          | none => rw [hb] at ev; cases ev
          | some z =>
            rw [hb] at ev
            simp only [_root_.Pv.R.of] at ev
            cases ev
            exact biV_str hb
        | exn c S2 => rw [e1] at ev; cases ev
        | stuck => rw [e1] at ev; cases ev
  | _ => cases h
section
variable {X : Cx} {J : Jx} {m : Md} {pos : Pos}
/-- a text's method of one argument -/
theorem bmT_imp {b : Bm} {io ik : E} {ma : Md} {rr : V → List V → Hp → VK → Prop} (hs : strE io = true) (hr : ∀ g H σ ρ S s w z u Q, Rel J.k J.md g σ H ρ S → MRep J.k g H ma w u → bmV b (.str s) [w] = some z → J.Post m true g H σ ρ (.ok z S) Q → rr (.str s) [u] H Q)
    (σ : L2.St) (H : Hp) (Q : VK) (h : J.tE m (.bm b io [ik]) σ H Q) : tM1 rr (J.tE .B io) (J.tE ma ik) σ H Q := by
  obtain ⟨g, ρ, S, r, p⟩ := h
  have hq : pureE (.bm b io [ik]) = (pureE io && (pureE ik && true)) := by simp only [pureE, pureEs]
  rw [evE_bm1, hq] at p
  refine tE_bindS r p fun v S1 u1 g1 H1 e1 r1 st1 mr1 p1 => ?_
  obtain ⟨s, rfl⟩ := strE_ok hs e1
  have hu : u1 = .str s := mr1.R.str_of
  subst hu
  refine ⟨⟨s, rfl⟩, ?_⟩
  refine tE_bindS r1 p1 fun w S2 u2 g2 H2 e2 r2 st2 mr2 p2 => ?_
  have hl : look S2 (.str s) = .str s := rfl
  rw [hl] at p2
  cases eb : bmV b (.str s) [w] with
  | none => rw [eb] at p2; exact p2.elim
  | some z =>
    rw [eb] at p2
    exact hr g2 H2 σ ρ S2 s w z u2 Q r2 mr2 eb p2
theorem s_join {o e : Expr} {io ik : E} {ap cp : Pos} (hs : strE io = true) (ho : PE X o (J.tE .B io)) (he : PE X e (J.tE .P ik)) (hb : recvT o = true) (hline : (ap.endLine == cp.line) = true) (hst : starEach [e] X.env = [(false, eval e X.env)]) :
    PE X (.Call (.Attribute o "join" ap) [e] [] cp) (J.tE m (.bm .join io [ik])) :=
  PE.imp (pe_m1 F.slot_str_join F.type_str_join mt_join ho he hst (recvT_base hb) hline) (bmT_imp hs fun g H σ ρ S s w z u Q r mr e p => by
    cases w <;> simp only [bmV] at e <;> try cases e
    rename_i xs
    split at e
    · rename_i ts et
      split at e
      · rename_i hz
        cases e
        obtain ⟨a, us, rfl, ha, hvs⟩ := mr.R.lst_of
        have := hvs.strs et
        subst this
        have hz := of_decide_eq_true hz
        refine ⟨s, a, ts, rfl, rfl, .inl (.inl (.inl ha)), ?_, fin_V r (fun m => MRep.str _) p⟩
        have hm : s.length * ts.length = ts.length * s.length := Nat.mul_comm _ _
        have e2 : (ts.map fun x => x.length).sum = (ts.map Str.length).sum := rfl
        omega
      · cases e
    · cases e)
theorem s_rjust {o e : Expr} {io ik : E} {ap cp : Pos} (hs : strE io = true) (ho : PE X o (J.tE .B io)) (he : PE X e (J.tE .P ik)) (hb : recvT o = true) (hline : (ap.endLine == cp.line) = true) (hst : starEach [e] X.env = [(false, eval e X.env)]) :
    PE X (.Call (.Attribute o "rjust" ap) [e] [] cp) (J.tE m (.bm .rjust io [ik])) :=
  PE.imp (pe_m1 F.slot_str_rjust F.type_str_rjust mt_rjust ho he hst (recvT_base hb) hline) (bmT_imp hs fun g H σ ρ S s w z u Q r mr e p => by
    cases w <;> simp only [bmV] at e <;> try cases e
    rename_i i
    split at e
    · rename_i hz
      cases e
      have hu : u = .int i := mr.R.int_of
      subst hu
      exact ⟨s, i, rfl, rfl, hz, fin_V r (fun m => MRep.str _) p⟩
    · cases e)
end
end Pv
end

section
set_option Elab.async false
set_option linter.all false
set_option maxRecDepth 100000
set_option autoImplicit false
/-! Pv13k: sorted by what a def tells of each item: the def is lo_rank's text. -/
namespace Pv
open PySem PySem.Spec PyProof.Rows L2

/-- if x[0] is None: return (0, 0); return (1, x[0]) -/
def LoBody (x : Str) (body : List Stmt) : Prop := ∃ (p1 p2 p3 p4 p5 p6 p7 p8 p9 p10 p11 p12 p13 p14 p15 p16 : Pos) (k1 k2 k3 k4 k5 k6 k7 k8 : Nat),
  body = [.If (.Compare (.Subscript (.Name x p1) (.Constant (.int 0) k1 p2) p3) [.Is] [.Constant .none k2 p4] p5) [.Return (some (.Tuple [.Constant (.int 0) k3 p6, .Constant (.int 0) k4 p7] k7 p8)) p9] [] p10,
    .Return (some (.Tuple [.Constant (.int 1) k5 p11, .Subscript (.Name x p12) (.Constant (.int 0) k6 p13) p14] k8 p15)) p16]
/-- the text of such a def -/
def loTB (x : Str) : List Stmt → Bool
  | [.If (.Compare (.Subscript (.Name x1 _) (.Constant (.int i1) _ _) _) [.Is] [.Constant .none _ _] _) [.Return (some (.Tuple [.Constant (.int i2) _ _, .Constant (.int i3) _ _] _ _)) _] [] _,
    .Return (some (.Tuple [.Constant (.int i4) _ _, .Subscript (.Name x2 _) (.Constant (.int i5) _ _) _] _ _)) _] => decide (x1 = x) && decide (x2 = x) && decide (i1 = 0) && decide (i2 = 0) && decide (i3 = 0) && decide (i4 = 1) && decide (i5 = 0)
  | _ => false
theorem loTB_ok {x : Str} {body : List Stmt} (h : loTB x body = true) : LoBody x body := by
  unfold loTB at h
  split at h
  · simp only [Bool.and_eq_true, decide_eq_true_eq] at h
    obtain ⟨⟨⟨⟨⟨⟨rfl, rfl⟩, rfl⟩, rfl⟩, rfl⟩, rfl⟩, rfl⟩ := h
    exact ⟨_, _, _, _, _, _, _, _, _, _, _, _, _, _, _, _, _, _, _, _, _, _, _, _, rfl⟩
  · cases h
/-- the small language's text of such a def -/
def loB : List S → Bool
  | [.ife (.cmp .isn (.ix (.v 0) (.k (.int i1))) (.k .non)) [.ret (.tup [.k (.int i2), .k (.int i3)])] [], .ret (.tup [.k (.int i4), .ix (.v 0) (.k (.int i5))])] => decide (i1 = 0) && decide (i2 = 0) && decide (i3 = 0) && decide (i4 = 1) && decide (i5 = 0)
  | _ => false
def loF (F : Fn) : Bool := !F.isIni && !F.meth && decide (F.np = 1) && decide (F.names.length = 1) && loB F.body
def cellB (sc : Scope) : Bool := sc.names.all fun y => match y.2 with
  | .cell => false
  | _ => true
theorem cellB_ok {sc : Scope} (h : cellB sc = true) : ∀ y ∈ sc.names, y.2 ≠ .cell := fun y hy z => by
  have q := List.all_eq_true.mp h y hy
  rw [z] at q
  cases q
/-- its key of an item whose first thing is a -/
def loD : Value → PyData
  | .int i _ => .tuple [.int 1, .int i]
  | _ => .tuple [.int 0, .int 0]
section
variable {prog : Program} {w : World} {A : Around} {E : Value → Shared → Prop} {s : Shared} {env : PySem.Env}
theorem pair_ev {e1 e2 : Expr} {k : Nat} {p : Pos} {Q : Value → Shared → Prop} (h1 : starEach [e1, e2] env = (false, eval e1 env) :: starEach [e2] env) (h2 : starEach [e2] env = (false, eval e2 env) :: starEach [] env)
    (h : wpAny (model prog w) A (eval e1 env) (fun a s1 => wpAny (model prog w) A (eval e2 env) (fun b s2 => Q (.ref s2.heap.objs.size) { s2 with heap := s2.heap.push { cls := .type "tuple", data := .seq #[a, b] } }) E s1) E s) :
    wpAny (model prog w) A (eval (.Tuple [e1, e2] k p) env) Q E s := by
  refine Tuple_ (spliced_more (wpAny_mono h (fun a s1 q1 => ?_) fun _ _ x => x) h1)
  refine spliced_more (wpAny_mono q1 (fun b s2 q2 => ?_) fun _ _ x => x) h2
  exact spliced_none (wpAny_newTuple q2 (by show 2 ≤ _; decide))
theorem item0_ev {x : Str} {p1 p2 p3 : Pos} {k : Nat} {m : Str → Option Value} {t : Addr} {items : Array Value} {a : Value} {Q : Value → Shared → Prop} (hk : env.scope.kind = .function) (hl : env.kindOf x = some .local) (hd : (x == ("__debug__" : Str)) = false)
    (hn : s.heap.Ns env.locals m) (hv : m x = some (.ref t)) (ht : IsTup s.heap t items) (ha : items[0]? = some a) (h : Q a { s with toks := s.toks + 1 }) :
    wpAny (model prog w) A (eval (.Subscript (.Name x p1) (.Constant (.int 0) k p2) p3) env) Q E s := by
  have hj : seqIndex? 0 items.size = some 0 := by
    have : 0 < items.size := by
      obtain ⟨h, _⟩ := Array.getElem?_eq_some_iff.mp ha
      exact h
    unfold seqIndex?
    simp [this]
  refine Subscript_ (wpAny_Name (wpAny_loadName_local hk hl hn hv (wpAny_Constant_int ?_)) hd)
  exact item_tuple (s := { s with toks := s.toks + 1 }) ht (by decide) (by decide) hj ha h
theorem lo_body {x : Str} {body : List Stmt} {m : Str → Option Value} {t : Addr} {items : Array Value} {a : Value} {h₀ : Heap} (hB : LoBody x body) (hk : env.scope.kind = .function) (hl : env.kindOf x = some .local) (hd : (x == ("__debug__" : Str)) = false)
    (hn : s.heap.Ns env.locals m) (hv : m x = some (.ref t)) (ht : IsTup s.heap t items) (ha : items[0]? = some a) (hv2 : a = .none ∨ ∃ i u, a = .int i u) (keep : ∀ b o, h₀.get? b = some o → s.heap.get? b = some o) :
    wpAny (model prog w) A (execs body env) (fun f s' => PySem.W.KeyPure (loD a) { s with heap := h₀ } (match f with | .ret v => v | _ => .none) s') (fun _ _ => False) s := by
  obtain ⟨p1, p2, p3, p4, p5, p6, p7, p8, p9, p10, p11, p12, p13, p14, p15, p16, k1, k2, k3, k4, k5, k6, k7, k8, rfl⟩ := hB
  refine wpAny_execs_cons (wpAny_If (wpAny_isTrue_Compare1 (item0_ev hk hl hd hn hv ht ha ?_) rfl))
  refine wpAny_Constant_none ?_
  rcases hv2 with rfl | ⟨i, u, rfl⟩
  · refine wpAny_is_self rfl (wpAny_truthy_bool ?_)
    refine wpAny_execs_cons (wpAny_Return_some (pair_ev rfl rfl (wpAny_Constant_int (wpAny_Constant_int ?_))))
    refine ⟨_, _, rfl, fun b o e => Heap.get?_push_of_some _ (keep b o e), ?_⟩
    exact .tuple (Heap.get?_push_size _ rfl) rfl rfl (.cons (.int _ _) (.cons (.int _ _) .nil))
  · refine wpAny_is_other rfl (fun z => nomatch z) (wpAny_truthy_bool ?_)
    refine wpAny_execs_nil ?_
    refine wpAny_execs_cons (wpAny_Return_some (pair_ev rfl rfl (wpAny_Constant_int (item0_ev hk hl hd hn hv ht ha ?_))))
    refine ⟨_, _, rfl, fun b o e => Heap.get?_push_of_some _ (keep b o e), ?_⟩
    exact .tuple (Heap.get?_push_size _ rfl) rfl rfl (.cons (.int _ _) (.cons (.int _ _) .nil))
/-- lo_rank's call keeps all that was there -/
theorem lo_call {K : PySem.W.Frag} {f : Addr} {x name qual : Str} {params : Arguments} {body : List Stmt} {scope : Scope} {oc dV kV doc pm cdv ct : Value} {od an : Option Addr} {osl : Array (Option Value)} {t : Addr} {items : Array Value} {a : Value}
    (KX : K.In s.heap) (lim : s.heap.NoLimit) (lk : K.lookup f = some ⟨oc, od, .func (PySem.W.fnOf name qual params body scope dV kV doc pm an cdv ct), osl⟩) (hcd : PySem.W.codeIn K cdv qual = true) (hdep : A.depth < recursionLimit)
    (hk : scope.kind = .function) (hco : scope.isCoroutine = false) (hgen : scope.isGenerator = false) (hcell : ∀ y ∈ scope.names, y.2 ≠ .cell) (hlo : scope.names.lookup x = some .local) (hd : (x == ("__debug__" : Str)) = false)
    (hb : BindsTo s (PySem.W.fnOf name qual params body scope dV kV doc pm an cdv ct) ⟨[.ref t], []⟩ [(x, .ref t)]) (hB : LoBody x body) (ht : IsTup s.heap t items) (ha : items[0]? = some a) (hv2 : a = .none ∨ ∃ i u, a = .int i u) :
    wpAny (model prog w) A (call (.ref f) [.ref t]) (PySem.W.KeyPure (loD a) s) (fun _ _ => False) s := by
  refine wpAny_call (codeAny_call_function hdep (KX _ _ lk) rfl hco hgen rfl (PySem.W.codeRec_of KX hcd) (hb _ _ _ _ ?_))
  refine wpAny_newFunctionEnv hcell (by intro y hy; rw [List.mem_singleton.mp hy]; exact hlo) (fun h' hns hsb => ⟨lim.fresh _ hsb, ?_⟩) hk
  have keep : ∀ b o, s.heap.get? b = some o → h'.get? b = some o := fun b o e => hsb.extBut b o (Nat.ne_of_lt (Heap.lt_size e)) (Heap.get?_push_of_some _ e)
  refine codeAny_func (wpAny_mono (lo_body (h₀ := s.heap) (m := fun y => [(x, Value.ref t)].reverse.lookup y) hB hk ?_ hd hns ?_ (ht.keeps keep) ha hv2 keep) (fun fl s' h => ?_) fun _ _ z => z.elim)
  · exact hlo
  · simp
  · obtain ⟨g, tk, rfl, k1, k2⟩ := h
    exact ⟨g, tk, rfl, k1, k2⟩
end
/-! ### sorted(l, key=f) -/
structure LoX (X : Cx) (F : Fn) (addr : Addr) : Prop where
  ex : ∃ (x qual : Str) (params : Arguments) (body : List Stmt) (scope : Scope) (oc dV kV doc pm cdv ct : Value) (od an : Option Addr) (osl : Array (Option Value)),
    X.K.lookup addr = some ⟨oc, od, .func (PySem.W.fnOf F.name qual params body scope dV kV doc pm an cdv ct), osl⟩ ∧ PySem.W.codeIn X.K cdv qual = true ∧ scope.kind = .function ∧ scope.isCoroutine = false ∧ scope.isGenerator = false ∧
    (∀ y ∈ scope.names, y.2 ≠ .cell) ∧ scope.names.lookup x = some .local ∧ (x == ("__debug__" : Str)) = false ∧ LoBody x body ∧ ∀ (s : Shared) (us : List Value), us.length = 1 → BindsTo s (PySem.W.fnOf F.name qual params body scope dV kV doc pm an cdv ct) ⟨us, []⟩ ([x].zip us)
  mg : X.mg F.name = some (.ref addr)
  room : Room 0 X.A
def loV : Option Int → V
  | none => .non
  | some i => .int i
def loI : Option Int → List Int
  | none => [0, 0]
  | some i => [1, i]
def rSortedLo (K : PySem.W.Frag) (addr : Addr) : List V → List V → Hp → VK → Prop := fun vs zs H Q => ∃ (a : Addr) (l : List (V × Option Int)), vs = [V.ref a] ∧ zs = [V.ref addr] ∧ SqL K H a (l.map (·.1)) ∧
  (∀ z ∈ l, ∃ (t : Addr) (us : List V), z.1 = .ref t ∧ SqT K H t us ∧ us[0]? = some (loV z.2)) ∧ ∀ p, H p = none → Q (.ref p) (upd H p (.lst ((l.mergeSort (fun a b => lexLe (loI a.2) (loI b.2))).map (·.1))))
theorem loK_ok (o : Option Int) : keyOk (2, loI o) := by cases o <;> exact fun z => nomatch z
theorem cr_sortedLo {X : Cx} {F : Fn} {addr : Addr} (L : LoX X F addr) : CallRK X (.builtin "sorted") [Str.ofString "key"] (rSortedLo X.K addr) := by
  intro pins s σ H vs zs us ws Q I r rz h
  obtain ⟨a, l, rfl, rfl, hs, hit, q⟩ := h
  obtain rfl := Vals.ref1 r
  obtain ⟨w1, rfl, e1⟩ := vals1 rz
  obtain rfl : w1 = Value.ref addr := e1
  obtain ⟨its, rv, hl, hz⟩ := I.list hs
  obtain ⟨x, qual, params, body, scope, oc, dV, kV, doc, pm, cdv, ct, od, an, osl, lk, hcd, hk, hco, hgen, hce, hnm, hd, hB, hb⟩ := L.ex
  have e := each_vals rv
  rw [List.length_map] at hz
  have hdp := L.room.dp
  have hun := L.room.un
  refine PySem.W.sorted_key_data (b := false) (fun z : V × Option Int => keyD (2, loI z.2)) hl.isList e (PySem.W.AllAlike.of fun b b' => key_alike (loK_ok b.2) (loK_ok b'.2) rfl) (PySem.W.Sortable.tuples fun b => by cases b.2 <;> exact ⟨_, _, rfl⟩) hz (fun z _ => ?_) (PyProof.Rows.ksk_s1 _ _) (fun _ => PyProof.Rows.ksk_l1 _ _) (fun _ => PyProof.Rows.ksk_t1 _ _) (fun v z hR hzm h tk keep => ?_) fun out c h' tk keep _ hnew hlen eo => ?_
  · have := key_depth (loK_ok z.2)
    omega
  · obtain ⟨t, us, ez, hT, h0⟩ := hit z hzm
    rw [ez] at hR
    obtain rfl : v = Value.ref t := hR
    obtain ⟨its2, rv2, ht, _⟩ := I.tuple hT
    obtain ⟨u, hu, ru⟩ : ∃ u, its2.toArray[0]? = some u ∧ RelV (loV z.2) u := by
      cases rv2 with
      | nil => cases h0
      | cons r1 _ =>
        simp only [List.getElem?_cons_zero, Option.some.injEq] at h0
        subst h0
        exact ⟨_, by simp, r1⟩
    have hk2 : loD u = keyD (2, loI z.2) ∧ (u = .none ∨ ∃ i w, u = .int i w) := by
      cases hz2 : z.2 with
      | none =>
        rw [hz2] at ru
        obtain rfl : u = Value.none := ru
        exact ⟨rfl, .inl rfl⟩
      | some i =>
        rw [hz2] at ru
        obtain ⟨w, rfl⟩ := ru
        exact ⟨rfl, .inr ⟨_, _, rfl⟩⟩
    rw [← hk2.1]
    exact lo_call (s := { s with heap := h, toks := tk }) (I.kIn.keeps keep) (I.nolimit.keeps keep) lk hcd (by show X.A.depth < _; omega) hk hco hgen hce hnm hd (hb _ [_] rfl) hB (ht.keeps keep) hu hk2.2
  · have em : (l.mergeSort (PySem.W.dataLe false fun z : V × Option Int => keyD (2, loI z.2))) = l.mergeSort fun a b => lexLe (loI a.2) (loI b.2) := by
      congr 1
      funext a b
      exact key_lt (loK_ok a.2) (loK_ok b.2) rfl
    rw [em] at eo
    have rv2 := vals_each eo
    refine ⟨.ref (s.heap.objs.size + 1), _, I.laid (t' := tk) (a := s.heap.objs.size + 1) (o := .lst ((l.mergeSort fun a b => lexLe (loI a.2) (loI b.2)).map (·.1))) keep (Nat.le_succ _) ⟨?_, out, c, rv2, hnew⟩, rfl, q _ (I.hok.fresh (Nat.le_succ _))⟩
    rw [List.length_map, List.length_mergeSort]
    exact hz
section
variable {X : Cx} {J : Jx} {m : Md}
theorem ev_sortk {x : Cfg} {f : Nat} {ie : E} {ρ : Env} {S : Store} : evE x (.sortk f ie) ρ S = (evs x [ie] ρ S).bind fun vs S1 => match vs.map (deref S1) with
    | [.lst xs] => (match sortK xs with
      | some ys => .ok (.lst ys) S1
      | none => .stuck)
    | _ => .stuck := by
  simp only [evE, evs]
  cases evE x ie ρ S with
  | ok v S1 =>
    simp only [R.bind, List.map_cons, List.map_nil]
    cases deref S1 v <;> rfl
  | exn c S1 => rfl
  | stuck => rfl
/-- the items beside what they are sorted by -/
theorem lo_all {k : Kx} {g : Gh} {H : Hp} {K : PySem.W.Frag} : ∀ {xs : List Val} {us : List V} {ks : List (List Int × Val)}, VReps k (fzP g H) g.ι xs us → loKs xs = some ks →
    ∃ l : List (Val × V × Option Int), ks = l.map (fun p => (loI p.2.2, p.1)) ∧ us = l.map (·.2.1) ∧ ∀ p ∈ l, VRep k (fzP g H) g.ι p.1 p.2.1 ∧ ∃ (t : Addr) (ws : List V), p.2.1 = .ref t ∧ SqT K H t ws ∧ ws[0]? = some (loV p.2.2)
  | [], us, ks, h, e => by
    simp only [VReps] at h
    simp only [loKs, Option.some.injEq] at e
    subst h e
    exact ⟨[], rfl, rfl, fun _ h => nomatch h⟩
  | x :: xs, us, ks, h, e => by
    simp only [VReps] at h
    obtain ⟨u, r, rfl, h1, h2⟩ := h
    simp only [loKs] at e
    split at e
    · rename_i a as e1 e2
      cases e
      obtain ⟨l, rfl, rfl, hl⟩ := lo_all (K := K) h2 e2
      obtain ⟨o, ea, t, ws, et, hT, h0⟩ : ∃ o, a = loI o ∧ ∃ (t : Addr) (ws : List V), u = .ref t ∧ SqT K H t ws ∧ ws[0]? = some (loV o) := by
        unfold loKey at e1
        split at e1
        · cases e1
          simp only [VRep, VReps] at h1
          obtain ⟨t, ws, rfl, ht, u0, r0, rfl, rfl, _⟩ := h1
          exact ⟨none, rfl, t, _, rfl, SqT.of (fzP_some ht).2, rfl⟩
        · cases e1
          simp only [VRep, VReps] at h1
          obtain ⟨t, ws, rfl, ht, u0, r0, rfl, rfl, _⟩ := h1
          exact ⟨some _, rfl, t, _, rfl, SqT.of (fzP_some ht).2, rfl⟩
        · cases e1
      subst ea
      refine ⟨(x, u, o) :: l, rfl, rfl, fun p hp => ?_⟩
      rcases List.mem_cons.mp hp with rfl | hp
      · exact ⟨h1, t, ws, et, hT, h0⟩
      · exact hl p hp
    · cases e
theorem s_sortk {f : Nat} {F : Fn} {addr : Addr} {e : Expr} {ie : E} {p p2 kp pos : Pos} (L : LoX X F addr) (hg : Gl X "sorted") (hm : X.mg "sorted" = none) (hgf : Gl X F.name) (hd : (F.name == ("__debug__" : Str)) = false) (ha : PA X [e] (J.tA [.P] [ie])) (h1 : ∀ {env : PySem.Env}, starEach [e] env = (false, eval e env) :: starEach [] env) :
    PE X (.Call (.Name "sorted" p) [e] [⟨some (Str.ofString "key"), .Name F.name p2, kp⟩] pos) (J.tE m (.sortk f ie)) := by
  have h2 : (backTo pos (starEach [e] X.env)).any (·.1) = false := by
    rw [st_one h1 pos]
    rfl
  refine PE.imp (pe_callBK (cr_sortedLo L) hg hm boot_sorted ha (pk_cons (pe_glob (v := .ref addr) hgf L.mg rfl hd) pk_nil) (he := st_one h1 pos) (hpl := h2)) fun σ H Q h => ?_
  obtain ⟨g, ρ, S, r, q⟩ := h
  have hq : pureE (.sortk f ie) = (pureEs [ie] && true) := by simp only [pureE, pureEs, Bool.and_true]
  rw [ev_sortk, hq] at q
  refine tA_bind r q fun vs S1 us g1 H1 e1 r1 st mr p1 => ?_
  obtain ⟨v, u, e2, rfl, h⟩ := one_of (evs_len e1) r1.str mr
  rw [e2] at p1
  cases v with
  | lst xs =>
    simp only at p1
    cases es : sortK xs with
    | none => rw [es] at p1; exact p1.elim
    | some ys =>
      rw [es] at p1
      unfold sortK at es
      split at es
      · rename_i ks hk
        cases es
        obtain ⟨a, us, rfl, ha, hs⟩ := h.lst_of
        obtain ⟨l, rfl, rfl, hl⟩ := lo_all (K := X.K) hs hk
        have e3 : ((l.map (fun p => (loI p.2.2, p.1))).mergeSort fun a b => lexLe a.1 b.1) = (l.mergeSort fun p q => lexLe (loI p.2.2) (loI q.2.2)).map (fun p => (loI p.2.2, p.1)) :=
          (PySem.W.sort_maps (fun p : Val × V × Option Int => (loI p.2.2, p.1)) fun p hp q hq => rfl).symm
        have e4 : ((l.map (·.2)).mergeSort fun a b : V × Option Int => lexLe (loI a.2) (loI b.2)) = (l.mergeSort fun p q => lexLe (loI p.2.2) (loI q.2.2)).map (·.2) :=
          (PySem.W.sort_maps (fun p : Val × V × Option Int => p.2) fun p hp q hq => rfl).symm
        refine ⟨a, l.map (·.2), rfl, rfl, ?_, fun z hz => ?_, ?_⟩
        · rw [List.map_map]
          exact .inl (.inl ha)
        · obtain ⟨p, hp, rfl⟩ := List.mem_map.mp hz
          exact (hl p hp).2
        · rw [e4, List.map_map]
          rw [e3, List.map_map] at p1
          refine fin_lst r1 (vreps_map fun q hq => ?_) p1
          exact (hl q ((List.mergeSort_perm _ _).mem_iff.mp hq)).1
      · cases es
  | _ => exact p1.elim
end
end Pv
end

section
set_option Elab.async false
set_option linter.all false
set_option maxRecDepth 100000
set_option maxHeartbeats 3200000
set_option autoImplicit false
/-! Pv13t: sets made of a list of ints: how many, sorted. -/
namespace Pv
open PySem PySem.Spec PyProof.Rows L2

section
variable {prog : Program} {w : World} {A : Around}
/-- a set takes in what a walk gives -/
theorem set_loop {R : Result → Shared → Prop} {I : Addr} {fp wr : List Addr} {Gn : Array GenState → Array GenState → Prop} {n : Nat} {P : Nat → Value → Prop} {St : Nat → Shared → Prop} (W : WalksS prog w A.in1 I fp wr Gn n P St) (T : Addr) (hT : T ∉ fp)
    (val : Nat → Int) (hval : ∀ i v, P i v → ∃ t, v = .int (val i) t) (hb : n + 1 < scanBound) : ∀ (k i : Nat) (s : Shared), n - i = k → i ≤ n → St i s → SetR w s.heap T (fun z => (firstMet val i).any (· == z)) (firstMet val i).length →
      (∀ s', Moved (T :: wr) Gn s s' → SetR w s'.heap T (fun z => (firstMet val n).any (· == z)) (firstMet val n).length → R (.ok (.ret .none)) s') →
      codeAny (model prog w) A (.builtin "set.update.loop" ⟨[.ref T, .ref I], []⟩) R s := by
  have hTw : T ∉ wr := fun h => hT (W.sub _ h)
  intro k
  induction k with
  | zero =>
    intro i s hk hi hst hS hR
    obtain rfl : i = n := by omega
    refine codeAny_builtin F.entry_set_update_loop ?_
    rw [Around.under_plainId F.plain_set_update_loop _]
    show wpAny _ A.in1 (pyNext (.ref I) >>= _) _ _ s
    refine wpAny_bind (W.done s _ _ hst fun s1 hm => ?_)
    show wpAny _ A.in1 (ret Value.none) _ _ s1
    exact wpAny_pure (hR s1 (hm.mono fun b hb => List.mem_cons_of_mem _ hb) (hS.at fun o e => hm.heap T _ hTw e))
  | succ k ih =>
    intro i s hk hi hst hS hR
    refine codeAny_builtin F.entry_set_update_loop ?_
    rw [Around.under_plainId F.plain_set_update_loop _]
    show wpAny _ A.in1 (pyNext (.ref I) >>= _) _ _ s
    refine wpAny_bind (W.item i s _ _ (by omega) hst fun v s1 hP hst1 hm => ?_)
    obtain ⟨t, rfl⟩ := hval i v hP
    show wpAny _ A.in1 (holding [Value.int (val i) t] (setAdd T (.int (val i) t)) >>= _) _ _ s1
    refine wpAny_bind (wpAny_holding ?_)
    unfold setAdd
    refine wpAny_holding (wpAny_bind ((intKind prog w).pyHash (k := val i) (intKind_is _ _ _ _) ?_))
    refine setR_add_hashed (P := prog) (s := { s1 with toks := s1.toks + 1 }) (hS.at fun o e => hm.heap T _ hTw e) (by have := firstMet_length_le val i; omega) fun g sb hg => ?_
    have hg2 : SetR w g T (fun z => (firstMet val (i + 1)).any (· == z)) (firstMet val (i + 1)).length := by
      have e := hg.congr (S' := fun z => (firstMet val (i + 1)).any (· == z)) fun z => by rw [firstMet_succ, step_any]
      have en : (if (firstMet val i).any (· == val i) = true then (firstMet val i).length else (firstMet val i).length + 1) = (firstMet val (i + 1)).length := by rw [firstMet_succ, step_length]
      rw [en] at e
      exact e
    refine wpAny_pure ⟨plainId_quiet F.plain_set_update_loop _, ih (i + 1) _ (by omega) (by omega) (W.frame _ s1 _ _ hst1 (Nat.le_succ _) fun b hb o e => ?_) hg2 fun s2 hm2 hS2 => ?_⟩
    · rw [sb.2 b fun z => hT (z ▸ hb)]
      exact e
    · refine hR s2 (Moved.trans W.gtrans ((hm.mono fun b hb => List.mem_cons_of_mem _ hb).then_heap (Nat.le_succ _) fun b o hb e => ?_) hm2) hS2
      rw [sb.2 b fun z => hb (z ▸ List.mem_cons_self)]
      exact e
/-- the empty set that set(l) begins with -/
def eSet (w : World) : Obj := { cls := .type "set", dict := none, data := .set #[] 0 (.fresh 0 0 (!w.params.followText "set-order")) }
theorem set_made {E : Value → Shared → Prop} {s : Shared} (a : Value) {Q : Value → Shared → Prop} (h : Q (.ref s.heap.objs.size) { s with heap := s.heap.push (eSet w) }) :
    codeAny (model prog w) A (.call (.builtin "set.__new__") ⟨[.type "set", a], []⟩) (wants Q E) s := by
  refine codeAny_of_tree ?_
  show wpAny _ A.in1 (do checkBuiltinCall "set.__new__" ⟨[.type "set", a], []⟩; again (.builtin "set.__new__" ⟨[.type "set", a], []⟩)) _ _ s
  refine wpAny_bind (wpAny_of_eq (F.newCall_set_1 a) (wpAny_pure ⟨plainId_quiet F.plain_set_new _, codeAny_builtin F.entry_set_new ?_⟩))
  rw [Around.under_plainId F.plain_set_new _]
  unfold Builtin.«set.__new__» Builtin.Frozenset.newClass
  have self := sub_set_self
  obtain ⟨h0, g, d, tk, os⟩ := s
  dsimp only
  wp_walk
  refine wpAny_askSetting (wpAny_pure ?_)
  dsimp only
  simp only [newObj]
  exact wpAny_bind (wpAny_alloc (wpAny_pure (wpAny_pure h)))
/-- set(l) -/
theorem set_list {E : Value → Shared → Prop} {s : Shared} {l : Addr} {items : Array Value} {ns : List Int} {Q : Value → Shared → Prop} (hh : A.handled = none) (hl : s.heap.IsList l items) (hi : IntsAre items.toList ns) (hb : items.size + 1 < scanBound)
    (h : ∀ (g : Heap) (tk : Nat), SetR w g s.heap.objs.size (fun z => (firstMet (fun i => ns.getD i 0) items.size).any (· == z)) (firstMet (fun i => ns.getD i 0) items.size).length →
      (∀ b o, s.heap.get? b = some o → g.get? b = some o) → Q (.ref s.heap.objs.size) { s with heap := g, toks := tk }) :
    wpAny (model prog w) A (call (.type "set") [.ref l]) Q E s := by
  obtain ⟨c, tl, hmro⟩ := F.called_set.mro
  have hmade := F.called_set.made
  have hsub := F.called_set.sub
  refine wpAny_call (codeAny_of_tree ?_)
  show wpAny _ _ (callAny (.type "set") _) _ _ _
  refine wpAny_pure ⟨Code.quiet_builtin _ (by decide +kernel), codeAny_builtin F.entry_type_call ?_⟩
  rw [Around.under_plain (weight_type_call_type "set" [.ref l] []) rfl]
  have h1 := F.called_set.notType
  have h2 := F.called_set.canCreate
  have hct := F.typeCall_set_1 (.ref l)
  repeat (any_goals (first | assumption | wp_step))
  refine codeAny_mono (set_made (w := w) (.ref l) (E := E) (Q := fun o s1 => o = .ref s.heap.objs.size ∧ s1 = { s with heap := s.heap.push (eSet w) }) ⟨rfl, rfl⟩) fun r s1 hr => ?_
  cases r with
  | error e => exact hr
  | ok fl =>
    cases fl with
    | ret o =>
      obtain ⟨rfl, rfl⟩ := hr
      have hT : (s.heap.push (eSet w)).get? s.heap.objs.size = some (eSet w) := Heap.get?_push_size _ rfl
      have ty : Shared.TypeIs { s with heap := s.heap.push (eSet w) } (.ref s.heap.objs.size) "set" := ⟨_, hT, rfl⟩
      have hli := F.called_set.init.lookup
      have hbi := F.called_set.init.bind (.ref s.heap.objs.size)
      repeat (any_goals (first | assumption | wp_step))
      refine codeAny_mono (codeAny_call_builtin (R := wants (fun r s2 => r = .none ∧ ∃ g tk, s2 = { s with heap := g, toks := tk } ∧
          SetR w g s.heap.objs.size (fun z => (firstMet (fun i => ns.getD i 0) items.size).any (· == z)) (firstMet (fun i => ns.getD i 0) items.size).length ∧
          ∀ b o, s.heap.get? b = some o → g.get? b = some o) E) F.called_set.init.plain F.entry_set_init (check_set_init_1 ty ?_)) fun r2 s2 hr2 => ?_
      · obtain ⟨ol, hol, hcl, nl, hdl⟩ := hl
        obtain ⟨ocls, odict, odata, oslots⟩ := ol
        simp only at hcl hdl
        subst hcl hdl
        have hlS : l < s.heap.objs.size := Heap.lt_size hol
        have hol2 : (s.heap.push (eSet w)).get? l = some { cls := .type "list", dict := odict, data := .seq items nl, slots := oslots } := Heap.get?_push_of_some _ hol
        have no1 := F.sub_list_set
        have no2 := F.sub_list_frozenset
        have ne1 : (Value.type "list" == Value.type "dict") = false := by decide
        have hl1 : (s.heap.push (eSet w)).IsList l items := ⟨_, hol2, rfl, nl, rfl⟩
        unfold Builtin.«set.__init__» noKeywords Builtin.Frozenset.updateFrom
        generalize hPI : pyIter = PI
        wp_walk
        subst hPI
        refine wpAny_pyIter_list hl1 (wpAny_bind (wpAny_runValue ?_))
        have hsz : (s.heap.push (eSet w)).objs.size = s.heap.objs.size + 1 := Heap.size_push ..
        refine set_loop ((Walks.list (by simp [hh]) _ l (by rw [hsz]; exact Nat.ne_of_lt (Nat.lt_succ_of_lt hlS)) items).toS) s.heap.objs.size (by rw [hsz]; simp only [List.mem_cons, List.not_mem_nil, or_false, not_or]; exact ⟨Nat.ne_of_lt (Nat.lt_succ_self _), Nat.ne_of_gt hlS⟩) (fun i => ns.getD i 0)
          (fun i v hv => hi.int_at i v (by rw [Array.getElem?_toList]; exact hv)) hb (items.size - 0) 0 _ (by omega) (Nat.zero_le _) ⟨⟨_, Heap.get?_push_size _ rfl, rfl, rfl⟩, hl1.push _⟩ ?_ fun s3 hm hS => ?_
        · exact (setR_fresh (h := s.heap) w).at fun o e => Heap.get?_push_of_some _ e
        · obtain ⟨g, gs, d, tk, os⟩ := s3
          obtain rfl : gs = s.gens := hm.gens
          obtain rfl : d = s.drawn := hm.drawn
          obtain rfl : os = s.os := hm.os
          show wpAny _ _ _ _ _ _
          refine wpAny_pure ?_
          show wpAny _ _ (ret Value.none) _ _ _
          refine wpAny_pure ⟨rfl, g, tk, rfl, hS, fun b o e => ?_⟩
          have hb := Heap.lt_size e
          exact hm.heap b o (by rw [hsz]; simp only [List.mem_cons, List.not_mem_nil, or_false, not_or]; exact ⟨Nat.ne_of_lt hb, Nat.ne_of_lt (Nat.lt_succ_of_lt hb)⟩) (Heap.get?_push_of_some _ (Heap.get?_push_of_some _ e))
      · cases r2 with
        | error e => exact hr2
        | ok fl2 =>
          cases fl2 with
          | ret r =>
            obtain ⟨rfl, g, tk, rfl, hS, hk⟩ := hr2
            repeat (any_goals (first | assumption | wp_step))
            exact h _ _ hS hk
          | _ => exact hr2.elim
    | _ => exact hr.elim
end
end Pv
end

section
set_option Elab.async false
set_option linter.all false
set_option maxRecDepth 100000
set_option autoImplicit false
/-! Pv13u: len(set(l)), sorted(set(l)). -/
namespace Pv
open PySem PySem.Spec PyProof.Rows L2

theorem mem_nub {x : Int} : ∀ {l : List Int}, x ∈ nubI l ↔ x ∈ l
  | [] => Iff.rfl
  | y :: r => by
    simp only [nubI, List.mem_cons, List.mem_filter, mem_nub (l := r), decide_eq_true_eq]
    constructor
    · rintro (h | ⟨h, _⟩)
      · exact .inl h
      · exact .inr h
    · rintro (h | h)
      · exact .inl h
      · by_cases e : x = y
        · exact .inl e
        · exact .inr ⟨h, e⟩
theorem nub_nodup : ∀ l : List Int, (nubI l).Nodup
  | [] => List.nodup_nil
  | y :: r => by
    simp only [nubI, List.nodup_cons, List.mem_filter]
    exact ⟨fun h => by simp at h, (nub_nodup r).filter _⟩
theorem nub_len : ∀ l : List Int, (nubI l).length ≤ l.length
  | [] => Nat.le_refl _
  | y :: r => by
    simp only [nubI, List.length_cons]
    have := List.length_filter_le (fun z => decide (z ≠ y)) (nubI r)
    have := nub_len r
    omega
theorem first_nodup (val : Nat → Int) : ∀ i, (firstMet val i).Nodup
  | 0 => List.nodup_nil
  | i + 1 => by
    rw [firstMet_succ]
    unfold step_dedup
    have ih := first_nodup val i
    split
    · exact ih
    · rename_i h
      rw [List.nodup_append]
      refine ⟨ih, by simp, fun a ha b hb => ?_⟩
      rw [List.mem_singleton.mp hb]
      rintro rfl
      exact h (List.any_eq_true.mpr ⟨_, ha, beq_self_eq_true _⟩)
theorem first_mem {ns : List Int} {n : Nat} (hn : n = ns.length) (k : Int) : k ∈ firstMet (fun i => ns.getD i 0) n ↔ k ∈ ns := by
  have e := firstMet_any (fun i => ns.getD i 0) n k
  have a1 : ((firstMet (fun i => ns.getD i 0) n).any (· == k) = true) ↔ k ∈ firstMet (fun i => ns.getD i 0) n := by
    rw [List.any_eq_true]
    exact ⟨fun ⟨x, hx, h⟩ => beq_iff_eq.mp h ▸ hx, fun h => ⟨k, h, beq_self_eq_true _⟩⟩
  rw [← a1, e, List.any_eq_true]
  subst hn
  constructor
  · rintro ⟨x, hx, h⟩
    obtain ⟨i, hi, rfl⟩ := List.mem_map.mp hx
    rw [← beq_iff_eq.mp h]
    have hi := List.mem_range.mp hi
    rw [List.getD_eq_getElem?_getD, List.getElem?_eq_getElem hi]
    exact List.getElem_mem hi
  · intro h
    obtain ⟨i, hi, rfl⟩ := List.getElem_of_mem h
    refine ⟨_, List.mem_map.mpr ⟨i, List.mem_range.mpr hi, rfl⟩, ?_⟩
    rw [List.getD_eq_getElem?_getD, List.getElem?_eq_getElem hi]
    exact beq_self_eq_true _
theorem first_perm {ns : List Int} {n : Nat} (hn : n = ns.length) : (firstMet (fun i => ns.getD i 0) n).Perm (nubI ns) := by
  rw [List.perm_ext_iff_of_nodup (first_nodup _ _) (nub_nodup _)]
  intro k
  rw [first_mem hn, mem_nub]
theorem lt_unique : ∀ {a b : List Int}, a.Pairwise (· < ·) → b.Pairwise (· ≤ ·) → a.Perm b → a = b
  | [], b, _, _, p => (List.nil_perm.mp p).symm ▸ rfl
  | x :: a, [], _, _, p => absurd p.length_eq (by simp)
  | x :: a, y :: b, ha, hb, p => by
    have h1 := List.pairwise_cons.mp ha
    have h2 := List.pairwise_cons.mp hb
    have e : x = y := by
      have m1 : y ∈ x :: a := p.mem_iff.mpr List.mem_cons_self
      have m2 : x ∈ y :: b := p.mem_iff.mp List.mem_cons_self
      rcases List.mem_cons.mp m1 with h | h
      · exact h.symm
      · rcases List.mem_cons.mp m2 with h' | h'
        · exact h'
        · have := h1.1 y h
          have := h2.1 x h'
          omega
    subst e
    rw [lt_unique h1.2 h2.2 ((List.perm_cons x).mp p)]
def nubS (ns : List Int) : List Int := (nubI ns).mergeSort fun a b => decide (a ≤ b)
theorem nubS_sorted (L : List Int) : (nubS L).Pairwise (· ≤ ·) := by
  have := List.pairwise_mergeSort (le := fun a b : Int => decide (a ≤ b)) (fun a b c h1 h2 => decide_eq_true (by have := of_decide_eq_true h1; have := of_decide_eq_true h2; omega)) (fun a b => by
    rw [Bool.or_eq_true, decide_eq_true_eq, decide_eq_true_eq]
    omega) (nubI L)
  exact this.imp fun h => of_decide_eq_true h
section
variable {X : Cx} {J : Jx} {m : Md}
def tLenSetI (K : PySem.W.Frag) (ta : TE) : TE := fun σ H Q => ta σ H fun x H1 => ∃ (l : Addr) (ns : List Int), x = .ref l ∧ SqL K H1 l (ns.map V.int) ∧ ns.length < 4000 ∧ Q (.int (nubI ns).length) H1
def tSortSetI (K : PySem.W.Frag) (ta : TE) : TE := fun σ H Q => ta σ H fun x H1 => ∃ (l : Addr) (ns : List Int), x = .ref l ∧ SqL K H1 l (ns.map V.int) ∧ ns.length < 64 ∧ ∀ p, H1 p = none → Q (.ref p) (upd H1 p (.lst ((nubS ns).map V.int)))
theorem pe_lenSetI {a : Expr} {ta : TE} {p p2 q pos : Pos} (hc : X.calm = true) (hg : Gl X "len") (hm : X.mg "len" = none) (hg2 : Gl X "set") (hm2 : X.mg "set" = none) (ha : PE X a ta)
    (na : starEach [a] X.env = (false, eval a X.env) :: starEach [] X.env) : PE X (.Call (.Name "len" p) [.Call (.Name "set" p2) [a] [] q] [] pos) (tLenSetI X.K ta) := by
  refine ⟨fun pins s σ H Q I h => ?_⟩
  refine Call_ (ld_blt I hg hm boot_len ?_)
  refine PyProof.Rows.callWith_builtin1 (PyProof.Rows.args_cons ?_ rfl) rfl rfl
  refine Call_ (ld_blt I hg2 hm2 boot_set ?_)
  refine PyProof.Rows.callWith_type1 (PyProof.Rows.args_cons (thn (ha.run pins s σ H _ I h) fun v s1 ⟨x, H1, I1, r1, q1⟩ => PyProof.Rows.args_nil ?_) na) na rfl
  obtain ⟨l, ns, rfl, hq, hlen, q1⟩ := q1
  cases r1
  obtain ⟨its, rv, pl, _⟩ := I1.list hq
  have hil := rv.length
  rw [List.length_map] at hil
  have hsz : its.toArray.size = ns.length := by rw [List.size_toArray]; exact hil.symm
  refine set_list (I1.ok.hd hc) pl.isList (by simpa using rv.ints) (by rw [hsz]; unfold scanBound; omega) fun g tk hS hk => ?_
  refine PyProof.Rows.args_nil ?_
  have I2 : Inv X pins σ H1 { s1 with heap := g, toks := tk } := I1.kept hk
  obtain ⟨o, es, ep, t, ho, hex, hd, _, _, _, _, hf, hn, _⟩ := hS
  have hn2 : es.size = (nubI ns).length := by rw [hn, (first_perm hsz).length_eq]
  have hb := nub_len ns
  exact call_len_set ho hex hd hf (by rw [hn2]; omega) ⟨.int (nubI ns).length, H1, I2.tok _, ⟨_, by rw [hn2]⟩, q1⟩
theorem pe_sortSetI {a : Expr} {ta : TE} {p p2 q pos : Pos} (hc : X.calm = true) (hg : Gl X "sorted") (hm : X.mg "sorted" = none) (hg2 : Gl X "set") (hm2 : X.mg "set" = none) (ha : PE X a ta)
    (na : starEach [a] X.env = (false, eval a X.env) :: starEach [] X.env) : PE X (.Call (.Name "sorted" p) [.Call (.Name "set" p2) [a] [] q] [] pos) (tSortSetI X.K ta) := by
  refine ⟨fun pins s σ H Q I h => ?_⟩
  refine Call_ (ld_blt I hg hm boot_sorted ?_)
  refine PyProof.Rows.callWith_builtin1 (PyProof.Rows.args_cons ?_ rfl) rfl rfl
  refine Call_ (ld_blt I hg2 hm2 boot_set ?_)
  refine PyProof.Rows.callWith_type1 (PyProof.Rows.args_cons (thn (ha.run pins s σ H _ I h) fun v s1 ⟨x, H1, I1, r1, q1⟩ => PyProof.Rows.args_nil ?_) na) na rfl
  obtain ⟨l, ns, rfl, hq, hlen, q1⟩ := q1
  cases r1
  obtain ⟨its, rv, pl, _⟩ := I1.list hq
  have hil := rv.length
  rw [List.length_map] at hil
  have hsz : its.toArray.size = ns.length := by rw [List.size_toArray]; exact hil.symm
  refine set_list (I1.ok.hd hc) pl.isList (by simpa using rv.ints) (by rw [hsz]; unfold scanBound; omega) fun g tk hS hk => ?_
  refine PyProof.Rows.args_nil ?_
  have I2 : Inv X pins σ H1 { s1 with heap := g, toks := tk } := I1.kept hk
  have hfl : (firstMet (fun i => ns.getD i 0) its.toArray.size).length < 64 := by
    have := nub_len ns
    rw [(first_perm hsz).length_eq]
    omega
  refine sorted_set (s := { s1 with heap := g, toks := tk }) hS (I2.ok.hd hc) hfl fun s2 p out c ms k g2 o hp hget hi hs hmem hl => ?_
  have hpm : ms.Perm (nubI ns) := by
    rw [List.perm_ext_iff_of_nodup (hs.imp fun h => Int.ne_of_lt h) (nub_nodup _)]
    intro z
    rw [hmem, mem_nub, List.any_eq_true, ← first_mem hsz]
    exact ⟨fun ⟨x, hx, h⟩ => beq_iff_eq.mp h ▸ hx, fun h => ⟨z, h, beq_self_eq_true _⟩⟩
  have ems : ms = nubS ns := lt_unique hs (nubS_sorted ns) (hpm.trans (List.mergeSort_perm _ _).symm)
  subst ems
  have hz : ((nubS ns).map V.int).length ≤ sizeLine := by
    have := nub_len ns
    have := hpm.length_eq
    rw [List.length_map, sizeLine_eq]
    omega
  have hn : H1 p = none := I2.hok.fresh hp
  have I3 : Inv X pins σ (upd H1 p (.lst ((nubS ns).map V.int))) { s1 with heap := s2.heap, gens := s2.gens, drawn := s2.drawn, toks := s2.toks } :=
    Inv.call (s := { s1 with heap := g, toks := tk }) (h' := s2.heap) (g' := s2.gens) (d' := s2.drawn) (t' := s2.toks) (ch := []) I2 (Un.laid k hp hn) (I2.hok.laid k hp ⟨hz, out.toList, c, vals_of_ints hi, hget⟩) (by rw [g2]; exact I2.bare) (fun _ z => nomatch z)
  have e : s2 = { s1 with heap := s2.heap, gens := s2.gens, drawn := s2.drawn, toks := s2.toks } := by
    cases s2
    cases s1
    cases o
    rfl
  rw [e]
  exact ⟨.ref p, _, I3, rfl, q1 p hn⟩
theorem ev_one {x : Cfg} {b : Bi} {ie : E} {ρ : Env} {S : Store} : evE x (.bi b [ie]) ρ S = (evE x ie ρ S).bind fun v S1 => R.of (biV b [deref S1 v]) S1 := by
  simp only [evE, evs]
  cases evE x ie ρ S with
  | ok v S1 => rfl
  | exn c S1 => rfl
  | stuck => rfl
theorem s_lenSet {e : Expr} {ie : E} {p p2 q pos : Pos} (hc : X.calm = true) (hg : Gl X "len") (hm : X.mg "len" = none) (hg2 : Gl X "set") (hm2 : X.mg "set" = none) (ha : PE X e (J.tE .P ie)) (h1 : starEach [e] X.env = (false, eval e X.env) :: starEach [] X.env) :
    PE X (.Call (.Name "len" p) [.Call (.Name "set" p2) [e] [] q] [] pos) (J.tE m (.bi .setLen [ie])) := by
  refine PE.imp (pe_lenSetI hc hg hm hg2 hm2 ha h1) fun σ H Q h => ?_
  obtain ⟨g, ρ, S, r, p⟩ := h
  have hq : pureE (.bi .setLen [ie]) = (pureE ie && true) := by simp only [pureE, pureEs, Bool.and_true]
  rw [ev_one, hq] at p
  refine tE_bind r p fun v S1 u g1 H1 e1 r1 mr p1 => ?_
  have h := deref_R r1.str mr.R
  cases ed : deref S1 v with
  | lst xs =>
    rw [ed] at p1 h
    simp only [biV] at p1
    cases ei : intsOf xs with
    | none => rw [ei] at p1; exact p1.elim
    | some is =>
      rw [ei] at p1
      simp only at p1
      by_cases hl : is.length < 4000
      · rw [if_pos hl] at p1
        obtain ⟨a, us, rfl, ha, hs⟩ := h.lst_of
        have := hs.ints ei
        subst this
        exact ⟨a, is, rfl, .inl (.inl ha), hl, fin_V r1 (fun m => MRep.int _) p1⟩
      · rw [if_neg hl] at p1; exact p1.elim
  | _ => rw [ed] at p1; exact p1.elim
theorem s_sortSet {e : Expr} {ie : E} {p p2 q pos : Pos} (hc : X.calm = true) (hg : Gl X "sorted") (hm : X.mg "sorted" = none) (hg2 : Gl X "set") (hm2 : X.mg "set" = none) (ha : PE X e (J.tE .P ie)) (h1 : starEach [e] X.env = (false, eval e X.env) :: starEach [] X.env) :
    PE X (.Call (.Name "sorted" p) [.Call (.Name "set" p2) [e] [] q] [] pos) (J.tE m (.bi .sortedSet [ie])) := by
  refine PE.imp (pe_sortSetI hc hg hm hg2 hm2 ha h1) fun σ H Q h => ?_
  obtain ⟨g, ρ, S, r, p⟩ := h
  have hq : pureE (.bi .sortedSet [ie]) = (pureE ie && true) := by simp only [pureE, pureEs, Bool.and_true]
  rw [ev_one, hq] at p
  refine tE_bind r p fun v S1 u g1 H1 e1 r1 mr p1 => ?_
  have h := deref_R r1.str mr.R
  cases ed : deref S1 v with
  | lst xs =>
    rw [ed] at p1 h
    simp only [biV] at p1
    cases ei : intsOf xs with
    | none => rw [ei] at p1; exact p1.elim
    | some is =>
      rw [ei] at p1
      simp only at p1
      by_cases hl : is.length < 64
      · rw [if_pos hl] at p1
        obtain ⟨a, us, rfl, ha, hs⟩ := h.lst_of
        have := hs.ints ei
        subst this
        refine ⟨a, is, rfl, .inl (.inl ha), hl, fin_lst r1 (vreps_map fun q _ => ?_) p1⟩
        simp only [VRep]
      · rw [if_neg hl] at p1; exact p1.elim
  | _ => rw [ed] at p1; exact p1.elim
end
end Pv
end

section
set_option Elab.async false
set_option linter.all false
set_option maxRecDepth 100000
set_option autoImplicit false
/-! Pv13c: dict(d): a copy of a dict whose keys are pairs of small numbers. -/
namespace Pv
open PySem PySem.Spec PyProof.Rows L2
section
variable {prog : Program} {w : World} {K : Type} [DecidableEq K] {knd : HeapKind prog w K} {A : Around} {E : Value → Shared → Prop} {s : Shared}
theorem call_dictT {o : Addr} {more : List (K × Addr × Value)} {Q : Value → Shared → Prop} (hu : knd.room A.in1.in1) (hoS : (o == sysModules) = false) (ho : s.heap.DictOfH knd o more) (hp : (s.heap.push { cls := .type "dict", data := .dict #[] }).DictOfH knd o more)
    (hsz : more.length ≤ sizeLine) (hty : ∀ x ∈ more, s.TypeIs (.ref x.2.1) "tuple") (hap : (more.map fun x => knd.hash x.1).Nodup)
    (h : ∀ h', h'.DictOfH knd s.heap.objs.size more → Heap.SameBut s.heap.objs.size (s.heap.push { cls := .type "dict", data := .dict #[] }) h' → Q (.ref s.heap.objs.size) { s with heap := h' }) :
    wpAny (model prog w) A (call (.type "dict") [.ref o]) Q E s := by
  refine callType_codes (Q₁ := fun obj s₁ => obj = .ref s.heap.objs.size ∧ s₁ = { s with heap := s.heap.push { cls := .type "dict", data := .dict #[] } }) F.kt_called_dict (F.kt_typeCall_dict_1 _) F.entry_dict_init (kt_code_dict_new _ ⟨rfl, rfl⟩) ?_
  rintro obj s₁ ⟨rfl, rfl⟩
  have hnew : (s.heap.push { cls := .type "dict", data := .dict #[] }).DictOfH knd s.heap.objs.size [] := ⟨_, #[], 0, Heap.get?_push_size _ rfl, ⟨rfl, rfl, rfl⟩, rfl, rfl, fun _ z => absurd z List.not_mem_nil, List.nodup_nil⟩
  have hn : (more.map (·.1)).Nodup := ho.nodup
  have hdo : s.heap.objs.size ≠ o := by
    obtain ⟨_, _, _, hg, _⟩ := ho
    exact fun e => absurd (Heap.lt_size hg) (by rw [e]; exact Nat.lt_irrefl _)
  refine ⟨hnew.typeIs, F.args_dict_init_2 _ _, ?_⟩
  unfold Builtin.«dict.__init__»
  refine wpAny_bind ?_
  unfold Builtin.Dict.selfAndRest
  refine wpAny_bind (wpAny_notOrdered_dict hnew.typeIs ?_)
  show wpAny _ _ (pure (s.heap.objs.size, [Value.ref o])) _ _ _
  refine wpAny_pure ?_
  show wpAny _ _ (Builtin.Dict.updateFrom "dict.__init__" s.heap.objs.size (.ref o) [] .none) _ _ _
  unfold Builtin.Dict.updateFrom
  refine wpAny_bind (wpAny_typeOf hp.typeIs ?_)
  rw [if_neg (by decide)]
  refine wpAny_bind ?_
  unfold Builtin.Dict.merge
  refine wpAny_bind ?_
  unfold Builtin.Dict.readDirectly
  refine wpAny_bind (wpAny_isInstance hp.typeIs isSubtype_dict_dict ?_)
  simp only [Bool.not_true, Bool.false_eq_true, if_false]
  refine wpAny_bind (wpAny_specialOf hp.typeIs F.slot_dict_iter.lookup (wpAny_pure ?_))
  simp only [beq_self_eq_true, if_true]
  refine wpAny_bind (wpAny_pure ?_)
  refine wpAny_mergeDict_heap (hsz := by simpa using hsz) hu hdo hoS hnew hp (.inr ⟨fun x hx => ?_, hap⟩) fun h' hd' _ hs' => ?_
  · obtain ⟨q, q1, q2⟩ := hty x hx
    exact ⟨q, Heap.get?_push_of_some _ q1, q2⟩
  show wpAny _ _ (Builtin.Dict.addKeywords s.heap.objs.size [] >>= _) _ _ _
  rw [storedAllH_nil_of_nodup more hn] at hd'
  exact wpAny_bind (wpAny_pure (wpAny_pure ⟨rfl, h h' hd' hs'⟩))
end
/-! ### the hashes of pairs of small numbers -/
def gH (i : Nat) : Int := reduceHash (Builtin.Tuple.tupleHashOf [hashInt ((i / 12 : Nat) : Int), hashInt ((i % 12 : Nat) : Int)])
theorem gH_nodup : ((List.range 84).map gH).Nodup := by decide +kernel
theorem gH_inj {i j : Nat} (hi : i < 84) (hj : j < 84) (h : gH i = gH j) : i = j := by
  have := gH_nodup
  rw [List.nodup_iff_pairwise_ne, List.pairwise_map] at this
  rcases Nat.lt_trichotomy i j with z | z | z
  · have q := List.pairwise_iff_getElem.mp this i j (by rw [List.length_range]; exact hi) (by rw [List.length_range]; exact hj) z
    rw [List.getElem_range, List.getElem_range] at q
    exact absurd h q
  · exact z
  · have q := List.pairwise_iff_getElem.mp this j i (by rw [List.length_range]; exact hj) (by rw [List.length_range]; exact hi) z
    rw [List.getElem_range, List.getElem_range] at q
    exact absurd h.symm q
theorem grid_at {P : Program} {w : World} {k : List Key} {ks : List (List Key)} (h : gridK ks = true) (hk : k ∈ ks) : ∃ i, i < 84 ∧ k = [.inl ((i / 12 : Nat) : Int), .inl ((i % 12 : Nat) : Int)] ∧ (tupleKind (mixKind P w)).hash k = gH i := by
  have q := List.all_eq_true.mp h k hk
  split at q
  · rename_i e t
    obtain ⟨h1, h2, h3, h4⟩ := of_decide_eq_true q
    obtain ⟨e, rfl⟩ : ∃ n : Nat, e = (n : Int) := ⟨e.toNat, by omega⟩
    obtain ⟨t, rfl⟩ : ∃ n : Nat, t = (n : Int) := ⟨t.toNat, by omega⟩
    have d1 : (12 * e + t) / 12 = e := by omega
    have d2 : (12 * e + t) % 12 = t := by omega
    refine ⟨12 * e + t, by omega, by rw [d1, d2], ?_⟩
    unfold gH
    rw [d1, d2]
    rfl
  · cases q
theorem grid_nodup {P : Program} {w : World} {ks : List (List Key)} (h : gridK ks = true) (hn : ks.Nodup) : (ks.map (tupleKind (mixKind P w)).hash).Nodup := by
  rw [List.nodup_iff_pairwise_ne, List.pairwise_map]
  refine (List.nodup_iff_pairwise_ne.mp hn).imp_of_mem fun {a b} ha hb hab z => hab ?_
  obtain ⟨i, hi, ea, eh⟩ := grid_at (P := P) (w := w) h ha
  obtain ⟨j, hj, eb, eg⟩ := grid_at (P := P) (w := w) h hb
  rw [eh, eg] at z
  rw [ea, eb, gH_inj hi hj z]
section
variable {X : Cx} {pins : List (Addr × Obj)} {σ : L2.St} {H : Hp} {s : Shared} {a : Addr} {kvs : List (List Key × V)} {A : Around} {E : Value → Shared → Prop}
theorem paired_keys {α β : Type} {P : List Key × V → List Key × Addr × Value → Prop} (hP : ∀ p q, P p q → p.1 = q.1) : ∀ {l : List (List Key × V)} {m : List (List Key × Addr × Value)}, Paired P l m → m.map (·.1) = l.map (·.1) := by
  intro l m q
  induction q with
  | nil => rfl
  | cons h _ ih => rw [List.map_cons, List.map_cons, ih, hP _ _ h]
theorem d_copyOfT {Q : Value → Shared → Prop} (hu : A.units + 2 < cLine) (I : Inv X pins σ H s) (e : Rd H a (.dT kvs)) (hg : gridK (kvs.map (·.1)) = true)
    (h : ∀ p s', H p = none → Inv X pins σ (upd H p (.dT kvs)) s' → Q (.ref p) s') : wpAny (model X.prog X.w) A (call (.type "dict") [.ref a]) Q E s := by
  obtain ⟨z, hd, xs, rel, dd⟩ := dt_rd I.hok e
  have hk : xs.map (·.1) = kvs.map (·.1) := paired_keys (α := Unit) (β := Unit) (fun _ _ q => q.1) rel
  have hlen : xs.length = kvs.length := by rw [← List.length_map (f := (·.1)) (as := xs), hk, List.length_map]
  have hap : ((kvs.map (·.1)).map (tupleKind (mixKind X.prog X.w)).hash).Nodup := grid_nodup hg (by rw [← hk]; exact dd.nodup)
  have hty : ∀ x ∈ xs, s.TypeIs (.ref x.2.1) "tuple" := fun x hx => by
    obtain ⟨_, _, _, _, _, _, _, his, _⟩ := dd
    exact IsTupleKey.typeIs (his x hx)
  have hp : (s.heap.push { cls := .type "dict", data := .dict #[] }).DictOfH (tupleKind (mixKind X.prog X.w)) a xs := by
    obtain ⟨oo, eso, epo, hoo, hco, hdo', he, his, hn⟩ := id dd
    exact ⟨oo, eso, epo, Heap.get?_push_of_some _ hoo, hco, hdo', he, fun y hy => tupleKind_stays.stays (fun b o vs n q _ => Heap.get?_push_of_some _ q) (his y hy), hn⟩
  refine call_dictT (knd := tupleKind (mixKind X.prog X.w)) ?_ hd dd hp (by rw [hlen]; exact z) hty (by rw [← hk, List.map_map] at hap; exact hap) fun h' dd' hs => ?_
  · exact hu
  refine h _ _ (I.hok.fresh (Nat.le_refl _)) (I.laid (a := s.heap.objs.size) (o := .dT kvs) (t' := s.toks) (fun b q hq => ?_) (Nat.le_refl _) ?_)
  · exact (hs.2 b (Nat.ne_of_lt (Heap.lt_size hq))).trans (Heap.get?_push_of_some _ hq)
  · obtain ⟨oo, eso, epo, hoo, hco, hdo', he, his, hn⟩ := dd'
    exact ⟨z, beq_eq_false_iff_ne.mpr (Ne.symm (Nat.ne_of_lt I.big)), xs, rel.keeps fun b ys q => by
      rw [upd_ne (fun z => by rw [z, I.hok.fresh (Nat.le_refl _)] at q; cases q)]
      exact q, oo, eso, epo, hoo, hco, hdo', he, hn⟩
end
section
variable {X : Cx}
def rDictT : List V → Hp → VK → Prop := fun xs H Q => ∃ a kvs, xs = [V.ref a] ∧ Rd H a (.dT kvs) ∧ gridK (kvs.map (·.1)) = true ∧ ∀ p, H p = none → Q (.ref p) (upd H p (.dT kvs))
theorem call_dict_dT (hu : X.A.units + 2 < cLine) : CallR X (.type "dict") rDictT := by
  intro pins s σ H xs us Q I r h
  obtain ⟨a, kvs, rfl, hd, hg, q⟩ := h
  obtain ⟨u, rfl, rx⟩ := r.one
  cases rx
  exact d_copyOfT hu I hd hg fun p s' hp I' => ⟨.ref p, _, I', rfl, q p hp⟩
end
section
variable {J : Jx} {m : Md}
theorem vts_keys {k : Kx} {F : Hp} {ι : Nat → Option Addr} : ∀ {xs : List (List Key × Val)} {us : List (List Key × V)}, VTs k F ι xs us → us.map (·.1) = xs.map (·.1)
  | [], us, h => by simp only [VTs] at h; subst h; rfl
  | (q, x) :: xs, us, h => by
    simp only [VTs] at h
    obtain ⟨u, r, rfl, _, h2⟩ := h
    rw [List.map_cons, List.map_cons, vts_keys h2]
theorem b_dict {ms : List Md} {g : Gh} {H : Hp} {σ : L2.St} {ρ : Env} {S : Store} {vs : List Val} {us : List V} {z : Val} {Q : VK} {kvs : List (List Key × Val)} (hl : vs.length = 1) (r : Rel J.k J.md g σ H ρ S) (mr : MReps J.k g H ms vs us) (hd : vs.map (deref S) = [.dT kvs]) (e : biV .dict (vs.map (deref S)) = some z) (p : J.Post m true g H σ ρ (.ok z S) Q) : rDictT us H Q := by
  obtain ⟨v, u, e1, rfl, h⟩ := one_of hl r.str mr
  rw [e1] at e hd
  cases hd
  simp only [biV] at e
  split at e
  · rename_i hg
    cases e
    obtain ⟨a, us, rfl, ha, hs⟩ := h.dT_of
    exact ⟨a, us, rfl, .inl ha, by rw [vts_keys hs]; exact hg, fin_dT r hs p⟩
  · cases e
end
end Pv
end

section
set_option Elab.async false
set_option linter.all false
set_option maxRecDepth 100000
set_option autoImplicit false
/-! Pv13p: dict(xs) of a list of pairs whose keys are tuples of numbers and texts, each key once. -/
namespace Pv
open PySem PySem.Spec PyProof.Rows L2
section
variable {X : Cx} {pins : List (Addr × Obj)} {σ : L2.St} {H : Hp} {s : Shared}
def PrT (X : Cx) (H : Hp) (p : Addr) (kv : List Key × V) : Prop := ∃ kt, SqT X.K H p [V.ref kt, kv.2] ∧ H kt = some (.tup (kv.1.map kV))
theorem pairs_ofT (I : Inv X pins σ H s) : ∀ {ps : List Addr} {kvs : List (List Key × V)}, Paired (PrT X H) ps kvs →
    ∃ prs : List (List Key × Addr × Value), Paired (fun (p : List Key × V) (q : List Key × Addr × Value) => p.1 = q.1 ∧ H q.2.1 = some (.tup (p.1.map kV)) ∧ RelV p.2 q.2.2) kvs prs ∧ prs.length = ps.length ∧
      ∀ (j : Nat) (q : List Key × Addr × Value), prs[j]? = some q → ∃ b : Addr, ps[j]? = some b ∧ IsTup s.heap b #[.ref q.2.1, q.2.2] ∧ (tupleKind (mixKind X.prog X.w)).is s.heap q.1 q.2.1
  | _, _, .nil => ⟨[], .nil, rfl, fun j q e => by simp at e⟩
  | _, _, .cons (a := p) (b := kv) h t => by
    obtain ⟨prs, r, hl, hp⟩ := pairs_ofT I t
    obtain ⟨kt, h1, h2⟩ := h
    obtain ⟨its, rv, ht, _⟩ := I.tuple h1
    obtain ⟨u, y, ei, ru, ry⟩ := vals2 rv
    subst ei
    cases ru
    refine ⟨(kv.1, kt, y) :: prs, .cons ⟨rfl, h2, ry⟩ r, by rw [List.length_cons, List.length_cons, hl], fun j q e => ?_⟩
    cases j with
    | zero =>
      have e' : (kv.1, kt, y) = q := Option.some.inj e
      subst e'
      exact ⟨p, rfl, ht, L2.key_of I.hok h2⟩
    | succ j =>
      obtain ⟨b, e1, e2, e3⟩ := hp j q (by simpa using e)
      exact ⟨b, by simpa using e1, e2, e3⟩
end
section
variable {X : Cx}
def rDictPT (X : Cx) : List V → Hp → VK → Prop := fun xs H Q => ∃ (a : Addr) (ps : List Addr) (kvs : List (List Key × V)), xs = [V.ref a] ∧ SqL X.K H a (ps.map V.ref) ∧ Paired (PrT X H) ps kvs ∧ (kvs.map (·.1)).Nodup ∧ ∀ p, H p = none → Q (.ref p) (upd H p (.dT kvs))
theorem call_dict_pT (hcalm : X.calm = true) (hu : X.A.units + 2 < cLine) : CallR X (.type "dict") (rDictPT X) := by
  intro pins s σ H xs us Q I r q
  obtain ⟨a, ps, kvs, rfl, hq, hp, hnd, q⟩ := q
  obtain ⟨u, rfl, rx⟩ := r.one
  cases rx
  obtain ⟨its, rv, pl, hz⟩ := I.list hq
  have ei := refs_at rv
  subst ei
  rw [List.length_map] at hz
  obtain ⟨prs, rel, hl, hpr⟩ := pairs_ofT I hp
  have hk : prs.map (·.1) = kvs.map (·.1) := paired_keys (α := Unit) (β := Unit) (fun _ _ q => q.1) rel
  have hlk : kvs.length = prs.length := by rw [← List.length_map (f := (·.1)) (as := kvs), ← hk, List.length_map]
  have hn : (prs.map (·.1)).Nodup := by rw [hk]; exact hnd
  obtain ⟨o, n, ho, hc, hd, hdat⟩ := pl
  let Ts : Nat → Addr := fun j => ps.getD j 0
  have hget : ∀ j q, prs[j]? = some q → ps[j]? = some (Ts j) := fun j q' e => by
    obtain ⟨b, e1, _⟩ := hpr j q' e
    show _ = some (ps.getD j 0)
    rw [List.getD_eq_getElem?_getD, e1]
    rfl
  have hlen : ((prs.map fun x => ((Value.ref x.2.1, x.2.2) : Value × Value))).length = prs.length := List.length_map _
  have P := PairArg.list (prog := X.prog) (w := X.w) a (ps.map Value.ref).toArray Ts (prs.map fun x => (Value.ref x.2.1, x.2.2))
  have hok : PlainSeq "list" s.heap a (ps.map Value.ref).toArray ∧ PairItems s.heap (ps.map Value.ref).toArray Ts (prs.map fun x => (Value.ref x.2.1, x.2.2)) := by
    refine ⟨⟨o, n, ho, hc, hd, hdat⟩, ?_, fun j k v e => ?_⟩
    · rw [hlen, hl, List.size_toArray, List.length_map]
    · rw [List.getElem?_map] at e
      cases e2 : prs[j]? with
      | none => rw [e2] at e; cases e
      | some q' =>
        rw [e2] at e
        cases e
        obtain ⟨b, e3, e4, _⟩ := hpr j q' e2
        have e5 := hget j q' e2
        rw [e3] at e5
        cases e5
        obtain ⟨ot, h1, h2, nn, h3⟩ := e4
        refine ⟨?_, .inl ⟨ot, h1, h2, nn, h3⟩⟩
        rw [List.getElem?_toArray, List.getElem?_map, e3]
        rfl
  have his : ∀ x ∈ prs, (tupleKind (mixKind X.prog X.w)).is s.heap x.1 x.2.1 := fun x hx => by
    obtain ⟨j, hj⟩ := List.getElem?_of_mem hx
    obtain ⟨_, _, _, h⟩ := hpr j x hj
    exact h
  refine call_dict_pairsH (knd := tupleKind (mixKind X.prog X.w)) (ps := prs) P (I.ok.hd hcalm) hu hok ⟨by rw [hlen], fun i k v e => ?_⟩ (fun h' hk' x hx => ?_) (by rw [hlen, hl]; exact hz) fun h' tk hd' hk' => ?_
  · have e : (prs.map fun x => ((Value.ref x.2.1, x.2.2) : Value × Value))[i]? = some (k, v) := e
    rw [List.getElem?_map] at e
    cases e2 : prs[i]? with
    | none => rw [e2] at e; cases e
    | some q' =>
      rw [e2] at e
      cases e
      exact ⟨q'.1, q'.2.1, rfl, rfl⟩
  · exact tupleKind_stays.stays (fun b o vs m e _ => hk' b o (Nat.ne_of_lt (Heap.lt_size e)) (fun z => nomatch z) e) (his x hx)
  · rw [storedAllH_nil_of_nodup prs hn] at hd'
    refine ⟨.ref s.heap.objs.size, upd H s.heap.objs.size (.dT kvs), I.laid (t' := tk) (fun b o e => hk' b o (fun z => nomatch z) e) (Nat.le_refl _) ?_, rfl, q _ (I.hok.fresh (Nat.le_refl _))⟩
    obtain ⟨oo, eso, epo, hoo, hco, hdo', he, his', hn'⟩ := hd'
    exact ⟨by rw [hlk, hl]; exact hz, beq_eq_false_iff_ne.mpr (Nat.ne_of_gt I.big), prs, L2.Paired.mapP rel (fun a b h => ⟨h.1, by
      rw [upd_ne (fun z => by
        have h2 := h.2.1
        rw [z, I.hok.fresh (Nat.le_refl _)] at h2
        cases h2)]
      exact h.2.1, h.2.2⟩), oo, eso, epo, hoo, hco, hdo', he, hn'⟩
end
section
variable {X : Cx} {J : Jx} {m : Md}
/-- the pairs of a list -/
theorem pairs_at {k : Kx} {g : Gh} {H : Hp} : ∀ {xs : List Val} {us : List V} {ps : List (List Key × Val)}, VReps k (fzP g H) g.ι xs us → pairsT xs = some ps →
    ∃ (as : List Addr) (kvs : List (List Key × V)), us = as.map V.ref ∧ Paired (PrT X H) as kvs ∧ VTs k (fzP g H) g.ι ps kvs
  | [], us, ps, h, e => by
    simp only [VReps] at h
    simp only [pairsT, Option.some.injEq] at e
    subst h e
    exact ⟨[], [], rfl, .nil, by simp only [VTs]⟩
  | x :: xs, us, ps, h, e => by
    simp only [VReps] at h
    obtain ⟨u, r, rfl, h1, h2⟩ := h
    unfold pairsT at e
    split at e
    · rename_i z; cases z
    · rename_i ks v rr z
      obtain ⟨rfl, rfl⟩ := List.cons.inj z
      cases ek : keyT ks with
      | none => rw [ek] at e; cases e
      | some q =>
        cases ep : pairsT xs with
        | none => rw [ek, ep] at e; cases e
        | some qs =>
          rw [ek, ep] at e
          cases e
          obtain ⟨as, kvs, rfl, hp, hv⟩ := pairs_at h2 ep
          simp only [VRep, VReps] at h1
          obtain ⟨a, us', rfl, fa, u1, r1, rfl, ⟨kt, uk, rfl, fk, hk⟩, u2, r2, rfl, hv2, rfl⟩ := h1
          have hkq := keys_of hk ek
          subst hkq
          exact ⟨a :: as, (q, u2) :: kvs, rfl, .cons ⟨kt, .inl (.inl (fzP_some fa).2), (fzP_some fk).2⟩ hp, by simp only [VTs]; exact ⟨u2, kvs, rfl, hv2, hv⟩⟩
    · cases e
theorem b_dict2 {ms : List Md} : BiOk J m .dict ms 1 (fun us H Q => rDictT us H Q ∨ rDictPT X us H Q) := by
  intro g H σ ρ S vs us z Q hl r mr e p
  by_cases hd : ∃ kvs, vs.map (deref S) = [.dT kvs]
  · obtain ⟨kvs, hd⟩ := hd
    exact .inl (b_dict hl r mr hd e p)
  · obtain ⟨v, u, e1, rfl, h⟩ := one_of hl r.str mr
    rw [e1] at e
    right
    cases v with
    | dT kvs => exact absurd ⟨kvs, e1⟩ hd
    | lst xs =>
      simp only [biV] at e
      cases ep : pairsT xs with
      | none => rw [ep] at e; cases e
      | some ps =>
        rw [ep] at e
        simp only at e
        split at e
        · rename_i hn
          cases e
          obtain ⟨a, us, rfl, ha, hs⟩ := h.lst_of
          obtain ⟨as, kvs, rfl, hp, hv⟩ := pairs_at (X := X) hs ep
          exact ⟨a, as, kvs, rfl, .inl (.inl ha), hp, by rw [vts_keys hv]; exact hn, fin_dT r hv p⟩
        · cases e
    | _ => cases e
end
end Pv
end

section
set_option Elab.async false
set_option linter.all false
set_option maxRecDepth 100000
set_option autoImplicit false
/-! Pv13r: list(reversed(x)) of a list. -/
namespace Pv
open PySem PySem.Spec PyProof.Rows L2
section
variable {prog : Program} {w : World} {A : Around} {E : Value → Shared → Prop} {s : Shared}
theorem extend_rev {it l : Addr} {items : Array Value} {R : Result → Shared → Prop} (hh : A.handled = none) (hit : s.heap.IsRevIter it l ((items.size : Int) - 1)) (hl : s.heap.IsList l items) (hne : l ≠ it) (hn : items.size ≤ sizeLine) (S : Addr) (hSi : S ≠ it) (hSl : S ≠ l) (res : Value) (c₀ : Nat) (hS : s.heap.get? S = some { cls := .type "list", data := .seq #[] c₀ })
    (hR : ∀ h' tk acc' c', (∀ b o, b ≠ it → b ≠ S → s.heap.get? b = some o → h'.get? b = some o) → h'.get? S = some { cls := .type "list", dict := none, data := .seq acc' c', slots := #[] } →
      ItemsOf (fun i v => items[items.size - 1 - i]? = some v) acc' items.size → R (.ok (.ret res)) { s with heap := h', toks := tk }) :
    wpAny (model prog w) A.in1 (Builtin.List.listExtendWith (.ref S) (.ref it) res)
      (fun fin s' => match fin with | .done f => R (.ok f) s' | .again c' => c'.quiet = true ∧ codeAny (model prog w) A c' R s') (fun e s' => R (.error e) s') s := by
  have W := (Walks.listRev (prog := prog) (w := w) (A := A.in1) hh it l hne items).toS
  have hSf : S ∉ [it, l] := by simp only [List.mem_cons, List.not_mem_nil, or_false, not_or]; exact ⟨hSi, hSl⟩
  have hT : s.TypeIs (.ref it) "list_reverseiterator" := hit.typeIs
  have h1 : Builtin.List.listSameRef (.ref S) (.ref it) = false := by simp [Builtin.List.listSameRef, hSi]
  unfold Builtin.List.listExtendWith
  refine wpAny_bind (wpAny_typeOf hT ?_)
  rw [if_neg (by rw [h1]; decide)]
  refine wpAny_bind (wpAny_pyIter_revIter hit ?_)
  refine wpAny_bind (wpAny_holding ?_)
  unfold Builtin.List.listLengthHint
  refine wpAny_bind (wpAny_specialOf hT RT.nolen_lri ?_)
  show wpAny _ A.in1 (specialOf (Value.ref it) (Str.ofString "__length_hint__") >>= _) _ _ _
  refine wpAny_bind (wpAny_specialOf hT RT.hint_lri ?_)
  generalize hid : ("list_reverseiterator.__length_hint__" : String) = id0
  wp_delta
  rw [show splitId id0 = some ("list_reverseiterator", "__length_hint__") from by subst hid; decide +kernel]
  subst hid
  refine wpAny_bind (wpAny_isInstance (b := true) hT (by rw [isSubtype_type]; kernel_rfl) ?_)
  refine wpAny_pure ?_
  rw [if_neg (by decide)]
  have e0 : ((items.size : Nat) : Int) - 1 - ((0 : Nat) : Int) = (items.size : Int) - 1 := by omega
  refine wpAny_pure ⟨plainId_quiet F.plain_extend_loop _, codeAny_extend_loopS W hn _ hSf _ items.size 0 _ _ _ rfl (Nat.zero_le _) ⟨Nat.zero_le _, by rw [e0]; exact hit, hl⟩ hS (ItemsOf.nil _) fun s' acc' c' hm hS' hacc => ?_⟩
  rw [Moved.eq_with hm]
  refine hR s'.heap s'.toks acc' c' (fun b o hb hb2 e => hm.heap b o (fun hmem => ?_) e) hS' hacc
  rcases List.mem_cons.mp hmem with e' | hmem
  · exact hb2 e'
  · exact hb (List.mem_singleton.mp hmem)
theorem init_rev {it l : Addr} {items : Array Value} {R : Result → Shared → Prop} (hh : A.handled = none) (hit : s.heap.IsRevIter it l ((items.size : Int) - 1)) (hl : s.heap.IsList l items) (hne : l ≠ it) (hn : items.size ≤ sizeLine) (S : Addr) (hSi : S ≠ it) (hSl : S ≠ l) (hS : s.heap.get? S = some { cls := .type "list", data := .seq #[] })
    (hR : ∀ h' tk acc' c', (∀ b o, b ≠ it → b ≠ S → s.heap.get? b = some o → h'.get? b = some o) → h'.get? S = some { cls := .type "list", dict := none, data := .seq acc' c', slots := #[] } →
      ItemsOf (fun i v => items[items.size - 1 - i]? = some v) acc' items.size → R (.ok (.ret .none)) { s with heap := h', toks := tk }) :
    wpAny (model prog w) A.in1 (Builtin.«list.__init__» ⟨[.ref S, .ref it], []⟩)
      (fun fin s' => match fin with | .done f => R (.ok f) s' | .again c' => c'.quiet = true ∧ codeAny (model prog w) A c' R s') (fun e s' => R (.error e) s') s := by
  show wpAny _ _ (do let old ← Builtin.List.listItems (.ref S); Builtin.List.listUpdate (.ref S) (fun _ => #[]); letGo old.toList.reverse; Builtin.List.listExtendWith (.ref S) (.ref it) .none) _ _ s
  refine wpAny_bind ?_
  unfold Builtin.List.listItems
  refine wpAny_bind (wpAny_seqItems hS rfl (wpAny_pure ?_))
  show wpAny _ _ (updateSeq S (fun _ => #[]) >>= fun _ => letGo (#[] : Array Value).toList.reverse >>= fun _ => Builtin.List.listExtendWith (.ref S) (.ref it) .none) _ _ s
  refine wpAny_bind (wpAny_updateSeq hS rfl ?_)
  have hS₂ := Heap.get?_update_self (Obj.mapSeq (fun _ => (#[] : Array Value))) hS rfl
  have oth : ∀ b o, b ≠ S → s.heap.get? b = some o → (s.heap.update S (Obj.mapSeq (fun _ => (#[] : Array Value)))).get? b = some o :=
    fun b o hb e => (Heap.get?_update_other _ _ (Ne.symm hb)).trans e
  refine wpAny_bind (wpAny_letGo ?_)
  refine extend_rev hh (hit.at fun o e => oth it o (Ne.symm hSi) e) (hl.at fun o e => oth l o (Ne.symm hSl) e) hne hn S hSi hSl .none _ hS₂ fun h' tk acc' c' hk hS' hacc => ?_
  exact hR h' tk acc' c' (fun b o hb hb2 e => hk b o hb hb2 (oth b o hb2 e)) hS' hacc
end
section
variable {prog : Program} {w : World} {A : Around} {E : Value → Shared → Prop} {s : Shared}
theorem call_list_rev {it l : Addr} {items : Array Value} {Q : Value → Shared → Prop} (hh : A.handled = none) (hit : s.heap.IsRevIter it l ((items.size : Int) - 1)) (hl : s.heap.IsList l items) (hne : l ≠ it) (hn : items.size ≤ sizeLine)
    (hQ : ∀ h' tk acc' c', (∀ b o, b ≠ it → s.heap.get? b = some o → h'.get? b = some o) →
      h'.get? s.heap.objs.size = some { cls := .type "list", dict := none, data := .seq acc' c', slots := #[] } → ItemsOf (fun i v => items[items.size - 1 - i]? = some v) acc' items.size → Q (.ref s.heap.objs.size) { s with heap := h', toks := tk }) :
    wpAny (model prog w) A (call (.type "list") [.ref it]) Q E s := by
  refine callType_codes (Q₁ := fun obj s₁ => obj = .ref s.heap.objs.size ∧ s₁ = { s with heap := s.heap.push { cls := .type "list", data := .seq #[] } }) F.called_list (F.typeCall_list_1 _) F.entry_list_init
    (code_list_new _ ⟨rfl, rfl⟩) fun obj s₁ h₁ => ?_
  obtain ⟨rfl, rfl⟩ := h₁
  obtain ⟨oi, hoi, _⟩ := id hit
  obtain ⟨ol, hol, _⟩ := id hl
  have hS : (s.heap.push { cls := .type "list", data := .seq #[] }).get? s.heap.objs.size = some { cls := .type "list", data := .seq #[] } := Heap.get?_push_size _ rfl
  refine ⟨⟨_, hS, rfl⟩, F.args_list_init_2 _ _, init_rev (A := A.in1) hh (hit.at fun o e => Heap.get?_push_of_some _ e) (hl.push _) hne hn _ (Nat.ne_of_gt (Heap.lt_size hoi)) (Nat.ne_of_gt (Heap.lt_size hol)) hS fun h' tk acc' c' hk hS' hacc => ?_⟩
  exact ⟨rfl, hQ h' tk acc' c' (fun b o hb e => hk b o hb (Nat.ne_of_lt (Heap.lt_size e)) (Heap.get?_push_of_some _ e)) hS' hacc⟩
end
section
variable {X : Cx}
def tLstRev (K : PySem.W.Frag) (te : TE) : TE := fun σ H Q => te σ H fun v H1 => ∃ (a : Addr) (xs : List V), v = .ref a ∧ SqL K H1 a xs ∧ ∀ q, H1 q = none → Q (.ref q) (upd H1 q (.lst xs.reverse))
theorem pe_lstRev {e : Expr} {te : TE} {p p2 pos pos2 : Pos} (hc : X.calm = true) (hg : Gl X "list") (hm : X.mg "list" = none) (hg2 : Gl X "reversed") (hm2 : X.mg "reversed" = none) (he : PE X e te)
    (hs : starEach [e] X.env = (false, eval e X.env) :: starEach [] X.env) :
    PE X (.Call (.Name "list" p) [.Call (.Name "reversed" p2) [e] [] pos2] [] pos) (tLstRev X.K te) := by
  have hs2 : starEach [.Call (.Name "reversed" p2) [e] [] pos2] X.env = (false, eval (.Call (.Name "reversed" p2) [e] [] pos2) X.env) :: starEach [] X.env := rfl
  refine ⟨fun pins s σ H Q I h => ?_⟩
  refine Call_ (ld_blt I hg hm boot_list (PyProof.Rows.callWith_type1 (args_cons (Call_ (ld_blt I hg2 hm2 PyProof.Rows.boot_reversed (PyProof.Rows.callWith_type1 (args_cons (thn (he.run pins s σ H _ I h) fun u s1 ⟨v, H1, I1, r1, q1⟩ => args_nil ?_) hs) hs rfl))) hs2) hs2 rfl))
  obtain ⟨a, xs, ev, hq, q⟩ := q1
  subst ev
  obtain rfl : u = Value.ref a := r1
  obtain ⟨its, rv, p', hz⟩ := I1.list hq
  refine call_reversed_list p'.isList (args_nil ?_)
  have k0 : ∀ b o, s1.heap.get? b = some o → (s1.heap.push (revObj a ((its.toArray.size : Int) - 1))).get? b = some o := fun b o e => Heap.get?_push_of_some _ e
  have I2 : Inv X pins σ H1 { s1 with heap := s1.heap.push (revObj a ((its.toArray.size : Int) - 1)) } := I1.kept (t' := s1.toks) k0
  obtain ⟨f0, f1, f2, f3, f4, f5⟩ := I1.fpOk (H' := H1) (b := s1.heap.objs.size) (Nat.le_refl _) (I1.hok.fresh (Nat.le_refl _))
  have hl := p'.isList
  obtain ⟨ol, hol, _⟩ := id hl
  have hne : a ≠ s1.heap.objs.size := Nat.ne_of_lt (Heap.lt_size hol)
  have hn : its.toArray.size ≤ sizeLine := by rw [List.size_toArray, ← rv.length]; exact hz
  refine call_list_rev (s := { s1 with heap := s1.heap.push (revObj a ((its.toArray.size : Int) - 1)) }) (I1.ok.hd hc) ⟨_, Heap.get?_push_size _ rfl, rfl, rfl⟩ (hl.push _) hne hn fun h' tk acc c' hk hS hi => ?_
  have hk1 : ∀ b o, s1.heap.get? b = some o → h'.get? b = some o := fun b o e => hk b o (Nat.ne_of_lt (Heap.lt_size e)) (k0 b o e)
  have hle : s1.heap.objs.size ≤ (s1.heap.push (revObj a ((its.toArray.size : Int) - 1))).objs.size := by
    show _ ≤ (s1.heap.objs.push _).size
    rw [Array.size_push]
    exact Nat.le_succ _
  exact ⟨.ref _, upd H1 _ (.lst xs.reverse), I1.laid (t' := tk) hk1 hle (show ObjOk X.prog X.w _ _ _ (.lst xs.reverse) from ⟨by rw [List.length_reverse]; exact hz, acc.toList, c', RT.vals_rev rv hi, by rw [Array.toArray_toList]; exact hS⟩), rfl, q _ (I1.hok.fresh hle)⟩
end
end Pv
end

section
set_option Elab.async false
set_option linter.all false
set_option maxRecDepth 100000
set_option autoImplicit false
/-! Pv18j: list(reversed(x)). -/
namespace Pv
open PySem PySem.Spec PyProof.Rows L2
theorem vreps_snoc {k : Kx} {F : Hp} {ι : Nat → Option Addr} : ∀ {xs : List Val} {us : List V} {x : Val} {u : V}, VReps k F ι xs us → VRep k F ι x u → VReps k F ι (xs ++ [x]) (us ++ [u])
  | [], us, x, u, h, hx => by
    simp only [VReps] at h
    subst h
    simp only [List.nil_append, VReps]
    exact ⟨u, [], rfl, hx, rfl⟩
  | y :: ys, us, x, u, h, hx => by
    simp only [VReps] at h
    obtain ⟨w, r, rfl, h1, h2⟩ := h
    simp only [List.cons_append, VReps]
    exact ⟨w, r ++ [u], rfl, h1, vreps_snoc h2 hx⟩
theorem vreps_rev {k : Kx} {F : Hp} {ι : Nat → Option Addr} : ∀ {xs : List Val} {us : List V}, VReps k F ι xs us → VReps k F ι xs.reverse us.reverse
  | [], us, h => by
    simp only [VReps] at h
    subst h
    simp only [List.reverse_nil, VReps]
  | y :: ys, us, h => by
    simp only [VReps] at h
    obtain ⟨w, r, rfl, h1, h2⟩ := h
    rw [List.reverse_cons, List.reverse_cons]
    exact vreps_snoc (vreps_rev h2) h1
section
variable {X : Cx} {J : Jx} {m : Md} {pos : Pos}
theorem s_lstRev {e : Expr} {ie : E} {p p2 pos2 : Pos} (hc : X.calm = true) (hg : Gl X "list") (hm : X.mg "list" = none) (hg2 : Gl X "reversed") (hm2 : X.mg "reversed" = none) (he : PE X e (J.tE .B ie))
    (hs : starEach [e] X.env = (false, eval e X.env) :: starEach [] X.env) :
    PE X (.Call (.Name "list" p) [.Call (.Name "reversed" p2) [e] [] pos2] [] pos) (J.tE m (.bi .listR [.rev ie])) := by
  refine PE.imp (pe_lstRev hc hg hm hg2 hm2 he hs) fun σ H Q h => ?_
  obtain ⟨g, ρ, S, r, p⟩ := h
  have hq : pureE (.bi .listR [.rev ie]) = (pureE ie && true) := by simp only [pureE, pureEs, Bool.and_true]
  have ev : evE J.x (.bi .listR [.rev ie]) ρ S = (evE J.x ie ρ S).bind fun v S1 => match v with
      | .lst xs => if szb xs.reverse.length = true then .ok (.lst xs.reverse) S1 else .stuck
      | _ => .stuck := by
    simp only [evE, evs]
    cases evE J.x ie ρ S with
    | exn c S1 => rfl
    | stuck => rfl
    | ok v S1 =>
      simp only [_root_.Pv.R.bind]
      cases v with
      | lst xs =>
        simp only [_root_.Pv.R.bind, List.map_cons, List.map_nil, deref, biV]
        split <;> rfl
      | _ => rfl
  rw [ev, hq] at p
  refine tE_bindS r p fun v S1 u g1 H1 e1 r1 st1 mr1 p1 => ?_
  cases v with
  | lst xs =>
    simp only at p1
    split at p1
    · obtain ⟨a, us, rfl, ha, hs⟩ := mr1.R.lst_of
      exact ⟨a, us, rfl, .inl (.inl ha), fin_lst r1 (vreps_rev hs) p1⟩
    · exact p1.elim
  | _ => exact p1.elim
end
end Pv
end

section
set_option Elab.async false
set_option linter.all false
set_option maxRecDepth 100000
set_option autoImplicit false
/-! Pv18k: isinstance(e, (A, B, ..)) of a suite's exception. -/
namespace Pv
open PySem PySem.Spec PyProof.Rows L2
def rIsET (K : PySem.W.Frag) (D a : Addr) : List V → Hp → VK → Prop := fun xs H Q => ∃ (tp : Addr) (cs : List V) (us : List Value) (b : Bool), xs = [.ref a, .ref tp] ∧ H tp = some (.tup cs) ∧ (∀ ws, Vals cs ws → ws = us) ∧ PySem.W.kitAny K (.ref D) us = some b ∧ Q (.bl b) H
theorem call_isET {X : Cx} {a D : Addr} {oe : Obj} {pn : List (Addr × Obj)} (C : ExcC X.K D) (hz : Zc (.ref D) none oe) (hf : ∃ vs, oe.data = .fields vs) : CallR (X.suite a ((a, oe) :: pn)) (.builtin "isinstance") (rIsET X.K D a) := by
  intro pins s σ H xs us Q I r h
  obtain ⟨tp, cs, ws, b, rfl, hT, hcs, e, q⟩ := h
  obtain ⟨u1, u2, rfl, r1, r2⟩ := vals2 r
  cases (show u2 = Value.ref tp from r2)
  cases (show u1 = Value.ref a from r1)
  obtain ⟨hget, _⟩ := I.pin (a, oe) (List.mem_append.mpr (.inl List.mem_cons_self))
  obtain ⟨vs, hv⟩ := hf
  have J : PySem.W.InstAt s.heap a oe D none := by
    obtain ⟨oc, od, oda, osl⟩ := oe
    obtain ⟨h1, h2⟩ := hz
    dsimp only at h1 h2 hv
    subst h1 h2 hv
    exact ⟨hget, rfl, rfl, trivial⟩
  obtain ⟨_, its, rv, o, h1, h2, n, h3⟩ := (show ObjOk X.prog X.w H s.heap tp (.tup cs) from I.hok tp _ hT)
  have e3 := hcs _ rv
  subst e3
  obtain ⟨oc, od, dt, sl⟩ := o
  simp only at h2 h3
  subst h2 h3
  exact PySem.W.kia_tup (PySem.W.handS_kitx_exc C.hg C.hk C.hs C.hd C.ha C.hn C.ht C.hm) I.kIn J h1 e (fun z => nomatch z) fun tk => ⟨.bl b, H, I.kept (t' := tk) fun _ _ z => z, rfl, q⟩
end Pv
end

section
set_option Elab.async false
set_option linter.all false
set_option maxRecDepth 100000
set_option autoImplicit false
/-! Pv8c: a op b op c op d. -/
namespace Pv
open PySem PySem.Spec PyProof.Rows L2
section
variable {X : Cx} {J : Jx} {m : Md} {pos : Pos}
def tChain3 (r1 r2 r3 : R2) (ta tb tc td : TE) : TE := fun σ H Q => ta σ H fun x H1 => tb σ H1 fun y H2 => r1 x y H2 fun z H3 => ∃ k, z = .bl k ∧
  (if k = true then tc σ H3 fun u H4 => r2 y u H4 fun z2 H5 => ∃ k2, z2 = .bl k2 ∧ (if k2 = true then td σ H5 fun t H6 => r3 u t H6 Q else Q (.bl false) H5) else Q (.bl false) H3)
theorem pe_chain3 {a b c d : Expr} {ta tb tc td : TE} {op1 op2 op3 : CmpOp} {r1 r2 r3 : R2} (ho1 : OpR X (compareOp op1) r1) (ho2 : OpR X (compareOp op2) r2) (ho3 : OpR X (compareOp op3) r3) (ha : PE X a ta) (hb : PE X b tb) (hc : PE X c tc) (hd : PE X d td)
    (hm : lastMarks [op1, op2, op3] [b, c, d] = false) : PE X (.Compare a [op1, op2, op3] [b, c, d] pos) (tChain3 r1 r2 r3 ta tb tc td) := by
  refine ⟨fun pins s σ H Q I h => ?_⟩
  refine Compare_chain (thn (ha.run pins s σ H _ I h) fun v s1 ⟨x, H1, I1, r1, q1⟩ => chain_link (thn (hb.run pins s1 σ H1 _ I1 q1) fun u s2 ⟨y, H2, I2, r2, q2⟩ =>
    thn (ho1 pins s2 σ H2 x y v u _ I2 r1 r2 q2) fun d s3 ⟨z, H3, I3, r3, k, e, q3⟩ => ?_)) hm
  subst e
  cases r3
  refine wpAny_truthy_bool ?_
  cases k with
  | false => exact ite_ff ⟨.bl false, H3, I3, rfl, q3⟩
  | true =>
    refine ite_tt (chain_link (thn (hc.run pins s3 σ H3 _ I3 q3) fun w' s4 ⟨z', H4, I4, r4, q4⟩ => thn (ho2 pins s4 σ H4 y z' u w' _ I4 r2 r4 q4) fun d2 s5 ⟨z2, H5, I5, r5, k2, e2, q5⟩ => ?_))
    subst e2
    cases r5
    refine wpAny_truthy_bool ?_
    cases k2 with
    | false => exact ite_ff ⟨.bl false, H5, I5, rfl, q5⟩
    | true => exact ite_tt (chain_last (thn (hd.run pins s5 σ H5 _ I5 q5) fun t' s6 ⟨tt, H6, I6, r6, q6⟩ => ho3 pins s6 σ H6 z' tt w' t' Q I6 r4 r6 q6))
theorem pt_chain3 {a b c d : Expr} {ta tb tc td : TE} {op1 op2 op3 : CmpOp} {r1 r2 r3 : R2} (ho1 : OpR X (compareOp op1) r1) (ho2 : OpR X (compareOp op2) r2) (ho3 : OpR X (compareOp op3) r3) (ha : PE X a ta) (hb : PE X b tb) (hc : PE X c tc) (hd : PE X d td)
    (hm : lastMarks [op1, op2, op3] [b, c, d] = false) : PT X (.Compare a [op1, op2, op3] [b, c, d] pos) (tTest (tChain3 r1 r2 r3 ta tb tc td)) := by
  refine ⟨fun pins s σ H Q I h => ?_⟩
  refine isTrue_chain (thn (ha.run pins s σ H _ I h) fun v s1 ⟨x, H1, I1, r1, q1⟩ => test_link (thn (hb.run pins s1 σ H1 _ I1 q1) fun u s2 ⟨y, H2, I2, r2, q2⟩ =>
    thn (ho1 pins s2 σ H2 x y v u _ I2 r1 r2 q2) fun d s3 ⟨z, H3, I3, r3, k, e, q3⟩ => ?_)) hm
  subst e
  cases r3
  refine wpAny_truthy_bool ?_
  cases k with
  | false =>
    obtain ⟨k', e', q'⟩ := q3
    cases e'
    exact ite_ff ⟨H3, I3, q'⟩
  | true =>
    refine ite_tt (test_link (thn (hc.run pins s3 σ H3 _ I3 q3) fun w' s4 ⟨z', H4, I4, r4, q4⟩ => thn (ho2 pins s4 σ H4 y z' u w' _ I4 r2 r4 q4) fun d' s5 ⟨z2, H5, I5, r5, k2, e2, q5⟩ => ?_))
    subst e2
    cases r5
    refine wpAny_truthy_bool ?_
    cases k2 with
    | false =>
      obtain ⟨k', e', q'⟩ := q5
      cases e'
      exact ite_ff ⟨H5, I5, q'⟩
    | true =>
      refine ite_tt (test_last (thn (hd.run pins s5 σ H5 _ I5 q5) fun t' s6 ⟨tt, H6, I6, r6, q6⟩ => thn (ho3 pins s6 σ H6 z' tt w' t' _ I6 r4 r6 q6) fun d3 s7 ⟨z3, H7, I7, r7, k3, e3, q7⟩ => ?_))
      subst e3
      cases r7
      exact wpAny_truthy_bool ⟨H7, I7, q7⟩
theorem ch3_imp {o1 o2 o3 : Cp} {ia ib ic id : E} (n1 : isIn o1 = false) (n2 : isIn o2 = false) (n3 : isIn o3 = false) (σ : L2.St) (H : Hp) (Q : VK) (h : J.tE m (.ch3 o1 o2 o3 ia ib ic id) σ H Q) :
    tChain3 (rCp X.K o1) (rCp X.K o2) (rCp X.K o3) (J.tE .B ia) (J.tE .B ib) (J.tE .B ic) (J.tE .B id) σ H Q := by
  obtain ⟨g, ρ, S, r, p⟩ := h
  have hq : pureE (.ch3 o1 o2 o3 ia ib ic id) = (pureE ia && (pureE ib && (pureE ic && (pureE id && true)))) := by simp only [pureE, Bool.and_true]
  simp only [evE] at p
  rw [hq] at p
  refine tE_bindS r p fun v S1 u1 g1 H1 e1 r1 st1 mr1 p1 => ?_
  refine tE_bindS r1 p1 fun w S2 u2 g2 H2 e2 r2 st2 mr2 p2 => ?_
  have mr1' := st2.mB mr1
  cases ec : cpV o1 v w with
  | none => simp only [ec] at p2; exact p2.elim
  | some bb =>
    simp only [ec] at p2
    refine cp_r mr1'.R mr2.R ec (fun z => absurd z (isIn_no n1)) ⟨bb, rfl, ?_⟩
    cases bb with
    | false =>
      simp only [Bool.false_eq_true, if_false] at p2 ⊢
      exact fin_V r2 (fun m => MRep.bl _) (post_q p2)
    | true =>
      simp only [if_true] at p2 ⊢
      refine tE_bindS r2 p2 fun x S3 u3 g3 H3 e3 r3 st3 mr3 p3 => ?_
      cases ec2 : cpV o2 w x with
      | none => simp only [ec2] at p3; exact p3.elim
      | some b2 =>
        simp only [ec2] at p3
        refine cp_r (st3.mB mr2).R mr3.R ec2 (fun z => absurd z (isIn_no n2)) ⟨b2, rfl, ?_⟩
        cases b2 with
        | false =>
          simp only [Bool.false_eq_true, if_false] at p3 ⊢
          exact fin_V r3 (fun m => MRep.bl _) (post_q p3)
        | true =>
          simp only [if_true] at p3 ⊢
          refine tE_bindS r3 p3 fun t S4 u4 g4 H4 e4 r4 st4 mr4 p4 => ?_
          cases ec3 : cpV o3 x t with
          | none => simp only [ec3] at p4; exact p4.elim
          | some b3 =>
            simp only [ec3] at p4
            exact cp_r (st4.mB mr3).R mr4.R ec3 (fun z => absurd z (isIn_no n3)) (fin_V r4 (fun m => MRep.bl _) p4)
theorem s_ch3 {o1 o2 o3 : Cp} {a b c d : Expr} {ia ib ic id : E} (hu : X.A.units + 65 < cLine) (n1 : isIn o1 = false) (n2 : isIn o2 = false) (n3 : isIn o3 = false) (ha : PE X a (J.tE .B ia)) (hb : PE X b (J.tE .B ib)) (hc : PE X c (J.tE .B ic)) (hd : PE X d (J.tE .B id))
    (hm : lastMarks [cpS o1, cpS o2, cpS o3] [b, c, d] = false) : PE X (.Compare a [cpS o1, cpS o2, cpS o3] [b, c, d] pos) (J.tE m (.ch3 o1 o2 o3 ia ib ic id)) :=
  PE.imp (pe_chain3 (opr_cp hu o1) (opr_cp hu o2) (opr_cp hu o3) ha hb hc hd hm) (ch3_imp n1 n2 n3)
theorem t_ch3 {o1 o2 o3 : Cp} {a b c d : Expr} {ia ib ic id : E} (hu : X.A.units + 65 < cLine) (n1 : isIn o1 = false) (n2 : isIn o2 = false) (n3 : isIn o3 = false) (ha : PE X a (J.tE .B ia)) (hb : PE X b (J.tE .B ib)) (hc : PE X c (J.tE .B ic)) (hd : PE X d (J.tE .B id))
    (hm : lastMarks [cpS o1, cpS o2, cpS o3] [b, c, d] = false) : PT X (.Compare a [cpS o1, cpS o2, cpS o3] [b, c, d] pos) (J.tT (.ch3 o1 o2 o3 ia ib ic id)) :=
  PT.imp (pt_chain3 (opr_cp hu o1) (opr_cp hu o2) (opr_cp hu o3) ha hb hc hd hm) fun σ H Q h => ch3_imp n1 n2 n3 σ H _ h
end
end Pv
end

section
set_option Elab.async false
set_option linter.all false
set_option maxRecDepth 100000
set_option autoImplicit false
/-! Pv13z: min, max with default=0. -/
namespace Pv
open PySem PySem.Spec PyProof.Rows L2
section
variable {X : Cx} {J : Jx} {m : Md} {pos : Pos}
def optZ (f : Int → List Int → Int) : List Int → V
  | [] => .int 0
  | i :: is => .int (f i is)
def rMnZ (K : PySem.W.Frag) (f : Int → List Int → Int) : List V → List V → Hp → VK → Prop := fun vs zs H Q => ∃ (a : Addr) (ns : List Int), vs = [V.ref a] ∧ zs = [V.int 0] ∧ SqL K H a (ns.map V.int) ∧ Q (optZ f ns) H
theorem cr_minZ (hc : X.calm = true) (hu : X.A.units + 65 < cLine) : CallRK X (.builtin "min") [Str.ofString "default"] (rMnZ X.K minI) := by
  intro pins s σ H vs zs us ws Q I r rz h
  obtain ⟨a, ns, rfl, rfl, hs, q⟩ := h
  obtain rfl := Vals.ref1 r
  obtain ⟨w1, rfl, e1⟩ := vals1 rz
  obtain ⟨its, rv, hl, _⟩ := I.list hs
  have hi := rv.ints
  refine PySem.W.min_list_datum_default (α := Int) (xs := ns) (I.ok.hd hc) hl.isList (by simpa using ints_hold hi) (by
    have : PySem.W.Datum.depth Int ≤ 60 := by decide
    omega) (fun e h' tk hk => ?_) fun y ys i v h' tk e hi' hv hk => ?_
  · subst e
    exact ⟨.int 0, H, I.kept hk, e1, q⟩
  · subst e
    obtain ⟨t, rfl⟩ := PySem.W.int_of_holds hv
    rw [minOf_eq]
    exact ⟨.int _, H, I.kept hk, ⟨_, rfl⟩, q⟩
theorem cr_maxZ (hc : X.calm = true) (hu : X.A.units + 65 < cLine) : CallRK X (.builtin "max") [Str.ofString "default"] (rMnZ X.K maxI) := by
  intro pins s σ H vs zs us ws Q I r rz h
  obtain ⟨a, ns, rfl, rfl, hs, q⟩ := h
  obtain rfl := Vals.ref1 r
  obtain ⟨w1, rfl, e1⟩ := vals1 rz
  obtain ⟨its, rv, hl, _⟩ := I.list hs
  have hi := rv.ints
  refine PySem.W.max_list_datum_default (α := Int) (xs := ns) (I.ok.hd hc) hl.isList (by simpa using ints_hold hi) (by
    have : PySem.W.Datum.depth Int ≤ 60 := by decide
    omega) (fun e h' tk hk => ?_) fun y ys i v h' tk e hi' hv hk => ?_
  · subst e
    exact ⟨.int 0, H, I.kept hk, e1, q⟩
  · subst e
    obtain ⟨t, rfl⟩ := PySem.W.int_of_holds hv
    rw [maxOf_eq]
    exact ⟨.int _, H, I.kept hk, ⟨_, rfl⟩, q⟩
theorem b_minZ {g : Gh} {H : Hp} {σ : L2.St} {ρ : Env} {S : Store} {v : Val} {u : V} {Q : VK} (r : Rel J.k J.md g σ H ρ S) {z : Val} (h : RRep J.k g H v u) (e : biV .minZ [v] = some z) (p : J.Post m true g H σ ρ (.ok z S) Q) : rMnZ X.K minI [u] [V.int 0] H Q := by
  cases v <;> try cases e
  rename_i xs
  simp only [biV] at e
  obtain ⟨a, us, rfl, ha, hs⟩ := h.lst_of
  split at e
  · rename_i i is ei
    cases e
    have := hs.ints ei
    subst this
    exact ⟨a, i :: is, rfl, rfl, .inl (.inl ha), fin_V r (fun m => MRep.int _) p⟩
  · rename_i ei
    cases e
    have := hs.ints ei
    subst this
    exact ⟨a, [], rfl, rfl, .inl (.inl ha), fin_V r (fun m => MRep.int _) p⟩
  · cases e
theorem b_maxZ {g : Gh} {H : Hp} {σ : L2.St} {ρ : Env} {S : Store} {v : Val} {u : V} {Q : VK} (r : Rel J.k J.md g σ H ρ S) {z : Val} (h : RRep J.k g H v u) (e : biV .maxZ [v] = some z) (p : J.Post m true g H σ ρ (.ok z S) Q) : rMnZ X.K maxI [u] [V.int 0] H Q := by
  cases v <;> try cases e
  rename_i xs
  simp only [biV] at e
  obtain ⟨a, us, rfl, ha, hs⟩ := h.lst_of
  split at e
  · rename_i i is ei
    cases e
    have := hs.ints ei
    subst this
    exact ⟨a, i :: is, rfl, rfl, .inl (.inl ha), fin_V r (fun m => MRep.int _) p⟩
  · rename_i ei
    cases e
    have := hs.ints ei
    subst this
    exact ⟨a, [], rfl, rfl, .inl (.inl ha), fin_V r (fun m => MRep.int _) p⟩
  · cases e
theorem s_mnZ {b : Bi} {e : Expr} {ie : E} {p p2 kp : Pos} {j : Nat} {x : Str} (hb : (b = .minZ ∧ x = "min") ∨ (b = .maxZ ∧ x = "max")) (hc : X.calm = true) (hu : X.A.units + 65 < cLine) (hg : Gl X x) (hm : X.mg x = none) (ha : PA X [e] (J.tA [.P] [ie])) (h1 : ∀ {env : PySem.Env}, starEach [e] env = (false, eval e env) :: starEach [] env) :
    PE X (.Call (.Name x p) [e] [⟨some (Str.ofString "default"), .Constant (.int 0) j p2, kp⟩] pos) (J.tE m (.bi b [ie])) := by
  have h2 : (backTo pos (starEach [e] X.env)).any (·.1) = false := by
    rw [st_one h1 pos]
    rfl
  rcases hb with ⟨rfl, rfl⟩ | ⟨rfl, rfl⟩
  · refine PE.imp (pe_callBK (cr_minZ hc hu) hg hm boot_min ha (pk_cons pe_int pk_nil) (he := st_one h1 pos) (hpl := h2)) fun σ H Q h => ?_
    obtain ⟨g, ρ, S, r, q⟩ := h
    have hq : pureE (.bi .minZ [ie]) = (pureEs [ie] && true) := by simp only [pureE, Bool.and_true]
    simp only [evE] at q
    rw [hq] at q
    refine tA_bind r q fun vs S1 us g1 H1 e1 r1 st mr p1 => ?_
    obtain ⟨v, u, e2, rfl, h⟩ := one_of (evs_len e1) r1.str mr
    rw [e2] at p1
    cases eb : biV .minZ [v] with
    | none => rw [eb] at p1; exact p1.elim
    | some z =>
      rw [eb] at p1
      exact b_minZ r1 h eb p1
  · refine PE.imp (pe_callBK (cr_maxZ hc hu) hg hm boot_max ha (pk_cons pe_int pk_nil) (he := st_one h1 pos) (hpl := h2)) fun σ H Q h => ?_
    obtain ⟨g, ρ, S, r, q⟩ := h
    have hq : pureE (.bi .maxZ [ie]) = (pureEs [ie] && true) := by simp only [pureE, Bool.and_true]
    simp only [evE] at q
    rw [hq] at q
    refine tA_bind r q fun vs S1 us g1 H1 e1 r1 st mr p1 => ?_
    obtain ⟨v, u, e2, rfl, h⟩ := one_of (evs_len e1) r1.str mr
    rw [e2] at p1
    cases eb : biV .maxZ [v] with
    | none => rw [eb] at p1; exact p1.elim
    | some z =>
      rw [eb] at p1
      exact b_maxZ r1 h eb p1
end
end Pv
end

section
set_option Elab.async false
set_option linter.all false
set_option maxRecDepth 100000
set_option autoImplicit false
/-! Pv19: the small language's text against the tree: expressions. -/
namespace Pv
open PySem PySem.Spec PyProof.Rows L2

structure Ck where
  N : List Str
  sc : Scope
  blk : Option Scope
  calm : Bool
  md : List Mode
  hs : Option Nat
  G : Prog
  free : List Str
  cons : List (Str × Cn)
def Ck.fnB (st : Ck) (x : Str) : Bool := match st.blk with
  | none => true
  | some s => s.names.lookup x == some .cell
/-! ### small checks -/
def kind? (sc : Scope) (x : Str) : Option NameKind := sc.names.lookup x
def visB (sc : Scope) (x : Str) : Bool := match kind? sc x with
  | some .local => true
  | some .cell => true
  | some .free => true
  | _ => false
def locB (sc : Scope) (x : Str) : Bool := match kind? sc x with
  | some .local => true
  | some .cell => true
  | _ => false
def glB (sc : Scope) (x : Str) : Bool := match kind? sc x with
  | some .globalImplicit => true
  | _ => false
def dbgB (x : Str) : Bool := !(x == ("__debug__" : Str)) && !(x == ("__classdict__" : Str))
def storeB (st : Ck) (x : Str) : Bool := st.fnB x || (match kind? st.sc x with
  | some .local => true
  | _ => false)
def opB (o : Op) (q : Operator) : Bool := decide (q = opS o)
def cpB (o : Cp) (q : CmpOp) : Bool := decide (q = cpS o)
def boB (k : Bool) (q : BoolOp) : Bool := decide (q = boS k)
def cnB (c : Cn) (cc : Const) : Bool := match c, cc with
  | .non, .none => true
  | .bl b, .bool d => b == d
  | .int i, .int j => decide (i = j)
  | .str s, .str t => decide (s = t)
  | _, _ => false
def starB : Expr → Bool
  | .Starred _ _ => true
  | _ => false
def sliceB : Expr → Bool
  | .Slice _ _ _ _ => true
  | _ => false
def setB : Expr → Bool
  | .Set _ _ _ => true
  | _ => false
theorem cn_eq {c : Cn} {cc : Const} (h : cnB c cc = true) : cc = cnC c := by
  cases c with
  | non => cases cc <;> first | rfl | exact Bool.noConfusion h
  | bl b =>
    cases cc with
    | bool d =>
      have h2 : (b == d) = true := h
      rw [beq_iff_eq.mp h2]
      rfl
    | _ => exact Bool.noConfusion h
  | int i =>
    cases cc with
    | int j =>
      have h2 : decide (i = j) = true := h
      rw [of_decide_eq_true h2]
      rfl
    | _ => exact Bool.noConfusion h
  | str s =>
    cases cc with
    | str t =>
      have h2 : decide (s = t) = true := h
      rw [of_decide_eq_true h2]
      rfl
    | _ => exact Bool.noConfusion h
theorem star_ok {e : Expr} {es : List Expr} {env : PySem.Env} (h : starB e = false) : starEach (e :: es) env = (false, eval e env) :: starEach es env := by
  cases e <;> first | rfl | cases h
theorem stars_any {p : Pos} {env : PySem.Env} : ∀ {es : List Expr}, es.all (fun e => !starB e) = true → (backTo p (starEach es env)).any (·.1) = false
  | [], _ => rfl
  | e :: es, h => by
    simp only [List.all_cons, Bool.and_eq_true, Bool.not_eq_true'] at h
    rw [star_ok h.1]
    show (false || (backTo p (starEach es env)).any (·.1)) = false
    rw [stars_any h.2]
    rfl
theorem slice_ok {b : Expr} (h : sliceB b = false) : PlainIx b := by
  intro o i
  cases b <;> first | rfl | cases h
theorem fold_ok {e : Expr} {env : PySem.Env} (h : setB e = false) : ∀ x, foldedSetIterable e env x = pure x := by
  intro x
  cases e <;> first | rfl | cases h
theorem marks_ok {op : CmpOp} {e : Expr} (h : setB e = false) : behindInMarks op e = false := by
  cases e <;> first | rfl | cases h

/-! ### what holds of a context -/
def FnX (X : Cx) (J : Jx) (f : Nat) (F : Fn) : Prop := ∃ n addr fd, Room n X.A ∧ X.mg F.name = some (.ref addr) ∧ PySem.W.keepIn X.K (.ref addr) = true ∧ Binds X.K fd (F.names.take F.np) [] ∧
  FnOk X.prog X.w X.K X.mg X.base (L2.CX X.prog X.w) n addr fd (F.names.take F.np) (spec J.k F (J.x.cl f))
/-- isinstance of a suite's exception -/
def ExcX (X : Cx) (J : Jx) (a : Addr) (c : Nat) : Prop := CallR X (.builtin "isinstance") (rIsE X.K (J.k.ca c) a) ∧ (∀ d D b, J.x.G.cls d = some D → D.exc = true → catches J.x.G c d = some b → PySem.W.kitOne X.K (.ref (J.k.ca c)) (.ref (J.k.ca d)) = some b) ∧
  PySem.W.kitOne X.K (.ref (J.k.ca c)) (.type "ValueError") = some true ∧ CallR X (.builtin "isinstance") (rIsET X.K (J.k.ca c) a)
/-- the arguments that a method wants -/
def msOf (G : Prog) (mm : Nat) : List Md := match G.ids.findSome? (fun c => match fnOf G c mm with
    | some f => G.fn f
    | none => none) with
  | some F => callMs (F.md.tail.take (F.np - 1))
  | none => []
def mthB (st : Ck) (m : Md) (mm l c : Nat) : Bool := match fnOf st.G c mm with
  | none => true
  | some f => (match st.G.fn f with
    | some F => !F.isIni && decide (callMs (F.md.tail.take (F.np - 1)) = msOf st.G mm) && decide (l + 1 = F.np) && (decide (retM F.ret = .O) || m.kp)
    | none => false)
theorem isVar_nx {x : Cfg} {o : E} (h : isVar o = true) (ρ : Env) (S : Store) (c : Nat) (S' : Store) : evE x o ρ S ≠ .exn c S' := by
  rcases isVar_ok (x := x) h ρ S with ⟨v, e⟩ | e <;> rw [e] <;> intro z <;> cases z
structure Good (st : Ck) (X : Cx) (J : Jx) : Prop where
  N : X.N = st.N
  nd : X.N.Nodup
  sc : X.env.scope = st.sc
  fn : ∀ x, X.fn x = st.fnB x
  calm : st.calm = true → X.calm = true
  un : X.A.units + 65 < cLine
  md : J.md.l = st.md
  hs : J.md.hx.map (·.1) = st.hs
  G : J.x.G = st.G
  free : ∀ x ∈ st.free, X.mg x = none
  cons : ∀ x c, (x, c) ∈ st.cons → ∃ u, X.mg x = some u ∧ RelV (cnV' c) u
  cls : ∀ d C, st.G.cls d = some C → X.mg C.name = some (.ref (J.k.ca d))
  kl : ∀ a us (H : Hp), J.k.kl a us → SqL X.K H a us
  tk : Takes X J.W
  fns : st.calm = true → ∀ f F, st.G.fn f = some F → F.isIni = false → F.meth = false → FnX X J f F
  hx : ∀ i a c, J.md.hx = some (i, a, c) → ExcX X J a c
  nmi : NmI J.k
  nmG : J.k.nm = st.G.nm
  obj : ∀ c f, fldV st.G c f = true → L2.Cls X.K (J.k.ca c) ∧ NoAttr X.K (J.k.ca c) (st.G.nm f)
  ids : (∀ c, clsV st.G c = true → c ∈ st.G.ids) ∧ IsiF X.K J.k.ca st.G
  mt : st.calm = true → ∀ c m f F, clsV st.G c = true → fnOf st.G c m = some f → st.G.fn f = some F → F.isIni = false → MtX X J c (st.G.nm (m % 1000)) f F
  mks : st.calm = true → ∀ c C f F, st.G.cls c = some C → C.exc = false → C.ini = some f → st.G.fn f = some F → F.isIni = true → MkX X J c f F
  los : st.calm = true → ∀ f F, st.G.fn f = some F → loF F = true → ∃ addr, LoX X F addr
section
variable {st : Ck} {X : Cx} {J : Jx}
theorem Good.vis (g : Good st X J) {x : Str} (h : visB st.sc x = true) : Vis X.env.scope x := by
  rw [g.sc]
  unfold visB kind? at h
  unfold Vis
  split at h <;> simp_all
theorem Good.loc (g : Good st X J) {x : Str} (h : locB st.sc x = true) : L2.Loc X.env.scope x := by
  rw [g.sc]
  unfold locB kind? at h
  unfold L2.Loc
  split at h <;> simp_all
theorem Good.gl (g : Good st X J) {x : Str} (h : glB st.sc x = true) : Gl X x := by
  show X.env.scope.names.lookup x = some .globalImplicit
  rw [g.sc]
  unfold glB kind? at h
  split at h <;> simp_all
theorem Good.store (g : Good st X J) {x : Str} (h : storeB st x = true) : X.fn x = true ∨ X.env.scope.names.lookup x = some .local := by
  unfold storeB at h
  rw [Bool.or_eq_true] at h
  rcases h with h | h
  · exact .inl ((g.fn x).trans h)
  · right
    rw [g.sc]
    unfold kind? at h
    split at h <;> simp_all
end

/-! ### the block of a comprehension -/
def Ck.block (st : Ck) (scope : Scope) : Ck := { st with sc := relS scope st.sc, blk := some scope }
theorem Good.block {st : Ck} {X : Cx} {J : Jx} (g : Good st X J) (s : Shared) (H : Hp) (scope : Scope) (C : Addr) (cl : List (Str × Addr)) (fp : List Addr) (hhs : st.hs = none) : Good (st.block scope) (X.blk s H scope (compEnvC scope cl C X.env) fp) J.calm where
  N := g.N
  nd := g.nd
  sc := by
    show relS scope X.env.scope = relS scope st.sc
    rw [g.sc]
  fn := fun _ => rfl
  calm := g.calm
  un := g.un
  md := g.md
  hs := g.hs
  G := g.G
  free := g.free
  cons := g.cons
  cls := g.cls
  kl := g.kl
  tk := takes0
  fns := g.fns
  nmi := g.nmi
  nmG := g.nmG
  obj := g.obj
  ids := g.ids
  mt := g.mt
  mks := g.mks
  los := fun a f F hF hl => let ⟨addr, L⟩ := g.los a f F hF hl; ⟨addr, ⟨L.ex, L.mg, L.room⟩⟩
  hx := fun i a c e => by
    have e : J.md.hx = some (i, a, c) := e
    have h := g.hs
    rw [e, hhs] at h
    cases h

/-- an own list that a comprehension walks -/
def lendI (st : Ck) (m : Md) (it : E) : Option Nat := match it with
  | .v i => if decide (st.md[i]? = some Mode.own) && decide (m ≠ .L) then some i else none
  | _ => none
def Ck.lend (st : Ck) (o : Option Nat) : Ck := match o with
  | some i => { st with md := st.md.set i .brw }
  | none => st
theorem Good.lend {st : Ck} {X : Cx} {J : Jx} (g : Good st X J) (m : Md) (it : E) : ∃ K : Jx, Good (st.lend (lendI st m it)) X K ∧ ∀ e σ H Q, J.tE m e σ H Q → K.tE m e σ H Q := by
  cases e : lendI st m it with
  | none => exact ⟨J, g, fun _ _ _ _ h => h⟩
  | some i =>
    have hi : J.md.l.getD i .shr = .own ∧ m ≠ .L := by
      unfold lendI at e
      split at e
      · split at e
        · rename_i h
          simp only [Bool.and_eq_true, decide_eq_true_eq] at h
          cases e
          exact ⟨by rw [getD_eq, g.md, h.1]; rfl, h.2⟩
        · cases e
      · cases e
    refine ⟨J.lend i, ?_, lend_imp hi.1 hi.2⟩
    exact ⟨g.N, g.nd, g.sc, g.fn, g.calm, g.un, by
      show J.md.l.set i .brw = st.md.set i .brw
      rw [g.md], g.hs, g.G, g.free, g.cons, g.cls, g.kl, g.tk, g.fns, g.hx, g.nmi, g.nmG, g.obj, g.ids, g.mt, g.mks, g.los⟩

/-! ### the check -/
def biN : Bi → Str
  | .len => "len"
  | .abs => "abs"
  | .min2 => "min"
  | .max2 => "max"
  | .min1 => "min"
  | .max1 => "max"
  | .sum => "sum"
  | .any => "any"
  | .all => "all"
  | .list => "list"
  | .listR => "list"
  | .dict => "dict"
  | .str => "str"
  | .int => "int"
  | .sorted => "sorted"
  | .setLen => "len"
  | .sortedSet => "sorted"
  | _ => ""
/-- how many arguments; 0: not served -/
def biA : Bi → Nat
  | .len => 1
  | .abs => 1
  | .min2 => 2
  | .max2 => 2
  | .min1 => 1
  | .max1 => 1
  | .sum => 1
  | .any => 1
  | .all => 1
  | .list => 1
  | .dict => 1
  | .str => 1
  | .int => 1
  | _ => 0
/-- min, max with default=0 -/
def bzB (b : Bi) (x : Str) : Bool := match b with
  | .minZ => decide (x = "min")
  | .maxZ => decide (x = "max")
  | _ => false
theorem bzB_ok {b : Bi} {x : Str} (h : bzB b x = true) : (b = .minZ ∧ x = "min") ∨ (b = .maxZ ∧ x = "max") := by
  unfold bzB at h
  split at h
  · exact .inl ⟨rfl, of_decide_eq_true h⟩
  · exact .inr ⟨rfl, of_decide_eq_true h⟩
  · cases h
/-- min, max with default=None -/
def bdB (b : Bi) (x : Str) : Bool := match b with
  | .minD => decide (x = "min")
  | .maxD => decide (x = "max")
  | _ => false
theorem bdB_ok {b : Bi} {x : Str} (h : bdB b x = true) : (b = .minD ∧ x = "min") ∨ (b = .maxD ∧ x = "max") := by
  unfold bdB at h
  split at h
  · exact .inl ⟨rfl, of_decide_eq_true h⟩
  · exact .inr ⟨rfl, of_decide_eq_true h⟩
  · cases h
def oneB (st : Ck) (i : Nat) : Expr → Bool
  | .Name x _ => decide (st.N[i]? = some x) && locB st.sc x && storeB st x && decide (st.md[i]? = some Mode.shr) && decide (st.hs ≠ some i)
  | _ => false
def manyB (st : Ck) : List Nat → List Expr → Bool
  | [], [] => true
  | i :: is, e :: es => oneB st i e && manyB st is es
  | _, _ => false
def tgB (st : Ck) (e : Expr) : Tg → Bool
  | .one i => oneB st i e
  | .many is => (match e with
    | .Tuple es _ _ => st.calm && manyB st is es
    | _ => false)
def ownB (tg : Tg) (N : List Str) : List (Str × Nat) := (tgIs tg).map fun i => (N.getD i "", i)
/-- a type's name behind isinstance -/
def isiB (st : Ck) (y : Str) (t : Ty) : Bool := (tyB t && decide (y = Str.ofString (tyN t)) && st.free.contains y) || (match t with
  | .cls d => (match st.G.cls d with
    | some D => !D.exc && decide (D.name = y) && dbgB y
    | none => false)
  | _ => false)
/-- classes of refusals in a tuple -/
def tysB (st : Ck) : List Expr → List Ty → Bool
  | [], [] => true
  | .Name y _ :: es, .cls d :: ts => glB st.sc y && (match st.G.cls d with
    | some C => C.exc && decide (C.name = y) && dbgB y
    | none => false) && tysB st es ts
  | _, _ => false
mutual
def mE : Nat → Ck → Md → Expr → E → Bool
  | 0, _, _, _, _ => false
  | n + 1, st, m, e, ie => match ie with
    | .v i => (match e with
      | .Name x _ => decide (st.N[i]? = some x) && visB st.sc x && dbgB x && modeOk (st.md.getD i .shr) m
      | _ => false)
    | .k c => (match e with
      | .Constant cc _ _ => cnB c cc
      | _ => false)
    | .gl x c => (match e with
      | .Name y _ => decide (y = x) && glB st.sc x && dbgB x && (match c with
        | .int i => st.cons.contains (x, Cn.int i)
        | .str s => st.cons.contains (x, Cn.str s)
        | _ => false)
      | _ => false)
    | .op2 o a b => (match e with
      | .BinOp ea q eb _ => opB o q && mE n st .B ea a && mE n st .B eb b
      | _ => false)
    | .rep es b => (match e with
      | .BinOp (.List ees _) .Mult eb _ => mEs n st [] ees es && mE n st .B eb b
      | _ => false)
    | .neg a => (match e with
      | .UnaryOp .USub ea _ => mE n st .B ea a
      | _ => false)
    | .cmp o a b => (match e with
      | .Compare ea [q] [eb] _ => cpB o q && mE n st .B ea a && mE n st (cpMd o) eb b && !setB eb
      | _ => false)
    | .ch o1 o2 a b c => (match e with
      | .Compare ea [q1, q2] [eb, ec] _ => cpB o1 q1 && cpB o2 q2 && !isIn o1 && !isIn o2 && mE n st .B ea a && mE n st .B eb b && mE n st .B ec c && !setB ec
      | _ => false)
    | .ch3 o1 o2 o3 a b c d => (match e with
      | .Compare ea [q1, q2, q3] [eb, ec, ed] _ => cpB o1 q1 && cpB o2 q2 && cpB o3 q3 && !isIn o1 && !isIn o2 && !isIn o3 && mE n st .B ea a && mE n st .B eb b && mE n st .B ec c && mE n st .B ed d && !setB ed
      | _ => false)
    | .bop k es => (match e with
      | .BoolOp q ees _ => boB k q && mB n st m ees es
      | _ => false)
    | .nt a => (match e with
      | .UnaryOp .Not ea _ => mE n st .B ea a
      | _ => false)
    | .ife t a b => (match e with
      | .IfExp et ea eb _ => mE n st .B et t && mE n st m ea a && mE n st m eb b
      | _ => false)
    | .tup es => (match e with
      | .Tuple ees _ _ => mEs n st [] ees es
      | _ => false)
    | .lst es => (match e with
      | .List ees _ => mEs n st [] ees es
      | _ => false)
    | .ix a b => (match e with
      | .Subscript ea eb _ => m.kp && !sliceB eb && mE n st (if pureE b = true then .P else .B) ea a && mE n st .B eb b
      | _ => false)
    | .sl a lo hi => (match e with
      | .Subscript ea (.Slice elo ehi none _) _ => mE n st .B ea a && mO n st elo lo && mO n st ehi hi
      | _ => false)
    | .call f es => (match e with
      | .Call (.Name x _) ees [] _ => (match st.G.fn f with
        | some F => st.calm && decide (F.name = x) && !F.isIni && !F.meth && glB st.sc x && dbgB x && decide (es.length = F.np) && decide (0 < es.length) && (decide (retM F.ret = .O) || m.kp) && mEs n st (callMs F.md) ees es
        | none => false)
      | _ => false)
    | .fld a f => (match e with
      | .Attribute ea nm _ => m.kp && decide (st.G.nm f = nm) && decide (nm ≠ "") && recvB ea && mE n st .B ea a
      | _ => false)
    | .mth o mm es => (match e with
      | .Call (.Attribute eo nm ap) ees [] cp => st.calm && decide (st.G.nm (mm % 1000) = nm) && decide (nm ≠ "") && rcvM st.G mm es o && recvB eo && mE n st .B eo o && (ap.endLine == cp.line) && decide (es.length < 30) && (st.G.ids.all fun c => mthB st m mm es.length c) && mEs n st (msOf st.G mm) ees es
      | _ => false)
    | .mk c es => (match e with
      | .Call (.Name x _) ees [] _ => (match st.G.cls c with
        | some C => (match C.ini with
          | some f => (match st.G.fn f with
            | some F => st.calm && !C.exc && decide (C.name = x) && F.isIni && glB st.sc x && dbgB x && decide (es.length + 1 = F.np) && decide (0 < es.length) && m.kp && mEs n st (callMs F.md.tail) ees es
            | none => false)
          | none => false)
        | none => false)
      | _ => false)
    | .bi b es => (match e with
      | .Call (.Name x _) ees [] _ => st.calm && decide (biN b = x) && glB st.sc x && st.free.contains x && ((decide (0 < biA b) && decide (es.length = biA b) && mEs n st (if biA b = 1 then [.P] else [.B, .B]) ees es) || (decide (b = .sorted) && decide (es.length = 1) && mEs n st [.P] ees es) || (decide (b = .listR) && (match es, ees with
        | [.rng ies], [.Call (.Name y _) rees [] _] => decide (y = "range") && glB st.sc y && st.free.contains y && (decide (ies.length = 1) || decide (ies.length = 2)) && mEs n st [] rees ies
        | [.rev ia], [.Call (.Name y _) [ea] [] _] => decide (y = "reversed") && glB st.sc y && st.free.contains y && !starB ea && mE n st .B ea ia
        | _, _ => false)) || ((decide (b = .setLen) || decide (b = .sortedSet)) && (match es, ees with
        | [ie], [.Call (.Name y _) [ea] [] _] => decide (y = "set") && glB st.sc y && st.free.contains y && !starB ea && mE n st .P ea ie
        | _, _ => false)))
      | .Call (.Name x _) [ea] [⟨some kn, .Constant .none _ _, _⟩] _ => st.calm && decide (kn = Str.ofString "default") && bdB b x && glB st.sc x && st.free.contains x && mEs n st [.P] [ea] es
      | .Call (.Name x _) [ea] [⟨some kn, .Constant (.int z) _ _, _⟩] _ => st.calm && decide (kn = Str.ofString "default") && decide (z = 0) && bzB b x && glB st.sc x && st.free.contains x && mEs n st [.P] [ea] es
      | _ => false)
    | .isi a t => (match e with
      | .Call (.Name x _) [ea, .Name y _] [] _ => decide (x = "isinstance") && glB st.sc x && st.free.contains x && glB st.sc y && !starB ea &&
        (match st.hs, a with
        | some h, .v i => if h = i then (match ea with
            | .Name z _ => decide (st.N[i]? = some z) && visB st.sc z && dbgB z && (match t with
              | .valueError => decide (y = "ValueError") && st.free.contains y
              | .cls d => (match st.G.cls d with
                | some C => C.exc && decide (C.name = y) && dbgB y
                | none => false)
              | _ => false)
            | _ => false) else isiB st y t && mE n st .B ea a
        | _, _ => isiB st y t && mE n st .B ea a)
      | _ => false)
    | .isiT a ts => (match e with
      | .Call (.Name x _) [ea, .Tuple tys _ _] [] _ => decide (x = "isinstance") && glB st.sc x && st.free.contains x && !starB ea &&
        (match st.hs, a with
        | some h, .v i => decide (h = i) && (match ea with
            | .Name z _ => decide (st.N[i]? = some z) && visB st.sc z && dbgB z && tysB st tys ts && decide (tys.length < 30)
            | _ => false)
        | _, _ => false)
      | _ => false)
    | .bm b o es => (match b, e, es with
      | .get, .Call (.Attribute eo nm ap) [ek] [] cp, [ik] => decide (nm = "get") && recvB eo && m.kp && keyB ik && mE n st .V eo o && mE n st .B ek ik && !starB ek && (ap.endLine == cp.line)
      | .index, .Call (.Attribute eo nm ap) [ek] [] cp, [ik] => decide (nm = "index") && recvB eo && keyB ik && mE n st .B eo o && mEs n st [.B] [ek] [ik] && (ap.endLine == cp.line)
      | .join, .Call (.Attribute eo nm ap) [ek] [] cp, [ik] => decide (nm = "join") && recvT eo && strE o && mE n st .B eo o && mE n st .P ek ik && !starB ek && (ap.endLine == cp.line)
      | .rjust, .Call (.Attribute eo nm ap) [ek] [] cp, [ik] => decide (nm = "rjust") && recvT eo && strE o && mE n st .B eo o && mE n st .P ek ik && !starB ek && (ap.endLine == cp.line)
      | _, _, _ => false)
    | .lck d a => (match e with
      | .ListComp _ _ _ _ => isVar d && m.noN && mE n st m e a
      | .Call _ _ _ _ => isVar d && m.noN && mE n st m e a
      | _ => false)
    | .sortk f a => (match e with
      | .Call (.Name x _) [ea] [⟨some kn, .Name y _, _⟩] _ => (match st.G.fn f with
        | some F => loF F && st.calm && decide (x = "sorted") && decide (kn = Str.ofString "key") && decide (y = F.name) && dbgB y && glB st.sc y && glB st.sc x && st.free.contains x && mEs n st [.P] [ea] [a]
        | none => false)
      | _ => false)
    | .mkr a => (match e with
      | .List _ _ => mE n st (.N 0) e a
      | .ListComp _ _ _ _ => mE n st (.N 0) e a
      | .Call _ _ _ _ => mE n st (.N 0) e a
      | .BinOp _ _ _ _ => mE n st (.N 0) e a
      | .Dict _ _ _ => mE n st (.N 0) e a
      | _ => false)
    | .d0 _ => (match e with
      | .Dict [] [] _ => true
      | _ => false)
    | .comp ce tg it cd => (match e with
      | .ListComp eelt [⟨etg, eiter, eifs, 0⟩] scope _ => st.calm && decide (st.hs = none) && mI n (st.lend (lendI st m it)) etg eiter it && blkC st.N st.sc scope (ownB tg st.N) && decide (tgIs tg).Nodup && (tgIs tg).all (fun i => decide ((st.lend (lendI st m it)).md[i]? = some Mode.shr)) &&
        tgB ((st.lend (lendI st m it)).block scope) etg tg && (match eifs, cd with
        | [], none => true
        | [ec], some c => mE n ((st.lend (lendI st m it)).block scope) .B ec c
        | _, _ => false) && mE n ((st.lend (lendI st m it)).block scope) .V eelt ce && !setB eiter
      | _ => false)
    | _ => false
def mEs : Nat → Ck → List Md → List Expr → List E → Bool
  | 0, _, _, _, _ => false
  | _ + 1, _, _, [], [] => true
  | n + 1, st, ms, e :: es, ie :: ies => !starB e && mE n st (ms.headD .V) e ie && mEs n st ms.tail es ies && (!(ms.headD .V).pq || pureEs ies)
  | _ + 1, _, _, _, _ => false
def mB : Nat → Ck → Md → List Expr → List E → Bool
  | 0, _, _, _, _ => false
  | n + 1, st, m, [e], [ie] => mE n st m e ie
  | n + 1, st, m, e :: e2 :: es, ie :: ie2 :: ies => mE n st .B e ie && mB n st m (e2 :: es) (ie2 :: ies)
  | _ + 1, _, _, _, _ => false
def mO : Nat → Ck → Option Expr → Option E → Bool
  | 0, _, _, _ => false
  | _ + 1, _, none, none => true
  | n + 1, st, some e, some ie => mE n st .B e ie
  | _ + 1, _, _, _ => false
def mI : Nat → Ck → Expr → Expr → E → Bool
  | 0, _, _, _, _ => false
  | n + 1, st, tg, e, ie => match ie with
    | .rng es => (match e with
      | .Call (.Name x _) ees [] _ => decide (x = "range") && glB st.sc x && st.free.contains x && ((decide (0 < es.length) && decide (es.length ≤ 3) && mEs n st [] ees es) || (match es, ees with
        | [ia, ib, .k .non, .k .non], [ea, eb] => mEs n st [] [ea, eb] [ia, ib]
        | _, _ => false))
      | _ => false)
    | .rev a => (match e with
      | .Call (.Name x _) [ea] [] _ => decide (x = "reversed") && glB st.sc x && st.free.contains x && !starB ea && mE n st .L ea a
      | _ => false)
    | .zip a b => (match e, tg with
      | .Call (.Name x _) [ea, eb] [] _, .Tuple _ _ _ => decide (x = "zip") && glB st.sc x && st.free.contains x && mEs n st [.L, .L] [ea, eb] [a, b]
      | _, _ => false)
    | _ => mE n st .L e ie
end
end Pv
end

section
set_option Elab.async false
set_option linter.all false
set_option maxRecDepth 100000
set_option autoImplicit false
/-! Pv20: what the check of an expression gives. -/
namespace Pv
open PySem PySem.Spec PyProof.Rows L2
/-! ### a new cell's mode -/
theorem modeN {md : Mode} {k : Nat} : modeOk md (.N k) = modeOk md (.N 0) := by cases md <;> rfl
theorem lendN {st : Ck} {it : E} {k : Nat} : lendI st (.N k) it = lendI st (.N 0) it := by
  unfold lendI
  cases it <;> first | rfl | simp
theorem kpN {k : Nat} : Md.kp (.N k) = false := rfl
theorem noNN {k : Nat} : Md.noN (.N k) = false := rfl
theorem mthN {st : Ck} {mm l c k : Nat} : mthB st (.N k) mm l c = mthB st (.N 0) mm l c := by
  unfold mthB
  rfl
theorem mE_N_all : ∀ n, (∀ (st : Ck) (e : Expr) (ie : E) (k : Nat), mE n st (.N k) e ie = mE n st (.N 0) e ie) ∧ (∀ (st : Ck) (es : List Expr) (ies : List E) (k : Nat), mB n st (.N k) es ies = mB n st (.N 0) es ies)
  | 0 => ⟨fun _ _ _ _ => by simp only [mE], fun _ _ _ _ => by simp only [mB]⟩
  | n + 1 => by
    have ih := mE_N_all n
    refine ⟨fun st e ie k => ?_, fun st es ies k => ?_⟩
    · have i1 := fun st e ie => ih.1 st e ie k
      have i2 := fun st e ie => ih.2 st e ie k
      cases ie <;> simp only [mE, modeN (k := k), lendN (k := k), mthN (k := k), kpN, noNN, i1, i2]
    · have i1 := fun st e ie => ih.1 st e ie k
      have i2 := fun st e ie => ih.2 st e ie k
      cases es with
      | nil => cases ies <;> simp only [mB]
      | cons e es =>
        cases ies with
        | nil => cases es <;> simp only [mB]
        | cons ie ies => cases es <;> cases ies <;> simp only [mB, i1, i2]
theorem mE_mkr_lc {n : Nat} {st : Ck} {m : Md} {elt : Expr} {gs : List Comprehension} {sc : Scope} {q : Pos} {a : E} : mE (n + 1) st m (.ListComp elt gs sc q) (.mkr a) = mE n st (.N 0) (.ListComp elt gs sc q) a := by
  simp only [mE]
theorem mE_N {n : Nat} {st : Ck} {e : Expr} {ie : E} (k : Nat) (h : mE n st (.N 0) e ie = true) : mE n st (.N k) e ie = true := by
  rw [(mE_N_all n).1]
  exact h

section
variable {st : Ck} {X : Cx} {J : Jx} {m : Md} {pos : Pos}
theorem str_all {es : List Expr} (h : es.all (fun e => !starB e) = true) : ∀ {e : Expr} {r : List Expr} {env : PySem.Env}, es = e :: r → starEach (e :: r) env = (false, eval e env) :: starEach r env := by
  intro e r env he
  subst he
  simp only [List.all_cons, Bool.and_eq_true, Bool.not_eq_true'] at h
  exact star_ok h.1
theorem s_bi {b : Bi} {ees : List Expr} {ies : List E} {p : Pos} (hu : X.A.units + 65 < cLine) (hk : ∀ a us (H : Hp), J.k.kl a us → SqL X.K H a us) (hc : X.calm = true) (hg : Gl X (biN b)) (hm : X.mg (biN b) = none) (h0 : 0 < biA b) (hl : ies.length = biA b) (ha : PA X ees (J.tA (if biA b = 1 then [.P] else [.B, .B]) ies)) (hs : ees.all (fun e => !starB e) = true) (hle : ees.length = ies.length) :
    PE X (.Call (.Name (biN b) p) ees [] pos) (J.tE m (.bi b ies)) := by
  cases ees with
  | nil =>
    simp only [List.length_nil] at hle
    omega
  | cons e r =>
    have h1 : ∀ {env : PySem.Env}, starEach (e :: r) env = (false, eval e env) :: starEach r env := fun {env} => str_all hs rfl
    have h2 : ∀ {env : PySem.Env}, (backTo pos (starEach r env)).any (·.1) = false := fun {env} => stars_any (by
      simp only [List.all_cons, Bool.and_eq_true] at hs
      exact hs.2)
    cases b <;> first
      | exact absurd h0 (by decide)
      | (rw [show biA _ = 1 from rfl] at hl
         first
           | exact PE.imp (pe_callB (call_len.or (call_lenD.or call_len_dT)) hg hm boot_len ha (he := h1) (hpl := h2)) (bi_imp (by rw [hl]; exact b_len hk))
           | exact PE.imp (pe_callB call_abs hg hm boot_abs ha (he := h1) (hpl := h2)) (bi_imp (by rw [hl]; exact b_abs))
           | exact PE.imp (pe_callB (cr_min hc) hg hm boot_min ha (he := h1) (hpl := h2)) (bi_imp (by rw [hl]; exact b_min1))
           | exact PE.imp (pe_callB (cr_max hc) hg hm boot_max ha (he := h1) (hpl := h2)) (bi_imp (by rw [hl]; exact b_max1))
           | exact PE.imp (pe_callB (cr_sum hc) hg hm boot_sum ha (he := h1) (hpl := h2)) (bi_imp (by rw [hl]; exact b_sum))
           | exact PE.imp (pe_callB (cr_any hc) hg hm boot_any ha (he := h1) (hpl := h2)) (bi_imp (by rw [hl]; exact b_any))
           | exact PE.imp (pe_callB (cr_all hc) hg hm boot_all ha (he := h1) (hpl := h2)) (bi_imp (by rw [hl]; exact b_all))
           | exact PE.imp (pe_callTy ((call_list_of.or (call_listD hc)).or (call_list_dT hc)) hg hm boot_list ha (he := h1) (hpl := h2)) (bi_imp (by rw [hl]; exact b_list))
           | exact PE.imp (pe_callTy ((call_dict_dT (by omega)).or (call_dict_pT hc (by omega))) hg hm boot_dict ha (he := h1) (hpl := h2)) (bi_imp (by rw [hl]; exact b_dict2))
           | exact PE.imp (pe_callTy (call_str_int.or SkE.call_str_str) hg hm boot_str ha (he := h1) (hpl := h2)) (bi_imp (by rw [hl]; exact b_str))
           | exact PE.imp (pe_callTy (call_int1.or call_int_str) hg hm boot_int ha (he := h1) (hpl := h2)) (bi_imp (by rw [hl]; exact b_int)))
      | (rw [show biA _ = 2 from rfl] at hl
         first
           | exact PE.imp (pe_callB (call_min2 hc) hg hm boot_min ha (he := h1) (hpl := h2)) (bi_imp (by rw [hl]; exact b_min2))
           | exact PE.imp (pe_callB (call_max2 hc) hg hm boot_max ha (he := h1) (hpl := h2)) (bi_imp (by rw [hl]; exact b_max2)))
end
end Pv
end

section
set_option Elab.async false
set_option linter.all false
set_option maxRecDepth 100000
set_option autoImplicit false
/-! Pv21: the check of an expression is sound. -/
namespace Pv
open PySem PySem.Spec PyProof.Rows L2

section
variable {st : Ck} {X : Cx} {J : Jx} {m : Md} {pos : Pos}
/-! ### isinstance of a suite's exception -/
theorem isx_imp {i : Nat} {a : Addr} {c : Nat} {t : Ty} {cv : V} {u : Value} (hh : J.md.hx = some (i, a, c)) (hu : ∀ w, RelV cv w → w = u) (hk : ∀ b, tyV J.x.G [] (.exc c) t = some b → PySem.W.kitOne X.K (.ref (J.k.ca c)) u = some b)
    (σ : L2.St) (H : Hp) (Q : VK) (h : J.tE m (.isi (.v i) t) σ H Q) : tCB (rIsE X.K (J.k.ca c) a) (tCons (tVar i) (tCons (tC cv) tNil)) σ H Q := by
  obtain ⟨g, ρ, S, r, p⟩ := h
  obtain ⟨h1, h2⟩ := r.hx i a c hh
  have ev : evE J.x (.v i) ρ S = .ok (.exc c) S := by
    simp only [evE, h2]
  rw [evE_isi, ev] at p
  simp only [_root_.Pv.R.bind, deref] at p
  have et : tyV J.x.G S (.exc c) t = tyV J.x.G [] (.exc c) t := by cases t <;> rfl
  rw [et] at p
  cases e : tyV J.x.G [] (.exc c) t with
  | none => simp only [e] at p; exact p.elim
  | some b =>
    simp only [e] at p
    refine ⟨.ref a, h1, cv, u, b, rfl, hu, hk b e, ?_⟩
    exact fin_V r (fun m => MRep.bl _) (post_q p)
theorem ty_cat {G : Prog} {S : Store} {c d : Nat} {b : Bool} (e : tyV G S (.exc c) (.cls d) = some b) : catches G c d = some b := by
  simp only [tyV] at e
  unfold catches
  cases h : G.cls c with
  | none => rw [h] at e; cases e
  | some C =>
    rw [h] at e
    cases h2 : G.cls d with
    | none => rw [h2] at e; cases e
    | some D =>
      rw [h2] at e
      simp only at e
      split at e
      · rename_i hh
        simp only [hh.1, if_true]
        exact e
      · cases e
theorem s_isxC {i : Nat} {a : Addr} {c d : Nat} {C : Cls} {z y : Str} {p1 pz py : Pos} (g : Good st X J) (hh : J.md.hx = some (i, a, c)) (hg : Gl X "isinstance") (hm : X.mg "isinstance" = none) (hN : X.N[i]? = some z) (hv : Vis X.env.scope z) (hd : (z == ("__debug__" : Str)) = false)
    (hcd : (z == ("__classdict__" : Str)) = false) (hC : st.G.cls d = some C) (hCx : C.exc = true) (hy : C.name = y) (hyg : Gl X y) (hyd : (y == ("__debug__" : Str)) = false) : PE X (.Call (.Name "isinstance" p1) [.Name z pz, .Name y py] [] pos) (J.tE m (.isi (.v i) (.cls d))) := by
  obtain ⟨e1, e2, e3, _⟩ := g.hx i a c hh
  have hmy : X.mg y = some (.ref (J.k.ca d)) := by rw [← hy]; exact g.cls d C hC
  have py' : PE X (.Name y py) (tC (.ref (J.k.ca d))) := pe_glob hyg hmy rfl hyd
  refine PE.imp (pe_callB e1 hg hm boot_isinstance (pa_cons (pe_var hN hv hd hcd) (pa_cons py' pa_nil))) (isx_imp (u := .ref (J.k.ca d)) hh (fun w r => r) fun b e => e2 d C b (by rw [g.G]; exact hC) hCx (ty_cat e))
theorem s_isxV {i : Nat} {a : Addr} {c : Nat} {z : Str} {p1 pz py : Pos} (g : Good st X J) (hh : J.md.hx = some (i, a, c)) (hg : Gl X "isinstance") (hm : X.mg "isinstance" = none) (hN : X.N[i]? = some z) (hv : Vis X.env.scope z) (hd : (z == ("__debug__" : Str)) = false)
    (hcd : (z == ("__classdict__" : Str)) = false) (hyg : Gl X "ValueError") (hym : X.mg "ValueError" = none) : PE X (.Call (.Name "isinstance" p1) [.Name z pz, .Name "ValueError" py] [] pos) (J.tE m (.isi (.v i) .valueError)) := by
  obtain ⟨e1, e2, e3, _⟩ := g.hx i a c hh
  have py' : PE X (.Name "ValueError" py) (tC (.ty "ValueError")) := pe_bltn hyg hym boot_ValueError rfl
  refine PE.imp (pe_callB e1 hg hm boot_isinstance (pa_cons (pe_var hN hv hd hcd) (pa_cons py' pa_nil))) (isx_imp (u := .type "ValueError") hh (fun w r => r) fun b e => by
    simp only [tyV] at e
    cases e
    exact e3)

/-! ### targets -/
theorem tg_one (g : Good st X J) {e : Expr} {i : Nat} (h : oneB st i e = true) : (∃ x p, e = .Name x p ∧ X.N[i]? = some x ∧ L2.Loc X.env.scope x ∧ (X.fn x = true ∨ X.env.scope.names.lookup x = some .local)) ∧ J.md.l.getD i .shr = .shr ∧ hxOk J.md i := by
  unfold oneB at h
  split at h
  · simp only [Bool.and_eq_true, decide_eq_true_eq] at h
    obtain ⟨⟨⟨⟨h1, h2⟩, h3⟩, h4⟩, h5⟩ := h
    refine ⟨⟨_, _, rfl, by rw [g.N]; exact h1, g.loc h2, g.store h3⟩, ?_, fun j a c e z => ?_⟩
    · rw [getD_eq, g.md, h4]
      rfl
    · subst z
      have := g.hs
      rw [e] at this
      exact h5 this.symm
  · cases h
theorem tg_names (g : Good st X J) : ∀ {es : List Expr} {is : List Nat}, manyB st is es = true → NamesAt X es is ∧ tgOk J.md is
  | [], [], _ => ⟨.nil, fun i hi => absurd hi (by simp)⟩
  | [], _ :: _, h => by cases h
  | _ :: _, [], h => by cases h
  | e :: es, i :: is, h => by
    simp only [manyB, Bool.and_eq_true] at h
    obtain ⟨⟨x, p, rfl, h1, h2, h3⟩, h4, h5⟩ := tg_one g h.1
    obtain ⟨h6, h7⟩ := tg_names g (es := es) (is := is) h.2
    refine ⟨.cons h1 h2 h3 h6, fun j hj => ?_⟩
    rcases List.mem_cons.mp hj with e | hj
    · subst e
      exact ⟨h4, h5⟩
    · exact h7 j hj
theorem tg_ok (g : Good st X J) {e : Expr} {tg : Tg} (h : tgB st e tg = true) : PG X e (J.tG tg) ∧ tgOk J.md (tgIs tg) := by
  cases tg with
  | one i =>
    simp only [tgB] at h
    obtain ⟨⟨x, p, rfl, h1, h2, h3⟩, h4, h5⟩ := tg_one g h
    have ok : tgOk J.md [i] := fun j hj => by
      rcases List.mem_cons.mp hj with e | hj
      · subst e
        exact ⟨h4, h5⟩
      · cases hj
    exact ⟨g_one g.nd h1 h2 h3 ok, ok⟩
  | many is =>
    simp only [tgB] at h
    split at h
    · simp only [Bool.and_eq_true] at h
      obtain ⟨h1, h2⟩ := tg_names g h.2
      exact ⟨g_many (g.calm h.1) g.nd h1 h2, h2⟩
    · cases h
end

theorem evPt {X : Cx} {J : Jx} {e : Expr} {ie : E} (h : PE X e (J.tE .B ie)) (hp : (match e with
    | .UnaryOp .Not _ _ => false
    | .BoolOp _ _ _ => false
    | .IfExp _ _ _ _ => false
    | .Compare _ _ _ _ => false
    | _ => true) = true) : PT X e (J.tT ie) := by
  refine t_val h fun whole => ?_
  cases e with
  | UnaryOp o a p => cases o <;> first | rfl | cases hp
  | BoolOp _ _ _ => cases hp
  | IfExp _ _ _ _ => cases hp
  | Compare _ _ _ _ => cases hp
  | _ => rfl
structure Snd (n : Nat) : Prop where
  e : ∀ {st : Ck} {X : Cx} {J : Jx} {m : Md} {e : Expr} {ie : E}, Good st X J → mE n st m e ie = true → PE X e (J.tE m ie)
  t : ∀ {st : Ck} {X : Cx} {J : Jx} {e : Expr} {ie : E}, Good st X J → mE n st .B e ie = true → PT X e (J.tT ie)
  es : ∀ {st : Ck} {X : Cx} {J : Jx} {ms : List Md} {es : List Expr} {ies : List E}, Good st X J → mEs n st ms es ies = true → PA X es (J.tA ms ies) ∧ es.all (fun e => !starB e) = true ∧ es.length = ies.length
  b : ∀ {st : Ck} {X : Cx} {J : Jx} {m : Md} {k : Bool} {pos : Pos} {es : List Expr} {ies : List E}, Good st X J → mB n st m es ies = true → PE X (.BoolOp (boS k) es pos) (J.tE m (.bop k ies))
  bt : ∀ {st : Ck} {X : Cx} {J : Jx} {k : Bool} {pos : Pos} {es : List Expr} {ies : List E}, Good st X J → mB n st .B es ies = true → PW X (.BoolOp (boS k) es pos) (J.tT (.bop k ies))
  o : ∀ {st : Ck} {X : Cx} {J : Jx} {e : Option Expr} {ie : Option E}, Good st X J → mO n st e ie = true → PO X e (J.tO ie)
  i : ∀ {st : Ck} {X : Cx} {J : Jx} {tg e : Expr} {ie : E}, Good st X J → mI n st tg e ie = true → PI X tg e (J.tI ie)
theorem dbg_of {x : Str} (h : dbgB x = true) : (x == ("__debug__" : Str)) = false ∧ (x == ("__classdict__" : Str)) = false := by
  unfold dbgB at h
  simp only [Bool.and_eq_true, Bool.not_eq_true'] at h
  exact h
theorem snd0 : Snd 0 := by
  refine ⟨?_, ?_, ?_, ?_, ?_, ?_, ?_⟩ <;> intros <;> rename_i h <;> first | (simp only [mE] at h; cases h) | (simp only [mEs] at h; cases h) | (simp only [mB] at h; cases h) | (simp only [mO] at h; cases h) | (simp only [mI] at h; cases h)
section
variable {n : Nat} (ih : Snd n)
include ih
theorem snd_es {st : Ck} {X : Cx} {J : Jx} {ms : List Md} {es : List Expr} {ies : List E} (g : Good st X J) (h : mEs (n + 1) st ms es ies = true) : PA X es (J.tA ms ies) ∧ es.all (fun e => !starB e) = true ∧ es.length = ies.length := by
  cases es with
  | nil =>
    cases ies with
    | nil => exact ⟨a_nil, rfl, rfl⟩
    | cons _ _ => simp [mEs] at h
  | cons e es =>
    cases ies with
    | nil => simp [mEs] at h
    | cons ie ies =>
      simp only [mEs, Bool.and_eq_true, Bool.not_eq_true', Bool.or_eq_true, decide_eq_true_eq] at h
      obtain ⟨⟨⟨h1, h2⟩, h3⟩, h4⟩ := h
      obtain ⟨r1, r2, r3⟩ := ih.es g h3
      refine ⟨a_cons (ih.e g h2) r1 (fun z => h4.resolve_left fun q => by rw [z] at q; cases q) (star_ok h1), ?_, by rw [List.length_cons, List.length_cons, r3]⟩
      simp only [List.all_cons, Bool.and_eq_true, Bool.not_eq_true']
      exact ⟨h1, r2⟩
theorem snd_o {st : Ck} {X : Cx} {J : Jx} {e : Option Expr} {ie : Option E} (g : Good st X J) (h : mO (n + 1) st e ie = true) : PO X e (J.tO ie) := by
  cases e with
  | none =>
    cases ie with
    | none => exact o_none
    | some _ => simp [mO] at h
  | some e =>
    cases ie with
    | none => simp [mO] at h
    | some ie =>
      simp only [mO] at h
      exact o_some (ih.e g h)
theorem snd_b {st : Ck} {X : Cx} {J : Jx} {m : Md} {k : Bool} {pos : Pos} {es : List Expr} {ies : List E} (g : Good st X J) (h : mB (n + 1) st m es ies = true) : PE X (.BoolOp (boS k) es pos) (J.tE m (.bop k ies)) := by
  unfold mB at h
  split at h
  · rename_i h0
    cases h0
  · rename_i n' st' m' e ie h0
    cases h0
    exact s_bop1 (ih.e g h)
  · rename_i n' st' m' e e2 es ie ie2 ies h0
    cases h0
    rw [Bool.and_eq_true] at h
    exact s_bop (ih.e g h.1) (ih.b g h.2)
  · cases h
theorem snd_bt {st : Ck} {X : Cx} {J : Jx} {k : Bool} {pos : Pos} {es : List Expr} {ies : List E} (g : Good st X J) (h : mB (n + 1) st .B es ies = true) : PW X (.BoolOp (boS k) es pos) (J.tT (.bop k ies)) := by
  unfold mB at h
  split at h
  · rename_i h0
    cases h0
  · rename_i n' st' m' e ie h0
    cases h0
    exact t_bop1 (ih.t g h)
  · rename_i n' st' m' e e2 es ie ie2 ies h0
    cases h0
    rw [Bool.and_eq_true] at h
    exact t_bop (ih.t g h.1) (ih.bt g h.2)
  · cases h
theorem snd_i {st : Ck} {X : Cx} {J : Jx} {tg e : Expr} {ie : E} (g : Good st X J) (h : mI (n + 1) st tg e ie = true) : PI X tg e (J.tI ie) := by
  cases ie with
  | rng es =>
    simp only [mI] at h
    split at h
    · rename_i x p ees pos
      simp only [Bool.and_eq_true, decide_eq_true_eq] at h
      obtain ⟨⟨⟨rfl, h2⟩, h3⟩, h4⟩ := h
      have hm := g.free _ (List.contains_iff_mem.mp h3)
      rw [Bool.or_eq_true] at h4
      rcases h4 with h4 | h4
      · simp only [Bool.and_eq_true, decide_eq_true_eq] at h4
        obtain ⟨⟨h4, h5⟩, h6⟩ := h4
        obtain ⟨r1, r2, r3⟩ := ih.es g h6
        match es, ees, r3 with
        | [], _, _ => cases h4
        | [a], [ea], _ => exact i_rng1 (g.gl h2) hm r1 (str_all r2 rfl)
        | [a, b], [ea, eb], _ =>
          have s1 := str_all r2 (env := X.env) rfl
          have s2 : starEach [eb] X.env = (false, eval eb X.env) :: starEach [] X.env := star_ok (by
            simp only [List.all_cons, Bool.and_eq_true, Bool.not_eq_true'] at r2
            exact r2.2.1)
          exact i_rng2 (g.gl h2) hm r1 (by rw [s1, s2]; rfl) s2
        | [a, b, c], [ea, eb, ec], _ => exact i_rng3 (g.gl h2) hm r1 (str_all r2 rfl) (stars_any (by
            simp only [List.all_cons, Bool.and_eq_true] at r2
            simp only [List.all_cons, Bool.and_eq_true]
            exact r2.2))
        | _ :: _ :: _ :: _ :: _, _, _ => simp at h5
      · split at h4
        · rename_i ia ib ea eb
          obtain ⟨r1, r2, r3⟩ := ih.es g h4
          have s1 := str_all r2 (env := X.env) rfl
          have s2 : starEach [eb] X.env = (false, eval eb X.env) :: starEach [] X.env := star_ok (by
            simp only [List.all_cons, Bool.and_eq_true, Bool.not_eq_true'] at r2
            exact r2.2.1)
          exact i_rng2L (g.gl h2) hm r1 (by rw [s1, s2]; rfl) s2
        · cases h4
    · cases h
  | rev a =>
    simp only [mI] at h
    split at h
    · simp only [Bool.and_eq_true, decide_eq_true_eq, Bool.not_eq_true'] at h
      obtain ⟨⟨⟨⟨rfl, h2⟩, h3⟩, h4⟩, h5⟩ := h
      exact i_rev (g.gl h2) (g.free _ (List.contains_iff_mem.mp h3)) (ih.e g h5) (star_ok h4)
    · cases h
  | zip a b =>
    simp only [mI] at h
    split at h
    · simp only [Bool.and_eq_true, decide_eq_true_eq] at h
      obtain ⟨⟨⟨rfl, h2⟩, h3⟩, h4⟩ := h
      obtain ⟨r1, r2, r3⟩ := ih.es g h4
      exact i_zip (g.gl h2) (g.free _ (List.contains_iff_mem.mp h3)) r1 (str_all r2 rfl) (stars_any (by
          simp only [List.all_cons, Bool.and_eq_true] at r2
          simp only [List.all_cons, Bool.and_eq_true]
          exact r2.2))
    · cases h
  | _ => exact i_val (ih.e g (by simpa only [mI] using h))
end
end Pv
end

section
set_option Elab.async false
set_option linter.all false
set_option maxRecDepth 100000
set_option autoImplicit false
/-! Pv21t: isinstance of a suite's exception, of a tuple of refusals. -/
namespace Pv
open PySem PySem.Spec PyProof.Rows L2
section
variable {st : Ck} {X : Cx} {J : Jx} {m : Md} {pos : Pos}
def tysD : List Ty → List Nat
  | [] => []
  | .cls d :: r => d :: tysD r
  | _ :: r => tysD r
theorem pa_tys (g : Good st X J) : ∀ {tys : List Expr} {ts : List Ty}, tysB st tys ts = true → PA X tys (fun σ H Q => Q ((tysD ts).map fun d => V.ref (J.k.ca d)) H) ∧ ts = (tysD ts).map Ty.cls ∧ tys.length = ts.length ∧ ∀ d ∈ tysD ts, ∃ C, st.G.cls d = some C ∧ C.exc = true
  | [], [], _ => ⟨PA.imp pa_nil fun σ H Q h => h, rfl, rfl, fun d hd => nomatch hd⟩
  | [], _ :: _, h => by cases h
  | _ :: _, [], h => by simp [tysB] at h
  | e :: es, t :: ts, h => by
    unfold tysB at h
    split at h
    · rename_i z _; cases z
    · rename_i y p es' d ts' z z2
      obtain ⟨rfl, rfl⟩ := List.cons.inj z
      obtain ⟨rfl, rfl⟩ := List.cons.inj z2
      simp only [Bool.and_eq_true] at h
      obtain ⟨⟨h1, h2⟩, h3⟩ := h
      split at h2
      · rename_i C hC
        simp only [Bool.and_eq_true, decide_eq_true_eq] at h2
        obtain ⟨⟨q1, q2⟩, q3⟩ := h2
        obtain ⟨r1, r2, r3, r4⟩ := pa_tys g h3
        have hmy : X.mg y = some (.ref (J.k.ca d)) := by rw [← q2]; exact g.cls d C hC
        refine ⟨PA.imp (pa_cons (pe_glob (g.gl h1) hmy rfl (dbg_of q3).1 : PE X (.Name y p) (tC (.ref (J.k.ca d)))) r1) fun σ H Q h => ?_, ?_, by rw [List.length_cons, List.length_cons, r3], ?_⟩
        · exact h
        · show Ty.cls d :: ts = Ty.cls d :: (tysD ts).map Ty.cls
          rw [← r2]
        · intro d' hd'
          rcases List.mem_cons.mp hd' with rfl | hd'
          · exact ⟨C, hC, q1⟩
          · exact r4 d' hd'
      · cases h2
    · cases h
theorem kit_any {K : PySem.W.Frag} {G : Prog} {ca : Nat → Addr} {c : Nat} (hk : ∀ d b, catches G c d = some b → (∃ C, G.cls d = some C ∧ C.exc = true) → PySem.W.kitOne K (.ref (ca c)) (.ref (ca d)) = some b) : ∀ {ds : List Nat} {S : Store} {b : Bool}, (∀ d ∈ ds, ∃ C, G.cls d = some C ∧ C.exc = true) → tysV G S (.exc c) (ds.map Ty.cls) = some b →
    PySem.W.kitAny K (.ref (ca c)) (ds.map fun d => Value.ref (ca d)) = some b
  | [], S, b, _, h => by
    simp only [List.map_nil, tysV, Option.some.injEq] at h
    subst h
    rfl
  | d :: ds, S, b, hd, h => by
    simp only [List.map_cons, tysV] at h
    cases e1 : tyV G S (.exc c) (.cls d) with
    | none => rw [e1] at h; cases h
    | some b1 =>
      cases e2 : tysV G S (.exc c) (ds.map Ty.cls) with
      | none => rw [e1, e2] at h; cases h
      | some b2 =>
        rw [e1, e2] at h
        simp only [Option.some.injEq] at h
        subst h
        have i := kit_any hk (S := S) (fun x hx => hd x (List.mem_cons_of_mem _ hx)) e2
        rw [List.map_cons]
        refine kitAny_cons (hk d b1 (ty_cat e1) (hd d List.mem_cons_self)) (fun z => ?_) (fun z => ?_)
        · rw [i, z]; rfl
        · rw [z]; rfl
theorem s_isxT {i : Nat} {a : Addr} {c : Nat} {z : Str} {tys : List Expr} {ts : List Ty} {p1 pz : Pos} {kk : Nat} {pt : Pos} (g : Good st X J) (hh : J.md.hx = some (i, a, c)) (hg : Gl X "isinstance") (hm : X.mg "isinstance" = none) (hN : X.N[i]? = some z) (hv : Vis X.env.scope z) (hd : (z == ("__debug__" : Str)) = false)
    (hcd : (z == ("__classdict__" : Str)) = false) (hb : tysB st tys ts = true) (hl : tys.length < 30) : PE X (.Call (.Name "isinstance" p1) [.Name z pz, .Tuple tys kk pt] [] pos) (J.tE m (.isiT (.v i) ts)) := by
  obtain ⟨_, e2, _, e4⟩ := g.hx i a c hh
  obtain ⟨pa, ets, el, hex⟩ := pa_tys g hb
  refine PE.imp (pe_callB e4 hg hm boot_isinstance (pa_cons (pe_var hN hv hd hcd) (pa_cons (pe_tup (x1 := kk) (pos := pt) pa) pa_nil))) fun σ H Q h => ?_
  obtain ⟨gg, ρ, S, r, p⟩ := h
  obtain ⟨h1, h2⟩ := r.hx i a c hh
  have ev : evE J.x (.v i) ρ S = .ok (.exc c) S := by simp only [evE, h2]
  simp only [evE] at p
  rw [h2] at p
  simp only [_root_.Pv.R.bind, deref] at p
  cases e : tysV J.x.G S (.exc c) ts with
  | none => simp only [e] at p; exact p.elim
  | some b =>
    simp only [e] at p
    have hlen : ((tysD ts).map fun d => V.ref (J.k.ca d)).length ≤ sizeLine := by
      have : (tysD ts).length = ts.length := by
        conv => rhs; rw [ets]
        rw [List.length_map]
      rw [List.length_map, sizeLine_val]
      omega
    refine ⟨.ref a, h1, hlen, fun q hq => ⟨q, (tysD ts).map fun d => V.ref (J.k.ca d), (tysD ts).map fun d => Value.ref (J.k.ca d), b, rfl, upd_same, fun ws hw => ?_, ?_, ?_⟩⟩
    · clear hlen
      generalize tysD ts = ds at hw
      induction ds generalizing ws with
      | nil => cases hw; rfl
      | cons d ds ih =>
        rw [List.map_cons] at hw
        cases hw with
        | cons hx ht =>
          cases hx
          rw [List.map_cons, ← ih _ ht]
    · rw [ets] at e
      have hex' : ∀ d ∈ tysD ts, ∃ C, J.x.G.cls d = some C ∧ C.exc = true := fun d hd => by
        rw [g.G]
        exact hex d hd
      exact kit_any (fun d b' hb' ⟨C, hC, hx⟩ => e2 d C b' hC hx hb') hex' e
    · refine p (.bl b) _ _ (put_rel r hq (.inl rfl)) ?_ (MRep.bl _)
      have st := put_step (g := gg) (H := H) (p := q) (o := .tup ((tysD ts).map fun d => V.ref (J.k.ca d))) (t := .fz) (r.str.no_tag hq)
      simpa only [pureE] using st
end
end Pv
end

section
set_option Elab.async false
set_option linter.all false
set_option maxRecDepth 100000
set_option autoImplicit false
/-! Pv22: the check of an expression is sound (the main cases). -/
namespace Pv
open PySem PySem.Spec PyProof.Rows L2

theorem hs_none {st : Ck} {X : Cx} {J : Jx} (g : Good st X J) (h : st.hs = none) : J.md.hx = none := by
  have := g.hs
  rw [h] at this
  cases e : J.md.hx with
  | none => rfl
  | some p => rw [e] at this; cases this
theorem hs_some {st : Ck} {X : Cx} {J : Jx} {i : Nat} (g : Good st X J) (h : st.hs = some i) : ∃ a c, J.md.hx = some (i, a, c) := by
  have := g.hs
  rw [h] at this
  cases e : J.md.hx with
  | none => rw [e] at this; cases this
  | some p =>
    rw [e] at this
    obtain ⟨j, a, c⟩ := p
    simp only [Option.map_some, Option.some.injEq] at this
    subst this
    exact ⟨a, c, rfl⟩
theorem ownB_map {tg : Tg} {N : List Str} : (ownB tg N).map (·.2) = tgIs tg := by
  unfold ownB
  rw [List.map_map]
  exact List.map_id _
theorem opB_eq {o : Op} {q : Operator} (h : opB o q = true) : q = opS o := of_decide_eq_true h
theorem cpB_eq {o : Cp} {q : CmpOp} (h : cpB o q = true) : q = cpS o := of_decide_eq_true h
theorem boB_eq {o : Bool} {q : BoolOp} (h : boB o q = true) : q = boS o := of_decide_eq_true h
theorem lastM {o1 o2 : Cp} {b c : Expr} (h : setB c = false) : lastMarks [cpS o1, cpS o2] [b, c] = false := by
  show behindInMarks (cpS o2) c = false
  exact marks_ok h
theorem lastM3 {o1 o2 o3 : Cp} {b c d : Expr} (h : setB d = false) : lastMarks [cpS o1, cpS o2, cpS o3] [b, c, d] = false := by
  show behindInMarks (cpS o3) d = false
  exact marks_ok h
theorem pt_ifx {X : Cx} {c a b : Expr} {pos : Pos} {tc ta tb : TT} (hc : PT X c tc) (ha : PT X a ta) (hb : PT X b tb) : PT X (.IfExp c a b pos) (fun σ H Q => tc σ H fun k H1 => if k = true then ta σ H1 Q else tb σ H1 Q) := by
  refine ⟨fun pins s σ H Q I h => ?_⟩
  have e : isTrue (.IfExp c a b pos) X.env (eval (.IfExp c a b pos) X.env) = (do if ← isTrue c X.env (eval c X.env) then isTrue a X.env (eval a X.env) else isTrue b X.env (eval b X.env)) := by
    first
      | rfl
      | simp only [isTrue]
  rw [e]
  refine wpAny_bind (thn (hc.run pins s σ H _ I h) fun k s1 ⟨H1, I1, q⟩ => ?_)
  cases k with
  | true =>
    simp only [if_true] at q ⊢
    exact ha.run pins s1 σ H1 Q I1 q
  | false =>
    simp only [Bool.false_eq_true, if_false] at q ⊢
    exact hb.run pins s1 σ H1 Q I1 q
theorem t_ife {X : Cx} {J : Jx} {t a b : Expr} {pos : Pos} {it ia ib : E} (ht : PT X t (J.tT it)) (ha : PT X a (J.tT ia)) (hb : PT X b (J.tT ib)) : PT X (.IfExp t a b pos) (J.tT (.ife it ia ib)) := by
  refine PT.imp (pt_ifx ht ha hb) fun σ H Q h => ?_
  obtain ⟨g, ρ, S, rl, p⟩ := h
  have hq : pureE (.ife it ia ib) = (pureE it && (pureE ia && pureE ib)) := by simp only [pureE, Bool.and_assoc]
  simp only [evE] at p
  rw [hq] at p
  refine tE_bindS rl p fun v S1 u g1 H1 e1 r1 st1 mr1 p1 => ?_
  cases v with
  | bl c =>
    refine ⟨c, mr1.R.bl_of, ?_⟩
    have wk : ∀ {q1 q2 : Bool} {r : _root_.Pv.R Val} {Q : VK}, (q1 = true → q2 = true) → J.Post .B q1 g1 H1 σ ρ r Q → J.Post .B q2 g1 H1 σ ρ r Q := fun {q1 q2 r Q} hq h => by
      cases r with
      | ok v S1 => exact fun u g2 H2 r s mr => h u g2 H2 r (by
          cases q1 with
          | true => rw [hq rfl] at s; exact s
          | false => exact s.weak) mr
      | exn c S1 => exact h
      | stuck => exact h
    cases c with
    | true =>
      simp only [if_true] at p1 ⊢
      exact ⟨g1, ρ, S1, r1, wk (fun z => (Bool.and_eq_true_iff.mp z).1) p1⟩
    | false =>
      simp only [Bool.false_eq_true, if_false] at p1 ⊢
      exact ⟨g1, ρ, S1, r1, wk (fun z => (Bool.and_eq_true_iff.mp z).2) p1⟩
  | _ => exact p1.elim
section
variable {n : Nat} (ih : Snd n)
include ih
theorem snd_comp {st : Ck} {X : Cx} {J : Jx} {m : Md} {e : Expr} {ce it : E} {tg : Tg} {cd : Option E} (g : Good st X J) (h : mE (n + 1) st m e (.comp ce tg it cd) = true) :
    ∃ K : Jx, (∀ e σ H Q, J.tE m e σ H Q → K.tE m e σ H Q) ∧ ∃ eelt etg eiter eifs scope pos, e = .ListComp eelt [⟨etg, eiter, eifs, 0⟩] scope pos ∧ X.calm = true ∧ PI X etg eiter (K.tI it) ∧ BlkOk X.N X.env.scope scope (ownB tg st.N) ∧
    (∀ (s : Shared) (H : Hp) (C : Addr) (cl : List (Str × Addr)) (fp : List Addr), PG (X.blk s H scope (compEnvC scope cl C X.env) fp) etg (K.calm.tG tg)) ∧
    (∀ (s : Shared) (H : Hp) (C : Addr) (cl : List (Str × Addr)) (fp : List Addr), PTs (X.blk s H scope (compEnvC scope cl C X.env) fp) eifs (K.calm.tC cd)) ∧
    (∀ (s : Shared) (H : Hp) (C : Addr) (cl : List (Str × Addr)) (fp : List Addr), PE (X.blk s H scope (compEnvC scope cl C X.env) fp) eelt (K.calm.tE .V ce)) ∧
    (∀ x, foldedSetIterable eiter X.env x = pure x) ∧ (tgIs tg).Nodup ∧ tgOk K.md (tgIs tg) := by
  simp only [mE] at h
  split at h
  · rename_i eelt etg eiter eifs scope pos
    simp only [Bool.and_eq_true, decide_eq_true_eq, Bool.not_eq_true'] at h
    obtain ⟨⟨⟨⟨⟨⟨⟨⟨⟨h1, h2⟩, h3⟩, h4⟩, h5⟩, h6⟩, h7⟩, h8⟩, h9⟩, h10⟩ := h
    obtain ⟨K, gK, hK⟩ := g.lend m it
    have h2' : (st.lend (lendI st m it)).hs = none := by
      rw [← gK.hs]
      cases e : lendI st m it with
      | none => rw [e] at gK; rw [gK.hs]; exact h2
      | some i => rw [e] at gK; rw [gK.hs]; exact h2
    have hN : (st.lend (lendI st m it)).N = st.N := by cases lendI st m it <;> rfl
    have gb := fun s H C cl fp => gK.block s H scope C cl fp h2'
    refine ⟨K, hK, eelt, etg, eiter, eifs, scope, pos, rfl, g.calm h1, ih.i gK h3, by rw [g.N, g.sc]; exact blkOk_by h4, fun s H C cl fp => (tg_ok (gb s H C cl fp) h7).1, fun s H C cl fp => ?_, fun s H C cl fp => ih.e (gb s H C cl fp) h9, fold_ok h10, h5, fun i hi => ?_⟩
    · split at h8
      · exact pts_nil
      · exact pts_one (ih.t (gb s H C cl fp) h8)
      · cases h8
    · have hm := List.all_eq_true.mp h6 i hi
      refine ⟨?_, fun j a c z => ?_⟩
      · rw [getD_eq, gK.md, of_decide_eq_true hm]
        rfl
      · rw [hs_none gK h2'] at z
        cases z
  · cases h
theorem snd_isi {st : Ck} {X : Cx} {J : Jx} {m : Md} {e : Expr} {a : E} {t : Ty} (g : Good st X J) (h : mE (n + 1) st m e (.isi a t) = true) : PE X e (J.tE m (.isi a t)) := by
  simp only [mE] at h
  split at h
  · rename_i x p1 ea y p2 pos
    simp only [Bool.and_eq_true, decide_eq_true_eq, Bool.not_eq_true'] at h
    obtain ⟨⟨⟨⟨⟨rfl, h2⟩, h3⟩, h4⟩, h5⟩, h6⟩ := h
    have hg := g.gl h2
    have hm := g.free _ (List.contains_iff_mem.mp h3)
    have hyg := g.gl h4
    have plain : (isiB st y t && mE n st .B ea a) = true → PE X (.Call (.Name "isinstance" p1) [ea, .Name y p2] [] pos) (J.tE m (.isi a t)) := fun h => by
      obtain ⟨q1, q4⟩ := Bool.and_eq_true_iff.mp h
      rcases Bool.or_eq_true_iff.mp (show (_ || _) = true from q1) with q | q
      · simp only [Bool.and_eq_true, decide_eq_true_eq] at q
        obtain ⟨⟨q1, q2⟩, q3⟩ := q
        exact s_isi q1 hg hm q2 hyg (g.free _ (List.contains_iff_mem.mp q3)) (ih.e g q4) (star_ok h5)
      · split at q
        · rename_i d
          split at q
          · rename_i D hD
            simp only [Bool.and_eq_true, decide_eq_true_eq, Bool.not_eq_true'] at q
            obtain ⟨⟨q1, q2⟩, q3⟩ := q
            have hD' : J.x.G.cls d = some D := by rw [g.G]; exact hD
            have hF : IsiF X.K J.k.ca J.x.G := by rw [g.G]; exact g.ids.2
            have hmy : X.mg y = some (.ref (J.k.ca d)) := by rw [← q2]; exact g.cls d D hD
            exact s_isO hD' q1 hF hg hm hyg hmy (dbg_of q3).1 (ih.e g q4) (star_ok h5)
          · cases q
        · cases q
    split at h6
    · rename_i hh i hs
      split at h6
      · rename_i he
        subst he
        split at h6
        · rename_i z pz
          simp only [Bool.and_eq_true, decide_eq_true_eq] at h6
          obtain ⟨⟨⟨q1, q2⟩, q3⟩, q4⟩ := h6
          obtain ⟨a, c, hx⟩ := hs_some g hs
          obtain ⟨d1, d2⟩ := dbg_of q3
          split at q4
          · simp only [Bool.and_eq_true, decide_eq_true_eq] at q4
            obtain ⟨rfl, q5⟩ := q4
            exact s_isxV g hx hg hm (by rw [g.N]; exact q1) (g.vis q2) d1 d2 hyg (g.free _ (List.contains_iff_mem.mp q5))
          · split at q4
            · rename_i C hC
              simp only [Bool.and_eq_true, decide_eq_true_eq] at q4
              exact s_isxC g hx hg hm (by rw [g.N]; exact q1) (g.vis q2) d1 d2 hC q4.1.1 q4.1.2 hyg (dbg_of q4.2).1
            · cases q4
          · cases q4
        · cases h6
      · exact plain h6
    · exact plain h6
  · cases h
theorem snd_e {st : Ck} {X : Cx} {J : Jx} {m : Md} {e : Expr} {ie : E} (g : Good st X J) (h : mE (n + 1) st m e ie = true) : PE X e (J.tE m ie) := by
  cases ie with
  | v i =>
    simp only [mE] at h
    split at h
    · simp only [Bool.and_eq_true, decide_eq_true_eq] at h
      obtain ⟨⟨⟨h1, h2⟩, h3⟩, h4⟩ := h
      obtain ⟨d1, d2⟩ := dbg_of h3
      exact s_v (by rw [g.N]; exact h1) (g.vis h2) d1 d2 (by rw [g.md]; exact h4)
    · cases h
  | k c =>
    simp only [mE] at h
    split at h
    · exact s_k (cn_eq h)
    · cases h
  | gl x c =>
    simp only [mE] at h
    split at h
    · simp only [Bool.and_eq_true, decide_eq_true_eq] at h
      obtain ⟨⟨⟨rfl, h2⟩, h3⟩, h4⟩ := h
      split at h4
      · obtain ⟨u, hu, hr⟩ := g.cons _ _ (List.contains_iff_mem.mp h4)
        exact s_gl (c := .int _) (g.gl h2) hu hr (dbg_of h3).1
      · obtain ⟨u, hu, hr⟩ := g.cons _ _ (List.contains_iff_mem.mp h4)
        exact s_gl (c := .str _) (g.gl h2) hu hr (dbg_of h3).1
      · cases h4
    · cases h
  | op2 o a b =>
    simp only [mE] at h
    split at h
    · simp only [Bool.and_eq_true] at h
      obtain ⟨⟨h1, h2⟩, h3⟩ := h
      have := opB_eq h1
      subst this
      exact s_op2 (ih.e g h2) (ih.e g h3)
    · cases h
  | rep es b =>
    simp only [mE] at h
    split at h
    · simp only [Bool.and_eq_true] at h
      exact s_rep (ih.es g h.1).1 (ih.e g h.2)
    · cases h
  | neg a =>
    simp only [mE] at h
    split at h
    · exact s_neg (ih.e g h)
    · cases h
  | cmp o a b =>
    simp only [mE] at h
    split at h
    · simp only [Bool.and_eq_true, Bool.not_eq_true'] at h
      obtain ⟨⟨⟨h1, h2⟩, h3⟩, h4⟩ := h
      have := cpB_eq h1
      subst this
      exact s_cmp g.un (ih.e g h2) (ih.e g h3) (marks_ok h4)
    · cases h
  | ch o1 o2 a b c =>
    simp only [mE] at h
    split at h
    · simp only [Bool.and_eq_true, Bool.not_eq_true'] at h
      obtain ⟨⟨⟨⟨⟨⟨⟨h1, h2⟩, h3⟩, h4⟩, h5⟩, h6⟩, h7⟩, h8⟩ := h
      have e1 := cpB_eq h1
      have e2 := cpB_eq h2
      subst e1 e2
      exact s_ch g.un h3 h4 (ih.e g h5) (ih.e g h6) (ih.e g h7) (lastM h8)
    · cases h
  | ch3 o1 o2 o3 a b c d =>
    simp only [mE] at h
    split at h
    · simp only [Bool.and_eq_true, Bool.not_eq_true'] at h
      obtain ⟨⟨⟨⟨⟨⟨⟨⟨⟨⟨h1, h2⟩, h3⟩, h4⟩, h5⟩, h6⟩, h7⟩, h8⟩, h9⟩, h10⟩, h11⟩ := h
      have e1 := cpB_eq h1
      have e2 := cpB_eq h2
      have e3 := cpB_eq h3
      subst e1 e2 e3
      exact s_ch3 g.un h4 h5 h6 (ih.e g h7) (ih.e g h8) (ih.e g h9) (ih.e g h10) (lastM3 h11)
    · cases h
  | isiT a ts =>
    simp only [mE] at h
    split at h
    · rename_i x p1 ea tys kk pt pos
      simp only [Bool.and_eq_true, decide_eq_true_eq, Bool.not_eq_true'] at h
      obtain ⟨⟨⟨⟨rfl, h2⟩, h3⟩, h4⟩, h5⟩ := h
      split at h5
      · rename_i hh i hs
        simp only [Bool.and_eq_true, decide_eq_true_eq] at h5
        obtain ⟨rfl, h5⟩ := h5
        split at h5
        · rename_i z pz
          simp only [Bool.and_eq_true, decide_eq_true_eq] at h5
          obtain ⟨⟨⟨⟨q1, q2⟩, q3⟩, q4⟩, q5⟩ := h5
          obtain ⟨a, c, hx⟩ := hs_some g hs
          obtain ⟨d1, d2⟩ := dbg_of q3
          exact s_isxT g hx (g.gl h2) (g.free _ (List.contains_iff_mem.mp h3)) (by rw [g.N]; exact q1) (g.vis q2) d1 d2 q4 q5
        · cases h5
      · cases h5
    · cases h
  | bop k es =>
    simp only [mE] at h
    split at h
    · simp only [Bool.and_eq_true] at h
      have e1 := boB_eq h.1
      subst e1
      exact ih.b g h.2
    · cases h
  | nt a =>
    simp only [mE] at h
    split at h
    · exact s_nt (ih.e g h)
    · cases h
  | ife t a b =>
    simp only [mE] at h
    split at h
    · simp only [Bool.and_eq_true] at h
      exact s_ife (ih.t g h.1.1) (ih.e g h.1.2) (ih.e g h.2)
    · cases h
  | tup es =>
    simp only [mE] at h
    split at h
    · exact s_tup (ih.es g h).1
    · cases h
  | lst es =>
    simp only [mE] at h
    split at h
    · exact s_lst (ih.es g h).1
    · cases h
  | ix a b =>
    simp only [mE] at h
    split at h
    · simp only [Bool.and_eq_true, decide_eq_true_eq, Bool.not_eq_true'] at h
      obtain ⟨⟨⟨h1, h2⟩, h3⟩, h4⟩ := h
      have hu := g.un
      refine s_ix (ma := if pureE b = true then .P else .B) g.kl (by omega) ?_ h1 (ih.e g h3) (ih.e g h4) (slice_ok h2)
      split
      · rename_i hp
        exact .inr (.inr ⟨rfl, hp⟩)
      · exact .inr (.inl rfl)
    · cases h
  | sl a lo hi =>
    simp only [mE] at h
    split at h
    · simp only [Bool.and_eq_true] at h
      exact s_sl g.kl (ih.e g h.1.1) (ih.o g h.1.2) (ih.o g h.2)
    · cases h
  | call f es =>
    simp only [mE] at h
    split at h
    · rename_i x p ees pos
      split at h
      · rename_i F hF
        simp only [Bool.and_eq_true, decide_eq_true_eq, Bool.not_eq_true', Bool.or_eq_true] at h
        obtain ⟨⟨⟨⟨⟨⟨⟨⟨⟨h1, rfl⟩, h3⟩, h3b⟩, h4⟩, h5⟩, h6⟩, h7⟩, h8⟩, h9⟩ := h
        obtain ⟨r1, r2, r3⟩ := ih.es g h9
        obtain ⟨k, addr, fd, q1, q2, q3, q4, q5⟩ := g.fns h1 f F hF h3 h3b
        cases ees with
        | nil =>
          simp only [List.length_nil] at r3
          omega
        | cons e1 er =>
          exact PE.imp (pe_callSD q5 q1 (g.gl h4) q2 q3 q4 .nil (fun σ => passAt g.tk σ) r1 (dbg_of h5).1 (str_all r2 rfl) (stars_any (by
            simp only [List.all_cons, Bool.and_eq_true] at r2
            exact r2.2))) (call_imp h6 h8)
      · cases h
    · cases h
  | fld a f =>
    simp only [mE] at h
    split at h
    · simp only [Bool.and_eq_true, decide_eq_true_eq] at h
      obtain ⟨⟨⟨⟨h1, h2⟩, h3⟩, h4⟩, h5⟩ := h
      exact s_fld h1 g.nmi (by rw [g.nmG]; exact h2) h3 (fun c hc => by
        rw [g.G] at hc
        rw [← h2]
        exact g.obj c f hc) (ih.e g h5) (recv_base h4)
    · cases h
  | sortk f a =>
    simp only [mE] at h
    split at h
    · rename_i x px ea kn y py kp pos
      split at h
      · rename_i F hF
        simp only [Bool.and_eq_true, decide_eq_true_eq] at h
        obtain ⟨⟨⟨⟨⟨⟨⟨⟨⟨h1, h2⟩, rfl⟩, rfl⟩, rfl⟩, h6⟩, h7⟩, h8⟩, h9⟩, h10⟩ := h
        obtain ⟨r1, r2, r3⟩ := ih.es g h10
        obtain ⟨addr, L⟩ := g.los h2 f F hF h1
        simp only [List.all_cons, List.all_nil, Bool.and_true, Bool.not_eq_true'] at r2
        exact s_sortk L (g.gl h8) (g.free _ (List.contains_iff_mem.mp h9)) (g.gl h7) (dbg_of h6).1 r1 (fun {env} => star_ok r2)
      · cases h
    · cases h
  | mth o mm es =>
    simp only [mE] at h
    split at h
    · rename_i eo nm ap ees pos
      simp only [Bool.and_eq_true, decide_eq_true_eq] at h
      obtain ⟨⟨⟨⟨⟨⟨⟨⟨⟨h1, h2⟩, h3⟩, h4⟩, h5⟩, h6⟩, h7⟩, h8⟩, h9⟩, h10⟩ := h
      obtain ⟨r1, r2, r3⟩ := ih.es g h10
      have hall : ∀ c f, clsV J.x.G c = true → fnOf J.x.G c mm = some f → ∃ F, callMs (F.md.tail.take (F.np - 1)) = msOf st.G mm ∧ es.length + 1 = F.np ∧ (retM F.ret = .O ∨ m.kp = true) ∧ MtX X J c nm f F := fun c f hc hf => by
        rw [g.G] at hc hf
        have q := List.all_eq_true.mp h9 c (g.ids.1 c hc)
        unfold mthB at q
        rw [hf] at q
        simp only at q
        cases hF : st.G.fn f with
        | none => rw [hF] at q; cases q
        | some F =>
          rw [hF] at q
          simp only [Bool.and_eq_true, decide_eq_true_eq, Bool.not_eq_true', Bool.or_eq_true] at q
          obtain ⟨⟨⟨q1, q2⟩, q3⟩, q4⟩ := q
          refine ⟨F, q2, q3, q4, ?_⟩
          rw [← h2]
          exact g.mt h1 c mm f F hc hf hF q1
      cases ees with
      | nil =>
        cases es with
        | cons _ _ => simp at r3
        | nil => exact s_mth0 (ms := msOf st.G mm) g.nmi (by rw [g.nmG]; exact h2) h3 ((rcv_cases h4).imp (fun z => isVar_nx z) fun z => by rw [g.G]; exact z.2) (fun c f hc hf => by
            obtain ⟨F, a1, a2, a3⟩ := hall c f hc hf
            exact ⟨F, a1, a2, a3⟩) (fun σ => passAt g.tk σ) (ih.e g h6) (meth_form (recv_base h5) h7 rfl (by decide))
      | cons e1 er =>
        have hs : ∀ {env : PySem.Env}, (backTo pos (starEach (e1 :: er) env)).any (·.1) = false := stars_any r2
        exact s_mth (ms := msOf st.G mm) g.nmi (by rw [g.nmG]; exact h2) h3 (isVar_nx ((rcv_cases h4).resolve_right fun z => by rw [z.1] at r3; simp at r3)) hall (fun σ => passAt g.tk σ) (ih.e g h6) r1 (str_all r2 rfl) (stars_any (by
          simp only [List.all_cons, Bool.and_eq_true] at r2
          exact r2.2)) (meth_form (recv_base h5) h7 hs (by rw [r3]; exact h8))
    · cases h
  | mk c es =>
    simp only [mE] at h
    split at h
    · rename_i x p ees pos
      split at h
      · rename_i C hC
        split at h
        · rename_i f hf
          split at h
          · rename_i F hF
            simp only [Bool.and_eq_true, decide_eq_true_eq, Bool.not_eq_true'] at h
            obtain ⟨⟨⟨⟨⟨⟨⟨⟨⟨h1, h2⟩, h3⟩, h4⟩, h5⟩, h6⟩, h7⟩, h8⟩, h9⟩, h10⟩ := h
            obtain ⟨r1, r2, r3⟩ := ih.es g h10
            obtain ⟨n, addr, fd, q1, q2, q3, q4, _⟩ := g.mks h1 c C f F hC h2 hf hF h4
            subst h3
            cases ees with
            | nil =>
              simp only [List.length_nil] at r3
              omega
            | cons e1 er =>
              exact PE.imp (pe_makeE q2 q4 q1 (g.gl h5) (g.cls c C hC) q3 (fun σ => passAt g.tk σ) r1 (dbg_of h6).1 (str_all r2 rfl) (stars_any (by
                simp only [List.all_cons, Bool.and_eq_true] at r2
                exact r2.2))) (mk_imp (by rw [g.G]; exact hC) hf rfl h7 h9)
          · cases h
        · cases h
      · cases h
    · cases h
  | bm b o es =>
    simp only [mE] at h
    split at h
    · rename_i eo nm ap ek cp ik
      simp only [Bool.and_eq_true, decide_eq_true_eq, Bool.not_eq_true', beq_iff_eq] at h
      obtain ⟨⟨⟨⟨⟨⟨⟨rfl, h2⟩, h3⟩, h4⟩, h5⟩, h6⟩, h7⟩, h8⟩ := h
      exact s_get g.un h4 h3 (ih.e g h5) (ih.e g h6) h2 (by rw [h8]; exact beq_self_eq_true _) (star_ok h7)
    · rename_i eo nm ap ek cp ik
      simp only [Bool.and_eq_true, decide_eq_true_eq, Bool.not_eq_true', beq_iff_eq] at h
      obtain ⟨⟨⟨⟨⟨rfl, h2⟩, h3⟩, h4⟩, h5⟩, h6⟩ := h
      obtain ⟨r1, r2, r3⟩ := ih.es g h5
      exact s_index g.un h3 (ih.e g h4) r1 h2 (by rw [h6]; exact beq_self_eq_true _) (str_all r2 rfl)
    · rename_i eo nm ap ek cp ik
      simp only [Bool.and_eq_true, decide_eq_true_eq, Bool.not_eq_true', beq_iff_eq] at h
      obtain ⟨⟨⟨⟨⟨⟨rfl, h2⟩, h3⟩, h4⟩, h5⟩, h6⟩, h7⟩ := h
      exact s_join h3 (ih.e g h4) (ih.e g h5) h2 (by rw [h7]; exact beq_self_eq_true _) (star_ok h6)
    · rename_i eo nm ap ek cp ik
      simp only [Bool.and_eq_true, decide_eq_true_eq, Bool.not_eq_true', beq_iff_eq] at h
      obtain ⟨⟨⟨⟨⟨⟨rfl, h2⟩, h3⟩, h4⟩, h5⟩, h6⟩, h7⟩ := h
      exact s_rjust h3 (ih.e g h4) (ih.e g h5) h2 (by rw [h7]; exact beq_self_eq_true _) (star_ok h6)
    · cases h
  | lck d a =>
    simp only [mE] at h
    split at h
    · simp only [Bool.and_eq_true] at h
      exact s_lck h.1.1 h.1.2 (ih.e g h.2)
    · simp only [Bool.and_eq_true] at h
      exact s_lck h.1.1 h.1.2 (ih.e g h.2)
    · cases h
  | bi b es =>
    simp only [mE] at h
    split at h
    · simp only [Bool.and_eq_true, decide_eq_true_eq] at h
      obtain ⟨⟨⟨⟨h1, rfl⟩, h3⟩, h4⟩, h5⟩ := h
      rcases Bool.or_eq_true_iff.mp h5 with hv | hv <;> clear h5
      · rcases Bool.or_eq_true_iff.mp hv with hw | hw <;> clear hv
        · rcases Bool.or_eq_true_iff.mp hw with hw | hw
          · simp only [Bool.and_eq_true, decide_eq_true_eq] at hw
            obtain ⟨⟨h5, h6⟩, h7⟩ := hw
            obtain ⟨r1, r2, r3⟩ := ih.es g h7
            exact s_bi g.un g.kl (g.calm h1) (g.gl h3) (g.free _ (List.contains_iff_mem.mp h4)) h5 h6 r1 r2 r3
          · simp only [Bool.and_eq_true, decide_eq_true_eq] at hw
            obtain ⟨⟨rfl, h6⟩, h7⟩ := hw
            obtain ⟨r1, r2, r3⟩ := ih.es g h7
            match es, h6 with
            | [ie], _ =>
              rename_i ees _ _
              match ees, r3 with
              | [ea], _ => exact s_sorted g.un (g.gl h3) (g.free _ (List.contains_iff_mem.mp h4)) r1 (str_all r2 rfl)
        · obtain ⟨hb, h5⟩ := Bool.and_eq_true_iff.mp hw
          clear hw
          replace hb := of_decide_eq_true hb
          subst hb
          split at h5
          · rename_i ies y yp rees yc
            simp only [Bool.and_eq_true, decide_eq_true_eq, Bool.or_eq_true] at h5
            obtain ⟨⟨⟨⟨rfl, q2⟩, q3⟩, q4⟩, q5⟩ := h5
            obtain ⟨r1, r2, r3⟩ := ih.es g q5
            have hm := g.free _ (List.contains_iff_mem.mp q3)
            match ies, rees, r3, q4 with
            | [a], [ea], _, _ => exact s_listR1 (g.calm h1) (g.gl h3) (g.free _ (List.contains_iff_mem.mp h4)) (g.gl q2) hm r1 (str_all r2 rfl)
            | [a, b], [ea, eb], _, _ =>
              have s1 : starEach [ea, eb] X.env = _ := str_all r2 rfl
              have s2 : starEach [eb] X.env = _ := str_all (e := eb) (r := []) (by
                simp only [List.all_cons, Bool.and_eq_true] at r2
                simpa using r2.2) rfl
              exact s_listR2 (g.calm h1) (g.gl h3) (g.free _ (List.contains_iff_mem.mp h4)) (g.gl q2) hm r1 (by rw [s1, s2]; rfl) s2
            | [], _, _, q4 => rcases q4 with z | z <;> cases z
            | _ :: _ :: _ :: _, _, _, q4 => rcases q4 with z | z <;> cases z
            | [_], [], z, _ => cases z
            | [_], _ :: _ :: _, z, _ => cases z
            | [_, _], [], z, _ => cases z
            | [_, _], [_], z, _ => cases z
            | [_, _], _ :: _ :: _ :: _, z, _ => cases z
          · rename_i ia y yp ea yc
            simp only [Bool.and_eq_true, decide_eq_true_eq, Bool.not_eq_true'] at h5
            obtain ⟨⟨⟨⟨rfl, q2⟩, q3⟩, q4⟩, q5⟩ := h5
            exact s_lstRev (g.calm h1) (g.gl h3) (g.free _ (List.contains_iff_mem.mp h4)) (g.gl q2) (g.free _ (List.contains_iff_mem.mp q3)) (ih.e g q5) (star_ok q4)
          · cases h5
      · obtain ⟨hb, h5⟩ := Bool.and_eq_true_iff.mp hv
        clear hv
        split at h5
        · rename_i ie y yp ea yc
          simp only [Bool.and_eq_true, decide_eq_true_eq, Bool.not_eq_true'] at h5
          obtain ⟨⟨⟨⟨rfl, q2⟩, q3⟩, q4⟩, q5⟩ := h5
          have hm := g.free _ (List.contains_iff_mem.mp h4)
          have hm2 := g.free _ (List.contains_iff_mem.mp q3)
          rw [Bool.or_eq_true, decide_eq_true_eq, decide_eq_true_eq] at hb
          rcases hb with rfl | rfl
          · exact s_lenSet (g.calm h1) (g.gl h3) hm (g.gl q2) hm2 (ih.e g q5) (star_ok q4)
          · exact s_sortSet (g.calm h1) (g.gl h3) hm (g.gl q2) hm2 (ih.e g q5) (star_ok q4)
        · cases h5
    · rename_i x p ea kn j p2 kp pos
      simp only [Bool.and_eq_true, decide_eq_true_eq] at h
      obtain ⟨⟨⟨⟨⟨h1, rfl⟩, h2⟩, h3⟩, h4⟩, h5⟩ := h
      obtain ⟨r1, r2, r3⟩ := ih.es g h5
      cases es with
      | nil => cases r3
      | cons ie r =>
        cases r with
        | nil =>
          simp only [List.all_cons, List.all_nil, Bool.and_true, Bool.not_eq_true'] at r2
          exact s_mnD (bdB_ok h2) (g.calm h1) g.un (g.gl h3) (g.free _ (List.contains_iff_mem.mp h4)) r1 (fun {env} => star_ok r2)
        | cons _ _ => cases r3
    · rename_i x p ea kn zz j p2 kp pos
      simp only [Bool.and_eq_true, decide_eq_true_eq] at h
      obtain ⟨⟨⟨⟨⟨⟨h1, rfl⟩, rfl⟩, h2⟩, h3⟩, h4⟩, h5⟩ := h
      obtain ⟨r1, r2, r3⟩ := ih.es g h5
      cases es with
      | nil => cases r3
      | cons ie r =>
        cases r with
        | nil =>
          simp only [List.all_cons, List.all_nil, Bool.and_true, Bool.not_eq_true'] at r2
          exact s_mnZ (bzB_ok h2) (g.calm h1) g.un (g.gl h3) (g.free _ (List.contains_iff_mem.mp h4)) r1 (fun {env} => star_ok r2)
        | cons _ _ => cases r3
    · cases h
  | isi a t => exact snd_isi ih g h
  | mkr a =>
    simp only [mE] at h
    split at h
    · exact s_mkr fun k => ih.e g (mE_N k h)
    · exact s_mkr fun k => ih.e g (mE_N k h)
    · exact s_mkr fun k => ih.e g (mE_N k h)
    · exact s_mkr fun k => ih.e g (mE_N k h)
    · exact s_mkr fun k => ih.e g (mE_N k h)
    · cases h
  | d0 t =>
    simp only [mE] at h
    split at h
    · exact s_d0
    · cases h
  | comp ce tg it cd =>
    obtain ⟨K, hK, eelt, etg, eiter, eifs, scope, pos, rfl, h1, h2, h3, h4, h5, h6, h7, h8, h9⟩ := snd_comp ih g h
    exact PE.imp (s_comp (K := K) h1 g.nd h2 h3 ownB_map h4 h5 h6 h7 h8 h9) (hK _)
  | _ => simp [mE] at h
theorem snd_t {st : Ck} {X : Cx} {J : Jx} {e : Expr} {ie : E} (g : Good st X J) (h : mE (n + 1) st .B e ie = true) : PT X e (J.tT ie) := by
  have hE := snd_e ih (m := .B) g h
  cases ie with
  | cmp o a b =>
    simp only [mE] at h
    split at h
    · simp only [Bool.and_eq_true, Bool.not_eq_true'] at h
      obtain ⟨⟨⟨h1, h2⟩, h3⟩, h4⟩ := h
      have := cpB_eq h1
      subst this
      exact t_cmp g.un (ih.e g h2) (ih.e g h3) (marks_ok h4)
    · cases h
  | ch o1 o2 a b c =>
    simp only [mE] at h
    split at h
    · simp only [Bool.and_eq_true, Bool.not_eq_true'] at h
      obtain ⟨⟨⟨⟨⟨⟨⟨h1, h2⟩, h3⟩, h4⟩, h5⟩, h6⟩, h7⟩, h8⟩ := h
      have e1 := cpB_eq h1
      have e2 := cpB_eq h2
      subst e1 e2
      exact t_ch g.un h3 h4 (ih.e g h5) (ih.e g h6) (ih.e g h7) (lastM h8)
    · cases h
  | ch3 o1 o2 o3 a b c d =>
    simp only [mE] at h
    split at h
    · simp only [Bool.and_eq_true, Bool.not_eq_true'] at h
      obtain ⟨⟨⟨⟨⟨⟨⟨⟨⟨⟨h1, h2⟩, h3⟩, h4⟩, h5⟩, h6⟩, h7⟩, h8⟩, h9⟩, h10⟩, h11⟩ := h
      have e1 := cpB_eq h1
      have e2 := cpB_eq h2
      have e3 := cpB_eq h3
      subst e1 e2 e3
      exact t_ch3 g.un h4 h5 h6 (ih.e g h7) (ih.e g h8) (ih.e g h9) (ih.e g h10) (lastM3 h11)
    · cases h
  | bop k es =>
    simp only [mE] at h
    split at h
    · simp only [Bool.and_eq_true] at h
      have e1 := boB_eq h.1
      subst e1
      exact (ih.bt g h.2).pt
    · cases h
  | nt a =>
    simp only [mE] at h
    split at h
    · exact t_nt (ih.t g h)
    · cases h
  | ife t a b =>
    simp only [mE] at h
    split at h
    · simp only [Bool.and_eq_true] at h
      exact t_ife (ih.t g h.1.1) (ih.t g h.1.2) (ih.t g h.2)
    · cases h
  | mkr a =>
    simp only [mE] at h
    split at h
    · exact evPt hE rfl
    · exact evPt hE rfl
    · exact evPt hE rfl
    · exact evPt hE rfl
    · exact evPt hE rfl
    · cases h
  | _ =>
    simp only [mE] at h
    try split at h
    all_goals first
      | exact evPt hE rfl
      | cases h
end
theorem snd : ∀ n, Snd n
  | 0 => snd0
  | n + 1 =>
    have ih := snd n
    ⟨fun g h => snd_e ih g h, fun g h => snd_t ih g h, fun g h => snd_es ih g h, fun g h => snd_b ih g h, fun g h => snd_bt ih g h, fun g h => snd_o ih g h, fun g h => snd_i ih g h⟩
end Pv
end

section
set_option Elab.async false
set_option linter.all false
set_option maxRecDepth 100000
set_option autoImplicit false
/-! Pv17m: several except clauses with one name. -/
namespace Pv
open PySem PySem.Spec PyProof.Rows L2
/-- what the clauses wish of an exception of the body, one after the other; slot i is the name's -/
def wAsM (K : PySem.W.Frag) (i : Nat) (Wout : WX) (D : Ends) : List (Value × (Addr → Value → Option Addr → TS)) → WX
  | [] => Wout
  | (c, ts) :: r => fun cls d σ H => ∃ b, PySem.W.exmOne K cls c = some b ∧ (b = true → ∀ a, H a = none → ts a cls d { nx := fun σ' H' => D.nx (σ'.set i none) H', rt := D.rt, bk := fun σ' H' => D.bk (σ'.set i none) H', ct := fun σ' H' => D.ct (σ'.set i none) H' } (σ.set i (some (.ref a))) H) ∧
    (b = false → wAsM K i Wout D r cls d σ H)
inductive HdsNm (X : Cx) (n : Str) : List ExceptHandler → List (Value × (Addr → Value → Option Addr → TS)) → Prop
  | nil : HdsNm X n [] []
  | cons {x : Str} {c : Value} {ts : Addr → Value → Option Addr → TS} {b₀ : Stmt} {suite : List Stmt} {np pos' : Pos} {hds : List ExceptHandler} {l : List (Value × (Addr → Value → Option Addr → TS))} (hc : Names X x c)
      (hsu : ∀ (a : Addr) (oe : Obj) (cls : Value) (d : Option Addr) (pn : List (Addr × Obj)), Zc cls d oe → (∃ vs, oe.data = .fields vs) → PSs (X.suite a ((a, oe) :: pn)) (b₀ :: suite) (ts a cls d)) (r : HdsNm X n hds l) :
      HdsNm X n (.ExceptHandler (some (.Name x np)) (some n) (b₀ :: suite) pos' :: hds) ((c, ts) :: l)
section
variable {X : Cx} {n : Str} {i : Nat} {body : List Stmt} {h₀ : ExceptHandler} {hds : List ExceptHandler} {l : List (Value × (Addr → Value → Option Addr → TS))} {pos : Pos} {tb : WX → TS} {Wout : WX}
theorem ps_try_asM (hs : X.stack = X.env :: X.outer) (hf : X.env.frame = some X.env.locals) (hN : X.N.Nodup) (hi : X.N[i]? = some n) (hln : X.env.kindOf n = some .local) (tk : Takes X Wout)
    (hb : ∀ (W : WX) (pn : List (Addr × Obj)) (xe : Value → Shared → Prop), Takes (X.tr pn xe) W → PassesOwn (model X.prog X.w) X.A X.env xe → PSs (X.tr pn xe) body (tb W))
    (hh : HdsNm X n (h₀ :: hds) l) : PS X (.Try body (h₀ :: hds) [] [] pos) (fun D σ H => tb (wAsM X.K i Wout D l) D σ H) := by
  refine ⟨fun pins s σ H D I h => ?_⟩
  have ok := I.ok
  have hfr : X.A.frames = some (X.env :: X.outer) := by rw [ok.frames, hs]
  have hloc : L2.Loc X.env.scope n := .inl hln
  refine wpAny_Try_except ?_
  refine wpAny_mono ((hb (wAsM X.K i Wout D l) (X.pn ++ pins) (fun e s₁ => wpAny (model X.prog X.w) X.A (noteFrame e X.env) (fun _ s₂ => wpAny (model X.prog X.w) X.A (setFlight e none) (fun _ s₃ =>
    wpAny (model X.prog X.w) X.A (handleBy e X.env (h₀ :: hds)) (SP X pins D) X.xe s₃) X.xe s₂) X.xe s₁) (fun u s' xx => ?_) PassesOwn.looking).run [] s σ H D (I.toTry _) h) (fun f s1 hsp => ?_) (fun e s1 he => he)
  · -- the catch
    obtain ⟨a, B, sI, pins', σ', H', cls, d, rfl, J', nb, up, sky, na, os, ag, w⟩ := xx
    have J : Inv X pins σ' H' sI := J'.ofTry ok
    have sky' : Sky B (X.env :: X.outer) a (Zc cls d) X.env.locals s'.heap := by rw [← hs]; exact sky
    show wpAny (model X.prog X.w) X.A (noteFrame (.ref a) X.env) _ _ _
    refine Sky.land Zc.steady hfr hf sky' fun h3 fl3 up3 => ?_
    have J3 : Inv X pins σ' H' { s' with heap := h3 } := J.landed nb fl3.1 (up.trans up3) os ag
    obtain ⟨oe3, vs3, he3, hz3, hd3⟩ := fl3.there
    have notFr : ∀ {h : Heap} {o : Obj} {vs : Array Value}, h.FunFrames B (X.env :: X.outer) → h.get? a = some o → o.data = .fields vs → a ∉ frs (X.env :: X.outer) := fun {h o vs} ff e dd hm => by
      obtain ⟨_, o', e', hnf⟩ := ff.mem hm
      rw [e] at e'; cases e'
      exact hnf _ dd
    have nfr := notFr fl3.2.2.1 he3 hd3
    have nL : a ≠ X.env.locals := fun z => nfr (List.mem_filterMap.mpr ⟨X.env, List.mem_cons_self, by rw [hf, z]⟩)
    have nF : a ∉ X.fs := fun hm => by
      obtain ⟨e, he, q⟩ := List.mem_filterMap.mp hm
      exact nfr (List.mem_filterMap.mpr ⟨e, List.mem_cons_of_mem _ he, q⟩)
    have S3 := J3.suite he3 hd3 na nL nF
    have go : ∀ {hds' : List ExceptHandler} {l' : List (Value × (Addr → Value → Option Addr → TS))}, HdsNm X n hds' l' → wAsM X.K i Wout D l' cls d σ' H' →
        wpAny (model X.prog X.w) X.A (handleBy (.ref a) X.env hds') (SP X pins D) X.xe { s' with heap := h3 } := by
      intro hds' l' hk
      induction hk with
      | nil =>
        intro w
        refine wpAny_handleBy_nil ?_
        obtain ⟨k1, k2, k3, oe, vs, T, oT, ts', he, hz, hd, h1, hr⟩ := id fl3
        unfold PySem.passOn
        refine wpAny_bind (wpAny_field he hd h1 ?_)
        rw [if_neg (show ¬ ((Value.ref T == Value.none) = true) from by simp)]
        have fin : wpAny (model X.prog X.w) X.A (setFlight (.ref a) X.env.frame) (fun _ s4 => wpAny (model X.prog X.w) X.A (throw (.ref a) : Sem Flow) (SP X pins D) X.xe s4) X.xe { s' with heap := h3 } := by
          rw [hf]
          refine HandSPX.setFlight_upZ fl3 fun h4 hh4 up4 => wpAny_throw (tk _ _ ?_)
          exact ⟨a, B, sI, pins, σ', H', cls, d, rfl, J, nb, (up.trans up3).trans up4, .inr (.inr (by rw [hs]; exact hh4)), na, os, ag, w⟩
        first
          | exact wpAny_bind (wpAny_pure (wpAny_bind fin))
          | exact wpAny_bind fin
      | @cons x c ts b₀ suite np pos' hds2 l2 hc hsu r ih =>
        intro w
        obtain ⟨b, hb1, hyes, hno⟩ := w
        refine wpAny_handleBy_cons (codeAny_handlers_test ?_) (by intro q; cases q)
        have LT : PySem.W.Looks (model X.prog X.w) h3 (typeOf (.ref a)) cls := fun A Q E s k q => wpAny_typeOf_ref (k _ _ he3) (by rw [hz3.1]; exact q)
        have LM := PySem.W.exm_one (M := model X.prog X.w) (J3.kIn) LT hb1
        have test : ∀ {Q : Value → Shared → Prop} {E : Value → Shared → Prop}, Q c { s' with heap := h3 } → wpAny (model X.prog X.w) (X.A.mark (some (.ref a))) (eval (.Name x np) X.env) Q E { s' with heap := h3 } := fun {Q E} q => by
          obtain ⟨hg, hdbg, hm | ⟨hm, hv, hnn⟩⟩ := hc
          · exact ld_glob (X := X.suite a ((a, oe3) :: (X.pn ++ pins))) S3 hg hm q hdbg
          · exact ld_blt (X := X.suite a ((a, oe3) :: (X.pn ++ pins))) S3 hg hm hv q hnn hdbg
        refine test (LM.here ?_)
        cases b with
        | true =>
          refine codeAny_handlers_suite_as ?_
          refine HandSPX.lands_againZ fl3 fun h4 fl4 up4 => ?_
          have J4 : Inv X pins σ' H' { s' with heap := h4 } := J.landed nb fl4.1 ((up.trans up3).trans up4) os ag
          obtain ⟨oe4, vs4, he4, hz4, hd4⟩ := fl4.there
          have S4 := J4.suite he4 hd4 na nL nF
          refine store_ok (X := X.suite a ((a, oe4) :: (X.pn ++ pins))) (v := .ref a) S4 hN hi hloc rfl (fun s5 S5 => ?_) (.inr hln)
          refine wpAny_mono ((hsu a oe4 cls d (X.pn ++ pins) hz4 ⟨_, hd4⟩).run [] s5 _ H' _ S5 (hyes rfl a na)) (fun f s6 hsp => ?_) (fun _ _ z => False.elim z)
          have end_ : ∀ {σ6 : L2.St} {H6 : Hp} {Q : Shared → Prop}, Inv (X.suite a ((a, oe4) :: (X.pn ++ pins))) [] σ6 H6 s6 → (∀ s7, Inv X pins (σ6.set i none) H6 s7 → Q s7) →
              wpAny (model X.prog X.w) X.A (do bindName X.env n .none; unbindBehindTheSuite X.env n pos') (fun _ s7 => Q s7) X.xe s6 := fun {σ6 H6 Q} S6 hq => gone_ok (S6.unsuite ok) hN hi hln hq
          cases f with
          | next =>
            obtain ⟨σ6, H6, S6, q6⟩ := hsp
            exact end_ S6 fun s7 J7 => ⟨_, _, J7, q6⟩
          | brk =>
            obtain ⟨σ6, H6, S6, q6⟩ := hsp
            exact end_ S6 fun s7 J7 => ⟨_, _, J7, q6⟩
          | cont =>
            obtain ⟨σ6, H6, S6, q6⟩ := hsp
            exact end_ S6 fun s7 J7 => ⟨_, _, J7, q6⟩
          | ret u =>
            obtain ⟨v6, σ6, H6, S6, r6, q6⟩ := hsp
            exact end_ S6 fun s7 J7 => ⟨_, _, _, J7, r6, q6⟩
        | false =>
          show wpAny _ X.A (handleBy (.ref a) X.env hds2) _ _ _
          exact ih (hno rfl)
    exact go hh w
  · cases f with
    | next =>
      obtain ⟨σ', H', J', q⟩ := hsp
      exact wpAny_execs_nil ⟨σ', H', J'.ofTry ok, q⟩
    | brk =>
      obtain ⟨σ', H', J', q⟩ := hsp
      exact ⟨σ', H', J'.ofTry ok, q⟩
    | cont =>
      obtain ⟨σ', H', J', q⟩ := hsp
      exact ⟨σ', H', J'.ofTry ok, q⟩
    | ret u =>
      obtain ⟨v, σ', H', J', r, q⟩ := hsp
      exact ⟨v, σ', H', J'.ofTry ok, r, q⟩
end
inductive NamedH (X : Cx) (J : Jr) (y : Str) (i : Nat) : List ExceptHandler → List (Nat × Option Nat × List _root_.Pv.S) → Prop where
  | nil : NamedH X J y i [] []
  | cons {x : Str} {b₀ : Stmt} {suite : List Stmt} {np pos' : Pos} {d : Nat} {isu : List _root_.Pv.S} {hds : List ExceptHandler} {ihs : List (Nat × Option Nat × List _root_.Pv.S)} (hc : Names X x (.ref (J.k.ca d))) (hk : Catch X.K J d)
      (hsu : ∀ (a : Addr) (oe : Obj) (c : Nat) (pn : List (Addr × Obj)), (∃ C, J.x.G.cls c = some C ∧ C.exc = true) → Zc (.ref (J.k.ca c)) none oe → (∃ vs, oe.data = .fields vs) → PSs (X.suite a ((a, oe) :: pn)) (b₀ :: suite) ((J.suit (some (i, a, c))).tSs isu))
      (r : NamedH X J y i hds ihs) : NamedH X J y i (.ExceptHandler (some (.Name x np)) (some y) (b₀ :: suite) pos' :: hds) ((d, some i, isu) :: ihs)
def hdN (J : Jr) (i : Nat) (ihs : List (Nat × Option Nat × List _root_.Pv.S)) : List (Value × (Addr → Value → Option Addr → TS)) := ihs.map fun ih => (.ref (J.k.ca ih.1), fun a cls dd D σ H => ∃ c, cls = .ref (J.k.ca c) ∧ dd = none ∧ (∃ C, J.x.G.cls c = some C ∧ C.exc = true) ∧ (J.suit (some (i, a, c))).tSs ih.2.2 D σ H)
theorem NamedH.ok {X : Cx} {J : Jr} {y : Str} {i : Nat} {hds : List ExceptHandler} {ihs : List (Nat × Option Nat × List _root_.Pv.S)} (h : NamedH X J y i hds ihs) : HdsNm X y hds (hdN J i ihs) := by
  induction h with
  | nil => exact .nil
  | cons hc hk hsu r ih =>
    refine .cons hc (fun a oe cls d pn hz hf => ⟨fun pins s σ H D I h => ?_⟩) ih
    obtain ⟨c, rfl, rfl, hC, h⟩ := h
    exact (hsu a oe c pn hC hz hf).run pins s σ H D I h
theorem NamedH.many {X : Cx} {J : Jr} {y : Str} {i : Nat} (h0 : J.md.hx = none) (hm : J.md.l[i]? = some .shr) {D : Ends} {c : Nat} {hds : List ExceptHandler} {ihs : List (Nat × Option Nat × List _root_.Pv.S)} (h : NamedH X J y i hds ihs) :
    ∀ {g1 : Gh} {H1 : Hp} {σ1 : L2.St} {ρ1 : Env} {S1 : Store}, Rel J.k J.md g1 σ1 H1 ρ1 S1 → J.PostS g1 H1 (evH J.x c ihs ρ1 S1) D → wAsM X.K i J.W D (hdN J i ihs) (.ref (J.k.ca c)) none σ1 H1 := by
  induction h with
  | nil =>
    intro g H σ ρ S r p
    simp only [evH] at p
    exact p σ g H r StepS.refl
  | @cons x b₀ suite np pos' d isu hds ihs hc hk hsu r' ih =>
    intro g1 H1 σ1 ρ1 S1 r1 p
    simp only [evH] at p
    cases ec : catches J.x.G c d with
    | none => rw [ec] at p; exact p.elim
    | some b =>
      rw [ec] at p
      refine ⟨b, hk c b ec, fun hb a _ => ?_, fun hb => ?_⟩
      · subst hb
        have hC : ∃ C, J.x.G.cls c = some C ∧ C.exc = true := by
          unfold catches at ec
          split at ec
          · rename_i C hC
            split at ec
            · rename_i hx
              exact ⟨C, hC, hx⟩
            · cases ec
          · cases ec
        refine ⟨c, rfl, rfl, hC, g1, ρ1.set i (some (.exc c)), S1, ?_, ?_⟩
        · have hl : i < J.md.l.length := by
            by_cases z : i < J.md.l.length
            · exact z
            · rw [List.getElem?_eq_none (by omega)] at hm
              cases hm
          have hx0 : hxOk J.md i := fun j a c z => by rw [h0] at z; cases z
          have r2 := rel_set (v := .exc c) (u := .ref a) r1 hx0 (by
            rw [getD_eq, hm]
            show VRep _ _ _ _ _
            simp only [VRep]
            exact ⟨a, rfl⟩)
          refine ⟨r2.len, r2.lenσ, r2.slot, fun j a' c' z => ?_, r2.str⟩
          cases z
          rw [set_at, set_at, if_pos ⟨rfl, by rw [r1.lenσ]; exact hl⟩, if_pos ⟨rfl, by rw [r1.len]; exact hl⟩]
          exact ⟨rfl, rfl⟩
        · simp only [asSlot] at p
          have w : ∀ {g' : Gh} {σ' : L2.St} {H' : Hp} {ρ' : Env} {S' : Store}, Rel (J.suit (some (i, a, c))).k (J.suit (some (i, a, c))).md g' σ' H' ρ' S' → Rel J.k J.md g' (σ'.set i none) H' (ρ'.set i none) S' := fun {g' σ' H' ρ' S'} q => by
            have q2 : Rel J.k { J.md with hx := none } g' σ' H' ρ' S' := ⟨q.len, q.lenσ, q.slot, (fun _ _ _ z => nomatch z), q.str⟩
            have q3 := rel_dropσ (i := i) q2 (fun _ _ _ z => nomatch z)
            exact ⟨q3.len, q3.lenσ, q3.slot, (fun j a c z => by rw [h0] at z; cases z), q3.str⟩
          cases ev2 : evSs (J.suit (some (i, a, c))).x isu (ρ1.set i (some (.exc c))) S1 with
          | nx ρ2 S2 =>
            have e2 : evSs J.x isu (ρ1.set i (some (.exc c))) S1 = .nx ρ2 S2 := ev2
            rw [e2] at p
            exact fun σ2 g2 H2 q st2 => p _ g2 H2 (w q) st2
          | brk ρ2 S2 =>
            have e2 : evSs J.x isu (ρ1.set i (some (.exc c))) S1 = .brk ρ2 S2 := ev2
            rw [e2] at p
            exact fun σ2 g2 H2 q st2 => p _ g2 H2 (w q) st2
          | cnt ρ2 S2 =>
            have e2 : evSs J.x isu (ρ1.set i (some (.exc c))) S1 = .cnt ρ2 S2 := ev2
            rw [e2] at p
            exact fun σ2 g2 H2 q st2 => p _ g2 H2 (w q) st2
          | ret v S2 =>
            have e2 : evSs J.x isu (ρ1.set i (some (.exc c))) S1 = .ret v S2 := ev2
            rw [e2] at p
            exact p
          | exn c2 ρ2 S2 =>
            have e2 : evSs J.x isu (ρ1.set i (some (.exc c))) S1 = .exn c2 ρ2 S2 := ev2
            rw [e2] at p
            exact p.elim
          | stuck =>
            have e2 : evSs J.x isu (ρ1.set i (some (.exc c))) S1 = .stuck := ev2
            rw [e2] at p
            exact p.elim
      · subst hb
        exact ih r1 p
theorem s_tryAsM {X : Cx} {J : Jr} {pos : Pos} {body : List Stmt} {n : Str} {i : Nat} {h₀ : ExceptHandler} {hds : List ExceptHandler} {ib : List _root_.Pv.S} {ihs : List (Nat × Option Nat × List _root_.Pv.S)} (h0 : J.md.hx = none) (hs : X.stack = X.env :: X.outer) (hf : X.env.frame = some X.env.locals)
    (hN : X.N.Nodup) (hi : X.N[i]? = some n) (hln : X.env.kindOf n = some .local) (hm : J.md.l[i]? = some .shr) (tk : Takes X J.W)
    (hb : ∀ (W : WX) (pn : List (Addr × Obj)) (xe : Value → Shared → Prop), Takes (X.tr pn xe) W → PassesOwn (model X.prog X.w) X.A X.env xe → PSs (X.tr pn xe) body ((J.wish W).tSs ib))
    (hh : NamedH X J n i (h₀ :: hds) ihs) : PS X (.Try body (h₀ :: hds) [] [] pos) (J.tS (.tr ib ihs)) := by
  refine PS.imp (ps_try_asM hs hf hN hi hln tk hb hh.ok) fun D σ H h => ?_
  obtain ⟨g, ρ, S, r, p⟩ := h
  refine ⟨g, ρ, S, r, ?_⟩
  simp only [evS] at p
  show (J.wish _).PostS g H (evSs J.x ib ρ S) D
  cases ev : evSs J.x ib ρ S with
  | nx ρ1 S1 => rw [ev] at p; exact p
  | brk ρ1 S1 => rw [ev] at p; exact p
  | cnt ρ1 S1 => rw [ev] at p; exact p
  | ret v S1 => rw [ev] at p; exact p
  | stuck => rw [ev] at p; exact p
  | exn c ρ1 S1 =>
    rw [ev] at p
    exact fun σ1 g1 H1 r1 st => hh.many h0 hm r1 (postS_after p st)
end Pv
end

section
set_option Elab.async false
set_option linter.all false
set_option maxRecDepth 100000
set_option autoImplicit false
/-! Pv23: the small language's text against the tree: statements. -/
namespace Pv
open PySem PySem.Spec PyProof.Rows L2

structure GoodS (st : Ck) (X : Cx) (J : Jr) : Prop extends Good st X J.toJx where
  own : PassesOwn (model X.prog X.w) X.A X.env X.xe
  knd : st.sc.kind = .function
  stk : X.stack = X.env :: X.outer ∧ X.env.frame = some X.env.locals
  exc : ∀ c C, st.G.cls c = some C → C.exc = true → PySem.W.excIn X.K (J.k.ca c) He.veBase "ValueError.__new__" = true ∧ PySem.W.keepIn X.K (.ref (J.k.ca c)) = true ∧ Raises X (.ref (J.k.ca c)) ∧ ExcC X.K (J.k.ca c) ∧
    PySem.W.kitOne X.K (.ref (J.k.ca c)) (.type "ValueError") = some true ∧ ∀ d D, st.G.cls d = some D → D.exc = true → PySem.W.exmOne X.K (.ref (J.k.ca c)) (.ref (J.k.ca d)) = some (C.sup.contains d) ∧ PySem.W.kitOne X.K (.ref (J.k.ca c)) (.ref (J.k.ca d)) = some (C.sup.contains d)
theorem catch_of {G : Prog} {c d : Nat} {b : Bool} (h : catches G c d = some b) : ∃ C, G.cls c = some C ∧ C.exc = true ∧ b = C.sup.contains d := by
  unfold catches at h
  split at h
  · rename_i C hC
    split at h
    · rename_i hx
      cases h
      exact ⟨C, hC, hx, rfl⟩
    · cases h
  · cases h
theorem GoodS.cat {st : Ck} {X : Cx} {J : Jr} (g : GoodS st X J) {d : Nat} {D : Cls} (hD : st.G.cls d = some D) (hDx : D.exc = true) : Catch X.K J d := fun c b e => by
  obtain ⟨C, hC, hx, rfl⟩ := catch_of e
  rw [g.G] at hC
  exact ((g.exc c C hC hx).2.2.2.2.2 d D hD hDx).1
/-- the context of a try's body -/
theorem GoodS.tr {st : Ck} {X : Cx} {J : Jr} (g : GoodS st X J) (h0 : st.hs = none) {W : WX} {pn : List (Addr × Obj)} {xe : Value → Shared → Prop} (tk : Takes (X.tr pn xe) W) (ow : PassesOwn (model X.prog X.w) X.A X.env xe) : GoodS st (X.tr pn xe) (J.wish W) where
  N := g.N
  nd := g.nd
  sc := g.sc
  fn := g.fn
  calm := g.calm
  un := g.un
  md := g.md
  hs := g.hs
  G := g.G
  free := g.free
  cons := g.cons
  cls := g.cls
  kl := g.kl
  tk := tk
  fns := g.fns
  nmi := g.nmi
  nmG := g.nmG
  obj := g.obj
  ids := g.ids
  mt := g.mt
  mks := g.mks
  los := fun a f F hF hl => let ⟨addr, L⟩ := g.los a f F hF hl; ⟨addr, ⟨L.ex, L.mg, L.room⟩⟩
  hx := fun i a c e => by
    have e : J.md.hx = some (i, a, c) := e
    rw [hs_none g.toGood h0] at e
    cases e
  own := ow
  knd := g.knd
  stk := g.stk
  exc := g.exc
def Ck.suit (st : Ck) (o : Option Nat) : Ck := { st with calm := false, hs := o }
/-- the context of a suite -/
theorem GoodS.suit {st : Ck} {X : Cx} {J : Jr} (g : GoodS st X J) {a : Addr} {oe : Obj} {pn : List (Addr × Obj)} : GoodS (st.suit none) (X.suite a ((a, oe) :: pn)) (J.suit none) where
  N := g.N
  nd := g.nd
  sc := g.sc
  fn := g.fn
  calm := fun z => Bool.noConfusion z
  un := g.un
  md := g.md
  hs := rfl
  G := g.G
  free := g.free
  cons := g.cons
  cls := g.cls
  kl := g.kl
  tk := takes0
  fns := fun z => Bool.noConfusion z
  nmi := g.nmi
  nmG := g.nmG
  obj := g.obj
  ids := g.ids
  mt := fun z => Bool.noConfusion z
  mks := fun z => Bool.noConfusion z
  los := fun z => Bool.noConfusion z
  hx := fun i a c e => nomatch e
  own := PassesOwn.never
  knd := g.knd
  stk := g.stk
  exc := g.exc
theorem GoodS.suitAs {st : Ck} {X : Cx} {J : Jr} (g : GoodS st X J) {a : Addr} {oe : Obj} {pn : List (Addr × Obj)} {i c : Nat} {C : Cls} (hC : st.G.cls c = some C) (hx : C.exc = true) (hz : Zc (.ref (J.k.ca c)) none oe) (hf : ∃ vs, oe.data = .fields vs) :
    GoodS (st.suit (some i)) (X.suite a ((a, oe) :: pn)) (J.suit (some (i, a, c))) where
  N := g.N
  nd := g.nd
  sc := g.sc
  fn := g.fn
  calm := fun z => Bool.noConfusion z
  un := g.un
  md := g.md
  hs := rfl
  G := g.G
  free := g.free
  cons := g.cons
  cls := g.cls
  kl := g.kl
  tk := takes0
  fns := fun z => Bool.noConfusion z
  nmi := g.nmi
  nmG := g.nmG
  obj := g.obj
  ids := g.ids
  mt := fun z => Bool.noConfusion z
  mks := fun z => Bool.noConfusion z
  los := fun z => Bool.noConfusion z
  hx := fun i' a' c' e => by
    cases e
    obtain ⟨_, _, _, e4, e5, e6⟩ := g.exc c C hC hx
    refine ⟨call_isE e4 hz hf, fun d D b hD hDx hb => ?_, e5, call_isET e4 hz hf⟩
    obtain ⟨C', hC', _, rfl⟩ := catch_of hb
    have hC'' : J.x.G.cls c = some C' := hC'
    rw [g.G, hC] at hC''
    cases hC''
    have hD' : J.x.G.cls d = some D := hD
    rw [g.G] at hD'
    exact (e6 d D hD' hDx).2
  own := PassesOwn.never
  knd := g.knd
  stk := g.stk
  exc := g.exc
/-- moved slots -/
def Ck.mv (st : Ck) (is : List Nat) : Ck := { st with md := shrAll st.md is }
theorem GoodS.mv {st : Ck} {X : Cx} {J : Jr} (g : GoodS st X J) (is : List Nat) : GoodS (st.mv is) X (J.mv is) where
  N := g.N
  nd := g.nd
  sc := g.sc
  fn := g.fn
  calm := g.calm
  un := g.un
  md := by
    show shrAll J.md.l is = shrAll st.md is
    rw [g.md]
  hs := g.hs
  G := g.G
  free := g.free
  cons := g.cons
  cls := g.cls
  kl := g.kl
  tk := g.tk
  fns := g.fns
  nmi := g.nmi
  nmG := g.nmG
  obj := g.obj
  ids := g.ids
  mt := g.mt
  mks := g.mks
  los := fun a f F hF hl => let ⟨addr, L⟩ := g.los a f F hF hl; ⟨addr, ⟨L.ex, L.mg, L.room⟩⟩
  hx := g.hx
  own := g.own
  knd := g.knd
  stk := g.stk
  exc := g.exc

/-! ### the check -/
def compB : Expr → Bool
  | .ListComp _ _ _ _ => true
  | .SetComp _ _ _ _ => true
  | .DictComp _ _ _ _ _ => true
  | _ => false
def tupB' : Expr → Bool
  | .Tuple _ _ _ => true
  | _ => false
def swB (st : Ck) (x : Str) (px lp : Pos) (scope : Scope) : Bool := (match kind? st.sc x with
  | some .local => true
  | _ => false) && px.line == lp.line && !(scope.names.any fun (n, k) => n == x && (k == .local || k == .cell))
mutual
def mS : Nat → Ck → Md → Stmt → S → Bool
  | 0, _, _, _, _ => false
  | n + 1, st, rm, s, is => match is with
    | .set i e => (match s with
      | .Assign [.Name x px] v pos => decide (st.N[i]? = some x) && locB st.sc x && storeB st x && decide (st.hs ≠ some i) && (match st.md[i]? with
        | some .shr => mE 200 st .V v e
        | some .own => mE 200 st .O v e
        | _ => false) && (match v with
        | .ListComp elt [⟨tg, iter, ifs, 0⟩] scope lp => (match e with
          | .comp _ _ _ _ => true
          | .mkr (.comp _ _ _ _) => true
          | _ => false)
        | v => !compB v)
      | _ => false)
    | .unp is e => (match s with
      | .Assign [.Tuple es _ _] v _ => st.calm && manyB st is es && !compB v && !tupB' v && mE 200 st .V v e
      | _ => false)
    | .ex e => (match s with
      | .Expr v _ => !compB v && mE 200 st .B v e
      | _ => false)
    | .mu (.slot i) (.app e) => (match s with
      | .Expr (.Call (.Attribute (.Name x _) f ap) [v] [] cp) _ => decide (f = "append") && decide (st.N[i]? = some x) && visB st.sc x && dbgB x && decide (st.md[i]? = some Mode.own) && decide (st.hs ≠ some i) && mEs 200 st [] [v] [e] && (ap.endLine == cp.line)
      | _ => false)
    | .mu (.slot i) (.ext e) => (match s with
      | .Expr (.Call (.Attribute (.Name x _) f ap) [v] [] cp) _ => decide (f = "extend") && decide (st.N[i]? = some x) && visB st.sc x && dbgB x && decide (st.md[i]? = some Mode.own) && decide (st.hs ≠ some i) && mEs 200 st [.B] [v] [e] && (ap.endLine == cp.line)
      | _ => false)
    | .mu (.refp io) (.app e) => (match s with
      | .Expr (.Call (.Attribute eo f ap) [v] [] cp) _ => decide (f = "append") && recvB eo && mE 200 st .V eo io && mEs 200 st [] [v] [e] && (ap.endLine == cp.line)
      | _ => false)
    | .mu (.refp io) (.ext e) => (match s with
      | .Expr (.Call (.Attribute eo f ap) [v] [] cp) _ => decide (f = "extend") && recvB eo && mE 200 st .V eo io && mEs 200 st [.B] [v] [e] && (ap.endLine == cp.line)
      | _ => false)
    | .mu (.refp io) .clr => (match s with
      | .Expr (.Call (.Attribute eo f ap) [] [] cp) _ => decide (f = "clear") && recvB eo && mE 200 st .V eo io && (ap.endLine == cp.line)
      | _ => false)
    | .mu (.refp io) (.dpop e) => (match s with
      | .Expr (.Call (.Attribute eo f ap) [v] [] cp) _ => decide (f = "pop") && recvB eo && mE 200 st .V eo io && mEs 200 st [] [v] [e] && (ap.endLine == cp.line)
      | _ => false)
    | .mu (.refp io) (.dpopN e) => (match s with
      | .Expr (.Call (.Attribute eo f ap) [v, .Constant .none k0 p0] [] cp) _ => decide (f = "pop") && recvB eo && mE 200 st .V eo io && mEs 200 st [] [v, .Constant .none k0 p0] [e, .k .non] && (ap.endLine == cp.line)
      | _ => false)
    | .sti o k e => (match s with
      | .Assign [.Subscript eo ix _] v _ => mE 200 st .V v e && mE 200 st .V eo o && mE 200 st .V ix k && !compB v
      | _ => false)
    | .lock d s' => isVar d && rm.noN && mS n st rm s s'
    | .mu (.slot i) .clr => (match s with
      | .Expr (.Call (.Attribute (.Name x _) f ap) [] [] cp) _ => decide (f = "clear") && decide (st.N[i]? = some x) && visB st.sc x && dbgB x && decide (st.md[i]? = some Mode.own) && decide (st.hs ≠ some i) && (ap.endLine == cp.line)
      | _ => false)
    | .mu (.slot i) .rev => (match s with
      | .Expr (.Call (.Attribute (.Name x _) f ap) [] [] cp) _ => decide (f = "reverse") && decide (st.N[i]? = some x) && visB st.sc x && dbgB x && decide (st.md[i]? = some Mode.own) && decide (st.hs ≠ some i) && (ap.endLine == cp.line)
      | _ => false)
    | .mu (.slot i) (.seti k e) => (match s with
      | .Assign [.Subscript (.Name x _) ix _] v _ => decide (st.N[i]? = some x) && visB st.sc x && dbgB x && decide (st.md[i]? = some Mode.own) && decide (st.hs ≠ some i) && mE 200 st .V v e && mE 200 st .V ix k && !compB v && !sliceB ix
      | _ => false)
    | .ret e => (match s with
      | .Return (some v) _ => (match e, v with
        | .v i, .Name x _ => if rm = .O then decide (st.N[i]? = some x) && visB st.sc x && dbgB x && decide (st.md[i]? = some Mode.own) else mE 200 st rm v e
        | _, _ => mE 200 st rm v e)
      | _ => false)
    | .retN => (match s with
      | .Return none _ => true
      | _ => false)
    | .ife c a b => (match s with
      | .If ec ea eb _ => mE 200 st .B ec c && mSs n st rm ea a && mSs n st rm eb b
      | _ => false)
    | .for' tg it body => (match s with
      | .For etg eit eb [] _ => st.calm && mI 200 st etg eit it && tgB st etg tg && !setB eit && mSs n st rm eb body
      | _ => false)
    | .whil c body => (match s with
      | .While ec eb [] _ => mE 200 st .B ec c && mSs n st rm eb body
      | _ => false)
    | .brk => (match s with
      | .Break _ => true
      | _ => false)
    | .cnt => (match s with
      | .Continue _ => true
      | _ => false)
    | .pas => (match s with
      | .Pass _ => true
      | _ => false)
    | .nev => true
    | .rais c => (match s with
      | .Raise (some (.Call (.Name x _) [.Constant (.str _) _ _] [] _)) none _ => (match st.G.cls c with
        | some C => st.calm && C.exc && decide (C.name = x) && glB st.sc x && dbgB x
        | none => false)
      | _ => false)
    | .sfld (.v i) f e => (match s with
      | .Assign [.Attribute (.Name x xp) nm ap] v pos => decide (st.G.nm f = nm) && decide (nm ≠ "") && decide (st.N[i]? = some x) && visB st.sc x && dbgB x && decide (st.md[i]? = some Mode.ini) && mE 200 st .V v e
      | _ => false)
    | .binit f es => (match s with
      | .Expr (.Call (.Attribute (.Name cn cp) m ap) (.Name x xp :: ees) [] pos) _ => st.calm && decide (m = "__init__") && glB st.sc cn && dbgB cn && decide (st.N[0]? = some x) && visB st.sc x && dbgB x && decide (st.md[0]? = some Mode.ini) && (ap.endLine == pos.line) && decide (es.length < 29) && mEs 200 st [] ees es &&
        (match st.G.fn f with
        | some F => F.isIni && F.md.tail.all (fun m => decide (argM m = .V)) && decide (es.length + 1 = F.np) && (st.G.ids.any fun c => match st.G.cls c with
          | some C => !C.exc && decide (C.name = cn) && decide (C.ini = some f)
          | none => false)
        | none => false)
      | _ => false)
    | .mvs is s' => is.all (fun i => decide (st.md[i]? = some Mode.own) && decide (st.hs ≠ some i)) && mS n (st.mv is) rm s s'
    | .tr body hs => (match s with
      | .Try eb hds [] [] _ => decide (st.hs = none) && mSs n st rm eb body && (mH n st rm hds hs || (match hds, hs with
        | .ExceptHandler _ (some y) _ _ :: _, (_, some i, _) :: _ => decide (st.N[i]? = some y) && (match kind? st.sc y with
          | some .local => true
          | _ => false) && decide (st.md[i]? = some Mode.shr) && mA n st rm y i hds hs
        | _, _ => false)) && decide (0 < hds.length)
      | _ => false)
    | _ => false
def mSs : Nat → Ck → Md → List Stmt → List S → Bool
  | 0, _, _, _, _ => false
  | _ + 1, _, _, [], [] => true
  | n + 1, st, rm, .Expr (.Constant (.str d) j p) q :: s, is => mSs n st rm s is
  | n + 1, st, rm, s :: ss, is :: iss => (mS n st rm s is && mSs n st rm ss iss) || (match is, iss with
    | .mvs js (.ife (.k (.bl true)) rest []), [] => js.all (fun i => decide (st.md[i]? = some Mode.own) && decide (st.hs ≠ some i)) && mSs n (st.mv js) rm (s :: ss) rest
    | _, _ => false)
  | _ + 1, _, _, _, _ => false
/-- except clauses without names -/
def mH : Nat → Ck → Md → List ExceptHandler → List (Nat × Option Nat × List S) → Bool
  | 0, _, _, _, _ => false
  | _ + 1, _, _, [], [] => true
  | n + 1, st, rm, .ExceptHandler (some (.Name x _)) none (b :: su) _ :: hds, (d, none, isu) :: ihs => (match st.G.cls d with
    | some D => D.exc && decide (D.name = x) && glB st.sc x && dbgB x
    | none => false) && mSs n (st.suit none) rm (b :: su) isu && mH n st rm hds ihs
  | _ + 1, _, _, _, _ => false
/-- all with one name -/
def mA : Nat → Ck → Md → Str → Nat → List ExceptHandler → List (Nat × Option Nat × List S) → Bool
  | 0, _, _, _, _, _, _ => false
  | _ + 1, _, _, _, _, [], [] => true
  | n + 1, st, rm, y, i, .ExceptHandler (some (.Name x _)) (some z) (b :: su) _ :: hds, (d, some j, isu) :: ihs => decide (z = y) && decide (j = i) && (match st.G.cls d with
    | some D => D.exc && decide (D.name = x) && glB st.sc x && dbgB x
    | none => false) && mSs n (st.suit (some i)) rm (b :: su) isu && mA n st rm y i hds ihs
  | _ + 1, _, _, _, _, _, _ => false
end
end Pv
end

section
set_option Elab.async false
set_option linter.all false
set_option maxRecDepth 100000
set_option autoImplicit false
/-! Pv24: the check of a statement is sound. -/
namespace Pv
open PySem PySem.Spec PyProof.Rows L2

theorem sw_no {v : Expr} {t : Option Expr} {l : Nat} {env : PySem.Env} (h : compB v = false) : swapsWith v t l env = pure false := by
  cases v <;> first | rfl | cases h
theorem sw_fld {v o : Expr} {nm : Str} {ap : Pos} {l : Nat} {env : PySem.Env} : swapsWith v (some (.Attribute o nm ap)) l env = pure false := by
  cases v <;> rfl
theorem sw_sole {v t : Expr} {l : Nat} {env : PySem.Env} (h : compB v = false) : swapsWithSole [t] v l env = pure false := sw_no h
theorem swap_no {v : Expr} {es : List Expr} {k : Nat} {p : Pos} {env : PySem.Env} (h : tupB' v = false) : swappedStores [.Tuple es k p] v env = pure none := by
  cases v <;> first | rfl | cases h
theorem swap_sub {v o i : Expr} {p : Pos} {env : PySem.Env} : swappedStores [.Subscript o i p] v env = pure none := by
  cases v <;> rfl
theorem asg_sub {o ix : Expr} {p : Pos} {env : PySem.Env} (h : sliceB ix = false) : ∀ v, assign (.Subscript o ix p) env v = (do
      let ov ← holding [v] (eval o env)
      let iv ← holding [v, ov] (eval ix env)
      standAt p
      holding [v, ov, iv] (setItem ov iv v)
      release [v, ov, iv] []) := by
  intro v
  cases ix <;> first | rfl | cases h
theorem sw_lc {elt : Expr} {gs : List Comprehension} {scope : Scope} {lp px : Pos} {x : Str} {l : Nat} {st : Ck} {env : PySem.Env} (hsc : env.scope = st.sc) (hk : st.sc.kind = .function) :
    swapsWith (.ListComp elt gs scope lp) (some (.Name x px)) l env = pure (swB st x px lp scope) := by
  have hb : env.blockKind = .function := by
    unfold PySem.Env.blockKind
    rw [hsc, hk]
    rfl
  have ek : env.kindOf x = kind? st.sc x := by
    show env.scope.names.lookup x = st.sc.names.lookup x
    rw [hsc]
  have e2 : (kind? st.sc x == some NameKind.local) = (match kind? st.sc x with
    | some .local => true
    | _ => false) := by
    cases kind? st.sc x with
    | none => rfl
    | some k => cases k <;> rfl
  unfold swapsWith swB
  simp only [hb, ek, Expr.pos, e2]
  rfl
theorem own_of {st : Ck} {X : Cx} {J : Jx} (g : Good st X J) {i : Nat} (h : st.md[i]? = some Mode.own) : J.md.l.getD i .shr = .own := by
  rw [getD_eq, g.md, h]
  rfl
theorem hx_of {st : Ck} {X : Cx} {J : Jx} (g : Good st X J) {i : Nat} (h : st.hs ≠ some i) : hxOk J.md i := fun j a c e z => by
  subst z
  have := g.hs
  rw [e] at this
  exact h this.symm
structure SndS (n : Nat) : Prop where
  s : ∀ {st : Ck} {X : Cx} {J : Jr} {s : Stmt} {is : _root_.Pv.S}, GoodS st X J → mS n st J.rm s is = true → PS X s (J.tS is)
  ss : ∀ {st : Ck} {X : Cx} {J : Jr} {s : List Stmt} {is : List _root_.Pv.S}, GoodS st X J → mSs n st J.rm s is = true → PSs X s (J.tSs is)
  h : ∀ {st : Ck} {X : Cx} {J : Jr} {h : List ExceptHandler} {ih : List (Nat × Option Nat × List _root_.Pv.S)}, GoodS st X J → mH n st J.rm h ih = true → HdsAt X J h ih
  a : ∀ {st : Ck} {X : Cx} {J : Jr} {h : List ExceptHandler} {ih : List (Nat × Option Nat × List _root_.Pv.S)}, ∀ {y : Str} {i : Nat}, GoodS st X J → mA n st J.rm y i h ih = true → NamedH X J y i h ih
theorem sndS0 : SndS 0 := by
  refine ⟨?_, ?_, ?_, ?_⟩
  · intro st X J s is g h
    simp only [mS] at h
    cases h
  · intro st X J s is g h
    simp only [mSs] at h
    cases h
  · intro st X J hd ih g h
    simp only [mH] at h
    cases h
  · intro st X J hd ih y i g h
    simp only [mA] at h
    cases h
theorem cls_names {st : Ck} {X : Cx} {J : Jr} (g : GoodS st X J) {x : Str} {d : Nat} (h : (match st.G.cls d with
    | some D => D.exc && decide (D.name = x) && glB st.sc x && dbgB x
    | none => false) = true) : Names X x (.ref (J.k.ca d)) ∧ Catch X.K J d := by
  split at h
  · rename_i D hD
    simp only [Bool.and_eq_true, decide_eq_true_eq] at h
    obtain ⟨⟨⟨h0, rfl⟩, h2⟩, h3⟩ := h
    exact ⟨⟨g.gl h2, (dbg_of h3).1, .inl (g.cls d D hD)⟩, g.cat hD h0⟩
  · cases h
section
variable {n : Nat} (ih : SndS n)
include ih
theorem snd_ss {st : Ck} {X : Cx} {J : Jr} {s : List Stmt} {is : List _root_.Pv.S} (g : GoodS st X J) (h : mSs (n + 1) st J.rm s is = true) : PSs X s (J.tSs is) := by
  unfold mSs at h
  split at h
  · rename_i h0
    cases h0
  · exact ss_nil
  · rename_i h0
    cases h0
    exact PSs.imp (pss_cons ps_doc (ih.ss g h)) fun D σ H q => q
  · rename_i h0
    cases h0
    rcases Bool.or_eq_true_iff.mp h with hw | hw <;> clear h
    · rw [Bool.and_eq_true] at hw
      exact ss_cons (ih.s g hw.1) (ih.ss g hw.2)
    · have h := hw
      clear hw
      split at h
      · rename_i js rest
        rw [Bool.and_eq_true] at h
        refine ss_mvs (fun i hi => ?_) (ih.ss (J := J.mv js) (g.mv js) h.2)
        have q := List.all_eq_true.mp h.1 i hi
        simp only [Bool.and_eq_true, decide_eq_true_eq] at q
        exact ⟨own_of g.toGood q.1, hx_of g.toGood q.2⟩
      · cases h
  · cases h
theorem snd_h {st : Ck} {X : Cx} {J : Jr} {h : List ExceptHandler} {ihh : List (Nat × Option Nat × List _root_.Pv.S)} (g : GoodS st X J) (hh : mH (n + 1) st J.rm h ihh = true) : HdsAt X J h ihh := by
  unfold mH at hh
  split at hh
  · rename_i h0
    cases h0
  · exact .nil
  · rename_i n' st' x p b su p' hds d isu ihs hn
    cases hn
    simp only [Bool.and_eq_true] at hh
    obtain ⟨⟨h1, h2⟩, h3⟩ := hh
    obtain ⟨q1, q2⟩ := cls_names g h1
    exact .cons q1 q2 (fun a oe pn => ih.ss (J := J.suit none) (g.suit (a := a) (oe := oe) (pn := pn)) h2) (ih.h g h3)
  · cases hh
theorem snd_a {st : Ck} {X : Cx} {J : Jr} {h : List ExceptHandler} {ihh : List (Nat × Option Nat × List _root_.Pv.S)} {y : Str} {i : Nat} (g : GoodS st X J) (hh : mA (n + 1) st J.rm y i h ihh = true) : NamedH X J y i h ihh := by
  unfold mA at hh
  split at hh
  · rename_i h0
    cases h0
  · exact .nil
  · rename_i n' st' rm' y' i' x p z b su p' hds d j isu ihs hn
    cases hn
    rw [Bool.and_eq_true, Bool.and_eq_true, Bool.and_eq_true, Bool.and_eq_true, decide_eq_true_eq, decide_eq_true_eq] at hh
    obtain ⟨⟨⟨⟨rfl, rfl⟩, h1⟩, h5⟩, h6⟩ := hh
    obtain ⟨q1, q2⟩ := cls_names g h1
    refine .cons q1 q2 (fun a oe c pn hC hz hf => ?_) (ih.a g h6)
    obtain ⟨C, hC, hx⟩ := hC
    rw [g.G] at hC
    exact ih.ss (J := J.suit (some (_, a, c))) (g.suitAs hC hx hz hf) h5
  · cases hh
theorem snd_set {st : Ck} {X : Cx} {J : Jr} {s : Stmt} {i : Nat} {e : E} (g : GoodS st X J) (h : mS (n + 1) st J.rm s (.set i e) = true) : PS X s (J.tS (.set i e)) := by
  simp only [mS] at h
  split at h
  · rename_i x px v pos
    simp only [Bool.and_eq_true, decide_eq_true_eq] at h
    obtain ⟨⟨⟨⟨⟨h1, h2⟩, h3⟩, h4⟩, h5⟩, h6⟩ := h
    have hi : X.N[i]? = some x := by rw [g.N]; exact h1
    have hx := hx_of g.toGood h4
    obtain ⟨m, hm, he⟩ : ∃ m, ((J.md.l.getD i .shr = .shr ∧ m = Md.V) ∨ (J.md.l.getD i .shr = .own ∧ m = .O)) ∧ mE 200 st m v e = true := by
      split at h5
      · rename_i hmd
        exact ⟨.V, .inl ⟨by rw [getD_eq, g.md, hmd]; rfl, rfl⟩, h5⟩
      · rename_i hmd
        exact ⟨.O, .inr ⟨own_of g.toGood hmd, rfl⟩, h5⟩
      · cases h5
    have pe := (snd 200).e g.toGood he
    split at h6
    · rename_i elt tg iter ifs scope lp
      split at h6
      · rename_i ce tg' it cd
        cases hw : swB st x px lp scope with
        | false => exact s_set g.nd hi (g.loc h2) (g.store h3) hx hm pe (by rw [sw_lc (st := st) g.sc g.knd, hw])
        | true =>
          obtain ⟨K, hK, eelt, etg, eiter, eifs, scope', pos', ee, q1, q2, q3, q4, q5, q6, q7, q8, q9⟩ := snd_comp (snd 199) g.toGood he
          cases ee
          have hl : X.env.scope.names.lookup x = some .local := by
            rw [g.sc]
            unfold swB kind? at hw
            simp only [Bool.and_eq_true] at hw
            have hw := hw.1.1
            split at hw <;> simp_all
          exact s_setLcK hK q1 g.nd hi hl (by rw [sw_lc (st := st) g.sc g.knd, hw]) q2 q3 ownB_map q4 q5 q6 q7 q8 q9 hx hm
      · rename_i ce tg' it cd
        cases hw : swB st x px lp scope with
        | false => exact s_set g.nd hi (g.loc h2) (g.store h3) hx hm pe (by rw [sw_lc (st := st) g.sc g.knd, hw])
        | true =>
          have hl : X.env.scope.names.lookup x = some .local := by
            rw [g.sc]
            unfold swB kind? at hw
            simp only [Bool.and_eq_true] at hw
            have hw := hw.1.1
            split at hw <;> simp_all
          have he2 : mE 199 st (.N 0) (.ListComp elt [⟨tg, iter, ifs, 0⟩] scope lp) (.comp ce tg' it cd) = true := by
            rw [show (200 : Nat) = 199 + 1 from rfl, mE_mkr_lc] at he
            exact he
          refine s_setLcR hx hm fun k => ?_
          obtain ⟨K, hK, eelt, etg, eiter, eifs, scope', pos', ee, q1, q2, q3, q4, q5, q6, q7, q8, q9⟩ := snd_comp (snd 198) g.toGood (mE_N k he2)
          cases ee
          exact s_setLcN hK q1 g.nd hi hl (by rw [sw_lc (st := st) g.sc g.knd, hw]) q2 q3 ownB_map q4 q5 q6 q7 q8 q9
      · cases h6
    · exact s_set g.nd hi (g.loc h2) (g.store h3) hx hm pe (sw_no (by simpa using h6))
  · cases h
theorem snd_ret {st : Ck} {X : Cx} {J : Jr} {s : Stmt} {e : E} (g : GoodS st X J) (h : mS (n + 1) st J.rm s (.ret e) = true) : PS X s (J.tS (.ret e)) := by
  simp only [mS] at h
  split at h
  · rename_i v pos
    split at h
    · rename_i i x p
      split at h
      · rename_i hr
        simp only [Bool.and_eq_true, decide_eq_true_eq] at h
        obtain ⟨⟨⟨h1, h2⟩, h3⟩, h4⟩ := h
        exact s_retO (by rw [g.N]; exact h1) (g.vis h2) (dbg_of h3).1 (dbg_of h3).2 (own_of g.toGood h4) hr
      · exact s_ret ((snd 200).e g.toGood h)
    · exact s_ret ((snd 200).e g.toGood h)
  · cases h
theorem snd_mu {st : Ck} {X : Cx} {J : Jr} {s : Stmt} {p : Pl} {m : Mu} (g : GoodS st X J) (h : mS (n + 1) st J.rm s (.mu p m) = true) : PS X s (J.tS (.mu p m)) := by
  cases p with
  | slot i =>
    cases m with
    | app e =>
      simp only [mS] at h
      split at h
      · simp only [Bool.and_eq_true, decide_eq_true_eq] at h
        obtain ⟨⟨⟨⟨⟨⟨⟨rfl, h1⟩, h2⟩, h3⟩, h4⟩, h5⟩, h6⟩, h7⟩ := h
        obtain ⟨r1, r2, _⟩ := (snd 200).es g.toGood h6
        exact s_app (by rw [g.N]; exact h1) (g.vis h2) (dbg_of h3).1 (dbg_of h3).2 (own_of g.toGood h4) (hx_of g.toGood h5) r1 h7 (str_all r2 rfl) rfl
      · cases h
    | ext e =>
      simp only [mS] at h
      split at h
      · simp only [Bool.and_eq_true, decide_eq_true_eq] at h
        obtain ⟨⟨⟨⟨⟨⟨⟨rfl, h1⟩, h2⟩, h3⟩, h4⟩, h5⟩, h6⟩, h7⟩ := h
        obtain ⟨r1, r2, _⟩ := (snd 200).es g.toGood h6
        exact s_ext (by rw [g.N]; exact h1) (g.vis h2) (dbg_of h3).1 (dbg_of h3).2 (own_of g.toGood h4) (hx_of g.toGood h5) r1 h7 (str_all r2 rfl) rfl
      · cases h
    | clr =>
      simp only [mS] at h
      split at h
      · simp only [Bool.and_eq_true, decide_eq_true_eq] at h
        obtain ⟨⟨⟨⟨⟨⟨rfl, h1⟩, h2⟩, h3⟩, h4⟩, h5⟩, h7⟩ := h
        exact s_clr (by rw [g.N]; exact h1) (g.vis h2) (dbg_of h3).1 (dbg_of h3).2 (own_of g.toGood h4) (hx_of g.toGood h5) h7 rfl
      · cases h
    | rev =>
      simp only [mS] at h
      split at h
      · simp only [Bool.and_eq_true, decide_eq_true_eq] at h
        obtain ⟨⟨⟨⟨⟨⟨rfl, h1⟩, h2⟩, h3⟩, h4⟩, h5⟩, h7⟩ := h
        exact s_rev (by rw [g.N]; exact h1) (g.vis h2) (dbg_of h3).1 (dbg_of h3).2 (own_of g.toGood h4) (hx_of g.toGood h5) h7 rfl
      · cases h
    | seti k e =>
      simp only [mS] at h
      split at h
      · simp only [Bool.and_eq_true, decide_eq_true_eq, Bool.not_eq_true'] at h
        obtain ⟨⟨⟨⟨⟨⟨⟨⟨h1, h2⟩, h3⟩, h4⟩, h5⟩, h6⟩, h7⟩, h8⟩, h9⟩ := h
        exact s_seti (by rw [g.N]; exact h1) (g.vis h2) (dbg_of h3).1 (dbg_of h3).2 (own_of g.toGood h4) (hx_of g.toGood h5) ((snd 200).e g.toGood h6) ((snd 200).e g.toGood h7) (sw_sole h8) swap_sub (asg_sub h9)
      · cases h
    | dpop k => simp [mS] at h
    | dpopN k => simp [mS] at h
  | fldp i f => cases m <;> simp [mS] at h
  | refp io =>
    cases m with
    | app e =>
      simp only [mS] at h
      split at h
      · simp only [Bool.and_eq_true, decide_eq_true_eq] at h
        obtain ⟨⟨⟨⟨rfl, h1⟩, h2⟩, h3⟩, h4⟩ := h
        obtain ⟨r1, r2, _⟩ := (snd 200).es g.toGood h3
        exact s_appR ((snd 200).e g.toGood h2) r1 h1 h4 (str_all r2 rfl) rfl
      · cases h
    | ext e =>
      simp only [mS] at h
      split at h
      · simp only [Bool.and_eq_true, decide_eq_true_eq] at h
        obtain ⟨⟨⟨⟨rfl, h1⟩, h2⟩, h3⟩, h4⟩ := h
        obtain ⟨r1, r2, _⟩ := (snd 200).es g.toGood h3
        exact s_extR ((snd 200).e g.toGood h2) r1 h1 h4 (str_all r2 rfl) rfl
      · cases h
    | clr =>
      simp only [mS] at h
      split at h
      · simp only [Bool.and_eq_true, decide_eq_true_eq] at h
        obtain ⟨⟨⟨rfl, h1⟩, h2⟩, h3⟩ := h
        exact s_clrR ((snd 200).e g.toGood h2) h1 h3 rfl
      · cases h
    | dpop e =>
      simp only [mS] at h
      split at h
      · simp only [Bool.and_eq_true, decide_eq_true_eq] at h
        obtain ⟨⟨⟨⟨rfl, h1⟩, h2⟩, h3⟩, h4⟩ := h
        obtain ⟨r1, r2, _⟩ := (snd 200).es g.toGood h3
        exact s_dpop g.un ((snd 200).e g.toGood h2) r1 h1 h4 (str_all r2 rfl) rfl
      · cases h
    | dpopN e =>
      simp only [mS] at h
      split at h
      · simp only [Bool.and_eq_true, decide_eq_true_eq] at h
        obtain ⟨⟨⟨⟨rfl, h1⟩, h2⟩, h3⟩, h4⟩ := h
        obtain ⟨r1, r2, _⟩ := (snd 200).es g.toGood h3
        exact s_dpopN g.un ((snd 200).e g.toGood h2) r1 h1 h4 (str_all r2 rfl) rfl
      · cases h
    | _ => simp [mS] at h
theorem snd_s {st : Ck} {X : Cx} {J : Jr} {s : Stmt} {is : _root_.Pv.S} (g : GoodS st X J) (h : mS (n + 1) st J.rm s is = true) : PS X s (J.tS is) := by
  cases is with
  | set i e => exact snd_set ih g h
  | mu p m => exact snd_mu ih g h
  | ret e => exact snd_ret ih g h
  | unp is e =>
    simp only [mS] at h
    split at h
    · simp only [Bool.and_eq_true, Bool.not_eq_true'] at h
      obtain ⟨⟨⟨⟨h1, h2⟩, h3⟩, h4⟩, h5⟩ := h
      obtain ⟨q1, q2⟩ := tg_names g.toGood h2
      exact s_unp (g.calm h1) g.nd q1 q2 ((snd 200).e g.toGood h5) (sw_sole h3) (swap_no h4)
    · cases h
  | sti o k e =>
    simp only [mS] at h
    split at h
    · simp only [Bool.and_eq_true, Bool.not_eq_true'] at h
      obtain ⟨⟨⟨h1, h2⟩, h3⟩, h4⟩ := h
      exact s_sti g.un ((snd 200).e g.toGood h1) ((snd 200).e g.toGood h2) ((snd 200).e g.toGood h3) (sw_no h4)
    · cases h
  | lock d s' =>
    simp only [mS, Bool.and_eq_true] at h
    exact s_lock h.1.1 h.1.2 (ih.s g h.2)
  | ex e =>
    simp only [mS] at h
    split at h
    · simp only [Bool.and_eq_true, Bool.not_eq_true'] at h
      exact s_ex ((snd 200).e g.toGood h.2) (sw_no h.1)
    · cases h
  | retN =>
    simp only [mS] at h
    split at h
    · exact s_retN
    · cases h
  | sfld o f e =>
    cases o with
    | v i =>
      simp only [mS] at h
      split at h
      · simp only [Bool.and_eq_true, decide_eq_true_eq] at h
        obtain ⟨⟨⟨⟨⟨⟨h1, h2⟩, h3⟩, h4⟩, h5⟩, h6⟩, h7⟩ := h
        exact s_sfld g.nmi (by rw [g.nmG]; exact h1) h2 (fun c hc => by
          rw [g.G] at hc
          rw [← h1]
          exact g.obj c f hc) (by rw [g.N]; exact h3) (g.vis h4) (dbg_of h5).1 (dbg_of h5).2 (by rw [getD_eq, g.md, h6]; rfl) ((snd 200).e g.toGood h7) sw_fld
      · cases h
    | _ => simp [mS] at h
  | binit f es =>
    simp only [mS] at h
    split at h
    · rename_i cn cp m ap x xp ees pos epos
      simp only [Bool.and_eq_true, decide_eq_true_eq] at h
      obtain ⟨⟨⟨⟨⟨⟨⟨⟨⟨⟨⟨h1, rfl⟩, h3⟩, h4⟩, h5⟩, h6⟩, h7⟩, h8⟩, h9⟩, h10⟩, h11⟩, h12⟩ := h
      split at h12
      · rename_i F hF
        simp only [Bool.and_eq_true, decide_eq_true_eq] at h12
        obtain ⟨⟨⟨k1, k2⟩, k3⟩, k4⟩ := h12
        obtain ⟨c, _, k4⟩ := List.any_eq_true.mp k4
        split at k4
        · rename_i C hC
          simp only [Bool.and_eq_true, decide_eq_true_eq, Bool.not_eq_true'] at k4
          obtain ⟨⟨j1, rfl⟩, j3⟩ := k4
          obtain ⟨n, addr, fd, q1, q2, q3, q4, q5⟩ := g.mks h1 c C f F hC j1 j3 hF k1
          obtain ⟨r1, r2, r3⟩ := (snd 200).es g.toGood h11
          exact s_binit (by rw [g.N]; exact h5) (g.vis h6) (dbg_of h7).1 (dbg_of h7).2 (by rw [getD_eq, g.md, h8]; rfl) (g.gl h3) (g.cls c C hC) (dbg_of h4).1 q5 q4 (fun us H Q E z => (q1 us H Q E z).mono (Nat.le_succ _)) q3 (fun σ => passAt g.tk σ) r1 k2 k3 (fun env => stars_any r2) h9 (by rw [r3]; exact h10)
        · cases k4
      · cases h12
    · cases h
  | ife c a b =>
    simp only [mS] at h
    split at h
    · simp only [Bool.and_eq_true] at h
      exact s_if ((snd 200).t g.toGood h.1.1) (ih.ss g h.1.2) (ih.ss g h.2)
    · cases h
  | for' tg it body =>
    simp only [mS] at h
    split at h
    · simp only [Bool.and_eq_true, Bool.not_eq_true'] at h
      obtain ⟨⟨⟨⟨h1, h2⟩, h3⟩, h4⟩, h5⟩ := h
      exact s_for g.own (g.calm h1) ((snd 200).i g.toGood h2) (tg_ok g.toGood h3).1 (ih.ss g h5) (fold_ok h4)
    · cases h
  | whil c body =>
    simp only [mS] at h
    split at h
    · simp only [Bool.and_eq_true] at h
      exact s_whil g.own ((snd 200).t g.toGood h.1) (ih.ss g h.2)
    · cases h
  | brk =>
    simp only [mS] at h
    split at h
    · exact s_brk
    · cases h
  | cnt =>
    simp only [mS] at h
    split at h
    · exact s_cnt
    · cases h
  | pas =>
    simp only [mS] at h
    split at h
    · exact s_pas
    · cases h
  | nev => exact s_nev
  | rais c =>
    simp only [mS] at h
    split at h
    · split at h
      · rename_i C hC
        simp only [Bool.and_eq_true, decide_eq_true_eq] at h
        obtain ⟨⟨⟨⟨h1, h2⟩, rfl⟩, h4⟩, h5⟩ := h
        obtain ⟨e1, e2, e3, _⟩ := g.exc c C hC h2
        exact s_rais (g.calm h1) g.tk PySem.F.excBase_ValueError e1 (g.cls c C hC) e2 e3 (g.gl h4) (dbg_of h5).1
      · cases h
    · cases h
  | mvs is s' =>
    simp only [mS, Bool.and_eq_true] at h
    refine s_mvs (fun i hi => ?_) (ih.s (J := J.mv is) (g.mv is) h.2)
    have q := List.all_eq_true.mp h.1 i hi
    simp only [Bool.and_eq_true, decide_eq_true_eq] at q
    exact ⟨own_of g.toGood q.1, hx_of g.toGood q.2⟩
  | tr body hs =>
    simp only [mS] at h
    split at h
    · rename_i eb hds pos
      simp only [Bool.and_eq_true, decide_eq_true_eq, Bool.or_eq_true] at h
      obtain ⟨⟨⟨h1, h2⟩, h3⟩, h4⟩ := h
      have hb : ∀ (W : WX) (pn : List (Addr × Obj)) (xe : Value → Shared → Prop), Takes (X.tr pn xe) W → PassesOwn (model X.prog X.w) X.A X.env xe → PSs (X.tr pn xe) eb ((J.wish W).tSs body) :=
        fun W pn xe tk ow => ih.ss (J := J.wish W) (g.tr h1 tk ow) h2
      rcases h3 with h3 | h3
      · cases hds with
        | nil => cases h4
        | cons h₀ hds => exact s_try (hs_none g.toGood h1) g.stk.1 g.stk.2 g.tk hb (ih.h g h3)
      · split at h3
        · rename_i e0 y b0 p0 hds d0 i isu0 ihs
          rw [Bool.and_eq_true, Bool.and_eq_true, Bool.and_eq_true, decide_eq_true_eq, decide_eq_true_eq] at h3
          obtain ⟨⟨⟨q1, q2⟩, q3⟩, q4⟩ := h3
          refine s_tryAsM (hs_none g.toGood h1) g.stk.1 g.stk.2 g.nd (by rw [g.N]; exact q1) ?_ (by rw [g.md]; exact q3) g.tk hb (ih.a g q4)
          show X.env.scope.names.lookup y = some .local
          rw [g.sc]
          unfold kind? at q2
          split at q2 <;> simp_all
        · cases h3
    · cases h
end
theorem sndS : ∀ n, SndS n
  | 0 => sndS0
  | n + 1 =>
    have ih := sndS n
    ⟨fun g h => snd_s ih g h, fun g h => snd_ss ih g h, fun g h => snd_h ih g h, fun g h => snd_a ih g h⟩
end Pv
end

section
set_option Elab.async false
set_option linter.all false
set_option maxRecDepth 100000
set_option autoImplicit false
/-! Pv25: defs keep what the evaluator says; the law's call. -/
namespace Pv
open PySem PySem.Spec PyProof.Rows L2

/-- the start of a body -/
theorem args_at {k : Kx} {g : Gh} {H : Hp} : ∀ {ms : List Mode} {vs : List Val} {us : List V} {i : Nat} {v : Val}, ArgsR k g H ms vs us → vs[i]? = some v → ∃ u, us[i]? = some u ∧ MRep k g H (argM (ms.getD i .shr)) v u
  | _, [], _, i, v, _, e => by simp at e
  | ms, w :: vs, us, 0, v, h, e => by
    obtain ⟨u, r, rfl, h1, _⟩ := h
    simp at e
    subst e
    refine ⟨u, rfl, ?_⟩
    cases ms <;> exact h1
  | ms, w :: vs, us, i + 1, v, h, e => by
    obtain ⟨u, r, rfl, _, h2⟩ := h
    obtain ⟨u', e1, h3⟩ := args_at (i := i) (v := v) h2 (by simpa using e)
    refine ⟨u', by simpa using e1, ?_⟩
    cases ms with
    | nil => exact h3
    | cons m ms => exact h3
theorem start_rel {k : Kx} {F : Fn} {g : Gh} {H : Hp} {S : Store} {vs : List Val} {us : List V} (hm : F.md.length = F.names.length) (hp : F.np ≤ F.names.length) (hno : (F.md.take F.np).all (fun m => decide (m = Mode.shr ∨ m = Mode.brw)) = true) (s : SRel k g H S) (h : ArgsR k g H F.md vs us) (hl : vs.length = F.np) :
    Rel k { l := F.md } g (L2.start F.names us) H (startE F.names.length vs) S := by
  have hul := h.len
  refine ⟨?_, ?_, fun i v e => ?_, (fun i a c z => nomatch z), s⟩
  · unfold startE
    rw [List.length_append, List.length_map, List.length_replicate, hm]
    omega
  · unfold L2.start
    rw [List.length_append, List.length_map, List.length_replicate, hm]
    omega
  · unfold startE at e
    by_cases hi : i < vs.length
    · rw [List.getElem?_append_left (by rw [List.length_map]; exact hi), List.getElem?_map] at e
      cases e1 : vs[i]? with
      | none => rw [e1] at e; cases e
      | some w =>
        rw [e1] at e
        cases e
        obtain ⟨u, e2, h2⟩ := args_at h e1
        refine ⟨u, ?_, ?_⟩
        · unfold L2.start
          rw [List.getElem?_append_left (by rw [List.length_map, hul]; exact hi), List.getElem?_map, e2]
          rfl
        · have hmo : F.md.getD i .shr = .shr ∨ F.md.getD i .shr = .brw := by
            rw [getD_eq]
            cases e3 : F.md[i]? with
            | none => exact .inl rfl
            | some m =>
              have hmem : m ∈ F.md.take F.np := by
                have : (F.md.take F.np)[i]? = some m := by
                  rw [List.getElem?_take_of_lt (by omega), e3]
                exact List.mem_of_getElem? this
              exact of_decide_eq_true (List.all_eq_true.mp hno m hmem)
          show SRep k g H i (F.md.getD i .shr) v u
          cases e3 : F.md.getD i .shr with
          | shr => rw [e3] at h2; exact h2
          | brw => rw [e3] at h2; exact h2
          | own => rw [e3] at hmo; rcases hmo with z | z <;> cases z
          | ini => rw [e3] at hmo; rcases hmo with z | z <;> cases z
    · rw [List.getElem?_append_right (by rw [List.length_map]; omega), List.getElem?_replicate] at e
      split at e <;> cases e

/-- where a def stands: a global's name; a class and its method -/
def atOf (F : Fn) : Str × Option Str := if F.meth = true then (F.cls, some F.name) else (F.name, none)
def qualOf (F : Fn) : Str := if F.meth = true then F.cls ++ "." ++ F.name else F.name
theorem ArgsR.stepS {k : Kx} {g g' : Gh} {H H' : Hp} (st : StepS g H g' H') : ∀ {ms : List Mode} {vs : List Val} {us : List V}, ArgsR k g H ms vs us → ArgsR k g' H' ms vs us
  | _, [], _, q => q
  | ms, v :: vs, us, ⟨u, r, e, h1, h2⟩ => by
    refine ⟨u, r, e, ?_, ArgsR.stepS st h2⟩
    cases e2 : ms.headD .shr with
    | brw => rw [e2] at h1; exact st.mL h1
    | shr => rw [e2] at h1; exact st.mV h1
    | own => rw [e2] at h1; exact st.mV h1
    | ini => rw [e2] at h1; exact st.mV h1
theorem srel_put0 {k : Kx} {g : Gh} {H : Hp} {S : Store} {x : Addr} {c : Addr} {dx : Addr} {us : List (Str × V)} (s : SRel k g H S) (tx : g.T x = .no) (hx : H x = some (.ins c dx us)) : SRel k (g.put x (.sl 0)) H S := by
  have ne : ∀ a, g.T a ≠ .no → (g.put x (.sl 0)).T a = g.T a := fun a h => put_ne fun e => h (by rw [e]; exact tx)
  have kp : Keep0 g H (g.put x (.sl 0)) H := ⟨fun a h => ⟨ne a (by rcases h with h | ⟨_, h⟩ | ⟨_, _, h⟩ <;> rw [h] <;> intro z <;> cases z), rfl⟩, fun _ _ h => h⟩
  refine kp.str s ⟨s.no, fun n f a b ha hb => ?_, fun a ha => ?_, fun a xs e => ?_⟩
  · have h1 : a ≠ x := fun e => by rw [e, put_same] at ha; cases ha
    have h2 : b ≠ x := fun e => by rw [e, put_same] at hb; cases hb
    rw [put_ne h1] at ha
    rw [put_ne h2] at hb
    exact s.uniq n f a b ha hb
  · by_cases h1 : a = x
    · rw [h1, hx]
      intro z
      cases z
    · rw [put_ne h1] at ha
      exact s.wf a ha
  · by_cases h1 : a = x
    · rw [h1, hx] at e
      cases e
    · rw [put_ne h1]
      exact s.tup a xs e
theorem start_relI {k : Kx} {F : Fn} {g : Gh} {H : Hp} {S : Store} {vs : List Val} {us : List V} {x dx : Addr} {c : Nat} (hm : F.md.length = F.names.length) (hp : F.np ≤ F.names.length) (hno : ((F.md.take F.np).drop 1).all (fun m => decide (m = Mode.shr ∨ m = Mode.brw)) = true) (h0 : F.md.getD 0 .shr = .ini) (s : SRel k g H S)
    (hs : x = k.slf) (tx : g.T x = .no) (hx : H x = some (.ins (k.ca c) dx [])) (h : ArgsR k g H F.md.tail vs us) (hl : vs.length + 1 = F.np) :
    Rel k { l := F.md } (g.put x (.sl 0)) (L2.start F.names (.ref x :: us)) H (startE F.names.length (.obj c [] :: vs)) S := by
  have hul := h.len
  have st : StepS g H (g.put x (.sl 0)) H := stepS_put (.inr (.inl tx))
  have h' := h.stepS st
  refine ⟨?_, ?_, fun i v e => ?_, (fun i a c z => nomatch z), srel_put0 s tx hx⟩
  · unfold startE
    rw [List.length_append, List.length_map, List.length_replicate, hm, List.length_cons]
    omega
  · unfold L2.start
    rw [List.length_append, List.length_map, List.length_replicate, hm, List.length_cons]
    omega
  · cases i with
    | zero =>
      have e' : some (some (Val.obj c [])) = some (some v) := e
      cases e'
      refine ⟨.ref x, rfl, ?_⟩
      show SRep k _ H 0 (F.md.getD 0 .shr) _ _
      rw [h0]
      exact ⟨c, [], x, dx, [], rfl, ⟨rfl, hs⟩, put_same, hx, by simp only [VFs]⟩
    | succ i =>
      have e' : (vs.map some ++ List.replicate (F.names.length - (vs.length + 1)) none)[i]? = some (some v) := e
      by_cases hi : i < vs.length
      · rw [List.getElem?_append_left (by rw [List.length_map]; exact hi), List.getElem?_map] at e'
        cases e1 : vs[i]? with
        | none => rw [e1] at e'; cases e'
        | some w =>
          rw [e1] at e'
          cases e'
          obtain ⟨u, e2, h2⟩ := args_at h' e1
          refine ⟨u, ?_, ?_⟩
          · show (us.map some ++ List.replicate (F.names.length - (us.length + 1)) none)[i]? = _
            rw [List.getElem?_append_left (by rw [List.length_map, hul]; exact hi), List.getElem?_map, e2]
            rfl
          · have e4 : F.md.tail.getD i .shr = F.md.getD (i + 1) .shr := by
              rw [getD_eq, getD_eq, List.getElem?_tail]
            rw [e4] at h2
            have hmo : F.md.getD (i + 1) .shr = .shr ∨ F.md.getD (i + 1) .shr = .brw := by
              rw [getD_eq]
              cases e3 : F.md[i + 1]? with
              | none => exact .inl rfl
              | some m =>
                have hmem : m ∈ (F.md.take F.np).drop 1 := by
                  have : ((F.md.take F.np).drop 1)[i]? = some m := by
                    rw [List.getElem?_drop, List.getElem?_take_of_lt (by omega), Nat.add_comm 1 i, e3]
                  exact List.mem_of_getElem? this
                exact of_decide_eq_true (List.all_eq_true.mp hno m hmem)
            show SRep k _ H (i + 1) (F.md.getD (i + 1) .shr) v u
            cases e3 : F.md.getD (i + 1) .shr with
            | shr => rw [e3] at h2; exact h2
            | brw => rw [e3] at h2; exact h2
            | own => rw [e3] at hmo; rcases hmo with z | z <;> cases z
            | ini => rw [e3] at hmo; rcases hmo with z | z <;> cases z
      · rw [List.getElem?_append_right (by rw [List.length_map]; omega), List.getElem?_replicate] at e'
        split at e' <;> cases e'
/-- facts of the module, over every base -/
structure Mods (K : PySem.W.Frag) (mg : Str → Option Value) (k : Kx) (G : Prog) (free : List Str) (cons : List (Str × Cn)) : Prop where
  free : ∀ x ∈ free, mg x = none
  cons : ∀ x c, (x, c) ∈ cons → ∃ u, mg x = some u ∧ RelV (cnV' c) u
  cls : ∀ d C, G.cls d = some C → mg C.name = some (.ref (k.ca d))
  kl : ∀ a us (H : Hp), k.kl a us → SqL K H a us
  exc : ∀ c C, G.cls c = some C → C.exc = true → PySem.W.excIn K (k.ca c) He.veBase "ValueError.__new__" = true ∧ PySem.W.keepIn K (.ref (k.ca c)) = true ∧
    (PySem.W.subIn K (.ref (k.ca c)) (.type "BaseException") = some true ∧ PySem.W.typeIn K (.ref (k.ca c)) = some (.type "type")) ∧ ExcC K (k.ca c) ∧
    PySem.W.kitOne K (.ref (k.ca c)) (.type "ValueError") = some true ∧ ∀ d D, G.cls d = some D → D.exc = true → PySem.W.exmOne K (.ref (k.ca c)) (.ref (k.ca d)) = some (C.sup.contains d) ∧ PySem.W.kitOne K (.ref (k.ca c)) (.ref (k.ca d)) = some (C.sup.contains d)
  nmi : NmI k
  nmG : k.nm = G.nm
  obj : ∀ c f, fldV G c f = true → L2.Cls K (k.ca c) ∧ NoAttr K (k.ca c) (G.nm f)
  ids : (∀ c, clsV G c = true → c ∈ G.ids) ∧ IsiF K k.ca G
  mt : ∀ c m f F, clsV G c = true → fnOf G c m = some f → G.fn f = some F → F.isIni = false → L2.Cls K (k.ca c) ∧ Meth K (k.ca c) (G.nm (m % 1000)) (He.fAd K (atOf F))
  mks : ∀ c C f F, G.cls c = some C → C.exc = false → C.ini = some f → G.fn f = some F → F.isIni = true → Mk K (k.ca c) (He.fAd K (atOf F)) ∧ ClsI K (k.ca c) (He.fAd K (atOf F))
/-- a def's text -/
structure Txt where
  params : Arguments
  body : List Stmt
  scope : Scope
def ckOf (G : Prog) (free : List Str) (cons : List (Str × Cn)) (F : Fn) (t : Txt) : Ck := { N := F.names, sc := t.scope, blk := none, calm := true, md := F.md, hs := none, G := G, free := free, cons := cons }
/-- a def's text is its small language's -/
def txtB (G : Prog) (free : List Str) (cons : List (Str × Cn)) (F : Fn) (t : Txt) : Bool :=
  decide (F.md.length = F.names.length) && decide (F.np ≤ F.names.length) && ((F.md.take F.np).drop (if F.isIni then 1 else 0)).all (fun m => decide (m = Mode.shr ∨ m = Mode.brw)) && (!F.isIni || decide (F.md.head? = some Mode.ini)) && (match t.scope.kind with | .function => true | _ => false) && (!loF F || (cellB t.scope && loTB (F.names.headD "") t.body && dbgB (F.names.headD ""))) && mSs 200 (ckOf G free cons F t) (retM F.ret) t.body F.body
structure DefOk (K : PySem.W.Frag) (mg : Str → Option Value) (G : Prog) (free : List Str) (cons : List (Str × Cn)) (F : Fn) : Prop where
  ex : ∃ (t : Txt) (addr : Addr) (fd : FuncData), FunD K F.name (qualOf F) t.params t.body t.scope [] [] addr fd ∧ addr = He.fAd K (atOf F) ∧ (F.meth = false → mg F.name = some (.ref addr)) ∧ (∀ (s : Shared) (us : List Value), us.length = (F.names.take F.np).length → BindsTo s fd ⟨us, []⟩ ((F.names.take F.np).zip us)) ∧ FnScope F.names (F.names.take F.np) t.scope ∧ txtB G free cons F t = true
section
variable {P : Program} {w : World} {K : PySem.W.Frag} {mg : Str → Option Value} {base : Heap} {k : Kx} {G : Prog} {free : List Str} {cons : List (Str × Cn)} {wf : Nat}
theorem post_body {J : Jr} {g : Gh} {H : Hp} {r : RS} {Q : VK} {E : XK} (hW : J.W = fun cls d _ H => E cls d H) (p : PostC J.k J.rm g H (ofBody r) Q E) : J.PostS g H r { nx := fun _ H' => Q .non H', rt := Q } := by
  cases r with
  | nx ρ S => exact fun σ g' H' r st => p .non g' H' r.str st MRep.non
  | brk ρ S => exact p.elim
  | cnt ρ S => exact p.elim
  | ret v S => exact p
  | exn c ρ S =>
    intro σ g' H' r st
    rw [hW]
    exact p g' H' r.str st
  | stuck => exact p
theorem binds_of {fd : FuncData} {ps : List Str} (h : ∀ (s : Shared) (us : List Value), us.length = ps.length → BindsTo s fd ⟨us, []⟩ (ps.zip us)) : Binds K fd ps [] := fun s us _ hl => by
  rw [List.append_nil] at hl ⊢
  exact h s us hl
/-- another object is made -/
theorem Mods.slf (M : Mods K mg k G free cons) (x : Addr) : Mods K mg { k with slf := x } G free cons := ⟨M.free, M.cons, M.cls, M.kl, M.exc, M.nmi, M.nmG, M.obj, M.ids, M.mt, M.mks⟩
mutual
theorem VRep_slf {F : Hp} {ι : Nat → Option Addr} {x : Addr} : ∀ (v : Val) (u : V), VRep { k with slf := x } F ι v u ↔ VRep k F ι v u
  | .non, _ => by simp only [VRep]
  | .bl _, _ => by simp only [VRep]
  | .int _, _ => by simp only [VRep]
  | .str _, _ => by simp only [VRep]
  | .tup xs, _ => by
    simp only [VRep]
    exact exists_congr fun a => exists_congr fun us => and_congr_right fun _ => and_congr_right fun _ => VReps_slf xs us
  | .lst xs, _ => by
    simp only [VRep]
    exact exists_congr fun a => exists_congr fun us => and_congr_right fun _ => and_congr_right fun _ => VReps_slf xs us
  | .dK xs, _ => by
    simp only [VRep]
    exact exists_congr fun a => exists_congr fun us => and_congr_right fun _ => and_congr_right fun _ => VKs_slf xs us
  | .dT xs, _ => by
    simp only [VRep]
    exact exists_congr fun a => exists_congr fun us => and_congr_right fun _ => and_congr_right fun _ => VTs_slf xs us
  | .obj c fs, _ => by
    simp only [VRep]
    exact exists_congr fun a => exists_congr fun dx => exists_congr fun us => and_congr_right fun _ => and_congr_right fun _ => VFs_slf fs us
  | .ref n, _ => by simp only [VRep]
  | .exc _, _ => by simp only [VRep]
  | .scr _, _ => by simp only [VRep]
theorem VReps_slf {F : Hp} {ι : Nat → Option Addr} {x : Addr} : ∀ (v : List Val) (u : List V), VReps { k with slf := x } F ι v u ↔ VReps k F ι v u
  | [], _ => by simp only [VReps]
  | y :: xs, _ => by
    simp only [VReps]
    exact exists_congr fun a => exists_congr fun us => and_congr_right fun _ => and_congr (VRep_slf y a) (VReps_slf xs us)
theorem VKs_slf {F : Hp} {ι : Nat → Option Addr} {x : Addr} : ∀ (v : List (Key × Val)) (u : List (Key × V)), VKs { k with slf := x } F ι v u ↔ VKs k F ι v u
  | [], _ => by simp only [VKs]
  | (q, y) :: xs, _ => by
    simp only [VKs]
    exact exists_congr fun a => exists_congr fun us => and_congr_right fun _ => and_congr (VRep_slf y a) (VKs_slf xs us)
theorem VTs_slf {F : Hp} {ι : Nat → Option Addr} {x : Addr} : ∀ (v : List (List Key × Val)) (u : List (List Key × V)), VTs { k with slf := x } F ι v u ↔ VTs k F ι v u
  | [], _ => by simp only [VTs]
  | (q, y) :: xs, _ => by
    simp only [VTs]
    exact exists_congr fun a => exists_congr fun us => and_congr_right fun _ => and_congr (VRep_slf y a) (VTs_slf xs us)
theorem VFs_slf {F : Hp} {ι : Nat → Option Addr} {x : Addr} : ∀ (v : List (Nat × Val)) (u : List (Str × V)), VFs { k with slf := x } F ι v u ↔ VFs k F ι v u
  | [], _ => by simp only [VFs]
  | (q, y) :: xs, _ => by
    simp only [VFs]
    exact exists_congr fun a => exists_congr fun us => and_congr_right fun _ => and_congr (VRep_slf y a) (VFs_slf xs us)
end
theorem TRep_slf {F : Hp} {ι : Nat → Option Addr} {x : Addr} {Pp : Addr → HO → Prop} : ∀ (v : Val) (u : V), TRep { k with slf := x } F ι Pp v u ↔ TRep k F ι Pp v u
  | .lst xs, _ => exists_congr fun a => exists_congr fun us => and_congr_right fun _ => and_congr_right fun _ => VReps_slf xs us
  | .dK xs, _ => exists_congr fun a => exists_congr fun us => and_congr_right fun _ => and_congr_right fun _ => VKs_slf xs us
  | .dT xs, _ => exists_congr fun a => exists_congr fun us => and_congr_right fun _ => and_congr_right fun _ => VTs_slf xs us
  | .non, u => VRep_slf _ u
  | .bl _, u => VRep_slf _ u
  | .int _, u => VRep_slf _ u
  | .str _, u => VRep_slf _ u
  | .tup _, u => VRep_slf _ u
  | .obj _ _, u => VRep_slf _ u
  | .ref _, u => VRep_slf _ u
  | .exc _, u => VRep_slf _ u
  | .scr _, u => VRep_slf _ u
theorem FReps_slf {g : Gh} {H : Hp} {x : Addr} {c n : Nat} : ∀ (fs : List (Nat × Val)) (us : List (Str × V)), FReps { k with slf := x } g H c n fs us ↔ FReps k g H c n fs us
  | [], _ => Iff.rfl
  | (f, y) :: xs, _ => exists_congr fun u => exists_congr fun r => and_congr_right fun _ => and_congr (by
      show (if k.own c f = true then _ else _) ↔ (if k.own c f = true then _ else _)
      split
      · exact TRep_slf _ _
      · exact VRep_slf _ _) (FReps_slf xs r)
theorem ORep_slf {g : Gh} {H : Hp} {x : Addr} {n : Nat} {a : Addr} : ∀ (o : SO), ORep { k with slf := x } g H n a o ↔ ORep k g H n a o
  | .inst c fs => exists_congr fun dx => exists_congr fun us => and_congr_right fun _ => FReps_slf fs us
  | .cell v => and_congr_right fun _ => TRep_slf _ _
  | .lk v => and_congr_right fun _ => TRep_slf _ _
theorem SRel_slf {g : Gh} {H : Hp} {x : Addr} {S : Store} : SRel { k with slf := x } g H S ↔ SRel k g H S :=
  ⟨fun r => ⟨fun n o e => by
      obtain ⟨a, h1, h2, h3⟩ := r.obj n o e
      exact ⟨a, h1, h2, (ORep_slf o).mp h3⟩, r.no, r.uniq, r.wf, r.tup⟩, fun r => ⟨fun n o e => by
      obtain ⟨a, h1, h2, h3⟩ := r.obj n o e
      exact ⟨a, h1, h2, (ORep_slf o).mpr h3⟩, r.no, r.uniq, r.wf, r.tup⟩⟩
theorem MRep_slf {g : Gh} {H : Hp} {x : Addr} {m : Md} {v : Val} {u : V} : MRep { k with slf := x } g H m v u ↔ MRep k g H m v u := by
  cases m <;> first | exact VRep_slf _ _ | exact TRep_slf _ _
theorem ArgsR_slf {g : Gh} {H : Hp} {x : Addr} : ∀ (ms : List Mode) (vs : List Val) (us : List V), ArgsR { k with slf := x } g H ms vs us ↔ ArgsR k g H ms vs us
  | _, [], _ => Iff.rfl
  | ms, v :: vs, us => exists_congr fun u => exists_congr fun r => and_congr_right fun _ => and_congr MRep_slf (ArgsR_slf ms.tail vs r)
/-- what the levels promise -/
def LvF (P : Program) (w : World) (K : PySem.W.Frag) (mg : Str → Option Value) (base : Heap) (G : Prog) (free : List Str) (cons : List (Str × Cn)) (wf n : Nat) : Prop := ∀ (k : Kx), Mods K mg k G free cons → ∀ (f : Nat) (F : Fn), G.fn f = some F → F.isIni = false → ∀ (t : Txt) (addr : Addr) (fd : FuncData),
    FunD K F.name (qualOf F) t.params t.body t.scope [] [] addr fd → FnScope F.names (F.names.take F.np) t.scope → txtB G free cons F t = true → FnOk P w K mg base (L2.CX P w) n addr fd (F.names.take F.np) (spec k F (run G wf n f))
def LvI (P : Program) (w : World) (K : PySem.W.Frag) (mg : Str → Option Value) (base : Heap) (G : Prog) (free : List Str) (cons : List (Str × Cn)) (wf n : Nat) : Prop := ∀ (k : Kx), Mods K mg k G free cons → ∀ (f : Nat) (F : Fn), G.fn f = some F → F.isIni = true → ∀ (t : Txt) (addr : Addr) (fd : FuncData),
    FunD K F.name (qualOf F) t.params t.body t.scope [] [] addr fd → FnScope F.names (F.names.take F.np) t.scope → txtB G free cons F t = true → FnOk P w K mg base (L2.CX P w) (n - 1) addr fd (F.names.take F.np) (specI k F (runI G wf n f))
theorem lo_of {F : Fn} {A : Around} {X : Cx} (hK : X.K = K) (hmg : X.mg = mg) (hr : Room 0 X.A) (D : DefOk K mg G free cons F) (h : loF F = true) : ∃ addr, LoX X F addr := by
  obtain ⟨t, addr, fd, q1, _, q2, q3, q4, q5⟩ := D.ex
  unfold loF at h
  simp only [Bool.and_eq_true, decide_eq_true_eq, Bool.not_eq_true'] at h
  obtain ⟨⟨⟨⟨h1, h2⟩, h3⟩, h4⟩, h5⟩ := h
  have hl : loF F = true := by
    unfold loF
    simp only [h1, h2, h3, h4, h5, decide_true, Bool.not_false, Bool.and_self]
  unfold txtB at q5
  simp only [Bool.and_eq_true, decide_eq_true_eq, Bool.or_eq_true, Bool.not_eq_true', hl, Bool.true_eq_false, false_or] at q5
  obtain ⟨⟨⟨_, b4⟩, ⟨b5, b6⟩, b7⟩, _⟩ := q5
  obtain ⟨x, hx⟩ : ∃ x, F.names = [x] := by
    cases e : F.names with
    | nil => rw [e] at h4; cases h4
    | cons x r =>
      cases r with
      | nil => exact ⟨x, rfl⟩
      | cons y r => rw [e] at h4; simp at h4
  rw [hx] at b6 b7
  have hce := cellB_ok b5
  have hps : F.names.take F.np = [x] := by rw [hx, h3]; rfl
  rw [hps] at q3 q4
  have hlo : t.scope.names.lookup x = some .local := by
    rcases q4.par x (List.mem_singleton.mpr rfl) with z | z
    · exact z
    · exact absurd rfl (hce _ (PySem.mem_of_lookup z))
  obtain ⟨oc, od, dV, kV, doc, pm, an, cdv, ct, osl, rfl, lk, hcd, _, _⟩ := q1.ex
  have hd : (x == ("__debug__" : Str)) = false := by
    have b7 : dbgB x = true := b7
    unfold dbgB at b7
    simp only [Bool.and_eq_true, Bool.not_eq_true'] at b7
    exact b7.1
  refine ⟨addr, ⟨⟨x, qualOf F, t.params, t.body, t.scope, oc, dV, kV, doc, pm, cdv, ct, od, an, osl, by rw [hK]; exact lk, by rw [hK]; exact hcd, ?_, q4.co, q4.gen, hce, hlo, hd, loTB_ok b6, fun s us hl => q3 s us hl⟩, by rw [hmg]; exact q2 h2, hr⟩⟩
  exact q4.kind
theorem good_at (M : Mods K mg k G free cons) (D : ∀ f F, G.fn f = some F → DefOk K mg G free cons F) {n : Nat} (hF : LvF P w K mg base G free cons wf n) (hI : LvI P w K mg base G free cons wf n) {F : Fn} {t : Txt} {addr : Addr} {cdv : Value} {A : Around} {outer : List PySem.Env} {s : Shared} {H : Hp} {E : XK}
    (h4 : FnScope F.names (F.names.take F.np) t.scope) (hk : t.scope.kind = .function) {rm : Md} (hr : Room n (cxOf (L2.CX P w) P w K mg base F.names (qualOf F) t.scope addr cdv A outer s H E).A) :
    GoodS (ckOf G free cons F t) (cxOf (L2.CX P w) P w K mg base F.names (qualOf F) t.scope addr cdv A outer s H E) { k := k, x := ⟨G, wf, run G wf n, runI G wf n⟩, md := { l := F.md }, W := fun cls d _ H => E cls d H, rm := rm } := {
  N := rfl
  nd := h4.nd
  sc := rfl
  fn := fun _ => rfl
  calm := fun _ => rfl
  un := by
    have := hr.un
    omega
  md := rfl
  hs := rfl
  G := rfl
  free := M.free
  cons := M.cons
  cls := M.cls
  kl := M.kl
  tk := takes_of rfl rfl rfl rfl
  nmi := M.nmi
  nmG := M.nmG
  obj := M.obj
  ids := M.ids
  fns := fun _ f' F' hF' hi' hm' => by
    obtain ⟨t', addr', fd', q1, q1b, q2, q3, q4, q5⟩ := (D f' F' hF').ex
    exact ⟨n, addr', fd', hr, q2 hm', q1.kp, binds_of q3, hF k M f' F' hF' hi' t' addr' fd' q1 q4 q5⟩
  mt := fun _ c m f' F' hc hm' hF' hi' => by
    obtain ⟨t', addr', fd', q1, q1b, q2, q3, q4, q5⟩ := (D f' F' hF').ex
    obtain ⟨m1, m2⟩ := M.mt c m f' F' hc hm' hF' hi'
    rw [← q1b] at m2
    exact ⟨n, addr', fd', hr, m1, m2, binds_of q3, hF k M f' F' hF' hi' t' addr' fd' q1 q4 q5⟩
  mks := fun _ c C f' F' hC hx hi hF' hi' => by
    obtain ⟨t', addr', fd', q1, q1b, q2, q3, q4, q5⟩ := (D f' F' hF').ex
    obtain ⟨m1, m2⟩ := M.mks c C f' F' hC hx hi hF' hi'
    rw [← q1b] at m1 m2
    refine ⟨n - 1, addr', fd', fun us H Q E z => ?_, m1, binds_of q3, hI k M f' F' hF' hi' t' addr' fd' q1 q4 q5, m2⟩
    cases n with
    | zero =>
      obtain ⟨g, S, c0, vs, x, dx, rest, _, _, _, _, _, _, _, p⟩ := z
      simp only [runI] at p
      exact p.elim
    | succ n => exact hr
  los := fun _ f' F' hF' hl => lo_of (A := A) rfl rfl (hr.mono (Nat.zero_le n)) (D f' F' hF') hl
  hx := fun i a c z => nomatch z
  own := PassesOwn.leaving
  knd := hk
  stk := ⟨rfl, rfl⟩
  exc := fun c C hC hx => by
    obtain ⟨e1, e2, ⟨e3, e4⟩, e5⟩ := M.exc c C hC hx
    exact ⟨e1, e2, raises_own e3 e4, e5⟩ }
theorem txt_of {F : Fn} {t : Txt} (h5 : txtB G free cons F t = true) : F.md.length = F.names.length ∧ F.np ≤ F.names.length ∧ ((F.md.take F.np).drop (if F.isIni then 1 else 0)).all (fun m => decide (m = Mode.shr ∨ m = Mode.brw)) = true ∧ (F.isIni = true → F.md.head? = some Mode.ini) ∧ t.scope.kind = .function ∧ mSs 200 (ckOf G free cons F t) (retM F.ret) t.body F.body = true := by
  unfold txtB at h5
  simp only [Bool.and_eq_true, decide_eq_true_eq, Bool.or_eq_true, Bool.not_eq_true'] at h5
  obtain ⟨⟨⟨⟨⟨⟨b1, b2⟩, b3⟩, b3b⟩, b4⟩, _⟩, b5⟩ := h5
  refine ⟨b1, b2, b3, fun z => ?_, ?_, b5⟩
  · rcases b3b with h | h
    · rw [z] at h; cases h
    · exact h
  · split at b4
    · assumption
    · cases b4
theorem lv_fn (D : ∀ f F, G.fn f = some F → DefOk K mg G free cons F) {n : Nat} (hF : LvF P w K mg base G free cons wf n) (hI : LvI P w K mg base G free cons wf n) : LvF P w K mg base G free cons wf (n + 1) := by
  intro k M f F hF' hi t addr fd h1 h4 h5
  obtain ⟨b1, b2, b3, _, hk, b5⟩ := txt_of h5
  refine h1.ok h4 (fun us H Q E h => ?_) fun cdv A outer s H us Q E hr h => ?_
  · obtain ⟨g, S, vs, _, _, h6, h7, _⟩ := h
    rw [h6.len, h7, List.length_take]
    omega
  · obtain ⟨g, S, vs, sr, cl, h6, h7, p⟩ := h
    let J : Jr := { k := k, x := ⟨G, wf, run G wf n, runI G wf n⟩, md := { l := F.md }, W := fun cls d _ H => E cls d H, rm := retM F.ret }
    refine ⟨J.tSs F.body, ?_, ?_⟩
    · have hr' : Room n (cxOf (L2.CX P w) P w K mg base F.names (qualOf F) t.scope addr cdv A outer s H E).A := hr
      have good : GoodS (ckOf G free cons F t) (cxOf (L2.CX P w) P w K mg base F.names (qualOf F) t.scope addr cdv A outer s H E) J := good_at (addr := addr) (cdv := cdv) (A := A) (outer := outer) (s := s) (H := H) (E := E) (rm := retM F.ret) M D hF hI h4 hk hr'
      exact (sndS 200).ss good b5
    · refine ⟨g, startE F.names.length vs, S, start_rel b1 b2 (by rw [hi] at b3; exact b3) sr h6 h7, ?_⟩
      refine post_body (J := J) rfl ?_
      have e : run G wf (n + 1) f vs S = ofBody (evSs ⟨G, wf, run G wf n, runI G wf n⟩ F.body (startE F.names.length vs) S) := by
        simp only [run, hF']
        rw [if_pos ⟨h7, hi⟩]
      rw [e] at p
      exact p
theorem post_init {J : Jr} {g g0 : Gh} {H : Hp} {r : RS} {Q : VK} {E : XK} {x : Addr} {c : Nat} (hs : J.k.slf = x) (hmd : J.md.l.getD 0 .shr = .ini) (hW : J.W = fun cls d _ H => E cls d H) (h0 : ∀ g' H', StepS g0 H g' H' → g'.T x = .sl 0 → StepS g H (g'.put x .no) H') (h1 : ∀ g' H', StepS g0 H g' H' → StepS g H g' H') (p : PostI J.k g H x c (ofInit c r) Q E) : J.PostS g0 H r { nx := fun _ H' => Q .non H', rt := Q } := by
  cases r with
  | nx ρ S =>
    intro σ g' H' r st
    simp only [ofInit] at p
    split at p
    · rename_i d fs e0
      split at p
      · rename_i hd
        subst hd
        obtain ⟨u, eu, h2⟩ := r.slot 0 _ e0
        rw [hmd] at h2
        obtain ⟨c', fs', a, dx, us, ec, ⟨_, hslf⟩, t, ha, hv⟩ := h2
        cases ec
        rw [hs] at hslf
        subst hslf
        have rd := rel_drop0 r t e0
        refine p _ H' dx us rd.str (h0 g' H' st t) put_same ha (VFs.mono (fun b o e => ?_) (fun _ _ z => z) _ _ hv)
        obtain ⟨t2, e2⟩ := fzP_some e
        exact fzP_of (by rw [put_ne (fun z => by subst z; rw [t] at t2; cases t2)]; exact t2) e2
      · exact p.elim
    · exact p.elim
  | brk ρ S => exact p.elim
  | cnt ρ S => exact p.elim
  | ret v S => exact p.elim
  | exn c ρ S =>
    intro σ g' H' r st
    rw [hW]
    exact p g' H' r.str (h1 g' H' st)
  | stuck => exact p
theorem lv_ini (D : ∀ f F, G.fn f = some F → DefOk K mg G free cons F) {n : Nat} (hF : LvF P w K mg base G free cons wf n) (hI : LvI P w K mg base G free cons wf n) : LvI P w K mg base G free cons wf (n + 2) := by
  intro k M f F hF' hi t addr fd h1 h4 h5
  obtain ⟨b1, b2, b3, b3b, hk, b5⟩ := txt_of h5
  show FnOk P w K mg base (L2.CX P w) (n + 1) addr fd _ _
  refine h1.ok h4 (fun us H Q E h => ?_) fun cdv A outer s H us Q E hr h => ?_
  · obtain ⟨g, S, c, vs, x, dx, rest, rfl, _, _, _, _, h6, h7, _⟩ := h
    rw [List.length_cons, h6.len, List.length_take]
    omega
  · obtain ⟨g, S, c, vs, x, dx, rest, rfl, hx, tx, sr, cl, h6, h7, p⟩ := h
    let k' : Kx := { k with slf := x }
    let J : Jr := { k := k', x := ⟨G, wf, run G wf n, runI G wf n⟩, md := { l := F.md }, W := fun cls d _ H => E cls d H, rm := retM F.ret }
    have hmd0 : F.md.getD 0 .shr = .ini := by
      have := b3b hi
      cases e : F.md with
      | nil => rw [e] at this; cases this
      | cons m r => rw [e] at this; cases this; rfl
    refine ⟨J.tSs F.body, ?_, ?_⟩
    · have hr' : Room n (cxOf (L2.CX P w) P w K mg base F.names (qualOf F) t.scope addr cdv A outer s H E).A := hr
      have good : GoodS (ckOf G free cons F t) (cxOf (L2.CX P w) P w K mg base F.names (qualOf F) t.scope addr cdv A outer s H E) J := good_at (addr := addr) (cdv := cdv) (A := A) (outer := outer) (s := s) (H := H) (E := E) (rm := retM F.ret) (M.slf x) D hF hI h4 hk hr'
      exact (sndS 200).ss good b5
    · refine ⟨g.put x (.sl 0), startE F.names.length (.obj c [] :: vs), S, ?_, ?_⟩
      · exact start_relI (k := k') b1 b2 (by rw [hi] at b3; exact b3) hmd0 (SRel_slf.mpr sr) rfl tx hx ((ArgsR_slf _ _ _).mpr h6) h7
      · have ne : ∀ a, g.T a ≠ .no → (g.put x (.sl 0)).T a = g.T a := fun a h => put_ne fun e => h (by rw [e]; exact tx)
        have nx : ∀ a, g.T a ≠ .no → a ≠ x := fun a h e => h (by rw [e]; exact tx)
        have h1' : ∀ g' H', StepS (g.put x (.sl 0)) H g' H' → StepS g H g' H' := fun g' H' st => (stepS_put (.inr (.inl tx))).trans st
        refine post_init (J := J) (g := g) (x := x) (c := c) rfl hmd0 rfl (fun g' H' st t => (h1' g' H' st).trans (stepS_put (.inr (.inr ⟨0, t⟩)))) h1' ?_
        have e : runI G wf (n + 2) f c [] vs S = ofInit c (evSs ⟨G, wf, run G wf n, runI G wf n⟩ F.body (startE F.names.length (.obj c [] :: vs)) S) := by
          simp only [runI, hF']
          rw [if_pos ⟨h7, hi⟩]
        rw [e] at p
        revert p
        generalize ofInit c (evSs ⟨G, wf, run G wf n, runI G wf n⟩ F.body (startE F.names.length (.obj c [] :: vs)) S) = rr
        intro p
        cases rr with
        | ok fs S' => exact fun g' H' dx us s st t hx' hv => p g' H' dx us (SRel_slf.mp s) st t hx' ((VFs_slf _ _).mp hv)
        | exn e S' => exact fun g' H' s st => p g' H' (SRel_slf.mp s) st
        | stuck => exact p
theorem lv_all (D : ∀ f F, G.fn f = some F → DefOk K mg G free cons F) : ∀ n, (LvF P w K mg base G free cons wf n ∧ LvI P w K mg base G free cons wf n) ∧ (LvF P w K mg base G free cons wf (n + 1) ∧ LvI P w K mg base G free cons wf (n + 1))
  | 0 => by
    have f0 : LvF P w K mg base G free cons wf 0 := by
      intro k M f F hF hi t addr fd h1 h4 h5
      have no : ∀ vs H Q E, ¬ spec k F (run G wf 0 f) vs H Q E := fun vs H Q E ⟨g, S, as, _, _, _, _, p⟩ => by
        simp only [run] at p
        exact p
      exact ⟨fun vs H Q E h => absurd h (no vs H Q E), fun A outer s H args us vs Q E _ _ _ _ h => absurd h (no vs H Q E)⟩
    have i01 : ∀ n, n ≤ 1 → LvI P w K mg base G free cons wf n := by
      intro n hn k M f F hF hi t addr fd h1 h4 h5
      have no : ∀ vs H Q E, ¬ specI k F (runI G wf n f) vs H Q E := fun vs H Q E ⟨g, S, c, as, x, dx, rest, _, _, _, _, _, _, _, p⟩ => by
        have hc : n = 0 ∨ n = 1 := by omega
        rcases hc with rfl | rfl
        · simp only [runI] at p
          exact p
        · simp only [runI] at p
          exact p
      exact ⟨fun vs H Q E h => absurd h (no vs H Q E), fun A outer s H args us vs Q E _ _ _ _ h => absurd h (no vs H Q E)⟩
    exact ⟨⟨f0, i01 0 (by omega)⟩, lv_fn D f0 (i01 0 (by omega)), i01 1 (by omega)⟩
  | n + 1 => by
    obtain ⟨⟨a1, a2⟩, b1, b2⟩ := lv_all D n
    exact ⟨⟨b1, b2⟩, lv_fn D b1 b2, lv_ini D a1 a2⟩
theorem fn_level (M : Mods K mg k G free cons) (D : ∀ f F, G.fn f = some F → DefOk K mg G free cons F) (n f : Nat) (F : Fn) (hF : G.fn f = some F) (hi : F.isIni = false) (t : Txt) (addr : Addr) (fd : FuncData)
    (h1 : FunD K F.name (qualOf F) t.params t.body t.scope [] [] addr fd) (h4 : FnScope F.names (F.names.take F.np) t.scope) (h5 : txtB G free cons F t = true) : FnOk P w K mg base (L2.CX P w) n addr fd (F.names.take F.np) (spec k F (run G wf n f)) :=
  (lv_all D n).1.1 k M f F hF hi t addr fd h1 h4 h5
end

/-! ### the law -/
/-- the script is tracked as it lies -/
def kxOf (K : PySem.W.Frag) (G : Prog) (ca : Nat → Addr) (own : Nat → Nat → Bool) : Kx := { ca := ca, nm := G.nm, own := own, kl := fun a us => ∃ (o : Obj) (its : Array Value) (n : Nat), K.lookup a = some o ∧ o.cls = .type "list" ∧ o.dict = none ∧ o.data = .seq its n ∧ its.size ≤ sizeLine ∧ Vals us its.toList }
theorem law_spec {K : PySem.W.Frag} {G : Prog} {ca : Nat → Addr} {own : Nat → Nat → Bool} {F : Fn} {go : List Val → Store → R Val} {H : Hp} {a : Addr} {ns : List Int} {S' : Store} (hO : Only H) (hS : SqL K H a (ns.map V.int)) (hnp : F.np = 1) (hr : F.ret = .shr)
    (h : go [.scr ns] [] = .ok (.bl true) S') : spec (kxOf K G ca own) F go [.ref a] H (fun v _ => v = .bl true) fun _ _ _ => False := by
  let g : Gh := { T := fun b => match H b with | none => .no | some _ => .fz, ι := fun _ => none }
  have gno : ∀ b, g.T b ≠ .no → H b ≠ none := fun b hb e => hb (by show (match H b with | none => Tag.no | some _ => .fz) = .no; rw [e])
  have gt : ∀ b, g.T b = .no ∨ g.T b = .fz := fun b => by
    show (match H b with | none => Tag.no | some _ => .fz) = .no ∨ (match H b with | none => Tag.no | some _ => .fz) = .fz
    cases H b <;> simp
  refine ⟨g, [], [.scr ns], ⟨fun n o e => by simp at e, fun _ _ => rfl, fun n f a b e _ => ?_, gno, fun a xs e => ?_⟩, fun b => ?_, ⟨.ref a, [], rfl, ?_, rfl⟩, hnp.symm, ?_⟩
  · rcases gt a with z | z <;> rw [z] at e <;> cases e
  · exact gt a
  · rcases gt b with z | z <;> rw [z] <;> exact ⟨(fun z => nomatch z), fun i z => nomatch z⟩
  · have hv : VRep (kxOf K G ca own) (fzP g H) g.ι (.scr ns) (.ref a) := by
      simp only [VRep]
      refine ⟨a, rfl, ?_⟩
      rcases hS with (h1 | ⟨o, h1⟩) | h1
      · rcases hO a with z | ⟨o, xs, z⟩
        · rw [h1] at z; cases z
        · rw [h1] at z; cases z
      · left
        refine ⟨o, fzP_of ?_ h1⟩
        show (match H a with | none => Tag.no | some _ => .fz) = .fz
        rw [h1]
      · exact .inr h1
    exact MRep.of_V hv fun z => z
  · rw [h]
    intro u g' H' _ _ mr
    rw [hr] at mr
    exact mr.R.bl_of
theorem kxOf_kl {K : PySem.W.Frag} {G : Prog} {ca : Nat → Addr} {own : Nat → Nat → Bool} : ∀ a us (H : Hp), (kxOf K G ca own).kl a us → SqL K H a us := fun a us H h => .inr h
theorem no_cx {P : Program} {w : World} {H : Hp} {s : Shared} {e : Value} {s' : Shared} (h : L2.CX P w [] H s (fun _ _ _ => False) e s') : False := by
  obtain ⟨_, _, _, _, _, _, _, _, _, _, _, _, z⟩ := h
  exact z
/-- a law's call: what the small language's run says of every script -/
theorem walk_pv {l : PySem.W.OpenLaw} {q : Program} {loose : List Str} {XP : (Str → Option Value) → Heap → Prop} {YP : World → Heap → Prop} {d : DefRec} {G : Prog} {F : Fn} {x : Str} {free : List Str} {cons : List (Str × Cn)} {wf lv lawId : Nat} {own : Nat → Nat → Bool}
    (hn : l.most = some 63) (hdf : d.params.defaults = []) (hr : Room lv callerA) (hF : G.fn lawId = some F) (hi : F.isIni = false) (hnp : F.np = 1) (hret : F.ret = .shr) (hnm : F.name = d.name) (hx : F.names.take 1 = [x])
    (hY : ∀ (w : World) (mg : Str → Option Value) (h : Heap), YP w h → h.Ns mainGlobals mg → ∃ (K : PySem.W.Frag) (ca : Nat → Addr), K.In h ∧ Mods K mg (kxOf K G ca own) G free cons ∧ ∀ f F, G.fn f = some F → DefOk K mg G free cons F)
    (hmeth : F.meth = false)
    (hrun : ∀ ns : List Int, ns.length ≤ 63 → (∀ z ∈ ns, Builtin.Int.intBits z ≤ 1048576) → ∃ S', run G wf lv lawId [.scr ns] [] = .ok (.bl true) S') :
    PySem.W.WalkO q loose XP YP l.row.toRowW d [] (fun f vs => PySem.call f vs) := by
  refine Att.attach_callB hn hdf fun w s₀ s₁ mg mb fa o pm cd doc a vs ns Gr Y ho hd hcd hmg hobj hints hlen hbits hg => ?_
  obtain ⟨K, ca, KX, M, D⟩ := hY w mg _ Y Gr.T.g
  obtain ⟨t, addr, fd, h1, _, h2, h3, h4, h5⟩ := (D lawId F hF).ex
  have h2 := h2 hmeth
  have ea : addr = fa := by
    rw [hnm, hmg] at h2
    cases h2
    rfl
  subst ea
  rw [hnp, hx] at h3
  refine law_call (P := l.prog) (w := w) (CX := L2.CX l.prog w) (sp := spec (kxOf K G ca own) F (run G wf lv lawId)) (mb := mb) (fd := fd) KX Gr.T.g Gr.T.b Gr.T.builtins Gr.T.nolimit hg hobj hints (Nat.le_trans hlen (by decide)) hr (fun base _ _ => ?_) (fun s u => h3 s [u] rfl) (fun H hO hS => ?_) fun H e s' => no_cx
  · have q := fn_level (P := l.prog) (w := w) (base := base) (wf := wf) M D lv lawId F hF hi t addr fd h1 h4 h5
    rw [hnp, hx] at q
    exact q
  · obtain ⟨S', hS'⟩ := hrun ns hlen hbits
    exact law_spec hO hS hnp hret hS'
end Pv
end

section
set_option Elab.async false
set_option linter.all false
set_option maxRecDepth 100000
set_option autoImplicit false
/-! Pv26: from the head's facts to the module's. -/
namespace Pv
open PySem PySem.Spec PyProof.Rows L2

/-! ### a hook: the defs, and a check of one's own -/
abbrev AlP : Type := He.AlD × Bool
def obsP (as : List Addr) (fa : List He.Fa) (fn : List He.DefD) (ck : PySem.W.Frag → Bool) (g : Addr → Option Obj) : AlP := (He.obsD fa fn (He.frG g as), ck (He.frG g as))
def hookP (as : List Addr) (fa : List He.Fa) (fn : List He.DefD) (ck : PySem.W.Frag → Bool) : PySem.W.Hook where
  α := AlP
  obs := fun s => obsP as fa fn ck s.heap.get?
  val := fun _ => (He.valD fn, true)
  says := fun _ h => ∃ K : PySem.W.Frag, K.In h ∧ He.SaysD fa fn K ∧ ck K = true
  of := fun _ _ e => ⟨_, He.frG_in, congrArg Prod.fst e, congrArg Prod.snd e⟩
  keeps := fun _ _ _ ⟨K, hK, c⟩ k => ⟨K, PySem.W.Frag.In.keeps hK k, c⟩
theorem obsP_eq {as : List Addr} {fa : List He.Fa} {fn : List He.DefD} {ck : PySem.W.Frag → Bool} {g : Addr → Option Obj} {s : Shared} (h : ∀ a, g a = s.heap.get? a) : obsP as fa fn ck g = (hookP as fa fn ck).obs s := by
  have e : g = s.heap.get? := funext h
  subst e
  rfl

/-! ### the checks -/
def excB (K : PySem.W.Frag) (cs : List (Nat × Cls)) (C : Cls) : Bool :=
  decide (PySem.W.findIn K (.ref (He.ga K C.name)) "__getattribute__" = some (some (.builtin "BaseException.__getattribute__"))) && decide (PySem.W.findIn K (.ref (He.ga K C.name)) "__getattr__" = some none) &&
  PySem.W.hasDictIn K (He.ga K C.name) && decide (PySem.W.findIn K (.ref (He.ga K C.name)) "__class__" = some (some (.builtin "object.__class__"))) &&
  decide (PySem.W.specialIn K (.builtin "object.__class__") "__get__" = some (some (.builtin "getset_descriptor.__get__"))) && decide (PySem.W.takesIn K (.builtin "object.__class__") = some true) && decide (PySem.W.mroIn K (He.ga K C.name) (.type "object") = some true) &&
  (He.Fa.exc C.name).ok K && decide (PySem.W.kitOne K (.ref (He.ga K C.name)) (.type "ValueError") = some true) &&
  cs.all fun p => !p.2.exc || (decide (PySem.W.exmOne K (.ref (He.ga K C.name)) (.ref (He.ga K p.2.name)) = some (C.sup.contains p.1)) && decide (PySem.W.kitOne K (.ref (He.ga K C.name)) (.ref (He.ga K p.2.name)) = some (C.sup.contains p.1)))
def conB (K : PySem.W.Frag) (p : Str × Cn) : Bool := match p.2 with
  | .int i => (He.Fa.int p.1 i).ok K
  | .str s => (He.Fa.str p.1 s).ok K
  | _ => false
def clsIB (K : PySem.W.Frag) (C f : Addr) : Bool := decide (PySem.W.specialIn K (.ref C) "__getattribute__" = some (some (.builtin "type.__getattribute__"))) && PySem.W.readsIn K C (.type "type") &&
  (match PySem.W.findCls K (.ref C) (.type "type") "__init__" with
  | some (.val (.ref a)) => a == f
  | _ => false) && PySem.W.keepIn K (.ref f)
def clsB (K : PySem.W.Frag) (G : Prog) (C : Cls) : Bool :=
  (He.Fa.cls C.name).ok K && (C.flds.all fun f => (He.Fa.noat C.name (G.nm f)).ok K) && (C.mths.all fun q => match G.fn q.2 with
  | some F => (He.Fa.meth C.name (G.nm (q.1 % 1000))).ok K && decide (He.ma K (He.ga K C.name) (G.nm (q.1 % 1000)) = He.fAd K (atOf F))
  | none => true) && (match C.ini with
  | some f => (match G.fn f with
    | some F => (He.Fa.mkr C.name).ok K && decide (He.ma K (He.ga K C.name) "__init__" = He.fAd K (atOf F)) && clsIB K (He.ga K C.name) (He.fAd K (atOf F))
    | none => true)
  | none => true)
def insTB (K : PySem.W.Frag) (cs : List (Nat × Cls)) (C : Cls) : Bool :=
  decide (PySem.W.findIn K (.ref (He.ga K C.name)) "__class__" = some (some (.builtin "object.__class__"))) && decide (PySem.W.specialIn K (.builtin "object.__class__") "__get__" = some (some (.builtin "getset_descriptor.__get__"))) &&
  decide (PySem.W.takesIn K (.builtin "object.__class__") = some true) && decide (PySem.W.mroIn K (He.ga K C.name) (.type "object") = some true) && (tyNs.all fun n => decide (PySem.W.kitOne K (.type n) (.ref (He.ga K C.name)) = some false)) &&
  cs.all fun p => p.2.exc || decide (PySem.W.kitOne K (.ref (He.ga K C.name)) (.ref (He.ga K p.2.name)) = some (C.sup.contains p.1))
def modB (G : Prog) (cs : List (Nat × Cls)) (fs : List (Nat × Fn)) (free : List Str) (cons : List (Str × Cn)) (K : PySem.W.Frag) : Bool :=
  (cs.all fun p => (He.Fa.glo p.2.name).ok K && (if p.2.exc = true then excB K cs p.2 else clsB K G p.2 && insTB K cs p.2)) && (free.all fun x => (He.Fa.free x).ok K) && (cons.all fun p => conB K p) && (fs.all fun p => p.2.meth || (He.Fa.glo p.2.name).ok K)
def caOf (K : PySem.W.Frag) (cs : List (Nat × Cls)) (c : Nat) : Addr := match cs.lookup c with
  | some C => He.ga K C.name
  | none => 0
theorem look_mem {α : Type} : ∀ {l : List (Nat × α)} {i : Nat} {x : α}, l.lookup i = some x → (i, x) ∈ l
  | (j, y) :: r, i, x, h => by
    rw [List.lookup_cons] at h
    cases hb : i == j with
    | true =>
      rw [hb] at h
      cases h
      rw [beq_iff_eq.mp hb]
      exact List.mem_cons_self
    | false =>
      rw [hb] at h
      exact List.mem_cons_of_mem _ (look_mem h)
theorem nm_inj {l : List Str} (h : l.Nodup) : ∀ f q, nmF l f ≠ "" → nmF l q = nmF l f → q = f := by
  intro f q hf e
  have at_ : ∀ i, nmF l i ≠ "" → ∃ x, l[i]? = some x ∧ nmF l i = x ∧ i < l.length := fun i hi => by
    unfold nmF at hi ⊢
    rw [List.getD_eq_getElem?_getD] at hi ⊢
    cases e : l[i]? with
    | none =>
      rw [e] at hi
      exact absurd rfl hi
    | some x => exact ⟨x, rfl, rfl, (List.getElem?_eq_some_iff.mp e).1⟩
  obtain ⟨x, e1, e2, l1⟩ := at_ f hf
  obtain ⟨y, e3, e4, l2⟩ := at_ q (by rw [e]; exact hf)
  rw [e2, e4] at e
  subst e
  exact (List.getElem?_inj l2 h).mp (e3.trans e1.symm)
theorem mods_of {K : PySem.W.Frag} {h : Heap} {mg : Str → Option Value} {G : Prog} {own : Nat → Nat → Bool} {cs : List (Nat × Cls)} {fs : List (Nat × Fn)} {free : List Str} {cons : List (Str × Cn)} (KX : K.In h) (Gm : h.Ns mainGlobals mg) (hc : ∀ i, G.cls i = cs.lookup i)
    (hids : G.ids = cs.map (·.1)) (hnm : ∀ f q, G.nm f ≠ "" → G.nm q = G.nm f → q = f) (b : modB G cs fs free cons K = true) :
    Mods K mg (kxOf K G (caOf K cs) own) G free cons := by
  unfold modB at b
  simp only [Bool.and_eq_true] at b
  obtain ⟨⟨⟨b1, b2⟩, b3⟩, b4⟩ := b
  have ca : ∀ {d D}, G.cls d = some D → caOf K cs d = He.ga K D.name ∧ (d, D) ∈ cs := fun {d D} e => by
    rw [hc] at e
    exact ⟨by unfold caOf; rw [e], look_mem e⟩
  have cb : ∀ {d D}, G.cls d = some D → D.exc = false → caOf K cs d = He.ga K D.name ∧ clsB K G D = true ∧ insTB K cs D = true := fun {d D} e hx => by
    obtain ⟨e1, e2⟩ := ca e
    have q := List.all_eq_true.mp b1 (d, D) e2
    simp only [Bool.and_eq_true, hx, Bool.false_eq_true, if_false] at q
    exact ⟨e1, q.2⟩
  refine { free := fun x hx => He.free_ok KX Gm (List.all_eq_true.mp b2 x hx), cons := fun x c hx => ?_, cls := fun d D e => ?_, kl := kxOf_kl, exc := fun c C e hx => ?_, nmi := hnm, nmG := rfl, obj := fun c f hf => ?_, ids := ⟨fun c hcv => ?_, fun d D hD hx => ?_⟩, mt := fun c m f F hcv hfn hF hi => ?_, mks := fun c C f F e hx hi hF _ => ?_ }
  · have q := List.all_eq_true.mp b3 (x, c) hx
    cases c with
    | int i =>
      obtain ⟨t, e⟩ := He.int_ok KX Gm (show (He.Fa.int x i).ok K = true from q)
      exact ⟨_, e, t, rfl⟩
    | str s =>
      obtain ⟨t, e⟩ := He.str_ok KX Gm (show (He.Fa.str x s).ok K = true from q)
      exact ⟨_, e, t, rfl⟩
    | non => cases q
    | bl _ => cases q
  · obtain ⟨e1, e2⟩ := ca e
    have q := List.all_eq_true.mp b1 (d, D) e2
    simp only [Bool.and_eq_true] at q
    show mg D.name = some (.ref (caOf K cs d))
    rw [e1]
    exact He.glo_ok KX Gm q.1
  · obtain ⟨e1, e2⟩ := ca e
    have q := List.all_eq_true.mp b1 (c, C) e2
    simp only [Bool.and_eq_true, hx, if_true] at q
    have q := q.2
    unfold excB at q
    simp only [Bool.and_eq_true, decide_eq_true_eq] at q
    obtain ⟨⟨⟨⟨⟨⟨⟨⟨⟨q1, q2⟩, q3⟩, q4⟩, q5⟩, q6⟩, q7⟩, q8⟩, q9⟩, q10⟩ := q
    obtain ⟨f1, f2, f3, f4⟩ := He.exc_ok q8
    show PySem.W.excIn K (caOf K cs c) He.veBase "ValueError.__new__" = true ∧ _
    simp only [kxOf]
    rw [e1]
    refine ⟨f1, f2, ⟨f3, f4⟩, ⟨q1, q2, f3, q3, q4, q5, q6, q7⟩, q9, fun d D hd hdx => ?_⟩
    obtain ⟨e3, e4⟩ := ca hd
    have q := List.all_eq_true.mp q10 (d, D) e4
    simp only [hdx, Bool.not_true, Bool.false_or, Bool.and_eq_true, decide_eq_true_eq] at q
    rw [e3]
    exact q
  · unfold fldV at hf
    split at hf
    · rename_i C hC
      simp only [Bool.and_eq_true, Bool.not_eq_true'] at hf
      obtain ⟨e1, q, _⟩ := cb hC hf.1
      unfold clsB at q
      simp only [Bool.and_eq_true] at q
      show L2.Cls K (caOf K cs c) ∧ NoAttr K (caOf K cs c) _
      rw [e1]
      exact ⟨He.cls_ok q.1.1.1, He.noat_ok (List.all_eq_true.mp q.1.1.2 f (by simpa using hf.2))⟩
    · cases hf
  · unfold clsV at hcv
    split at hcv
    · rename_i C hC
      rw [hids]
      exact List.mem_map.mpr ⟨_, (ca hC).2, rfl⟩
    · cases hcv
  · obtain ⟨e1, q, r⟩ := cb hD hx
    unfold clsB at q
    unfold insTB at r
    simp only [Bool.and_eq_true, decide_eq_true_eq] at q r
    obtain ⟨⟨⟨⟨⟨r1, r2⟩, r3⟩, r4⟩, r5⟩, r6⟩ := r
    simp only [kxOf]
    refine ⟨?_, fun n hn => ?_, fun c C hC hCx => ?_⟩
    · rw [e1]
      exact ⟨He.cls_ok q.1.1.1, r1, r2, r3, r4⟩
    · rw [e1]
      exact of_decide_eq_true (List.all_eq_true.mp r5 n hn)
    · obtain ⟨e2, _, s⟩ := cb hC hCx
      unfold insTB at s
      simp only [Bool.and_eq_true] at s
      have s := List.all_eq_true.mp s.2 (d, D) (ca hD).2
      simp only [hx, Bool.false_or, decide_eq_true_eq] at s
      rw [e1, e2]
      exact s
  · unfold clsV at hcv
    split at hcv
    · rename_i C hC
      simp only [Bool.not_eq_true'] at hcv
      obtain ⟨e1, q, _⟩ := cb hC hcv
      unfold clsB at q
      simp only [Bool.and_eq_true] at q
      unfold fnOf at hfn
      rw [hC] at hfn
      simp only [Option.map_eq_some_iff] at hfn
      obtain ⟨p, hp, rfl⟩ := hfn
      have hmem := List.mem_of_find?_eq_some hp
      have hpm := List.find?_some hp
      simp only [beq_iff_eq] at hpm
      have r := List.all_eq_true.mp q.1.2 p hmem
      rw [hF] at r
      simp only [Bool.and_eq_true, decide_eq_true_eq] at r
      rw [hpm] at r
      show L2.Cls K (caOf K cs c) ∧ Meth K (caOf K cs c) _ _
      rw [e1, ← r.2]
      exact ⟨He.cls_ok q.1.1.1, He.meth_ok r.1⟩
    · cases hcv
  · obtain ⟨e1, q, _⟩ := cb e hx
    unfold clsB at q
    simp only [Bool.and_eq_true] at q
    have r := q.2
    rw [hi] at r
    simp only [hF, Bool.and_eq_true, decide_eq_true_eq] at r
    show Mk K (caOf K cs c) _ ∧ ClsI K (caOf K cs c) _
    obtain ⟨⟨r1, r2⟩, r3⟩ := r
    rw [e1]
    refine ⟨by rw [← r2]; exact He.mkr_ok r1, ?_⟩
    unfold clsIB at r3
    simp only [Bool.and_eq_true, decide_eq_true_eq] at r3
    obtain ⟨⟨⟨s1, s2⟩, s3⟩, s4⟩ := r3
    refine ⟨s1, s2, ?_, s4⟩
    split at s3
    · rename_i a ha
      rw [ha, beq_iff_eq.mp s3]
    · cases s3
def mkD (F : Fn) (t : Txt) : He.DefD := ⟨atOf F, F.name, qualOf F, t.params, t.body, t.scope, [], []⟩
def scopeB (F : Fn) (sc : Scope) : Bool := (match sc.kind with | .function => true | _ => false) && !sc.isCoroutine && !sc.isGenerator && decide F.names.Nodup && decide ((F.names.take (F.names.take F.np).length) = F.names.take F.np) &&
  (F.names.take F.np).all (fun x => match sc.names.lookup x with | some .local => true | some .cell => true | _ => false) && sc.names.all (fun y => match y.2 with | .free => false | _ => true)
theorem scope_ok {F : Fn} {sc : Scope} (h : scopeB F sc = true) : FnScope F.names (F.names.take F.np) sc := by
  unfold scopeB at h
  simp only [Bool.and_eq_true, decide_eq_true_eq, Bool.not_eq_true'] at h
  obtain ⟨⟨⟨⟨⟨⟨h1, h2⟩, h3⟩, h4⟩, h5⟩, h6⟩, h7⟩ := h
  refine ⟨?_, h2, h3, h4, h5, fun x hx => ?_, fun y hy e => ?_⟩
  · split at h1
    · assumption
    · cases h1
  · have q := List.all_eq_true.mp h6 x hx
    split at q
    · exact .inl (by assumption)
    · exact .inr (by assumption)
    · cases q
  · have q := List.all_eq_true.mp h7 y hy
    rw [e] at q
    cases q
def BindA (F : Fn) (t : Txt) : Prop := ∀ (kV doc pm : Value) (an : Option Addr) (cdv ct : Value) (us : List Value), us.length = (F.names.take F.np).length → bindArgs (PySem.W.fnOf F.name (qualOf F) t.params t.body t.scope .none kV doc pm an cdv ct) ⟨us, []⟩ = pure ((F.names.take F.np).zip us)
theorem def_ok {K : PySem.W.Frag} {h : Heap} {mg : Str → Option Value} {G : Prog} {fa : List He.Fa} {cs : List (Nat × Cls)} {fs : List (Nat × Fn)} {dl : List He.DefD} {free : List Str} {cons : List (Str × Cn)} {i : Nat} {F : Fn} {t : Txt} (KX : K.In h) (Gm : h.Ns mainGlobals mg) (c : He.SaysD fa dl K)
    (b : modB G cs fs free cons K = true) (hm : (i, F) ∈ fs) (hd : mkD F t ∈ dl) (ha : BindA F t) (hs : scopeB F t.scope = true) (ht : txtB G free cons F t = true) : DefOk K mg G free cons F := by
  obtain ⟨j, hj⟩ := List.getElem?_of_mem hd
  obtain ⟨fd, FD⟩ := c.def_ j hj
  unfold modB at b
  simp only [Bool.and_eq_true] at b
  have q := List.all_eq_true.mp b.2 (i, F) hm
  refine ⟨t, He.fAd K (atOf F), fd, FD, rfl, fun hme => ?_, fun s us hl => L2.FunD.bindsA (ps := F.names.take F.np) FD ha s us hl, scope_ok hs, ht⟩
  simp only [hme, Bool.false_or] at q
  have e : He.fAd K (atOf F) = He.ga K F.name := by
    unfold atOf
    rw [hme]
    rfl
  rw [e]
  exact He.glo_ok KX Gm q
/-! ### the top's run, looked at in parts -/
section
variable {α β : Type}
theorem map_both {o : Option α} {γ : Type} {f : α → β} {g : α → γ} {a : β} {b : γ} (h1 : o.map f = some a) (h2 : o.map g = some b) : o.map (fun s => (f s, g s)) = some (a, b) := by
  cases o with
  | none => cases h1
  | some s =>
    simp only [Option.map_some, Option.some.injEq] at h1 h2 ⊢
    rw [h1, h2]
theorem map_app {o : Option α} {f : α → β → Bool} {l1 l2 : List β} (h1 : o.map (fun s => l1.all (f s)) = some true) (h2 : o.map (fun s => l2.all (f s)) = some true) : o.map (fun s => (l1 ++ l2).all (f s)) = some true := by
  cases o with
  | none => cases h1
  | some s =>
    simp only [Option.map_some, Option.some.injEq] at h1 h2 ⊢
    rw [List.all_append, h1, h2]
    rfl
end
def frP (as : List Addr) (s : PySem.W.SharedT) : PySem.W.Frag := He.frG (HandSHeadRun.getT s) as
def clsCk (G : Prog) (cs : List (Nat × Cls)) (K : PySem.W.Frag) (p : Nat × Cls) : Bool := (He.Fa.glo p.2.name).ok K && (if p.2.exc = true then excB K cs p.2 else clsB K G p.2 && insTB K cs p.2)
def restCk (fs : List (Nat × Fn)) (free : List Str) (cons : List (Str × Cn)) (K : PySem.W.Frag) : Bool := (free.all fun x => (He.Fa.free x).ok K) && (cons.all fun p => conB K p) && (fs.all fun p => p.2.meth || (He.Fa.glo p.2.name).ok K)
theorem run_join {r : PySem.W.OpenRow} {q : Program} {as : List Addr} {fa : List He.Fa} {fn : List He.DefD} {G : Prog} {cs : List (Nat × Cls)} {fs : List (Nat × Fn)} {free : List Str} {cons : List (Str × Cn)} {M : Nat} {loose : List Str} {w : World} {ob : PySem.W.SharedT → AlP}
    (hob : ∀ s, ob s = obsP as fa fn (modB G cs fs free cons) (HandSHeadRun.getT s))
    (A : ∀ os : OsState, (HandSHeadRun.endF (HandSHeadRun.stepQ (HandSHeadRun.denQ HandSHeadRun.tabQ) r.prog w) M r.prog w os).map (fun s => (HandSHeadRun.looksF r.prog (PySem.W.boot_heap w.params) s.abs, HandSHeadRun.seenQ q loose (importedModules r.prog.main.body) (fun s => PySem.W.xlAt q [] s && PySem.W.recOk r.toRowW.records s) s.abs)) = some (true, PySem.W.openGood q loose))
    (B : ∀ os : OsState, (HandSHeadRun.endF (HandSHeadRun.stepQ (HandSHeadRun.denQ HandSHeadRun.tabQ) r.prog w) M r.prog w os).map (fun s => He.obsD fa fn (frP as s)) = some (He.valD fn))
    (C : ∀ os : OsState, (HandSHeadRun.endF (HandSHeadRun.stepQ (HandSHeadRun.denQ HandSHeadRun.tabQ) r.prog w) M r.prog w os).map (fun s => cs.all (clsCk G cs (frP as s))) = some true)
    (Z : ∀ os : OsState, (HandSHeadRun.endF (HandSHeadRun.stepQ (HandSHeadRun.denQ HandSHeadRun.tabQ) r.prog w) M r.prog w os).map (fun s => restCk fs free cons (frP as s)) = some true) :
    HandSHeadRun.RunEq r q (hookP as fa fn (modB G cs fs free cons)) ob M loose w := by
  intro os
  have a := A os
  have b := B os
  have c := C os
  have z := Z os
  cases e : HandSHeadRun.endF (HandSHeadRun.stepQ (HandSHeadRun.denQ HandSHeadRun.tabQ) r.prog w) M r.prog w os with
  | none => rw [e] at a; cases a
  | some s =>
    rw [e] at a b c z
    obtain ⟨a1, a2⟩ := Prod.mk.inj (Option.some.inj a)
    have b : He.obsD fa fn (frP as s) = He.valD fn := Option.some.inj b
    have c : cs.all (clsCk G cs (frP as s)) = true := Option.some.inj c
    have z : restCk fs free cons (frP as s) = true := Option.some.inj z
    have ho : ob s = (He.valD fn, true) := by
      rw [hob]
      have em : modB G cs fs free cons (frP as s) = (cs.all (clsCk G cs (frP as s)) && restCk fs free cons (frP as s)) := by
        unfold modB restCk
        simp only [Bool.and_assoc]
        rfl
      rw [c, z] at em
      exact Prod.ext b em
    exact congrArg some (Prod.ext a1 (Prod.ext a2 ho))
end Pv
end

section
set_option Elab.async false
set_option maxRecDepth 100000
namespace Pv
open PySem
def F_Event_far : Fn := { name := ⟨#[102, 97, 114]⟩, np := 1, names := [⟨#[115, 101, 108, 102]⟩], md := [.brw], ret := .shr, isIni := false, meth := true, cls := ⟨#[69, 118, 101, 110, 116]⟩, body := [.nev] }
def F_Spanned_init : Fn := { name := ⟨#[95, 95, 105, 110, 105, 116, 95, 95]⟩, np := 3, names := [⟨#[115, 101, 108, 102]⟩, ⟨#[102, 105, 114, 115, 116]⟩, ⟨#[108, 97, 115, 116]⟩], md := [.ini, .shr, .shr], ret := .shr, isIni := true, meth := true, cls := ⟨#[83, 112, 97, 110, 110, 101, 100]⟩, body := [(.ife (.bop false [(.cmp .lt (.v 1) (.k (.int 0))), (.cmp .gt (.v 2) (.gl ⟨#[76, 65, 84, 69, 83, 84]⟩ (.int 11))), (.cmp .gt (.v 1) (.v 2))]) [(.rais 9)] []), (.sfld (.v 0) 29 (.v 1)), (.sfld (.v 0) 30 (.v 2))] }
def F_Spanned_far : Fn := { name := ⟨#[102, 97, 114]⟩, np := 1, names := [⟨#[115, 101, 108, 102]⟩], md := [.brw], ret := .shr, isIni := false, meth := true, cls := ⟨#[83, 112, 97, 110, 110, 101, 100]⟩, body := [(.ret (.fld (.v 0) 30))] }
def F_Stayed_init : Fn := { name := ⟨#[95, 95, 105, 110, 105, 116, 95, 95]⟩, np := 4, names := [⟨#[115, 101, 108, 102]⟩, ⟨#[102, 105, 114, 115, 116]⟩, ⟨#[108, 97, 115, 116]⟩, ⟨#[115, 116, 114, 101, 116, 99, 104]⟩], md := [.ini, .shr, .shr, .shr], ret := .shr, isIni := true, meth := true, cls := ⟨#[83, 116, 97, 121, 101, 100]⟩, body := [(.binit 356 [(.v 1), (.v 2)]), (.sfld (.v 0) 31 (.v 3))] }
def F_Over_init : Fn := { name := ⟨#[95, 95, 105, 110, 105, 116, 95, 95]⟩, np := 4, names := [⟨#[115, 101, 108, 102]⟩, ⟨#[102, 105, 114, 115, 116]⟩, ⟨#[108, 97, 115, 116]⟩, ⟨#[115, 105, 108, 108]⟩], md := [.ini, .shr, .shr, .shr], ret := .shr, isIni := true, meth := true, cls := ⟨#[79, 118, 101, 114]⟩, body := [(.binit 356 [(.v 1), (.v 2)]), (.sfld (.v 0) 33 (.v 3))] }
def F_Under_init : Fn := { name := ⟨#[95, 95, 105, 110, 105, 116, 95, 95]⟩, np := 4, names := [⟨#[115, 101, 108, 102]⟩, ⟨#[102, 105, 114, 115, 116]⟩, ⟨#[108, 97, 115, 116]⟩, ⟨#[115, 105, 108, 108]⟩], md := [.ini, .shr, .shr, .shr], ret := .shr, isIni := true, meth := true, cls := ⟨#[85, 110, 100, 101, 114]⟩, body := [(.binit 356 [(.v 1), (.v 2)]), (.sfld (.v 0) 33 (.v 3))] }
def F_Rose_init : Fn := { name := ⟨#[95, 95, 105, 110, 105, 116, 95, 95]⟩, np := 5, names := [⟨#[115, 101, 108, 102]⟩, ⟨#[102, 105, 114, 115, 116]⟩, ⟨#[108, 97, 115, 116]⟩, ⟨#[108, 111, 119]⟩, ⟨#[104, 105, 103, 104]⟩], md := [.ini, .shr, .shr, .shr, .shr], ret := .shr, isIni := true, meth := true, cls := ⟨#[82, 111, 115, 101]⟩, body := [(.binit 356 [(.v 1), (.v 2)]), (.ife (.cmp .ge (.v 3) (.v 4)) [(.rais 9)] []), (.sfld (.v 0) 8 (.v 3)), (.sfld (.v 0) 9 (.v 4))] }
def F_Paced_init : Fn := { name := ⟨#[95, 95, 105, 110, 105, 116, 95, 95]⟩, np := 4, names := [⟨#[115, 101, 108, 102]⟩, ⟨#[102, 105, 114, 115, 116]⟩, ⟨#[108, 97, 115, 116]⟩, ⟨#[115, 116, 114, 101, 116, 99, 104]⟩], md := [.ini, .shr, .shr, .shr], ret := .shr, isIni := true, meth := true, cls := ⟨#[80, 97, 99, 101, 100]⟩, body := [(.binit 356 [(.v 1), (.v 2)]), (.sfld (.v 0) 31 (.v 3))] }
def F_Turned_init : Fn := { name := ⟨#[95, 95, 105, 110, 105, 116, 95, 95]⟩, np := 2, names := [⟨#[115, 101, 108, 102]⟩, ⟨#[116, 117, 114, 110]⟩], md := [.ini, .shr], ret := .shr, isIni := true, meth := true, cls := ⟨#[84, 117, 114, 110, 101, 100]⟩, body := [(.ife (.bop false [(.cmp .lt (.v 1) (.k (.int 1))), (.cmp .ge (.v 1) (.gl ⟨#[76, 65, 84, 69, 83, 84]⟩ (.int 11)))]) [(.rais 9)] []), (.sfld (.v 0) 34 (.v 1))] }
def F_Turned_far : Fn := { name := ⟨#[102, 97, 114]⟩, np := 1, names := [⟨#[115, 101, 108, 102]⟩], md := [.brw], ret := .shr, isIni := false, meth := true, cls := ⟨#[84, 117, 114, 110, 101, 100]⟩, body := [(.ret (.op2 .add (.fld (.v 0) 34) (.k (.int 1))))] }
def F_l_draw : Fn := { name := ⟨#[95, 108, 97, 119, 95, 100, 114, 97, 119]⟩, np := 4, names := [⟨#[95, 108, 97, 119, 95, 115, 99, 114, 105, 112, 116]⟩, ⟨#[95, 108, 97, 119, 95, 107]⟩, ⟨#[95, 108, 97, 119, 95, 112, 114, 105, 109, 101]⟩, ⟨#[95, 108, 97, 119, 95, 109, 97, 110, 121]⟩], md := [.brw, .brw, .brw, .brw], ret := .shr, isIni := false, meth := false, cls := ⟨#[]⟩, body := [(.ife (.cmp .eq (.bi .len [(.v 0)]) (.k (.int 0))) [(.ret (.k (.int 0)))] []), (.ret (.op2 .mod (.op2 .mod (.op2 .mul (.op2 .add (.ix (.v 0) (.op2 .mod (.v 1) (.bi .len [(.v 0)]))) (.op2 .mul (.v 1) (.v 1))) (.k (.int 48271))) (.v 2)) (.v 3)))] }
def F_l_base : Fn := { name := ⟨#[95, 108, 97, 119, 95, 98, 97, 115, 101]⟩, np := 1, names := [⟨#[95, 108, 97, 119, 95, 115, 99, 114, 105, 112, 116]⟩, ⟨#[95, 108, 97, 119, 95, 103, 114, 101, 97, 116]⟩], md := [.brw, .shr], ret := .shr, isIni := false, meth := false, cls := ⟨#[]⟩, body := [(.ife (.cmp .eq (.bi .len [(.v 0)]) (.k (.int 0))) [(.ret (.k (.int 0)))] []), (.set 1 (.op2 .mod (.ix (.v 0) (.k (.int 0))) (.op2 .pow (.k (.int 10)) (.k (.int 58))))), (.ret (.ix (.tup [(.k (.int 0)), (.v 1), (.op2 .sub (.k (.int 0)) (.v 1)), (.op2 .sub (.op2 .pow (.k (.int 10)) (.k (.int 58))) (.v 1))]) (.call 391 [(.v 0), (.k (.int 1)), (.k (.int 10007)), (.k (.int 4))])))] }
def F_l_whole : Fn := { name := ⟨#[95, 108, 97, 119, 95, 119, 104, 111, 108, 101]⟩, np := 1, names := [⟨#[95, 108, 97, 119, 95, 102, 111, 117, 110, 100]⟩], md := [.brw], ret := .shr, isIni := false, meth := false, cls := ⟨#[]⟩, body := [(.ret (.bop true [(.isi (.v 0) .int), (.nt (.isi (.v 0) .bool))]))] }
def F_l_event_3 : Fn := { name := ⟨#[95, 108, 97, 119, 95, 101, 118, 101, 110, 116]⟩, np := 1, names := [⟨#[95, 108, 97, 119, 95, 116, 114, 101, 101, 95, 104, 101, 114, 101]⟩, ⟨#[95, 108, 97, 119, 95, 104, 101, 97, 100]⟩], md := [.brw, .shr], ret := .shr, isIni := false, meth := false, cls := ⟨#[]⟩, body := [(.set 1 (.ix (.v 0) (.k (.int 0)))), (.ife (.cmp .eq (.v 1) (.k (.str ⟨#[116, 117, 114, 110]⟩))) [(.ret (.mk 28 [(.ix (.v 0) (.k (.int 1)))]))] []), (.ife (.cmp .eq (.v 1) (.k (.str ⟨#[112, 97, 99, 101]⟩))) [(.ret (.mk 27 [(.ix (.v 0) (.k (.int 1))), (.ix (.v 0) (.k (.int 2))), (.tup [(.ix (.v 0) (.k (.int 3))), (.ix (.v 0) (.k (.int 4)))])]))] []), (.ife (.cmp .eq (.v 1) (.k (.str ⟨#[115, 116, 97, 121]⟩))) [(.ret (.mk 23 [(.ix (.v 0) (.k (.int 1))), (.ix (.v 0) (.k (.int 2))), (.tup [(.ix (.v 0) (.k (.int 3))), (.ix (.v 0) (.k (.int 4)))])]))] []), (.ife (.cmp .eq (.v 1) (.k (.str ⟨#[111, 118, 101, 114]⟩))) [(.ret (.mk 24 [(.ix (.v 0) (.k (.int 1))), (.ix (.v 0) (.k (.int 2))), (.ix (.v 0) (.k (.int 3)))]))] []), (.ife (.cmp .eq (.v 1) (.k (.str ⟨#[117, 110, 100, 101, 114]⟩))) [(.ret (.mk 25 [(.ix (.v 0) (.k (.int 1))), (.ix (.v 0) (.k (.int 2))), (.ix (.v 0) (.k (.int 3)))]))] []), (.ret (.mk 26 [(.ix (.v 0) (.k (.int 1))), (.ix (.v 0) (.k (.int 2))), (.ix (.v 0) (.k (.int 3))), (.ix (.v 0) (.k (.int 4)))]))] }
def F_l_farthest_3 : Fn := { name := ⟨#[95, 108, 97, 119, 95, 102, 97, 114, 116, 104, 101, 115, 116]⟩, np := 1, names := [⟨#[95, 108, 97, 119, 95, 116, 114, 101, 101, 95, 104, 101, 114, 101]⟩], md := [.brw], ret := .shr, isIni := false, meth := false, cls := ⟨#[]⟩, body := [(.ife (.cmp .eq (.ix (.v 0) (.k (.int 0))) (.k (.str ⟨#[116, 117, 114, 110]⟩))) [(.ret (.op2 .add (.ix (.v 0) (.k (.int 1))) (.k (.int 1))))] []), (.ret (.ix (.v 0) (.k (.int 2))))] }
def F_l_turn : Fn := { name := ⟨#[95, 108, 97, 119, 95, 116, 117, 114, 110]⟩, np := 3, names := [⟨#[95, 108, 97, 119, 95, 115, 99, 114, 105, 112, 116]⟩, ⟨#[95, 108, 97, 119, 95, 107]⟩, ⟨#[95, 108, 97, 119, 95, 112, 114, 105, 109, 101]⟩, ⟨#[95, 108, 97, 119, 95, 102, 111, 117, 110, 100]⟩], md := [.brw, .brw, .brw, .shr], ret := .shr, isIni := false, meth := false, cls := ⟨#[]⟩, body := [(.set 3 (.op2 .sub (.call 391 [(.v 0), (.v 1), (.v 2), (.k (.int 24))]) (.k (.int 4)))), (.ife (.cmp .eq (.v 3) (.neg (.k (.int 4)))) [(.ret (.op2 .sub (.k (.int 0)) (.op2 .pow (.k (.int 10)) (.k (.int 40)))))] []), (.ife (.cmp .eq (.v 3) (.k (.int 16))) [(.ret (.op2 .pow (.k (.int 10)) (.k (.int 40))))] []), (.ife (.cmp .gt (.v 3) (.k (.int 16))) [(.ret (.ix (.tup [(.k (.int 0)), (.k (.int 11)), (.k (.int 10))]) (.op2 .sub (.v 3) (.k (.int 17)))))] []), (.ret (.v 3))] }
def F_l_tree : Fn := { name := ⟨#[95, 108, 97, 119, 95, 116, 114, 101, 101]⟩, np := 4, names := [⟨#[95, 108, 97, 119, 95, 115, 99, 114, 105, 112, 116]⟩, ⟨#[95, 108, 97, 119, 95, 107]⟩, ⟨#[95, 108, 97, 119, 95, 115, 111, 114, 116]⟩, ⟨#[95, 108, 97, 119, 95, 98, 97, 115, 101, 95, 104, 101, 114, 101]⟩, ⟨#[95, 108, 97, 119, 95, 102, 105, 114, 115, 116]⟩, ⟨#[95, 108, 97, 119, 95, 108, 97, 115, 116]⟩, ⟨#[95, 108, 97, 119, 95, 108, 111, 119]⟩, ⟨#[95, 108, 97, 119, 95, 109, 111, 114, 101]⟩], md := [.brw, .brw, .brw, .brw, .shr, .shr, .shr, .shr], ret := .shr, isIni := false, meth := false, cls := ⟨#[]⟩, body := [(.set 4 (.call 513 [(.v 0), (.v 1), (.k (.int 10007))])), (.set 5 (.call 513 [(.v 0), (.op2 .add (.v 1) (.k (.int 1))), (.k (.int 10009))])), (.ife (.cmp .eq (.call 391 [(.v 0), (.op2 .add (.v 1) (.k (.int 2))), (.k (.int 10037)), (.k (.int 3))]) (.k (.int 0))) [(.set 5 (.op2 .sub (.op2 .add (.v 4) (.call 391 [(.v 0), (.op2 .add (.v 1) (.k (.int 3))), (.k (.int 10039)), (.k (.int 4))])) (.k (.int 1))))] []), (.set 6 (.op2 .add (.v 3) (.call 391 [(.v 0), (.op2 .add (.v 1) (.k (.int 4))), (.k (.int 10061)), (.k (.int 9))]))), (.set 7 (.call 391 [(.v 0), (.op2 .add (.v 1) (.k (.int 5))), (.k (.int 10067)), (.k (.int 5))])), (.ife (.cmp .eq (.v 2) (.k (.int 0))) [(.ret (.tup [(.k (.str ⟨#[111, 118, 101, 114]⟩)), (.v 4), (.v 5), (.v 6)]))] []), (.ife (.cmp .eq (.v 2) (.k (.int 1))) [(.ret (.tup [(.k (.str ⟨#[117, 110, 100, 101, 114]⟩)), (.v 4), (.v 5), (.v 6)]))] []), (.ife (.cmp .eq (.v 2) (.k (.int 2))) [(.ret (.tup [(.k (.str ⟨#[114, 111, 115, 101]⟩)), (.v 4), (.v 5), (.v 6), (.op2 .sub (.op2 .add (.v 6) (.v 7)) (.k (.int 2)))]))] []), (.ife (.cmp .eq (.v 2) (.k (.int 3))) [(.ret (.tup [(.k (.str ⟨#[116, 117, 114, 110]⟩)), (.v 4)]))] []), (.ife (.cmp .eq (.v 2) (.k (.int 4))) [(.ret (.tup [(.k (.str ⟨#[115, 116, 97, 121]⟩)), (.v 4), (.v 5), (.v 6), (.op2 .add (.v 6) (.v 7))]))] []), (.ret (.tup [(.k (.str ⟨#[112, 97, 99, 101]⟩)), (.v 4), (.v 5), (.op2 .sub (.op2 .sub (.v 6) (.v 3)) (.v 7)), (.op2 .sub (.v 6) (.v 3))]))] }
def F_l_good_3 : Fn := { name := ⟨#[95, 108, 97, 119, 95, 103, 111, 111, 100]⟩, np := 1, names := [⟨#[95, 108, 97, 119, 95, 116, 114, 101, 101, 95, 104, 101, 114, 101]⟩], md := [.brw], ret := .shr, isIni := false, meth := false, cls := ⟨#[]⟩, body := [(.ife (.cmp .eq (.ix (.v 0) (.k (.int 0))) (.k (.str ⟨#[116, 117, 114, 110]⟩))) [(.ret (.ch .le .le (.k (.int 1)) (.ix (.v 0) (.k (.int 1))) (.k (.int 10))))] []), (.ife (.bop true [(.cmp .eq (.ix (.v 0) (.k (.int 0))) (.k (.str ⟨#[114, 111, 115, 101]⟩))), (.cmp .ge (.ix (.v 0) (.k (.int 3))) (.ix (.v 0) (.k (.int 4))))]) [(.ret (.k (.bl false)))] []), (.ret (.ch3 .le .le .le (.k (.int 0)) (.ix (.v 0) (.k (.int 1))) (.ix (.v 0) (.k (.int 2))) (.k (.int 11))))] }
def F_l_asked_of_4 : Fn := { name := ⟨#[95, 108, 97, 119, 95, 97, 115, 107, 101, 100, 95, 111, 102]⟩, np := 1, names := [⟨#[95, 108, 97, 119, 95, 116, 114, 101, 101, 95, 104, 101, 114, 101]⟩, ⟨#[95, 108, 97, 119, 95, 99, 97, 117, 103, 104, 116]⟩, ⟨#[95, 108, 97, 119, 95, 101, 118, 101, 110, 116, 95, 104, 101, 114, 101]⟩, ⟨#[95, 108, 97, 119, 95, 116, 111, 108, 100]⟩, ⟨#[101]⟩], md := [.brw, .shr, .shr, .shr, .shr], ret := .shr, isIni := false, meth := false, cls := ⟨#[]⟩, body := [(.set 1 (.tup [])), (.set 2 (.k .non)), (.tr [(.set 2 (.call 511 [(.v 0)]))] [(9, some 4, [(.set 1 (.tup [(.isi (.v 4) (.cls 0)), (.isi (.v 4) .valueError), (.isiT (.v 4) [(.cls 16), (.cls 17), (.cls 4)])]))])]), (.ife (.nt (.call 515 [(.v 0)])) [(.ret (.cmp .eq (.v 1) (.tup [(.k (.bl true)), (.k (.bl true)), (.k (.bl false))])))] []), (.ife (.bop false [(.cmp .ne (.v 1) (.tup [])), (.cmp .isn (.v 2) (.k .non))]) [(.ret (.k (.bl false)))] []), (.set 3 (.mth (.v 2) 35 [])), (.ret (.bop true [(.call 3 [(.v 3)]), (.cmp .eq (.v 3) (.call 512 [(.v 0)]))]))] }
def F_law_39 : Fn := { name := ⟨#[108, 97, 119]⟩, np := 1, names := [⟨#[95, 108, 97, 119, 95, 115, 99, 114, 105, 112, 116]⟩, ⟨#[95, 108, 97, 119, 95, 98, 97, 115, 101, 95, 104, 101, 114, 101]⟩, ⟨#[95, 108, 97, 119, 95, 107]⟩], md := [.brw, .shr, .shr], ret := .shr, isIni := false, meth := false, cls := ⟨#[]⟩, body := [(.set 1 (.call 392 [(.v 0)])), (.for' (.one 2) (.rng [(.op2 .add (.k (.int 6)) (.op2 .fdiv (.bi .min2 [(.bi .len [(.v 0)]), (.k (.int 60))]) (.k (.int 4))))]) [(.ife (.nt (.call 516 [(.call 514 [(.v 0), (.op2 .add (.k (.int 40)) (.op2 .mul (.k (.int 7)) (.v 2))), (.op2 .mod (.v 2) (.k (.int 6))), (.v 1)])])) [(.ret (.k (.bl false)))] [])]), (.ret (.k (.bl true)))] }
def C_GazeError : Cls := { name := ⟨#[71, 97, 122, 101, 69, 114, 114, 111, 114]⟩, exc := true, val := false, sup := [0], own := [], mths := [], ini := none, flds := [] }
def C_NoClaim : Cls := { name := ⟨#[78, 111, 67, 108, 97, 105, 109]⟩, exc := true, val := false, sup := [16, 0], own := [], mths := [], ini := none, flds := [] }
def C_NoEvent : Cls := { name := ⟨#[78, 111, 69, 118, 101, 110, 116]⟩, exc := true, val := false, sup := [9, 0], own := [], mths := [], ini := none, flds := [] }
def C_TooMany : Cls := { name := ⟨#[84, 111, 111, 77, 97, 110, 121]⟩, exc := true, val := false, sup := [17, 0], own := [], mths := [], ini := none, flds := [] }
def C_NoRule : Cls := { name := ⟨#[78, 111, 82, 117, 108, 101]⟩, exc := true, val := false, sup := [4, 0], own := [], mths := [], ini := none, flds := [] }
def C_Event : Cls := { name := ⟨#[69, 118, 101, 110, 116]⟩, exc := false, val := true, sup := [21], own := [], mths := [(35, 351)], ini := none, flds := [] }
def C_Spanned : Cls := { name := ⟨#[83, 112, 97, 110, 110, 101, 100]⟩, exc := false, val := true, sup := [22, 21], own := [], mths := [(35, 357)], ini := some 356, flds := [29, 30] }
def C_Stayed : Cls := { name := ⟨#[83, 116, 97, 121, 101, 100]⟩, exc := false, val := true, sup := [23, 22, 21], own := [], mths := [(35, 357)], ini := some 360, flds := [31, 29, 30] }
def C_Over : Cls := { name := ⟨#[79, 118, 101, 114]⟩, exc := false, val := true, sup := [24, 22, 21], own := [], mths := [(35, 357)], ini := some 365, flds := [33, 29, 30] }
def C_Under : Cls := { name := ⟨#[85, 110, 100, 101, 114]⟩, exc := false, val := true, sup := [25, 22, 21], own := [], mths := [(35, 357)], ini := some 370, flds := [33, 29, 30] }
def C_Rose : Cls := { name := ⟨#[82, 111, 115, 101]⟩, exc := false, val := true, sup := [26, 22, 21], own := [], mths := [(35, 357)], ini := some 375, flds := [8, 9, 29, 30] }
def C_Paced : Cls := { name := ⟨#[80, 97, 99, 101, 100]⟩, exc := false, val := true, sup := [27, 22, 21], own := [], mths := [(35, 357)], ini := some 380, flds := [31, 29, 30] }
def C_Turned : Cls := { name := ⟨#[84, 117, 114, 110, 101, 100]⟩, exc := false, val := true, sup := [28, 21], own := [], mths := [(35, 387)], ini := some 385, flds := [34] }
def fnA : List (Nat × Fn) := [(351, F_Event_far), (356, F_Spanned_init), (357, F_Spanned_far), (360, F_Stayed_init), (365, F_Over_init), (370, F_Under_init), (375, F_Rose_init), (380, F_Paced_init), (385, F_Turned_init), (387, F_Turned_far), (391, F_l_draw), (392, F_l_base), (3, F_l_whole), (511, F_l_event_3), (512, F_l_farthest_3), (513, F_l_turn), (514, F_l_tree), (515, F_l_good_3), (516, F_l_asked_of_4), (517, F_law_39)]
def clA : List (Nat × Cls) := [(0, C_GazeError), (16, C_NoClaim), (9, C_NoEvent), (17, C_TooMany), (4, C_NoRule), (21, C_Event), (22, C_Spanned), (23, C_Stayed), (24, C_Over), (25, C_Under), (26, C_Rose), (27, C_Paced), (28, C_Turned)]
def nmT : List PySem.Str := [⟨#[107, 110, 111, 116, 115]⟩, ⟨#[102, 111, 114, 116, 104]⟩, ⟨#[98, 97, 99, 107]⟩, ⟨#[100, 114, 105, 102, 116]⟩, ⟨#[115, 105, 110, 99, 101]⟩, ⟨#[98, 97, 114, 101]⟩, ⟨#[115, 108, 97, 99, 107]⟩, ⟨#[109, 97, 110, 121]⟩, ⟨#[108, 111, 119]⟩, ⟨#[104, 105, 103, 104]⟩, ⟨#[115, 116, 114, 101, 116, 99, 104, 101, 115]⟩, ⟨#[103, 97, 117, 103, 101]⟩, ⟨#[101, 114, 114, 111, 114]⟩, ⟨#[118, 97, 108, 117, 101, 95, 111, 102]⟩, ⟨#[101, 121, 101, 115]⟩, ⟨#[116, 117, 114, 110, 115]⟩, ⟨#[117, 112]⟩, ⟨#[100, 111, 119, 110]⟩, ⟨#[109, 111, 115, 116]⟩, ⟨#[116, 111, 108, 100]⟩, ⟨#[104, 97, 115]⟩, ⟨#[116, 101, 108, 108]⟩, ⟨#[99, 111, 112, 105, 101, 100]⟩, ⟨#[104, 117, 115, 104]⟩, ⟨#[119, 111, 114, 100]⟩, ⟨#[107, 101, 101, 112, 105, 110, 103]⟩, ⟨#[97, 108, 108, 111, 119, 105, 110, 103]⟩, ⟨#[116, 101, 108, 108, 105, 110, 103, 115]⟩, ⟨#[116, 119, 105, 110]⟩, ⟨#[102, 105, 114, 115, 116]⟩, ⟨#[108, 97, 115, 116]⟩, ⟨#[115, 116, 114, 101, 116, 99, 104]⟩, ⟨#[115, 112, 111, 107, 101, 110]⟩, ⟨#[115, 105, 108, 108]⟩, ⟨#[116, 117, 114, 110]⟩, ⟨#[102, 97, 114]⟩, ⟨#[104, 101, 108, 100]⟩, ⟨#[119, 97, 121, 115]⟩, ⟨#[98, 114, 101, 97, 107, 115]⟩, ⟨#[115, 105, 122, 101, 115]⟩, ⟨#[111, 110, 101]⟩, ⟨#[111, 116, 104, 101, 114]⟩, ⟨#[114, 111, 119]⟩, ⟨#[116, 101, 120, 116]⟩, ⟨#[98, 111, 97, 114, 100]⟩, ⟨#[114, 117, 108, 101, 115]⟩, ⟨#[114, 117, 108, 101, 100]⟩, ⟨#[100, 111, 110, 101]⟩, ⟨#[97, 110, 115, 119, 101, 114]⟩, ⟨#[115, 97, 121]⟩]
def G : Prog := { fn := fun i => fnA.lookup i, cls := fun i => clA.lookup i, nm := nmF nmT, ids := [0, 16, 9, 17, 4, 21, 22, 23, 24, 25, 26, 27, 28] }
def lawId : Nat := 517
theorem om_Event_far {fs : List (Nat × Val)} (h : fget 35 fs = none) : mthOf G (.obj 21 fs) 35 = some 351 := by
  have e1 : clsV G 21 = true := by decide +kernel
  have e2 : fnOf G 21 35 = some 351 := by decide +kernel
  have e3 : 35 % 1000 = 35 := by decide
  unfold mthOf
  simp only [fieldsO, e1, e2, e3, h, if_true]
theorem ov_Spanned_first : fldV G 22 29 = true := by decide +kernel
theorem ov_Spanned_last : fldV G 22 30 = true := by decide +kernel
theorem om_Spanned_far {fs : List (Nat × Val)} (h : fget 35 fs = none) : mthOf G (.obj 22 fs) 35 = some 357 := by
  have e1 : clsV G 22 = true := by decide +kernel
  have e2 : fnOf G 22 35 = some 357 := by decide +kernel
  have e3 : 35 % 1000 = 35 := by decide
  unfold mthOf
  simp only [fieldsO, e1, e2, e3, h, if_true]
theorem ok_Spanned {wf : Nat} {cl : Nat → List Val → Store → R Val} {ini : Nat → Nat → List (Nat × Val) → List Val → Store → R (List (Nat × Val))} {vs : List Val} {S S1 : Store} {fs : List (Nat × Val)} (h : ini 356 22 [] vs S = .ok fs S1) : mkObj ⟨G, wf, cl, ini⟩ 22 vs S = .ok (.obj 22 fs) S1 := by
  have hC : G.cls 22 = some C_Spanned := by rfl
  have hi : C_Spanned.ini = some 356 := rfl
  have hv : C_Spanned.val = true ∧ C_Spanned.exc = false := ⟨rfl, rfl⟩
  simp only [mkObj, hC, hi, hv, h, and_self, if_true]
theorem ex_Spanned {wf : Nat} {cl : Nat → List Val → Store → R Val} {ini : Nat → Nat → List (Nat × Val) → List Val → Store → R (List (Nat × Val))} {vs : List Val} {S S1 : Store} {e : Nat} (h : ini 356 22 [] vs S = .exn e S1) : mkObj ⟨G, wf, cl, ini⟩ 22 vs S = .exn e S1 := by
  have hC : G.cls 22 = some C_Spanned := by rfl
  have hi : C_Spanned.ini = some 356 := rfl
  simp only [mkObj, hC, hi, h]
theorem ov_Stayed_stretch : fldV G 23 31 = true := by decide +kernel
theorem ov_Stayed_first : fldV G 23 29 = true := by decide +kernel
theorem ov_Stayed_last : fldV G 23 30 = true := by decide +kernel
theorem om_Stayed_far {fs : List (Nat × Val)} (h : fget 35 fs = none) : mthOf G (.obj 23 fs) 35 = some 357 := by
  have e1 : clsV G 23 = true := by decide +kernel
  have e2 : fnOf G 23 35 = some 357 := by decide +kernel
  have e3 : 35 % 1000 = 35 := by decide
  unfold mthOf
  simp only [fieldsO, e1, e2, e3, h, if_true]
theorem ok_Stayed {wf : Nat} {cl : Nat → List Val → Store → R Val} {ini : Nat → Nat → List (Nat × Val) → List Val → Store → R (List (Nat × Val))} {vs : List Val} {S S1 : Store} {fs : List (Nat × Val)} (h : ini 360 23 [] vs S = .ok fs S1) : mkObj ⟨G, wf, cl, ini⟩ 23 vs S = .ok (.obj 23 fs) S1 := by
  have hC : G.cls 23 = some C_Stayed := by rfl
  have hi : C_Stayed.ini = some 360 := rfl
  have hv : C_Stayed.val = true ∧ C_Stayed.exc = false := ⟨rfl, rfl⟩
  simp only [mkObj, hC, hi, hv, h, and_self, if_true]
theorem ex_Stayed {wf : Nat} {cl : Nat → List Val → Store → R Val} {ini : Nat → Nat → List (Nat × Val) → List Val → Store → R (List (Nat × Val))} {vs : List Val} {S S1 : Store} {e : Nat} (h : ini 360 23 [] vs S = .exn e S1) : mkObj ⟨G, wf, cl, ini⟩ 23 vs S = .exn e S1 := by
  have hC : G.cls 23 = some C_Stayed := by rfl
  have hi : C_Stayed.ini = some 360 := rfl
  simp only [mkObj, hC, hi, h]
theorem ov_Over_sill : fldV G 24 33 = true := by decide +kernel
theorem ov_Over_first : fldV G 24 29 = true := by decide +kernel
theorem ov_Over_last : fldV G 24 30 = true := by decide +kernel
theorem om_Over_far {fs : List (Nat × Val)} (h : fget 35 fs = none) : mthOf G (.obj 24 fs) 35 = some 357 := by
  have e1 : clsV G 24 = true := by decide +kernel
  have e2 : fnOf G 24 35 = some 357 := by decide +kernel
  have e3 : 35 % 1000 = 35 := by decide
  unfold mthOf
  simp only [fieldsO, e1, e2, e3, h, if_true]
theorem ok_Over {wf : Nat} {cl : Nat → List Val → Store → R Val} {ini : Nat → Nat → List (Nat × Val) → List Val → Store → R (List (Nat × Val))} {vs : List Val} {S S1 : Store} {fs : List (Nat × Val)} (h : ini 365 24 [] vs S = .ok fs S1) : mkObj ⟨G, wf, cl, ini⟩ 24 vs S = .ok (.obj 24 fs) S1 := by
  have hC : G.cls 24 = some C_Over := by rfl
  have hi : C_Over.ini = some 365 := rfl
  have hv : C_Over.val = true ∧ C_Over.exc = false := ⟨rfl, rfl⟩
  simp only [mkObj, hC, hi, hv, h, and_self, if_true]
theorem ex_Over {wf : Nat} {cl : Nat → List Val → Store → R Val} {ini : Nat → Nat → List (Nat × Val) → List Val → Store → R (List (Nat × Val))} {vs : List Val} {S S1 : Store} {e : Nat} (h : ini 365 24 [] vs S = .exn e S1) : mkObj ⟨G, wf, cl, ini⟩ 24 vs S = .exn e S1 := by
  have hC : G.cls 24 = some C_Over := by rfl
  have hi : C_Over.ini = some 365 := rfl
  simp only [mkObj, hC, hi, h]
theorem ov_Under_sill : fldV G 25 33 = true := by decide +kernel
theorem ov_Under_first : fldV G 25 29 = true := by decide +kernel
theorem ov_Under_last : fldV G 25 30 = true := by decide +kernel
theorem om_Under_far {fs : List (Nat × Val)} (h : fget 35 fs = none) : mthOf G (.obj 25 fs) 35 = some 357 := by
  have e1 : clsV G 25 = true := by decide +kernel
  have e2 : fnOf G 25 35 = some 357 := by decide +kernel
  have e3 : 35 % 1000 = 35 := by decide
  unfold mthOf
  simp only [fieldsO, e1, e2, e3, h, if_true]
theorem ok_Under {wf : Nat} {cl : Nat → List Val → Store → R Val} {ini : Nat → Nat → List (Nat × Val) → List Val → Store → R (List (Nat × Val))} {vs : List Val} {S S1 : Store} {fs : List (Nat × Val)} (h : ini 370 25 [] vs S = .ok fs S1) : mkObj ⟨G, wf, cl, ini⟩ 25 vs S = .ok (.obj 25 fs) S1 := by
  have hC : G.cls 25 = some C_Under := by rfl
  have hi : C_Under.ini = some 370 := rfl
  have hv : C_Under.val = true ∧ C_Under.exc = false := ⟨rfl, rfl⟩
  simp only [mkObj, hC, hi, hv, h, and_self, if_true]
theorem ex_Under {wf : Nat} {cl : Nat → List Val → Store → R Val} {ini : Nat → Nat → List (Nat × Val) → List Val → Store → R (List (Nat × Val))} {vs : List Val} {S S1 : Store} {e : Nat} (h : ini 370 25 [] vs S = .exn e S1) : mkObj ⟨G, wf, cl, ini⟩ 25 vs S = .exn e S1 := by
  have hC : G.cls 25 = some C_Under := by rfl
  have hi : C_Under.ini = some 370 := rfl
  simp only [mkObj, hC, hi, h]
theorem ov_Rose_low : fldV G 26 8 = true := by decide +kernel
theorem ov_Rose_high : fldV G 26 9 = true := by decide +kernel
theorem ov_Rose_first : fldV G 26 29 = true := by decide +kernel
theorem ov_Rose_last : fldV G 26 30 = true := by decide +kernel
theorem om_Rose_far {fs : List (Nat × Val)} (h : fget 35 fs = none) : mthOf G (.obj 26 fs) 35 = some 357 := by
  have e1 : clsV G 26 = true := by decide +kernel
  have e2 : fnOf G 26 35 = some 357 := by decide +kernel
  have e3 : 35 % 1000 = 35 := by decide
  unfold mthOf
  simp only [fieldsO, e1, e2, e3, h, if_true]
theorem ok_Rose {wf : Nat} {cl : Nat → List Val → Store → R Val} {ini : Nat → Nat → List (Nat × Val) → List Val → Store → R (List (Nat × Val))} {vs : List Val} {S S1 : Store} {fs : List (Nat × Val)} (h : ini 375 26 [] vs S = .ok fs S1) : mkObj ⟨G, wf, cl, ini⟩ 26 vs S = .ok (.obj 26 fs) S1 := by
  have hC : G.cls 26 = some C_Rose := by rfl
  have hi : C_Rose.ini = some 375 := rfl
  have hv : C_Rose.val = true ∧ C_Rose.exc = false := ⟨rfl, rfl⟩
  simp only [mkObj, hC, hi, hv, h, and_self, if_true]
theorem ex_Rose {wf : Nat} {cl : Nat → List Val → Store → R Val} {ini : Nat → Nat → List (Nat × Val) → List Val → Store → R (List (Nat × Val))} {vs : List Val} {S S1 : Store} {e : Nat} (h : ini 375 26 [] vs S = .exn e S1) : mkObj ⟨G, wf, cl, ini⟩ 26 vs S = .exn e S1 := by
  have hC : G.cls 26 = some C_Rose := by rfl
  have hi : C_Rose.ini = some 375 := rfl
  simp only [mkObj, hC, hi, h]
theorem ov_Paced_stretch : fldV G 27 31 = true := by decide +kernel
theorem ov_Paced_first : fldV G 27 29 = true := by decide +kernel
theorem ov_Paced_last : fldV G 27 30 = true := by decide +kernel
theorem om_Paced_far {fs : List (Nat × Val)} (h : fget 35 fs = none) : mthOf G (.obj 27 fs) 35 = some 357 := by
  have e1 : clsV G 27 = true := by decide +kernel
  have e2 : fnOf G 27 35 = some 357 := by decide +kernel
  have e3 : 35 % 1000 = 35 := by decide
  unfold mthOf
  simp only [fieldsO, e1, e2, e3, h, if_true]
theorem ok_Paced {wf : Nat} {cl : Nat → List Val → Store → R Val} {ini : Nat → Nat → List (Nat × Val) → List Val → Store → R (List (Nat × Val))} {vs : List Val} {S S1 : Store} {fs : List (Nat × Val)} (h : ini 380 27 [] vs S = .ok fs S1) : mkObj ⟨G, wf, cl, ini⟩ 27 vs S = .ok (.obj 27 fs) S1 := by
  have hC : G.cls 27 = some C_Paced := by rfl
  have hi : C_Paced.ini = some 380 := rfl
  have hv : C_Paced.val = true ∧ C_Paced.exc = false := ⟨rfl, rfl⟩
  simp only [mkObj, hC, hi, hv, h, and_self, if_true]
theorem ex_Paced {wf : Nat} {cl : Nat → List Val → Store → R Val} {ini : Nat → Nat → List (Nat × Val) → List Val → Store → R (List (Nat × Val))} {vs : List Val} {S S1 : Store} {e : Nat} (h : ini 380 27 [] vs S = .exn e S1) : mkObj ⟨G, wf, cl, ini⟩ 27 vs S = .exn e S1 := by
  have hC : G.cls 27 = some C_Paced := by rfl
  have hi : C_Paced.ini = some 380 := rfl
  simp only [mkObj, hC, hi, h]
theorem ov_Turned_turn : fldV G 28 34 = true := by decide +kernel
theorem om_Turned_far {fs : List (Nat × Val)} (h : fget 35 fs = none) : mthOf G (.obj 28 fs) 35 = some 387 := by
  have e1 : clsV G 28 = true := by decide +kernel
  have e2 : fnOf G 28 35 = some 387 := by decide +kernel
  have e3 : 35 % 1000 = 35 := by decide
  unfold mthOf
  simp only [fieldsO, e1, e2, e3, h, if_true]
theorem ok_Turned {wf : Nat} {cl : Nat → List Val → Store → R Val} {ini : Nat → Nat → List (Nat × Val) → List Val → Store → R (List (Nat × Val))} {vs : List Val} {S S1 : Store} {fs : List (Nat × Val)} (h : ini 385 28 [] vs S = .ok fs S1) : mkObj ⟨G, wf, cl, ini⟩ 28 vs S = .ok (.obj 28 fs) S1 := by
  have hC : G.cls 28 = some C_Turned := by rfl
  have hi : C_Turned.ini = some 385 := rfl
  have hv : C_Turned.val = true ∧ C_Turned.exc = false := ⟨rfl, rfl⟩
  simp only [mkObj, hC, hi, hv, h, and_self, if_true]
theorem ex_Turned {wf : Nat} {cl : Nat → List Val → Store → R Val} {ini : Nat → Nat → List (Nat × Val) → List Val → Store → R (List (Nat × Val))} {vs : List Val} {S S1 : Store} {e : Nat} (h : ini 385 28 [] vs S = .exn e S1) : mkObj ⟨G, wf, cl, ini⟩ 28 vs S = .exn e S1 := by
  have hC : G.cls 28 = some C_Turned := by rfl
  have hi : C_Turned.ini = some 385 := rfl
  simp only [mkObj, hC, hi, h]
end Pv
end

section
set_option Elab.async false
set_option linter.all false
set_option maxRecDepth 100000
set_option maxHeartbeats 0
namespace Pv
open PySem PySem.Spec PyProof.Rows L2
def top (i : Nat) : Stmt := PySem.Challenge.pw_gaze_k63_what_is_no_event.main.body.getD i (.Pass ⟨0, 0, 0, 0⟩)
def t_Event_far : Txt := ⟨defArgs (inClass (top 10) 1), defBody (inClass (top 10) 1), defScope (inClass (top 10) 1)⟩
def t_Spanned_init : Txt := ⟨defArgs (inClass (top 11) 0), defBody (inClass (top 11) 0), defScope (inClass (top 11) 0)⟩
def t_Spanned_far : Txt := ⟨defArgs (inClass (top 11) 1), defBody (inClass (top 11) 1), defScope (inClass (top 11) 1)⟩
def t_Stayed_init : Txt := ⟨defArgs (inClass (top 12) 0), defBody (inClass (top 12) 0), defScope (inClass (top 12) 0)⟩
def t_Over_init : Txt := ⟨defArgs (inClass (top 13) 0), defBody (inClass (top 13) 0), defScope (inClass (top 13) 0)⟩
def t_Under_init : Txt := ⟨defArgs (inClass (top 14) 0), defBody (inClass (top 14) 0), defScope (inClass (top 14) 0)⟩
def t_Rose_init : Txt := ⟨defArgs (inClass (top 15) 0), defBody (inClass (top 15) 0), defScope (inClass (top 15) 0)⟩
def t_Paced_init : Txt := ⟨defArgs (inClass (top 16) 0), defBody (inClass (top 16) 0), defScope (inClass (top 16) 0)⟩
def t_Turned_init : Txt := ⟨defArgs (inClass (top 17) 0), defBody (inClass (top 17) 0), defScope (inClass (top 17) 0)⟩
def t_Turned_far : Txt := ⟨defArgs (inClass (top 17) 2), defBody (inClass (top 17) 2), defScope (inClass (top 17) 2)⟩
def t_l_draw : Txt := ⟨defArgs (top 19), defBody (top 19), defScope (top 19)⟩
def t_l_base : Txt := ⟨defArgs (top 20), defBody (top 20), defScope (top 20)⟩
def t_l_whole : Txt := ⟨defArgs (top 21), defBody (top 21), defScope (top 21)⟩
def t_l_event_3 : Txt := ⟨defArgs (top 22), defBody (top 22), defScope (top 22)⟩
def t_l_farthest_3 : Txt := ⟨defArgs (top 23), defBody (top 23), defScope (top 23)⟩
def t_l_turn : Txt := ⟨defArgs (top 24), defBody (top 24), defScope (top 24)⟩
def t_l_tree : Txt := ⟨defArgs (top 25), defBody (top 25), defScope (top 25)⟩
def t_l_good_3 : Txt := ⟨defArgs (top 26), defBody (top 26), defScope (top 26)⟩
def t_l_asked_of_4 : Txt := ⟨defArgs (top 27), defBody (top 27), defScope (top 27)⟩
def t_law_39 : Txt := ⟨defArgs (top 28), defBody (top 28), defScope (top 28)⟩
def freeN : List PySem.Str := [⟨#[108, 101, 110]⟩, ⟨#[109, 105, 110]⟩, ⟨#[108, 105, 115, 116]⟩, ⟨#[115, 116, 114]⟩, ⟨#[105, 110, 116]⟩, ⟨#[105, 115, 105, 110, 115, 116, 97, 110, 99, 101]⟩, ⟨#[98, 111, 111, 108]⟩, ⟨#[114, 97, 110, 103, 101]⟩, ⟨#[86, 97, 108, 117, 101, 69, 114, 114, 111, 114]⟩]
def consN : List (PySem.Str × Cn) := [(⟨#[76, 65, 84, 69, 83, 84]⟩, .int 11)]
def dl : List He.DefD := [mkD F_Event_far t_Event_far, mkD F_Spanned_init t_Spanned_init, mkD F_Spanned_far t_Spanned_far, mkD F_Stayed_init t_Stayed_init, mkD F_Over_init t_Over_init, mkD F_Under_init t_Under_init, mkD F_Rose_init t_Rose_init, mkD F_Paced_init t_Paced_init, mkD F_Turned_init t_Turned_init, mkD F_Turned_far t_Turned_far, mkD F_l_draw t_l_draw, mkD F_l_base t_l_base, mkD F_l_whole t_l_whole, mkD F_l_event_3 t_l_event_3, mkD F_l_farthest_3 t_l_farthest_3, mkD F_l_turn t_l_turn, mkD F_l_tree t_l_tree, mkD F_l_good_3 t_l_good_3, mkD F_l_asked_of_4 t_l_asked_of_4, mkD F_law_39 t_law_39]
theorem tx_Event_far : txtB G freeN consN F_Event_far t_Event_far = true := by decide +kernel
theorem sc_Event_far : scopeB F_Event_far t_Event_far.scope = true := by decide +kernel
theorem bi_Event_far : BindA F_Event_far t_Event_far := fun _ _ _ _ _ _ us hl => match us, hl with
  | [_], _ => rfl
theorem tx_Spanned_init : txtB G freeN consN F_Spanned_init t_Spanned_init = true := by decide +kernel
theorem sc_Spanned_init : scopeB F_Spanned_init t_Spanned_init.scope = true := by decide +kernel
theorem bi_Spanned_init : BindA F_Spanned_init t_Spanned_init := fun _ _ _ _ _ _ us hl => match us, hl with
  | [_, _, _], _ => rfl
theorem tx_Spanned_far : txtB G freeN consN F_Spanned_far t_Spanned_far = true := by decide +kernel
theorem sc_Spanned_far : scopeB F_Spanned_far t_Spanned_far.scope = true := by decide +kernel
theorem bi_Spanned_far : BindA F_Spanned_far t_Spanned_far := fun _ _ _ _ _ _ us hl => match us, hl with
  | [_], _ => rfl
theorem tx_Stayed_init : txtB G freeN consN F_Stayed_init t_Stayed_init = true := by decide +kernel
theorem sc_Stayed_init : scopeB F_Stayed_init t_Stayed_init.scope = true := by decide +kernel
theorem bi_Stayed_init : BindA F_Stayed_init t_Stayed_init := fun _ _ _ _ _ _ us hl => match us, hl with
  | [_, _, _, _], _ => rfl
theorem tx_Over_init : txtB G freeN consN F_Over_init t_Over_init = true := by decide +kernel
theorem sc_Over_init : scopeB F_Over_init t_Over_init.scope = true := by decide +kernel
theorem bi_Over_init : BindA F_Over_init t_Over_init := fun _ _ _ _ _ _ us hl => match us, hl with
  | [_, _, _, _], _ => rfl
theorem tx_Under_init : txtB G freeN consN F_Under_init t_Under_init = true := by decide +kernel
theorem sc_Under_init : scopeB F_Under_init t_Under_init.scope = true := by decide +kernel
theorem bi_Under_init : BindA F_Under_init t_Under_init := fun _ _ _ _ _ _ us hl => match us, hl with
  | [_, _, _, _], _ => rfl
theorem tx_Rose_init : txtB G freeN consN F_Rose_init t_Rose_init = true := by decide +kernel
theorem sc_Rose_init : scopeB F_Rose_init t_Rose_init.scope = true := by decide +kernel
theorem bi_Rose_init : BindA F_Rose_init t_Rose_init := fun _ _ _ _ _ _ us hl => match us, hl with
  | [_, _, _, _, _], _ => rfl
theorem tx_Paced_init : txtB G freeN consN F_Paced_init t_Paced_init = true := by decide +kernel
theorem sc_Paced_init : scopeB F_Paced_init t_Paced_init.scope = true := by decide +kernel
theorem bi_Paced_init : BindA F_Paced_init t_Paced_init := fun _ _ _ _ _ _ us hl => match us, hl with
  | [_, _, _, _], _ => rfl
theorem tx_Turned_init : txtB G freeN consN F_Turned_init t_Turned_init = true := by decide +kernel
theorem sc_Turned_init : scopeB F_Turned_init t_Turned_init.scope = true := by decide +kernel
theorem bi_Turned_init : BindA F_Turned_init t_Turned_init := fun _ _ _ _ _ _ us hl => match us, hl with
  | [_, _], _ => rfl
theorem tx_Turned_far : txtB G freeN consN F_Turned_far t_Turned_far = true := by decide +kernel
theorem sc_Turned_far : scopeB F_Turned_far t_Turned_far.scope = true := by decide +kernel
theorem bi_Turned_far : BindA F_Turned_far t_Turned_far := fun _ _ _ _ _ _ us hl => match us, hl with
  | [_], _ => rfl
theorem tx_l_draw : txtB G freeN consN F_l_draw t_l_draw = true := by decide +kernel
theorem sc_l_draw : scopeB F_l_draw t_l_draw.scope = true := by decide +kernel
theorem bi_l_draw : BindA F_l_draw t_l_draw := fun _ _ _ _ _ _ us hl => match us, hl with
  | [_, _, _, _], _ => rfl
theorem tx_l_base : txtB G freeN consN F_l_base t_l_base = true := by decide +kernel
theorem sc_l_base : scopeB F_l_base t_l_base.scope = true := by decide +kernel
theorem bi_l_base : BindA F_l_base t_l_base := fun _ _ _ _ _ _ us hl => match us, hl with
  | [_], _ => rfl
theorem tx_l_whole : txtB G freeN consN F_l_whole t_l_whole = true := by decide +kernel
theorem sc_l_whole : scopeB F_l_whole t_l_whole.scope = true := by decide +kernel
theorem bi_l_whole : BindA F_l_whole t_l_whole := fun _ _ _ _ _ _ us hl => match us, hl with
  | [_], _ => rfl
theorem tx_l_event_3 : txtB G freeN consN F_l_event_3 t_l_event_3 = true := by decide +kernel
theorem sc_l_event_3 : scopeB F_l_event_3 t_l_event_3.scope = true := by decide +kernel
theorem bi_l_event_3 : BindA F_l_event_3 t_l_event_3 := fun _ _ _ _ _ _ us hl => match us, hl with
  | [_], _ => rfl
theorem tx_l_farthest_3 : txtB G freeN consN F_l_farthest_3 t_l_farthest_3 = true := by decide +kernel
theorem sc_l_farthest_3 : scopeB F_l_farthest_3 t_l_farthest_3.scope = true := by decide +kernel
theorem bi_l_farthest_3 : BindA F_l_farthest_3 t_l_farthest_3 := fun _ _ _ _ _ _ us hl => match us, hl with
  | [_], _ => rfl
theorem tx_l_turn : txtB G freeN consN F_l_turn t_l_turn = true := by decide +kernel
theorem sc_l_turn : scopeB F_l_turn t_l_turn.scope = true := by decide +kernel
theorem bi_l_turn : BindA F_l_turn t_l_turn := fun _ _ _ _ _ _ us hl => match us, hl with
  | [_, _, _], _ => rfl
theorem tx_l_tree : txtB G freeN consN F_l_tree t_l_tree = true := by decide +kernel
theorem sc_l_tree : scopeB F_l_tree t_l_tree.scope = true := by decide +kernel
theorem bi_l_tree : BindA F_l_tree t_l_tree := fun _ _ _ _ _ _ us hl => match us, hl with
  | [_, _, _, _], _ => rfl
theorem tx_l_good_3 : txtB G freeN consN F_l_good_3 t_l_good_3 = true := by decide +kernel
theorem sc_l_good_3 : scopeB F_l_good_3 t_l_good_3.scope = true := by decide +kernel
theorem bi_l_good_3 : BindA F_l_good_3 t_l_good_3 := fun _ _ _ _ _ _ us hl => match us, hl with
  | [_], _ => rfl
theorem tx_l_asked_of_4 : txtB G freeN consN F_l_asked_of_4 t_l_asked_of_4 = true := by decide +kernel
theorem sc_l_asked_of_4 : scopeB F_l_asked_of_4 t_l_asked_of_4.scope = true := by decide +kernel
theorem bi_l_asked_of_4 : BindA F_l_asked_of_4 t_l_asked_of_4 := fun _ _ _ _ _ _ us hl => match us, hl with
  | [_], _ => rfl
theorem tx_law_39 : txtB G freeN consN F_law_39 t_law_39 = true := by decide +kernel
theorem sc_law_39 : scopeB F_law_39 t_law_39.scope = true := by decide +kernel
theorem bi_law_39 : BindA F_law_39 t_law_39 := fun _ _ _ _ _ _ us hl => match us, hl with
  | [_], _ => rfl
def hasD (K : PySem.W.Frag) (mg : PySem.Str → Option Value) (p : Nat × Fn) : Prop := DefOk K mg G freeN consN p.2
theorem defs_ok {K : PySem.W.Frag} {h : Heap} {mg : PySem.Str → Option Value} (KX : K.In h) (Gm : h.Ns mainGlobals mg) (c : He.SaysD [] dl K) (b : modB G clA fnA freeN consN K = true) : ∀ p ∈ fnA, hasD K mg p := by
  intro p hp
  unfold fnA at hp
  rcases List.mem_cons.mp hp with rfl | hp
  · exact def_ok (i := 351) KX Gm c b (by unfold fnA; simp) (by unfold dl; simp) bi_Event_far sc_Event_far tx_Event_far
  rcases List.mem_cons.mp hp with rfl | hp
  · exact def_ok (i := 356) KX Gm c b (by unfold fnA; simp) (by unfold dl; simp) bi_Spanned_init sc_Spanned_init tx_Spanned_init
  rcases List.mem_cons.mp hp with rfl | hp
  · exact def_ok (i := 357) KX Gm c b (by unfold fnA; simp) (by unfold dl; simp) bi_Spanned_far sc_Spanned_far tx_Spanned_far
  rcases List.mem_cons.mp hp with rfl | hp
  · exact def_ok (i := 360) KX Gm c b (by unfold fnA; simp) (by unfold dl; simp) bi_Stayed_init sc_Stayed_init tx_Stayed_init
  rcases List.mem_cons.mp hp with rfl | hp
  · exact def_ok (i := 365) KX Gm c b (by unfold fnA; simp) (by unfold dl; simp) bi_Over_init sc_Over_init tx_Over_init
  rcases List.mem_cons.mp hp with rfl | hp
  · exact def_ok (i := 370) KX Gm c b (by unfold fnA; simp) (by unfold dl; simp) bi_Under_init sc_Under_init tx_Under_init
  rcases List.mem_cons.mp hp with rfl | hp
  · exact def_ok (i := 375) KX Gm c b (by unfold fnA; simp) (by unfold dl; simp) bi_Rose_init sc_Rose_init tx_Rose_init
  rcases List.mem_cons.mp hp with rfl | hp
  · exact def_ok (i := 380) KX Gm c b (by unfold fnA; simp) (by unfold dl; simp) bi_Paced_init sc_Paced_init tx_Paced_init
  rcases List.mem_cons.mp hp with rfl | hp
  · exact def_ok (i := 385) KX Gm c b (by unfold fnA; simp) (by unfold dl; simp) bi_Turned_init sc_Turned_init tx_Turned_init
  rcases List.mem_cons.mp hp with rfl | hp
  · exact def_ok (i := 387) KX Gm c b (by unfold fnA; simp) (by unfold dl; simp) bi_Turned_far sc_Turned_far tx_Turned_far
  rcases List.mem_cons.mp hp with rfl | hp
  · exact def_ok (i := 391) KX Gm c b (by unfold fnA; simp) (by unfold dl; simp) bi_l_draw sc_l_draw tx_l_draw
  rcases List.mem_cons.mp hp with rfl | hp
  · exact def_ok (i := 392) KX Gm c b (by unfold fnA; simp) (by unfold dl; simp) bi_l_base sc_l_base tx_l_base
  rcases List.mem_cons.mp hp with rfl | hp
  · exact def_ok (i := 3) KX Gm c b (by unfold fnA; simp) (by unfold dl; simp) bi_l_whole sc_l_whole tx_l_whole
  rcases List.mem_cons.mp hp with rfl | hp
  · exact def_ok (i := 511) KX Gm c b (by unfold fnA; simp) (by unfold dl; simp) bi_l_event_3 sc_l_event_3 tx_l_event_3
  rcases List.mem_cons.mp hp with rfl | hp
  · exact def_ok (i := 512) KX Gm c b (by unfold fnA; simp) (by unfold dl; simp) bi_l_farthest_3 sc_l_farthest_3 tx_l_farthest_3
  rcases List.mem_cons.mp hp with rfl | hp
  · exact def_ok (i := 513) KX Gm c b (by unfold fnA; simp) (by unfold dl; simp) bi_l_turn sc_l_turn tx_l_turn
  rcases List.mem_cons.mp hp with rfl | hp
  · exact def_ok (i := 514) KX Gm c b (by unfold fnA; simp) (by unfold dl; simp) bi_l_tree sc_l_tree tx_l_tree
  rcases List.mem_cons.mp hp with rfl | hp
  · exact def_ok (i := 515) KX Gm c b (by unfold fnA; simp) (by unfold dl; simp) bi_l_good_3 sc_l_good_3 tx_l_good_3
  rcases List.mem_cons.mp hp with rfl | hp
  · exact def_ok (i := 516) KX Gm c b (by unfold fnA; simp) (by unfold dl; simp) bi_l_asked_of_4 sc_l_asked_of_4 tx_l_asked_of_4
  rcases List.mem_cons.mp hp with rfl | hp
  · exact def_ok (i := 517) KX Gm c b (by unfold fnA; simp) (by unfold dl; simp) bi_law_39 sc_law_39 tx_law_39
  cases hp
abbrev Rw : PySem.W.OpenRow := PySem.W.OpenLaw.row PySem.Challenge.rw_gaze_k63_what_is_no_event
def asN0 : List Addr := [3, 6, 4, 21, 31, 44, 56, 68, 80, 89, 141, 183, 228, 271, 314, 359, 404, 458, 467, 474, 481, 488, 495, 502, 509, 516, 523, 530, 0, 20, 30, 43, 55, 67, 79, 88, 140, 182, 227, 270]
def asN1 : List Addr := [313, 358, 403, 457, 466, 473, 480, 487, 494, 501, 508, 515, 522, 529, 15, 16, 17, 18, 19, 29, 32, 42, 54, 66, 78, 83, 84, 85, 86, 87, 103, 110, 117, 124, 131, 138, 139, 142, 143, 159]
def asN2 : List Addr := [166, 173, 180, 181, 199, 206, 211, 218, 225, 226, 244, 251, 256, 261, 268, 269, 287, 294, 299, 304, 311, 312, 330, 337, 344, 349, 356, 357, 375, 382, 387, 394, 401, 402, 420, 427, 434, 441, 448, 455]
def asN3 : List Addr := [456, 461, 462, 463, 464, 465, 468, 469, 470, 471, 472, 475, 476, 477, 478, 479, 482, 483, 484, 485, 486, 489, 490, 491, 492, 493, 496, 497, 498, 499, 500, 503, 504, 505, 506, 507, 510, 511, 512, 513]
def asN4 : List Addr := [514, 517, 518, 519, 520, 521, 524, 525, 526, 527, 528, 102, 109, 116, 123, 130, 137, 158, 165, 172, 179, 198, 205, 210, 217, 224, 243, 250, 255, 260, 267, 286, 293, 298, 303, 310, 329, 336, 343, 348]
def asN5 : List Addr := [355, 374, 381, 386, 393, 400, 419, 426, 433, 440, 447, 454, 97, 98, 99, 100, 101, 104, 105, 106, 107, 108, 111, 112, 113, 114, 115, 118, 119, 120, 121, 122, 125, 126, 127, 128, 129, 132, 133, 134]
def asN6 : List Addr := [135, 136, 153, 154, 155, 156, 157, 160, 161, 162, 163, 164, 167, 168, 169, 170, 171, 174, 175, 176, 177, 178, 193, 194, 195, 196, 197, 200, 201, 202, 203, 204, 207, 208, 209, 212, 213, 214, 215, 216]
def asN7 : List Addr := [219, 220, 221, 222, 223, 238, 239, 240, 241, 242, 245, 246, 247, 248, 249, 252, 253, 254, 257, 258, 259, 262, 263, 264, 265, 266, 281, 282, 283, 284, 285, 288, 289, 290, 291, 292, 295, 296, 297, 300]
def asN8 : List Addr := [301, 302, 305, 306, 307, 308, 309, 324, 325, 326, 327, 328, 331, 332, 333, 334, 335, 338, 339, 340, 341, 342, 345, 346, 347, 350, 351, 352, 353, 354, 369, 370, 371, 372, 373, 376, 377, 378, 379, 380]
def asN9 : List Addr := [383, 384, 385, 388, 389, 390, 391, 392, 395, 396, 397, 398, 399, 414, 415, 416, 417, 418, 421, 422, 423, 424, 425, 428, 429, 430, 431, 432, 435, 436, 437, 438, 439, 442, 443, 444, 445, 446, 449, 450]
def asN10 : List Addr := [451, 452, 453, 2]
def asN : List Addr := asN0 ++ asN1 ++ asN2 ++ asN3 ++ asN4 ++ asN5 ++ asN6 ++ asN7 ++ asN8 ++ asN9 ++ asN10
abbrev hkP : PySem.W.Hook := hookP asN [] dl (modB G clA fnA freeN consN)
def obP (s : PySem.W.SharedT) : AlP := obsP asN [] dl (modB G clA fnA freeN consN) (HandSHeadRun.getT s)
theorem nm_nodup : nmT.Nodup := by decide +kernel
theorem obP_eq (s : PySem.W.SharedT) : obP s = hkP.obs s.abs := obsP_eq (HandSHeadRun.getT_eq s)
def loose0 : List PySem.Str := ["_wall", "GazeError", "NoClaim", "NoEvent", "TooMany", "NoRule", "beyond", "Event", "Spanned", "Stayed", "Over", "Under", "Rose", "Paced", "Turned", "_law_draw", "_law_base", "_law_whole", "_law_event", "_law_farthest"]
def loose1 : List PySem.Str := ["_law_turn", "_law_tree", "_law_good", "_law_asked_of", "LATEST"]
def looseN : List PySem.Str := loose0 ++ loose1
noncomputable abbrev runE (w : World) (os : PySem.OsState) : Option PySem.W.SharedT := HandSHeadRun.endF (HandSHeadRun.stepQ (HandSHeadRun.denQ HandSHeadRun.tabQ) Rw.prog w) 7340 Rw.prog w os
theorem run_a (w : World) (os : PySem.OsState) : (runE w os).map (fun s => (HandSHeadRun.looksF Rw.prog (PySem.W.boot_heap w.params) s.abs, HandSHeadRun.seenQ (PySem.W.view Rw.prog [28]) looseN (importedModules Rw.prog.main.body) (fun s => PySem.W.xlAt (PySem.W.view Rw.prog [28]) [] s && PySem.W.recOk Rw.toRowW.records s) s.abs)) = some (true, PySem.W.openGood (PySem.W.view Rw.prog [28]) looseN) := by
  kernel_rfl
theorem run_b (w : World) (os : PySem.OsState) : (runE w os).map (fun s => He.obsD [] dl (frP asN s)) = some (He.valD dl) := by
  kernel_rfl
theorem run_z (w : World) (os : PySem.OsState) : (runE w os).map (fun s => restCk fnA freeN consN (frP asN s)) = some true := by
  kernel_rfl
def cl0 : List (Nat × Cls) := (clA.drop 0).take 7
def cl1 : List (Nat × Cls) := (clA.drop 7)
theorem run_c0 (w : World) (os : PySem.OsState) : (runE w os).map (fun s => cl0.all (clsCk G clA (frP asN s))) = some true := by
  kernel_rfl
theorem run_c1 (w : World) (os : PySem.OsState) : (runE w os).map (fun s => cl1.all (clsCk G clA (frP asN s))) = some true := by
  kernel_rfl
theorem cl_eq : clA = cl0 ++ (cl1) := rfl
theorem run_c (w : World) (os : PySem.OsState) : (runE w os).map (fun s => clA.all (clsCk G clA (frP asN s))) = some true := by
  have h : (runE w os).map (fun s => (cl0 ++ (cl1)).all (clsCk G clA (frP asN s))) = some true := map_app (run_c0 w os) (run_c1 w os)
  rw [← cl_eq] at h
  exact h
theorem run_top (w : World) : HandSHeadRun.RunEq Rw (PySem.W.view Rw.prog [28]) hkP obP 7340 looseN w :=
  run_join (fun _ => rfl) (run_a w) (run_b w) (run_c w) (run_z w)
end Pv
end

section
set_option Elab.async false
set_option linter.all false
set_option maxRecDepth 100000
set_option autoImplicit false
/-! Pe: how the evaluator's runs are read. -/
namespace Pv
open PySem

theorem run_unf {G : Prog} {wf n f : Nat} {F : Fn} {vs : List Val} {S : Store} (h : G.fn f = some F) (hl : vs.length = F.np) (hi : F.isIni = false) :
    run G wf (n + 1) f vs S = ofBody (evSs ⟨G, wf, run G wf n, runI G wf n⟩ F.body (startE F.names.length vs) S) := by
  simp only [run, h]
  rw [if_pos ⟨hl, hi⟩]
theorem eqV_int {i j : Int} : eqV (.int i) (.int j) = some (decide (i = j)) := by
  simp [eqV, dataOk, eqv]
theorem eqV_str {i j : Str} : eqV (.str i) (.str j) = some (decide (i = j)) := rfl
theorem eqV_non {v : Val} (h : dataOk 60 v = true) : eqV v .non = some (isNonB v) := by
  cases v <;> simp_all [eqV, dataOk, eqv, isNonB]
theorem log2_3 : Nat.log2 3 < 9000 := by decide
theorem szb1 : szb 1 = true := rfl
theorem szb2 : szb 2 = true := rfl
theorem szb3 : szb 3 = true := rfl
/-! ### values, one by one -/
section
variable {S : Store} {i j : Int} {s t : Str} {v w : Val} {xs ys : List Val} {b c : Bool} {G : Prog}
theorem op_add : op2 .add (.int i) (.int j) = some (.int (i + j)) := rfl
theorem op_sub : op2 .sub (.int i) (.int j) = some (.int (i - j)) := rfl
theorem op_mul (h : mulOk i j = true) : op2 .mul (.int i) (.int j) = some (.int (i * j)) := by
  simp only [op2, h, if_true]
def fdivOk (j : Int) : Bool := decide (j.natAbs.log2 < 9000)
theorem op_fdiv (h0 : 0 < j) (h : fdivOk j = true) : op2 .fdiv (.int i) (.int j) = some (.int (i / j)) := by
  have h1 : j ≠ 0 := by omega
  have h2 : j.natAbs.log2 < 9000 := of_decide_eq_true h
  simp only [op2, h1, h2, h0, if_true, if_false]
theorem op_fdivN (h0 : j < 0) (h : fdivOk j = true) : op2 .fdiv (.int i) (.int j) = some (.int (i.fdiv j)) := by
  have h1 : j ≠ 0 := by omega
  have h2 : j.natAbs.log2 < 9000 := of_decide_eq_true h
  have h3 : ¬ 0 < j := by omega
  simp only [op2, h1, h2, h3, if_true, if_false]
theorem op_mod (h0 : 0 < j) : op2 .mod (.int i) (.int j) = some (.int (i % j)) := by
  simp only [op2, h0, if_true]
theorem op_pow (h : 0 ≤ j ∧ j ≤ 1000000 ∧ i.natAbs < 2 ^ 64) : op2 .pow (.int i) (.int j) = some (.int (i ^ j.toNat)) := by
  simp only [op2]
  rw [if_pos h]
theorem op_addS (h : szb (s.length + t.length) = true) : op2 .add (.str s) (.str t) = some (.str (s ++ t)) := by
  simp only [op2, h, if_true]
theorem op_addL (h : szb (xs.length + ys.length) = true) : op2 .add (.lst xs) (.lst ys) = some (.lst (xs ++ ys)) := by
  simp only [op2, h, if_true]
theorem de_non : deref S .non = .non := rfl
theorem de_bl : deref S (.bl b) = .bl b := rfl
theorem de_int : deref S (.int i) = .int i := rfl
theorem de_str : deref S (.str s) = .str s := rfl
theorem de_tup : deref S (.tup xs) = .tup xs := rfl
theorem de_lst : deref S (.lst xs) = .lst xs := rfl
theorem de_exc {k : Nat} : deref S (.exc k) = .exc k := rfl
theorem de_scr {ns : List Int} : deref S (.scr ns) = .scr ns := rfl
theorem de_obj {k : Nat} {fs : List (Nat × Val)} : deref S (.obj k fs) = .obj k fs := rfl
theorem cp_lt : cpV .lt (.int i) (.int j) = some (decide (i < j)) := rfl
theorem cp_le : cpV .le (.int i) (.int j) = some (decide (i ≤ j)) := rfl
theorem cp_gt : cpV .gt (.int i) (.int j) = some (decide (j < i)) := rfl
theorem cp_ge : cpV .ge (.int i) (.int j) = some (decide (j ≤ i)) := rfl
theorem cp_eq : cpV .eq v w = eqV v w := by cases v <;> cases w <;> rfl
theorem cp_ne : cpV .ne v w = nop (eqV v w) := by cases v <;> cases w <;> rfl
theorem cp_isn : cpV .isn v w = isV v w := by cases v <;> cases w <;> rfl
theorem cp_isnt : cpV .isnt v w = nop (isV v w) := by cases v <;> cases w <;> rfl
theorem cp_in : cpV .inn v w = inV v w := by cases v <;> cases w <;> rfl
theorem cp_nin : cpV .notin v w = nop (inV v w) := by cases v <;> cases w <;> rfl
theorem no_some : nop (some b) = some (!b) := rfl
theorem is_non : isV v .non = some (isNonB v) := by cases v <;> rfl
theorem nb_non : isNonB .non = true := rfl
theorem nb_int : isNonB (.int i) = false := rfl
theorem nb_bl : isNonB (.bl b) = false := rfl
theorem nb_tup : isNonB (.tup xs) = false := rfl
theorem nb_lst : isNonB (.lst xs) = false := rfl
theorem nb_str : isNonB (.str s) = false := rfl
theorem eq_nn : eqV .non .non = some true := by decide
theorem eq_ni : eqV .non (.int i) = some false := by simp [eqV, dataOk, eqv]
theorem eq_in : eqV (.int i) .non = some false := by simp [eqV, dataOk, eqv]
theorem eq_bb : eqV (.bl b) (.bl c) = some (b == c) := by simp [eqV, dataOk, eqv]
theorem ix_lst : ixV (.lst xs) (.int i) = L2.atI xs i := rfl
theorem ix_tup : ixV (.tup xs) (.int i) = L2.atI xs i := rfl
theorem ix_scr {ns : List Int} : ixV (.scr ns) (.int i) = scrAt ns i := rfl
theorem at_0 : L2.atI (v :: xs) 0 = some v := by
  unfold L2.atI L2.ixN
  rw [if_pos (by omega), if_pos (by simp only [List.length_cons]; omega)]
  rfl
theorem at_1 {v1 : Val} : L2.atI (v :: v1 :: xs) 1 = some v1 := by
  unfold L2.atI L2.ixN
  rw [if_pos (by omega), if_pos (by simp only [List.length_cons]; omega)]
  rfl
theorem at_2 {v1 v2 : Val} : L2.atI (v :: v1 :: v2 :: xs) 2 = some v2 := by
  unfold L2.atI L2.ixN
  rw [if_pos (by omega), if_pos (by simp only [List.length_cons]; omega)]
  rfl
theorem at_3 {v1 v2 v3 : Val} : L2.atI (v :: v1 :: v2 :: v3 :: xs) 3 = some v3 := by
  unfold L2.atI L2.ixN
  rw [if_pos (by omega), if_pos (by simp only [List.length_cons]; omega)]
  rfl
theorem at_4 {v1 v2 v3 v4 : Val} : L2.atI (v :: v1 :: v2 :: v3 :: v4 :: xs) 4 = some v4 := by
  unfold L2.atI L2.ixN
  rw [if_pos (by omega), if_pos (by simp only [List.length_cons]; omega)]
  rfl
theorem bi_lenL : biV .len [.lst xs] = some (.int xs.length) := rfl
theorem bi_lenT : biV .len [.tup xs] = some (.int xs.length) := rfl
theorem bi_lenC {ns : List Int} : biV .len [.scr ns] = some (.int ns.length) := rfl
theorem bi_abs : biV .abs [.int i] = some (.int (if i < 0 then -i else i)) := rfl
theorem bi_min2 : biV .min2 [.int i, .int j] = some (.int (if j < i then j else i)) := rfl
theorem bi_max2 : biV .max2 [.int i, .int j] = some (.int (if j > i then j else i)) := rfl
theorem bi_listL : biV .list [.lst xs] = some (.lst xs) := rfl
theorem bi_listT : biV .list [.tup xs] = some (.lst xs) := rfl
theorem bi_sum {is : List Int} (h : intsOf xs = some is) : biV .sum [.lst xs] = some (.int is.sum) := by simp only [biV, h]
theorem ty_int {q : Ty} : tyV G S (.int i) q = some (q == .int) := by cases q <;> rfl
theorem ty_bl {q : Ty} : tyV G S (.bl b) q = some (q == .bool || q == .int) := by cases q <;> rfl
theorem ty_non {q : Ty} : tyV G S .non q = some false := by cases q <;> rfl
theorem ty_str {q : Ty} : tyV G S (.str s) q = some (q == .str) := by cases q <;> rfl
theorem ty_lst {q : Ty} : tyV G S (.lst xs) q = some (q == .list) := by cases q <;> rfl
theorem ty_tup {q : Ty} : tyV G S (.tup xs) q = some (q == .tuple) := by cases q <;> rfl
theorem ty_exV {k : Nat} : tyV G S (.exc k) .valueError = some true := rfl
theorem ty_exC {k d : Nat} {C D : Cls} (h : G.cls k = some C) (h2 : G.cls d = some D) (hx : C.exc = true ∧ D.exc = true) : tyV G S (.exc k) (.cls d) = some (C.sup.contains d) := by
  simp only [tyV, h, h2]
  rw [if_pos hx]
theorem ty_obC {k d : Nat} {C D : Cls} {fs : List (Nat × Val)} (h : G.cls k = some C) (h2 : G.cls d = some D) (hx : C.exc = false ∧ D.exc = false) : tyV G S (.obj k fs) (.cls d) = some (C.sup.contains d) := by
  simp only [tyV, h, h2]
  rw [if_pos hx]
theorem bi_listR (h : szb xs.length = true) : biV .listR [.lst xs] = some (.lst xs) := by simp only [biV, h, if_true]
theorem cat_C {k d : Nat} {C : Cls} (h : G.cls k = some C) (hx : C.exc = true) : catches G k d = some (C.sup.contains d) := by
  simp only [catches, h, hx, if_true]
theorem rng_1 (h : i.natAbs < 2 ^ 62) : rngV [.int i] = some (upto 0 i.toNat) := by
  simp only [rngV]
  rw [if_pos h]
theorem rng_2 (h : i.natAbs < 2 ^ 62 ∧ j.natAbs < 2 ^ 62) : rngV [.int i, .int j] = some (upto i (j - i).toNat) := by
  simp only [rngV]
  rw [if_pos h]
theorem it_lst : itemsV (.lst xs) = some xs := rfl
theorem it_tup : itemsV (.tup xs) = some xs := rfl
theorem bt_one {k : Nat} {ρ : Env} : bindT (.one k) v ρ = some (ρ.set k (some v)) := rfl
theorem bt_many {is : List Nat} {ρ : Env} : bindT (.many is) (.tup xs) ρ = bindMany is xs ρ := rfl
theorem mu_app {e : E} (h : szb (xs.length + 1) = true) : muV (.app e) (.lst xs) [v] = some (.lst (xs ++ [v])) := by simp only [muV, h, if_true]
theorem mu_ext {e : E} (h : szb (xs.length + ys.length) = true) : muV (.ext e) (.lst xs) [.lst ys] = some (.lst (xs ++ ys)) := by simp only [muV, h, if_true]
theorem mt_app {e : E} : muTy (.app e) (.lst xs) = true := rfl
theorem mt_ext {e : E} : muTy (.ext e) (.lst xs) = true := rfl
theorem mt_clr : muTy .clr (.lst xs) = true := rfl
theorem mt_rev : muTy .rev (.lst xs) = true := rfl
theorem mt_set {k e : E} : muTy (.seti k e) (.lst xs) = true := rfl
theorem mu_clr : muV .clr (.lst xs) [] = some (.lst []) := rfl
theorem mu_rev : muV .rev (.lst xs) [] = some (.lst xs.reverse) := rfl
theorem fd_lit {k : Nat} (h : k.log2 < 9000) : fdivOk (k : Int) = true := decide_eq_true h
end
/-- statements, one after the other -/
theorem evSs_cons {x : Cfg} {s : S} {r : List S} {ρ : Env} {S : Store} : evSs x (s :: r) ρ S = match evS x s ρ S with
    | .nx ρ1 S1 => evSs x r ρ1 S1
    | q => q := by
  simp only [evSs] <;> cases evS x s ρ S <;> rfl
theorem evSs_nil {x : Cfg} {ρ : Env} {S : Store} : evSs x [] ρ S = .nx ρ S := by simp only [evSs]
theorem evSs_nx {x : Cfg} {s : S} {r : List S} {ρ ρ1 : Env} {S S1 : Store} (h : evS x s ρ S = .nx ρ1 S1) : evSs x (s :: r) ρ S = evSs x r ρ1 S1 := by
  rw [evSs_cons, h]
theorem evSs_ret {x : Cfg} {s : S} {r : List S} {ρ : Env} {S S1 : Store} {v : Val} (h : evS x s ρ S = .ret v S1) : evSs x (s :: r) ρ S = .ret v S1 := by
  rw [evSs_cons, h]
theorem evSs_exn {x : Cfg} {s : S} {r : List S} {ρ ρ1 : Env} {S S1 : Store} {c : Nat} (h : evS x s ρ S = .exn c ρ1 S1) : evSs x (s :: r) ρ S = .exn c ρ1 S1 := by
  rw [evSs_cons, h]
/-- a loop whose turns all go on: an invariant -/
theorem forL_inv {f : Val → Env → Store → RS} (I : Env → Store → Prop) : ∀ (xs : List Val) (ρ : Env) (S : Store), (∀ x ∈ xs, ∀ ρ S, I ρ S → ∃ ρ1 S1, (f x ρ S = .nx ρ1 S1 ∨ f x ρ S = .cnt ρ1 S1) ∧ I ρ1 S1) → I ρ S → ∃ ρ1 S1, forL f xs ρ S = .nx ρ1 S1 ∧ I ρ1 S1
  | [], ρ, S, _, h => ⟨ρ, S, rfl, h⟩
  | x :: xs, ρ, S, hs, h => by
    obtain ⟨ρ1, S1, e, h1⟩ := hs x List.mem_cons_self ρ S h
    obtain ⟨ρ2, S2, e2, h2⟩ := forL_inv I xs ρ1 S1 (fun y hy => hs y (List.mem_cons_of_mem _ hy)) h1
    refine ⟨ρ2, S2, ?_, h2⟩
    simp only [forL]
    rcases e with e | e <;> rw [e] <;> exact e2
/-- a loop that folds: what the slots are by what was walked -/
theorem forL_fold {α : Type} {f : Val → Env → Store → RS} (enc : α → Env) (step : α → Val → α) : ∀ (xs : List Val) (a : α) (S : Store), (∀ x ∈ xs, ∀ a, f x (enc a) S = .nx (enc (step a x)) S ∨ f x (enc a) S = .cnt (enc (step a x)) S) → forL f xs (enc a) S = .nx (enc (xs.foldl step a)) S
  | [], a, S, _ => rfl
  | x :: xs, a, S, hs => by
    simp only [forL, List.foldl_cons]
    rcases hs x List.mem_cons_self a with e | e <;> rw [e] <;> exact forL_fold enc step xs _ S fun y hy => hs y (List.mem_cons_of_mem _ hy)
/-- .. with an invariant of what is folded -/
theorem forL_foldI {α : Type} {f : Val → Env → Store → RS} (enc : α → Env) (step : α → Val → α) (I : α → Prop) : ∀ (xs : List Val) (a : α) (S : Store), I a → (∀ x ∈ xs, ∀ a, I a → (f x (enc a) S = .nx (enc (step a x)) S ∨ f x (enc a) S = .cnt (enc (step a x)) S) ∧ I (step a x)) →
    forL f xs (enc a) S = .nx (enc (xs.foldl step a)) S ∧ I (xs.foldl step a)
  | [], a, S, h, _ => ⟨rfl, h⟩
  | x :: xs, a, S, h, hs => by
    simp only [forL, List.foldl_cons]
    obtain ⟨e, h1⟩ := hs x List.mem_cons_self a h
    have ih := forL_foldI enc step I xs _ S h1 fun y hy => hs y (List.mem_cons_of_mem _ hy)
    rcases e with e | e <;> rw [e] <;> exact ih
/-- a comprehension that keeps all, or some -/
theorem compL_map {f : Val → Store → R (Option Val)} {g : Val → Val} {S : Store} : ∀ (xs : List Val), (∀ x ∈ xs, f x S = .ok (some (g x)) S) → compL f xs S = .ok (xs.map g) S
  | [], _ => rfl
  | x :: xs, h => by
    simp only [compL, h x List.mem_cons_self, compL_map xs fun y hy => h y (List.mem_cons_of_mem _ hy), List.map_cons]
theorem compL_filterMap {f : Val → Store → R (Option Val)} {g : Val → Option Val} {S : Store} : ∀ (xs : List Val), (∀ x ∈ xs, f x S = .ok (g x) S) → compL f xs S = .ok (xs.filterMap g) S
  | [], _ => rfl
  | x :: xs, h => by
    have ih := compL_filterMap xs fun y hy => h y (List.mem_cons_of_mem _ hy)
    simp only [compL, h x List.mem_cons_self]
    cases e : g x with
    | none => simp only [List.filterMap_cons, e]; exact ih
    | some v => simp only [List.filterMap_cons, e, ih]
theorem upto_map : ∀ (n : Nat) (lo : Int), upto lo n = (List.range n).map fun (i : Nat) => Val.int (lo + i)
  | 0, _ => rfl
  | n + 1, lo => by
    rw [List.range_succ_eq_map, List.map_cons, List.map_map, upto, upto_map n (lo + 1)]
    congr 1
    · simp
    · apply List.map_congr_left
      intro i _
      simp only [Function.comp]
      congr 1
      omega
theorem upto_mem {n : Nat} {lo : Int} {v : Val} (h : v ∈ upto lo n) : ∃ i : Nat, i < n ∧ v = .int (lo + i) := by
  rw [upto_map] at h
  obtain ⟨i, hi, rfl⟩ := List.mem_map.mp h
  exact ⟨i, List.mem_range.mp hi, rfl⟩
theorem intsOf_map : ∀ is : List Int, intsOf (is.map Val.int) = some is
  | [] => rfl
  | i :: is => by simp only [List.map_cons, intsOf, intsOf_map is]
theorem atI_ok {α : Type} {xs : List α} {i : Nat} {x : α} (h : xs[i]? = some x) : L2.atI xs (i : Int) = some x := by
  obtain ⟨hl, _⟩ := List.getElem?_eq_some_iff.mp h
  unfold L2.atI L2.ixN
  rw [if_pos (by omega), if_pos (by omega)]
  simpa using h
/-- bounds by bits -/
theorem log2_lt {n k : Nat} (hk : 0 < k) (h : n < 2 ^ k) : n.log2 < k := by
  by_cases h0 : n = 0
  · rw [h0]
    simpa using hk
  · exact (Nat.log2_lt h0).mpr h
theorem mulOk_of {i j : Int} {a b : Nat} (ha : i.natAbs < 2 ^ a) (hb : j.natAbs < 2 ^ b) (h0 : 0 < a) (h1 : 0 < b) (h : a + b ≤ 100000000) : mulOk i j = true := by
  unfold mulOk
  have x := log2_lt h0 ha
  have y := log2_lt h1 hb
  rw [decide_eq_true (show i.natAbs.log2 + j.natAbs.log2 < 100000000 by omega)]
  simp
theorem mulOk_small {i j : Int} (h : i.natAbs < 2 ^ 64) : mulOk i j = true := by
  unfold mulOk
  rw [decide_eq_true h]
  rfl
theorem mulOk_small2 {i j : Int} (h : j.natAbs < 2 ^ 64) : mulOk i j = true := by
  unfold mulOk
  rw [decide_eq_true h]
  simp
end Pv
end

section
set_option Elab.async false
set_option linter.all false
set_option maxRecDepth 100000
set_option autoImplicit false
/-! Pf: the evaluator's equations with all their arguments, for simp. -/
namespace Pv
open PySem
abbrev St := Pv.S
noncomputable section
variable {α β : Type} {x : Cfg} {ρ ρ1 : Env} {S S1 : Store} {v w u : Val} {vs : List Val} {c d i : Nat}
theorem b_ok {a : α} {f : α → Store → R β} : (R.ok a S).bind f = f a S := rfl
theorem b_exn {f : α → Store → R β} : (R.exn c S : R α).bind f = .exn c S := rfl
theorem b_ite {p : Prop} [Decidable p] {a b : R α} {f : α → Store → R β} : (if p then a else b).bind f = if p then a.bind f else b.bind f := by
  by_cases h : p <;> simp only [h, if_true, if_false]
theorem t_ok {a : α} {f : α → Store → RS} : (R.ok a S).toS ρ f = f a S := rfl
theorem t_exn {f : α → Store → RS} : (R.exn c S : R α).toS ρ f = .exn c ρ S := rfl
theorem t_ite {p : Prop} [Decidable p] {a b : R α} {f : α → Store → RS} : (if p then a else b).toS ρ f = if p then a.toS ρ f else b.toS ρ f := by
  by_cases h : p <;> simp only [h, if_true, if_false]
theorem of_some {a : α} : R.of (some a) S = .ok a S := rfl
def RS.seq (r : RS) (k : Env → Store → RS) : RS := match r with
  | .nx ρ S => k ρ S
  | q => q
theorem sq_nx {k : Env → Store → RS} : (RS.nx ρ S).seq k = k ρ S := rfl
theorem sq_ret {k : Env → Store → RS} : (RS.ret v S).seq k = .ret v S := rfl
theorem sq_exn {k : Env → Store → RS} : (RS.exn c ρ S).seq k = .exn c ρ S := rfl
theorem sq_brk {k : Env → Store → RS} : (RS.brk ρ S).seq k = .brk ρ S := rfl
theorem sq_cnt {k : Env → Store → RS} : (RS.cnt ρ S).seq k = .cnt ρ S := rfl
theorem sq_ite {p : Prop} [Decidable p] {a b : RS} {k : Env → Store → RS} : (if p then a else b).seq k = if p then a.seq k else b.seq k := by
  by_cases h : p <;> simp only [h, if_true, if_false]
def obl (o : Option Bool) (S : Store) : R Val := match o with
  | some b => .ok (.bl b) S
  | none => .stuck
theorem obl_some {b : Bool} : obl (some b) S = .ok (.bl b) S := rfl
theorem ob_ite {p : Prop} [Decidable p] {a b : RS} : ofBody (if p then a else b) = if p then ofBody a else ofBody b := by
  by_cases h : p <;> simp only [h, if_true, if_false]
theorem ob_ret : ofBody (.ret v S) = .ok v S := rfl
theorem ob_nx : ofBody (.nx ρ S) = .ok .non S := rfl
theorem ob_exn : ofBody (.exn c ρ S) = .exn c S := rfl
def k2 (j : Val → Val → Store → R Val) (x : Cfg) (b : E) (ρ : Env) (v : Val) (S : Store) : R Val := (evE x b ρ S).bind (j v)
/-- a loop with an invariant, ahead of the rest of a body -/
theorem forL_k {f : Val → Env → Store → RS} {k : Env → Store → RS} {r : R Val} (I : Env → Store → Prop) {xs : List Val} {ρ : Env} {S : Store} (hs : ∀ x ∈ xs, ∀ ρ S, I ρ S → ∃ ρ1 S1, (f x ρ S = .nx ρ1 S1 ∨ f x ρ S = .cnt ρ1 S1) ∧ I ρ1 S1) (h0 : I ρ S) (h1 : ∀ ρ1 S1, I ρ1 S1 → ofBody (k ρ1 S1) = r) :
    ofBody ((forL f xs ρ S).seq k) = r := by
  obtain ⟨ρ1, S1, e, h⟩ := forL_inv I xs ρ S hs h0
  rw [e]
  exact h1 ρ1 S1 h
theorem forL_idx {f : Val → Env → Store → RS} (I : Nat → Env → Store → Prop) : ∀ (xs : List Val) (m : Nat) (ρ : Env) (S : Store), (∀ (i : Nat) (hi : i < xs.length) ρ S, I (m + i) ρ S → ∃ ρ1 S1, (f xs[i] ρ S = .nx ρ1 S1 ∨ f xs[i] ρ S = .cnt ρ1 S1) ∧ I (m + i + 1) ρ1 S1) → I m ρ S → ∃ ρ1 S1, forL f xs ρ S = .nx ρ1 S1 ∧ I (m + xs.length) ρ1 S1
  | [], m, ρ, S, _, h => ⟨ρ, S, rfl, h⟩
  | x :: xs, m, ρ, S, hs, h => by
    obtain ⟨ρ1, S1, e, h1⟩ := hs 0 (by simp) ρ S h
    obtain ⟨ρ2, S2, e2, h2⟩ := forL_idx I xs (m + 1) ρ1 S1 (fun i hi ρ S hI => by
      have := hs (i + 1) (by simp only [List.length_cons]; omega) ρ S (by rw [show m + (i + 1) = m + 1 + i by omega]; exact hI)
      rw [show m + (i + 1) + 1 = m + 1 + i + 1 by omega] at this
      exact this) h1
    refine ⟨ρ2, S2, ?_, ?_⟩
    · simp only [forL]
      simp only [List.getElem_cons_zero] at e
      rcases e with e | e <;> rw [e] <;> exact e2
    · rw [List.length_cons, show m + (xs.length + 1) = m + 1 + xs.length by omega]
      exact h2
/-- a loop with an invariant that counts, ahead of the rest of a body -/
theorem forL_kI {f : Val → Env → Store → RS} {k : Env → Store → RS} {r : R Val} (I : Nat → Env → Store → Prop) {xs : List Val} {ρ : Env} {S : Store} (hs : ∀ (i : Nat) (hi : i < xs.length) ρ S, I i ρ S → ∃ ρ1 S1, (f xs[i] ρ S = .nx ρ1 S1 ∨ f xs[i] ρ S = .cnt ρ1 S1) ∧ I (i + 1) ρ1 S1) (h0 : I 0 ρ S) (h1 : ∀ ρ1 S1, I xs.length ρ1 S1 → ofBody (k ρ1 S1) = r) :
    ofBody ((forL f xs ρ S).seq k) = r := by
  obtain ⟨ρ1, S1, e, h⟩ := forL_idx I xs 0 ρ S (fun i hi ρ S hI => by
    have := hs i hi ρ S (by rw [Nat.zero_add] at hI; exact hI)
    rw [Nat.zero_add]
    exact this) h0
  rw [e]
  rw [Nat.zero_add] at h
  exact h1 ρ1 S1 h
theorem upto_ln : ∀ (n : Nat) (lo : Int), (upto lo n).length = n
  | 0, _ => rfl
  | n + 1, lo => by rw [upto, List.length_cons, upto_ln n]
theorem upto_get {n : Nat} {lo : Int} {i : Nat} {hi : i < (upto lo n).length} : (upto lo n)[i] = .int (lo + i) := by
  simp only [upto_map, List.getElem_map, List.getElem_range]
theorem forL_kU {f : Val → Env → Store → RS} {k : Env → Store → RS} {r : R Val} (I : Nat → Env → Store → Prop) {lo : Int} {n : Nat} {ρ : Env} {S : Store} (hs : ∀ (i : Nat), i < n → ∀ ρ S, I i ρ S → ∃ ρ1 S1, (f (.int (lo + i)) ρ S = .nx ρ1 S1 ∨ f (.int (lo + i)) ρ S = .cnt ρ1 S1) ∧ I (i + 1) ρ1 S1) (h0 : I 0 ρ S) (h1 : ∀ ρ1 S1, I n ρ1 S1 → ofBody (k ρ1 S1) = r) :
    ofBody ((forL f (upto lo n) ρ S).seq k) = r := by
  apply forL_kI I (fun i hi ρ S hI => ?_) h0 (fun ρ1 S1 h => h1 ρ1 S1 (by rwa [upto_ln] at h))
  rw [upto_get]
  exact hs i (by rwa [upto_ln] at hi) ρ S hI
theorem k2_ {j : Val → Val → Store → R Val} {b : E} : k2 j x b ρ v S = (evE x b ρ S).bind (j v) := rfl

theorem e_v0 : evE x (.v 0) (some v :: ρ) S = .ok v S := by simp only [evE]; rfl
theorem st_0 {o o1 : Option Val} : List.set (o :: ρ) 0 o1 = o1 :: ρ := rfl
theorem e_v1 {v0 : Option Val} : evE x (.v 1) (v0 :: some v :: ρ) S = .ok v S := by simp only [evE]; rfl
theorem st_1 {v0 : Option Val} {o o1 : Option Val} : List.set (v0 :: o :: ρ) 1 o1 = v0 :: o1 :: ρ := rfl
theorem e_v2 {v0 v1 : Option Val} : evE x (.v 2) (v0 :: v1 :: some v :: ρ) S = .ok v S := by simp only [evE]; rfl
theorem st_2 {v0 v1 : Option Val} {o o1 : Option Val} : List.set (v0 :: v1 :: o :: ρ) 2 o1 = v0 :: v1 :: o1 :: ρ := rfl
theorem e_v3 {v0 v1 v2 : Option Val} : evE x (.v 3) (v0 :: v1 :: v2 :: some v :: ρ) S = .ok v S := by simp only [evE]; rfl
theorem st_3 {v0 v1 v2 : Option Val} {o o1 : Option Val} : List.set (v0 :: v1 :: v2 :: o :: ρ) 3 o1 = v0 :: v1 :: v2 :: o1 :: ρ := rfl
theorem e_v4 {v0 v1 v2 v3 : Option Val} : evE x (.v 4) (v0 :: v1 :: v2 :: v3 :: some v :: ρ) S = .ok v S := by simp only [evE]; rfl
theorem st_4 {v0 v1 v2 v3 : Option Val} {o o1 : Option Val} : List.set (v0 :: v1 :: v2 :: v3 :: o :: ρ) 4 o1 = v0 :: v1 :: v2 :: v3 :: o1 :: ρ := rfl
theorem e_v5 {v0 v1 v2 v3 v4 : Option Val} : evE x (.v 5) (v0 :: v1 :: v2 :: v3 :: v4 :: some v :: ρ) S = .ok v S := by simp only [evE]; rfl
theorem st_5 {v0 v1 v2 v3 v4 : Option Val} {o o1 : Option Val} : List.set (v0 :: v1 :: v2 :: v3 :: v4 :: o :: ρ) 5 o1 = v0 :: v1 :: v2 :: v3 :: v4 :: o1 :: ρ := rfl
theorem e_v6 {v0 v1 v2 v3 v4 v5 : Option Val} : evE x (.v 6) (v0 :: v1 :: v2 :: v3 :: v4 :: v5 :: some v :: ρ) S = .ok v S := by simp only [evE]; rfl
theorem st_6 {v0 v1 v2 v3 v4 v5 : Option Val} {o o1 : Option Val} : List.set (v0 :: v1 :: v2 :: v3 :: v4 :: v5 :: o :: ρ) 6 o1 = v0 :: v1 :: v2 :: v3 :: v4 :: v5 :: o1 :: ρ := rfl
theorem e_v7 {v0 v1 v2 v3 v4 v5 v6 : Option Val} : evE x (.v 7) (v0 :: v1 :: v2 :: v3 :: v4 :: v5 :: v6 :: some v :: ρ) S = .ok v S := by simp only [evE]; rfl
theorem st_7 {v0 v1 v2 v3 v4 v5 v6 : Option Val} {o o1 : Option Val} : List.set (v0 :: v1 :: v2 :: v3 :: v4 :: v5 :: v6 :: o :: ρ) 7 o1 = v0 :: v1 :: v2 :: v3 :: v4 :: v5 :: v6 :: o1 :: ρ := rfl
theorem e_v8 {v0 v1 v2 v3 v4 v5 v6 v7 : Option Val} : evE x (.v 8) (v0 :: v1 :: v2 :: v3 :: v4 :: v5 :: v6 :: v7 :: some v :: ρ) S = .ok v S := by simp only [evE]; rfl
theorem st_8 {v0 v1 v2 v3 v4 v5 v6 v7 : Option Val} {o o1 : Option Val} : List.set (v0 :: v1 :: v2 :: v3 :: v4 :: v5 :: v6 :: v7 :: o :: ρ) 8 o1 = v0 :: v1 :: v2 :: v3 :: v4 :: v5 :: v6 :: v7 :: o1 :: ρ := rfl
theorem e_v9 {v0 v1 v2 v3 v4 v5 v6 v7 v8 : Option Val} : evE x (.v 9) (v0 :: v1 :: v2 :: v3 :: v4 :: v5 :: v6 :: v7 :: v8 :: some v :: ρ) S = .ok v S := by simp only [evE]; rfl
theorem st_9 {v0 v1 v2 v3 v4 v5 v6 v7 v8 : Option Val} {o o1 : Option Val} : List.set (v0 :: v1 :: v2 :: v3 :: v4 :: v5 :: v6 :: v7 :: v8 :: o :: ρ) 9 o1 = v0 :: v1 :: v2 :: v3 :: v4 :: v5 :: v6 :: v7 :: v8 :: o1 :: ρ := rfl
theorem e_v10 {v0 v1 v2 v3 v4 v5 v6 v7 v8 v9 : Option Val} : evE x (.v 10) (v0 :: v1 :: v2 :: v3 :: v4 :: v5 :: v6 :: v7 :: v8 :: v9 :: some v :: ρ) S = .ok v S := by simp only [evE]; rfl
theorem st_10 {v0 v1 v2 v3 v4 v5 v6 v7 v8 v9 : Option Val} {o o1 : Option Val} : List.set (v0 :: v1 :: v2 :: v3 :: v4 :: v5 :: v6 :: v7 :: v8 :: v9 :: o :: ρ) 10 o1 = v0 :: v1 :: v2 :: v3 :: v4 :: v5 :: v6 :: v7 :: v8 :: v9 :: o1 :: ρ := rfl
theorem e_v11 {v0 v1 v2 v3 v4 v5 v6 v7 v8 v9 v10 : Option Val} : evE x (.v 11) (v0 :: v1 :: v2 :: v3 :: v4 :: v5 :: v6 :: v7 :: v8 :: v9 :: v10 :: some v :: ρ) S = .ok v S := by simp only [evE]; rfl
theorem st_11 {v0 v1 v2 v3 v4 v5 v6 v7 v8 v9 v10 : Option Val} {o o1 : Option Val} : List.set (v0 :: v1 :: v2 :: v3 :: v4 :: v5 :: v6 :: v7 :: v8 :: v9 :: v10 :: o :: ρ) 11 o1 = v0 :: v1 :: v2 :: v3 :: v4 :: v5 :: v6 :: v7 :: v8 :: v9 :: v10 :: o1 :: ρ := rfl
theorem e_v12 {v0 v1 v2 v3 v4 v5 v6 v7 v8 v9 v10 v11 : Option Val} : evE x (.v 12) (v0 :: v1 :: v2 :: v3 :: v4 :: v5 :: v6 :: v7 :: v8 :: v9 :: v10 :: v11 :: some v :: ρ) S = .ok v S := by simp only [evE]; rfl
theorem st_12 {v0 v1 v2 v3 v4 v5 v6 v7 v8 v9 v10 v11 : Option Val} {o o1 : Option Val} : List.set (v0 :: v1 :: v2 :: v3 :: v4 :: v5 :: v6 :: v7 :: v8 :: v9 :: v10 :: v11 :: o :: ρ) 12 o1 = v0 :: v1 :: v2 :: v3 :: v4 :: v5 :: v6 :: v7 :: v8 :: v9 :: v10 :: v11 :: o1 :: ρ := rfl
theorem e_v13 {v0 v1 v2 v3 v4 v5 v6 v7 v8 v9 v10 v11 v12 : Option Val} : evE x (.v 13) (v0 :: v1 :: v2 :: v3 :: v4 :: v5 :: v6 :: v7 :: v8 :: v9 :: v10 :: v11 :: v12 :: some v :: ρ) S = .ok v S := by simp only [evE]; rfl
theorem st_13 {v0 v1 v2 v3 v4 v5 v6 v7 v8 v9 v10 v11 v12 : Option Val} {o o1 : Option Val} : List.set (v0 :: v1 :: v2 :: v3 :: v4 :: v5 :: v6 :: v7 :: v8 :: v9 :: v10 :: v11 :: v12 :: o :: ρ) 13 o1 = v0 :: v1 :: v2 :: v3 :: v4 :: v5 :: v6 :: v7 :: v8 :: v9 :: v10 :: v11 :: v12 :: o1 :: ρ := rfl
theorem e_v14 {v0 v1 v2 v3 v4 v5 v6 v7 v8 v9 v10 v11 v12 v13 : Option Val} : evE x (.v 14) (v0 :: v1 :: v2 :: v3 :: v4 :: v5 :: v6 :: v7 :: v8 :: v9 :: v10 :: v11 :: v12 :: v13 :: some v :: ρ) S = .ok v S := by simp only [evE]; rfl
theorem st_14 {v0 v1 v2 v3 v4 v5 v6 v7 v8 v9 v10 v11 v12 v13 : Option Val} {o o1 : Option Val} : List.set (v0 :: v1 :: v2 :: v3 :: v4 :: v5 :: v6 :: v7 :: v8 :: v9 :: v10 :: v11 :: v12 :: v13 :: o :: ρ) 14 o1 = v0 :: v1 :: v2 :: v3 :: v4 :: v5 :: v6 :: v7 :: v8 :: v9 :: v10 :: v11 :: v12 :: v13 :: o1 :: ρ := rfl
theorem e_v15 {v0 v1 v2 v3 v4 v5 v6 v7 v8 v9 v10 v11 v12 v13 v14 : Option Val} : evE x (.v 15) (v0 :: v1 :: v2 :: v3 :: v4 :: v5 :: v6 :: v7 :: v8 :: v9 :: v10 :: v11 :: v12 :: v13 :: v14 :: some v :: ρ) S = .ok v S := by simp only [evE]; rfl
theorem st_15 {v0 v1 v2 v3 v4 v5 v6 v7 v8 v9 v10 v11 v12 v13 v14 : Option Val} {o o1 : Option Val} : List.set (v0 :: v1 :: v2 :: v3 :: v4 :: v5 :: v6 :: v7 :: v8 :: v9 :: v10 :: v11 :: v12 :: v13 :: v14 :: o :: ρ) 15 o1 = v0 :: v1 :: v2 :: v3 :: v4 :: v5 :: v6 :: v7 :: v8 :: v9 :: v10 :: v11 :: v12 :: v13 :: v14 :: o1 :: ρ := rfl
theorem e_v16 {v0 v1 v2 v3 v4 v5 v6 v7 v8 v9 v10 v11 v12 v13 v14 v15 : Option Val} : evE x (.v 16) (v0 :: v1 :: v2 :: v3 :: v4 :: v5 :: v6 :: v7 :: v8 :: v9 :: v10 :: v11 :: v12 :: v13 :: v14 :: v15 :: some v :: ρ) S = .ok v S := by simp only [evE]; rfl
theorem st_16 {v0 v1 v2 v3 v4 v5 v6 v7 v8 v9 v10 v11 v12 v13 v14 v15 : Option Val} {o o1 : Option Val} : List.set (v0 :: v1 :: v2 :: v3 :: v4 :: v5 :: v6 :: v7 :: v8 :: v9 :: v10 :: v11 :: v12 :: v13 :: v14 :: v15 :: o :: ρ) 16 o1 = v0 :: v1 :: v2 :: v3 :: v4 :: v5 :: v6 :: v7 :: v8 :: v9 :: v10 :: v11 :: v12 :: v13 :: v14 :: v15 :: o1 :: ρ := rfl
theorem e_v17 {v0 v1 v2 v3 v4 v5 v6 v7 v8 v9 v10 v11 v12 v13 v14 v15 v16 : Option Val} : evE x (.v 17) (v0 :: v1 :: v2 :: v3 :: v4 :: v5 :: v6 :: v7 :: v8 :: v9 :: v10 :: v11 :: v12 :: v13 :: v14 :: v15 :: v16 :: some v :: ρ) S = .ok v S := by simp only [evE]; rfl
theorem st_17 {v0 v1 v2 v3 v4 v5 v6 v7 v8 v9 v10 v11 v12 v13 v14 v15 v16 : Option Val} {o o1 : Option Val} : List.set (v0 :: v1 :: v2 :: v3 :: v4 :: v5 :: v6 :: v7 :: v8 :: v9 :: v10 :: v11 :: v12 :: v13 :: v14 :: v15 :: v16 :: o :: ρ) 17 o1 = v0 :: v1 :: v2 :: v3 :: v4 :: v5 :: v6 :: v7 :: v8 :: v9 :: v10 :: v11 :: v12 :: v13 :: v14 :: v15 :: v16 :: o1 :: ρ := rfl
theorem e_v18 {v0 v1 v2 v3 v4 v5 v6 v7 v8 v9 v10 v11 v12 v13 v14 v15 v16 v17 : Option Val} : evE x (.v 18) (v0 :: v1 :: v2 :: v3 :: v4 :: v5 :: v6 :: v7 :: v8 :: v9 :: v10 :: v11 :: v12 :: v13 :: v14 :: v15 :: v16 :: v17 :: some v :: ρ) S = .ok v S := by simp only [evE]; rfl
theorem st_18 {v0 v1 v2 v3 v4 v5 v6 v7 v8 v9 v10 v11 v12 v13 v14 v15 v16 v17 : Option Val} {o o1 : Option Val} : List.set (v0 :: v1 :: v2 :: v3 :: v4 :: v5 :: v6 :: v7 :: v8 :: v9 :: v10 :: v11 :: v12 :: v13 :: v14 :: v15 :: v16 :: v17 :: o :: ρ) 18 o1 = v0 :: v1 :: v2 :: v3 :: v4 :: v5 :: v6 :: v7 :: v8 :: v9 :: v10 :: v11 :: v12 :: v13 :: v14 :: v15 :: v16 :: v17 :: o1 :: ρ := rfl
theorem e_v19 {v0 v1 v2 v3 v4 v5 v6 v7 v8 v9 v10 v11 v12 v13 v14 v15 v16 v17 v18 : Option Val} : evE x (.v 19) (v0 :: v1 :: v2 :: v3 :: v4 :: v5 :: v6 :: v7 :: v8 :: v9 :: v10 :: v11 :: v12 :: v13 :: v14 :: v15 :: v16 :: v17 :: v18 :: some v :: ρ) S = .ok v S := by simp only [evE]; rfl
theorem st_19 {v0 v1 v2 v3 v4 v5 v6 v7 v8 v9 v10 v11 v12 v13 v14 v15 v16 v17 v18 : Option Val} {o o1 : Option Val} : List.set (v0 :: v1 :: v2 :: v3 :: v4 :: v5 :: v6 :: v7 :: v8 :: v9 :: v10 :: v11 :: v12 :: v13 :: v14 :: v15 :: v16 :: v17 :: v18 :: o :: ρ) 19 o1 = v0 :: v1 :: v2 :: v3 :: v4 :: v5 :: v6 :: v7 :: v8 :: v9 :: v10 :: v11 :: v12 :: v13 :: v14 :: v15 :: v16 :: v17 :: v18 :: o1 :: ρ := rfl
theorem e_v20 {v0 v1 v2 v3 v4 v5 v6 v7 v8 v9 v10 v11 v12 v13 v14 v15 v16 v17 v18 v19 : Option Val} : evE x (.v 20) (v0 :: v1 :: v2 :: v3 :: v4 :: v5 :: v6 :: v7 :: v8 :: v9 :: v10 :: v11 :: v12 :: v13 :: v14 :: v15 :: v16 :: v17 :: v18 :: v19 :: some v :: ρ) S = .ok v S := by simp only [evE]; rfl
theorem st_20 {v0 v1 v2 v3 v4 v5 v6 v7 v8 v9 v10 v11 v12 v13 v14 v15 v16 v17 v18 v19 : Option Val} {o o1 : Option Val} : List.set (v0 :: v1 :: v2 :: v3 :: v4 :: v5 :: v6 :: v7 :: v8 :: v9 :: v10 :: v11 :: v12 :: v13 :: v14 :: v15 :: v16 :: v17 :: v18 :: v19 :: o :: ρ) 20 o1 = v0 :: v1 :: v2 :: v3 :: v4 :: v5 :: v6 :: v7 :: v8 :: v9 :: v10 :: v11 :: v12 :: v13 :: v14 :: v15 :: v16 :: v17 :: v18 :: v19 :: o1 :: ρ := rfl
theorem e_v21 {v0 v1 v2 v3 v4 v5 v6 v7 v8 v9 v10 v11 v12 v13 v14 v15 v16 v17 v18 v19 v20 : Option Val} : evE x (.v 21) (v0 :: v1 :: v2 :: v3 :: v4 :: v5 :: v6 :: v7 :: v8 :: v9 :: v10 :: v11 :: v12 :: v13 :: v14 :: v15 :: v16 :: v17 :: v18 :: v19 :: v20 :: some v :: ρ) S = .ok v S := by simp only [evE]; rfl
theorem st_21 {v0 v1 v2 v3 v4 v5 v6 v7 v8 v9 v10 v11 v12 v13 v14 v15 v16 v17 v18 v19 v20 : Option Val} {o o1 : Option Val} : List.set (v0 :: v1 :: v2 :: v3 :: v4 :: v5 :: v6 :: v7 :: v8 :: v9 :: v10 :: v11 :: v12 :: v13 :: v14 :: v15 :: v16 :: v17 :: v18 :: v19 :: v20 :: o :: ρ) 21 o1 = v0 :: v1 :: v2 :: v3 :: v4 :: v5 :: v6 :: v7 :: v8 :: v9 :: v10 :: v11 :: v12 :: v13 :: v14 :: v15 :: v16 :: v17 :: v18 :: v19 :: v20 :: o1 :: ρ := rfl
theorem e_v22 {v0 v1 v2 v3 v4 v5 v6 v7 v8 v9 v10 v11 v12 v13 v14 v15 v16 v17 v18 v19 v20 v21 : Option Val} : evE x (.v 22) (v0 :: v1 :: v2 :: v3 :: v4 :: v5 :: v6 :: v7 :: v8 :: v9 :: v10 :: v11 :: v12 :: v13 :: v14 :: v15 :: v16 :: v17 :: v18 :: v19 :: v20 :: v21 :: some v :: ρ) S = .ok v S := by simp only [evE]; rfl
theorem st_22 {v0 v1 v2 v3 v4 v5 v6 v7 v8 v9 v10 v11 v12 v13 v14 v15 v16 v17 v18 v19 v20 v21 : Option Val} {o o1 : Option Val} : List.set (v0 :: v1 :: v2 :: v3 :: v4 :: v5 :: v6 :: v7 :: v8 :: v9 :: v10 :: v11 :: v12 :: v13 :: v14 :: v15 :: v16 :: v17 :: v18 :: v19 :: v20 :: v21 :: o :: ρ) 22 o1 = v0 :: v1 :: v2 :: v3 :: v4 :: v5 :: v6 :: v7 :: v8 :: v9 :: v10 :: v11 :: v12 :: v13 :: v14 :: v15 :: v16 :: v17 :: v18 :: v19 :: v20 :: v21 :: o1 :: ρ := rfl
theorem e_v23 {v0 v1 v2 v3 v4 v5 v6 v7 v8 v9 v10 v11 v12 v13 v14 v15 v16 v17 v18 v19 v20 v21 v22 : Option Val} : evE x (.v 23) (v0 :: v1 :: v2 :: v3 :: v4 :: v5 :: v6 :: v7 :: v8 :: v9 :: v10 :: v11 :: v12 :: v13 :: v14 :: v15 :: v16 :: v17 :: v18 :: v19 :: v20 :: v21 :: v22 :: some v :: ρ) S = .ok v S := by simp only [evE]; rfl
theorem st_23 {v0 v1 v2 v3 v4 v5 v6 v7 v8 v9 v10 v11 v12 v13 v14 v15 v16 v17 v18 v19 v20 v21 v22 : Option Val} {o o1 : Option Val} : List.set (v0 :: v1 :: v2 :: v3 :: v4 :: v5 :: v6 :: v7 :: v8 :: v9 :: v10 :: v11 :: v12 :: v13 :: v14 :: v15 :: v16 :: v17 :: v18 :: v19 :: v20 :: v21 :: v22 :: o :: ρ) 23 o1 = v0 :: v1 :: v2 :: v3 :: v4 :: v5 :: v6 :: v7 :: v8 :: v9 :: v10 :: v11 :: v12 :: v13 :: v14 :: v15 :: v16 :: v17 :: v18 :: v19 :: v20 :: v21 :: v22 :: o1 :: ρ := rfl
theorem e_v24 {v0 v1 v2 v3 v4 v5 v6 v7 v8 v9 v10 v11 v12 v13 v14 v15 v16 v17 v18 v19 v20 v21 v22 v23 : Option Val} : evE x (.v 24) (v0 :: v1 :: v2 :: v3 :: v4 :: v5 :: v6 :: v7 :: v8 :: v9 :: v10 :: v11 :: v12 :: v13 :: v14 :: v15 :: v16 :: v17 :: v18 :: v19 :: v20 :: v21 :: v22 :: v23 :: some v :: ρ) S = .ok v S := by simp only [evE]; rfl
theorem st_24 {v0 v1 v2 v3 v4 v5 v6 v7 v8 v9 v10 v11 v12 v13 v14 v15 v16 v17 v18 v19 v20 v21 v22 v23 : Option Val} {o o1 : Option Val} : List.set (v0 :: v1 :: v2 :: v3 :: v4 :: v5 :: v6 :: v7 :: v8 :: v9 :: v10 :: v11 :: v12 :: v13 :: v14 :: v15 :: v16 :: v17 :: v18 :: v19 :: v20 :: v21 :: v22 :: v23 :: o :: ρ) 24 o1 = v0 :: v1 :: v2 :: v3 :: v4 :: v5 :: v6 :: v7 :: v8 :: v9 :: v10 :: v11 :: v12 :: v13 :: v14 :: v15 :: v16 :: v17 :: v18 :: v19 :: v20 :: v21 :: v22 :: v23 :: o1 :: ρ := rfl
theorem e_v25 {v0 v1 v2 v3 v4 v5 v6 v7 v8 v9 v10 v11 v12 v13 v14 v15 v16 v17 v18 v19 v20 v21 v22 v23 v24 : Option Val} : evE x (.v 25) (v0 :: v1 :: v2 :: v3 :: v4 :: v5 :: v6 :: v7 :: v8 :: v9 :: v10 :: v11 :: v12 :: v13 :: v14 :: v15 :: v16 :: v17 :: v18 :: v19 :: v20 :: v21 :: v22 :: v23 :: v24 :: some v :: ρ) S = .ok v S := by simp only [evE]; rfl
theorem st_25 {v0 v1 v2 v3 v4 v5 v6 v7 v8 v9 v10 v11 v12 v13 v14 v15 v16 v17 v18 v19 v20 v21 v22 v23 v24 : Option Val} {o o1 : Option Val} : List.set (v0 :: v1 :: v2 :: v3 :: v4 :: v5 :: v6 :: v7 :: v8 :: v9 :: v10 :: v11 :: v12 :: v13 :: v14 :: v15 :: v16 :: v17 :: v18 :: v19 :: v20 :: v21 :: v22 :: v23 :: v24 :: o :: ρ) 25 o1 = v0 :: v1 :: v2 :: v3 :: v4 :: v5 :: v6 :: v7 :: v8 :: v9 :: v10 :: v11 :: v12 :: v13 :: v14 :: v15 :: v16 :: v17 :: v18 :: v19 :: v20 :: v21 :: v22 :: v23 :: v24 :: o1 :: ρ := rfl
theorem e_v26 {v0 v1 v2 v3 v4 v5 v6 v7 v8 v9 v10 v11 v12 v13 v14 v15 v16 v17 v18 v19 v20 v21 v22 v23 v24 v25 : Option Val} : evE x (.v 26) (v0 :: v1 :: v2 :: v3 :: v4 :: v5 :: v6 :: v7 :: v8 :: v9 :: v10 :: v11 :: v12 :: v13 :: v14 :: v15 :: v16 :: v17 :: v18 :: v19 :: v20 :: v21 :: v22 :: v23 :: v24 :: v25 :: some v :: ρ) S = .ok v S := by simp only [evE]; rfl
theorem st_26 {v0 v1 v2 v3 v4 v5 v6 v7 v8 v9 v10 v11 v12 v13 v14 v15 v16 v17 v18 v19 v20 v21 v22 v23 v24 v25 : Option Val} {o o1 : Option Val} : List.set (v0 :: v1 :: v2 :: v3 :: v4 :: v5 :: v6 :: v7 :: v8 :: v9 :: v10 :: v11 :: v12 :: v13 :: v14 :: v15 :: v16 :: v17 :: v18 :: v19 :: v20 :: v21 :: v22 :: v23 :: v24 :: v25 :: o :: ρ) 26 o1 = v0 :: v1 :: v2 :: v3 :: v4 :: v5 :: v6 :: v7 :: v8 :: v9 :: v10 :: v11 :: v12 :: v13 :: v14 :: v15 :: v16 :: v17 :: v18 :: v19 :: v20 :: v21 :: v22 :: v23 :: v24 :: v25 :: o1 :: ρ := rfl
theorem e_v27 {v0 v1 v2 v3 v4 v5 v6 v7 v8 v9 v10 v11 v12 v13 v14 v15 v16 v17 v18 v19 v20 v21 v22 v23 v24 v25 v26 : Option Val} : evE x (.v 27) (v0 :: v1 :: v2 :: v3 :: v4 :: v5 :: v6 :: v7 :: v8 :: v9 :: v10 :: v11 :: v12 :: v13 :: v14 :: v15 :: v16 :: v17 :: v18 :: v19 :: v20 :: v21 :: v22 :: v23 :: v24 :: v25 :: v26 :: some v :: ρ) S = .ok v S := by simp only [evE]; rfl
theorem st_27 {v0 v1 v2 v3 v4 v5 v6 v7 v8 v9 v10 v11 v12 v13 v14 v15 v16 v17 v18 v19 v20 v21 v22 v23 v24 v25 v26 : Option Val} {o o1 : Option Val} : List.set (v0 :: v1 :: v2 :: v3 :: v4 :: v5 :: v6 :: v7 :: v8 :: v9 :: v10 :: v11 :: v12 :: v13 :: v14 :: v15 :: v16 :: v17 :: v18 :: v19 :: v20 :: v21 :: v22 :: v23 :: v24 :: v25 :: v26 :: o :: ρ) 27 o1 = v0 :: v1 :: v2 :: v3 :: v4 :: v5 :: v6 :: v7 :: v8 :: v9 :: v10 :: v11 :: v12 :: v13 :: v14 :: v15 :: v16 :: v17 :: v18 :: v19 :: v20 :: v21 :: v22 :: v23 :: v24 :: v25 :: v26 :: o1 :: ρ := rfl
theorem e_v28 {v0 v1 v2 v3 v4 v5 v6 v7 v8 v9 v10 v11 v12 v13 v14 v15 v16 v17 v18 v19 v20 v21 v22 v23 v24 v25 v26 v27 : Option Val} : evE x (.v 28) (v0 :: v1 :: v2 :: v3 :: v4 :: v5 :: v6 :: v7 :: v8 :: v9 :: v10 :: v11 :: v12 :: v13 :: v14 :: v15 :: v16 :: v17 :: v18 :: v19 :: v20 :: v21 :: v22 :: v23 :: v24 :: v25 :: v26 :: v27 :: some v :: ρ) S = .ok v S := by simp only [evE]; rfl
theorem st_28 {v0 v1 v2 v3 v4 v5 v6 v7 v8 v9 v10 v11 v12 v13 v14 v15 v16 v17 v18 v19 v20 v21 v22 v23 v24 v25 v26 v27 : Option Val} {o o1 : Option Val} : List.set (v0 :: v1 :: v2 :: v3 :: v4 :: v5 :: v6 :: v7 :: v8 :: v9 :: v10 :: v11 :: v12 :: v13 :: v14 :: v15 :: v16 :: v17 :: v18 :: v19 :: v20 :: v21 :: v22 :: v23 :: v24 :: v25 :: v26 :: v27 :: o :: ρ) 28 o1 = v0 :: v1 :: v2 :: v3 :: v4 :: v5 :: v6 :: v7 :: v8 :: v9 :: v10 :: v11 :: v12 :: v13 :: v14 :: v15 :: v16 :: v17 :: v18 :: v19 :: v20 :: v21 :: v22 :: v23 :: v24 :: v25 :: v26 :: v27 :: o1 :: ρ := rfl
theorem e_v29 {v0 v1 v2 v3 v4 v5 v6 v7 v8 v9 v10 v11 v12 v13 v14 v15 v16 v17 v18 v19 v20 v21 v22 v23 v24 v25 v26 v27 v28 : Option Val} : evE x (.v 29) (v0 :: v1 :: v2 :: v3 :: v4 :: v5 :: v6 :: v7 :: v8 :: v9 :: v10 :: v11 :: v12 :: v13 :: v14 :: v15 :: v16 :: v17 :: v18 :: v19 :: v20 :: v21 :: v22 :: v23 :: v24 :: v25 :: v26 :: v27 :: v28 :: some v :: ρ) S = .ok v S := by simp only [evE]; rfl
theorem st_29 {v0 v1 v2 v3 v4 v5 v6 v7 v8 v9 v10 v11 v12 v13 v14 v15 v16 v17 v18 v19 v20 v21 v22 v23 v24 v25 v26 v27 v28 : Option Val} {o o1 : Option Val} : List.set (v0 :: v1 :: v2 :: v3 :: v4 :: v5 :: v6 :: v7 :: v8 :: v9 :: v10 :: v11 :: v12 :: v13 :: v14 :: v15 :: v16 :: v17 :: v18 :: v19 :: v20 :: v21 :: v22 :: v23 :: v24 :: v25 :: v26 :: v27 :: v28 :: o :: ρ) 29 o1 = v0 :: v1 :: v2 :: v3 :: v4 :: v5 :: v6 :: v7 :: v8 :: v9 :: v10 :: v11 :: v12 :: v13 :: v14 :: v15 :: v16 :: v17 :: v18 :: v19 :: v20 :: v21 :: v22 :: v23 :: v24 :: v25 :: v26 :: v27 :: v28 :: o1 :: ρ := rfl

theorem e_k {c : Cn} : evE x (.k c) ρ S = .ok (cnV c) S := by simp only [evE]
theorem e_gl {s : Str} {c : Val} : evE x (.gl s c) ρ S = .ok c S := by simp only [evE]
def j_op2 (o : Op) (v w : Val) (S : Store) : R Val := R.of (op2 o (deref S v) (deref S w)) S
theorem j_op2_ {o : Op} : j_op2 o v w S = R.of (op2 o (deref S v) (deref S w)) S := rfl
theorem e_op2 {o : Op} {a b : E} : evE x (.op2 o a b) ρ S = (evE x a ρ S).bind (k2 (j_op2 o) x b ρ) := by
  simp only [evE]
  rfl
def j_rep2 (vs : List Val) (w : Val) (S : Store) : R Val := match w with
  | .int j => if 0 ≤ j ∧ j < 100000 ∧ szb (vs.length * j.toNat) = true then .ok (.lst (List.replicate j.toNat vs).flatten) S else .stuck
  | _ => .stuck
def j_rep (x : Cfg) (b : E) (ρ : Env) (vs : List Val) (S : Store) : R Val := if szb vs.length = true then (evE x b ρ S).bind (j_rep2 vs) else .stuck
theorem j_rep_ {b : E} : j_rep x b ρ vs S = if szb vs.length = true then (evE x b ρ S).bind (j_rep2 vs) else .stuck := rfl
theorem e_rep {es : List E} {b : E} : evE x (.rep es b) ρ S = (evs x es ρ S).bind (j_rep x b ρ) := by
  simp only [evE]
  first | rfl | (congr; done)
theorem j_rep2_ {j : Int} (h : 0 ≤ j ∧ j < 100000 ∧ szb (vs.length * j.toNat) = true) : j_rep2 vs (.int j) S = .ok (.lst (List.replicate j.toNat vs).flatten) S := by
  simp only [j_rep2, h, and_self, if_true]
def j_neg (v : Val) (S : Store) : R Val := match v with
  | .int i => .ok (.int (-i)) S
  | _ => .stuck
theorem e_neg {a : E} : evE x (.neg a) ρ S = (evE x a ρ S).bind j_neg := by
  simp only [evE]
  first | rfl | (congr; done) | (congr; funext v S1; cases v <;> rfl)
theorem j_neg_ {j : Int} : j_neg (.int j) S = .ok (.int (-j)) S := rfl
def j_cmp (o : Cp) (v w : Val) (S : Store) : R Val := obl (cpO o S v w) S
theorem j_cmp_ {o : Cp} : j_cmp o v w S = obl (orO (cpV o (deref S v) (look S w)) (dcp o S v w)) S := rfl
theorem orO_s {b : Bool} {p : Option Bool} : orO (some b) p = some b := rfl
theorem e_cmp {o : Cp} {a b : E} : evE x (.cmp o a b) ρ S = (evE x a ρ S).bind (k2 (j_cmp o) x b ρ) := by
  simp only [evE]
  rfl
def j_ch3 (o2 : Cp) (w u : Val) (S : Store) : R Val := obl (cpV o2 w u) S
theorem j_ch3_ {o2 : Cp} : j_ch3 o2 w u S = obl (cpV o2 w u) S := rfl
def chV (x : Cfg) (o2 : Cp) (c : E) (ρ : Env) (w : Val) (S : Store) (o : Option Bool) : R Val := match o with
  | some b => if b = true then (evE x c ρ S).bind (j_ch3 o2 w) else .ok (.bl false) S
  | none => .stuck
theorem chV_b {o2 : Cp} {c : E} {b : Bool} : chV x o2 c ρ w S (some b) = if b = true then (evE x c ρ S).bind (j_ch3 o2 w) else .ok (.bl false) S := rfl
def j_ch2 (x : Cfg) (o1 o2 : Cp) (c : E) (ρ : Env) (v w : Val) (S : Store) : R Val := chV x o2 c ρ w S (cpV o1 v w)
theorem j_ch2_ {o1 o2 : Cp} {c : E} : j_ch2 x o1 o2 c ρ v w S = chV x o2 c ρ w S (cpV o1 v w) := rfl
theorem e_ch {o1 o2 : Cp} {a b c : E} : evE x (.ch o1 o2 a b c) ρ S = (evE x a ρ S).bind (k2 (j_ch2 x o1 o2 c ρ) x b ρ) := by
  simp only [evE]
  congr
def j_cu3 (x : Cfg) (o2 o3 : Cp) (d : E) (ρ : Env) (w u : Val) (S : Store) : R Val := chV x o3 d ρ u S (cpV o2 w u)
theorem j_cu3_ {o2 o3 : Cp} {d : E} : j_cu3 x o2 o3 d ρ w u S = chV x o3 d ρ u S (cpV o2 w u) := rfl
def cuV (x : Cfg) (o2 o3 : Cp) (c d : E) (ρ : Env) (w : Val) (S : Store) : Option Bool → R Val
  | some b => if b = true then (evE x c ρ S).bind (j_cu3 x o2 o3 d ρ w) else .ok (.bl false) S
  | none => .stuck
theorem cuV_b {o2 o3 : Cp} {c d : E} {b : Bool} : cuV x o2 o3 c d ρ w S (some b) = if b = true then (evE x c ρ S).bind (j_cu3 x o2 o3 d ρ w) else .ok (.bl false) S := rfl
def j_cu2 (x : Cfg) (o1 o2 o3 : Cp) (c d : E) (ρ : Env) (v w : Val) (S : Store) : R Val := cuV x o2 o3 c d ρ w S (cpV o1 v w)
theorem j_cu2_ {o1 o2 o3 : Cp} {c d : E} : j_cu2 x o1 o2 o3 c d ρ v w S = cuV x o2 o3 c d ρ w S (cpV o1 v w) := rfl
theorem e_ch3 {o1 o2 o3 : Cp} {a b c d : E} : evE x (.ch3 o1 o2 o3 a b c d) ρ S = (evE x a ρ S).bind (k2 (j_cu2 x o1 o2 o3 c d ρ) x b ρ) := by
  simp only [evE]
  congr
theorem e_bop {k : Bool} {es : List E} : evE x (.bop k es) ρ S = evB x k es ρ S := by simp only [evE]
def j_nt (v : Val) (S : Store) : R Val := match v with
  | .bl b => .ok (.bl (!b)) S
  | _ => .stuck
theorem e_nt {a : E} : evE x (.nt a) ρ S = (evE x a ρ S).bind j_nt := by
  simp only [evE]
  first | rfl | (congr; done) | (congr; funext v S1; cases v <;> rfl)
theorem j_nt_ {b : Bool} : j_nt (.bl b) S = .ok (.bl (!b)) S := rfl
def j_ife (x : Cfg) (a b : E) (ρ : Env) (v : Val) (S : Store) : R Val := match v with
  | .bl c => if c = true then evE x a ρ S else evE x b ρ S
  | _ => .stuck
theorem j_ife_ {a b : E} {c : Bool} : j_ife x a b ρ (.bl c) S = if c = true then evE x a ρ S else evE x b ρ S := rfl
theorem e_ife {t a b : E} : evE x (.ife t a b) ρ S = (evE x t ρ S).bind (j_ife x a b ρ) := by
  simp only [evE]
  first | rfl | (congr; done) | (congr; funext v S1; cases v <;> rfl)
def szt (b : Bool) (A : R Val) : R Val := if b = true then A else .stuck
theorem szt_t {A : R Val} : szt true A = A := rfl
def j_tup (vs : List Val) (S : Store) : R Val := szt (szb vs.length) (.ok (.tup vs) S)
theorem j_tup_ : j_tup vs S = szt (szb vs.length) (.ok (.tup vs) S) := rfl
def j_lst (vs : List Val) (S : Store) : R Val := szt (szb vs.length) (.ok (.lst vs) S)
theorem j_lst_ : j_lst vs S = szt (szb vs.length) (.ok (.lst vs) S) := rfl
theorem e_tup {es : List E} : evE x (.tup es) ρ S = (evs x es ρ S).bind j_tup := by
  simp only [evE]
  rfl
theorem e_lst {es : List E} : evE x (.lst es) ρ S = (evs x es ρ S).bind j_lst := by
  simp only [evE]
  rfl
def j_ix (v w : Val) (S : Store) : R Val := R.of (ixV (look S v) w) S
theorem j_ix_ : j_ix v w S = R.of (ixV (look S v) w) S := rfl
theorem e_ix {a b : E} : evE x (.ix a b) ρ S = (evE x a ρ S).bind (k2 j_ix x b ρ) := by
  simp only [evE]
  rfl
def j_sl3 (v : Val) (l h : Option Int) (S : Store) : R Val := R.of (slV (deref S v) l h) S
theorem j_sl3_ {l h : Option Int} : j_sl3 v l h S = R.of (slV (deref S v) l h) S := rfl
def j_sl2 (x : Cfg) (hi : Option E) (ρ : Env) (v : Val) (l : Option Int) (S : Store) : R Val := (evO x hi ρ S).bind (j_sl3 v l)
theorem j_sl2_ {hi : Option E} {l : Option Int} : j_sl2 x hi ρ v l S = (evO x hi ρ S).bind (j_sl3 v l) := rfl
def j_sl (x : Cfg) (lo hi : Option E) (ρ : Env) (v : Val) (S : Store) : R Val := (evO x lo ρ S).bind (j_sl2 x hi ρ v)
theorem j_sl_ {lo hi : Option E} : j_sl x lo hi ρ v S = (evO x lo ρ S).bind (j_sl2 x hi ρ v) := rfl
theorem e_sl {a : E} {lo hi : Option E} : evE x (.sl a lo hi) ρ S = (evE x a ρ S).bind (j_sl x lo hi ρ) := by
  simp only [evE]
  rfl
theorem e_call {f : Nat} {es : List E} : evE x (.call f es) ρ S = (evs x es ρ S).bind (x.cl f) := by simp only [evE]
def fldQ (b : Bool) (o : Option Val) (S : Store) : R Val := if b = true then R.of o S else .stuck
theorem fldQ_t {o : Option Val} : fldQ true o S = R.of o S := rfl
def j_fld (G : Prog) (f : Nat) (v : Val) (S : Store) : R Val := match fieldsO v with
  | some (c, fs) => fldQ (fldV G c f) (fget f fs) S
  | none => .stuck
theorem j_fld_ {G : Prog} {f k : Nat} {fs : List (Nat × Val)} : j_fld G f (.obj k fs) S = fldQ (fldV G k f) (fget f fs) S := rfl
theorem e_fld {a : E} {f : Nat} : evE x (.fld a f) ρ S = (evE x a ρ S).bind (j_fld x.G f) := by
  simp only [evE]
  rfl
theorem e_mk {f : Nat} {es : List E} : evE x (.mk f es) ρ S = (evs x es ρ S).bind (mkObj x f) := by simp only [evE]
def callF (x : Cfg) (f : Nat) (v : Val) (vs : List Val) (S : Store) : R Val := x.cl f (v :: vs) S
theorem callF_ {f : Nat} : callF x f v vs S = x.cl f (v :: vs) S := rfl
def mthR (x : Cfg) (es : List E) (ρ : Env) (v : Val) (S : Store) (o : Option Nat) : R Val := match o with
  | some f => (evs x es ρ S).bind (callF x f v)
  | none => .stuck
theorem mthR_s {es : List E} {f : Nat} : mthR x es ρ v S (some f) = (evs x es ρ S).bind (callF x f v) := rfl
def j_mth (x : Cfg) (es : List E) (m : Nat) (ρ : Env) (v : Val) (S : Store) : R Val := mthR x es ρ v S (mthOf x.G v m)
theorem j_mth_ {es : List E} {m : Nat} : j_mth x es m ρ v S = mthR x es ρ v S (mthOf x.G v m) := rfl
theorem e_mth {o : E} {f : Nat} {es : List E} : evE x (.mth o f es) ρ S = (evE x o ρ S).bind (j_mth x es f ρ) := by
  simp only [evE]
  congr
theorem fg_hit {f : Nat} {r : List (Nat × Val)} : fget f ((f, v) :: r) = some v := by simp only [fget, if_true]
theorem fg_miss {f a : Nat} {r : List (Nat × Val)} (h : a ≠ f) : fget f ((a, v) :: r) = fget f r := by simp only [fget, if_neg h]
theorem fg_nil {f : Nat} : fget f [] = none := rfl
theorem fp_hit {f : Nat} {r : List (Nat × Val)} : fput f w ((f, v) :: r) = (f, w) :: r := by simp only [fput, if_true]
theorem fp_miss {f a : Nat} {r : List (Nat × Val)} (h : a ≠ f) : fput f w ((a, v) :: r) = (a, v) :: fput f w r := by simp only [fput, if_neg h]
theorem fp_nil {f : Nat} : fput f w [] = [(f, w)] := rfl
theorem mk_ok {c f : Nat} {C : Cls} {fs : List (Nat × Val)} (hC : x.G.cls c = some C) (hi : C.ini = some f) (hv : C.val = true ∧ C.exc = false) (h : x.ini f c [] vs S = .ok fs S1) : mkObj x c vs S = .ok (.obj c fs) S1 := by
  simp only [mkObj, hC, hi, h, hv, and_self, if_true]
theorem mk_exn {c f e : Nat} {C : Cls} (hC : x.G.cls c = some C) (hi : C.ini = some f) (h : x.ini f c [] vs S = .exn e S1) : mkObj x c vs S = .exn e S1 := by
  simp only [mkObj, hC, hi, h]
def j_bi (b : Bi) (vs : List Val) (S : Store) : R Val := R.of (biV b (vs.map (deref S))) S
theorem j_bi_ {b : Bi} : j_bi b vs S = R.of (biV b (vs.map (deref S))) S := rfl
theorem e_bi {b : Bi} {es : List E} : evE x (.bi b es) ρ S = (evs x es ρ S).bind (j_bi b) := by
  simp only [evE]
  rfl
def j_bm2 (b : Bm) (v : Val) (vs : List Val) (S : Store) : R Val := R.of (bmV b (look S v) vs) S
theorem j_bm2_ {b : Bm} : j_bm2 b v vs S = R.of (bmV b (look S v) vs) S := rfl
def j_bm (x : Cfg) (b : Bm) (es : List E) (ρ : Env) (v : Val) (S : Store) : R Val := (evs x es ρ S).bind (j_bm2 b v)
theorem j_bm_ {b : Bm} {es : List E} : j_bm x b es ρ v S = (evs x es ρ S).bind (j_bm2 b v) := rfl
theorem e_bm {b : Bm} {o : E} {es : List E} : evE x (.bm b o es) ρ S = (evE x o ρ S).bind (j_bm x b es ρ) := by
  simp only [evE]
  rfl
def skV (x : Cfg) (f : Nat) (v : Val) (S : Store) : R Val := match deref S v with
  | .lst xs => (match sortK xs with
    | some ys => .ok (.lst ys) S
    | none => .stuck)
  | _ => .stuck
theorem e_sortk {f : Nat} {a : E} : evE x (.sortk f a) ρ S = (evE x a ρ S).bind (skV x f) := by
  simp only [evE]
  rfl
def j_isi (G : Prog) (t : Ty) (v : Val) (S : Store) : R Val := obl (tyV G S (deref S v) t) S
theorem j_isi_ {G : Prog} {t : Ty} : j_isi G t v S = obl (tyV G S (deref S v) t) S := rfl
theorem e_isi {a : E} {t : Ty} : evE x (.isi a t) ρ S = (evE x a ρ S).bind (j_isi x.G t) := by
  simp only [evE]
  rfl
def cmpB (x : Cfg) (e : E) (tg : Tg) (cd : Option E) (ρ : Env) (y : Val) (S : Store) : R (Option Val) := match bindT tg y ρ with
      | some ρ1 => (match evC x cd ρ1 S with
        | .ok true S1 => (match evE x e ρ1 S1 with
          | .ok w S2 => .ok (some w) S2
          | _ => .stuck)
        | .ok false S1 => .ok none S1
        | _ => .stuck)
      | none => .stuck
def j_lok (vs : List Val) (S : Store) : R Val := .ok (.lst vs) S
theorem j_lok_ : j_lok vs S = .ok (.lst vs) S := rfl
def compV (x : Cfg) (e : E) (tg : Tg) (cd : Option E) (ρ : Env) (o : Option (List Val)) (S : Store) : R Val := match o with
  | some xs => if szb xs.length = true then (compL (cmpB x e tg cd ρ) xs S).bind j_lok else .stuck
  | none => .stuck
def j_lokC (P : Store → Prop) (vs : List Val) (S : Store) : R Val := chkE P (.ok (.lst vs) S) S
def compW (x : Cfg) (e : E) (tg : Tg) (cd : Option E) (ρ : Env) (o : Option ((Store → Prop) × List Val)) (S : Store) : R Val := match o with
  | some (P, xs) => if szb xs.length = true then (compL (chkC P (cmpB x e tg cd ρ)) xs S).bind (j_lokC P) else .stuck
  | none => .stuck
def j_comp (x : Cfg) (e : E) (tg : Tg) (cd : Option E) (ρ : Env) (v : Val) (S : Store) : R Val := match itemsV v with
  | some xs => compV x e tg cd ρ (some xs) S
  | none => compW x e tg cd ρ (refL v S) S
theorem j_comp_l {e : E} {tg : Tg} {cd : Option E} {xs : List Val} : j_comp x e tg cd ρ (.lst xs) S = compV x e tg cd ρ (some xs) S := rfl
theorem j_comp_t {e : E} {tg : Tg} {cd : Option E} {xs : List Val} : j_comp x e tg cd ρ (.tup xs) S = compV x e tg cd ρ (some xs) S := rfl
theorem j_comp_s {e : E} {tg : Tg} {cd : Option E} {s : Str} : j_comp x e tg cd ρ (.str s) S = compV x e tg cd ρ (itemsV (.str s)) S := rfl
theorem j_comp_r {e : E} {tg : Tg} {cd : Option E} {n : Nat} : j_comp x e tg cd ρ (.ref n) S = compW x e tg cd ρ (refL (.ref n) S) S := rfl
theorem compW_some {e : E} {tg : Tg} {cd : Option E} {P : Store → Prop} {xs : List Val} (h : szb xs.length = true) : compW x e tg cd ρ (some (P, xs)) S = (compL (chkC P (cmpB x e tg cd ρ)) xs S).bind (j_lokC P) := by
  simp only [compW, h, if_true]
theorem refL_c {n : Nat} {xs : List Val} (h : S[n]? = some (.cell (.lst xs))) : refL (.ref n) S = some (isC n xs, xs) := by
  simp only [refL, h]
theorem refL_k {n : Nat} {w : Val} {xs : List Val} (h : S[n]? = some (.lk w)) (hk : keysV w = some xs) : refL (.ref n) S = some (isK n w, xs) := by
  simp only [refL, h, hk]
theorem e_comp {e it : E} {tg : Tg} {cd : Option E} : evE x (.comp e tg it cd) ρ S = (evE x it ρ S).bind (j_comp x e tg cd ρ) := by
  simp only [evE]
  rfl
theorem compV_some {e : E} {tg : Tg} {cd : Option E} {xs : List Val} (h : szb xs.length = true) : compV x e tg cd ρ (some xs) S = (compL (cmpB x e tg cd ρ) xs S).bind j_lok := by
  simp only [compV, h, if_true]
/-- a comprehension's turn -/
def cpR (r : R Val) : R (Option Val) := match r with
  | .ok w S2 => .ok (some w) S2
  | _ => .stuck
theorem cpR_ok : cpR (.ok v S) = .ok (some v) S := rfl
theorem cpR_ite {p : Prop} [Decidable p] {a b : R Val} : cpR (if p then a else b) = if p then cpR a else cpR b := by
  by_cases h : p <;> simp only [h, if_true, if_false]
theorem cB_none {e : E} {tg : Tg} {y : Val} (h : bindT tg y ρ = some ρ1) : cmpB x e tg none ρ y S = cpR (evE x e ρ1 S) := by
  simp only [cmpB, h, evC]
  rfl
theorem cB_one {e : E} {y : Val} : cmpB x e (.one i) none ρ y S = cpR (evE x e (ρ.set i (some y)) S) := cB_none rfl
theorem cB_many {e : E} {is : List Nat} (h : bindMany is vs ρ = some ρ1) : cmpB x e (.many is) none ρ (.tup vs) S = cpR (evE x e ρ1 S) := cB_none h
def cdX (x : Cfg) (e : E) (ρ : Env) (r : R Val) : R (Option Val) := match r with
  | .ok (.bl true) S1 => cpR (evE x e ρ S1)
  | .ok (.bl false) S1 => .ok none S1
  | _ => .stuck
theorem cdX_ok {e : E} {b : Bool} : cdX x e ρ (.ok (.bl b) S) = if b = true then cpR (evE x e ρ S) else .ok none S := by cases b <;> rfl
theorem cB_cd {e c : E} {tg : Tg} {y : Val} (h : bindT tg y ρ = some ρ1) : cmpB x e tg (some c) ρ y S = cdX x e ρ1 (evE x c ρ1 S) := by
  simp only [cmpB, h, evC]
  cases e1 : evE x c ρ1 S with
  | ok v S1 =>
    simp only [R.bind]
    cases v with
    | bl b => cases b <;> rfl
    | _ => rfl
  | exn c1 S1 => rfl
  | stuck => rfl
theorem cB_cd1 {e c : E} {y : Val} : cmpB x e (.one i) (some c) ρ y S = cdX x e (ρ.set i (some y)) (evE x c (ρ.set i (some y)) S) := cB_cd rfl
theorem cB_m2 {e : E} {i j : Nat} : cmpB x e (.many [i, j]) none ρ (.tup [v, w]) S = cpR (evE x e ((ρ.set i (some v)).set j (some w)) S) := cB_none rfl
theorem cB_m3 {e : E} {i j k : Nat} : cmpB x e (.many [i, j, k]) none ρ (.tup [v, w, u]) S = cpR (evE x e (((ρ.set i (some v)).set j (some w)).set k (some u)) S) := cB_none rfl
theorem cB_c2 {e c : E} {i j : Nat} : cmpB x e (.many [i, j]) (some c) ρ (.tup [v, w]) S = cdX x e ((ρ.set i (some v)).set j (some w)) (evE x c ((ρ.set i (some v)).set j (some w)) S) := cB_cd rfl
theorem cB_c3 {e c : E} {i j k : Nat} : cmpB x e (.many [i, j, k]) (some c) ρ (.tup [v, w, u]) S = cdX x e (((ρ.set i (some v)).set j (some w)).set k (some u)) (evE x c (((ρ.set i (some v)).set j (some w)).set k (some u)) S) := cB_cd rfl
theorem compL_enc {γ : Type} {f : Val → Store → R (Option Val)} (enc : γ → Val) (g : γ → Val) : ∀ (xs : List γ), (∀ a ∈ xs, f (enc a) S = .ok (some (g a)) S) → compL f (xs.map enc) S = .ok (xs.map g) S
  | [], _ => rfl
  | a :: xs, h => by
    rw [List.map_cons, List.map_cons]
    simp only [compL, h a List.mem_cons_self, compL_enc enc g xs fun b hb => h b (List.mem_cons_of_mem _ hb)]
def j_mkr (v : Val) (S : Store) : R Val := mkrV v S
theorem j_mkr_n : j_mkr .non S = .ok .non S := rfl
theorem j_mkr_l {xs : List Val} : j_mkr (.lst xs) S = .ok (.ref S.length) (S ++ [.cell (.lst xs)]) := rfl
theorem j_mkr_k {xs : List (Key × Val)} : j_mkr (.dK xs) S = .ok (.ref S.length) (S ++ [.cell (.dK xs)]) := rfl
theorem j_mkr_t {xs : List (List Key × Val)} : j_mkr (.dT xs) S = .ok (.ref S.length) (S ++ [.cell (.dT xs)]) := rfl
theorem e_mkr {a : E} : evE x (.mkr a) ρ S = (evE x a ρ S).bind j_mkr := by
  simp only [evE]
  rfl
theorem e_d0 {t : Bool} : evE x (.d0 t) ρ S = .ok (if t = true then .dT [] else .dK []) S := by simp only [evE]
def lstO (o : Option (List Val)) (S : Store) : R Val := match o with
  | some xs => .ok (.lst xs) S
  | none => .stuck
theorem lstO_some {xs : List Val} : lstO (some xs) S = .ok (.lst xs) S := rfl
def j_rng (vs : List Val) (S : Store) : R Val := lstO (rngV vs) S
theorem j_rng_ : j_rng vs S = lstO (rngV vs) S := rfl
theorem e_rng {es : List E} : evE x (.rng es) ρ S = (evs x es ρ S).bind j_rng := by
  simp only [evE]
  rfl
def zipV (v w : Val) : Option (List Val) := match v, w with
  | .lst xs, .lst ys => some ((xs.zip ys).map fun p => .tup [p.1, p.2])
  | _, _ => none
theorem zipV_l {xs ys : List Val} : zipV (.lst xs) (.lst ys) = some ((xs.zip ys).map fun p => .tup [p.1, p.2]) := rfl
def j_zip (v w : Val) (S : Store) : R Val := lstO (zipV v w) S
theorem j_zip_ : j_zip v w S = lstO (zipV v w) S := rfl
theorem e_zip {a b : E} : evE x (.zip a b) ρ S = (evE x a ρ S).bind (k2 j_zip x b ρ) := by
  simp only [evE]
  congr
  funext v S1
  simp only [k2]
  congr
  funext w S2
  cases v <;> cases w <;> rfl
def revV (v : Val) : Option (List Val) := match v with
  | .lst xs => some xs.reverse
  | _ => none
theorem revV_l {xs : List Val} : revV (.lst xs) = some xs.reverse := rfl
def j_rev (v : Val) (S : Store) : R Val := lstO (revV v) S
theorem j_rev_ : j_rev v S = lstO (revV v) S := rfl
theorem e_rev {a : E} : evE x (.rev a) ρ S = (evE x a ρ S).bind j_rev := by
  simp only [evE]
  first | rfl | (congr; done) | (congr; funext v S1; cases v <;> rfl)
def j_cons (v : Val) (vs : List Val) (S : Store) : R (List Val) := .ok (v :: vs) S
theorem j_cons_ : j_cons v vs S = .ok (v :: vs) S := rfl
def k_es (x : Cfg) (es : List E) (ρ : Env) (v : Val) (S : Store) : R (List Val) := (evs x es ρ S).bind (j_cons v)
theorem k_es_ {es : List E} : k_es x es ρ v S = (evs x es ρ S).bind (j_cons v) := rfl
theorem es_n : evs x [] ρ S = .ok [] S := by simp only [evs]
theorem es_c {e : E} {es : List E} : evs x (e :: es) ρ S = (evE x e ρ S).bind (k_es x es ρ) := by
  simp only [evs]
  rfl
theorem eO_n : evO x none ρ S = .ok none S := by simp only [evO]
def intO (v : Val) (S : Store) : R (Option Int) := match v with
  | .int i => .ok (some i) S
  | _ => .stuck
theorem intO_i {j : Int} : intO (.int j) S = .ok (some j) S := rfl
theorem eO_s {e : E} : evO x (some e) ρ S = (evE x e ρ S).bind intO := by
  simp only [evO]
  first | rfl | (congr; done) | (congr; funext v S1; cases v <;> rfl)
theorem eB_1 {k : Bool} {e : E} : evB x k [e] ρ S = evE x e ρ S := by simp only [evB]
def bB (k : Bool) (x : Cfg) (es : List E) (ρ : Env) (v : Val) (S : Store) : R Val := match v with
  | .bl b => if b = k then evB x k es ρ S else .ok (.bl b) S
  | _ => .stuck
theorem bB_tt {es : List E} : bB true x es ρ (.bl true) S = evB x true es ρ S := rfl
theorem bB_tf {es : List E} : bB true x es ρ (.bl false) S = .ok (.bl false) S := rfl
theorem bB_ft {es : List E} : bB false x es ρ (.bl true) S = .ok (.bl true) S := rfl
theorem bB_ff {es : List E} : bB false x es ρ (.bl false) S = evB x false es ρ S := rfl
theorem bB_t {es : List E} {b : Bool} : bB true x es ρ (.bl b) S = if b = true then evB x true es ρ S else .ok (.bl false) S := by cases b <;> rfl
theorem bB_f {es : List E} {b : Bool} : bB false x es ρ (.bl b) S = if b = true then .ok (.bl true) S else evB x false es ρ S := by cases b <;> rfl
theorem eB_c {k : Bool} {e e1 : E} {es : List E} : evB x k (e :: e1 :: es) ρ S = (evE x e ρ S).bind (bB k x (e1 :: es) ρ) := by
  conv => lhs; simp only [evB]
  cases es with
  | nil =>
    simp only [evB]
    first | rfl | (congr; done) | (congr; funext v S1; cases v <;> (first | rfl | simp only [bB, evB]))
  | cons a b =>
    simp only [evB]
    first | rfl | (congr; done) | (congr; funext v S1; cases v <;> (first | rfl | simp only [bB, evB]))
/-! statements -/
theorem q_n : evSs x [] ρ S = .nx ρ S := evSs_nil
theorem q_c {s : St} {r : List St} : evSs x (s :: r) ρ S = (evS x s ρ S).seq (evSs x r) := by
  rw [evSs_cons]
  rfl
theorem q_1 {s : St} : evSs x [s] ρ S = evS x s ρ S := by
  rw [evSs_cons]
  cases evS x s ρ S <;> first | rfl | exact evSs_nil
theorem q_app {b : List St} : ∀ {a : List St} {ρ : Env} {S : Store}, evSs x (a ++ b) ρ S = (evSs x a ρ S).seq (evSs x b)
  | [], ρ, S => by rw [q_n]; rfl
  | s :: a, ρ, S => by
    rw [List.cons_append, q_c, q_c]
    cases evS x s ρ S with
    | nx ρ1 S1 => exact q_app (a := a)
    | _ => rfl
/-- a body in two parts -/
theorem q_split (n : Nat) {l : List St} : evSs x l ρ S = (evSs x (l.take n) ρ S).seq (evSs x (l.drop n)) := by
  rw [← q_app, List.take_append_drop]
def z_setK (i : Nat) (ρ : Env) (v : Val) (S : Store) : RS := .nx (ρ.set i (some v)) S
theorem z_setK_ : z_setK i ρ v S = .nx (ρ.set i (some v)) S := rfl
theorem z_set {e : E} : evS x (.set i e) ρ S = (evE x e ρ S).toS ρ (z_setK i ρ) := by
  simp only [evS]
  rfl
def unpV (is : List Nat) (v : Val) (ρ : Env) : Option Env := match v with
  | .tup vs => bindMany is vs ρ
  | .lst vs => bindMany is vs ρ
  | _ => none
theorem unpV_l {is : List Nat} : unpV is (.lst vs) ρ = bindMany is vs ρ := rfl
theorem unpV_t {is : List Nat} : unpV is (.tup vs) ρ = bindMany is vs ρ := rfl
def nxO (o : Option Env) (S : Store) : RS := match o with
  | some ρ => .nx ρ S
  | none => .stuck
theorem nxO_s : nxO (some ρ) S = .nx ρ S := rfl
def z_unpK (is : List Nat) (ρ : Env) (v : Val) (S : Store) : RS := nxO (unpV is v ρ) S
theorem z_unpK_ {is : List Nat} : z_unpK is ρ v S = nxO (unpV is v ρ) S := rfl
theorem z_unp {is : List Nat} {e : E} : evS x (.unp is e) ρ S = (evE x e ρ S).toS ρ (z_unpK is ρ) := by
  simp only [evS]
  first | rfl | (congr; done) | (congr; funext v S1; cases v <;> rfl)
def z_exK (ρ : Env) (v : Val) (S : Store) : RS := .nx ρ S
theorem z_exK_ : z_exK ρ v S = .nx ρ S := rfl
theorem z_ex {e : E} : evS x (.ex e) ρ S = (evE x e ρ S).toS ρ (z_exK ρ) := by
  simp only [evS]
  rfl
theorem z_ret {e : E} : evS x (.ret e) ρ S = (evE x e ρ S).toS ρ RS.ret := by simp only [evS]
theorem z_retN : evS x .retN ρ S = .ret .non S := by simp only [evS]
def z_ifeK (x : Cfg) (a b : List St) (ρ : Env) (v : Val) (S : Store) : RS := match v with
  | .bl c => if c = true then evSs x a ρ S else evSs x b ρ S
  | _ => .stuck
theorem z_ifeK_ {a b : List St} {c : Bool} : z_ifeK x a b ρ (.bl c) S = if c = true then evSs x a ρ S else evSs x b ρ S := rfl
theorem z_ife {c : E} {a b : List St} : evS x (.ife c a b) ρ S = (evE x c ρ S).toS ρ (z_ifeK x a b ρ) := by
  simp only [evS]
  first | rfl | (congr; done) | (congr; funext v S1; cases v <;> rfl)
def forB (x : Cfg) (tg : Tg) (body : List St) (y : Val) (ρ : Env) (S : Store) : RS := match bindT tg y ρ with
  | some ρ1 => evSs x body ρ1 S
  | none => .stuck
def forV (x : Cfg) (tg : Tg) (body : List St) (o : Option (List Val)) (ρ : Env) (S : Store) : RS := match o with
  | some xs => forL (forB x tg body) xs ρ S
  | none => .stuck
def forW (x : Cfg) (tg : Tg) (body : List St) (o : Option ((Store → Prop) × List Val)) (ρ : Env) (S : Store) : RS := match o with
  | some (P, xs) => chkS P (forL (chkF P (forB x tg body)) xs ρ S)
  | none => .stuck
def z_forK (x : Cfg) (tg : Tg) (body : List St) (ρ : Env) (v : Val) (S : Store) : RS := match itemsV v with
  | some xs => forV x tg body (some xs) ρ S
  | none => forW x tg body (refL v S) ρ S
theorem z_forK_l {tg : Tg} {body : List St} {xs : List Val} : z_forK x tg body ρ (.lst xs) S = forV x tg body (some xs) ρ S := rfl
theorem z_forK_t {tg : Tg} {body : List St} {xs : List Val} : z_forK x tg body ρ (.tup xs) S = forV x tg body (some xs) ρ S := rfl
theorem z_forK_s {tg : Tg} {body : List St} {s : Str} : z_forK x tg body ρ (.str s) S = forV x tg body (itemsV (.str s)) ρ S := rfl
theorem z_forK_r {tg : Tg} {body : List St} {n : Nat} : z_forK x tg body ρ (.ref n) S = forW x tg body (refL (.ref n) S) ρ S := rfl
theorem forW_s {tg : Tg} {body : List St} {P : Store → Prop} {xs : List Val} : forW x tg body (some (P, xs)) ρ S = chkS P (forL (chkF P (forB x tg body)) xs ρ S) := rfl
theorem z_for {tg : Tg} {it : E} {body : List St} : evS x (.for' tg it body) ρ S = (evE x it ρ S).toS ρ (z_forK x tg body ρ) := by
  simp only [evS]
  rfl
theorem forV_s {tg : Tg} {body : List St} {xs : List Val} : forV x tg body (some xs) ρ S = forL (forB x tg body) xs ρ S := rfl
theorem fB_one {body : List St} {y : Val} : forB x (.one i) body y ρ S = evSs x body (ρ.set i (some y)) S := rfl
theorem fB_many {body : List St} {is : List Nat} (h : bindMany is vs ρ = some ρ1) : forB x (.many is) body (.tup vs) ρ S = evSs x body ρ1 S := by
  simp only [forB, bindT, h]
theorem fB_m2 {body : List St} {i j : Nat} : forB x (.many [i, j]) body (.tup [v, w]) ρ S = evSs x body ((ρ.set i (some v)).set j (some w)) S := fB_many rfl
theorem fB_m3 {body : List St} {i j k : Nat} : forB x (.many [i, j, k]) body (.tup [v, w, u]) ρ S = evSs x body (((ρ.set i (some v)).set j (some w)).set k (some u)) S := fB_many rfl
theorem bm_n : bindMany [] [] ρ = some ρ := rfl
theorem bm_c {i : Nat} {is : List Nat} {v : Val} : bindMany (i :: is) (v :: vs) ρ = bindMany is vs (ρ.set i (some v)) := rfl
theorem z_whil {c : E} {body : List St} : evS x (.whil c body) ρ S = whileL (evE x c) (evSs x body) x.wf ρ S := by simp only [evS]
theorem z_brk : evS x .brk ρ S = .brk ρ S := by simp only [evS]
theorem z_cnt : evS x .cnt ρ S = .cnt ρ S := by simp only [evS]
theorem z_pas : evS x .pas ρ S = .nx ρ S := by simp only [evS]
theorem z_rais : evS x (.rais c) ρ S = .exn c ρ S := by simp only [evS]
/-! objects being made -/
def z_sf3 (G : Prog) (o : E) (f : Nat) (ρ : Env) (w v : Val) (S : Store) : RS := match v with
    | .ref n => (match S[n]? with
      | some (.inst c fs) => if fs.length < 900 then .nx ρ (S.set n (.inst c (fput f w fs))) else .stuck
      | _ => .stuck)
    | .obj c fs => (match o with
      | .v i => if fs.length < 900 ∧ fldV G c f = true then .nx (ρ.set i (some (.obj c (fput f w fs)))) S else .stuck
      | _ => .stuck)
    | _ => .stuck
def sfQ (a b : Bool) (r : RS) : RS := if a = true ∧ b = true then r else .stuck
theorem sfQ_t {r : RS} : sfQ true true r = r := rfl
theorem z_sf3_ {G : Prog} {f k : Nat} {fs : List (Nat × Val)} : z_sf3 G (.v i) f ρ w (.obj k fs) S = sfQ (decide (fs.length < 900)) (fldV G k f) (.nx (ρ.set i (some (.obj k (fput f w fs)))) S) := by
  simp only [z_sf3, sfQ, decide_eq_true_eq]
def z_sf2 (x : Cfg) (o : E) (f : Nat) (ρ : Env) (w : Val) (S : Store) : RS := (evE x o ρ S).toS ρ (z_sf3 x.G o f ρ w)
theorem z_sf2_ {o : E} {f : Nat} : z_sf2 x o f ρ w S = (evE x o ρ S).toS ρ (z_sf3 x.G o f ρ w) := rfl
theorem z_sfld {o e : E} {f : Nat} : evS x (.sfld o f e) ρ S = (evE x e ρ S).toS ρ (z_sf2 x o f ρ) := by
  simp only [evS]
  first | (congr; done) | (congr; funext w S1; simp only [z_sf2]; congr; funext v S2; cases v with
  | obj k fs => cases o <;> rfl
  | _ => rfl)
def biR (ρ : Env) (c : Nat) (r : R (List (Nat × Val))) : RS := match r with
  | .ok fs S => .nx (some (.obj c fs) :: ρ) S
  | .exn e S => .exn e (none :: ρ) S
  | .stuck => .stuck
theorem biR_ok {fs : List (Nat × Val)} : biR ρ c (.ok fs S) = .nx (some (.obj c fs) :: ρ) S := rfl
theorem biR_exn : biR ρ c (.exn d S) = .exn d (none :: ρ) S := rfl
def k_bi (x : Cfg) (f c : Nat) (ρ : Env) (vs : List Val) (S : Store) : RS := biR ρ c (x.ini f c [] vs S)
theorem k_bi_ {f : Nat} : k_bi x f c ρ vs S = biR ρ c (x.ini f c [] vs S) := rfl
theorem z_binit {f : Nat} {es : List E} : evS x (.binit f es) (some (.obj c []) :: ρ) S = (evs x es (some (.obj c []) :: ρ) S).toS (some (.obj c []) :: ρ) (k_bi x f c ρ) := by
  simp only [evS]
  show _ = _
  have e : ((some (Val.obj c []) :: ρ)[0]? : Option (Option Val)) = some (some (.obj c [])) := rfl
  simp only [e]
  first | (congr; done) | (congr; funext vs S1; simp only [k_bi]; cases x.ini f c [] vs S1 <;> rfl)
theorem runI_unf {G : Prog} {wf n f : Nat} {F : Fn} {fs : List (Nat × Val)} (h : G.fn f = some F) (hl : vs.length + 1 = F.np) (hi : F.isIni = true) :
    runI G wf (n + 2) f c fs vs S = ofInit c (evSs ⟨G, wf, run G wf n, runI G wf n⟩ F.body (startE F.names.length (.obj c fs :: vs)) S) := by
  simp only [runI, h]
  rw [if_pos ⟨hl, hi⟩]
theorem oi_nx {fs : List (Nat × Val)} : ofInit c (.nx (some (.obj c fs) :: ρ) S) = .ok fs S := by
  have e : ((some (Val.obj c fs) :: ρ)[0]? : Option (Option Val)) = some (some (.obj c fs)) := rfl
  simp only [ofInit, e, if_true]
theorem oi_exn : ofInit c (.exn d ρ S) = .exn d S := rfl
theorem oi_ite {p : Prop} [Decidable p] {a b : RS} : ofInit c (if p then a else b) = if p then ofInit c a else ofInit c b := by
  by_cases h : p <;> simp only [h, if_true, if_false]
/-- a loop with an invariant in an __init__ -/
theorem forL_kN {f : Val → Env → Store → RS} {k : Env → Store → RS} {r : R (List (Nat × Val))} (I : Env → Store → Prop) {xs : List Val} {ρ : Env} {S : Store} (hs : ∀ x ∈ xs, ∀ ρ S, I ρ S → ∃ ρ1 S1, (f x ρ S = .nx ρ1 S1 ∨ f x ρ S = .cnt ρ1 S1) ∧ I ρ1 S1) (h0 : I ρ S) (h1 : ∀ ρ1 S1, I ρ1 S1 → ofInit c (k ρ1 S1) = r) :
    ofInit c ((forL f xs ρ S).seq k) = r := by
  obtain ⟨ρ1, S1, e, h⟩ := forL_inv I xs ρ S hs h0
  rw [e]
  exact h1 ρ1 S1 h
def mvR (is : List Nat) (r : RS) : RS := match r with
    | .nx ρ1 S1 => .nx (dropE is ρ1) S1
    | .exn c ρ1 S1 => .exn c (dropE is ρ1) S1
    | .ret v S1 => .ret v S1
    | _ => .stuck
theorem mvR_nx {is : List Nat} : mvR is (.nx ρ S) = .nx (dropE is ρ) S := rfl
theorem mvR_ret {is : List Nat} : mvR is (.ret v S) = .ret v S := rfl
theorem mvR_exn {is : List Nat} : mvR is (.exn c ρ S) = .exn c (dropE is ρ) S := rfl
theorem z_mvs {is : List Nat} {s : St} : evS x (.mvs is s) ρ S = mvR is (evS x s ρ S) := by
  simp only [evS]
  cases evS x s ρ S <;> rfl
theorem dE_n : dropE [] ρ = ρ := rfl
theorem dE_c {is : List Nat} : dropE (i :: is) ρ = dropE is (ρ.set i none) := rfl
def trR (x : Cfg) (hs : List (Nat × Option Nat × List St)) (r : RS) : RS := match r with
    | .exn c ρ1 S1 => evH x c hs ρ1 S1
    | r => r
theorem trR_nx {hs : List (Nat × Option Nat × List St)} : trR x hs (.nx ρ S) = .nx ρ S := rfl
theorem trR_ret {hs : List (Nat × Option Nat × List St)} : trR x hs (.ret v S) = .ret v S := rfl
theorem trR_exn {hs : List (Nat × Option Nat × List St)} : trR x hs (.exn c ρ S) = evH x c hs ρ S := rfl
theorem tr_ite {hs : List (Nat × Option Nat × List St)} {p : Prop} [Decidable p] {a b : RS} : trR x hs (if p then a else b) = if p then trR x hs a else trR x hs b := by
  by_cases h : p <;> simp only [h, if_true, if_false]
theorem z_tr {body : List St} {hs : List (Nat × Option Nat × List St)} : evS x (.tr body hs) ρ S = trR x hs (evSs x body ρ S) := by
  simp only [evS]
  cases evSs x body ρ S <;> rfl
theorem h_n : evH x c [] ρ S = .exn c ρ S := by simp only [evH]
def caR (x : Cfg) (c : Nat) (o : Option Nat) (s : List St) (r : List (Nat × Option Nat × List St)) (ρ : Env) (S : Store) (q : Option Bool) : RS := match q with
  | some b => if b = true then unAs o (evSs x s (asSlot o (some (.exc c)) ρ) S) else evH x c r ρ S
  | none => .stuck
theorem caR_t {o : Option Nat} {s : List St} {r : List (Nat × Option Nat × List St)} : caR x c o s r ρ S (some true) = unAs o (evSs x s (asSlot o (some (.exc c)) ρ) S) := rfl
theorem caR_f {o : Option Nat} {s : List St} {r : List (Nat × Option Nat × List St)} : caR x c o s r ρ S (some false) = evH x c r ρ S := rfl
theorem h_c {d : Nat} {o : Option Nat} {s : List St} {r : List (Nat × Option Nat × List St)} : evH x c ((d, o, s) :: r) ρ S = caR x c o s r ρ S (catches x.G c d) := by
  simp only [evH]
  cases catches x.G c d with
  | none => rfl
  | some b => cases b <;> rfl
theorem unAs_nx {o : Option Nat} : unAs o (.nx ρ S) = .nx (asSlot o none ρ) S := rfl
theorem unAs_ret {o : Option Nat} : unAs o (.ret v S) = .ret v S := rfl
theorem aS_s {o : Option Val} : asSlot (some i) o ρ = ρ.set i o := rfl
theorem aS_n {o : Option Val} : asSlot none o ρ = ρ := rfl
/-- a list in a slot is changed -/
def muO (i : Nat) (w : Option Val) (ρ : Env) (S : Store) : RS := match w with
  | some w => .nx (ρ.set i (some w)) S
  | none => .stuck
theorem muO_s : muO i (some w) ρ S = .nx (ρ.set i (some w)) S := rfl
def k_mu (i : Nat) (m : Mu) (v : Val) (ρ : Env) (vs : List Val) (S : Store) : RS := muO i (muV m v (muDe m S vs)) ρ S
theorem k_mu_ {m : Mu} : k_mu i m v ρ vs S = muO i (muV m v (muDe m S vs)) ρ S := rfl
def muK (x : Cfg) (i : Nat) (m : Mu) (v : Val) (ρ : Env) (S : Store) (t : Bool) : RS := if t = true then (evs x (muArgs m) ρ S).toS ρ (k_mu i m v ρ) else .stuck
theorem muK_t {m : Mu} : muK x i m v ρ S true = (evs x (muArgs m) ρ S).toS ρ (k_mu i m v ρ) := rfl
/-- a change of a cell -/
def mrO (n : Nat) (w : Option Val) (ρ : Env) (S : Store) : RS := match w with
  | some w => .nx ρ (S.set n (.cell w))
  | none => .stuck
theorem mrO_s {n : Nat} : mrO n (some w) ρ S = .nx ρ (S.set n (.cell w)) := rfl
def mrD (n : Nat) (m : Mu) (ρ : Env) (vs : List Val) (S : Store) (o : Option SO) : RS := match o with
  | some (.cell w) => mrO n (muV m w (muDe m S vs)) ρ S
  | _ => .stuck
theorem mrD_s {n : Nat} {m : Mu} : mrD n m ρ vs S (some (.cell w)) = mrO n (muV m w (muDe m S vs)) ρ S := rfl
def k_mr (n : Nat) (m : Mu) (ρ : Env) (vs : List Val) (S : Store) : RS := mrD n m ρ vs S (S[n]?)
theorem k_mr_ {n : Nat} {m : Mu} : k_mr n m ρ vs S = mrD n m ρ vs S (S[n]?) := rfl
def mrT (x : Cfg) (n : Nat) (m : Mu) (ρ : Env) (S : Store) (t : Bool) : RS := if t = true then (evs x (muArgs m) ρ S).toS ρ (k_mr n m ρ) else .stuck
theorem mrT_t {n : Nat} {m : Mu} : mrT x n m ρ S true = (evs x (muArgs m) ρ S).toS ρ (k_mr n m ρ) := rfl
def mrC (x : Cfg) (n : Nat) (m : Mu) (ρ : Env) (S : Store) (o : Option SO) : RS := match o with
  | some (.cell w) => mrT x n m ρ S (muTy m w)
  | _ => .stuck
theorem mrC_s {n : Nat} {m : Mu} : mrC x n m ρ S (some (.cell w)) = mrT x n m ρ S (muTy m w) := rfl
def z_mrK (x : Cfg) (m : Mu) (ρ : Env) (v : Val) (S : Store) : RS := match v with
  | .ref n => mrC x n m ρ S (S[n]?)
  | _ => .stuck
theorem z_mrK_ {n : Nat} {m : Mu} : z_mrK x m ρ (.ref n) S = mrC x n m ρ S (S[n]?) := rfl
theorem z_mr {e : E} {m : Mu} : evS x (.mu (.refp e) m) ρ S = (evE x e ρ S).toS ρ (z_mrK x m ρ) := by
  simp only [evS, plE, evs]
  cases evE x e ρ S with
  | exn c S1 => rfl
  | stuck => rfl
  | ok v S1 =>
    simp only [_root_.Pv.R.bind, R.toS, List.headD_cons, plV, z_mrK]
    cases v with
    | ref n =>
      simp only [mrC]
      cases S1[n]? with
      | none => rfl
      | some o =>
        cases o with
        | cell w => rfl
        | inst c fs => rfl
        | lk w => rfl
    | _ => rfl
theorem at_new {o : SO} : (S ++ [o])[S.length]? = some o := by
  rw [List.getElem?_append_right (Nat.le_refl _), Nat.sub_self]
  rfl
theorem set_new {o o' : SO} : (S ++ [o]).set S.length o' = S ++ [o'] := by
  rw [List.set_append_right _ _ (Nat.le_refl _), Nat.sub_self]
  rfl
theorem z_mu {m : Mu} (h : ρ[i]? = some (some v)) : evS x (.mu (.slot i) m) ρ S = muK x i m v ρ S (muTy m v) := by
  simp only [evS, plE, evs, R.toS, plV, h, muP, muK]
  split
  · congr
  · rfl

theorem z_mu0 {m : Mu} : evS x (.mu (.slot 0) m) (some v :: ρ) S = muK x 0 m v (some v :: ρ) S (muTy m v) := z_mu rfl
theorem z_mu1 {v0 : Option Val} {m : Mu} : evS x (.mu (.slot 1) m) (v0 :: some v :: ρ) S = muK x 1 m v (v0 :: some v :: ρ) S (muTy m v) := z_mu rfl
theorem z_mu2 {v0 v1 : Option Val} {m : Mu} : evS x (.mu (.slot 2) m) (v0 :: v1 :: some v :: ρ) S = muK x 2 m v (v0 :: v1 :: some v :: ρ) S (muTy m v) := z_mu rfl
theorem z_mu3 {v0 v1 v2 : Option Val} {m : Mu} : evS x (.mu (.slot 3) m) (v0 :: v1 :: v2 :: some v :: ρ) S = muK x 3 m v (v0 :: v1 :: v2 :: some v :: ρ) S (muTy m v) := z_mu rfl
theorem z_mu4 {v0 v1 v2 v3 : Option Val} {m : Mu} : evS x (.mu (.slot 4) m) (v0 :: v1 :: v2 :: v3 :: some v :: ρ) S = muK x 4 m v (v0 :: v1 :: v2 :: v3 :: some v :: ρ) S (muTy m v) := z_mu rfl
theorem z_mu5 {v0 v1 v2 v3 v4 : Option Val} {m : Mu} : evS x (.mu (.slot 5) m) (v0 :: v1 :: v2 :: v3 :: v4 :: some v :: ρ) S = muK x 5 m v (v0 :: v1 :: v2 :: v3 :: v4 :: some v :: ρ) S (muTy m v) := z_mu rfl
theorem z_mu6 {v0 v1 v2 v3 v4 v5 : Option Val} {m : Mu} : evS x (.mu (.slot 6) m) (v0 :: v1 :: v2 :: v3 :: v4 :: v5 :: some v :: ρ) S = muK x 6 m v (v0 :: v1 :: v2 :: v3 :: v4 :: v5 :: some v :: ρ) S (muTy m v) := z_mu rfl
theorem z_mu7 {v0 v1 v2 v3 v4 v5 v6 : Option Val} {m : Mu} : evS x (.mu (.slot 7) m) (v0 :: v1 :: v2 :: v3 :: v4 :: v5 :: v6 :: some v :: ρ) S = muK x 7 m v (v0 :: v1 :: v2 :: v3 :: v4 :: v5 :: v6 :: some v :: ρ) S (muTy m v) := z_mu rfl
theorem z_mu8 {v0 v1 v2 v3 v4 v5 v6 v7 : Option Val} {m : Mu} : evS x (.mu (.slot 8) m) (v0 :: v1 :: v2 :: v3 :: v4 :: v5 :: v6 :: v7 :: some v :: ρ) S = muK x 8 m v (v0 :: v1 :: v2 :: v3 :: v4 :: v5 :: v6 :: v7 :: some v :: ρ) S (muTy m v) := z_mu rfl
theorem z_mu9 {v0 v1 v2 v3 v4 v5 v6 v7 v8 : Option Val} {m : Mu} : evS x (.mu (.slot 9) m) (v0 :: v1 :: v2 :: v3 :: v4 :: v5 :: v6 :: v7 :: v8 :: some v :: ρ) S = muK x 9 m v (v0 :: v1 :: v2 :: v3 :: v4 :: v5 :: v6 :: v7 :: v8 :: some v :: ρ) S (muTy m v) := z_mu rfl
theorem z_mu10 {v0 v1 v2 v3 v4 v5 v6 v7 v8 v9 : Option Val} {m : Mu} : evS x (.mu (.slot 10) m) (v0 :: v1 :: v2 :: v3 :: v4 :: v5 :: v6 :: v7 :: v8 :: v9 :: some v :: ρ) S = muK x 10 m v (v0 :: v1 :: v2 :: v3 :: v4 :: v5 :: v6 :: v7 :: v8 :: v9 :: some v :: ρ) S (muTy m v) := z_mu rfl
theorem z_mu11 {v0 v1 v2 v3 v4 v5 v6 v7 v8 v9 v10 : Option Val} {m : Mu} : evS x (.mu (.slot 11) m) (v0 :: v1 :: v2 :: v3 :: v4 :: v5 :: v6 :: v7 :: v8 :: v9 :: v10 :: some v :: ρ) S = muK x 11 m v (v0 :: v1 :: v2 :: v3 :: v4 :: v5 :: v6 :: v7 :: v8 :: v9 :: v10 :: some v :: ρ) S (muTy m v) := z_mu rfl
theorem z_mu12 {v0 v1 v2 v3 v4 v5 v6 v7 v8 v9 v10 v11 : Option Val} {m : Mu} : evS x (.mu (.slot 12) m) (v0 :: v1 :: v2 :: v3 :: v4 :: v5 :: v6 :: v7 :: v8 :: v9 :: v10 :: v11 :: some v :: ρ) S = muK x 12 m v (v0 :: v1 :: v2 :: v3 :: v4 :: v5 :: v6 :: v7 :: v8 :: v9 :: v10 :: v11 :: some v :: ρ) S (muTy m v) := z_mu rfl
theorem z_mu13 {v0 v1 v2 v3 v4 v5 v6 v7 v8 v9 v10 v11 v12 : Option Val} {m : Mu} : evS x (.mu (.slot 13) m) (v0 :: v1 :: v2 :: v3 :: v4 :: v5 :: v6 :: v7 :: v8 :: v9 :: v10 :: v11 :: v12 :: some v :: ρ) S = muK x 13 m v (v0 :: v1 :: v2 :: v3 :: v4 :: v5 :: v6 :: v7 :: v8 :: v9 :: v10 :: v11 :: v12 :: some v :: ρ) S (muTy m v) := z_mu rfl
theorem z_mu14 {v0 v1 v2 v3 v4 v5 v6 v7 v8 v9 v10 v11 v12 v13 : Option Val} {m : Mu} : evS x (.mu (.slot 14) m) (v0 :: v1 :: v2 :: v3 :: v4 :: v5 :: v6 :: v7 :: v8 :: v9 :: v10 :: v11 :: v12 :: v13 :: some v :: ρ) S = muK x 14 m v (v0 :: v1 :: v2 :: v3 :: v4 :: v5 :: v6 :: v7 :: v8 :: v9 :: v10 :: v11 :: v12 :: v13 :: some v :: ρ) S (muTy m v) := z_mu rfl
theorem z_mu15 {v0 v1 v2 v3 v4 v5 v6 v7 v8 v9 v10 v11 v12 v13 v14 : Option Val} {m : Mu} : evS x (.mu (.slot 15) m) (v0 :: v1 :: v2 :: v3 :: v4 :: v5 :: v6 :: v7 :: v8 :: v9 :: v10 :: v11 :: v12 :: v13 :: v14 :: some v :: ρ) S = muK x 15 m v (v0 :: v1 :: v2 :: v3 :: v4 :: v5 :: v6 :: v7 :: v8 :: v9 :: v10 :: v11 :: v12 :: v13 :: v14 :: some v :: ρ) S (muTy m v) := z_mu rfl
theorem z_mu16 {v0 v1 v2 v3 v4 v5 v6 v7 v8 v9 v10 v11 v12 v13 v14 v15 : Option Val} {m : Mu} : evS x (.mu (.slot 16) m) (v0 :: v1 :: v2 :: v3 :: v4 :: v5 :: v6 :: v7 :: v8 :: v9 :: v10 :: v11 :: v12 :: v13 :: v14 :: v15 :: some v :: ρ) S = muK x 16 m v (v0 :: v1 :: v2 :: v3 :: v4 :: v5 :: v6 :: v7 :: v8 :: v9 :: v10 :: v11 :: v12 :: v13 :: v14 :: v15 :: some v :: ρ) S (muTy m v) := z_mu rfl
theorem z_mu17 {v0 v1 v2 v3 v4 v5 v6 v7 v8 v9 v10 v11 v12 v13 v14 v15 v16 : Option Val} {m : Mu} : evS x (.mu (.slot 17) m) (v0 :: v1 :: v2 :: v3 :: v4 :: v5 :: v6 :: v7 :: v8 :: v9 :: v10 :: v11 :: v12 :: v13 :: v14 :: v15 :: v16 :: some v :: ρ) S = muK x 17 m v (v0 :: v1 :: v2 :: v3 :: v4 :: v5 :: v6 :: v7 :: v8 :: v9 :: v10 :: v11 :: v12 :: v13 :: v14 :: v15 :: v16 :: some v :: ρ) S (muTy m v) := z_mu rfl
theorem z_mu18 {v0 v1 v2 v3 v4 v5 v6 v7 v8 v9 v10 v11 v12 v13 v14 v15 v16 v17 : Option Val} {m : Mu} : evS x (.mu (.slot 18) m) (v0 :: v1 :: v2 :: v3 :: v4 :: v5 :: v6 :: v7 :: v8 :: v9 :: v10 :: v11 :: v12 :: v13 :: v14 :: v15 :: v16 :: v17 :: some v :: ρ) S = muK x 18 m v (v0 :: v1 :: v2 :: v3 :: v4 :: v5 :: v6 :: v7 :: v8 :: v9 :: v10 :: v11 :: v12 :: v13 :: v14 :: v15 :: v16 :: v17 :: some v :: ρ) S (muTy m v) := z_mu rfl
theorem z_mu19 {v0 v1 v2 v3 v4 v5 v6 v7 v8 v9 v10 v11 v12 v13 v14 v15 v16 v17 v18 : Option Val} {m : Mu} : evS x (.mu (.slot 19) m) (v0 :: v1 :: v2 :: v3 :: v4 :: v5 :: v6 :: v7 :: v8 :: v9 :: v10 :: v11 :: v12 :: v13 :: v14 :: v15 :: v16 :: v17 :: v18 :: some v :: ρ) S = muK x 19 m v (v0 :: v1 :: v2 :: v3 :: v4 :: v5 :: v6 :: v7 :: v8 :: v9 :: v10 :: v11 :: v12 :: v13 :: v14 :: v15 :: v16 :: v17 :: v18 :: some v :: ρ) S (muTy m v) := z_mu rfl
theorem z_mu20 {v0 v1 v2 v3 v4 v5 v6 v7 v8 v9 v10 v11 v12 v13 v14 v15 v16 v17 v18 v19 : Option Val} {m : Mu} : evS x (.mu (.slot 20) m) (v0 :: v1 :: v2 :: v3 :: v4 :: v5 :: v6 :: v7 :: v8 :: v9 :: v10 :: v11 :: v12 :: v13 :: v14 :: v15 :: v16 :: v17 :: v18 :: v19 :: some v :: ρ) S = muK x 20 m v (v0 :: v1 :: v2 :: v3 :: v4 :: v5 :: v6 :: v7 :: v8 :: v9 :: v10 :: v11 :: v12 :: v13 :: v14 :: v15 :: v16 :: v17 :: v18 :: v19 :: some v :: ρ) S (muTy m v) := z_mu rfl
theorem z_mu21 {v0 v1 v2 v3 v4 v5 v6 v7 v8 v9 v10 v11 v12 v13 v14 v15 v16 v17 v18 v19 v20 : Option Val} {m : Mu} : evS x (.mu (.slot 21) m) (v0 :: v1 :: v2 :: v3 :: v4 :: v5 :: v6 :: v7 :: v8 :: v9 :: v10 :: v11 :: v12 :: v13 :: v14 :: v15 :: v16 :: v17 :: v18 :: v19 :: v20 :: some v :: ρ) S = muK x 21 m v (v0 :: v1 :: v2 :: v3 :: v4 :: v5 :: v6 :: v7 :: v8 :: v9 :: v10 :: v11 :: v12 :: v13 :: v14 :: v15 :: v16 :: v17 :: v18 :: v19 :: v20 :: some v :: ρ) S (muTy m v) := z_mu rfl
theorem z_mu22 {v0 v1 v2 v3 v4 v5 v6 v7 v8 v9 v10 v11 v12 v13 v14 v15 v16 v17 v18 v19 v20 v21 : Option Val} {m : Mu} : evS x (.mu (.slot 22) m) (v0 :: v1 :: v2 :: v3 :: v4 :: v5 :: v6 :: v7 :: v8 :: v9 :: v10 :: v11 :: v12 :: v13 :: v14 :: v15 :: v16 :: v17 :: v18 :: v19 :: v20 :: v21 :: some v :: ρ) S = muK x 22 m v (v0 :: v1 :: v2 :: v3 :: v4 :: v5 :: v6 :: v7 :: v8 :: v9 :: v10 :: v11 :: v12 :: v13 :: v14 :: v15 :: v16 :: v17 :: v18 :: v19 :: v20 :: v21 :: some v :: ρ) S (muTy m v) := z_mu rfl
theorem z_mu23 {v0 v1 v2 v3 v4 v5 v6 v7 v8 v9 v10 v11 v12 v13 v14 v15 v16 v17 v18 v19 v20 v21 v22 : Option Val} {m : Mu} : evS x (.mu (.slot 23) m) (v0 :: v1 :: v2 :: v3 :: v4 :: v5 :: v6 :: v7 :: v8 :: v9 :: v10 :: v11 :: v12 :: v13 :: v14 :: v15 :: v16 :: v17 :: v18 :: v19 :: v20 :: v21 :: v22 :: some v :: ρ) S = muK x 23 m v (v0 :: v1 :: v2 :: v3 :: v4 :: v5 :: v6 :: v7 :: v8 :: v9 :: v10 :: v11 :: v12 :: v13 :: v14 :: v15 :: v16 :: v17 :: v18 :: v19 :: v20 :: v21 :: v22 :: some v :: ρ) S (muTy m v) := z_mu rfl
theorem z_mu24 {v0 v1 v2 v3 v4 v5 v6 v7 v8 v9 v10 v11 v12 v13 v14 v15 v16 v17 v18 v19 v20 v21 v22 v23 : Option Val} {m : Mu} : evS x (.mu (.slot 24) m) (v0 :: v1 :: v2 :: v3 :: v4 :: v5 :: v6 :: v7 :: v8 :: v9 :: v10 :: v11 :: v12 :: v13 :: v14 :: v15 :: v16 :: v17 :: v18 :: v19 :: v20 :: v21 :: v22 :: v23 :: some v :: ρ) S = muK x 24 m v (v0 :: v1 :: v2 :: v3 :: v4 :: v5 :: v6 :: v7 :: v8 :: v9 :: v10 :: v11 :: v12 :: v13 :: v14 :: v15 :: v16 :: v17 :: v18 :: v19 :: v20 :: v21 :: v22 :: v23 :: some v :: ρ) S (muTy m v) := z_mu rfl
theorem z_mu25 {v0 v1 v2 v3 v4 v5 v6 v7 v8 v9 v10 v11 v12 v13 v14 v15 v16 v17 v18 v19 v20 v21 v22 v23 v24 : Option Val} {m : Mu} : evS x (.mu (.slot 25) m) (v0 :: v1 :: v2 :: v3 :: v4 :: v5 :: v6 :: v7 :: v8 :: v9 :: v10 :: v11 :: v12 :: v13 :: v14 :: v15 :: v16 :: v17 :: v18 :: v19 :: v20 :: v21 :: v22 :: v23 :: v24 :: some v :: ρ) S = muK x 25 m v (v0 :: v1 :: v2 :: v3 :: v4 :: v5 :: v6 :: v7 :: v8 :: v9 :: v10 :: v11 :: v12 :: v13 :: v14 :: v15 :: v16 :: v17 :: v18 :: v19 :: v20 :: v21 :: v22 :: v23 :: v24 :: some v :: ρ) S (muTy m v) := z_mu rfl
theorem z_mu26 {v0 v1 v2 v3 v4 v5 v6 v7 v8 v9 v10 v11 v12 v13 v14 v15 v16 v17 v18 v19 v20 v21 v22 v23 v24 v25 : Option Val} {m : Mu} : evS x (.mu (.slot 26) m) (v0 :: v1 :: v2 :: v3 :: v4 :: v5 :: v6 :: v7 :: v8 :: v9 :: v10 :: v11 :: v12 :: v13 :: v14 :: v15 :: v16 :: v17 :: v18 :: v19 :: v20 :: v21 :: v22 :: v23 :: v24 :: v25 :: some v :: ρ) S = muK x 26 m v (v0 :: v1 :: v2 :: v3 :: v4 :: v5 :: v6 :: v7 :: v8 :: v9 :: v10 :: v11 :: v12 :: v13 :: v14 :: v15 :: v16 :: v17 :: v18 :: v19 :: v20 :: v21 :: v22 :: v23 :: v24 :: v25 :: some v :: ρ) S (muTy m v) := z_mu rfl
theorem z_mu27 {v0 v1 v2 v3 v4 v5 v6 v7 v8 v9 v10 v11 v12 v13 v14 v15 v16 v17 v18 v19 v20 v21 v22 v23 v24 v25 v26 : Option Val} {m : Mu} : evS x (.mu (.slot 27) m) (v0 :: v1 :: v2 :: v3 :: v4 :: v5 :: v6 :: v7 :: v8 :: v9 :: v10 :: v11 :: v12 :: v13 :: v14 :: v15 :: v16 :: v17 :: v18 :: v19 :: v20 :: v21 :: v22 :: v23 :: v24 :: v25 :: v26 :: some v :: ρ) S = muK x 27 m v (v0 :: v1 :: v2 :: v3 :: v4 :: v5 :: v6 :: v7 :: v8 :: v9 :: v10 :: v11 :: v12 :: v13 :: v14 :: v15 :: v16 :: v17 :: v18 :: v19 :: v20 :: v21 :: v22 :: v23 :: v24 :: v25 :: v26 :: some v :: ρ) S (muTy m v) := z_mu rfl
theorem z_mu28 {v0 v1 v2 v3 v4 v5 v6 v7 v8 v9 v10 v11 v12 v13 v14 v15 v16 v17 v18 v19 v20 v21 v22 v23 v24 v25 v26 v27 : Option Val} {m : Mu} : evS x (.mu (.slot 28) m) (v0 :: v1 :: v2 :: v3 :: v4 :: v5 :: v6 :: v7 :: v8 :: v9 :: v10 :: v11 :: v12 :: v13 :: v14 :: v15 :: v16 :: v17 :: v18 :: v19 :: v20 :: v21 :: v22 :: v23 :: v24 :: v25 :: v26 :: v27 :: some v :: ρ) S = muK x 28 m v (v0 :: v1 :: v2 :: v3 :: v4 :: v5 :: v6 :: v7 :: v8 :: v9 :: v10 :: v11 :: v12 :: v13 :: v14 :: v15 :: v16 :: v17 :: v18 :: v19 :: v20 :: v21 :: v22 :: v23 :: v24 :: v25 :: v26 :: v27 :: some v :: ρ) S (muTy m v) := z_mu rfl
theorem z_mu29 {v0 v1 v2 v3 v4 v5 v6 v7 v8 v9 v10 v11 v12 v13 v14 v15 v16 v17 v18 v19 v20 v21 v22 v23 v24 v25 v26 v27 v28 : Option Val} {m : Mu} : evS x (.mu (.slot 29) m) (v0 :: v1 :: v2 :: v3 :: v4 :: v5 :: v6 :: v7 :: v8 :: v9 :: v10 :: v11 :: v12 :: v13 :: v14 :: v15 :: v16 :: v17 :: v18 :: v19 :: v20 :: v21 :: v22 :: v23 :: v24 :: v25 :: v26 :: v27 :: v28 :: some v :: ρ) S = muK x 29 m v (v0 :: v1 :: v2 :: v3 :: v4 :: v5 :: v6 :: v7 :: v8 :: v9 :: v10 :: v11 :: v12 :: v13 :: v14 :: v15 :: v16 :: v17 :: v18 :: v19 :: v20 :: v21 :: v22 :: v23 :: v24 :: v25 :: v26 :: v27 :: v28 :: some v :: ρ) S (muTy m v) := z_mu rfl
theorem ma_app {e : E} : muArgs (.app e) = [e] := rfl
theorem ma_ext {e : E} : muArgs (.ext e) = [e] := rfl
theorem ma_clr : muArgs .clr = [] := rfl
theorem ma_rev : muArgs .rev = [] := rfl
theorem ma_set {k e : E} : muArgs (.seti k e) = [e, k] := rfl
theorem md_app {e : E} : muDe (.app e) S vs = vs := rfl
theorem md_ext {e : E} : muDe (.ext e) S vs = vs.map (deref S) := rfl
theorem md_clr : muDe .clr S vs = vs := rfl
theorem md_rev : muDe .rev S vs = vs := rfl
theorem md_set {k e : E} : muDe (.seti k e) S vs = vs := rfl
theorem mu_set {k e : E} {xs : List Val} {j : Nat} {i : Int} (h : atN xs.length i = some j) : muV (.seti k e) (.lst xs) [v, .int i] = some (.lst (xs.set j v)) := by
  simp only [muV, h]
theorem cn_i {j : Int} : cnV (.int j) = .int j := rfl
theorem cn_b {b : Bool} : cnV (.bl b) = .bl b := rfl
theorem cn_n : cnV .non = .non := rfl
theorem cn_s {s : Str} : cnV (.str s) = .str s := rfl

theorem ty_int_int : (Ty.int == Ty.int) = true := rfl
theorem ty_int_bool : (Ty.int == Ty.bool) = false := rfl
theorem ty_int_str : (Ty.int == Ty.str) = false := rfl
theorem ty_int_list : (Ty.int == Ty.list) = false := rfl
theorem ty_int_tuple : (Ty.int == Ty.tuple) = false := rfl
theorem ty_int_dict : (Ty.int == Ty.dict) = false := rfl
theorem ty_bool_int : (Ty.bool == Ty.int) = false := rfl
theorem ty_bool_bool : (Ty.bool == Ty.bool) = true := rfl
theorem ty_bool_str : (Ty.bool == Ty.str) = false := rfl
theorem ty_bool_list : (Ty.bool == Ty.list) = false := rfl
theorem ty_bool_tuple : (Ty.bool == Ty.tuple) = false := rfl
theorem ty_bool_dict : (Ty.bool == Ty.dict) = false := rfl
theorem ty_str_int : (Ty.str == Ty.int) = false := rfl
theorem ty_str_bool : (Ty.str == Ty.bool) = false := rfl
theorem ty_str_str : (Ty.str == Ty.str) = true := rfl
theorem ty_str_list : (Ty.str == Ty.list) = false := rfl
theorem ty_str_tuple : (Ty.str == Ty.tuple) = false := rfl
theorem ty_str_dict : (Ty.str == Ty.dict) = false := rfl
theorem ty_list_int : (Ty.list == Ty.int) = false := rfl
theorem ty_list_bool : (Ty.list == Ty.bool) = false := rfl
theorem ty_list_str : (Ty.list == Ty.str) = false := rfl
theorem ty_list_list : (Ty.list == Ty.list) = true := rfl
theorem ty_list_tuple : (Ty.list == Ty.tuple) = false := rfl
theorem ty_list_dict : (Ty.list == Ty.dict) = false := rfl
theorem ty_tuple_int : (Ty.tuple == Ty.int) = false := rfl
theorem ty_tuple_bool : (Ty.tuple == Ty.bool) = false := rfl
theorem ty_tuple_str : (Ty.tuple == Ty.str) = false := rfl
theorem ty_tuple_list : (Ty.tuple == Ty.list) = false := rfl
theorem ty_tuple_tuple : (Ty.tuple == Ty.tuple) = true := rfl
theorem ty_tuple_dict : (Ty.tuple == Ty.dict) = false := rfl
theorem ty_dict_int : (Ty.dict == Ty.int) = false := rfl
theorem ty_dict_bool : (Ty.dict == Ty.bool) = false := rfl
theorem ty_dict_str : (Ty.dict == Ty.str) = false := rfl
theorem ty_dict_list : (Ty.dict == Ty.list) = false := rfl
theorem ty_dict_tuple : (Ty.dict == Ty.tuple) = false := rfl
theorem ty_dict_dict : (Ty.dict == Ty.dict) = true := rfl
theorem at_5 {v1 v2 v3 v4 v5 : Val} {xs : List Val} : L2.atI (v :: v1 :: v2 :: v3 :: v4 :: v5 :: xs) 5 = some v5 := by
  unfold L2.atI L2.ixN
  rw [if_pos (by omega), if_pos (by simp only [List.length_cons]; omega)]
  rfl
theorem at_6 {v1 v2 v3 v4 v5 v6 : Val} {xs : List Val} : L2.atI (v :: v1 :: v2 :: v3 :: v4 :: v5 :: v6 :: xs) 6 = some v6 := by
  unfold L2.atI L2.ixN
  rw [if_pos (by omega), if_pos (by simp only [List.length_cons]; omega)]
  rfl
theorem at_7 {v1 v2 v3 v4 v5 v6 v7 : Val} {xs : List Val} : L2.atI (v :: v1 :: v2 :: v3 :: v4 :: v5 :: v6 :: v7 :: xs) 7 = some v7 := by
  unfold L2.atI L2.ixN
  rw [if_pos (by omega), if_pos (by simp only [List.length_cons]; omega)]
  rfl
theorem at_8 {v1 v2 v3 v4 v5 v6 v7 v8 : Val} {xs : List Val} : L2.atI (v :: v1 :: v2 :: v3 :: v4 :: v5 :: v6 :: v7 :: v8 :: xs) 8 = some v8 := by
  unfold L2.atI L2.ixN
  rw [if_pos (by omega), if_pos (by simp only [List.length_cons]; omega)]
  rfl
theorem at_9 {v1 v2 v3 v4 v5 v6 v7 v8 v9 : Val} {xs : List Val} : L2.atI (v :: v1 :: v2 :: v3 :: v4 :: v5 :: v6 :: v7 :: v8 :: v9 :: xs) 9 = some v9 := by
  unfold L2.atI L2.ixN
  rw [if_pos (by omega), if_pos (by simp only [List.length_cons]; omega)]
  rfl
theorem at_10 {v1 v2 v3 v4 v5 v6 v7 v8 v9 v10 : Val} {xs : List Val} : L2.atI (v :: v1 :: v2 :: v3 :: v4 :: v5 :: v6 :: v7 :: v8 :: v9 :: v10 :: xs) 10 = some v10 := by
  unfold L2.atI L2.ixN
  rw [if_pos (by omega), if_pos (by simp only [List.length_cons]; omega)]
  rfl
theorem at_11 {v1 v2 v3 v4 v5 v6 v7 v8 v9 v10 v11 : Val} {xs : List Val} : L2.atI (v :: v1 :: v2 :: v3 :: v4 :: v5 :: v6 :: v7 :: v8 :: v9 :: v10 :: v11 :: xs) 11 = some v11 := by
  unfold L2.atI L2.ixN
  rw [if_pos (by omega), if_pos (by simp only [List.length_cons]; omega)]
  rfl
theorem szb0 : szb 0 = true := rfl
theorem szb4 : szb 4 = true := rfl
theorem szb5 : szb 5 = true := rfl
theorem szb6 : szb 6 = true := rfl
theorem szb7 : szb 7 = true := rfl
theorem szb8 : szb 8 = true := rfl
theorem szb9 : szb 9 = true := rfl
theorem szb10 : szb 10 = true := rfl
theorem szb11 : szb 11 = true := rfl
theorem szb12 : szb 12 = true := rfl
theorem szb13 : szb 13 = true := rfl
theorem szb14 : szb 14 = true := rfl
theorem szb15 : szb 15 = true := rfl
theorem szb16 : szb 16 = true := rfl
theorem szb17 : szb 17 = true := rfl
theorem szb18 : szb 18 = true := rfl
theorem szb19 : szb 19 = true := rfl
theorem szb20 : szb 20 = true := rfl
theorem szb21 : szb 21 = true := rfl
theorem szb22 : szb 22 = true := rfl
theorem szb23 : szb 23 = true := rfl
theorem szb24 : szb 24 = true := rfl
theorem szb25 : szb 25 = true := rfl
theorem szb26 : szb 26 = true := rfl
theorem szb27 : szb 27 = true := rfl
theorem szb28 : szb 28 = true := rfl
theorem szb29 : szb 29 = true := rfl
theorem szb30 : szb 30 = true := rfl
theorem szb31 : szb 31 = true := rfl
theorem szb32 : szb 32 = true := rfl
theorem szb33 : szb 33 = true := rfl
theorem szb34 : szb 34 = true := rfl
theorem szb35 : szb 35 = true := rfl
theorem szb36 : szb 36 = true := rfl
theorem szb37 : szb 37 = true := rfl
theorem szb38 : szb 38 = true := rfl
theorem szb39 : szb 39 = true := rfl
theorem bbtt : (true == true) = true := rfl
theorem bbtf : (true == false) = false := rfl
theorem bbft : (false == true) = false := rfl
theorem bbff : (false == false) = true := rfl
theorem is_bb {a b : Bool} : isV (.bl a) (.bl b) = some (a == b) := rfl
theorem eqvs_ints : ∀ L : List Int, eqvs (L.map .int) (L.map .int) = true
  | [] => rfl
  | x :: L => by simp only [List.map_cons, eqvs, eqv, eqvs_ints L, decide_true, Bool.and_self]
theorem dataOks_ints (n : Nat) : ∀ L : List Int, dataOks (n + 1) (L.map .int) = true
  | [] => rfl
  | x :: L => by simp only [List.map_cons, dataOks, dataOk, dataOks_ints n L, Bool.and_self]
theorem eq_ints (L : List Int) : eqV (.lst (L.map .int)) (.lst (L.map .int)) = some true := by
  have h : dataOk 60 (.lst (L.map .int)) = true := by simp only [dataOk, dataOks_ints]
  simp only [eqV, h, and_self, if_true, eqv, eqvs_ints]
theorem cutL_two {α : Type} {xs : List α} {i j : Nat} (h1 : i ≤ j) (h2 : j ≤ xs.length) : cutL xs (some (i : Int)) (some (j : Int)) = (xs.drop i).take (j - i) := by
  have e1 : _root_.HT.sIx xs.length 0 (some (i : Int)) = i := by
    simp only [_root_.HT.sIx]
    rw [if_neg (by omega)]
    omega
  have e2 : _root_.HT.sIx xs.length xs.length (some (j : Int)) = j := by
    simp only [_root_.HT.sIx]
    rw [if_neg (by omega)]
    omega
  unfold cutL
  rw [e1, e2]
theorem cutL_to {α : Type} {xs : List α} {j : Nat} (h2 : j ≤ xs.length) : cutL xs none (some (j : Int)) = xs.take j := by
  have e2 : _root_.HT.sIx xs.length xs.length (some (j : Int)) = j := by
    simp only [_root_.HT.sIx]
    rw [if_neg (by omega)]
    omega
  unfold cutL
  rw [show _root_.HT.sIx xs.length 0 none = 0 from rfl, e2, List.drop_zero, Nat.sub_zero]
theorem cutL_from {α : Type} {xs : List α} {i : Nat} (h2 : i ≤ xs.length) : cutL xs (some (i : Int)) none = xs.drop i := by
  have e2 : _root_.HT.sIx xs.length 0 (some (i : Int)) = i := by
    simp only [_root_.HT.sIx]
    rw [if_neg (by omega)]
    omega
  unfold cutL
  rw [show _root_.HT.sIx xs.length xs.length none = xs.length from rfl, e2]
  exact List.take_of_length_le (by rw [List.length_drop]; omega)
theorem cutL_len {α : Type} {xs : List α} {lo hi : Option Int} : (cutL xs lo hi).length ≤ xs.length := by
  unfold cutL
  rw [List.length_take, List.length_drop]
  omega
theorem sl_scr {ns : List Int} {lo hi : Option Int} : slV (.scr ns) lo hi = some (.lst ((cutL ns lo hi).map .int)) := rfl
theorem sl_lst {xs : List Val} {lo hi : Option Int} : slV (.lst xs) lo hi = some (.lst (cutL xs lo hi)) := rfl
theorem lo_non : look S .non = .non := rfl
theorem lo_bl {b : Bool} : look S (.bl b) = .bl b := rfl
theorem lo_int {i : Int} : look S (.int i) = .int i := rfl
theorem lo_str {s : Str} : look S (.str s) = .str s := rfl
theorem lo_tup : look S (.tup vs) = .tup vs := rfl
theorem lo_lst : look S (.lst vs) = .lst vs := rfl
theorem lo_exc {k : Nat} : look S (.exc k) = .exc k := rfl
theorem lo_scr {ns : List Int} : look S (.scr ns) = .scr ns := rfl
theorem lo_obj {k : Nat} {fs : List (Nat × Val)} : look S (.obj k fs) = .obj k fs := rfl
theorem lo_c {n : Nat} (h : S[n]? = some (.cell w)) : look S (.ref n) = w := by
  simp only [look, h]
theorem lo_k {n : Nat} (h : S[n]? = some (.lk w)) : look S (.ref n) = w := by
  simp only [look, h]
theorem de_c {n : Nat} (h : S[n]? = some (.cell w)) : deref S (.ref n) = w := by
  simp only [deref, h]
/-- a lock -/
def lkR (x : Cfg) (a : E) (ρ : Env) (o : Option (Nat × Val × Store)) : R Val := match o with
  | some (n, w, S0) => unlkR n (evE x a ρ (S0.set n (.lk w)))
  | none => .stuck
theorem lkR_s {a : E} {n : Nat} : lkR x a ρ (some (n, w, S)) = unlkR n (evE x a ρ (S.set n (.lk w))) := rfl
theorem e_lck {d a : E} : evE x (.lck d a) ρ S = lkR x a ρ (lockN (evE x d ρ S)) := by
  simp only [evE]
  rfl
def lkS (x : Cfg) (a : St) (ρ : Env) (o : Option (Nat × Val × Store)) : RS := match o with
  | some (n, w, S0) => unlkS n (evS x a ρ (S0.set n (.lk w)))
  | none => .stuck
theorem lkS_s {a : St} {n : Nat} : lkS x a ρ (some (n, w, S)) = unlkS n (evS x a ρ (S.set n (.lk w))) := rfl
theorem z_lock {d : E} {a : St} : evS x (.lock d a) ρ S = lkS x a ρ (lockN (evE x d ρ S)) := by
  simp only [evS]
  rfl
theorem lockN_c {n : Nat} (h : S[n]? = some (.cell w)) (hd : isDct w = true) : lockN (.ok (.ref n) S) = some (n, w, S) := by
  simp only [lockN, h, hd, if_true]
theorem unlkR_ok {n : Nat} (h : S[n]? = some (.lk w)) : unlkR n (.ok v S) = .ok v (S.set n (.cell w)) := by
  simp only [unlkR, h]
theorem unlkS_nx {n : Nat} (h : S[n]? = some (.lk w)) : unlkS n (.nx ρ S) = .nx ρ (S.set n (.cell w)) := by
  simp only [unlkS, h]
theorem unlkS_ret {n : Nat} (h : S[n]? = some (.lk w)) : unlkS n (.ret v S) = .ret v (S.set n (.cell w)) := by
  simp only [unlkS, h]
/-- a lock and its end: nothing has changed -/
theorem set_back {o p : SO} {n : Nat} (h : S[n]? = some o) : (S.set n p).set n o = S := by
  rw [List.set_set]
  apply List.ext_getElem?
  intro j
  by_cases e : j = n
  · subst e
    rw [List.getElem?_set_self (List.getElem?_eq_some_iff.mp h).1, h]
  · rw [List.getElem?_set_ne (fun z => e z.symm)]
theorem set_at' {o p : SO} {n : Nat} (h : S[n]? = some o) : (S.set n p)[n]? = some p := List.getElem?_set_self (List.getElem?_eq_some_iff.mp h).1
/-- d[k] = e -/
def stC (k e : E) (ρ : Env) (v q : Val) (S : Store) (o : Option (Nat × Val)) : RS := match o with
  | some (n, w) => mrO n (muV (.seti k e) w [v, q]) ρ S
  | none => .stuck
theorem stC_s {k e : E} {q : Val} {n : Nat} : stC k e ρ v q S (some (n, w)) = mrO n (muV (.seti k e) w [v, q]) ρ S := rfl
def z_st3 (k e : E) (ρ : Env) (v p q : Val) (S : Store) : RS := stC k e ρ v q S (cellN p S)
theorem z_st3_ {k e : E} {p q : Val} : z_st3 k e ρ v p q S = stC k e ρ v q S (cellN p S) := rfl
def z_st2 (x : Cfg) (k e : E) (ρ : Env) (v p : Val) (S : Store) : RS := (evE x k ρ S).toS ρ (z_st3 k e ρ v p)
theorem z_st2_ {k e : E} {p : Val} : z_st2 x k e ρ v p S = (evE x k ρ S).toS ρ (z_st3 k e ρ v p) := rfl
def z_st1 (x : Cfg) (o k e : E) (ρ : Env) (v : Val) (S : Store) : RS := (evE x o ρ S).toS ρ (z_st2 x k e ρ v)
theorem z_st1_ {o k e : E} : z_st1 x o k e ρ v S = (evE x o ρ S).toS ρ (z_st2 x k e ρ v) := rfl
theorem z_sti {o k e : E} : evS x (.sti o k e) ρ S = (evE x e ρ S).toS ρ (z_st1 x o k e ρ) := by
  simp only [evS]
  congr
theorem cellN_c {n : Nat} (h : S[n]? = some (.cell w)) (hd : isDct w = true) : cellN (.ref n) S = some (n, w) := by
  simp only [cellN, h, hd, if_true]
theorem mu_setT {k e : E} {kvs : List (List Key × Val)} {ks : List Val} {q : List Key} (ek : keyT ks = some q) (hz : szb (kvs.length + 1) = true) : muV (.seti k e) (.dT kvs) [v, .tup ks] = some (.dT (dput q v kvs)) := by
  simp only [muV, ek, hz, if_true]
theorem mu_setK {k e : E} {kvs : List (Key × Val)} {q : Val} {a : Key} (ek : keyK q = some a) (hz : szb (kvs.length + 1) = true) : muV (.seti k e) (.dK kvs) [v, q] = some (.dK (dput a v kvs)) := by
  simp only [muV, ek, hz, if_true]
theorem mu_popT {k : E} {kvs : List (List Key × Val)} {ks : List Val} {q : List Key} (ek : keyT ks = some q) (h : dget q kvs = some w) : muV (.dpop k) (.dT kvs) [.tup ks] = some (.dT (ddel q kvs)) := by
  simp only [muV, ek, h]
theorem mu_popN {k : E} {kvs : List (List Key × Val)} {ks : List Val} {q : List Key} (ek : keyT ks = some q) : muV (.dpopN k) (.dT kvs) [.tup ks, .non] = some (.dT (ddel q kvs)) := by
  simp only [muV, ek]
theorem mt_popQ {k : E} {kvs : List (List Key × Val)} : muTy (.dpop k) (.dT kvs) = true := rfl
theorem mt_popN {k : E} {kvs : List (List Key × Val)} : muTy (.dpopN k) (.dT kvs) = true := rfl
theorem ma_pop {k : E} : muArgs (.dpop k) = [k] := rfl
theorem ma_popN {k : E} : muArgs (.dpopN k) = [k, .k .non] := rfl
theorem md_pop {k : E} : muDe (.dpop k) S vs = vs := rfl
theorem md_popN {k : E} : muDe (.dpopN k) S vs = vs := rfl
theorem bm_getT {kvs : List (List Key × Val)} {ks : List Val} {q : List Key} (ek : keyT ks = some q) : bmV .get (.dT kvs) [.tup ks] = some ((dget q kvs).getD .non) := by
  simp only [bmV, ek]
theorem ix_dT {kvs : List (List Key × Val)} {ks : List Val} {q : List Key} (ek : keyT ks = some q) : ixV (.dT kvs) (.tup ks) = dget q kvs := by
  simp only [ixV, ek]
theorem in_dT {kvs : List (List Key × Val)} {ks : List Val} {q : List Key} (ek : keyT ks = some q) : inV (.tup ks) (.dT kvs) = some (dget q kvs).isSome := by
  simp only [inV, ek]
theorem kT_2 {a b : Int} : keyT [.int a, .int b] = some [.inl a, .inl b] := rfl
theorem bi_listDT {kvs : List (List Key × Val)} : biV .list [.dT kvs] = some (.lst (kvs.map fun kv => .tup (kv.1.map unkey))) := rfl
theorem bi_listDK {kvs : List (Key × Val)} : biV .list [.dK kvs] = some (.lst (kvs.map fun kv => unkey kv.1)) := rfl
theorem isD_T {kvs : List (List Key × Val)} : isDct (.dT kvs) = true := rfl
theorem isD_K {kvs : List (Key × Val)} : isDct (.dK kvs) = true := rfl
def j_isiT (G : Prog) (ts : List Ty) (v : Val) (S : Store) : R Val := obl (tysV G S (deref S v) ts) S
theorem j_isiT_ {G : Prog} {ts : List Ty} : j_isiT G ts v S = obl (tysV G S (deref S v) ts) S := rfl
theorem e_isiT {a : E} {ts : List Ty} : evE x (.isiT a ts) ρ S = (evE x a ρ S).bind (j_isiT x.G ts) := by
  simp only [evE]
  congr
theorem forL_n {f : Val → Env → Store → RS} : forL f [] ρ S = .nx ρ S := rfl
theorem compL_n {f : Val → Store → R (Option Val)} : compL f [] S = .ok [] S := rfl
end
end Pv
end

section
set_option Elab.async false
set_option linter.all false
set_option maxRecDepth 100000
set_option autoImplicit false
/-! Rc0: numbers of the runs. -/
namespace Pv
open PySem
def wfN : Nat := 10 ^ 220
def lvN : Nat := 12
theorem abs_nat (i : Int) : (if i < 0 then -i else i) = ((i.natAbs : Nat) : Int) := by
  split <;> omega
end Pv
end

section
set_option Elab.async false
set_option linter.all false
set_option maxRecDepth 100000
set_option autoImplicit false
/-! Rg: plain facts: sizes of numbers, data that equals itself, sums. -/
namespace Pv
open PySem
theorem pw_add {x y : Int} {a : Nat} (hx : x.natAbs < 2 ^ a) (hy : y.natAbs < 2 ^ a) : (x + y).natAbs < 2 ^ (a + 1) := by
  rw [Nat.pow_succ]
  omega
theorem pw_mul {x y : Int} {a b : Nat} (hx : x.natAbs < 2 ^ a) (hy : y.natAbs < 2 ^ b) : (x * y).natAbs < 2 ^ (a + b) := by
  rw [Int.natAbs_mul, Nat.pow_add]
  exact Nat.mul_lt_mul'' hx hy
theorem pw_le {x : Int} {a b : Nat} (hx : x.natAbs < 2 ^ a) (h : a ≤ b) : x.natAbs < 2 ^ b := Nat.lt_of_lt_of_le hx (Nat.pow_le_pow_right (by omega) h)
/-- a script's numbers: a bound of bits that is never computed -/
theorem bits_pw {ns : List Int} (hb : ∀ z ∈ ns, Builtin.Int.intBits z ≤ 1048576) : ∃ B : Nat, 100 ≤ B ∧ B ≤ 2000000 ∧ ∀ z ∈ ns, z.natAbs < 2 ^ B := by
  refine ⟨1048576, by omega, by omega, fun z hz => ?_⟩
  have h := hb z hz
  generalize 1048576 = B at h
  unfold Builtin.Int.intBits at h
  split at h
  · rename_i h0
    have : z = 0 := by simpa using h0
    subst this
    exact Nat.pos_of_ne_zero (by simp)
  · rename_i h0
    have h1 : z.natAbs ≠ 0 := by
      intro h2
      apply h0
      have : z = 0 := by omega
      simp [this]
    exact (Nat.log2_lt h1).mp (by omega)
mutual
theorem eqv_refl : ∀ (n : Nat) (v : Val), dataOk n v = true → eqv v v = true
  | 0, _, h => by simp [dataOk] at h
  | n + 1, .lst xs, h => by
    simp only [dataOk] at h
    simp only [eqv]
    exact eqvs_refl n xs h
  | n + 1, .tup xs, h => by
    simp only [dataOk] at h
    simp only [eqv]
    exact eqvs_refl n xs h
  | _ + 1, .non, _ => rfl
  | _ + 1, .bl b, _ => by simp [eqv]
  | _ + 1, .int i, _ => by simp [eqv]
  | _ + 1, .str s, _ => by simp [eqv]
  | _ + 1, .dK _, h => by simp [dataOk] at h
  | _ + 1, .dT _, h => by simp [dataOk] at h
  | _ + 1, .obj _ _, h => by simp [dataOk] at h
  | _ + 1, .ref _, h => by simp [dataOk] at h
  | _ + 1, .exc _, h => by simp [dataOk] at h
  | _ + 1, .scr _, h => by simp [dataOk] at h
theorem eqvs_refl : ∀ (n : Nat) (xs : List Val), dataOks n xs = true → eqvs xs xs = true
  | _, [], _ => rfl
  | n, x :: xs, h => by
    simp only [dataOks, Bool.and_eq_true] at h
    simp only [eqvs, eqv_refl n x h.1, eqvs_refl n xs h.2, Bool.and_self]
end
theorem eqV_refl {v : Val} (h : dataOk 60 v = true) : eqV v v = some true := by
  unfold eqV
  split
  · simp
  · rw [if_pos ⟨h, h⟩, eqv_refl 60 _ h]
theorem dataOks_map {α : Type} (n : Nat) (enc : α → Val) (h : ∀ a, dataOk n (enc a) = true) : ∀ L : List α, dataOks n (L.map enc) = true
  | [] => rfl
  | x :: L => by simp only [List.map_cons, dataOks, h, dataOks_map n enc h L, Bool.and_self]
theorem eq_map {α : Type} (enc : α → Val) (h : ∀ a, dataOk 59 (enc a) = true) (L : List α) : eqV (.lst (L.map enc)) (.lst (L.map enc)) = some true :=
  eqV_refl (by simp only [dataOk]; exact dataOks_map 59 enc h L)
/-- a pair of ints -/
def encP (p : Int × Int) : Val := .tup [.int p.1, .int p.2]
theorem encP_ok (p : Int × Int) : dataOk 59 (encP p) = true := rfl
theorem eq_pairs (L : List (Int × Int)) : eqV (.lst (L.map encP)) (.lst (L.map encP)) = some true := eq_map encP encP_ok L
theorem map_at {α : Type} {enc : α → Val} {L : List α} {i : Nat} (h : i < L.length) : L2.atI (L.map enc) (i : Int) = some (enc L[i]) := by
  apply atI_ok
  rw [List.getElem?_map, List.getElem?_eq_getElem h]
  rfl
def his (L : List (Int × Int)) (i : Nat) : Int := (L.getD i (0, 0)).2
def los (L : List (Int × Int)) (i : Nat) : Int := (L.getD i (0, 0)).1
theorem at_his {L : List (Int × Int)} {i : Nat} (h : i < L.length) : L2.atI (L.map encP) (i : Int) = some (.tup [.int (los L i), .int (his L i)]) := by
  rw [map_at h]
  unfold encP los his
  rw [List.getD_eq_getElem?_getD, List.getElem?_eq_getElem h]
  rfl
/-- a loop that goes on at good items and returns at the first one that is not -/
theorem forL_all {f : Val → Env → Store → RS} (I : Env → Prop) (good : Nat → Prop) {S : Store} {v : Val} : ∀ (xs : List Val) (m : Nat) (ρ : Env),
    (∀ (i : Nat) (hi : i < xs.length) ρ, I ρ → (good (m + i) ∧ ∃ ρ1, (f xs[i] ρ S = .nx ρ1 S ∨ f xs[i] ρ S = .cnt ρ1 S) ∧ I ρ1) ∨ (¬ good (m + i) ∧ f xs[i] ρ S = .ret v S)) → I ρ →
    ((∀ i, i < xs.length → good (m + i)) ∧ ∃ ρ1, forL f xs ρ S = .nx ρ1 S ∧ I ρ1) ∨ ((¬ ∀ i, i < xs.length → good (m + i)) ∧ forL f xs ρ S = .ret v S)
  | [], m, ρ, _, h => .inl ⟨fun i hi => absurd hi (Nat.not_lt_zero _), ρ, rfl, h⟩
  | x :: xs, m, ρ, hs, h => by
    rcases hs 0 (by simp) ρ h with ⟨g0, ρ1, e, h1⟩ | ⟨g0, e⟩
    · have ih := forL_all I good xs (m + 1) ρ1 (fun i hi ρ hI => by
        have := hs (i + 1) (by simp only [List.length_cons]; omega) ρ hI
        rw [show m + (i + 1) = m + 1 + i by omega] at this
        exact this) h1
      simp only [List.getElem_cons_zero] at e
      have e2 : forL f (x :: xs) ρ S = forL f xs ρ1 S := by
        simp only [forL]
        rcases e with e | e <;> rw [e]
      rw [e2]
      rcases ih with ⟨g1, r⟩ | ⟨g1, r⟩
      · refine .inl ⟨fun i hi => ?_, r⟩
        cases i with
        | zero => exact g0
        | succ i =>
          have := g1 i (by simpa using hi)
          rw [show m + (i + 1) = m + 1 + i by omega]
          exact this
      · refine .inr ⟨fun a => g1 fun i hi => ?_, r⟩
        have := a (i + 1) (by simp only [List.length_cons]; omega)
        rw [show m + (i + 1) = m + 1 + i by omega] at this
        exact this
    · refine .inr ⟨fun a => g0 (a 0 (by simp)), ?_⟩
      simp only [List.getElem_cons_zero] at e
      simp only [forL, e]
/-- .. that raises at the first one that is not -/
theorem forL_allX {f : Val → Env → Store → RS} (I : Env → Prop) (good : Nat → Prop) {S : Store} {c : Nat} : ∀ (xs : List Val) (m : Nat) (ρ : Env),
    (∀ (i : Nat) (hi : i < xs.length) ρ, I ρ → (good (m + i) ∧ ∃ ρ1, (f xs[i] ρ S = .nx ρ1 S ∨ f xs[i] ρ S = .cnt ρ1 S) ∧ I ρ1) ∨ (¬ good (m + i) ∧ ∃ ρ1, f xs[i] ρ S = .exn c ρ1 S)) → I ρ →
    ((∀ i, i < xs.length → good (m + i)) ∧ ∃ ρ1, forL f xs ρ S = .nx ρ1 S ∧ I ρ1) ∨ ((¬ ∀ i, i < xs.length → good (m + i)) ∧ ∃ ρ1, forL f xs ρ S = .exn c ρ1 S)
  | [], m, ρ, _, h => .inl ⟨fun i hi => absurd hi (Nat.not_lt_zero _), ρ, rfl, h⟩
  | x :: xs, m, ρ, hs, h => by
    rcases hs 0 (by simp) ρ h with ⟨g0, ρ1, e, h1⟩ | ⟨g0, ρ1, e⟩
    · have ih := forL_allX I good xs (m + 1) ρ1 (fun i hi ρ hI => by
        have := hs (i + 1) (by simp only [List.length_cons]; omega) ρ hI
        rw [show m + (i + 1) = m + 1 + i by omega] at this
        exact this) h1
      simp only [List.getElem_cons_zero] at e
      have e2 : forL f (x :: xs) ρ S = forL f xs ρ1 S := by
        simp only [forL]
        rcases e with e | e <;> rw [e]
      rw [e2]
      rcases ih with ⟨g1, r⟩ | ⟨g1, r⟩
      · refine .inl ⟨fun i hi => ?_, r⟩
        cases i with
        | zero => exact g0
        | succ i =>
          have := g1 i (by simpa using hi)
          rw [show m + (i + 1) = m + 1 + i by omega]
          exact this
      · refine .inr ⟨fun a => g1 fun i hi => ?_, r⟩
        have := a (i + 1) (by simp only [List.length_cons]; omega)
        rw [show m + (i + 1) = m + 1 + i by omega] at this
        exact this
    · refine .inr ⟨fun a => g0 (a 0 (by simp)), ρ1, ?_⟩
      simp only [List.getElem_cons_zero] at e
      simp only [forL, e]
/-- sums from the front -/
def psum (h : Nat → Int) : Nat → Int
  | 0 => 0
  | n + 1 => psum h n + h n
theorem psum_sub (h : Nat → Int) (a : Nat) : ∀ n, ((List.range n).map fun i => h (a + i)).sum = psum h (a + n) - psum h a
  | 0 => by simp
  | n + 1 => by
    rw [List.range_succ, List.map_append, List.sum_append, psum_sub h a n, List.map_cons, List.map_nil, List.sum_cons, List.sum_nil]
    rw [show a + (n + 1) = (a + n) + 1 by omega, psum]
    omega
/-! ### ends, stretches -/
def oV : Option Int → Val
  | none => .non
  | some b => .int b
/-- a stretch; a mark -/
def encO (p : Option Int × Option Int) : Val := .tup [oV p.1, oV p.2]
theorem oV_ok {n : Nat} (o : Option Int) : dataOk (n + 1) (oV o) = true := by cases o <;> rfl
theorem encO_ok {n : Nat} (p : Option Int × Option Int) : dataOk (n + 2) (encO p) = true := by
  simp only [encO, dataOk, dataOks, oV_ok, Bool.and_self]
theorem de_oV {S : Store} (o : Option Int) : deref S (oV o) = oV o := by cases o <;> rfl
theorem de_encO {S : Store} (o : Option Int × Option Int) : deref S (encO o) = encO o := rfl
theorem oV_s {i : Int} : oV (some i) = .int i := rfl
theorem oV_n : oV none = .non := rfl
theorem compL_ex {γ : Type} {f : Val → Store → R (Option Val)} {enc : γ → Val} {P : γ → Prop} {S : Store} : ∀ (xs : List Val), (∀ x ∈ xs, ∃ y, P y ∧ f x S = .ok (some (enc y)) S) → ∃ ys : List γ, ys.length = xs.length ∧ (∀ y ∈ ys, P y) ∧ compL f xs S = .ok (ys.map enc) S
  | [], _ => ⟨[], rfl, fun _ h => (nomatch h), rfl⟩
  | x :: xs, h => by
    obtain ⟨y, hy, ey⟩ := h x List.mem_cons_self
    obtain ⟨ys, hl, hP, e⟩ := compL_ex xs fun z hz => h z (List.mem_cons_of_mem _ hz)
    refine ⟨y :: ys, by rw [List.length_cons, List.length_cons, hl], fun z hz => ?_, ?_⟩
    · rcases List.mem_cons.mp hz with rfl | hz
      · exact hy
      · exact hP z hz
    · simp only [compL, ey, e, List.map_cons]
end Pv
end

section
set_option Elab.async false
set_option linter.all false
set_option maxRecDepth 100000
set_option autoImplicit false
/-! Rpk0: the script's cells, bounded. -/
namespace Pv
open PySem
/-- the cell that is picked -/
def cw (ns : List Int) (k : Int) : Int := if 0 < ns.length then ns.getD (k % ns.length).toNat 0 else 0
/-- a script whose numbers are bounded -/
def Bd (ns : List Int) : Prop := ns.length ≤ 63 ∧ ∃ B : Nat, 100 ≤ B ∧ B ≤ 2000000 ∧ ∀ z ∈ ns, z.natAbs < 2 ^ B
theorem cw_b {ns : List Int} {B : Nat} (h : ∀ z ∈ ns, z.natAbs < 2 ^ B) (k : Int) : (cw ns k).natAbs < 2 ^ B := by
  unfold cw
  split
  · rw [List.getD_eq_getElem?_getD]
    cases e : ns[(k % ns.length).toNat]? with
    | none => exact Nat.two_pow_pos B
    | some z => exact h z (List.mem_of_getElem? e)
  · exact Nat.two_pow_pos B
theorem scr_cw {ns : List Int} {k : Int} (h : 0 < ns.length) : scrAt ns (k % (ns.length : Int)) = some (.int (cw ns k)) := by
  have h1 : 0 ≤ k % (ns.length : Int) := Int.emod_nonneg _ (by omega)
  have h2 : k % (ns.length : Int) < ns.length := Int.emod_lt_of_pos _ (by omega)
  have hl : (k % (ns.length : Int)).toNat < ns.length := by omega
  unfold scrAt L2.atI L2.ixN
  rw [if_pos h1, if_pos h2]
  show (match ns[(k % (ns.length : Int)).toNat]? with
    | some k => some (Val.int k)
    | none => none) = _
  rw [List.getElem?_eq_getElem hl]
  unfold cw
  rw [if_pos h, List.getD_eq_getElem?_getD, List.getElem?_eq_getElem hl]
  rfl
end Pv
end

section
set_option Elab.async false
set_option linter.all false
set_option maxRecDepth 100000
set_option autoImplicit false
/-! Rpt: courses, parts of a claim. -/
namespace Pv
open PySem
def cat (C : List Int) (i : Nat) : Int := C.getD i 0
def gap (C : List Int) (i : Nat) : Int := cat C (i + 1) - cat C i
def inO (p : Option Int × Option Int) (x : Int) : Bool := (match p.1 with
  | none => true
  | some a => decide (a ≤ x)) && (match p.2 with
  | none => true
  | some b => decide (x ≤ b))
theorem cat_eq {C : List Int} {i : Nat} (h : i < C.length) : cat C i = C[i] := by
  unfold cat
  rw [List.getD_eq_getElem?_getD, List.getElem?_eq_getElem h]
  rfl
theorem at_c {C : List Int} {i : Nat} (h : i < C.length) : L2.atI (C.map Val.int) (i : Int) = some (.int (cat C i)) := by rw [map_at h, cat_eq h]
structure Part where
  step : Bool
  turn : Nat
  span : Option Int × Option Int
def numP (C : List Int) (p : Part) : Int := if p.step = true then gap C p.turn else cat C p.turn
def metB (C : List Int) (c : List Part) : Bool := c.all fun p => inO p.span (numP C p)
def kd (b : Bool) : Str := if b = true then ⟨#[115, 116, 101, 112]⟩ else ⟨#[97, 116]⟩
def partV (p : Part) : Val := .tup [.str (kd p.step), .int p.turn, encO p.span]
def clV (c : List Part) : Val := .lst (c.map partV)
theorem kd_s : kd true = ⟨#[115, 116, 101, 112]⟩ := rfl
theorem kd_a : kd false = ⟨#[97, 116]⟩ := rfl
theorem partV_ok {n : Nat} (p : Part) : dataOk (n + 3) (partV p) = true := by
  obtain ⟨b, t, q⟩ := p
  simp only [partV, dataOk, dataOks, encO_ok, Bool.and_true]
  cases b <;> decide +kernel
theorem clV_ok {n : Nat} (c : List Part) : dataOk (n + 4) (clV c) = true := by
  simp only [clV, dataOk]
  exact dataOks_map _ _ partV_ok c
structure PartOk (far : Nat) (p : Part) : Prop where
  far : p.turn + (if p.step = true then 1 else 0) ≤ far
  sp : ∀ a b, p.span = (some a, some b) → a ≤ b
end Pv
end

section
set_option Elab.async false
set_option linter.all false
set_option maxRecDepth 100000
set_option autoImplicit false
/-! Rbs: a board's five numbers. -/
namespace Pv
open PySem
/-- eyes, turns, up, down, most, far -/
structure Shp where
  eyes : Int
  turns : Nat
  up : Int
  down : Int
  most : Int
  far : Int
structure ShOk (s : Shp) : Prop where
  e1 : 1 ≤ s.eyes
  e7 : s.eyes ≤ 7
  t1 : 1 ≤ s.turns
  t12 : s.turns ≤ 12
  u0 : 0 ≤ s.up
  d0 : 0 ≤ s.down
  m0 : 0 ≤ s.most
  m1 : s.most ≤ s.eyes
  f1 : 1 ≤ s.far
end Pv
end

section
set_option Elab.async false
set_option linter.all false
set_option maxRecDepth 100000
set_option maxHeartbeats 1000000
set_option autoImplicit false
/-! Rsh00: a drawn board's shape as a list. -/
namespace Pv
open PySem
def shV (s : Shp) : Val := .lst [.int s.eyes, .int (s.turns : Int), .int s.up, .int s.down, .int s.most, .int s.far]
theorem at_ints {L : List Int} {k : Int} (h0 : 0 ≤ k) (h1 : k < L.length) : ∃ x ∈ L, L2.atI (L.map Val.int) k = some (.int x) := by
  obtain ⟨i, rfl⟩ : ∃ i : Nat, k = (i : Int) := ⟨k.toNat, by omega⟩
  have hi : i < L.length := by omega
  exact ⟨L[i], List.getElem_mem hi, by rw [map_at hi]⟩
end Pv
end

section
set_option Elab.async false
set_option linter.all false
set_option maxRecDepth 100000
set_option maxHeartbeats 1000000
set_option autoImplicit false
/-! Rdr: draws, the base. -/
namespace Pv
open PySem
local macro_rules | `(tactic| simp (decide := true) only [PV, $xs,*]) => `(tactic| simp (decide := true) only [↓e_v0, ↓e_v1, ↓e_v2, ↓e_v3, ↓e_v4, ↓e_v5, ↓e_v6, ↓e_v7, ↓e_v8, ↓e_v9, ↓e_v10, ↓e_v11, ↓e_v12, ↓e_v13, ↓e_v14, ↓e_v15, ↓e_v16, ↓e_v17, ↓e_v18, ↓e_v19, ↓e_v20, ↓e_v21, ↓e_v22, ↓e_v23, ↓e_v24, ↓e_v25, ↓e_v26, ↓e_v27, ↓e_v28, ↓e_v29, ↓e_k, ↓e_gl, ↓e_op2, ↓e_rep, ↓e_neg, ↓e_cmp, ↓e_ch, ↓e_ch3, ↓e_bop, ↓e_nt, ↓e_ife, ↓e_tup, ↓e_lst, ↓e_ix, ↓e_sl, ↓e_fld, ↓e_call, ↓e_mk, ↓e_mth, ↓e_bi, ↓e_bm, ↓e_sortk, ↓e_isi, ↓e_comp, ↓e_d0, ↓e_mkr, ↓e_lck, ↓e_isiT, ↓e_rng, ↓e_zip, ↓e_rev, ↓es_n, ↓es_c, ↓eO_n, ↓eO_s, ↓eB_1, ↓eB_c, ↓q_n, ↓q_1, ↓q_c, ↓z_set, ↓z_unp, ↓z_mr, ↓z_ex, ↓z_ret, ↓z_retN, ↓z_ife, ↓z_for, ↓z_whil, ↓z_brk, ↓z_cnt, ↓z_pas, ↓z_sfld, ↓z_binit, ↓z_rais, ↓z_mvs, ↓z_tr, ↓z_lock, ↓z_sti, ↓z_st1_, ↓z_st2_, ↓z_st3_, ↓j_isiT_, ↓j_mkr_n, ↓h_n, ↓h_c, ↓k2_, ↓j_op2_, ↓j_rep_, ↓j_neg_, ↓j_cmp_, ↓j_ch2_, ↓j_ch3_, ↓j_cu2_, ↓j_cu3_, ↓j_nt_, ↓j_tup_, ↓j_lst_, ↓j_ix_, ↓j_sl_, ↓j_sl2_, ↓j_sl3_, ↓j_mth_, ↓j_bi_, ↓j_bm_, ↓j_bm2_, ↓j_isi_, ↓j_lok_, ↓j_mkr_l, ↓j_mkr_k, ↓j_mkr_t, ↓j_comp_l, ↓j_comp_t, ↓j_comp_s, ↓j_comp_r, ↓j_rng_, ↓j_zip_, ↓j_rev_, ↓j_cons_, ↓k_es_, ↓z_setK_, ↓z_unpK_, ↓z_exK_, ↓z_forK_l, ↓z_forK_t, ↓z_forK_s, ↓z_forK_r, ↓k_mu_, ↓k_mr_, ↓z_mrK_, ↓z_mu0, ↓z_mu1, ↓z_mu2, ↓z_mu3, ↓z_mu4, ↓z_mu5, ↓z_mu6, ↓z_mu7, ↓z_mu8, ↓z_mu9, ↓z_mu10, ↓z_mu11, ↓z_mu12, ↓z_mu13, ↓z_mu14, ↓z_mu15, ↓z_mu16, ↓z_mu17, ↓z_mu18, ↓z_mu19, ↓z_mu20, ↓z_mu21, ↓z_mu22, ↓z_mu23, ↓z_mu24, ↓z_mu25, ↓z_mu26, ↓z_mu27, ↓z_mu28, ↓z_mu29, ty_int_int, ty_int_bool, ty_int_str, ty_int_list, ty_int_tuple, ty_int_dict, ty_bool_int, ty_bool_bool, ty_bool_str, ty_bool_list, ty_bool_tuple, ty_bool_dict, ty_str_int, ty_str_bool, ty_str_str, ty_str_list, ty_str_tuple, ty_str_dict, ty_list_int, ty_list_bool, ty_list_str, ty_list_list, ty_list_tuple, ty_list_dict, ty_tuple_int, ty_tuple_bool, ty_tuple_str, ty_tuple_list, ty_tuple_tuple, ty_tuple_dict, ty_dict_int, ty_dict_bool, ty_dict_str, ty_dict_list, ty_dict_tuple, ty_dict_dict, st_0, st_1, st_2, st_3, st_4, st_5, st_6, st_7, st_8, st_9, st_10, st_11, st_12, st_13, st_14, st_15, st_16, st_17, st_18, st_19, st_20, st_21, st_22, st_23, st_24, st_25, st_26, st_27, st_28, st_29, b_ok, b_exn, t_ok, t_exn, of_some, fldQ_t, mthR_s, callF_, fg_hit, fg_nil, fp_hit, fp_nil, sfQ_t, z_sf3_, z_sf2_, biR_ok, biR_exn, k_bi_, oi_nx, oi_exn, sq_nx, sq_ret, sq_exn, sq_brk, sq_cnt, obl_some, orO_s, ob_ret, ob_nx, ob_exn, j_rep2_, j_ife_, z_ifeK_, chV_b, cuV_b, szt_t, compV_some, cpR_ok, cB_one, cB_m2, cB_m3, cB_c2, cB_c3, cB_many, cB_cd1, cdX_ok, lstO_some, zipV_l, revV_l, intO_i, bB_tt, bB_tf, bB_ft, bB_ff, bB_t, bB_f, unpV_t, unpV_l, nxO_s, lkR_s, lkS_s, stC_s, mt_popQ, mt_popN, ma_pop, ma_popN, md_pop, md_popN, forV_s, forW_s, fB_one, fB_m2, fB_m3, fB_many, bm_n, bm_c, mvR_nx, mvR_ret, mvR_exn, dE_n, dE_c, trR_nx, trR_ret, trR_exn, caR_t, caR_f, unAs_nx, unAs_ret, aS_s, aS_n, muO_s, muK_t, mrO_s, mrD_s, mrT_t, mrC_s, at_new, set_new, ma_app, ma_ext, ma_clr, ma_rev, ma_set, md_app, md_ext, md_clr, md_rev, md_set, cn_i, cn_b, cn_n, cn_s, forL_n, compL_n, j_fld_, Nat.zero_add, fg_miss, fp_miss, at_5, at_6, at_7, at_8, at_9, at_10, at_11, is_bb, bbtt, bbtf, bbft, bbff, beq_self_eq_true, mulOk_small, mulOk_small2, Bool.or_true, Bool.or_false, Bool.true_or, Bool.false_or, Bool.and_true, Bool.true_and, startE, eqV_int, eqV_str, op_add, op_sub, op_mul, op_fdiv, op_fdivN, op_mod, op_pow, op_addS, op_addL, de_non, de_bl, de_int, de_str, de_tup, de_lst, de_exc, de_scr, de_obj, lo_non, lo_bl, lo_int, lo_str, lo_tup, lo_lst, lo_exc, lo_scr, lo_obj, kT_2, bi_listDT, bi_listDK, isD_T, isD_K, cp_lt, cp_le, cp_gt, cp_ge, cp_eq, cp_ne, cp_isn, cp_isnt, cp_in, cp_nin, no_some, is_non, nb_non, nb_int, nb_bl, nb_tup, nb_lst, nb_str, eq_nn, eq_ni, eq_in, eq_bb, ix_lst, ix_tup, ix_scr, at_0, at_1, at_2, at_3, at_4, bi_lenL, bi_lenT, bi_lenC, bi_abs, bi_min2, bi_max2, bi_listL, bi_listT, bi_listR, ty_int, ty_bl, ty_non, ty_str, ty_lst, ty_tup, ty_exV, it_lst, it_tup, mu_app, mu_ext, mt_app, mt_ext, mt_clr, mt_rev, mt_set, mu_clr, mu_rev, List.map_cons, List.map_nil, List.length_cons, List.length_nil, List.cons_append, List.nil_append, List.replicate, Nat.reduceSub, Nat.reduceAdd, ↓reduceIte, if_true, if_false, Bool.false_eq_true, decide_eq_true_eq, decide_true, decide_false, Bool.not_true, Bool.not_false, reduceCtorEq, ite_true, ite_false, Int.reduceLT, Int.reduceLE, Int.reducePow, Int.reduceMul, Int.reduceAdd, Int.reduceSub, Int.reduceToNat, Nat.reduceLT, Nat.reducePow, and_self, and_true, true_and, Int.reduceNeg, Int.reduceEq, szb1, szb2, szb3, szb0, szb4, szb5, szb6, szb7, szb8, szb9, szb10, szb11, szb12, szb13, szb14, szb15, szb16, szb17, szb18, szb19, szb20, szb21, szb22, szb23, szb24, szb25, szb26, szb27, szb28, szb29, szb30, szb31, szb32, szb33, szb34, szb35, szb36, szb37, szb38, szb39, $xs,*])
def dw (ns : List Int) (k p m : Int) : Int := if ns.length = 0 then 0 else (cw ns k + k * k) * 48271 % p % m
theorem dw_b {ns : List Int} {k p m : Int} (hm : 0 < m) : 0 ≤ dw ns k p m ∧ dw ns k p m < m := by
  unfold dw
  split
  · omega
  · exact ⟨Int.emod_nonneg _ (by omega), Int.emod_lt_of_pos _ hm⟩
section
variable {n : Nat} {ns : List Int} {S : Store}
theorem r_draw {k p m : Int} (hd : Bd ns) (hk : k.natAbs < 1000000) (hp : 0 < p) (hm : 0 < m) : run G wfN (n + 1) 391 [.scr ns, .int k, .int p, .int m] S = .ok (.int (dw ns k p m)) S := by
  rw [run_unf (F := F_l_draw) rfl rfl rfl]
  obtain ⟨_, B, hB1, hB2, hz⟩ := hd
  have hc := cw_b hz k
  have hk64 : k.natAbs < 2 ^ 64 := by omega
  have hkB : (k * k).natAbs < 2 ^ B := pw_le (pw_mul (a := 20) (b := 20) (by omega) (by omega)) (by omega)
  have m1 : mulOk k k = true := mulOk_small hk64
  have h48271 : (48271 : Int).natAbs < 2 ^ 64 := by decide
  have a1 := pw_add hc hkB
  have m2 : mulOk (cw ns k + k * k) 48271 = true := mulOk_of a1 h48271 (by omega) (by omega) (by omega)
  unfold dw
  by_cases h : ns.length = 0
  · have h' : (ns.length : Int) = 0 := by omega
    simp (decide := true) only [PV, F_l_draw, h', h]
  · have h' : ¬ (ns.length : Int) = 0 := by omega
    have h0 : (0 : Int) < (ns.length : Int) := by omega
    have e := scr_cw (ns := ns) (k := k) (by omega)
    simp (decide := true) only [PV, F_l_draw, h', h, e, m1, m2, op_mod h0, op_mod hp, op_mod hm]
theorem r_base (hd : Bd ns) : ∃ b : Int, run G wfN (n + 2) 392 [.scr ns] S = .ok (.int b) S := by
  rw [run_unf (F := F_l_base) rfl rfl rfl]
  by_cases h : ns.length = 0
  · have h' : (ns.length : Int) = 0 := by omega
    exact ⟨0, by simp (decide := true) only [PV, F_l_base, h']⟩
  · have h' : ¬ (ns.length : Int) = 0 := by omega
    have e := scr_cw (ns := ns) (k := 0) (by omega)
    rw [Int.zero_emod] at e
    have p := r_draw (n := n) (S := S) hd (k := 1) (p := 10007) (m := 4) (by decide) (by decide) (by decide)
    have b := dw_b (ns := ns) (k := 1) (p := 10007) (m := 4) (by decide)
    generalize dw ns 1 10007 4 = q at p b
    have hp : (0 : Int) < 10000000000000000000000000000000000000000000000000000000000 := by decide
    obtain ⟨x, _, ex⟩ := at_ints (L := [0, cw ns 0 % 10000000000000000000000000000000000000000000000000000000000, 0 - cw ns 0 % 10000000000000000000000000000000000000000000000000000000000, 10000000000000000000000000000000000000000000000000000000000 - cw ns 0 % 10000000000000000000000000000000000000000000000000000000000]) (k := q) b.1 b.2
    simp only [List.map_cons, List.map_nil] at ex
    exact ⟨x, by simp (decide := true) only [PV, F_l_base, h', e, p, op_mod hp, ex]⟩
end
end Pv
end

section
set_option Elab.async false
set_option linter.all false
set_option maxRecDepth 100000
set_option autoImplicit false
namespace Pv
open PySem
local macro_rules | `(tactic| simp (decide := true) only [PV, $xs,*]) => `(tactic| simp (decide := true) only [↓e_v0, ↓e_v1, ↓e_v2, ↓e_v3, ↓e_v4, ↓e_v5, ↓e_v6, ↓e_v7, ↓e_v8, ↓e_v9, ↓e_v10, ↓e_v11, ↓e_v12, ↓e_v13, ↓e_v14, ↓e_v15, ↓e_v16, ↓e_v17, ↓e_v18, ↓e_v19, ↓e_v20, ↓e_v21, ↓e_v22, ↓e_v23, ↓e_v24, ↓e_v25, ↓e_v26, ↓e_v27, ↓e_v28, ↓e_v29, ↓e_k, ↓e_gl, ↓e_op2, ↓e_rep, ↓e_neg, ↓e_cmp, ↓e_ch, ↓e_ch3, ↓e_bop, ↓e_nt, ↓e_ife, ↓e_tup, ↓e_lst, ↓e_ix, ↓e_sl, ↓e_fld, ↓e_call, ↓e_mk, ↓e_mth, ↓e_bi, ↓e_bm, ↓e_sortk, ↓e_isi, ↓e_comp, ↓e_d0, ↓e_mkr, ↓e_lck, ↓e_isiT, ↓e_rng, ↓e_zip, ↓e_rev, ↓es_n, ↓es_c, ↓eO_n, ↓eO_s, ↓eB_1, ↓eB_c, ↓q_n, ↓q_1, ↓q_c, ↓z_set, ↓z_unp, ↓z_mr, ↓z_ex, ↓z_ret, ↓z_retN, ↓z_ife, ↓z_for, ↓z_whil, ↓z_brk, ↓z_cnt, ↓z_pas, ↓z_sfld, ↓z_binit, ↓z_rais, ↓z_mvs, ↓z_tr, ↓z_lock, ↓z_sti, ↓z_st1_, ↓z_st2_, ↓z_st3_, ↓j_isiT_, ↓j_mkr_n, ↓h_n, ↓h_c, ↓k2_, ↓j_op2_, ↓j_rep_, ↓j_neg_, ↓j_cmp_, ↓j_ch2_, ↓j_ch3_, ↓j_cu2_, ↓j_cu3_, ↓j_nt_, ↓j_tup_, ↓j_lst_, ↓j_ix_, ↓j_sl_, ↓j_sl2_, ↓j_sl3_, ↓j_mth_, ↓j_bi_, ↓j_bm_, ↓j_bm2_, ↓j_isi_, ↓j_lok_, ↓j_mkr_l, ↓j_mkr_k, ↓j_mkr_t, ↓j_comp_l, ↓j_comp_t, ↓j_comp_s, ↓j_comp_r, ↓j_rng_, ↓j_zip_, ↓j_rev_, ↓j_cons_, ↓k_es_, ↓z_setK_, ↓z_unpK_, ↓z_exK_, ↓z_forK_l, ↓z_forK_t, ↓z_forK_s, ↓z_forK_r, ↓k_mu_, ↓k_mr_, ↓z_mrK_, ↓z_mu0, ↓z_mu1, ↓z_mu2, ↓z_mu3, ↓z_mu4, ↓z_mu5, ↓z_mu6, ↓z_mu7, ↓z_mu8, ↓z_mu9, ↓z_mu10, ↓z_mu11, ↓z_mu12, ↓z_mu13, ↓z_mu14, ↓z_mu15, ↓z_mu16, ↓z_mu17, ↓z_mu18, ↓z_mu19, ↓z_mu20, ↓z_mu21, ↓z_mu22, ↓z_mu23, ↓z_mu24, ↓z_mu25, ↓z_mu26, ↓z_mu27, ↓z_mu28, ↓z_mu29, ty_int_int, ty_int_bool, ty_int_str, ty_int_list, ty_int_tuple, ty_int_dict, ty_bool_int, ty_bool_bool, ty_bool_str, ty_bool_list, ty_bool_tuple, ty_bool_dict, ty_str_int, ty_str_bool, ty_str_str, ty_str_list, ty_str_tuple, ty_str_dict, ty_list_int, ty_list_bool, ty_list_str, ty_list_list, ty_list_tuple, ty_list_dict, ty_tuple_int, ty_tuple_bool, ty_tuple_str, ty_tuple_list, ty_tuple_tuple, ty_tuple_dict, ty_dict_int, ty_dict_bool, ty_dict_str, ty_dict_list, ty_dict_tuple, ty_dict_dict, st_0, st_1, st_2, st_3, st_4, st_5, st_6, st_7, st_8, st_9, st_10, st_11, st_12, st_13, st_14, st_15, st_16, st_17, st_18, st_19, st_20, st_21, st_22, st_23, st_24, st_25, st_26, st_27, st_28, st_29, b_ok, b_exn, t_ok, t_exn, of_some, fldQ_t, mthR_s, callF_, fg_hit, fg_nil, fp_hit, fp_nil, sfQ_t, z_sf3_, z_sf2_, biR_ok, biR_exn, k_bi_, oi_nx, oi_exn, sq_nx, sq_ret, sq_exn, sq_brk, sq_cnt, obl_some, orO_s, ob_ret, ob_nx, ob_exn, j_rep2_, j_ife_, z_ifeK_, chV_b, cuV_b, szt_t, compV_some, cpR_ok, cB_one, cB_m2, cB_m3, cB_c2, cB_c3, cB_many, cB_cd1, cdX_ok, lstO_some, zipV_l, revV_l, intO_i, bB_tt, bB_tf, bB_ft, bB_ff, bB_t, bB_f, unpV_t, unpV_l, nxO_s, lkR_s, lkS_s, stC_s, mt_popQ, mt_popN, ma_pop, ma_popN, md_pop, md_popN, forV_s, forW_s, fB_one, fB_m2, fB_m3, fB_many, bm_n, bm_c, mvR_nx, mvR_ret, mvR_exn, dE_n, dE_c, trR_nx, trR_ret, trR_exn, caR_t, caR_f, unAs_nx, unAs_ret, aS_s, aS_n, muO_s, muK_t, mrO_s, mrD_s, mrT_t, mrC_s, at_new, set_new, ma_app, ma_ext, ma_clr, ma_rev, ma_set, md_app, md_ext, md_clr, md_rev, md_set, cn_i, cn_b, cn_n, cn_s, forL_n, compL_n, j_fld_, Nat.zero_add, fg_miss, fp_miss, at_5, at_6, at_7, at_8, at_9, at_10, at_11, is_bb, bbtt, bbtf, bbft, bbff, beq_self_eq_true, mulOk_small, mulOk_small2, Bool.or_true, Bool.or_false, Bool.true_or, Bool.false_or, Bool.and_true, Bool.true_and, startE, eqV_int, eqV_str, op_add, op_sub, op_mul, op_fdiv, op_fdivN, op_mod, op_pow, op_addS, op_addL, de_non, de_bl, de_int, de_str, de_tup, de_lst, de_exc, de_scr, de_obj, lo_non, lo_bl, lo_int, lo_str, lo_tup, lo_lst, lo_exc, lo_scr, lo_obj, kT_2, bi_listDT, bi_listDK, isD_T, isD_K, cp_lt, cp_le, cp_gt, cp_ge, cp_eq, cp_ne, cp_isn, cp_isnt, cp_in, cp_nin, no_some, is_non, nb_non, nb_int, nb_bl, nb_tup, nb_lst, nb_str, eq_nn, eq_ni, eq_in, eq_bb, ix_lst, ix_tup, ix_scr, at_0, at_1, at_2, at_3, at_4, bi_lenL, bi_lenT, bi_lenC, bi_abs, bi_min2, bi_max2, bi_listL, bi_listT, bi_listR, ty_int, ty_bl, ty_non, ty_str, ty_lst, ty_tup, ty_exV, it_lst, it_tup, mu_app, mu_ext, mt_app, mt_ext, mt_clr, mt_rev, mt_set, mu_clr, mu_rev, List.map_cons, List.map_nil, List.length_cons, List.length_nil, List.cons_append, List.nil_append, List.replicate, Nat.reduceSub, Nat.reduceAdd, ↓reduceIte, if_true, if_false, Bool.false_eq_true, decide_eq_true_eq, decide_true, decide_false, Bool.not_true, Bool.not_false, reduceCtorEq, ite_true, ite_false, Int.reduceLT, Int.reduceLE, Int.reducePow, Int.reduceMul, Int.reduceAdd, Int.reduceSub, Int.reduceToNat, Nat.reduceLT, Nat.reducePow, and_self, and_true, true_and, Int.reduceNeg, Int.reduceEq, szb1, szb2, szb3, szb0, szb4, szb5, szb6, szb7, szb8, szb9, szb10, szb11, szb12, szb13, szb14, szb15, szb16, szb17, szb18, szb19, szb20, szb21, szb22, szb23, szb24, szb25, szb26, szb27, szb28, szb29, szb30, szb31, szb32, szb33, szb34, szb35, szb36, szb37, szb38, szb39, $xs,*])
theorem r_whole {n : Nat} {a : Int} {S : Store} : run G wfN (n + 1) 3 [.int a] S = .ok (.bl true) S := by
  rw [run_unf (F := F_l_whole) rfl rfl rfl]
  simp (decide := true) only [PV, F_l_whole]
end Pv
end

section
set_option Elab.async false
set_option linter.all false
set_option maxRecDepth 100000
set_option maxHeartbeats 2000000
set_option autoImplicit false
namespace Pv
open PySem
local macro_rules | `(tactic| simp (decide := true) only [PV, $xs,*]) => `(tactic| simp (decide := true) only [↓e_v0, ↓e_v1, ↓e_v2, ↓e_v3, ↓e_v4, ↓e_v5, ↓e_v6, ↓e_v7, ↓e_v8, ↓e_v9, ↓e_v10, ↓e_v11, ↓e_v12, ↓e_v13, ↓e_v14, ↓e_v15, ↓e_v16, ↓e_v17, ↓e_v18, ↓e_v19, ↓e_v20, ↓e_v21, ↓e_v22, ↓e_v23, ↓e_v24, ↓e_v25, ↓e_v26, ↓e_v27, ↓e_v28, ↓e_v29, ↓e_k, ↓e_gl, ↓e_op2, ↓e_rep, ↓e_neg, ↓e_cmp, ↓e_ch, ↓e_ch3, ↓e_bop, ↓e_nt, ↓e_ife, ↓e_tup, ↓e_lst, ↓e_ix, ↓e_sl, ↓e_fld, ↓e_call, ↓e_mk, ↓e_mth, ↓e_bi, ↓e_bm, ↓e_sortk, ↓e_isi, ↓e_comp, ↓e_d0, ↓e_mkr, ↓e_lck, ↓e_isiT, ↓e_rng, ↓e_zip, ↓e_rev, ↓es_n, ↓es_c, ↓eO_n, ↓eO_s, ↓eB_1, ↓eB_c, ↓q_n, ↓q_1, ↓q_c, ↓z_set, ↓z_unp, ↓z_mr, ↓z_ex, ↓z_ret, ↓z_retN, ↓z_ife, ↓z_for, ↓z_whil, ↓z_brk, ↓z_cnt, ↓z_pas, ↓z_sfld, ↓z_binit, ↓z_rais, ↓z_mvs, ↓z_tr, ↓z_lock, ↓z_sti, ↓z_st1_, ↓z_st2_, ↓z_st3_, ↓j_isiT_, ↓j_mkr_n, ↓h_n, ↓h_c, ↓k2_, ↓j_op2_, ↓j_rep_, ↓j_neg_, ↓j_cmp_, ↓j_ch2_, ↓j_ch3_, ↓j_cu2_, ↓j_cu3_, ↓j_nt_, ↓j_tup_, ↓j_lst_, ↓j_ix_, ↓j_sl_, ↓j_sl2_, ↓j_sl3_, ↓j_mth_, ↓j_bi_, ↓j_bm_, ↓j_bm2_, ↓j_isi_, ↓j_lok_, ↓j_mkr_l, ↓j_mkr_k, ↓j_mkr_t, ↓j_comp_l, ↓j_comp_t, ↓j_comp_s, ↓j_comp_r, ↓j_rng_, ↓j_zip_, ↓j_rev_, ↓j_cons_, ↓k_es_, ↓z_setK_, ↓z_unpK_, ↓z_exK_, ↓z_forK_l, ↓z_forK_t, ↓z_forK_s, ↓z_forK_r, ↓k_mu_, ↓k_mr_, ↓z_mrK_, ↓z_mu0, ↓z_mu1, ↓z_mu2, ↓z_mu3, ↓z_mu4, ↓z_mu5, ↓z_mu6, ↓z_mu7, ↓z_mu8, ↓z_mu9, ↓z_mu10, ↓z_mu11, ↓z_mu12, ↓z_mu13, ↓z_mu14, ↓z_mu15, ↓z_mu16, ↓z_mu17, ↓z_mu18, ↓z_mu19, ↓z_mu20, ↓z_mu21, ↓z_mu22, ↓z_mu23, ↓z_mu24, ↓z_mu25, ↓z_mu26, ↓z_mu27, ↓z_mu28, ↓z_mu29, ty_int_int, ty_int_bool, ty_int_str, ty_int_list, ty_int_tuple, ty_int_dict, ty_bool_int, ty_bool_bool, ty_bool_str, ty_bool_list, ty_bool_tuple, ty_bool_dict, ty_str_int, ty_str_bool, ty_str_str, ty_str_list, ty_str_tuple, ty_str_dict, ty_list_int, ty_list_bool, ty_list_str, ty_list_list, ty_list_tuple, ty_list_dict, ty_tuple_int, ty_tuple_bool, ty_tuple_str, ty_tuple_list, ty_tuple_tuple, ty_tuple_dict, ty_dict_int, ty_dict_bool, ty_dict_str, ty_dict_list, ty_dict_tuple, ty_dict_dict, st_0, st_1, st_2, st_3, st_4, st_5, st_6, st_7, st_8, st_9, st_10, st_11, st_12, st_13, st_14, st_15, st_16, st_17, st_18, st_19, st_20, st_21, st_22, st_23, st_24, st_25, st_26, st_27, st_28, st_29, b_ok, b_exn, t_ok, t_exn, of_some, fldQ_t, mthR_s, callF_, fg_hit, fg_nil, fp_hit, fp_nil, sfQ_t, z_sf3_, z_sf2_, biR_ok, biR_exn, k_bi_, oi_nx, oi_exn, sq_nx, sq_ret, sq_exn, sq_brk, sq_cnt, obl_some, orO_s, ob_ret, ob_nx, ob_exn, j_rep2_, j_ife_, z_ifeK_, chV_b, cuV_b, szt_t, compV_some, cpR_ok, cB_one, cB_m2, cB_m3, cB_c2, cB_c3, cB_many, cB_cd1, cdX_ok, lstO_some, zipV_l, revV_l, intO_i, bB_tt, bB_tf, bB_ft, bB_ff, bB_t, bB_f, unpV_t, unpV_l, nxO_s, lkR_s, lkS_s, stC_s, mt_popQ, mt_popN, ma_pop, ma_popN, md_pop, md_popN, forV_s, forW_s, fB_one, fB_m2, fB_m3, fB_many, bm_n, bm_c, mvR_nx, mvR_ret, mvR_exn, dE_n, dE_c, trR_nx, trR_ret, trR_exn, caR_t, caR_f, unAs_nx, unAs_ret, aS_s, aS_n, muO_s, muK_t, mrO_s, mrD_s, mrT_t, mrC_s, at_new, set_new, ma_app, ma_ext, ma_clr, ma_rev, ma_set, md_app, md_ext, md_clr, md_rev, md_set, cn_i, cn_b, cn_n, cn_s, forL_n, compL_n, j_fld_, Nat.zero_add, fg_miss, fp_miss, at_5, at_6, at_7, at_8, at_9, at_10, at_11, is_bb, bbtt, bbtf, bbft, bbff, beq_self_eq_true, mulOk_small, mulOk_small2, Bool.or_true, Bool.or_false, Bool.true_or, Bool.false_or, Bool.and_true, Bool.true_and, startE, eqV_int, eqV_str, op_add, op_sub, op_mul, op_fdiv, op_fdivN, op_mod, op_pow, op_addS, op_addL, de_non, de_bl, de_int, de_str, de_tup, de_lst, de_exc, de_scr, de_obj, lo_non, lo_bl, lo_int, lo_str, lo_tup, lo_lst, lo_exc, lo_scr, lo_obj, kT_2, bi_listDT, bi_listDK, isD_T, isD_K, cp_lt, cp_le, cp_gt, cp_ge, cp_eq, cp_ne, cp_isn, cp_isnt, cp_in, cp_nin, no_some, is_non, nb_non, nb_int, nb_bl, nb_tup, nb_lst, nb_str, eq_nn, eq_ni, eq_in, eq_bb, ix_lst, ix_tup, ix_scr, at_0, at_1, at_2, at_3, at_4, bi_lenL, bi_lenT, bi_lenC, bi_abs, bi_min2, bi_max2, bi_listL, bi_listT, bi_listR, ty_int, ty_bl, ty_non, ty_str, ty_lst, ty_tup, ty_exV, it_lst, it_tup, mu_app, mu_ext, mt_app, mt_ext, mt_clr, mt_rev, mt_set, mu_clr, mu_rev, List.map_cons, List.map_nil, List.length_cons, List.length_nil, List.cons_append, List.nil_append, List.replicate, Nat.reduceSub, Nat.reduceAdd, ↓reduceIte, if_true, if_false, Bool.false_eq_true, decide_eq_true_eq, decide_true, decide_false, Bool.not_true, Bool.not_false, reduceCtorEq, ite_true, ite_false, Int.reduceLT, Int.reduceLE, Int.reducePow, Int.reduceMul, Int.reduceAdd, Int.reduceSub, Int.reduceToNat, Nat.reduceLT, Nat.reducePow, and_self, and_true, true_and, Int.reduceNeg, Int.reduceEq, szb1, szb2, szb3, szb0, szb4, szb5, szb6, szb7, szb8, szb9, szb10, szb11, szb12, szb13, szb14, szb15, szb16, szb17, szb18, szb19, szb20, szb21, szb22, szb23, szb24, szb25, szb26, szb27, szb28, szb29, szb30, szb31, szb32, szb33, szb34, szb35, szb36, szb37, szb38, szb39, $xs,*])
inductive Tre where
  | over (f l s : Int) | under (f l s : Int) | rose (f l lo hi : Int) | turn (t : Int) | stay (f l a b : Int) | pace (f l a b : Int)
def treV : Tre → Val
  | .over f l s => .tup [.str ⟨#[111, 118, 101, 114]⟩, .int f, .int l, .int s]
  | .under f l s => .tup [.str ⟨#[117, 110, 100, 101, 114]⟩, .int f, .int l, .int s]
  | .rose f l lo hi => .tup [.str ⟨#[114, 111, 115, 101]⟩, .int f, .int l, .int lo, .int hi]
  | .turn t => .tup [.str ⟨#[116, 117, 114, 110]⟩, .int t]
  | .stay f l a b => .tup [.str ⟨#[115, 116, 97, 121]⟩, .int f, .int l, .int a, .int b]
  | .pace f l a b => .tup [.str ⟨#[112, 97, 99, 101]⟩, .int f, .int l, .int a, .int b]
def Trn (f l : Int) : Prop := 0 ≤ f ∧ f ≤ l ∧ l ≤ 11
instance (f l : Int) : Decidable (Trn f l) := by unfold Trn; infer_instance
def okT : Tre → Prop
  | .over f l _ => Trn f l
  | .under f l _ => Trn f l
  | .rose f l lo hi => Trn f l ∧ lo < hi
  | .turn t => 1 ≤ t ∧ t ≤ 10
  | .stay f l _ _ => Trn f l
  | .pace f l _ _ => Trn f l
def farT : Tre → Int
  | .over _ l _ => l
  | .under _ l _ => l
  | .rose _ l _ _ => l
  | .turn t => t + 1
  | .stay _ l _ _ => l
  | .pace _ l _ _ => l
theorem de_treV {S : Store} (t : Tre) : deref S (treV t) = treV t := by cases t <;> rfl
section
variable {n : Nat} {S : Store} {ns : List Int}
theorem r_sp {c : Nat} {f l : Int} (h1 : fldV G c 29 = true) (h2 : fldV G c 30 = true) (h : Trn f l) : runI G wfN (n + 2) 356 c [] [.int f, .int l] S = .ok [(29, .int f), (30, .int l)] S := by
  obtain ⟨a, b, d⟩ := h
  have q1 : ¬ f < 0 := by omega
  have q2 : ¬ 11 < l := by omega
  have q3 : ¬ l < f := by omega
  rw [runI_unf (F := F_Spanned_init) rfl rfl rfl]
  simp (decide := true) only [PV, F_Spanned_init, h1, h2, q1, q2, q3]
theorem r_spX {c : Nat} {f l : Int} (h1 : fldV G c 29 = true) (h2 : fldV G c 30 = true) (h : ¬ Trn f l) : runI G wfN (n + 2) 356 c [] [.int f, .int l] S = .exn 9 S := by
  rw [runI_unf (F := F_Spanned_init) rfl rfl rfl]
  by_cases q1 : f < 0
  · simp (decide := true) only [PV, F_Spanned_init, q1]
  by_cases q2 : 11 < l
  · simp (decide := true) only [PV, F_Spanned_init, q1, q2]
  have q3 : l < f := by unfold Trn at h; omega
  simp (decide := true) only [PV, F_Spanned_init, q1, q2, q3]
def evT : Tre → Val
  | .over f l s => .obj 24 [(29, .int f), (30, .int l), (33, .int s)]
  | .under f l s => .obj 25 [(29, .int f), (30, .int l), (33, .int s)]
  | .rose f l lo hi => .obj 26 [(29, .int f), (30, .int l), (8, .int lo), (9, .int hi)]
  | .turn t => .obj 28 [(34, .int t)]
  | .stay f l a b => .obj 23 [(29, .int f), (30, .int l), (31, .tup [.int a, .int b])]
  | .pace f l a b => .obj 27 [(29, .int f), (30, .int l), (31, .tup [.int a, .int b])]
theorem r_evT {t : Tre} (h : okT t) : run G wfN (n + 5) 511 [treV t] S = .ok (evT t) S := by
  rw [run_unf (F := F_l_event_3) rfl rfl rfl]
  cases t with
  | over f l s =>
    have h : Trn f l := h
    have e := r_sp (n := n) (S := S) ov_Over_first ov_Over_last h
    have i : runI G wfN (n + 4) 365 24 [] [.int f, .int l, .int s] S = .ok [(29, .int f), (30, .int l), (33, .int s)] S := by
      rw [runI_unf (F := F_Over_init) rfl rfl rfl]
      simp (decide := true) only [PV, F_Over_init, om_Event_far, ov_Spanned_first, ov_Spanned_last, om_Spanned_far, ov_Stayed_stretch, ov_Stayed_first, ov_Stayed_last, om_Stayed_far, ov_Over_sill, ov_Over_first, ov_Over_last, om_Over_far, ov_Under_sill, ov_Under_first, ov_Under_last, om_Under_far, ov_Rose_low, ov_Rose_high, ov_Rose_first, ov_Rose_last, om_Rose_far, ov_Paced_stretch, ov_Paced_first, ov_Paced_last, om_Paced_far, ov_Turned_turn, om_Turned_far, e]
    have m := ok_Over (cl := run G wfN (n + 4)) (wf := wfN) i
    simp only [treV, evT]
    simp (decide := true) only [PV, F_l_event_3, m]
  | under f l s =>
    have h : Trn f l := h
    have e := r_sp (n := n) (S := S) ov_Under_first ov_Under_last h
    have i : runI G wfN (n + 4) 370 25 [] [.int f, .int l, .int s] S = .ok [(29, .int f), (30, .int l), (33, .int s)] S := by
      rw [runI_unf (F := F_Under_init) rfl rfl rfl]
      simp (decide := true) only [PV, F_Under_init, om_Event_far, ov_Spanned_first, ov_Spanned_last, om_Spanned_far, ov_Stayed_stretch, ov_Stayed_first, ov_Stayed_last, om_Stayed_far, ov_Over_sill, ov_Over_first, ov_Over_last, om_Over_far, ov_Under_sill, ov_Under_first, ov_Under_last, om_Under_far, ov_Rose_low, ov_Rose_high, ov_Rose_first, ov_Rose_last, om_Rose_far, ov_Paced_stretch, ov_Paced_first, ov_Paced_last, om_Paced_far, ov_Turned_turn, om_Turned_far, e]
    have m := ok_Under (cl := run G wfN (n + 4)) (wf := wfN) i
    simp only [treV, evT]
    simp (decide := true) only [PV, F_l_event_3, m]
  | rose f l lo hi =>
    have h : Trn f l ∧ lo < hi := h
    obtain ⟨h, hlt⟩ := h
    have e := r_sp (n := n) (S := S) ov_Rose_first ov_Rose_last h
    have q : ¬ hi ≤ lo := by omega
    have i : runI G wfN (n + 4) 375 26 [] [.int f, .int l, .int lo, .int hi] S = .ok [(29, .int f), (30, .int l), (8, .int lo), (9, .int hi)] S := by
      rw [runI_unf (F := F_Rose_init) rfl rfl rfl]
      simp (decide := true) only [PV, F_Rose_init, om_Event_far, ov_Spanned_first, ov_Spanned_last, om_Spanned_far, ov_Stayed_stretch, ov_Stayed_first, ov_Stayed_last, om_Stayed_far, ov_Over_sill, ov_Over_first, ov_Over_last, om_Over_far, ov_Under_sill, ov_Under_first, ov_Under_last, om_Under_far, ov_Rose_low, ov_Rose_high, ov_Rose_first, ov_Rose_last, om_Rose_far, ov_Paced_stretch, ov_Paced_first, ov_Paced_last, om_Paced_far, ov_Turned_turn, om_Turned_far, e, q]
    have m := ok_Rose (cl := run G wfN (n + 4)) (wf := wfN) i
    simp only [treV, evT]
    simp (decide := true) only [PV, F_l_event_3, m]
  | turn t =>
    have h : 1 ≤ t ∧ t ≤ 10 := h
    have q1 : ¬ t < 1 := by omega
    have q2 : ¬ 11 ≤ t := by omega
    have i : runI G wfN (n + 4) 385 28 [] [.int t] S = .ok [(34, .int t)] S := by
      rw [runI_unf (F := F_Turned_init) rfl rfl rfl]
      simp (decide := true) only [PV, F_Turned_init, om_Event_far, ov_Spanned_first, ov_Spanned_last, om_Spanned_far, ov_Stayed_stretch, ov_Stayed_first, ov_Stayed_last, om_Stayed_far, ov_Over_sill, ov_Over_first, ov_Over_last, om_Over_far, ov_Under_sill, ov_Under_first, ov_Under_last, om_Under_far, ov_Rose_low, ov_Rose_high, ov_Rose_first, ov_Rose_last, om_Rose_far, ov_Paced_stretch, ov_Paced_first, ov_Paced_last, om_Paced_far, ov_Turned_turn, om_Turned_far, q1, q2]
    have m := ok_Turned (cl := run G wfN (n + 4)) (wf := wfN) i
    simp only [treV, evT]
    simp (decide := true) only [PV, F_l_event_3, m]
  | stay f l a b =>
    have h : Trn f l := h
    have e := r_sp (n := n) (S := S) ov_Stayed_first ov_Stayed_last h
    have i : runI G wfN (n + 4) 360 23 [] [.int f, .int l, .tup [.int a, .int b]] S = .ok [(29, .int f), (30, .int l), (31, .tup [.int a, .int b])] S := by
      rw [runI_unf (F := F_Stayed_init) rfl rfl rfl]
      simp (decide := true) only [PV, F_Stayed_init, om_Event_far, ov_Spanned_first, ov_Spanned_last, om_Spanned_far, ov_Stayed_stretch, ov_Stayed_first, ov_Stayed_last, om_Stayed_far, ov_Over_sill, ov_Over_first, ov_Over_last, om_Over_far, ov_Under_sill, ov_Under_first, ov_Under_last, om_Under_far, ov_Rose_low, ov_Rose_high, ov_Rose_first, ov_Rose_last, om_Rose_far, ov_Paced_stretch, ov_Paced_first, ov_Paced_last, om_Paced_far, ov_Turned_turn, om_Turned_far, e]
    have m := ok_Stayed (cl := run G wfN (n + 4)) (wf := wfN) i
    simp only [treV, evT]
    simp (decide := true) only [PV, F_l_event_3, m]
  | pace f l a b =>
    have h : Trn f l := h
    have e := r_sp (n := n) (S := S) ov_Paced_first ov_Paced_last h
    have i : runI G wfN (n + 4) 380 27 [] [.int f, .int l, .tup [.int a, .int b]] S = .ok [(29, .int f), (30, .int l), (31, .tup [.int a, .int b])] S := by
      rw [runI_unf (F := F_Paced_init) rfl rfl rfl]
      simp (decide := true) only [PV, F_Paced_init, om_Event_far, ov_Spanned_first, ov_Spanned_last, om_Spanned_far, ov_Stayed_stretch, ov_Stayed_first, ov_Stayed_last, om_Stayed_far, ov_Over_sill, ov_Over_first, ov_Over_last, om_Over_far, ov_Under_sill, ov_Under_first, ov_Under_last, om_Under_far, ov_Rose_low, ov_Rose_high, ov_Rose_first, ov_Rose_last, om_Rose_far, ov_Paced_stretch, ov_Paced_first, ov_Paced_last, om_Paced_far, ov_Turned_turn, om_Turned_far, e]
    have m := ok_Paced (cl := run G wfN (n + 4)) (wf := wfN) i
    simp only [treV, evT]
    simp (decide := true) only [PV, F_l_event_3, m]
theorem r_evTX {t : Tre} (h : ¬ okT t) : run G wfN (n + 5) 511 [treV t] S = .exn 9 S := by
  rw [run_unf (F := F_l_event_3) rfl rfl rfl]
  cases t with
  | over f l s =>
    have h : ¬ Trn f l := h
    have e := r_spX (n := n) (S := S) ov_Over_first ov_Over_last h
    have i : runI G wfN (n + 4) 365 24 [] [.int f, .int l, .int s] S = .exn 9 S := by
      rw [runI_unf (F := F_Over_init) rfl rfl rfl]
      simp (decide := true) only [PV, F_Over_init, om_Event_far, ov_Spanned_first, ov_Spanned_last, om_Spanned_far, ov_Stayed_stretch, ov_Stayed_first, ov_Stayed_last, om_Stayed_far, ov_Over_sill, ov_Over_first, ov_Over_last, om_Over_far, ov_Under_sill, ov_Under_first, ov_Under_last, om_Under_far, ov_Rose_low, ov_Rose_high, ov_Rose_first, ov_Rose_last, om_Rose_far, ov_Paced_stretch, ov_Paced_first, ov_Paced_last, om_Paced_far, ov_Turned_turn, om_Turned_far, e]
    have m := ex_Over (cl := run G wfN (n + 4)) (wf := wfN) i
    simp only [treV]
    simp (decide := true) only [PV, F_l_event_3, m]
  | under f l s =>
    have h : ¬ Trn f l := h
    have e := r_spX (n := n) (S := S) ov_Under_first ov_Under_last h
    have i : runI G wfN (n + 4) 370 25 [] [.int f, .int l, .int s] S = .exn 9 S := by
      rw [runI_unf (F := F_Under_init) rfl rfl rfl]
      simp (decide := true) only [PV, F_Under_init, om_Event_far, ov_Spanned_first, ov_Spanned_last, om_Spanned_far, ov_Stayed_stretch, ov_Stayed_first, ov_Stayed_last, om_Stayed_far, ov_Over_sill, ov_Over_first, ov_Over_last, om_Over_far, ov_Under_sill, ov_Under_first, ov_Under_last, om_Under_far, ov_Rose_low, ov_Rose_high, ov_Rose_first, ov_Rose_last, om_Rose_far, ov_Paced_stretch, ov_Paced_first, ov_Paced_last, om_Paced_far, ov_Turned_turn, om_Turned_far, e]
    have m := ex_Under (cl := run G wfN (n + 4)) (wf := wfN) i
    simp only [treV]
    simp (decide := true) only [PV, F_l_event_3, m]
  | rose f l lo hi =>
    have h : ¬ (Trn f l ∧ lo < hi) := h
    have i : runI G wfN (n + 4) 375 26 [] [.int f, .int l, .int lo, .int hi] S = .exn 9 S := by
      rw [runI_unf (F := F_Rose_init) rfl rfl rfl]
      by_cases q : Trn f l
      · have e := r_sp (n := n) (S := S) ov_Rose_first ov_Rose_last q
        have q2 : hi ≤ lo := by
          have : ¬ lo < hi := fun z => h ⟨q, z⟩
          omega
        simp (decide := true) only [PV, F_Rose_init, om_Event_far, ov_Spanned_first, ov_Spanned_last, om_Spanned_far, ov_Stayed_stretch, ov_Stayed_first, ov_Stayed_last, om_Stayed_far, ov_Over_sill, ov_Over_first, ov_Over_last, om_Over_far, ov_Under_sill, ov_Under_first, ov_Under_last, om_Under_far, ov_Rose_low, ov_Rose_high, ov_Rose_first, ov_Rose_last, om_Rose_far, ov_Paced_stretch, ov_Paced_first, ov_Paced_last, om_Paced_far, ov_Turned_turn, om_Turned_far, e, q2]
      · have e := r_spX (n := n) (S := S) ov_Rose_first ov_Rose_last q
        simp (decide := true) only [PV, F_Rose_init, om_Event_far, ov_Spanned_first, ov_Spanned_last, om_Spanned_far, ov_Stayed_stretch, ov_Stayed_first, ov_Stayed_last, om_Stayed_far, ov_Over_sill, ov_Over_first, ov_Over_last, om_Over_far, ov_Under_sill, ov_Under_first, ov_Under_last, om_Under_far, ov_Rose_low, ov_Rose_high, ov_Rose_first, ov_Rose_last, om_Rose_far, ov_Paced_stretch, ov_Paced_first, ov_Paced_last, om_Paced_far, ov_Turned_turn, om_Turned_far, e]
    have m := ex_Rose (cl := run G wfN (n + 4)) (wf := wfN) i
    simp only [treV]
    simp (decide := true) only [PV, F_l_event_3, m]
  | turn t =>
    have h : ¬ (1 ≤ t ∧ t ≤ 10) := h
    have i : runI G wfN (n + 4) 385 28 [] [.int t] S = .exn 9 S := by
      rw [runI_unf (F := F_Turned_init) rfl rfl rfl]
      by_cases q1 : t < 1
      · simp (decide := true) only [PV, F_Turned_init, om_Event_far, ov_Spanned_first, ov_Spanned_last, om_Spanned_far, ov_Stayed_stretch, ov_Stayed_first, ov_Stayed_last, om_Stayed_far, ov_Over_sill, ov_Over_first, ov_Over_last, om_Over_far, ov_Under_sill, ov_Under_first, ov_Under_last, om_Under_far, ov_Rose_low, ov_Rose_high, ov_Rose_first, ov_Rose_last, om_Rose_far, ov_Paced_stretch, ov_Paced_first, ov_Paced_last, om_Paced_far, ov_Turned_turn, om_Turned_far, q1]
      · have q2 : 11 ≤ t := by omega
        simp (decide := true) only [PV, F_Turned_init, om_Event_far, ov_Spanned_first, ov_Spanned_last, om_Spanned_far, ov_Stayed_stretch, ov_Stayed_first, ov_Stayed_last, om_Stayed_far, ov_Over_sill, ov_Over_first, ov_Over_last, om_Over_far, ov_Under_sill, ov_Under_first, ov_Under_last, om_Under_far, ov_Rose_low, ov_Rose_high, ov_Rose_first, ov_Rose_last, om_Rose_far, ov_Paced_stretch, ov_Paced_first, ov_Paced_last, om_Paced_far, ov_Turned_turn, om_Turned_far, q1, q2]
    have m := ex_Turned (cl := run G wfN (n + 4)) (wf := wfN) i
    simp only [treV]
    simp (decide := true) only [PV, F_l_event_3, m]
  | stay f l a b =>
    have h : ¬ Trn f l := h
    have e := r_spX (n := n) (S := S) ov_Stayed_first ov_Stayed_last h
    have i : runI G wfN (n + 4) 360 23 [] [.int f, .int l, .tup [.int a, .int b]] S = .exn 9 S := by
      rw [runI_unf (F := F_Stayed_init) rfl rfl rfl]
      simp (decide := true) only [PV, F_Stayed_init, om_Event_far, ov_Spanned_first, ov_Spanned_last, om_Spanned_far, ov_Stayed_stretch, ov_Stayed_first, ov_Stayed_last, om_Stayed_far, ov_Over_sill, ov_Over_first, ov_Over_last, om_Over_far, ov_Under_sill, ov_Under_first, ov_Under_last, om_Under_far, ov_Rose_low, ov_Rose_high, ov_Rose_first, ov_Rose_last, om_Rose_far, ov_Paced_stretch, ov_Paced_first, ov_Paced_last, om_Paced_far, ov_Turned_turn, om_Turned_far, e]
    have m := ex_Stayed (cl := run G wfN (n + 4)) (wf := wfN) i
    simp only [treV]
    simp (decide := true) only [PV, F_l_event_3, m]
  | pace f l a b =>
    have h : ¬ Trn f l := h
    have e := r_spX (n := n) (S := S) ov_Paced_first ov_Paced_last h
    have i : runI G wfN (n + 4) 380 27 [] [.int f, .int l, .tup [.int a, .int b]] S = .exn 9 S := by
      rw [runI_unf (F := F_Paced_init) rfl rfl rfl]
      simp (decide := true) only [PV, F_Paced_init, om_Event_far, ov_Spanned_first, ov_Spanned_last, om_Spanned_far, ov_Stayed_stretch, ov_Stayed_first, ov_Stayed_last, om_Stayed_far, ov_Over_sill, ov_Over_first, ov_Over_last, om_Over_far, ov_Under_sill, ov_Under_first, ov_Under_last, om_Under_far, ov_Rose_low, ov_Rose_high, ov_Rose_first, ov_Rose_last, om_Rose_far, ov_Paced_stretch, ov_Paced_first, ov_Paced_last, om_Paced_far, ov_Turned_turn, om_Turned_far, e]
    have m := ex_Paced (cl := run G wfN (n + 4)) (wf := wfN) i
    simp only [treV]
    simp (decide := true) only [PV, F_l_event_3, m]
theorem far_T {t : Tre} : ∃ f, mthOf G (evT t) 35 = some f ∧ run G wfN (n + 1) f [evT t] S = .ok (.int (farT t)) S := by
  have sp : ∀ {c : Nat} {fs : List (Nat × Val)} {l : Int}, fldV G c 30 = true → fget 30 fs = some (.int l) → run G wfN (n + 1) 357 [.obj c fs] S = .ok (.int l) S := fun {c fs l} h2 g2 => by
    rw [run_unf (F := F_Spanned_far) rfl rfl rfl]
    simp (decide := true) only [PV, F_Spanned_far, h2, g2]
  cases t with
  | over f l s => exact ⟨_, om_Over_far rfl, sp ov_Over_last rfl⟩
  | under f l s => exact ⟨_, om_Under_far rfl, sp ov_Under_last rfl⟩
  | rose f l lo hi => exact ⟨_, om_Rose_far rfl, sp ov_Rose_last rfl⟩
  | turn t =>
    refine ⟨_, om_Turned_far rfl, ?_⟩
    rw [run_unf (F := F_Turned_far) rfl rfl rfl]
    simp only [evT, farT]
    simp (decide := true) only [PV, F_Turned_far, om_Event_far, ov_Spanned_first, ov_Spanned_last, om_Spanned_far, ov_Stayed_stretch, ov_Stayed_first, ov_Stayed_last, om_Stayed_far, ov_Over_sill, ov_Over_first, ov_Over_last, om_Over_far, ov_Under_sill, ov_Under_first, ov_Under_last, om_Under_far, ov_Rose_low, ov_Rose_high, ov_Rose_first, ov_Rose_last, om_Rose_far, ov_Paced_stretch, ov_Paced_first, ov_Paced_last, om_Paced_far, ov_Turned_turn, om_Turned_far]
  | stay f l a b => exact ⟨_, om_Stayed_far rfl, sp ov_Stayed_last rfl⟩
  | pace f l a b => exact ⟨_, om_Paced_far rfl, sp ov_Paced_last rfl⟩
theorem r_farT {t : Tre} : run G wfN (n + 1) 512 [treV t] S = .ok (.int (farT t)) S := by
  rw [run_unf (F := F_l_farthest_3) rfl rfl rfl]
  cases t <;> simp only [treV, farT] <;> simp (decide := true) only [PV, F_l_farthest_3]
theorem r_goodT {t : Tre} : ∃ b : Bool, (b = true ↔ okT t) ∧ run G wfN (n + 1) 515 [treV t] S = .ok (.bl b) S := by
  rw [run_unf (F := F_l_good_3) rfl rfl rfl]
  have chain : ∀ f l : Int, ∃ b : Bool, (b = true ↔ Trn f l) ∧ evE (⟨G, wfN, run G wfN n, runI G wfN n⟩ : Cfg) (.ch3 .le .le .le (.k (.int 0)) (.ix (.v 0) (.k (.int 1))) (.ix (.v 0) (.k (.int 2))) (.k (.int 11))) = evE ⟨G, wfN, run G wfN n, runI G wfN n⟩ (.ch3 .le .le .le (.k (.int 0)) (.ix (.v 0) (.k (.int 1))) (.ix (.v 0) (.k (.int 2))) (.k (.int 11))) := fun f l => ⟨decide (Trn f l), decide_eq_true_iff, rfl⟩
  have key : ∀ (f l : Int), (f < 0 ∨ l < f ∨ 11 < l) ∨ (0 ≤ f ∧ f ≤ l ∧ l ≤ 11) := fun f l => by omega
  cases t with
  | turn t =>
    simp only [treV]
    by_cases q1 : 1 ≤ t
    · by_cases q2 : t ≤ 10
      · exact ⟨true, ⟨fun _ => ⟨q1, q2⟩, fun _ => rfl⟩, by simp (decide := true) only [PV, F_l_good_3, q1, q2]⟩
      · exact ⟨false, ⟨(fun z => Bool.noConfusion z), fun z => absurd z.2 q2⟩, by simp (decide := true) only [PV, F_l_good_3, q1, q2]⟩
    · exact ⟨false, ⟨(fun z => Bool.noConfusion z), fun z => absurd z.1 q1⟩, by simp (decide := true) only [PV, F_l_good_3, q1]⟩
  | rose f l lo hi =>
    simp only [treV]
    by_cases q0 : hi ≤ lo
    · exact ⟨false, ⟨(fun z => Bool.noConfusion z), fun z => absurd z.2 (by omega)⟩, by simp (decide := true) only [PV, F_l_good_3, q0]⟩
    by_cases q1 : 0 ≤ f
    · by_cases q2 : f ≤ l
      · by_cases q3 : l ≤ 11
        · exact ⟨true, ⟨fun _ => ⟨⟨q1, q2, q3⟩, by omega⟩, fun _ => rfl⟩, by simp (decide := true) only [PV, F_l_good_3, q0, q1, q2, q3]⟩
        · exact ⟨false, ⟨(fun z => Bool.noConfusion z), fun z => absurd z.1.2.2 q3⟩, by simp (decide := true) only [PV, F_l_good_3, q0, q1, q2, q3]⟩
      · exact ⟨false, ⟨(fun z => Bool.noConfusion z), fun z => absurd z.1.2.1 q2⟩, by simp (decide := true) only [PV, F_l_good_3, q0, q1, q2]⟩
    · exact ⟨false, ⟨(fun z => Bool.noConfusion z), fun z => absurd z.1.1 q1⟩, by simp (decide := true) only [PV, F_l_good_3, q0, q1]⟩
  | over f l s =>
    simp only [treV]
    by_cases q1 : 0 ≤ f
    · by_cases q2 : f ≤ l
      · by_cases q3 : l ≤ 11
        · exact ⟨true, ⟨fun _ => ⟨q1, q2, q3⟩, fun _ => rfl⟩, by simp (decide := true) only [PV, F_l_good_3, q1, q2, q3]⟩
        · exact ⟨false, ⟨(fun z => Bool.noConfusion z), fun z => absurd z.2.2 q3⟩, by simp (decide := true) only [PV, F_l_good_3, q1, q2, q3]⟩
      · exact ⟨false, ⟨(fun z => Bool.noConfusion z), fun z => absurd z.2.1 q2⟩, by simp (decide := true) only [PV, F_l_good_3, q1, q2]⟩
    · exact ⟨false, ⟨(fun z => Bool.noConfusion z), fun z => absurd z.1 q1⟩, by simp (decide := true) only [PV, F_l_good_3, q1]⟩
  | under f l s =>
    simp only [treV]
    by_cases q1 : 0 ≤ f
    · by_cases q2 : f ≤ l
      · by_cases q3 : l ≤ 11
        · exact ⟨true, ⟨fun _ => ⟨q1, q2, q3⟩, fun _ => rfl⟩, by simp (decide := true) only [PV, F_l_good_3, q1, q2, q3]⟩
        · exact ⟨false, ⟨(fun z => Bool.noConfusion z), fun z => absurd z.2.2 q3⟩, by simp (decide := true) only [PV, F_l_good_3, q1, q2, q3]⟩
      · exact ⟨false, ⟨(fun z => Bool.noConfusion z), fun z => absurd z.2.1 q2⟩, by simp (decide := true) only [PV, F_l_good_3, q1, q2]⟩
    · exact ⟨false, ⟨(fun z => Bool.noConfusion z), fun z => absurd z.1 q1⟩, by simp (decide := true) only [PV, F_l_good_3, q1]⟩
  | stay f l a b =>
    simp only [treV]
    by_cases q1 : 0 ≤ f
    · by_cases q2 : f ≤ l
      · by_cases q3 : l ≤ 11
        · exact ⟨true, ⟨fun _ => ⟨q1, q2, q3⟩, fun _ => rfl⟩, by simp (decide := true) only [PV, F_l_good_3, q1, q2, q3]⟩
        · exact ⟨false, ⟨(fun z => Bool.noConfusion z), fun z => absurd z.2.2 q3⟩, by simp (decide := true) only [PV, F_l_good_3, q1, q2, q3]⟩
      · exact ⟨false, ⟨(fun z => Bool.noConfusion z), fun z => absurd z.2.1 q2⟩, by simp (decide := true) only [PV, F_l_good_3, q1, q2]⟩
    · exact ⟨false, ⟨(fun z => Bool.noConfusion z), fun z => absurd z.1 q1⟩, by simp (decide := true) only [PV, F_l_good_3, q1]⟩
  | pace f l a b =>
    simp only [treV]
    by_cases q1 : 0 ≤ f
    · by_cases q2 : f ≤ l
      · by_cases q3 : l ≤ 11
        · exact ⟨true, ⟨fun _ => ⟨q1, q2, q3⟩, fun _ => rfl⟩, by simp (decide := true) only [PV, F_l_good_3, q1, q2, q3]⟩
        · exact ⟨false, ⟨(fun z => Bool.noConfusion z), fun z => absurd z.2.2 q3⟩, by simp (decide := true) only [PV, F_l_good_3, q1, q2, q3]⟩
      · exact ⟨false, ⟨(fun z => Bool.noConfusion z), fun z => absurd z.2.1 q2⟩, by simp (decide := true) only [PV, F_l_good_3, q1, q2]⟩
    · exact ⟨false, ⟨(fun z => Bool.noConfusion z), fun z => absurd z.1 q1⟩, by simp (decide := true) only [PV, F_l_good_3, q1]⟩
theorem r_asked {t : Tre} : run G wfN (n + 6) 516 [treV t] S = .ok (.bl true) S := by
  rw [run_unf (F := F_l_asked_of_4) rfl rfl rfl]
  have dt := fun S => de_treV (S := S) t
  have cg : catches G 9 9 = some true := by rfl
  have t1 : ∀ S, tyV G S (.exc 9) (.cls 0) = some true := fun _ => by rfl
  have t2 : ∀ S, tyV G S (.exc 9) .valueError = some true := fun _ => by rfl
  have t3 : ∀ S, tysV G S (.exc 9) [.cls 16, .cls 17, .cls 4] = some false := fun _ => by rfl
  have qe : eqV (.tup [.bl true, .bl true, .bl false]) (.tup [.bl true, .bl true, .bl false]) = some true := by decide +kernel
  have qn : eqV (.tup []) (.tup []) = some true := by decide +kernel
  obtain ⟨b, hb, eg⟩ := r_goodT (n := n + 4) (S := S) (t := t)
  have ef := r_farT (n := n + 4) (S := S) (t := t)
  obtain ⟨f, m1, e1⟩ := far_T (n := n + 4) (S := S) (t := t)
  have wf' := fun x : Int => r_whole (n := n + 4) (S := S) (a := x)
  have nn : ∀ x : Tre, isV (evT x) .non = some false := fun x => by cases x <;> rfl
  have dv : ∀ S, deref S (evT t) = evT t := fun S => by cases t <;> rfl
  have lv : ∀ S, look S (evT t) = evT t := fun S => by cases t <;> rfl
  by_cases h : okT t
  · have e := r_evT (n := n) (S := S) h
    have nt := nn t
    have hbt := hb.mpr h
    subst hbt
    generalize evT t = ev at *
    generalize treV t = tv at *
    generalize farT t = fr at *
    simp (decide := true) only [PV, F_l_asked_of_4, dt, dv, lv, e, eg, qn, nt, m1, e1, ef, wf']
  · have e := r_evTX (n := n) (S := S) h
    have hbt : b = false := Bool.eq_false_iff.mpr fun z => h (hb.mp z)
    subst hbt
    generalize treV t = tv at *
    simp (decide := true) only [PV, F_l_asked_of_4, dt, e, eg, cg, t1, t2, t3, qe]
theorem r_turn (hd : Bd ns) {k p : Int} (hk : k.natAbs < 1000000) (hp : 0 < p) : ∃ x : Int, run G wfN (n + 2) 513 [.scr ns, .int k, .int p] S = .ok (.int x) S := by
  rw [run_unf (F := F_l_turn) rfl rfl rfl]
  have e := r_draw (n := n) (S := S) hd (k := k) (p := p) (m := 24) hk hp (by decide)
  have b := dw_b (ns := ns) (k := k) (p := p) (m := 24) (by decide)
  generalize dw ns k p 24 = d at e b
  by_cases c1 : d - 4 = -4
  · exact ⟨_, by simp (decide := true) only [PV, F_l_turn, e, c1]; rfl⟩
  by_cases c2 : d - 4 = 16
  · exact ⟨_, by simp (decide := true) only [PV, F_l_turn, e, c1, c2]; rfl⟩
  by_cases c3 : 16 < d - 4
  · obtain ⟨x, _, ex⟩ := at_ints (L := [0, 11, 10]) (k := d - 4 - 17) (by omega) (by show _ < (3 : Int); omega)
    simp only [List.map_cons, List.map_nil] at ex
    exact ⟨x, by simp (decide := true) only [PV, F_l_turn, e, c1, c2, c3, ex]⟩
  · exact ⟨_, by simp (decide := true) only [PV, F_l_turn, e, c1, c2, c3]; rfl⟩
theorem r_tree (hd : Bd ns) {k : Int} (hk : 0 ≤ k) (hk2 : k < 100000) {j : Int} (hj : 0 ≤ j) {b : Int} : ∃ t : Tre, run G wfN (n + 3) 514 [.scr ns, .int k, .int j, .int b] S = .ok (treV t) S := by
  rw [run_unf (F := F_l_tree) rfl rfl rfl]
  obtain ⟨f, e1⟩ := r_turn (n := n) (S := S) hd (k := k) (p := 10007) (by omega) (by decide)
  obtain ⟨l, e2⟩ := r_turn (n := n) (S := S) hd (k := k + 1) (p := 10009) (by omega) (by decide)
  have e3 := r_draw (n := n + 1) (S := S) hd (k := k + 2) (p := 10037) (m := 3) (by omega) (by decide) (by decide)
  have e4 := r_draw (n := n + 1) (S := S) hd (k := k + 3) (p := 10039) (m := 4) (by omega) (by decide) (by decide)
  have e5 := r_draw (n := n + 1) (S := S) hd (k := k + 4) (p := 10061) (m := 9) (by omega) (by decide) (by decide)
  have e6 := r_draw (n := n + 1) (S := S) hd (k := k + 5) (p := 10067) (m := 5) (by omega) (by decide) (by decide)
  generalize dw ns (k + 2) 10037 3 = d3 at *
  generalize dw ns (k + 3) 10039 4 = d4 at *
  generalize dw ns (k + 4) 10061 9 = d5 at *
  generalize dw ns (k + 5) 10067 5 = d6 at *
  obtain ⟨l2, el⟩ : ∃ l2 : Int, ∀ ρ : Env, evSs ⟨G, wfN, run G wfN (n + 2), runI G wfN (n + 2)⟩ (F_l_tree.body.take 3) (startE F_l_tree.names.length [.scr ns, .int k, .int j, .int b]) S = .nx [some (.scr ns), some (.int k), some (.int j), some (.int b), some (.int f), some (.int l2), none, none] S := by
    by_cases c : d3 = 0
    · subst c
      exact ⟨f + d4 - 1, fun _ => by simp (decide := true) only [PV, F_l_tree, List.take, e1, e2, e3, e4]⟩
    · exact ⟨l, fun _ => by simp (decide := true) only [PV, F_l_tree, List.take, e1, e2, e3, c]⟩
  have el := el []
  rw [q_split 3, el, sq_nx]
  by_cases c0 : j = 0
  · exact ⟨.over f l2 (b + d5), by simp only [treV]; simp (decide := true) only [PV, F_l_tree, List.drop, e5, e6, c0]⟩
  by_cases c1 : j = 1
  · exact ⟨.under f l2 (b + d5), by simp only [treV]; simp (decide := true) only [PV, F_l_tree, List.drop, e5, e6, c0, c1]⟩
  by_cases c2 : j = 2
  · exact ⟨.rose f l2 (b + d5) (b + d5 + d6 - 2), by simp only [treV]; simp (decide := true) only [PV, F_l_tree, List.drop, e5, e6, c0, c1, c2]⟩
  by_cases c3 : j = 3
  · exact ⟨.turn f, by simp only [treV]; simp (decide := true) only [PV, F_l_tree, List.drop, e5, e6, c0, c1, c2, c3]⟩
  by_cases c4 : j = 4
  · exact ⟨.stay f l2 (b + d5) (b + d5 + d6), by simp only [treV]; simp (decide := true) only [PV, F_l_tree, List.drop, e5, e6, c0, c1, c2, c3, c4]⟩
  · exact ⟨.pace f l2 (b + d5 - b - d6) (b + d5 - b), by simp only [treV]; simp (decide := true) only [PV, F_l_tree, List.drop, e5, e6, c0, c1, c2, c3, c4]⟩
end
theorem run_ok (ns : List Int) (hl : ns.length ≤ 63) (hb : ∀ z ∈ ns, Builtin.Int.intBits z ≤ 1048576) : ∃ S', run G wfN lvN lawId [.scr ns] [] = .ok (.bl true) S' := by
  have hd : Bd ns := ⟨hl, bits_pw hb⟩
  refine ⟨[], ?_⟩
  rw [show lvN = 11 + 1 from rfl, show lawId = 517 from rfl, run_unf (F := F_law_39) rfl rfl rfl]
  obtain ⟨b, eb⟩ := r_base (n := 9) (S := []) hd
  have fd : fdivOk 4 = true := by decide
  obtain ⟨N, hN, hr2⟩ : ∃ N : Nat, N ≤ 21 ∧ rngV [.int (6 + (if (60 : Int) < (ns.length : Int) then (60 : Int) else (ns.length : Int)) / 4)] = some (upto 0 N) := by
    refine ⟨(6 + (if (60 : Int) < (ns.length : Int) then (60 : Int) else (ns.length : Int)) / 4).toNat, ?_, ?_⟩
    · split <;> omega
    · apply rng_1
      split <;> omega
  obtain ⟨ρ1, S1, e1, rfl, o, rfl⟩ := forL_inv (f := forB ⟨G, wfN, run G wfN 11, runI G wfN 11⟩ (.one 2) [(.ife (.nt (.call 516 [(.call 514 [(.v 0), (.op2 .add (.k (.int 40)) (.op2 .mul (.k (.int 7)) (.v 2))), (.op2 .mod (.v 2) (.k (.int 6))), (.v 1)])])) [(.ret (.k (.bl false)))] [])]) (fun ρ S1 => S1 = [] ∧ ∃ o, ρ = [some (.scr ns), some (.int b), o]) (upto 0 N) [some (.scr ns), some (.int b), none] [] (by
    rintro z hz ρ S1 ⟨rfl, o, rfl⟩
    obtain ⟨k, hk, rfl⟩ := upto_mem hz
    rw [Int.zero_add]
    have m1 : op2 .mul (.int 7) (.int (k : Int)) = some (.int (7 * (k : Int))) := op_mul (mulOk_small (by decide))
    obtain ⟨t, et⟩ := r_tree (n := 8) (S := []) hd (k := 40 + 7 * (k : Int)) (by omega) (by omega) (j := (k : Int) % 6) (by omega) (b := b)
    have ea := r_asked (n := 5) (S := []) (t := t)
    have dt := fun S => de_treV (S := S) t
    refine ⟨[some (.scr ns), some (.int b), some (.int (k : Int))], _, .inl ?_, rfl, _, rfl⟩
    generalize treV t = tv at *
    simp (decide := true) only [PV, m1, et, ea, dt]) ⟨rfl, _, rfl⟩
  simp (decide := true) only [PV, F_law_39, eb, fd, hr2, e1]
end Pv
end

section
set_option Elab.async false
set_option linter.all false
open PySem PySem.W PySem.Calls PyProof.Rows
set_option maxRecDepth 100000 in
set_option maxHeartbeats 0 in
theorem PySem.Challenge.cw_gaze_k63_what_is_no_event_holds : PySem.Challenge.rw_gaze_k63_what_is_no_event.Holds := by
  w_on; o_law
  refine HandSHeadRun.head_any (r := OpenLaw.row PySem.Challenge.rw_gaze_k63_what_is_no_event) (q := view (OpenLaw.row PySem.Challenge.rw_gaze_k63_what_is_no_event).prog [28]) (H := Pv.hkP) (ob := Pv.obP) (M := 7340) (loose := Pv.looseN) (d := HandSHeadRun.topDef (OpenLaw.row PySem.Challenge.rw_gaze_k63_what_is_no_event).prog 28) (kwd := []) Pv.obP_eq
    (by kernel_rfl) (fun s => by kernel_rfl) Pv.run_top (by kernel_rfl) (by kernel_rfl) (by kernel_rfl) (by rfl) (by first | assumption | decide +kernel) (by decide +kernel) ⟨rfl, rfl, rfl, rfl, rfl, by decide +kernel⟩ ?hw ?hc
  case hw => w_witness2
  case hc =>
    refine Pv.walk_pv (l := PySem.Challenge.rw_gaze_k63_what_is_no_event) (G := Pv.G) (F := Pv.F_law_39) (x := ⟨#[95, 108, 97, 119, 95, 115, 99, 114, 105, 112, 116]⟩) (free := Pv.freeN) (cons := Pv.consN) (wf := Pv.wfN) (lv := Pv.lvN) (lawId := Pv.lawId) (own := fun _ _ => false) rfl (by kernel_rfl) ⟨rfl, by decide, by decide⟩ rfl rfl rfl rfl (by kernel_rfl) rfl ?_ rfl Pv.run_ok
    intro w mg h Y Gm
    obtain ⟨K, KX, c, b⟩ := Y
    refine ⟨K, Pv.caOf K Pv.clA, KX, Pv.mods_of KX Gm (fun _ => rfl) rfl (Pv.nm_inj Pv.nm_nodup) b, fun f F hF => ?_⟩
    exact Pv.defs_ok KX Gm c b (f, F) (Pv.look_mem hF)
end
