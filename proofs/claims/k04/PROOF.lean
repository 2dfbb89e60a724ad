import PyProof.Rows.All
import Wide.All
import OpenK.AllK
import Wide.FinOn
import HandS.ForMost
import HandS.ForExc
import HandS.TryOnly
import HandS.TryMany
import HandS.ExcIs
import HandS.SuiteRaise
import HandS.IsInst
import HandS.Conv
import HandS.TupLen
import HandS.SortRule
import HandS.SortInts
import HandS.Wide
import HandS.Flow
import HandS.RaiseMore
import HandS.Style
import HandS.Deep
import HandS.Steps
import HandS.Walk
import HandS.Rev
import HandS.Zip
import KE.DatumOrd
import HandS.SortKw
import HandS.Small
import HandS.CallSlots
import HandS.WordsExc
import HandS.Defaults
import HandS.WordsDict
import HandS.More
import HandS.ExcBuiltin
import HandS.HeadHook1
import HandS.EndBits
import HandS.HeadHook2
import HandS.HeadEnd
import HandS.Head0
import HandS.Head1
import HandS.Head2
import PySem.Challenge.RW_gaze_k04_stretches_hold

section
set_option Elab.async false
set_option linter.all false
/-! Pv0: values as trees, the small language, its evaluator. -/
namespace Pv
open PySem

abbrev Key := Sum Int Str

inductive Val where
  | non | bl (b : Bool) | int (i : Int) | str (s : Str)
  | tup (xs : List Val) | lst (xs : List Val)
  | dK (kvs : List (Key × Val)) | dT (kvs : List (List Key × Val))
  | obj (c : Nat) (fs : List (Nat × Val)) | ref (n : Nat) | exc (c : Nat)
  | scr (ns : List Int)

instance : Inhabited Val := ⟨.non⟩

/-- an object of the store: an instance that changes; a list or a dict that changes; such a dict while a loop walks it -/
inductive SO where
  | inst (c : Nat) (fs : List (Nat × Val)) | cell (v : Val) | lk (v : Val)

abbrev Store := List SO
abbrev Env := List (Option Val)

inductive R (α : Type) where
  | ok (a : α) (S : Store) | exn (c : Nat) (S : Store) | stuck
inductive RS where
  | nx (ρ : Env) (S : Store) | ret (v : Val) (S : Store) | brk (ρ : Env) (S : Store) | cnt (ρ : Env) (S : Store) | exn (c : Nat) (ρ : Env) (S : Store) | stuck

@[simp] def R.bind {α β : Type} (r : R α) (f : α → Store → R β) : R β := match r with
  | .ok a S => f a S
  | .exn c S => .exn c S
  | .stuck => .stuck
/-- of a pure step that may be stuck -/
@[simp] def R.of {α : Type} (o : Option α) (S : Store) : R α := match o with
  | some a => .ok a S
  | none => .stuck

inductive Op where | add | sub | mul | fdiv | mod | pow
  deriving DecidableEq
inductive Cp where | lt | le | gt | ge | eq | ne | isn | isnt | inn | notin
  deriving DecidableEq
inductive Cn where | non | bl (b : Bool) | int (i : Int) | str (s : Str)
  deriving DecidableEq
inductive Bi where | len | abs | min2 | max2 | min1 | max1 | minD | maxD | sum | sorted | list | any | all | str | int | dict | setLen | sortedSet | minLen
  deriving DecidableEq
inductive Bm where | get | get2 | pop | popLast | index | split | join | upper | rjust
  deriving DecidableEq
inductive Ty where | int | bool | str | list | tuple | dict | valueError | cls (c : Nat)
  deriving DecidableEq
/-- a target: a slot, a tuple of slots -/
inductive Tg where | one (i : Nat) | many (is : List Nat)
  deriving DecidableEq

inductive E where
  | v (i : Nat) | k (c : Cn) | gl (x : Str) (c : Val)
  | op2 (o : Op) (a b : E) | rep (es : List E) (b : E) | neg (a : E)
  | cmp (o : Cp) (a b : E) | ch (o1 o2 : Cp) (a b c : E)
  | bop (isAnd : Bool) (es : List E) | nt (a : E) | ife (t a b : E)
  | tup (es : List E) | lst (es : List E) | ix (a b : E) | sl (a : E) (lo hi : Option E)
  | fld (a : E) (f : Nat)
  | call (f : Nat) (es : List E) | mk (c : Nat) (es : List E) | mth (o : E) (m : Nat) (es : List E)
  | bi (b : Bi) (es : List E) | bm (b : Bm) (o : E) (es : List E) | sortk (f : Nat) (a : E)
  | isi (a : E) (t : Ty)
  | comp (elt : E) (tg : Tg) (it : E) (cd : Option E)
  | d0 (t : Bool) | mkr (a : E)
  | rng (es : List E) | zip (a b : E) | rev (a : E)

inductive Pl where | slot (i : Nat) | fldp (i f : Nat) | refp (e : E)
inductive Mu where | app (e : E) | ext (e : E) | clr | rev | seti (k e : E) | dpop (k : E)

inductive S where
  | set (i : Nat) (e : E) | unp (is : List Nat) (e : E) | sfld (o : E) (f : Nat) (e : E)
  | ex (e : E) | mu (p : Pl) (m : Mu)
  | ret (e : E) | retN | ife (c : E) (a b : List S) | for' (tg : Tg) (it : E) (body : List S) | whil (c : E) (body : List S)
  | brk | cnt | pas | rais (c : Nat) | nev | binit (f : Nat) (es : List E) | mvs (is : List Nat) (s : S)
  | tr (body : List S) (hs : List (Nat × Option Nat × List S))

inductive Mode where | shr | own | brw
  deriving DecidableEq
structure Fn where
  name : Str
  np : Nat
  names : List Str
  md : List Mode
  ret : Mode
  isIni : Bool
  body : List S
structure Cls where
  name : Str
  exc : Bool
  val : Bool
  sup : List Nat
  own : List Nat
  mths : List (Nat × Nat)
  ini : Option Nat
structure Prog where
  fn : Nat → Option Fn
  cls : Nat → Option Cls
  nm : Nat → Str

/-! ### values -/
/-- the script's item -/
def scrAt (ns : List Int) (i : Int) : Option Val := match L2.atI ns i with
  | some k => some (.int k)
  | none => none
def deref (S : Store) : Val → Val
  | .ref n => match S[n]? with
    | some (.cell w) => w
    | _ => .ref n
  | v => v
def keyK : Val → Option Key
  | .int i => some (.inl i)
  | .str s => some (.inr s)
  | _ => none
def keyT : List Val → Option (List Key)
  | [] => some []
  | v :: r => match keyK v, keyT r with
    | some k, some ks => some (k :: ks)
    | _, _ => none
def unkey : Key → Val
  | .inl i => .int i
  | .inr s => .str s
def dget {κ : Type} [DecidableEq κ] (k : κ) : List (κ × Val) → Option Val
  | [] => none
  | (a, v) :: r => if a = k then some v else dget k r
def dput {κ : Type} [DecidableEq κ] (k : κ) (x : Val) : List (κ × Val) → List (κ × Val)
  | [] => [(k, x)]
  | (a, v) :: r => if a = k then (a, x) :: r else (a, v) :: dput k x r
def ddel {κ : Type} [DecidableEq κ] (k : κ) : List (κ × Val) → List (κ × Val)
  | [] => []
  | (a, v) :: r => if a = k then r else (a, v) :: ddel k r
def fget (f : Nat) : List (Nat × Val) → Option Val
  | [] => none
  | (a, v) :: r => if a = f then some v else fget f r
def fput (f : Nat) (x : Val) : List (Nat × Val) → List (Nat × Val)
  | [] => [(f, x)]
  | (a, v) :: r => if a = f then (a, x) :: r else (a, v) :: fput f x r
abbrev atI {α : Type} (xs : List α) (i : Int) : Option α := L2.atI xs i
abbrev atN (n : Nat) (i : Int) : Option Nat := L2.ixN n i
def szb (n : Nat) : Bool := decide (n ≤ 16777215)
def mulOk (i j : Int) : Bool := decide (i.natAbs < 2 ^ 64) || decide (j.natAbs < 2 ^ 64) || decide (i.natAbs.log2 + j.natAbs.log2 < 100000000)
def sign1 (s : Str) (i : Int) : Option Val := match atI s.cps.toList i with
  | some c => some (.str ⟨#[c]⟩)
  | none => none

def op2 : Op → Val → Val → Option Val
  | .add, .int i, .int j => some (.int (i + j))
  | .add, .str x, .str y => if szb (x.length + y.length) = true then some (.str (x ++ y)) else none
  | .add, .lst xs, .lst ys => if szb (xs.length + ys.length) = true then some (.lst (xs ++ ys)) else none
  | .add, .tup (x :: xs), .tup ys => if szb (xs.length + 1 + ys.length) = true then some (.tup (x :: xs ++ ys)) else none
  | .sub, .int i, .int j => some (.int (i - j))
  | .mul, .int i, .int j => if mulOk i j = true then some (.int (i * j)) else none
  | .fdiv, .int i, .int j => if j = 0 then none else if j.natAbs.log2 < 9000 then (if 0 < j then some (.int (i / j)) else some (.int (i.fdiv j))) else none
  | .mod, .int i, .int j => if 0 < j then some (.int (i % j)) else if j < 0 then some (.int (i.fmod j)) else none
  | .pow, .int i, .int j => if 0 ≤ j ∧ j ≤ 1000000 ∧ i.natAbs < 2 ^ 64 then some (.int (i ^ j.toNat)) else none
  | _, _, _ => none

/-! ### == of data -/
mutual
/-- data of a depth, its texts well formed -/
def dataOk : Nat → Val → Bool
  | 0, _ => false
  | n + 1, .lst xs => dataOks n xs
  | n + 1, .tup xs => dataOks n xs
  | _ + 1, .non => true
  | _ + 1, .bl _ => true
  | _ + 1, .int _ => true
  | _ + 1, .str x => PyData.strOk x
  | _ + 1, _ => false
def dataOks : Nat → List Val → Bool
  | _, [] => true
  | n, x :: xs => dataOk n x && dataOks n xs
end
mutual
def eqv : Val → Val → Bool
  | .lst xs, .lst ys => eqvs xs ys
  | .tup xs, .tup ys => eqvs xs ys
  | .non, .non => true
  | .bl a, .bl b => a == b
  | .int i, .int j => decide (i = j)
  | .str x, .str y => decide (x = y)
  | .bl a, .int j => decide ((if a then 1 else 0) = j)
  | .int i, .bl b => decide (i = (if b then 1 else 0))
  | _, _ => false
def eqvs : List Val → List Val → Bool
  | [], [] => true
  | x :: xs, y :: ys => eqv x y && eqvs xs ys
  | [], _ :: _ => false
  | _ :: _, [] => false
end
/-- == of two values: texts, or data -/
def eqV : Val → Val → Option Bool
  | .str x, .str y => some (decide (x = y))
  | v, w => if dataOk 60 v = true ∧ dataOk 60 w = true then some (eqv v w) else none

/-! ### sorting by keys -/
def lexLe : List Int → List Int → Bool
  | [], _ => true
  | _ :: _, [] => false
  | x :: xs, y :: ys => if x < y then true else if y < x then false else lexLe xs ys
def intsOf : List Val → Option (List Int)
  | [] => some []
  | .int i :: r => match intsOf r with
    | some is => some (i :: is)
    | none => none
  | _ :: _ => none
/-- what a value is sorted by: ints by themselves, texts by their signs, tuples and lists of ints item by item -/
def skey : Val → Option (Nat × List Int)
  | .int i => some (0, [i])
  | .str s => some (1, s.cps.toList.map Int.ofNat)
  | .tup xs => match intsOf xs with
    | some is => some (2, is)
    | none => none
  | .lst xs => match intsOf xs with
    | some is => some (3, is)
    | none => none
  | _ => none
def insBy {α : Type} (le : α → α → Bool) (x : α) : List α → List α
  | [] => [x]
  | y :: r => if le x y = true then x :: y :: r else y :: insBy le x r
def isort {α : Type} (le : α → α → Bool) : List α → List α
  | [] => []
  | x :: r => insBy le x (isort le r)
def keyed : List Val → Option (List (Nat × List Int × Val))
  | [] => some []
  | v :: r => match skey v, keyed r with
    | some k, some ks => some ((k.1, k.2, v) :: ks)
    | _, _ => none
def sameKind : List (Nat × List Int × Val) → Bool
  | [] => true
  | x :: r => r.all fun y => y.1 == x.1
def sortV (xs : List Val) : Option (List Val) := match keyed xs with
  | some ks => if sameKind ks = true then some ((isort (fun a b => lexLe a.2.1 b.2.1) ks).map fun a => a.2.2) else none
  | none => none
end Pv
end

section
set_option Elab.async false
set_option linter.all false
/-! Pv1: the evaluator. -/
namespace Pv
open PySem

/-! ### built-ins by values -/
def minI : Int → List Int → Int
  | a, [] => a
  | a, b :: r => minI (if b < a then b else a) r
def maxI : Int → List Int → Int
  | a, [] => a
  | a, b :: r => maxI (if b > a then b else a) r
def boolsOf : List Val → Option (List Bool)
  | [] => some []
  | .bl b :: r => match boolsOf r with
    | some bs => some (b :: bs)
    | none => none
  | _ :: _ => none
def strsOf : List Val → Option (List Str)
  | [] => some []
  | .str b :: r => match strsOf r with
    | some bs => some (b :: bs)
    | none => none
  | _ :: _ => none
def lenV : Val → Option Int
  | .lst xs => some xs.length
  | .tup xs => some xs.length
  | .str s => if szb s.length = true then some s.length else none
  | .dK kvs => some kvs.length
  | .dT kvs => some kvs.length
  | .scr ns => some ns.length
  | _ => none
/-- each once, in the order of their first places -/
def nubI : List Int → List Int
  | [] => []
  | x :: r => x :: (nubI r).filter (fun y => y ≠ x)
def pairsT : List Val → Option (List (List Key × Val))
  | [] => some []
  | .tup [.tup ks, v] :: r => match keyT ks, pairsT r with
    | some k, some ps => some ((k, v) :: ps)
    | _, _ => none
  | _ :: _ => none
def lens : List Val → Option (List (Int × Val))
  | [] => some []
  | .lst xs :: r => match lens r with
    | some ls => some (((xs.length : Int), .lst xs) :: ls)
    | none => none
  | _ :: _ => none
def firstMin : Int × Val → List (Int × Val) → Val
  | a, [] => a.2
  | a, b :: r => firstMin (if b.1 < a.1 then b else a) r
def biV : Bi → List Val → Option Val
  | .len, [v] => match lenV v with
    | some n => some (.int n)
    | none => none
  | .abs, [.int i] => some (.int (if i < 0 then -i else i))
  | .min2, [.int i, .int j] => some (.int (if j < i then j else i))
  | .max2, [.int i, .int j] => some (.int (if j > i then j else i))
  | .min1, [.lst xs] => match intsOf xs with
    | some (i :: is) => some (.int (minI i is))
    | _ => none
  | .max1, [.lst xs] => match intsOf xs with
    | some (i :: is) => some (.int (maxI i is))
    | _ => none
  | .minD, [.lst xs] => match intsOf xs with
    | some (i :: is) => some (.int (minI i is))
    | some [] => some .non
    | _ => none
  | .maxD, [.lst xs] => match intsOf xs with
    | some (i :: is) => some (.int (maxI i is))
    | some [] => some .non
    | _ => none
  | .sum, [.lst xs] => match intsOf xs with
    | some is => some (.int is.sum)
    | none => none
  | .sorted, [.lst xs] => match sortV xs with
    | some ys => some (.lst ys)
    | none => none
  | .list, [.lst xs] => some (.lst xs)
  | .list, [.tup xs] => some (.lst xs)
  | .list, [.dK kvs] => some (.lst (kvs.map fun kv => unkey kv.1))
  | .any, [.lst xs] => match boolsOf xs with
    | some bs => some (.bl (bs.any id))
    | none => none
  | .all, [.lst xs] => match boolsOf xs with
    | some bs => some (.bl (bs.all id))
    | none => none
  | .str, [.int i] => if i.natAbs.log2 < 1920 then some (.str (PySem.Str.ofString (toString i))) else none
  | .str, [.str s] => some (.str s)
  | .int, [.int i] => some (.int i)
  | .int, [.bl b] => some (.int (if b then 1 else 0))
  | .int, [.str s] => if s.length ≤ 640 then (match PySem.intText? s with
    | some n => some (.int n)
    | none => none) else none
  | .dict, [.dK kvs] => some (.dK kvs)
  | .dict, [.dT kvs] => some (.dT kvs)
  | .dict, [.lst xs] => match pairsT xs with
    | some ps => some (.dT (ps.foldl (fun acc kv => dput kv.1 kv.2 acc) []))
    | none => none
  | .setLen, [.lst xs] => match intsOf xs with
    | some is => some (.int (nubI is).length)
    | none => none
  | .sortedSet, [.lst xs] => match intsOf xs with
    | some is => some (.lst ((isort (fun a b => decide (a ≤ b)) (nubI is)).map .int))
    | none => none
  | .minLen, [.lst xs] => match lens xs with
    | some (a :: r) => some (firstMin a r)
    | _ => none
  | _, _ => none

def lkT (kvs : List (List Key × Val)) (ks : List Val) : Option (Option Val) := match keyT ks with
  | some k => some (dget k kvs)
  | none => none
/-- x[i] -/
def ixV : Val → Val → Option Val
  | .lst xs, .int i => atI xs i
  | .tup xs, .int i => atI xs i
  | .scr ns, .int i => scrAt ns i
  | .str s, .int i => if szb s.length = true then sign1 s i else none
  | .dK kvs, k => match keyK k with
    | some k => dget k kvs
    | none => none
  | .dT kvs, .tup ks => match keyT ks with
    | some k => dget k kvs
    | none => none
  | _, _ => none
def cutL {α : Type} (xs : List α) (lo hi : Option Int) : List α := (xs.drop (_root_.HT.sIx xs.length 0 lo)).take (_root_.HT.sIx xs.length xs.length hi - _root_.HT.sIx xs.length 0 lo)
def slV : Val → Option Int → Option Int → Option Val
  | .lst xs, lo, hi => some (.lst (cutL xs lo hi))
  | .str s, lo, hi => if szb s.length = true then some (.str ⟨(cutL s.cps.toList lo hi).toArray⟩) else none
  | .scr ns, lo, hi => some (.lst ((cutL ns lo hi).map .int))
  | _, _, _ => none
def bmV : Bm → Val → List Val → Option Val
  | .get, .dK kvs, [k] => match keyK k with
    | some k => some ((dget k kvs).getD .non)
    | none => none
  | .get, .dT kvs, [.tup ks] => match keyT ks with
    | some k => some ((dget k kvs).getD .non)
    | none => none
  | .index, .lst xs, [v] => if dataOk 60 v = true ∧ xs.all (dataOk 60) = true then (match xs.findIdx? (fun x => eqv x v) with
    | some i => some (.int i)
    | none => none) else none
  | .split, .str s, [.str t] => if szb (s.length + 2) = true ∧ 0 < t.length then some (.lst ((PySem.Txt.split s t).map .str)) else none
  | .join, .str s, [.lst xs] => match strsOf xs with
    | some ts => if szb ((ts.map Str.length).sum + s.length * ts.length) = true then some (.str (PySem.Txt.join s ts)) else none
    | none => none
  | _, _, _ => none

/-! ### comparisons -/
def flatB : Val → Bool
  | .non => true
  | .bl _ => true
  | .int _ => true
  | .str _ => true
  | _ => false
def inV (v : Val) : Val → Option Bool
  | .lst xs => if dataOk 60 v = true ∧ xs.all (dataOk 60) = true then some (xs.any fun x => eqv x v) else none
  | .tup xs => if flatB v = true ∧ xs.all flatB = true then some (xs.any fun x => eqv x v) else none
  | .dK kvs => match keyK v with
    | some k => some (dget k kvs).isSome
    | none => none
  | .dT kvs => match v with
    | .tup ks => match keyT ks with
      | some k => some (dget k kvs).isSome
      | none => none
    | _ => none
  | .str s => match v with
    | .str t => if t.length = 1 then some (s.cps.toList.contains (t.cps.getD 0 0)) else none
    | _ => none
  | _ => none
def isNonB : Val → Bool
  | .non => true
  | _ => false
def isV : Val → Val → Option Bool
  | v, .non => some (isNonB v)
  | .bl a, .bl b => some (a == b)
  | _, _ => none
def nop (o : Option Bool) : Option Bool := match o with
  | some b => some (!b)
  | none => none
def cpV : Cp → Val → Val → Option Bool
  | .lt, .int i, .int j => some (decide (i < j))
  | .le, .int i, .int j => some (decide (i ≤ j))
  | .gt, .int i, .int j => some (decide (j < i))
  | .ge, .int i, .int j => some (decide (j ≤ i))
  | .eq, v, w => eqV v w
  | .ne, v, w => nop (eqV v w)
  | .isn, v, w => isV v w
  | .isnt, v, w => nop (isV v w)
  | .inn, v, w => inV v w
  | .notin, v, w => nop (inV v w)
  | _, _, _ => none

def tyV (G : Prog) (S : Store) : Val → Ty → Option Bool
  | .ref n, .cls d => match S[n]? with
    | some (.inst c _) => (match G.cls c with
      | some C => some (C.sup.contains d)
      | none => none)
    | _ => none
  | .ref _, _ => none
  | .obj c _, .cls d => (match G.cls c with
    | some C => some (C.sup.contains d)
    | none => none)
  | .obj _ _, _ => none
  | .exc c, .cls d => (match G.cls c with
    | some C => if C.exc = true then some (C.sup.contains d) else none
    | none => none)
  | .exc _, .valueError => some true
  | .exc _, _ => none
  | .scr _, _ => none
  | .non, _ => some false
  | .bl _, t => some (t == .bool || t == .int)
  | .int _, t => some (t == .int)
  | .str _, t => some (t == .str)
  | .lst _, t => some (t == .list)
  | .tup _, t => some (t == .tuple)
  | .dK _, t => some (t == .dict)
  | .dT _, t => some (t == .dict)

/-- 0, 1, .. -/
def upto (lo : Int) : Nat → List Val
  | 0 => []
  | n + 1 => .int lo :: upto (lo + 1) n
/-- how many items range(a, b, c) has -/
def rsz (a b c : Int) : Nat := if a < b then ((b - a - 1) / c + 1).toNat else 0
def rngV : List Val → Option (List Val)
  | [.int n] => if n.natAbs < 2 ^ 62 then some (upto 0 n.toNat) else none
  | [.int a, .int b] => if a.natAbs < 2 ^ 62 ∧ b.natAbs < 2 ^ 62 then some (upto a (b - a).toNat) else none
  | [.int a, .int b, .int c] => if a.natAbs < 2 ^ 61 ∧ b.natAbs < 2 ^ 61 ∧ 0 < c ∧ c < 1000 then some ((List.range (rsz a b c)).map fun k => .int (a + Int.ofNat k * c))
    else if a.natAbs < 2 ^ 61 ∧ b.natAbs < 2 ^ 61 ∧ c = -1 then some ((List.range (a - b).toNat).map fun k => .int (a + Int.ofNat k * -1)) else none
  | _ => none
def itemsV : Val → Option (List Val)
  | .lst xs => some xs
  | .tup xs => some xs
  | .str s => some (s.cps.toList.map fun c => .str ⟨#[c]⟩)
  | _ => none

/-! ### loops -/
def compL (f : Val → Store → R (Option Val)) : List Val → Store → R (List Val)
  | [], S => .ok [] S
  | x :: xs, S => match f x S with
    | .ok (some v) S1 => (match compL f xs S1 with
      | .ok r S2 => .ok (v :: r) S2
      | .exn c S2 => .exn c S2
      | .stuck => .stuck)
    | .ok none S1 => compL f xs S1
    | .exn c S1 => .exn c S1
    | .stuck => .stuck
def forL (f : Val → Env → Store → RS) : List Val → Env → Store → RS
  | [], ρ, S => .nx ρ S
  | x :: xs, ρ, S => match f x ρ S with
    | .nx ρ1 S1 => forL f xs ρ1 S1
    | .cnt ρ1 S1 => forL f xs ρ1 S1
    | .brk ρ1 S1 => .nx ρ1 S1
    | r => r
def whileL (c : Env → Store → R Val) (f : Env → Store → RS) : Nat → Env → Store → RS
  | 0, _, _ => .stuck
  | n + 1, ρ, S => match c ρ S with
    | .ok (.bl true) S1 => (match f ρ S1 with
      | .nx ρ1 S2 => whileL c f n ρ1 S2
      | .cnt ρ1 S2 => whileL c f n ρ1 S2
      | .brk ρ1 S2 => .nx ρ1 S2
      | r => r)
    | .ok (.bl false) S1 => .nx ρ S1
    | .exn e S1 => .exn e ρ S1
    | _ => .stuck

def bindMany : List Nat → List Val → Env → Option Env
  | [], [], ρ => some ρ
  | i :: is, v :: vs, ρ => bindMany is vs (ρ.set i (some v))
  | _, _, _ => none
def bindT : Tg → Val → Env → Option Env
  | .one i, v, ρ => some (ρ.set i (some v))
  | .many is, .tup vs, ρ => bindMany is vs ρ
  | .many _, _, _ => none

/-- what a list is sorted by, item by item -/
def keyL (f : Val → Store → R Val) : List Val → Store → R (List (List Int × Val))
  | [], S => .ok [] S
  | x :: xs, S => match f x S with
    | .ok k S1 => (match skey k with
      | some (2, is) => (match keyL f xs S1 with
        | .ok r S2 => .ok ((is, x) :: r) S2
        | _ => .stuck)
      | _ => .stuck)
    | _ => .stuck

structure Cfg where
  G : Prog
  wf : Nat
  cl : Nat → List Val → Store → R Val
  ini : Nat → List (Nat × Val) → List Val → Store → R (List (Nat × Val))

def fieldsOf (S : Store) : Val → Option (Nat × List (Nat × Val))
  | .obj c fs => some (c, fs)
  | .ref n => match S[n]? with
    | some (.inst c fs) => some (c, fs)
    | _ => none
  | _ => none
def fnOf (G : Prog) (c m : Nat) : Option Nat := match G.cls c with
  | some C => (C.mths.find? fun p => p.1 == m).map (·.2)
  | none => none

def cnV : Cn → Val
  | .non => .non
  | .bl b => .bl b
  | .int i => .int i
  | .str s => .str s

def mkObj (x : Cfg) (c : Nat) (vs : List Val) (S : Store) : R Val := match x.G.cls c with
  | some C => (match C.ini with
    | some f => (match x.ini f [] vs S with
      | .ok fs S1 => if C.val = true then .ok (.obj c fs) S1 else .ok (.ref S1.length) (S1 ++ [.inst c fs])
      | .exn e S1 => .exn e S1
      | .stuck => .stuck)
    | none => .stuck)
  | none => .stuck
def callM (x : Cfg) (v : Val) (m : Nat) (vs : List Val) (S0 S : Store) : R Val := match fieldsOf S0 v with
  | some (c, fs) => (match fnOf x.G c m, fget m fs with
    | some f, none => x.cl f (v :: vs) S
    | _, _ => .stuck)
  | none => .stuck

mutual
def evE (x : Cfg) : E → Env → Store → R Val
  | .v i, ρ, S => match ρ[i]? with
    | some (some v) => .ok v S
    | _ => .stuck
  | .k c, _, S => .ok (cnV c) S
  | .gl _ c, _, S => .ok c S
  | .op2 o a b, ρ, S => (evE x a ρ S).bind fun v S1 => (evE x b ρ S1).bind fun w S2 => R.of (op2 o (deref S2 v) (deref S2 w)) S2
  | .rep es b, ρ, S => (evs x es ρ S).bind fun vs S1 => if szb vs.length = true then (evE x b ρ S1).bind fun w S2 => match w with
    | .int j => if 0 ≤ j ∧ j < 100000 ∧ szb (vs.length * j.toNat) = true then .ok (.lst (List.replicate j.toNat vs).flatten) S2 else .stuck
    | _ => .stuck
    else .stuck
  | .neg a, ρ, S => (evE x a ρ S).bind fun v S1 => match v with
    | .int i => .ok (.int (-i)) S1
    | _ => .stuck
  | .cmp o a b, ρ, S => (evE x a ρ S).bind fun v S1 => (evE x b ρ S1).bind fun w S2 => match cpV o (deref S2 v) (deref S2 w) with
    | some b => .ok (.bl b) S2
    | none => .stuck
  | .ch o1 o2 a b c, ρ, S => (evE x a ρ S).bind fun v S1 => (evE x b ρ S1).bind fun w S2 => match cpV o1 v w with
    | some b => if b = true then (evE x c ρ S2).bind fun u S3 => (match cpV o2 w u with
      | some b => .ok (.bl b) S3
      | none => .stuck) else .ok (.bl false) S2
    | none => .stuck
  | .bop k es, ρ, S => evB x k es ρ S
  | .nt a, ρ, S => (evE x a ρ S).bind fun v S1 => match v with
    | .bl b => .ok (.bl (!b)) S1
    | _ => .stuck
  | .ife t a b, ρ, S => (evE x t ρ S).bind fun v S1 => match v with
    | .bl c => if c = true then evE x a ρ S1 else evE x b ρ S1
    | _ => .stuck
  | .tup es, ρ, S => (evs x es ρ S).bind fun vs S1 => if szb vs.length = true then .ok (.tup vs) S1 else .stuck
  | .lst es, ρ, S => (evs x es ρ S).bind fun vs S1 => if szb vs.length = true then .ok (.lst vs) S1 else .stuck
  | .ix a b, ρ, S => (evE x a ρ S).bind fun v S1 => (evE x b ρ S1).bind fun w S2 => R.of (ixV (deref S2 v) w) S2
  | .sl a lo hi, ρ, S => (evE x a ρ S).bind fun v S1 => (evO x lo ρ S1).bind fun l S2 => (evO x hi ρ S2).bind fun h S3 => R.of (slV (deref S3 v) l h) S3
  | .fld a f, ρ, S => (evE x a ρ S).bind fun v S1 => match fieldsOf S1 v with
    | some (_, fs) => R.of (fget f fs) S1
    | none => .stuck
  | .call f es, ρ, S => (evs x es ρ S).bind fun vs S1 => x.cl f vs S1
  | .mk c es, ρ, S => (evs x es ρ S).bind fun vs S1 => mkObj x c vs S1
  | .mth o m es, ρ, S => (evE x o ρ S).bind fun v S1 => (evs x es ρ S1).bind fun vs S2 => callM x v m vs S1 S2
  | .bi b es, ρ, S => (evs x es ρ S).bind fun vs S1 => R.of (biV b (vs.map (deref S1))) S1
  | .bm b o es, ρ, S => (evE x o ρ S).bind fun v S1 => (evs x es ρ S1).bind fun vs S2 => R.of (bmV b (deref S2 v) vs) S2
  | .sortk f a, ρ, S => (evE x a ρ S).bind fun v S1 => match deref S1 v with
    | .lst xs => (keyL (fun y S => x.cl f [y] S) xs S1).bind fun ks S2 => .ok (.lst ((isort (fun a b => lexLe a.1 b.1) ks).map (·.2))) S2
    | _ => .stuck
  | .isi a t, ρ, S => (evE x a ρ S).bind fun v S1 => match tyV x.G S1 (deref S1 v) t with
    | some b => .ok (.bl b) S1
    | none => .stuck
  | .comp e tg it cd, ρ, S => (evE x it ρ S).bind fun v S1 => match itemsV v with
    | some xs => if szb xs.length = true then (compL (fun y S => match bindT tg y ρ with
      | some ρ1 => (match evC x cd ρ1 S with
        | .ok true S1 => (match evE x e ρ1 S1 with
          | .ok w S2 => .ok (some w) S2
          | _ => .stuck)
        | .ok false S1 => .ok none S1
        | _ => .stuck)
      | none => .stuck) xs S1).bind (fun vs S2 => .ok (.lst vs) S2) else .stuck
    | none => .stuck
  | .d0 t, _, S => .ok (if t = true then .dT [] else .dK []) S
  | .mkr a, ρ, S => (evE x a ρ S).bind fun v S1 => .ok (.ref S1.length) (S1 ++ [.cell v])
  | .rng es, ρ, S => (evs x es ρ S).bind fun vs S1 => match rngV vs with
    | some xs => .ok (.lst xs) S1
    | none => .stuck
  | .zip a b, ρ, S => (evE x a ρ S).bind fun v S1 => (evE x b ρ S1).bind fun w S2 => match v, w with
    | .lst xs, .lst ys => .ok (.lst ((xs.zip ys).map fun p => .tup [p.1, p.2])) S2
    | _, _ => .stuck
  | .rev a, ρ, S => (evE x a ρ S).bind fun v S1 => match v with
    | .lst xs => .ok (.lst xs.reverse) S1
    | _ => .stuck
def evs (x : Cfg) : List E → Env → Store → R (List Val)
  | [], _, S => .ok [] S
  | e :: es, ρ, S => (evE x e ρ S).bind fun v S1 => (evs x es ρ S1).bind fun vs S2 => .ok (v :: vs) S2
def evO (x : Cfg) : Option E → Env → Store → R (Option Int)
  | none, _, S => .ok none S
  | some e, ρ, S => (evE x e ρ S).bind fun v S1 => match v with
    | .int i => .ok (some i) S1
    | _ => .stuck
def evC (x : Cfg) : Option E → Env → Store → R Bool
  | none, _, S => .ok true S
  | some e, ρ, S => (evE x e ρ S).bind fun v S1 => match v with
    | .bl b => .ok b S1
    | _ => .stuck
def evB (x : Cfg) (k : Bool) : List E → Env → Store → R Val
  | [], _, _ => .stuck
  | [e], ρ, S => evE x e ρ S
  | e :: es, ρ, S => (evE x e ρ S).bind fun v S1 => match v with
    | .bl b => if b = k then evB x k es ρ S1 else .ok (.bl b) S1
    | _ => .stuck
end

/-! ### statements -/
def muV : Mu → Val → List Val → Option Val
  | .app _, .lst xs, [v] => if szb (xs.length + 1) = true then some (.lst (xs ++ [v])) else none
  | .ext _, .lst xs, [.lst ys] => if szb (xs.length + ys.length) = true then some (.lst (xs ++ ys)) else none
  | .clr, .lst _, [] => some (.lst [])
  | .rev, .lst xs, [] => some (.lst xs.reverse)
  | .seti _ _, .lst xs, [v, .int i] => match atN xs.length i with
    | some j => some (.lst (xs.set j v))
    | none => none
  | .seti _ _, .dK kvs, [v, k] => match keyK k with
    | some k => if szb (kvs.length + 1) = true then some (.dK (dput k v kvs)) else none
    | none => none
  | .seti _ _, .dT kvs, [v, .tup ks] => match keyT ks with
    | some k => if szb (kvs.length + 1) = true then some (.dT (dput k v kvs)) else none
    | none => none
  | .dpop _, .dK kvs, [k] => match keyK k with
    | some k => (match dget k kvs with
      | some _ => some (.dK (ddel k kvs))
      | none => none)
    | none => none
  | .dpop _, .dT kvs, [.tup ks] => match keyT ks with
    | some k => (match dget k kvs with
      | some _ => some (.dT (ddel k kvs))
      | none => none)
    | none => none
  | _, _, _ => none
def muArgs : Mu → List E
  | .app e => [e]
  | .ext e => [e]
  | .clr => []
  | .rev => []
  | .seti k e => [e, k]
  | .dpop k => [k]
/-- the content of a place -/
def plV : Pl → Val → Env → Store → Option Val
  | .slot i, _, ρ, _ => match ρ[i]? with
    | some (some v) => some v
    | _ => none
  | .fldp i f, _, ρ, S => match ρ[i]? with
    | some (some (.ref n)) => (match S[n]? with
      | some (.inst _ fs) => fget f fs
      | _ => none)
    | _ => none
  | .refp _, .ref n, _, S => match S[n]? with
    | some (.cell v) => some v
    | _ => none
  | .refp _, _, _, _ => none
def muTy : Mu → Val → Bool
  | .app _, .lst _ => true
  | .ext _, .lst _ => true
  | .clr, .lst _ => true
  | .rev, .lst _ => true
  | .seti _ _, .lst _ => true
  | .dpop _, .dK _ => true
  | .dpop _, .dT _ => true
  | _, _ => false
/-- what is extended by is looked up -/
def muDe (m : Mu) (S : Store) (vs : List Val) : List Val := match m with
  | .ext _ => vs.map (deref S)
  | _ => vs
/-- the content of a place is changed -/
def muP (m : Mu) (vs : List Val) : Pl → Val → Env → Store → RS
  | .slot i, _, ρ, S => match ρ[i]? with
    | some (some v) => (match muV m v vs with
      | some w => .nx (ρ.set i (some w)) S
      | none => .stuck)
    | _ => .stuck
  | .fldp i f, _, ρ, S => match ρ[i]? with
    | some (some (.ref n)) => (match S[n]? with
      | some (.inst c fs) => (match fget f fs with
        | some v => (match muV m v vs with
          | some w => .nx ρ (S.set n (.inst c (fput f w fs)))
          | none => .stuck)
        | none => .stuck)
      | _ => .stuck)
    | _ => .stuck
  | .refp _, .ref n, ρ, S => match S[n]? with
    | some (.cell v) => (match muV m v vs with
      | some w => .nx ρ (S.set n (.cell w))
      | none => .stuck)
    | _ => .stuck
  | .refp _, _, _, _ => .stuck
def plE : Pl → List E
  | .refp e => [e]
  | _ => []
@[simp] def R.toS {α : Type} (r : R α) (ρ : Env) (f : α → Store → RS) : RS := match r with
  | .ok a S => f a S
  | .exn c S => .exn c ρ S
  | .stuck => .stuck
def catches (G : Prog) (c d : Nat) : Option Bool := match G.cls c with
  | some C => if C.exc = true then some (C.sup.contains d) else none
  | none => none
def asSlot (o : Option Nat) (v : Option Val) (ρ : Env) : Env := match o with
  | some i => ρ.set i v
  | none => ρ
def unAs (o : Option Nat) : RS → RS
  | .exn _ _ _ => .stuck
  | .nx ρ S => .nx (asSlot o none ρ) S
  | .brk ρ S => .brk (asSlot o none ρ) S
  | .cnt ρ S => .cnt (asSlot o none ρ) S
  | r => r

def dropE : List Nat → Env → Env
  | [], ρ => ρ
  | i :: r, ρ => dropE r (ρ.set i none)

mutual
def evS (x : Cfg) : S → Env → Store → RS
  | .set i e, ρ, S => (evE x e ρ S).toS ρ fun v S1 => .nx (ρ.set i (some v)) S1
  | .unp is e, ρ, S => (evE x e ρ S).toS ρ fun v S1 => match v with
    | .tup vs => (match bindMany is vs ρ with
      | some ρ1 => .nx ρ1 S1
      | none => .stuck)
    | _ => .stuck
  | .sfld o f e, ρ, S => (evE x e ρ S).toS ρ fun w S1 => (evE x o ρ S1).toS ρ fun v S2 => match v with
    | .ref n => (match S2[n]? with
      | some (.inst c fs) => if fs.length < 900 then .nx ρ (S2.set n (.inst c (fput f w fs))) else .stuck
      | _ => .stuck)
    | .obj c fs => (match o with
      | .v i => if fs.length < 900 then .nx (ρ.set i (some (.obj c (fput f w fs)))) S2 else .stuck
      | _ => .stuck)
    | _ => .stuck
  | .ex e, ρ, S => (evE x e ρ S).toS ρ fun _ S1 => .nx ρ S1
  | .mu p m, ρ, S => (evs x (plE p) ρ S).toS ρ fun ps S1 => match plV p (ps.headD .non) ρ S1 with
    | some v => if muTy m v = true then (evs x (muArgs m) ρ S1).toS ρ fun vs S2 => muP m (muDe m S2 vs) p (ps.headD .non) ρ S2 else .stuck
    | none => .stuck
  | .ret e, ρ, S => (evE x e ρ S).toS ρ fun v S1 => .ret v S1
  | .retN, _, S => .ret .non S
  | .ife c a b, ρ, S => (evE x c ρ S).toS ρ fun v S1 => match v with
    | .bl t => if t = true then evSs x a ρ S1 else evSs x b ρ S1
    | _ => .stuck
  | .for' tg it body, ρ, S => (evE x it ρ S).toS ρ fun v S1 => match itemsV v with
    | some xs => forL (fun y ρ S => match bindT tg y ρ with
      | some ρ1 => evSs x body ρ1 S
      | none => .stuck) xs ρ S1
    | none => .stuck
  | .whil c body, ρ, S => whileL (evE x c) (evSs x body) x.wf ρ S
  | .brk, ρ, S => .brk ρ S
  | .cnt, ρ, S => .cnt ρ S
  | .pas, ρ, S => .nx ρ S
  | .rais c, ρ, S => .exn c ρ S
  | .nev, _, _ => .stuck
  | .binit f es, ρ, S => (evs x es ρ S).toS ρ fun vs S1 => match (ρ[0]? : Option (Option Val)) with
    | some (some (.obj c fs)) => (x.ini f fs vs S1).toS ρ fun fs1 S2 => .nx (ρ.set 0 (some (.obj c fs1))) S2
    | _ => .stuck
  | .mvs is s, ρ, S => match evS x s ρ S with
    | .nx ρ1 S1 => .nx (dropE is ρ1) S1
    | .exn c ρ1 S1 => .exn c (dropE is ρ1) S1
    | .ret v S1 => .ret v S1
    | _ => .stuck
  | .tr body hs, ρ, S => match evSs x body ρ S with
    | .exn c ρ1 S1 => evH x c hs ρ1 S1
    | r => r
def evSs (x : Cfg) : List S → Env → Store → RS
  | [], ρ, S => .nx ρ S
  | s :: r, ρ, S => match evS x s ρ S with
    | .nx ρ1 S1 => evSs x r ρ1 S1
    | q => q
def evH (x : Cfg) (c : Nat) : List (Nat × Option Nat × List S) → Env → Store → RS
  | [], ρ, S => .exn c ρ S
  | (d, o, suite) :: r, ρ, S => match catches x.G c d with
    | some true => unAs o (evSs x suite (asSlot o (some (.exc c)) ρ) S)
    | some false => evH x c r ρ S
    | none => .stuck
end

/-! ### calls -/
def startE (n : Nat) (vs : List Val) : Env := vs.map some ++ List.replicate (n - vs.length) none
def ofBody (r : RS) : R Val := match r with
  | .ret v S => .ok v S
  | .nx _ S => .ok .non S
  | .exn c _ S => .exn c S
  | _ => .stuck
def ofInit (r : RS) : R (List (Nat × Val)) := match r with
  | .nx ρ S => (match (ρ[0]? : Option (Option Val)) with
    | some (some (.obj _ fs)) => .ok fs S
    | _ => .stuck)
  | .exn c _ S => .exn c S
  | _ => .stuck
mutual
def run (G : Prog) (wf : Nat) : Nat → Nat → List Val → Store → R Val
  | 0, _, _, _ => .stuck
  | n + 1, f, vs, S => match G.fn f with
    | some F => if vs.length = F.np ∧ F.isIni = false then ofBody (evSs ⟨G, wf, run G wf n, runI G wf n⟩ F.body (startE F.names.length vs) S) else .stuck
    | none => .stuck
def runI (G : Prog) (wf : Nat) : Nat → Nat → List (Nat × Val) → List Val → Store → R (List (Nat × Val))
  | 0, _, _, _, _ => .stuck
  | n + 1, f, fs, vs, S => match G.fn f with
    | some F => if vs.length + 1 = F.np ∧ F.isIni = true then ofInit (evSs ⟨G, wf, run G wf n, runI G wf n⟩ F.body (startE F.names.length (.obj 0 fs :: vs)) S) else .stuck
    | none => .stuck
end
end Pv
end

section
set_option Elab.async false
set_option linter.all false
set_option maxRecDepth 100000
set_option autoImplicit false
/-! Pv2: how values lie in the abstract heap. -/
namespace Pv
open PySem PySem.Spec PyProof.Rows L2

/-- whose an address is: nobody's; frozen; a caller's, only looked at; a fresh result; a slot's; a store object's; a store object's own field -/
inductive Tag where | no | fz | br | rt | sl (i : Nat) | st (n : Nat) | fo (n f : Nat)
  deriving DecidableEq
structure Gh where
  T : Addr → Tag
  ι : Nat → Option Addr
structure Kx where
  ca : Nat → Addr
  nm : Nat → Str
  own : Nat → Nat → Bool
  kl : Addr → List V → Prop

def fzP (g : Gh) (H : Hp) : Hp := fun a => if g.T a = .fz then H a else none
theorem fzP_some {g : Gh} {H : Hp} {a : Addr} {o : HO} (h : fzP g H a = some o) : g.T a = .fz ∧ H a = some o := by
  unfold fzP at h
  split at h
  · exact ⟨by assumption, h⟩
  · cases h
theorem fzP_of {g : Gh} {H : Hp} {a : Addr} {o : HO} (t : g.T a = .fz) (h : H a = some o) : fzP g H a = some o := by
  unfold fzP
  rw [if_pos t]
  exact h

mutual
def VRep (k : Kx) (F : Hp) (ι : Nat → Option Addr) : Val → V → Prop
  | .non, u => u = .non
  | .bl b, u => u = .bl b
  | .int i, u => u = .int i
  | .str s, u => u = .str s
  | .tup xs, u => ∃ a us, u = .ref a ∧ F a = some (.tup us) ∧ VReps k F ι xs us
  | .lst xs, u => ∃ a us, u = .ref a ∧ F a = some (.lst us) ∧ VReps k F ι xs us
  | .dK kvs, u => ∃ a us, u = .ref a ∧ F a = some (.dK us) ∧ VKs k F ι kvs us
  | .dT kvs, u => ∃ a us, u = .ref a ∧ F a = some (.dT us) ∧ VTs k F ι kvs us
  | .obj c fs, u => ∃ a dx us, u = .ref a ∧ F a = some (.ins (k.ca c) dx us) ∧ VFs k F ι fs us
  | .ref n, u => ∃ a, ι n = some a ∧ u = .ref a
  | .exc _, u => ∃ a, u = .ref a
  | .scr ns, u => ∃ a, u = .ref a ∧ ((∃ o, F a = some (.frz o (.lst (ns.map V.int)))) ∨ k.kl a (ns.map V.int))
def VReps (k : Kx) (F : Hp) (ι : Nat → Option Addr) : List Val → List V → Prop
  | [], us => us = []
  | x :: xs, us => ∃ u r, us = u :: r ∧ VRep k F ι x u ∧ VReps k F ι xs r
def VKs (k : Kx) (F : Hp) (ι : Nat → Option Addr) : List (Key × Val) → List (Key × V) → Prop
  | [], us => us = []
  | (q, x) :: xs, us => ∃ u r, us = (q, u) :: r ∧ VRep k F ι x u ∧ VKs k F ι xs r
def VTs (k : Kx) (F : Hp) (ι : Nat → Option Addr) : List (List Key × Val) → List (List Key × V) → Prop
  | [], us => us = []
  | (q, x) :: xs, us => ∃ u r, us = (q, u) :: r ∧ VRep k F ι x u ∧ VTs k F ι xs r
def VFs (k : Kx) (F : Hp) (ι : Nat → Option Addr) : List (Nat × Val) → List (Str × V) → Prop
  | [], us => us = []
  | (q, x) :: xs, us => ∃ u r, us = (k.nm q, u) :: r ∧ VRep k F ι x u ∧ VFs k F ι xs r
end

section
variable {k : Kx} {F F' : Hp} {ι ι' : Nat → Option Addr}
theorem rd_sub {a : Addr} {u : HO} (hF : ∀ a o, F a = some o → F' a = some o) (h : Rd F a u) : Rd F' a u := by
  rcases h with h | ⟨o, h⟩
  · exact .inl (hF _ _ h)
  · exact .inr ⟨o, hF _ _ h⟩
mutual
theorem VRep.mono (hF : ∀ a o, F a = some o → F' a = some o) (hι : ∀ n a, ι n = some a → ι' n = some a) : ∀ (v : Val) (u : V), VRep k F ι v u → VRep k F' ι' v u
  | .non, _, h => by simp only [VRep] at h ⊢; exact h
  | .bl _, _, h => by simp only [VRep] at h ⊢; exact h
  | .int _, _, h => by simp only [VRep] at h ⊢; exact h
  | .str _, _, h => by simp only [VRep] at h ⊢; exact h
  | .tup xs, _, h => by
    simp only [VRep] at h ⊢
    obtain ⟨a, us, e, f, r⟩ := h
    exact ⟨a, us, e, hF _ _ f, VReps.mono hF hι xs us r⟩
  | .lst xs, _, h => by
    simp only [VRep] at h ⊢
    obtain ⟨a, us, e, f, r⟩ := h
    exact ⟨a, us, e, hF _ _ f, VReps.mono hF hι xs us r⟩
  | .dK xs, _, h => by
    simp only [VRep] at h ⊢
    obtain ⟨a, us, e, f, r⟩ := h
    exact ⟨a, us, e, hF _ _ f, VKs.mono hF hι xs us r⟩
  | .dT xs, _, h => by
    simp only [VRep] at h ⊢
    obtain ⟨a, us, e, f, r⟩ := h
    exact ⟨a, us, e, hF _ _ f, VTs.mono hF hι xs us r⟩
  | .obj c fs, _, h => by
    simp only [VRep] at h ⊢
    obtain ⟨a, dx, us, e, f, r⟩ := h
    exact ⟨a, dx, us, e, hF _ _ f, VFs.mono hF hι fs us r⟩
  | .ref n, _, h => by
    simp only [VRep] at h ⊢
    obtain ⟨a, e, f⟩ := h
    exact ⟨a, hι _ _ e, f⟩
  | .exc _, _, h => by simp only [VRep] at h ⊢; exact h
  | .scr _, _, h => by
    simp only [VRep] at h ⊢
    obtain ⟨a, e, h⟩ := h
    exact ⟨a, e, h.imp (fun ⟨o, q⟩ => ⟨o, hF _ _ q⟩) id⟩
theorem VReps.mono (hF : ∀ a o, F a = some o → F' a = some o) (hι : ∀ n a, ι n = some a → ι' n = some a) : ∀ (xs : List Val) (us : List V), VReps k F ι xs us → VReps k F' ι' xs us
  | [], _, h => by simp only [VReps] at h ⊢; exact h
  | x :: xs, _, h => by
    simp only [VReps] at h ⊢
    obtain ⟨u, r, e, h1, h2⟩ := h
    exact ⟨u, r, e, VRep.mono hF hι x u h1, VReps.mono hF hι xs r h2⟩
theorem VKs.mono (hF : ∀ a o, F a = some o → F' a = some o) (hι : ∀ n a, ι n = some a → ι' n = some a) : ∀ (xs : List (Key × Val)) (us : List (Key × V)), VKs k F ι xs us → VKs k F' ι' xs us
  | [], _, h => by simp only [VKs] at h ⊢; exact h
  | (q, x) :: xs, _, h => by
    simp only [VKs] at h ⊢
    obtain ⟨u, r, e, h1, h2⟩ := h
    exact ⟨u, r, e, VRep.mono hF hι x u h1, VKs.mono hF hι xs r h2⟩
theorem VTs.mono (hF : ∀ a o, F a = some o → F' a = some o) (hι : ∀ n a, ι n = some a → ι' n = some a) : ∀ (xs : List (List Key × Val)) (us : List (List Key × V)), VTs k F ι xs us → VTs k F' ι' xs us
  | [], _, h => by simp only [VTs] at h ⊢; exact h
  | (q, x) :: xs, _, h => by
    simp only [VTs] at h ⊢
    obtain ⟨u, r, e, h1, h2⟩ := h
    exact ⟨u, r, e, VRep.mono hF hι x u h1, VTs.mono hF hι xs r h2⟩
theorem VFs.mono (hF : ∀ a o, F a = some o → F' a = some o) (hι : ∀ n a, ι n = some a → ι' n = some a) : ∀ (xs : List (Nat × Val)) (us : List (Str × V)), VFs k F ι xs us → VFs k F' ι' xs us
  | [], _, h => by simp only [VFs] at h ⊢; exact h
  | (q, x) :: xs, _, h => by
    simp only [VFs] at h ⊢
    obtain ⟨u, r, e, h1, h2⟩ := h
    exact ⟨u, r, e, VRep.mono hF hι x u h1, VFs.mono hF hι xs r h2⟩
end
end

/-- what a value at an address of a kind P reads; what is within is frozen -/
def TRep (k : Kx) (F : Hp) (ι : Nat → Option Addr) (P : Addr → HO → Prop) : Val → V → Prop
  | .lst xs, u => ∃ a us, u = .ref a ∧ P a (.lst us) ∧ VReps k F ι xs us
  | .dK kvs, u => ∃ a us, u = .ref a ∧ P a (.dK us) ∧ VKs k F ι kvs us
  | .dT kvs, u => ∃ a us, u = .ref a ∧ P a (.dT us) ∧ VTs k F ι kvs us
  | v, u => VRep k F ι v u
theorem TRep.mono {k : Kx} {F F' : Hp} {ι ι' : Nat → Option Addr} {P P' : Addr → HO → Prop} (hF : ∀ a o, F a = some o → F' a = some o) (hι : ∀ n a, ι n = some a → ι' n = some a) (hP : ∀ a o, P a o → P' a o) :
    ∀ (v : Val) (u : V), TRep k F ι P v u → TRep k F' ι' P' v u := by
  intro v u h
  cases v <;> simp only [TRep] at h ⊢ <;> first
    | exact VRep.mono hF hι _ _ h
    | (obtain ⟨a, us, e, p, r⟩ := h
       first
         | exact ⟨a, us, e, hP _ _ p, VReps.mono hF hι _ _ r⟩
         | exact ⟨a, us, e, hP _ _ p, VKs.mono hF hι _ _ r⟩
         | exact ⟨a, us, e, hP _ _ p, VTs.mono hF hι _ _ r⟩)
theorem VRep.toT {k : Kx} {F : Hp} {ι : Nat → Option Addr} {P : Addr → HO → Prop} (hP : ∀ a o, F a = some o → P a o) : ∀ {v : Val} {u : V}, VRep k F ι v u → TRep k F ι P v u := by
  intro v u h
  cases v <;> simp only [TRep, VRep] at h ⊢ <;> first
    | exact h
    | (obtain ⟨a, us, e, p, r⟩ := h; exact ⟨a, us, e, hP _ _ p, r⟩)

/-- modes of a result: kept (all frozen); looked at, and stays behind a statement; looked at; looked at, an object's own field too; fresh -/
inductive Md where | V | L | B | P | O
  deriving DecidableEq
def bTag : Tag → Bool
  | .fz => true
  | .br => true
  | .sl _ => true
  | _ => false
def pTag : Tag → Bool
  | .fo _ _ => true
  | t => bTag t
def lTag : Tag → Bool
  | .fz => true
  | .br => true
  | _ => false
def LP (g : Gh) (H : Hp) (a : Addr) (o : HO) : Prop := lTag (g.T a) = true ∧ H a = some o
def BP (g : Gh) (H : Hp) (a : Addr) (o : HO) : Prop := bTag (g.T a) = true ∧ H a = some o
def PP (g : Gh) (H : Hp) (a : Addr) (o : HO) : Prop := pTag (g.T a) = true ∧ H a = some o
def OP (g : Gh) (H : Hp) (t : Tag) (a : Addr) (o : HO) : Prop := g.T a = t ∧ H a = some o
def MRep (k : Kx) (g : Gh) (H : Hp) : Md → Val → V → Prop
  | .V, v, u => VRep k (fzP g H) g.ι v u
  | .L, v, u => TRep k (fzP g H) g.ι (LP g H) v u
  | .B, v, u => TRep k (fzP g H) g.ι (BP g H) v u
  | .P, v, u => TRep k (fzP g H) g.ι (PP g H) v u
  | .O, v, u => TRep k (fzP g H) g.ι (OP g H .rt) v u
/-- readable now -/
def RRep (k : Kx) (g : Gh) (H : Hp) (v : Val) (u : V) : Prop := TRep k (fzP g H) g.ι (fun a o => H a = some o) v u

theorem fzP_rd {g : Gh} {H : Hp} {a : Addr} {o : HO} (h : Rd (fzP g H) a o) : g.T a = .fz ∧ Rd H a o := by
  rcases h with h | ⟨ob, h⟩
  · exact ⟨(fzP_some h).1, .inl (fzP_some h).2⟩
  · exact ⟨(fzP_some h).1, .inr ⟨ob, (fzP_some h).2⟩⟩
theorem MRep.VB {k : Kx} {g : Gh} {H : Hp} {v : Val} {u : V} (h : MRep k g H .V v u) : MRep k g H .B v u :=
  VRep.toT (fun a o r => ⟨by rw [(fzP_some r).1]; rfl, (fzP_some r).2⟩) h
theorem MRep.VL {k : Kx} {g : Gh} {H : Hp} {v : Val} {u : V} (h : MRep k g H .V v u) : MRep k g H .L v u :=
  VRep.toT (fun a o r => ⟨by rw [(fzP_some r).1]; rfl, (fzP_some r).2⟩) h
theorem MRep.LB {k : Kx} {g : Gh} {H : Hp} {v : Val} {u : V} (h : MRep k g H .L v u) : MRep k g H .B v u :=
  TRep.mono (fun _ _ h => h) (fun _ _ h => h) (fun a o r => ⟨by
    have := r.1
    cases e : g.T a <;> rw [e] at this <;> first | rfl | exact Bool.noConfusion this, r.2⟩) _ _ h
theorem MRep.BP {k : Kx} {g : Gh} {H : Hp} {v : Val} {u : V} (h : MRep k g H .B v u) : MRep k g H .P v u :=
  TRep.mono (fun _ _ h => h) (fun _ _ h => h) (fun a o r => ⟨by
    have := r.1
    unfold pTag
    cases e : g.T a <;> rw [e] at this <;> first | rfl | exact this, r.2⟩) _ _ h
theorem MRep.R {k : Kx} {g : Gh} {H : Hp} {v : Val} {u : V} : ∀ {m : Md}, MRep k g H m v u → RRep k g H v u
  | .V, h => VRep.toT (fun a o r => (fzP_some r).2) h
  | .L, h => TRep.mono (fun _ _ h => h) (fun _ _ h => h) (fun a o r => r.2) _ _ h
  | .B, h => TRep.mono (fun _ _ h => h) (fun _ _ h => h) (fun a o r => r.2) _ _ h
  | .P, h => TRep.mono (fun _ _ h => h) (fun _ _ h => h) (fun a o r => r.2) _ _ h
  | .O, h => TRep.mono (fun _ _ h => h) (fun _ _ h => h) (fun a o r => r.2) _ _ h

/-! ### slots, the store -/
def SRep (k : Kx) (g : Gh) (H : Hp) (i : Nat) : Mode → Val → V → Prop
  | .shr, v, u => MRep k g H .V v u
  | .brw, v, u => MRep k g H .L v u
  | .own, v, u => TRep k (fzP g H) g.ι (OP g H (.sl i)) v u
/-- the fields of an instance of the store -/
def FReps (k : Kx) (g : Gh) (H : Hp) (c n : Nat) : List (Nat × Val) → List (Str × V) → Prop
  | [], us => us = []
  | (f, x) :: xs, us => ∃ u r, us = (k.nm f, u) :: r ∧ (if k.own c f = true then TRep k (fzP g H) g.ι (OP g H (.fo n f)) x u else MRep k g H .V x u) ∧ FReps k g H c n xs r
def isColl : Val → Prop
  | .lst _ => True
  | .dK _ => True
  | .dT _ => True
  | _ => False
def ORep (k : Kx) (g : Gh) (H : Hp) (n : Nat) (a : Addr) : SO → Prop
  | .inst c fs => ∃ dx us, H a = some (.ins (k.ca c) dx us) ∧ FReps k g H c n fs us
  | .cell v => isColl v ∧ TRep k (fzP g H) g.ι (fun b o => b = a ∧ H b = some o) v (.ref a)
  | .lk v => isColl v ∧ TRep k (fzP g H) g.ι (fun b o => b = a ∧ ∃ ob, H b = some (.frz ob o)) v (.ref a)
structure SRel (k : Kx) (g : Gh) (H : Hp) (S : Store) : Prop where
  obj : ∀ n o, S[n]? = some o → ∃ a, g.ι n = some a ∧ g.T a = .st n ∧ ORep k g H n a o
  no : ∀ n, S.length ≤ n → g.ι n = none
  uniq : ∀ n f a b, g.T a = .fo n f → g.T b = .fo n f → a = b
  wf : ∀ a, g.T a ≠ .no → H a ≠ none
  tup : ∀ a xs, H a = some (.tup xs) → g.T a = .no ∨ g.T a = .fz
/-- the slots' modes; the slot that holds the exception of a suite, its address, its class -/
structure Sl where
  l : List Mode
  hx : Option (Nat × Addr × Nat) := none
structure Rel (k : Kx) (md : Sl) (g : Gh) (σ : L2.St) (H : Hp) (ρ : Env) (S : Store) : Prop where
  len : ρ.length = md.l.length
  lenσ : σ.length = md.l.length
  slot : ∀ i v, ρ[i]? = some (some v) → ∃ u, σ[i]? = some (some u) ∧ SRep k g H i (md.l.getD i .shr) v u
  hx : ∀ i a c, md.hx = some (i, a, c) → σ[i]? = some (some (.ref a)) ∧ ρ[i]? = some (some (.exc c))
  str : SRel k g H S

/-- a step of an expression; q: no object of the store is changed -/
structure Step (q : Bool) (g : Gh) (H : Hp) (g' : Gh) (H' : Hp) : Prop where
  keep : ∀ a, g.T a = .fz ∨ g.T a = .br ∨ (g.T a = .rt ∨ ∃ i, g.T a = .sl i) → g'.T a = g.T a ∧ H' a = H a
  st : ∀ a n, g.T a = .st n → g'.T a = .st n
  fo : ∀ a n f, g.T a = .fo n f → g'.T a = .fo n f
  pure : q = true → ∀ a, (∃ n, g.T a = .st n) ∨ (∃ n f, g.T a = .fo n f) → H' a = H a
  ι : ∀ n a, g.ι n = some a → g'.ι n = some a
/-- a step of a statement -/
structure StepS (g : Gh) (H : Hp) (g' : Gh) (H' : Hp) : Prop where
  keep : ∀ a, g.T a = .fz ∨ g.T a = .br → g'.T a = g.T a ∧ H' a = H a
  st : ∀ a n, g.T a = .st n → g'.T a = .st n
  fo : ∀ a n f, g.T a = .fo n f → g'.T a = .fo n f
  ι : ∀ n a, g.ι n = some a → g'.ι n = some a

section
variable {k : Kx} {g g' g2 : Gh} {H H' H2 : Hp} {q : Bool}
theorem Step.refl : Step q g H g H := ⟨fun _ _ => ⟨rfl, rfl⟩, fun _ _ h => h, fun _ _ _ h => h, fun _ _ _ => rfl, fun _ _ h => h⟩
theorem Step.trans {q' : Bool} (a : Step q g H g' H') (b : Step q' g' H' g2 H2) : Step (q && q') g H g2 H2 where
  keep := fun x h => by
    obtain ⟨e1, e2⟩ := a.keep x h
    obtain ⟨e3, e4⟩ := b.keep x (by rw [e1]; exact h)
    exact ⟨e3.trans e1, e4.trans e2⟩
  st := fun x n h => b.st x n (a.st x n h)
  fo := fun x n f h => b.fo x n f (a.fo x n f h)
  pure := fun hq x h => by
    obtain ⟨h1, h2⟩ := Bool.and_eq_true_iff.mp hq
    have e := a.pure h1 x h
    refine (b.pure h2 x ?_).trans e
    rcases h with ⟨n, h⟩ | ⟨n, f, h⟩
    · exact .inl ⟨n, a.st x n h⟩
    · exact .inr ⟨n, f, a.fo x n f h⟩
  ι := fun n x h => b.ι n x (a.ι n x h)
theorem Step.weak (a : Step q g H g' H') : Step false g H g' H' := ⟨a.keep, a.st, a.fo, fun h => (Bool.noConfusion h), a.ι⟩
theorem Step.any (a : Step true g H g' H') : Step q g H g' H' := ⟨a.keep, a.st, a.fo, fun _ => a.pure rfl, a.ι⟩
theorem Step.toS (a : Step q g H g' H') : StepS g H g' H' := ⟨fun x h => a.keep x (by rcases h with h | h <;> simp [h]), a.st, a.fo, a.ι⟩
theorem StepS.refl : StepS g H g H := ⟨fun _ _ => ⟨rfl, rfl⟩, fun _ _ h => h, fun _ _ _ h => h, fun _ _ h => h⟩
theorem StepS.trans (a : StepS g H g' H') (b : StepS g' H' g2 H2) : StepS g H g2 H2 where
  keep := fun x h => by
    obtain ⟨e1, e2⟩ := a.keep x h
    obtain ⟨e3, e4⟩ := b.keep x (by rw [e1]; exact h)
    exact ⟨e3.trans e1, e4.trans e2⟩
  st := fun x n h => b.st x n (a.st x n h)
  fo := fun x n f h => b.fo x n f (a.fo x n f h)
  ι := fun n x h => b.ι n x (a.ι n x h)
theorem Step.fz (a : Step q g H g' H') : ∀ b o, fzP g H b = some o → fzP g' H' b = some o := fun b o h => by
  obtain ⟨t, e⟩ := fzP_some h
  obtain ⟨t', e'⟩ := a.keep b (.inl t)
  exact fzP_of (t'.trans t) (e'.trans e)
theorem StepS.fz (a : StepS g H g' H') : ∀ b o, fzP g H b = some o → fzP g' H' b = some o := fun b o h => by
  obtain ⟨t, e⟩ := fzP_some h
  obtain ⟨t', e'⟩ := a.keep b (.inl t)
  exact fzP_of (t'.trans t) (e'.trans e)
theorem rd_eq {a : Addr} {o : HO} (e : H' a = H a) (h : Rd H a o) : Rd H' a o := by
  unfold Rd at *
  rw [e]
  exact h
/-- a value kept or looked at is so behind a step -/
theorem Step.mV {v : Val} {u : V} (a : Step q g H g' H') (h : MRep k g H .V v u) : MRep k g' H' .V v u := VRep.mono a.fz a.ι _ _ h
theorem Step.mVs {v : List Val} {u : List V} (a : Step q g H g' H') (h : VReps k (fzP g H) g.ι v u) : VReps k (fzP g' H') g'.ι v u := VReps.mono a.fz a.ι _ _ h
theorem StepS.mV {v : Val} {u : V} (a : StepS g H g' H') (h : MRep k g H .V v u) : MRep k g' H' .V v u := VRep.mono a.fz a.ι _ _ h
theorem StepS.mL {v : Val} {u : V} (a : StepS g H g' H') (h : MRep k g H .L v u) : MRep k g' H' .L v u := by
  refine TRep.mono a.fz a.ι (fun b o r => ?_) _ _ h
  obtain ⟨t, r⟩ := r
  have hk : g.T b = .fz ∨ g.T b = .br := by
    cases e : g.T b <;> rw [e] at t <;> first | (exact .inl rfl) | (exact .inr rfl) | cases t
  obtain ⟨t', e'⟩ := a.keep b hk
  exact ⟨by rw [t']; exact t, e'.trans r⟩
theorem Step.mL {v : Val} {u : V} (a : Step q g H g' H') (h : MRep k g H .L v u) : MRep k g' H' .L v u := a.toS.mL h
theorem Step.mB {v : Val} {u : V} (a : Step q g H g' H') (h : MRep k g H .B v u) : MRep k g' H' .B v u := by
  refine TRep.mono a.fz a.ι (fun b o r => ?_) _ _ h
  obtain ⟨t, r⟩ := r
  have hk : g.T b = .fz ∨ g.T b = .br ∨ (g.T b = .rt ∨ ∃ i, g.T b = .sl i) := by
    cases e : g.T b <;> rw [e] at t <;> first | (exact .inl rfl) | (exact .inr (.inl rfl)) | (exact .inr (.inr (.inr ⟨_, rfl⟩))) | cases t
  obtain ⟨t', e'⟩ := a.keep b hk
  exact ⟨by rw [t']; exact t, e'.trans r⟩
theorem Step.mP {v : Val} {u : V} (a : Step true g H g' H') (h : MRep k g H .P v u) : MRep k g' H' .P v u := by
  refine TRep.mono a.fz a.ι (fun b o r => ?_) _ _ h
  obtain ⟨t, r⟩ := r
  cases e : g.T b <;> rw [e] at t
  case fo n f => exact ⟨by rw [a.fo b n f e]; rfl, (a.pure rfl b (.inr ⟨n, f, e⟩)).trans r⟩
  all_goals first
    | (obtain ⟨t', e'⟩ := a.keep b (by first | (exact .inl e) | (exact .inr (.inl e)) | (exact .inr (.inr (.inr ⟨_, e⟩))))
       exact ⟨by rw [t', e]; rfl, e'.trans r⟩)
    | exact Bool.noConfusion t
theorem Step.mO1 {v : Val} {u : V} (a : Step q g H g' H') (h : MRep k g H .O v u) : MRep k g' H' .O v u := by
  refine TRep.mono a.fz a.ι (fun b o r => ?_) _ _ h
  obtain ⟨t', e'⟩ := a.keep b (.inr (.inr (.inl r.1)))
  exact ⟨t'.trans r.1, e'.trans r.2⟩
theorem Step.mS {i : Nat} {m : Mode} {v : Val} {u : V} (a : Step q g H g' H') (h : SRep k g H i m v u) : SRep k g' H' i m v u := by
  cases m with
  | shr => exact a.mV h
  | brw => exact a.mL h
  | own =>
    refine TRep.mono a.fz a.ι (fun b o r => ?_) _ _ h
    obtain ⟨t', e'⟩ := a.keep b (.inr (.inr (.inr ⟨i, r.1⟩)))
    exact ⟨t'.trans r.1, e'.trans r.2⟩
theorem Step.mF (a : Step true g H g' H') {c n : Nat} : ∀ {fs : List (Nat × Val)} {us : List (Str × V)}, FReps k g H c n fs us → FReps k g' H' c n fs us
  | [], _, h => h
  | (f, x) :: xs, _, h => by
    obtain ⟨u, r, e, h1, h2⟩ := h
    refine ⟨u, r, e, ?_, a.mF h2⟩
    split
    · rename_i ho
      rw [if_pos ho] at h1
      refine TRep.mono a.fz a.ι (fun b o r => ?_) _ _ h1
      exact ⟨a.fo b n f r.1, (a.pure rfl b (.inr ⟨n, f, r.1⟩)).trans r.2⟩
    · rename_i ho
      rw [if_neg ho] at h1
      exact a.mV h1
theorem Step.mO (a : Step true g H g' H') {n : Nat} {x : Addr} {o : SO} (t : g.T x = .st n) (h : ORep k g H n x o) : ORep k g' H' n x o := by
  have e := a.pure rfl x (.inl ⟨n, t⟩)
  cases o with
  | inst c fs =>
    obtain ⟨dx, us, h1, h2⟩ := h
    exact ⟨dx, us, e.trans h1, a.mF h2⟩
  | cell v =>
    obtain ⟨hc, h⟩ := h
    refine ⟨hc, TRep.mono a.fz a.ι (fun b ob r => ?_) _ _ h⟩
    obtain ⟨rfl, r⟩ := r
    exact ⟨rfl, e.trans r⟩
  | lk v =>
    obtain ⟨hc, h⟩ := h
    refine ⟨hc, TRep.mono a.fz a.ι (fun b ob r => ?_) _ _ h⟩
    obtain ⟨rfl, oo, r⟩ := r
    exact ⟨rfl, oo, e.trans r⟩
/-- nothing but new things -/
theorem Step.mM {v : Val} {u : V} {m : Md} (a : Step q g H g' H') (hm : m = .P → q = true) (h : MRep k g H m v u) : MRep k g' H' m v u := by
  cases m with
  | V => exact a.mV h
  | L => exact a.mL h
  | B => exact a.mB h
  | P => rw [hm rfl] at a; exact a.mP h
  | O => exact a.mO1 h
theorem Step.rel (a : Step true g H g' H') {md : Sl} {σ : L2.St} {ρ : Env} {S : Store} (r : Rel k md g σ H ρ S) (hno : ∀ n, S.length ≤ n → g'.ι n = none)
    (hu : ∀ n f x y, g'.T x = .fo n f → g'.T y = .fo n f → x = y) (hw : ∀ x, g'.T x ≠ .no → H' x ≠ none) (ht : ∀ x xs, H' x = some (.tup xs) → g'.T x = .no ∨ g'.T x = .fz) : Rel k md g' σ H' ρ S :=
  ⟨r.len, r.lenσ, fun i v e => by
    obtain ⟨u, e2, h⟩ := r.slot i v e
    exact ⟨u, e2, a.mS h⟩, r.hx, ⟨fun n o e => by
    obtain ⟨x, i, t, h⟩ := r.str.obj n o e
    exact ⟨x, a.ι _ _ i, a.st x n t, a.mO t h⟩, hno, hu, hw, ht⟩⟩
end

/-! ### a new object -/
def Gh.put (g : Gh) (p : Addr) (t : Tag) : Gh := { g with T := fun a => if a = p then t else g.T a }
theorem put_same {g : Gh} {p : Addr} {t : Tag} : (g.put p t).T p = t := by
  unfold Gh.put
  exact if_pos rfl
theorem put_ne {g : Gh} {p a : Addr} {t : Tag} (h : a ≠ p) : (g.put p t).T a = g.T a := by
  unfold Gh.put
  exact if_neg h
section
variable {k : Kx} {md : Sl} {g : Gh} {σ : L2.St} {H : Hp} {ρ : Env} {S : Store} {p : Addr} {o : HO} {t : Tag}
theorem SRel.no_tag (r : SRel k g H S) (hp : H p = none) : g.T p = .no := by
  cases e : g.T p with
  | no => rfl
  | _ => exact absurd hp (r.wf p (by rw [e]; intro z; cases z))
theorem put_step (hp : g.T p = .no) : Step true g H (g.put p t) (upd H p o) := by
  have ne : ∀ a, g.T a ≠ .no → a ≠ p := fun a h e => h (by rw [e]; exact hp)
  refine ⟨fun a h => ?_, fun a n h => ?_, fun a n f h => ?_, fun _ a h => ?_, fun _ _ h => h⟩
  · have n := ne a (by rcases h with h | h | h | ⟨i, h⟩ <;> rw [h] <;> intro z <;> cases z)
    exact ⟨put_ne n, upd_ne n⟩
  · rw [put_ne (ne a (by rw [h]; intro z; cases z))]
    exact h
  · rw [put_ne (ne a (by rw [h]; intro z; cases z))]
    exact h
  · refine upd_ne (ne a ?_)
    rcases h with ⟨n, h⟩ | ⟨n, f, h⟩ <;> rw [h] <;> intro z <;> cases z
theorem put_rel (r : Rel k md g σ H ρ S) (hp : H p = none) (ht : t = .fz ∨ (t = .rt ∧ ∀ xs, o ≠ .tup xs)) : Rel k md (g.put p t) σ (upd H p o) ρ S := by
  have hn := r.str.no_tag hp
  refine (put_step hn).rel r (fun n h => r.str.no n h) (fun n f x y hx hy => ?_) (fun x hx => ?_) (fun x xs hx => ?_)
  · have h1 : x ≠ p := fun e => by rw [e, put_same] at hx; rcases ht with h | ⟨h, _⟩ <;> rw [h] at hx <;> cases hx
    have h2 : y ≠ p := fun e => by rw [e, put_same] at hy; rcases ht with h | ⟨h, _⟩ <;> rw [h] at hy <;> cases hy
    rw [put_ne h1] at hx
    rw [put_ne h2] at hy
    exact r.str.uniq n f x y hx hy
  · by_cases e : x = p
    · rw [e, upd_same]
      intro z
      cases z
    · rw [upd_ne e]
      rw [put_ne e] at hx
      exact r.str.wf x hx
  · by_cases e : x = p
    · rw [e, put_same]
      rcases ht with h | ⟨_, h⟩
      · exact .inr h
      · rw [e, upd_same] at hx
        exact absurd (Option.some.inj hx) (h xs)
    · rw [upd_ne e] at hx
      rw [put_ne e]
      exact r.str.tup x xs hx
theorem put_fz (hp : g.T p = .no) : fzP (g.put p .fz) (upd H p o) p = some o := fzP_of put_same upd_same
end
end Pv
end

section
set_option Elab.async false
set_option linter.all false
set_option maxRecDepth 100000
set_option autoImplicit false
/-! Pv3: readings of expressions by the evaluator; how parts are put together. -/
namespace Pv
open PySem PySem.Spec PyProof.Rows L2

mutual
/-- no object of the store is changed -/
def pureE : E → Bool
  | .v _ => true
  | .k _ => true
  | .gl _ _ => true
  | .op2 _ a b => pureE a && pureE b
  | .rep es b => pureEs es && pureE b
  | .neg a => pureE a
  | .cmp _ a b => pureE a && pureE b
  | .ch _ _ a b c => pureE a && pureE b && pureE c
  | .bop _ es => pureEs es
  | .nt a => pureE a
  | .ife t a b => pureE t && pureE a && pureE b
  | .tup es => pureEs es
  | .lst es => pureEs es
  | .ix a b => pureE a && pureE b
  | .sl a lo hi => pureE a && pureO lo && pureO hi
  | .fld a _ => pureE a
  | .bi _ es => pureEs es
  | .bm _ o es => pureE o && pureEs es
  | .isi a _ => pureE a
  | .comp e _ it cd => pureE e && pureE it && pureO cd
  | .d0 _ => true
  | .rng es => pureEs es
  | .zip a b => pureE a && pureE b
  | .rev a => pureE a
  | _ => false
def pureEs : List E → Bool
  | [] => true
  | e :: r => pureE e && pureEs r
def pureO : Option E → Bool
  | none => true
  | some e => pureE e
end

/-- what a judgement is over -/
structure Jx where
  k : Kx
  x : Cfg
  md : Sl
  W : WX
variable (J : Jx)

def Jx.exnP (J : Jx) (g : Gh) (H : Hp) (σ : L2.St) (ρ : Env) (c : Nat) (S' : Store) : Prop :=
  ∀ g' H', Rel J.k J.md g' σ H' ρ S' → Step false g H g' H' → J.W (.ref (J.k.ca c)) none σ H'
def Jx.Post (J : Jx) (m : Md) (q : Bool) (g : Gh) (H : Hp) (σ : L2.St) (ρ : Env) (r : R Val) (Q : VK) : Prop := match r with
  | .ok v S' => ∀ u g' H', Rel J.k J.md g' σ H' ρ S' → Step q g H g' H' → MRep J.k g' H' m v u → Q u H'
  | .exn c S' => J.exnP g H σ ρ c S'
  | .stuck => False
/-- e's reading: e is looked at as m -/
def Jx.tE (J : Jx) (m : Md) (e : E) : TE := fun σ H Q => ∃ g ρ S, Rel J.k J.md g σ H ρ S ∧ J.Post m (pureE e) g H σ ρ (evE J.x e ρ S) Q
def MReps (k : Kx) (g : Gh) (H : Hp) : List Md → List Val → List V → Prop
  | _, [], us => us = []
  | ms, v :: vs, us => ∃ u r, us = u :: r ∧ MRep k g H (ms.headD .V) v u ∧ MReps k g H ms.tail vs r
def Jx.PostA (J : Jx) (ms : List Md) (q : Bool) (g : Gh) (H : Hp) (σ : L2.St) (ρ : Env) (r : R (List Val)) (Q : List V → Hp → Prop) : Prop := match r with
  | .ok vs S' => ∀ us g' H', Rel J.k J.md g' σ H' ρ S' → Step q g H g' H' → MReps J.k g' H' ms vs us → Q us H'
  | .exn c S' => J.exnP g H σ ρ c S'
  | .stuck => False
def Jx.tA (J : Jx) (ms : List Md) (es : List E) : TA := fun σ H Q => ∃ g ρ S, Rel J.k J.md g σ H ρ S ∧ J.PostA ms (pureEs es) g H σ ρ (evs J.x es ρ S) Q
/-- a test -/
def Jx.tT (J : Jx) (e : E) : TT := tTest (J.tE .B e)

theorem PE.imp {X : Cx} {e : Expr} {t t' : TE} (h : PE X e t) (w : ∀ σ H Q, t' σ H Q → t σ H Q) : PE X e t' := ⟨fun pins s σ H Q I q => h.run pins s σ H Q I (w σ H Q q)⟩
theorem PT.imp {X : Cx} {e : Expr} {t t' : TT} (h : PT X e t) (w : ∀ σ H Q, t' σ H Q → t σ H Q) : PT X e t' := ⟨fun pins s σ H Q I q => h.run pins s σ H Q I (w σ H Q q)⟩
theorem PA.imp {X : Cx} {e : List Expr} {t t' : TA} (h : PA X e t) (w : ∀ σ H Q, t' σ H Q → t σ H Q) : PA X e t' := ⟨fun pos pins s σ H Q I q => h.run pos pins s σ H Q I (w σ H Q q)⟩

section
variable {J : Jx} {g g' : Gh} {H H' : Hp} {σ : L2.St} {ρ : Env} {S S' : Store} {m m1 m2 : Md} {q q1 q2 : Bool} {c : Nat}
theorem exn_weak (h : J.exnP g H σ ρ c S') (a : Step q g H g' H') : J.exnP g' H' σ ρ c S' := fun g2 H2 r s => h g2 H2 r (Step.weak (a.trans s))
/-- the rest of a reading behind a step -/
theorem post_after {r : R Val} {Q : VK} (h : J.Post m (q1 && q2) g H σ ρ r Q) (a : Step q1 g H g' H') : J.Post m q2 g' H' σ ρ r Q := by
  cases r with
  | ok v S1 => exact fun u g2 H2 r s mr => h u g2 H2 r (a.trans s) mr
  | exn c S1 => exact exn_weak h a
  | stuck => exact h
theorem post_true {r : R Val} {Q : VK} (h : J.Post m q g H σ ρ r Q) (a : Step q g H g' H') : J.Post m true g' H' σ ρ r Q := by
  refine post_after (q1 := q) (q2 := true) ?_ a
  rw [Bool.and_true]
  exact h
/-- one part, then the rest: what the part's reading is asked for -/
theorem tE_bind {e : E} {f : Val → Store → R Val} {Q : VK} {Q1 : VK} (r : Rel J.k J.md g σ H ρ S) (h : J.Post m (pureE e && q2) g H σ ρ ((evE J.x e ρ S).bind f) Q)
    (hn : ∀ v S' u g' H', evE J.x e ρ S = .ok v S' → Rel J.k J.md g' σ H' ρ S' → MRep J.k g' H' m1 v u → J.Post m q2 g' H' σ ρ (f v S') Q → Q1 u H') : J.tE m1 e σ H Q1 := by
  refine ⟨g, ρ, S, r, ?_⟩
  cases ev : evE J.x e ρ S with
  | ok v S1 =>
    rw [ev] at h
    exact fun u g2 H2 r2 s mr => hn v S1 u g2 H2 ev r2 mr (post_after h s)
  | exn c S1 =>
    rw [ev] at h
    exact h
  | stuck =>
    rw [ev] at h
    exact h
/-- .. with what the step kept -/
theorem tE_bindS {e : E} {f : Val → Store → R Val} {Q : VK} {Q1 : VK} (r : Rel J.k J.md g σ H ρ S) (h : J.Post m (pureE e && q2) g H σ ρ ((evE J.x e ρ S).bind f) Q)
    (hn : ∀ v S' u g' H', evE J.x e ρ S = .ok v S' → Rel J.k J.md g' σ H' ρ S' → Step (pureE e) g H g' H' → MRep J.k g' H' m1 v u → J.Post m q2 g' H' σ ρ (f v S') Q → Q1 u H') : J.tE m1 e σ H Q1 := by
  refine ⟨g, ρ, S, r, ?_⟩
  cases ev : evE J.x e ρ S with
  | ok v S1 =>
    rw [ev] at h
    exact fun u g2 H2 r2 s mr => hn v S1 u g2 H2 ev r2 s mr (post_after h s)
  | exn c S1 =>
    rw [ev] at h
    exact h
  | stuck =>
    rw [ev] at h
    exact h
theorem tA_bind {es : List E} {ms : List Md} {f : List Val → Store → R Val} {Q : VK} {Q1 : List V → Hp → Prop} (r : Rel J.k J.md g σ H ρ S) (h : J.Post m (pureEs es && q2) g H σ ρ ((evs J.x es ρ S).bind f) Q)
    (hn : ∀ vs S' us g' H', evs J.x es ρ S = .ok vs S' → Rel J.k J.md g' σ H' ρ S' → Step (pureEs es) g H g' H' → MReps J.k g' H' ms vs us → J.Post m q2 g' H' σ ρ (f vs S') Q → Q1 us H') : J.tA ms es σ H Q1 := by
  refine ⟨g, ρ, S, r, ?_⟩
  cases ev : evs J.x es ρ S with
  | ok v S1 =>
    rw [ev] at h
    exact fun u g2 H2 r2 s mr => hn v S1 u g2 H2 ev r2 s mr (post_after h s)
  | exn c S1 =>
    rw [ev] at h
    exact h
  | stuck =>
    rw [ev] at h
    exact h
theorem post_q {r : R Val} {Q : VK} (h : J.Post m q g H σ ρ r Q) : J.Post m true g H σ ρ r Q := post_true h (Step.any Step.refl)
end

/-! ### results -/
def tagM : Md → Tag
  | .O => .rt
  | _ => .fz
theorem tagM_or (m : Md) : tagM m = .fz ∨ tagM m = .rt := by cases m <;> simp [tagM]
section
variable {k : Kx} {g : Gh} {H : Hp} {p : Addr} {m : Md}
/-- values that are no collections -/
def simple : Val → Bool
  | .non => true
  | .bl _ => true
  | .int _ => true
  | .str _ => true
  | _ => false
theorem MRep.of_V {v : Val} {u : V} (h : VRep k (fzP g H) g.ι v u) (hc : ¬ isColl v) : MRep k g H m v u := by
  cases m with
  | V => exact h
  | L => cases v <;> first | exact h | exact absurd trivial hc
  | B => cases v <;> first | exact h | exact absurd trivial hc
  | P => cases v <;> first | exact h | exact absurd trivial hc
  | O => cases v <;> first | exact h | exact absurd trivial hc
theorem MRep.int (i : Int) : MRep k g H m (.int i) (.int i) := MRep.of_V (by simp only [VRep]) (fun h => h)
theorem MRep.bl (i : Bool) : MRep k g H m (.bl i) (.bl i) := MRep.of_V (by simp only [VRep]) (fun h => h)
theorem MRep.str (i : Str) : MRep k g H m (.str i) (.str i) := MRep.of_V (by simp only [VRep]) (fun h => h)
theorem MRep.non : MRep k g H m .non .non := MRep.of_V (by simp only [VRep]) (fun h => h)
theorem MRep.V_any {v : Val} {u : V} (hm : m ≠ .O) (h : MRep k g H .V v u) : MRep k g H m v u := by
  cases m with
  | V => exact h
  | L => exact h.VL
  | B => exact h.VB
  | P => exact h.VB.BP
  | O => exact absurd rfl hm
/-- a fresh collection -/
theorem mrep_lst {xs : List Val} {us : List V} (hp : g.T p = .no) (h : VReps k (fzP g H) g.ι xs us) : MRep k (g.put p (tagM m)) (upd H p (.lst us)) m (.lst xs) (.ref p) := by
  have st : Step true g H (g.put p (tagM m)) (upd H p (.lst us)) := put_step hp
  have h2 := st.mVs h
  cases m with
  | V =>
    show VRep _ _ _ _ _
    simp only [VRep]
    exact ⟨p, us, rfl, fzP_of put_same upd_same, h2⟩
  | L => exact ⟨p, us, rfl, ⟨by rw [show (g.put p (tagM .L)).T p = .fz from put_same]; rfl, upd_same⟩, h2⟩
  | B => exact ⟨p, us, rfl, ⟨by rw [show (g.put p (tagM .B)).T p = .fz from put_same]; rfl, upd_same⟩, h2⟩
  | P => exact ⟨p, us, rfl, ⟨by rw [show (g.put p (tagM .P)).T p = .fz from put_same]; rfl, upd_same⟩, h2⟩
  | O => exact ⟨p, us, rfl, ⟨put_same, upd_same⟩, h2⟩
theorem mrep_dK {xs : List (Key × Val)} {us : List (Key × V)} (hp : g.T p = .no) (h : VKs k (fzP g H) g.ι xs us) : MRep k (g.put p (tagM m)) (upd H p (.dK us)) m (.dK xs) (.ref p) := by
  have st : Step true g H (g.put p (tagM m)) (upd H p (.dK us)) := put_step hp
  have h2 := VKs.mono st.fz st.ι _ _ h
  cases m with
  | V =>
    show VRep _ _ _ _ _
    simp only [VRep]
    exact ⟨p, us, rfl, fzP_of put_same upd_same, h2⟩
  | L => exact ⟨p, us, rfl, ⟨by rw [show (g.put p (tagM .L)).T p = .fz from put_same]; rfl, upd_same⟩, h2⟩
  | B => exact ⟨p, us, rfl, ⟨by rw [show (g.put p (tagM .B)).T p = .fz from put_same]; rfl, upd_same⟩, h2⟩
  | P => exact ⟨p, us, rfl, ⟨by rw [show (g.put p (tagM .P)).T p = .fz from put_same]; rfl, upd_same⟩, h2⟩
  | O => exact ⟨p, us, rfl, ⟨put_same, upd_same⟩, h2⟩
theorem mrep_dT {xs : List (List Key × Val)} {us : List (List Key × V)} (hp : g.T p = .no) (h : VTs k (fzP g H) g.ι xs us) : MRep k (g.put p (tagM m)) (upd H p (.dT us)) m (.dT xs) (.ref p) := by
  have st : Step true g H (g.put p (tagM m)) (upd H p (.dT us)) := put_step hp
  have h2 := VTs.mono st.fz st.ι _ _ h
  cases m with
  | V =>
    show VRep _ _ _ _ _
    simp only [VRep]
    exact ⟨p, us, rfl, fzP_of put_same upd_same, h2⟩
  | L => exact ⟨p, us, rfl, ⟨by rw [show (g.put p (tagM .L)).T p = .fz from put_same]; rfl, upd_same⟩, h2⟩
  | B => exact ⟨p, us, rfl, ⟨by rw [show (g.put p (tagM .B)).T p = .fz from put_same]; rfl, upd_same⟩, h2⟩
  | P => exact ⟨p, us, rfl, ⟨by rw [show (g.put p (tagM .P)).T p = .fz from put_same]; rfl, upd_same⟩, h2⟩
  | O => exact ⟨p, us, rfl, ⟨put_same, upd_same⟩, h2⟩
theorem mrep_tup {xs : List Val} {us : List V} (hp : g.T p = .no) (h : VReps k (fzP g H) g.ι xs us) : MRep k (g.put p .fz) (upd H p (.tup us)) m (.tup xs) (.ref p) := by
  have st : Step true g H (g.put p .fz) (upd H p (.tup us)) := put_step hp
  refine MRep.of_V ?_ fun h => h
  simp only [VRep]
  exact ⟨p, us, rfl, fzP_of put_same upd_same, st.mVs h⟩
end
section
variable {J : Jx} {g : Gh} {H : Hp} {σ : L2.St} {ρ : Env} {S : Store} {m : Md} {Q : VK}
theorem fin_lst {xs : List Val} {us : List V} (r : Rel J.k J.md g σ H ρ S) (hv : VReps J.k (fzP g H) g.ι xs us) (h : J.Post m true g H σ ρ (.ok (.lst xs) S) Q) : ∀ p, H p = none → Q (.ref p) (upd H p (.lst us)) := fun p hp =>
  h _ _ _ (put_rel r hp ((tagM_or m).imp id fun e => ⟨e, fun _ z => nomatch z⟩)) (put_step (r.str.no_tag hp)) (mrep_lst (r.str.no_tag hp) hv)
theorem fin_dK {xs : List (Key × Val)} {us : List (Key × V)} (r : Rel J.k J.md g σ H ρ S) (hv : VKs J.k (fzP g H) g.ι xs us) (h : J.Post m true g H σ ρ (.ok (.dK xs) S) Q) : ∀ p, H p = none → Q (.ref p) (upd H p (.dK us)) := fun p hp =>
  h _ _ _ (put_rel r hp ((tagM_or m).imp id fun e => ⟨e, fun _ z => nomatch z⟩)) (put_step (r.str.no_tag hp)) (mrep_dK (r.str.no_tag hp) hv)
theorem fin_dT {xs : List (List Key × Val)} {us : List (List Key × V)} (r : Rel J.k J.md g σ H ρ S) (hv : VTs J.k (fzP g H) g.ι xs us) (h : J.Post m true g H σ ρ (.ok (.dT xs) S) Q) : ∀ p, H p = none → Q (.ref p) (upd H p (.dT us)) := fun p hp =>
  h _ _ _ (put_rel r hp ((tagM_or m).imp id fun e => ⟨e, fun _ z => nomatch z⟩)) (put_step (r.str.no_tag hp)) (mrep_dT (r.str.no_tag hp) hv)
theorem fin_tup {xs : List Val} {us : List V} (r : Rel J.k J.md g σ H ρ S) (hv : VReps J.k (fzP g H) g.ι xs us) (h : J.Post m true g H σ ρ (.ok (.tup xs) S) Q) : ∀ p, H p = none → Q (.ref p) (upd H p (.tup us)) := fun p hp =>
  h _ _ _ (put_rel r hp (.inl rfl)) (put_step (r.str.no_tag hp)) (mrep_tup (r.str.no_tag hp) hv)
theorem fin_V {v : Val} {u : V} (r : Rel J.k J.md g σ H ρ S) (hv : ∀ m, MRep J.k g H m v u) (h : J.Post m true g H σ ρ (.ok v S) Q) : Q u H := h _ _ _ r Step.refl (hv m)
theorem fin_kept {v : Val} {u : V} (r : Rel J.k J.md g σ H ρ S) (hm : m ≠ .O) (hv : MRep J.k g H .V v u) (h : J.Post m true g H σ ρ (.ok v S) Q) : Q u H := h _ _ _ r Step.refl (hv.V_any hm)
end

/-! ### what is read -/
section
variable {k : Kx} {g : Gh} {H : Hp} {S : Store}
theorem RRep.int_of {i : Int} {u : V} (h : RRep k g H (.int i) u) : u = .int i := by
  have h2 : VRep _ _ _ _ _ := h
  simpa only [VRep] using h2
theorem RRep.bl_of {i : Bool} {u : V} (h : RRep k g H (.bl i) u) : u = .bl i := by
  have h2 : VRep _ _ _ _ _ := h
  simpa only [VRep] using h2
theorem RRep.str_of {i : Str} {u : V} (h : RRep k g H (.str i) u) : u = .str i := by
  have h2 : VRep _ _ _ _ _ := h
  simpa only [VRep] using h2
theorem RRep.non_of {u : V} (h : RRep k g H .non u) : u = .non := by
  have h2 : VRep _ _ _ _ _ := h
  simpa only [VRep] using h2
theorem RRep.lst_of {xs : List Val} {u : V} (h : RRep k g H (.lst xs) u) : ∃ a us, u = .ref a ∧ H a = some (.lst us) ∧ VReps k (fzP g H) g.ι xs us := h
theorem RRep.dK_of {xs : List (Key × Val)} {u : V} (h : RRep k g H (.dK xs) u) : ∃ a us, u = .ref a ∧ H a = some (.dK us) ∧ VKs k (fzP g H) g.ι xs us := h
theorem RRep.dT_of {xs : List (List Key × Val)} {u : V} (h : RRep k g H (.dT xs) u) : ∃ a us, u = .ref a ∧ H a = some (.dT us) ∧ VTs k (fzP g H) g.ι xs us := h
theorem RRep.scr_of {ns : List Int} {u : V} {K : PySem.W.Frag} (hk : ∀ a us (H : Hp), k.kl a us → SqL K H a us) (h : RRep k g H (.scr ns) u) : ∃ a, u = .ref a ∧ SqL K H a (ns.map V.int) := by
  have h2 : VRep _ _ _ _ _ := h
  simp only [VRep] at h2
  obtain ⟨a, e, h3⟩ := h2
  refine ⟨a, e, ?_⟩
  rcases h3 with ⟨o, h3⟩ | h3
  · exact .inl (.inr ⟨o, (fzP_some h3).2⟩)
  · exact hk a _ H h3
theorem RRep.tup_of {xs : List Val} {u : V} (h : RRep k g H (.tup xs) u) : ∃ a us, u = .ref a ∧ H a = some (.tup us) ∧ g.T a = .fz ∧ VReps k (fzP g H) g.ι xs us := by
  have h2 : VRep _ _ _ _ _ := h
  simp only [VRep] at h2
  obtain ⟨a, us, e, f, r⟩ := h2
  exact ⟨a, us, e, (fzP_some f).2, (fzP_some f).1, r⟩
/-- a value as it is read now, the store's collections looked up -/
theorem deref_R {v : Val} {u : V} (s : SRel k g H S) (h : RRep k g H v u) : RRep k g H (deref S v) u := by
  cases v with
  | ref n =>
    have h2 : VRep _ _ _ _ _ := h
    simp only [VRep] at h2
    obtain ⟨a, e, rfl⟩ := h2
    cases hs : S[n]? with
    | none =>
      simp only [deref, hs]
      exact h
    | some o =>
      obtain ⟨a', e', t, ho⟩ := s.obj n o hs
      rw [e] at e'
      cases e'
      cases o with
      | inst c fs =>
        simp only [deref, hs]
        exact h
      | cell w =>
        simp only [deref, hs]
        have h3 := ho.2
        exact TRep.mono (P := fun b o => b = a ∧ H b = some o) (fun _ _ h => h) (fun _ _ h => h) (fun b o r => r.2) _ _ h3
      | lk w =>
        simp only [deref, hs]
        exact h
  | _ => exact h
theorem VReps.len : ∀ {F : Hp} {ι : Nat → Option Addr} {xs : List Val} {us : List V}, VReps k F ι xs us → us.length = xs.length
  | _, _, [], _, h => by simp only [VReps] at h; subst h; rfl
  | _, _, x :: xs, _, h => by
    simp only [VReps] at h
    obtain ⟨u, r, e, _, h2⟩ := h
    subst e
    rw [List.length_cons, List.length_cons, VReps.len h2]
theorem VReps.get : ∀ {F : Hp} {ι : Nat → Option Addr} {xs : List Val} {us : List V} {i : Nat} {x : Val}, VReps k F ι xs us → xs[i]? = some x → ∃ u, us[i]? = some u ∧ VRep k F ι x u
  | _, _, [], _, i, x, h, e => by simp at e
  | _, _, y :: xs, _, 0, x, h, e => by
    simp only [VReps] at h
    obtain ⟨u, r, e2, h1, _⟩ := h
    subst e2
    simp at e
    subst e
    exact ⟨u, rfl, h1⟩
  | _, _, y :: xs, _, i + 1, x, h, e => by
    simp only [VReps] at h
    obtain ⟨u, r, e2, _, h2⟩ := h
    subst e2
    obtain ⟨w, e3, h3⟩ := VReps.get h2 (i := i) (x := x) (by simpa using e)
    exact ⟨w, by simpa using e3, h3⟩
theorem VReps.app {F : Hp} {ι : Nat → Option Addr} : ∀ {xs ys : List Val} {us ws : List V}, VReps k F ι xs us → VReps k F ι ys ws → VReps k F ι (xs ++ ys) (us ++ ws)
  | [], _, _, _, h, h' => by simp only [VReps] at h; subst h; exact h'
  | x :: xs, ys, _, ws, h, h' => by
    simp only [VReps] at h
    obtain ⟨u, r, e, h1, h2⟩ := h
    subst e
    show VReps _ _ _ (x :: (xs ++ ys)) _
    simp only [VReps]
    exact ⟨u, r ++ ws, rfl, h1, VReps.app h2 h'⟩
theorem VReps.one {F : Hp} {ι : Nat → Option Addr} {x : Val} {u : V} (h : VRep k F ι x u) : VReps k F ι [x] [u] := by
  simp only [VReps]
  exact ⟨u, [], rfl, h, rfl⟩
theorem VReps.ints {F : Hp} {ι : Nat → Option Addr} : ∀ {xs : List Val} {us : List V} {is : List Int}, VReps k F ι xs us → intsOf xs = some is → us = is.map V.int
  | [], _, is, h, e => by
    simp only [VReps] at h
    simp only [intsOf, Option.some.injEq] at e
    subst h e
    rfl
  | x :: xs, _, is, h, e => by
    simp only [VReps] at h
    obtain ⟨u, r, e2, h1, h2⟩ := h
    cases x <;> simp only [intsOf] at e <;> try cases e
    rename_i i
    split at e
    · rename_i is' q
      cases e
      simp only [VRep] at h1
      subst e2 h1
      rw [VReps.ints h2 q]
      rfl
    · cases e
theorem VReps.bools {F : Hp} {ι : Nat → Option Addr} : ∀ {xs : List Val} {us : List V} {is : List Bool}, VReps k F ι xs us → boolsOf xs = some is → us = is.map V.bl
  | [], _, is, h, e => by
    simp only [VReps] at h
    simp only [boolsOf, Option.some.injEq] at e
    subst h e
    rfl
  | x :: xs, _, is, h, e => by
    simp only [VReps] at h
    obtain ⟨u, r, e2, h1, h2⟩ := h
    cases x <;> simp only [boolsOf] at e <;> try cases e
    rename_i i
    split at e
    · rename_i is' q
      cases e
      simp only [VRep] at h1
      subst e2 h1
      rw [VReps.bools h2 q]
      rfl
    · cases e
theorem VReps.strs {F : Hp} {ι : Nat → Option Addr} : ∀ {xs : List Val} {us : List V} {is : List Str}, VReps k F ι xs us → strsOf xs = some is → us = is.map V.str
  | [], _, is, h, e => by
    simp only [VReps] at h
    simp only [strsOf, Option.some.injEq] at e
    subst h e
    rfl
  | x :: xs, _, is, h, e => by
    simp only [VReps] at h
    obtain ⟨u, r, e2, h1, h2⟩ := h
    cases x <;> simp only [strsOf] at e <;> try cases e
    rename_i i
    split at e
    · rename_i is' q
      cases e
      simp only [VRep] at h1
      subst e2 h1
      rw [VReps.strs h2 q]
      rfl
    · cases e
end
end Pv
end

section
set_option Elab.async false
set_option linter.all false
set_option maxRecDepth 100000
set_option autoImplicit false
/-! Pv4: expressions: names, constants, operators, comparisons, displays, subscripts. -/
namespace Pv
open PySem PySem.Spec PyProof.Rows L2

theorem szb_le {n : Nat} (h : szb n = true) : n ≤ 16777215 := of_decide_eq_true h
theorem sizeLine_val : sizeLine = 16777216 := by decide
theorem szb_line {n : Nat} (h : szb n = true) : n ≤ sizeLine := by
  have := szb_le h
  rw [sizeLine_val]
  omega
theorem szb_lt {n : Nat} (h : szb n = true) : n < sizeLine := by
  have := szb_le h
  rw [sizeLine_val]
  omega

section
variable {X : Cx} {J : Jx} {m : Md} {pos : Pos}

/-! ### names, constants -/
def modeOk : Mode → Md → Bool
  | .shr, .O => false
  | .shr, _ => true
  | .brw, .L => true
  | _, .B => true
  | _, .P => true
  | _, _ => false
theorem SRep.M {k : Kx} {g : Gh} {H : Hp} {i : Nat} {md : Mode} {v : Val} {u : V} (ok : modeOk md m = true) (h : SRep k g H i md v u) : MRep k g H m v u := by
  cases md with
  | shr =>
    refine MRep.V_any (fun e => ?_) h
    rw [e] at ok
    cases ok
  | brw => cases m <;> first | exact h | exact MRep.LB h | exact MRep.BP (MRep.LB h) | exact Bool.noConfusion ok
  | own =>
    have hB : MRep k g H .B v u := TRep.mono (fun _ _ h => h) (fun _ _ h => h) (fun a o r => ⟨by rw [r.1]; rfl, r.2⟩) _ _ h
    cases m <;> first | exact hB | exact MRep.BP hB | exact Bool.noConfusion ok
theorem s_v {i : Nat} {x : Str} (hN : X.N[i]? = some x) (hv : Vis X.env.scope x) (hd : (x == ("__debug__" : Str)) = false) (hcd : (x == ("__classdict__" : Str)) = false) (ok : modeOk (J.md.l.getD i .shr) m = true) :
    PE X (.Name x pos) (J.tE m (.v i)) := by
  refine PE.imp (pe_var hN hv hd hcd) fun σ H Q h => ?_
  obtain ⟨g, ρ, S, r, p⟩ := h
  simp only [evE] at p
  split at p
  · rename_i v e
    obtain ⟨u, e2, h2⟩ := r.slot i v e
    exact ⟨u, e2, p u g H r Step.refl (h2.M ok)⟩
  · exact p.elim
def cnV' : Cn → V
  | .non => .non
  | .bl b => .bl b
  | .int i => .int i
  | .str s => .str s
theorem cn_rep {k : Kx} {g : Gh} {H : Hp} (c : Cn) : MRep k g H m (cnV c) (cnV' c) := by
  cases c
  · exact MRep.non
  · exact MRep.bl _
  · exact MRep.int _
  · exact MRep.str _
def cnC : Cn → Const
  | .non => .none
  | .bl b => .bool b
  | .int i => .int i
  | .str s => .str s
theorem s_k {c : Cn} {cc : Const} {kk : Nat} (h : cc = cnC c) : PE X (.Constant cc kk pos) (J.tE m (.k c)) := by
  have key : ∀ σ H Q, J.tE m (.k c) σ H Q → Q (cnV' c) H := fun σ H Q h => by
    obtain ⟨g, ρ, S, r, p⟩ := h
    simp only [evE] at p
    exact p _ g H r Step.refl (cn_rep c)
  subst h
  cases c with
  | non => exact PE.imp pe_non key
  | bl b => exact PE.imp pe_bl key
  | int i => exact PE.imp pe_int key
  | str s => exact PE.imp pe_str key
/-- a module's constant: an int, a text -/
theorem s_gl {x : Str} {c : Cn} {u : Value} (hg : Gl X x) (hm : X.mg x = some u) (r : RelV (cnV' c) u) (hd : (x == ("__debug__" : Str)) = false) : PE X (.Name x pos) (J.tE m (.gl x (cnV c))) :=
  PE.imp (pe_glob hg hm r hd) fun σ H Q h => by
    obtain ⟨g, ρ, S, r, p⟩ := h
    simp only [evE] at p
    exact p _ g H r Step.refl (cn_rep c)

/-! ### two operands, by a rule of values -/
theorem two_at {r : R2} {m1 m2 : Md} {a b : E} {comb : Store → Val → Val → R Val} {g : Gh} {H : Hp} {σ : L2.St} {ρ : Env} {S : Store} {Q : VK} (hm1 : m1 = .V ∨ m1 = .B ∨ (m1 = .P ∧ pureE b = true)) (rl : Rel J.k J.md g σ H ρ S)
    (p : J.Post m (pureE a && (pureE b && true)) g H σ ρ ((evE J.x a ρ S).bind fun v S1 => (evE J.x b ρ S1).bind fun w S2 => comb S2 v w) Q)
    (hr : ∀ g' H' v S1 w S2 u1 u2, evE J.x a ρ S = .ok v S1 → evE J.x b ρ S1 = .ok w S2 → Rel J.k J.md g' σ H' ρ S2 → MRep J.k g' H' m1 v u1 → MRep J.k g' H' m2 w u2 → J.Post m true g' H' σ ρ (comb S2 v w) Q → r u1 u2 H' Q) : tOp r (J.tE m1 a) (J.tE m2 b) σ H Q := by
  refine tE_bind (q2 := pureE b && true) rl p fun v S1 u1 g1 H1 e1 r1 mr1 p1 => ?_
  refine ⟨g1, ρ, S1, r1, ?_⟩
  cases ev2 : evE J.x b ρ S1 with
  | ok w S2 =>
    rw [ev2] at p1
    intro u2 g2 H2 r2 st mr2
    have mr1' : MRep J.k g2 H2 m1 v u1 := by
      rcases hm1 with rfl | rfl | ⟨rfl, hp⟩
      · exact st.mV mr1
      · exact st.mB mr1
      · rw [hp] at st
        exact st.mP mr1
    exact hr g2 H2 v S1 w S2 u1 u2 e1 ev2 r2 mr1' mr2 (post_after (q1 := pureE b) (q2 := true) p1 st)
  | exn c S2 =>
    rw [ev2] at p1
    exact p1
  | stuck =>
    rw [ev2] at p1
    exact p1
theorem two_of {r : R2} {m1 m2 : Md} {e a b : E} {comb : Store → Val → Val → R Val} (hm1 : m1 = .V ∨ m1 = .B ∨ (m1 = .P ∧ pureE b = true))
    (ev : ∀ ρ S, evE J.x e ρ S = (evE J.x a ρ S).bind fun v S1 => (evE J.x b ρ S1).bind fun w S2 => comb S2 v w) (hq : pureE e = (pureE a && (pureE b && true)))
    (hr : ∀ g H σ ρ S v w u1 u2 (Q : VK), Rel J.k J.md g σ H ρ S → MRep J.k g H m1 v u1 → MRep J.k g H m2 w u2 → J.Post m true g H σ ρ (comb S v w) Q → r u1 u2 H Q) (σ : L2.St) (H : Hp) (Q : VK) (h : J.tE m e σ H Q) : tOp r (J.tE m1 a) (J.tE m2 b) σ H Q := by
  obtain ⟨g, ρ, S, rl, p⟩ := h
  rw [ev, hq] at p
  exact two_at hm1 rl p fun g' H' v S1 w S2 u1 u2 _ _ r1 h1 h2 p1 => hr g' H' σ ρ S2 v w u1 u2 Q r1 h1 h2 p1

/-! ### + - * // % ** -/
theorem rdL {pins : List (Addr × Obj)} {σ : L2.St} {H : Hp} {s : Shared} {a : Addr} {xs : List V} (I : Inv X pins σ H s) (h : Rd H a (.lst xs)) : ∃ (its : List Value) (n : Nat), xs.length ≤ sizeLine ∧ Vals xs its ∧ s.heap.get? a = some { cls := .type "list", data := .seq its.toArray n } := by
  obtain ⟨z, its, n, r, e⟩ := h.ok I.hok
  exact ⟨its, n, z, r, e⟩
def rCatR : R2 := fun x y H Q => ∃ l b xs zs, x = .ref l ∧ y = .ref b ∧ Rd H l (.lst xs) ∧ Rd H b (.lst zs) ∧ xs.length + zs.length ≤ sizeLine ∧ ∀ p, H p = none → Q (.ref p) (upd H p (.lst (xs ++ zs)))
theorem op_catR : OpR X (binaryOp .Add) rCatR := by
  intro pins s σ H x y v u Q I rx ry h
  obtain ⟨l, b, xs, zs, rfl, rfl, hH, hB, hz, q⟩ := h
  cases rx
  cases ry
  obtain ⟨its, n, z, r, e⟩ := rdL I hH
  obtain ⟨its2, n2, z2, r2, e2⟩ := rdL I hB
  have hl := r.length
  have hl2 := r2.length
  refine PySem.P.add_list e e2 ?_ (by rw [List.size_toArray, List.size_toArray]; omega)
  have ea : its.toArray ++ its2.toArray = (its ++ its2).toArray := by simp
  rw [ea]
  exact ⟨.ref _, _, I.lnew (t' := s.toks) (r.append r2) (by rw [List.length_append]; omega), rfl, q _ I.fresh⟩
def CMulP (i j : Int) : Prop := mulOk i j = true
theorem CMulP.ok {i j : Int} (h : CMulP i j) : IntMulOk i j := by
  have b : ∀ x : Int, Builtin.Int.intBits x ≤ x.natAbs.log2 + 1 := fun x => by
    unfold Builtin.Int.intBits
    split <;> omega
  have b64 : ∀ x : Int, x.natAbs < 2 ^ 64 → Builtin.Int.intBits x ≤ 64 := fun x hx => by
    have h1 := b x
    have h2 : x.natAbs.log2 < 64 := by
      by_cases h0 : x.natAbs = 0
      · rw [h0]
        decide
      · exact (Nat.log2_lt h0).mpr hx
    omega
  unfold CMulP mulOk at h
  rw [Bool.or_eq_true, Bool.or_eq_true] at h
  rcases h with (h | h) | h
  · exact .of_left (b64 _ (of_decide_eq_true h))
  · exact .of_right (b64 _ (of_decide_eq_true h))
  · have h3 := of_decide_eq_true h
    have h1 := b i
    have h2 := b j
    have e : bitsLine = 134217728 := by decide
    unfold IntMulOk
    intro z
    rw [Bool.and_eq_true] at z
    have z2 := z.2
    unfold Builtin.Int.intTooBig at z2
    have z3 := of_decide_eq_true z2
    rw [e] at z3
    omega
theorem op_mulP : OpR X (binaryOp .Mult) (rI CMulP fun i j => .int (i * j)) := opI fun _ _ _ _ _ _ _ hc q => mul_int q hc.ok
def CDivP (_ j : Int) : Prop := j ≠ 0 ∧ j.natAbs.log2 < 9000
theorem op_fdivP : OpR X (binaryOp .FloorDiv) (rI CDivP fun i j => .int (i.fdiv j)) := opI fun i j _ _ _ _ _ hc q => floordiv_int hc.1 q (.inl (PyProof.noPylong_of_log2 hc.2))
def opS : Op → Operator
  | .add => .Add
  | .sub => .Sub
  | .mul => .Mult
  | .fdiv => .FloorDiv
  | .mod => .Mod
  | .pow => .Pow
def rOps (K : PySem.W.Frag) : Op → R2
  | .add => fun x y H Q => rI0 (fun i j => .int (i + j)) x y H Q ∨ (∃ i j, x = .str i ∧ y = .str j ∧ i.length + j.length ≤ sizeLine ∧ Q (.str (i ++ j)) H) ∨ rCatR x y H Q ∨ rCatT K x y H Q
  | .sub => rI0 fun i j => .int (i - j)
  | .mul => rI CMulP fun i j => .int (i * j)
  | .fdiv => rI CDivP fun i j => .int (i.fdiv j)
  | .mod => fun x y H Q => rI (fun _ j => 0 < j) (fun i j => .int (i % j)) x y H Q ∨ rI (fun _ j => j ≠ 0) (fun i j => .int (i.fmod j)) x y H Q
  | .pow => rI CPow fun i j => .int (i ^ j.toNat)
theorem opr_ops (o : Op) : OpR X (binaryOp (opS o)) (rOps X.K o) := by
  cases o
  · exact op_add.or (op_add_str.or (op_catR.or op_catT))
  · exact op_sub
  · exact op_mulP
  · exact op_fdivP
  · exact op_mod.or op_modN
  · exact op_pow

theorem op2_r {o : Op} {g : Gh} {H : Hp} {σ : L2.St} {ρ : Env} {S : Store} {v w : Val} {u1 u2 : V} {Q : VK} {K : PySem.W.Frag} (r : Rel J.k J.md g σ H ρ S) (h1 : RRep J.k g H v u1) (h2 : RRep J.k g H w u2)
    (p : J.Post m true g H σ ρ (R.of (op2 o v w) S) Q) : rOps K o u1 u2 H Q := by
  cases e : op2 o v w with
  | none =>
    rw [e] at p
    exact p.elim
  | some z =>
    rw [e] at p
    simp only [R.of] at p
    unfold op2 at e
    split at e
    · cases e
      rw [h1.int_of, h2.int_of]
      exact .inl ⟨_, _, rfl, rfl, fin_V r (fun m => MRep.int _) p⟩
    · split at e
      · cases e
        rename_i hz
        rw [h1.str_of, h2.str_of]
        exact .inr (.inl ⟨_, _, rfl, rfl, szb_line hz, fin_V r (fun m => MRep.str _) p⟩)
      · cases e
    · split at e
      · cases e
        rename_i hz
        obtain ⟨a, us, rfl, ha, hs⟩ := h1.lst_of
        obtain ⟨b, ws, rfl, hb, ht⟩ := h2.lst_of
        refine .inr (.inr (.inl ⟨a, b, us, ws, rfl, rfl, .inl ha, .inl hb, ?_, fin_lst r (hs.app ht) p⟩))
        rw [hs.len, ht.len]
        exact szb_line hz
      · cases e
    · split at e
      · cases e
        rename_i x xs ys hz
        obtain ⟨a, us, rfl, ha, ta, hs⟩ := h1.tup_of
        obtain ⟨b, ws, rfl, hb, tb, ht⟩ := h2.tup_of
        have hl := hs.len
        have hl2 := ht.len
        refine .inr (.inr (.inr ⟨a, b, us, ws, rfl, rfl, SqT.of ha, SqT.of hb, ?_, ?_, fun ew => ?_, fun _ => fin_tup r (hs.app ht) p⟩))
        · intro z
          rw [z] at hl
          cases hl
        · rw [hl, hl2]
          exact szb_line hz
        · subst ew
          have : ys = [] := by
            cases ys with
            | nil => rfl
            | cons _ _ => cases hl2
          subst this
          refine fin_V r (fun m => ?_) p
          refine MRep.of_V ?_ fun h => h
          rw [List.append_nil]
          simp only [VRep]
          exact ⟨a, us, rfl, fzP_of ta ha, hs⟩
      · cases e
    · cases e
      rw [h1.int_of, h2.int_of]
      exact ⟨_, _, rfl, rfl, fin_V r (fun m => MRep.int _) p⟩
    · split at e
      · cases e
        rename_i hz
        rw [h1.int_of, h2.int_of]
        exact ⟨_, _, rfl, rfl, hz, fin_V r (fun m => MRep.int _) p⟩
      · cases e
    · split at e
      · cases e
      · rename_i i j h0
        split at e
        · rename_i hl
          have key : z = .int (Int.fdiv i j) := by
            split at e
            · rename_i hp
              rw [Int.fdiv_eq_ediv_of_nonneg _ (Int.le_of_lt hp)]
              exact (Option.some.inj e).symm
            · exact (Option.some.inj e).symm
          subst key
          rw [h1.int_of, h2.int_of]
          exact ⟨_, _, rfl, rfl, ⟨h0, hl⟩, fin_V r (fun m => MRep.int _) p⟩
        · cases e
    · split at e
      · cases e
        rename_i hp
        rw [h1.int_of, h2.int_of]
        exact .inl ⟨_, _, rfl, rfl, hp, fin_V r (fun m => MRep.int _) p⟩
      · split at e
        · cases e
          rename_i hp
          rw [h1.int_of, h2.int_of]
          exact .inr ⟨_, _, rfl, rfl, by omega, fin_V r (fun m => MRep.int _) p⟩
        · cases e
    · split at e
      · cases e
        rename_i hp
        rw [h1.int_of, h2.int_of]
        exact ⟨_, _, rfl, rfl, hp, fin_V r (fun m => MRep.int _) p⟩
      · cases e
    · cases e
theorem s_op2 {o : Op} {a b : Expr} {ia ib : E} (ha : PE X a (J.tE .B ia)) (hb : PE X b (J.tE .B ib)) : PE X (.BinOp a (opS o) b pos) (J.tE m (.op2 o ia ib)) := by
  refine PE.imp (pe_op (opr_ops o) ha hb) ?_
  refine two_of (comb := fun S2 v w => R.of (op2 o (deref S2 v) (deref S2 w)) S2) (.inr (.inl rfl)) (fun ρ S => by simp only [evE]) (by simp only [pureE, Bool.and_true]) fun g H σ ρ S v w u1 u2 Q r h1 h2 p => ?_
  exact op2_r r (deref_R r.str h1.R) (deref_R r.str h2.R) p
end
end Pv
end

section
set_option Elab.async false
set_option linter.all false
set_option maxRecDepth 100000
set_option autoImplicit false
/-! Pv5: data, comparisons. -/
namespace Pv
open PySem PySem.Spec PyProof.Rows L2

mutual
def toD : Val → PyData
  | .non => .none
  | .bl b => .bool b
  | .int i => .int i
  | .str s => .str s
  | .tup xs => .tuple (toDs xs)
  | .lst xs => .list (toDs xs)
  | _ => .none
def toDs : List Val → List PyData
  | [] => []
  | x :: xs => toD x :: toDs xs
end
theorem toDs_map : ∀ xs : List Val, toDs xs = xs.map toD
  | [] => by simp only [toDs]; rfl
  | x :: xs => by simp only [toDs, toDs_map xs, List.map_cons]
section
variable {k : Kx} {g : Gh} {H : Hp} {K : PySem.W.Frag}
theorem fz_rd {a : Addr} {o : HO} (h : fzP g H a = some o) : Rd H a o := .inl (fzP_some h).2
mutual
theorem dp_of : ∀ (n : Nat) (v : Val) (u : V), VRep k (fzP g H) g.ι v u → dataOk n v = true → Dp K H u (toD v)
  | 0, v, u, _, d => by simp [dataOk] at d
  | n + 1, .non, u, h, d => by simp only [VRep] at h; subst h; simp only [toD]; exact .non
  | n + 1, .bl b, u, h, d => by simp only [VRep] at h; subst h; simp only [toD]; exact .bl b
  | n + 1, .int i, u, h, d => by simp only [VRep] at h; subst h; simp only [toD]; exact .int i
  | n + 1, .str s, u, h, d => by simp only [VRep] at h; subst h; simp only [toD]; exact .str s
  | n + 1, .tup xs, u, h, d => by
    simp only [VRep] at h
    obtain ⟨a, us, rfl, ha, hs⟩ := h
    simp only [toD]
    simp only [dataOk] at d
    exact .tup (SqT.of (fzP_some ha).2) (dps_of n xs us hs d)
  | n + 1, .lst xs, u, h, d => by
    simp only [VRep] at h
    obtain ⟨a, us, rfl, ha, hs⟩ := h
    simp only [toD]
    simp only [dataOk] at d
    exact .lst (.inl (fz_rd ha)) (dps_of n xs us hs d)
  | n + 1, .dK _, u, h, d => by simp [dataOk] at d
  | n + 1, .dT _, u, h, d => by simp [dataOk] at d
  | n + 1, .obj _ _, u, h, d => by simp [dataOk] at d
  | n + 1, .ref _, u, h, d => by simp [dataOk] at d
  | n + 1, .exc _, u, h, d => by simp [dataOk] at d
  | n + 1, .scr _, u, h, d => by simp [dataOk] at d
theorem dps_of : ∀ (n : Nat) (xs : List Val) (us : List V), VReps k (fzP g H) g.ι xs us → dataOks n xs = true → DpAll K H us (toDs xs)
  | n, [], us, h, d => by simp only [VReps] at h; subst h; simp only [toDs]; exact .nil
  | n, x :: xs, us, h, d => by
    simp only [VReps] at h
    obtain ⟨u, r, rfl, h1, h2⟩ := h
    simp only [dataOks, Bool.and_eq_true] at d
    simp only [toDs]
    exact .cons (dp_of n x u h1 d.1) (dps_of n xs r h2 d.2)
end
theorem dp_R {n : Nat} {v : Val} {u : V} (h : RRep k g H v u) (d : dataOk n v = true) : Dp K H u (toD v) := by
  cases v with
  | lst xs =>
    obtain ⟨a, us, rfl, ha, hs⟩ := h.lst_of
    cases n with
    | zero => simp [dataOk] at d
    | succ n =>
      simp only [dataOk] at d
      simp only [toD]
      exact .lst (.inl (.inl ha)) (dps_of n xs us hs d)
  | dK _ => cases n <;> simp [dataOk] at d
  | dT _ => cases n <;> simp [dataOk] at d
  | _ => exact dp_of (k := k) (g := g) n _ u h d
mutual
theorem toD_lay : ∀ (n : Nat) (v : Val), dataOk n v = true → (toD v).canLay0 = true ∧ (toD v).depth ≤ n
  | 0, v, d => by simp [dataOk] at d
  | n + 1, .non, d => by simp only [toD]; exact ⟨by simp only [PyData.canLay0], by simp only [PyData.depth]; omega⟩
  | n + 1, .bl b, d => by simp only [toD]; exact ⟨by simp only [PyData.canLay0], by simp only [PyData.depth]; omega⟩
  | n + 1, .int i, d => by simp only [toD]; exact ⟨by simp only [PyData.canLay0], by simp only [PyData.depth]; omega⟩
  | n + 1, .str s, d => by simp only [toD]; simp only [dataOk] at d; exact ⟨by simp only [PyData.canLay0]; exact d, by simp only [PyData.depth]; omega⟩
  | n + 1, .tup xs, d => by
    simp only [toD]
    simp only [dataOk] at d
    obtain ⟨h1, h2⟩ := toDs_lay n xs d
    exact ⟨by simp only [PyData.canLay0]; exact h1, by simp only [PyData.depth]; omega⟩
  | n + 1, .lst xs, d => by
    simp only [toD]
    simp only [dataOk] at d
    obtain ⟨h1, h2⟩ := toDs_lay n xs d
    exact ⟨by simp only [PyData.canLay0]; exact h1, by simp only [PyData.depth]; omega⟩
  | n + 1, .dK _, d => by simp [dataOk] at d
  | n + 1, .dT _, d => by simp [dataOk] at d
  | n + 1, .obj _ _, d => by simp [dataOk] at d
  | n + 1, .ref _, d => by simp [dataOk] at d
  | n + 1, .exc _, d => by simp [dataOk] at d
  | n + 1, .scr _, d => by simp [dataOk] at d
theorem toDs_lay : ∀ (n : Nat) (xs : List Val), dataOks n xs = true → PyData.canLayAll0 (toDs xs) = true ∧ PyData.depthAll (toDs xs) ≤ n
  | n, [], d => by simp only [toDs]; exact ⟨by simp only [PyData.canLayAll0], by simp only [PyData.depthAll]; omega⟩
  | n, x :: xs, d => by
    simp only [dataOks, Bool.and_eq_true] at d
    obtain ⟨h1, h2⟩ := toD_lay n x d.1
    obtain ⟨h3, h4⟩ := toDs_lay n xs d.2
    simp only [toDs]
    exact ⟨by simp only [PyData.canLayAll0, Bool.and_eq_true]; exact ⟨h1, h3⟩, by simp only [PyData.depthAll]; omega⟩
end
theorem shaped_of {n : Nat} {v : Val} (hn : n ≤ 64) (d : dataOk n v = true) : SeqAt.shaped (toD v) = true := by
  obtain ⟨h1, h2⟩ := toD_lay n v d
  unfold SeqAt.shaped
  rw [Bool.and_eq_true]
  exact ⟨h1, decide_eq_true (by omega)⟩
mutual
theorem eqv_toD : ∀ (n m : Nat) (v w : Val), dataOk n v = true → dataOk m w = true → PyData.eqv (toD v) (toD w) = eqv v w
  | 0, _, v, _, d, _ => by simp [dataOk] at d
  | n + 1, 0, v, w, _, d => by simp [dataOk] at d
  | n + 1, m + 1, .tup xs, w, d, d2 => by
    cases w <;> simp only [dataOk] at d2 <;> simp only [toD, PyData.eqv, eqv] <;> first | exact eqvs_toD n m xs _ (by simpa only [dataOk] using d) d2 | exact Bool.noConfusion d2
  | n + 1, m + 1, .lst xs, w, d, d2 => by
    cases w <;> simp only [dataOk] at d2 <;> simp only [toD, PyData.eqv, eqv] <;> first | exact eqvs_toD n m xs _ (by simpa only [dataOk] using d) d2 | exact Bool.noConfusion d2
  | n + 1, m + 1, .non, w, d, d2 => by cases w <;> simp only [dataOk] at d2 <;> simp only [toD, PyData.eqv, eqv] <;> exact Bool.noConfusion d2
  | n + 1, m + 1, .bl b, w, d, d2 => by cases w <;> simp only [dataOk] at d2 <;> simp only [toD, PyData.eqv, eqv] <;> first | (simp [beq_eq_decide]; done) | exact Bool.noConfusion d2 | (cases b <;> rfl) | skip
  | n + 1, m + 1, .int i, w, d, d2 => by cases w <;> simp only [dataOk] at d2 <;> simp only [toD, PyData.eqv, eqv] <;> first | exact Bool.noConfusion d2 | exact Bool.beq_eq_decide_eq _ _ | skip
  | n + 1, m + 1, .str s, w, d, d2 => by cases w <;> simp only [dataOk] at d2 <;> simp only [toD, PyData.eqv, eqv] <;> first | exact Bool.noConfusion d2 | exact Bool.beq_eq_decide_eq _ _ | skip
  | n + 1, _, .dK _, w, d, _ => by simp [dataOk] at d
  | n + 1, _, .dT _, w, d, _ => by simp [dataOk] at d
  | n + 1, _, .obj _ _, w, d, _ => by simp [dataOk] at d
  | n + 1, _, .ref _, w, d, _ => by simp [dataOk] at d
  | n + 1, _, .exc _, w, d, _ => by simp [dataOk] at d
  | n + 1, _, .scr _, w, d, _ => by simp [dataOk] at d
theorem eqvs_toD : ∀ (n m : Nat) (xs ys : List Val), dataOks n xs = true → dataOks m ys = true → PyData.eqvAll (toDs xs) (toDs ys) = eqvs xs ys
  | _, _, [], [], _, _ => by simp only [toDs, PyData.eqvAll, eqvs]
  | _, _, [], _ :: _, _, _ => by simp only [toDs, PyData.eqvAll, eqvs]
  | _, _, _ :: _, [], _, _ => by simp only [toDs, PyData.eqvAll, eqvs]
  | n, m, x :: xs, y :: ys, d, d2 => by
    simp only [dataOks, Bool.and_eq_true] at d d2
    simp only [toDs, PyData.eqvAll, eqvs]
    rw [eqv_toD n m x y d.1 d2.1, eqvs_toD n m xs ys d.2 d2.2]
end
end
end Pv
end

section
set_option Elab.async false
set_option linter.all false
set_option maxRecDepth 100000
set_option autoImplicit false
/-! Pv6: comparisons, truth, and, or, not. -/
namespace Pv
open PySem PySem.Spec PyProof.Rows L2

def cpS : Cp → CmpOp
  | .lt => .Lt
  | .le => .LtE
  | .gt => .Gt
  | .ge => .GtE
  | .eq => .Eq
  | .ne => .NotEq
  | .isn => .Is
  | .isnt => .IsNot
  | .inn => .In
  | .notin => .NotIn
def rCp (K : PySem.W.Frag) : Cp → R2
  | .lt => rI0 fun i j => .bl (decide (i < j))
  | .le => rI0 fun i j => .bl (decide (i ≤ j))
  | .gt => rI0 fun i j => .bl (decide (j < i))
  | .ge => rI0 fun i j => .bl (decide (j ≤ i))
  | .eq => fun x y H Q => rEq x y H Q ∨ rEqD K x y H Q
  | .ne => fun x y H Q => rNe x y H Q ∨ rNeD K x y H Q
  | .isn => fun x y H Q => (y = .non ∧ Q (.bl (decide (x = .non))) H) ∨ rIsB x y H Q
  | .isnt => fun x y H Q => (y = .non ∧ Q (.bl (!decide (x = .non))) H) ∨ rNotB x y H Q
  | .inn => fun x y H Q => rIn K false x y H Q ∨ rInD K x y H Q ∨ rInS x y H Q
  | .notin => fun x y H Q => rIn K true x y H Q ∨ rNotInD K x y H Q ∨ rNotInS x y H Q
section
variable {X : Cx} {J : Jx} {m : Md} {pos : Pos}
theorem opr_cp (hu : X.A.units + 65 < cLine) (c : Cp) : OpR X (compareOp (cpS c)) (rCp X.K c) := by
  cases c
  · exact op_lt
  · exact op_le
  · exact op_gt
  · exact op_ge
  · exact op_eq.or (op_eqD (by omega))
  · exact op_ne.or (op_neD (by omega))
  · exact op_isN.or op_isBl
  · exact op_notN.or op_notBl
  · exact op_in_seq.or ((op_inD hu).or op_inS)
  · exact op_notIn_seq.or ((op_notInD hu).or op_notInS)
def isDct : Val → Bool
  | .dK _ => true
  | .dT _ => true
  | _ => false
section
variable {k : Kx} {g : Gh} {H : Hp}
theorem V_none_iff {F : Hp} {ι : Nat → Option Addr} {v : Val} {u : V} (h : VRep k F ι v u) : decide (u = .non) = isNonB v := by
  cases v <;> simp only [VRep] at h
  case non => subst h; rfl
  case bl => subst h; rfl
  case int => subst h; rfl
  case str => subst h; rfl
  case tup => obtain ⟨a, us, rfl, _⟩ := h; rfl
  case lst => obtain ⟨a, us, rfl, _⟩ := h; rfl
  case dK => obtain ⟨a, us, rfl, _⟩ := h; rfl
  case dT => obtain ⟨a, us, rfl, _⟩ := h; rfl
  case obj => obtain ⟨a, dx, us, rfl, _⟩ := h; rfl
  case ref => obtain ⟨a, _, rfl⟩ := h; rfl
  case exc => obtain ⟨a, rfl⟩ := h; rfl
  case scr => obtain ⟨a, rfl, _⟩ := h; rfl
theorem R_none_iff {v : Val} {u : V} (h : RRep k g H v u) : decide (u = .non) = isNonB v := by
  cases v with
  | lst xs => obtain ⟨a, us, rfl, _⟩ := h.lst_of; rfl
  | dK xs => obtain ⟨a, us, rfl, _⟩ := h.dK_of; rfl
  | dT xs => obtain ⟨a, us, rfl, _⟩ := h.dT_of; rfl
  | _ => exact V_none_iff (k := k) (F := fzP g H) (ι := g.ι) h
theorem eq_r {K : PySem.W.Frag} {v w : Val} {u1 u2 : V} {b : Bool} (h1 : RRep k g H v u1) (h2 : RRep k g H w u2) (e : eqV v w = some b) :
    (scal u1 u2 = true ∧ decide (u1 = u2) = b) ∨ ∃ d d', Dp K H u1 d ∧ Dp K H u2 d' ∧ SeqAt.shaped d = true ∧ SeqAt.shaped d' = true ∧ PyData.eqv d d' = b := by
  unfold eqV at e
  split at e
  · left
    cases e
    rw [h1.str_of, h2.str_of]
    refine ⟨rfl, ?_⟩
    rw [dec_str]
    exact Bool.beq_eq_decide_eq _ _
  · split at e
    · rename_i hd
      cases e
      right
      exact ⟨_, _, dp_R h1 hd.1, dp_R h2 hd.2, shaped_of (by decide) hd.1, shaped_of (by decide) hd.2, eqv_toD 60 60 _ _ hd.1 hd.2⟩
    · cases e
theorem flat_of {v : Val} {u : V} {F : Hp} {ι : Nat → Option Addr} (h : VRep k F ι v u) (hf : flatB v = true) : flatV u = true := by
  cases v <;> simp only [VRep] at h <;> first
    | (subst h; rfl)
    | exact Bool.noConfusion hf
theorem flat_eqv {v w : Val} {u1 u2 : V} {F : Hp} {ι : Nat → Option Addr} (h1 : VRep k F ι v u1) (h2 : VRep k F ι w u2) (f1 : flatB v = true) (f2 : flatB w = true) : L2.eqV u1 u2 = eqv v w := by
  cases v <;> (try exact Bool.noConfusion f1) <;> cases w <;> (try exact Bool.noConfusion f2) <;> simp only [VRep] at h1 h2 <;> subst h1 h2 <;> simp only [L2.eqV, eqv, Bool.beq_eq_decide_eq]
theorem flats_in {v : Val} {u : V} {F : Hp} {ι : Nat → Option Addr} (h1 : VRep k F ι v u) (f1 : flatB v = true) : ∀ {xs : List Val} {us : List V}, VReps k F ι xs us → xs.all flatB = true → us.all flatV = true ∧ (us.any fun y => L2.eqV y u) = xs.any fun x => eqv x v
  | [], _, h, _ => by simp only [VReps] at h; subst h; exact ⟨rfl, rfl⟩
  | x :: xs, _, h, f => by
    simp only [VReps] at h
    obtain ⟨w, r, rfl, h2, h3⟩ := h
    simp only [List.all_cons, Bool.and_eq_true] at f
    obtain ⟨i1, i2⟩ := flats_in h1 f1 h3 f.2
    refine ⟨by simp only [List.all_cons, Bool.and_eq_true]; exact ⟨flat_of h2 f.1, i1⟩, ?_⟩
    simp only [List.any_cons]
    rw [i2, flat_eqv h2 h1 f.1 f1]
theorem all_data {n : Nat} : ∀ {xs : List Val}, xs.all (dataOk n) = true → dataOks n xs = true
  | [], _ => by simp only [dataOks]
  | x :: xs, h => by
    simp only [List.all_cons, Bool.and_eq_true] at h
    simp only [dataOks, Bool.and_eq_true]
    exact ⟨h.1, all_data h.2⟩
theorem any_toD {v : Val} (d : dataOk 60 v = true) : ∀ {xs : List Val}, xs.all (dataOk 60) = true → ((toDs xs).any fun z => PyData.eqv z (toD v)) = xs.any fun x => eqv x v
  | [], _ => by simp only [toDs]; rfl
  | x :: xs, h => by
    simp only [List.all_cons, Bool.and_eq_true] at h
    simp only [toDs, List.any_cons]
    rw [any_toD d h.2, eqv_toD 60 60 _ _ h.1 d]
/-- what in asks, of no dict -/
theorem in_r {K : PySem.W.Frag} {v w : Val} {u1 u2 : V} {b : Bool} {Q : VK} (neg : Bool) (h1 : RRep k g H v u1) (h2 : RRep k g H w u2) (e : inV v w = some b) (hd : isDct w = false) (q : Q (.bl (if neg then !b else b)) H) :
    rIn K neg u1 u2 H Q ∨ (∃ d ds, Dp K H u1 d ∧ Dp K H u2 (.list ds) ∧ SeqAt.shaped d = true ∧ SeqAt.shaped (.list ds) = true ∧ Q (.bl (if neg then !(ds.any fun z => PyData.eqv z d) else ds.any fun z => PyData.eqv z d)) H) ∨
      ∃ (c : Nat) (z : Str), u1 = .str ⟨#[c]⟩ ∧ u2 = .str z ∧ Q (.bl (if neg then !decide (c ∈ z.cps.toList) else decide (c ∈ z.cps.toList))) H := by
  unfold inV at e
  split at e
  · rename_i xs
    split at e
    · rename_i hx
      cases e
      right; left
      have hl : dataOk 61 (.lst xs) = true := by
        simp only [dataOk]
        exact all_data hx.2
      have d2 := dp_R (K := K) h2 hl
      have s2 := shaped_of (by decide) hl
      simp only [toD] at d2 s2
      refine ⟨_, _, dp_R h1 hx.1, d2, shaped_of (by decide) hx.1, s2, ?_⟩
      rw [any_toD hx.1 hx.2]
      exact q
    · cases e
  · rename_i xs
    split at e
    · rename_i hx
      cases e
      left
      obtain ⟨a, us, rfl, ha, ta, hs⟩ := h2.tup_of
      have h1' : VRep k (fzP g H) g.ι v u1 := by
        have f := hx.1
        cases v <;> first | exact h1 | exact Bool.noConfusion f
      obtain ⟨i1, i2⟩ := flats_in h1' hx.1 hs hx.2
      refine ⟨a, us, rfl, .inr (SqT.of ha), flat_of h1' hx.1, i1, ?_⟩
      unfold L2.inV
      rw [i2]
      exact q
    · cases e
  · cases hd
  · cases hd
  · rename_i s
    split at e
    · rename_i t
      split at e
      · rename_i hl
        cases e
        right; right
        rw [h1.str_of, h2.str_of]
        refine ⟨t.cps.getD 0 0, s, ?_, rfl, ?_⟩
        · obtain ⟨c⟩ := t
          have : c.size = 1 := hl
          obtain ⟨x, hx⟩ := Array.size_eq_one_iff.mp this
          subst hx
          rfl
        · have e2 : (s.cps.toList.contains (t.cps.getD 0 0)) = decide (t.cps.getD 0 0 ∈ s.cps.toList) := by
            rw [Bool.eq_iff_iff]
            simp
          rw [e2] at q
          exact q
      · cases e
    · cases e
  · cases e
/-- what a comparison asks, but in of a dict -/
theorem cp_r {K : PySem.W.Frag} {c : Cp} {v w : Val} {u1 u2 : V} {b : Bool} {Q : VK} (h1 : RRep k g H v u1) (h2 : RRep k g H w u2) (e : cpV c v w = some b) (hd : (c = .inn ∨ c = .notin) → isDct w = false) (q : Q (.bl b) H) : rCp K c u1 u2 H Q := by
  unfold cpV at e
  split at e
  · cases e; rw [h1.int_of, h2.int_of]; exact ⟨_, _, rfl, rfl, q⟩
  · cases e; rw [h1.int_of, h2.int_of]; exact ⟨_, _, rfl, rfl, q⟩
  · cases e; rw [h1.int_of, h2.int_of]; exact ⟨_, _, rfl, rfl, q⟩
  · cases e; rw [h1.int_of, h2.int_of]; exact ⟨_, _, rfl, rfl, q⟩
  · rcases eq_r (K := K) h1 h2 e with ⟨hs, rfl⟩ | ⟨d, d', p1, p2, p3, p4, rfl⟩
    · exact .inl ⟨hs, q⟩
    · exact .inr ⟨d, d', p1, p2, p3, p4, q⟩
  · cases e2 : eqV v w with
    | none => rw [e2] at e; cases e
    | some b' =>
      rw [e2] at e
      cases e
      rcases eq_r (K := K) h1 h2 e2 with ⟨hs, rfl⟩ | ⟨d, d', p1, p2, p3, p4, rfl⟩
      · exact .inl ⟨hs, q⟩
      · exact .inr ⟨d, d', p1, p2, p3, p4, q⟩
  · unfold isV at e
    split at e
    · cases e
      rw [h2.non_of]
      refine .inl ⟨rfl, ?_⟩
      rw [R_none_iff h1]
      exact q
    · cases e
      rw [h1.bl_of, h2.bl_of]
      refine .inr ⟨_, _, rfl, rfl, ?_⟩
      rw [← Bool.beq_eq_decide_eq]
      exact q
    · cases e
  · cases e2 : isV v w with
    | none => rw [e2] at e; cases e
    | some b' =>
      rw [e2] at e
      cases e
      unfold isV at e2
      split at e2
      · cases e2
        rw [h2.non_of]
        refine .inl ⟨rfl, ?_⟩
        rw [R_none_iff h1]
        exact q
      · cases e2
        rw [h1.bl_of, h2.bl_of]
        refine .inr ⟨_, _, rfl, rfl, ?_⟩
        rw [← Bool.beq_eq_decide_eq]
        exact q
      · cases e2
  · exact in_r (K := K) (Q := Q) false h1 h2 e (hd (.inl rfl)) q
  · cases e2 : inV v w with
    | none => rw [e2] at e; cases e
    | some b' =>
      rw [e2] at e
      cases e
      exact in_r (K := K) (Q := Q) true h1 h2 e2 (hd (.inr rfl)) q
  · cases e
end
end
end Pv
end

section
set_option Elab.async false
set_option linter.all false
set_option maxRecDepth 100000
set_option autoImplicit false
/-! Pv7: comparisons as expressions and tests; and, or, not; displays; subscripts. -/
namespace Pv
open PySem PySem.Spec PyProof.Rows L2

theorem PE.or {X : Cx} {e : Expr} {t1 t2 : TE} (h1 : PE X e t1) (h2 : PE X e t2) : PE X e (fun σ H Q => t1 σ H Q ∨ t2 σ H Q) :=
  ⟨fun pins s σ H Q I h => h.elim (h1.run pins s σ H Q I) (h2.run pins s σ H Q I)⟩
theorem PT.or {X : Cx} {e : Expr} {t1 t2 : TT} (h1 : PT X e t1) (h2 : PT X e t2) : PT X e (fun σ H Q => t1 σ H Q ∨ t2 σ H Q) :=
  ⟨fun pins s σ H Q I h => h.elim (h1.run pins s σ H Q I) (h2.run pins s σ H Q I)⟩

/-! ### keys -/
section
variable {k : Kx} {F : Hp} {ι : Nat → Option Addr}
theorem key_of {v : Val} {u : V} {q : Key} (h : VRep k F ι v u) (e : keyK v = some q) : u = kV q := by
  cases v <;> simp only [keyK] at e <;> first
    | (cases e; simp only [VRep] at h; exact h)
    | cases e
theorem keys_of : ∀ {xs : List Val} {us : List V} {q : List Key}, VReps k F ι xs us → keyT xs = some q → us = q.map kV
  | [], _, q, h, e => by
    simp only [VReps] at h
    simp only [keyT, Option.some.injEq] at e
    subst h e
    rfl
  | x :: xs, _, q, h, e => by
    simp only [VReps] at h
    obtain ⟨u, r, rfl, h1, h2⟩ := h
    simp only [keyT] at e
    split at e
    · rename_i k' ks' e1 e2
      cases e
      rw [key_of h1 e1, keys_of h2 e2]
      rfl
    · cases e
theorem K_get {q : Key} : ∀ {xs : List (Key × Val)} {us : List (Key × V)}, VKs k F ι xs us → (match dget q xs with
    | some v => ∃ u, valV us q = some u ∧ VRep k F ι v u
    | none => valV us q = none)
  | [], _, h => by simp only [VKs] at h; subst h; rfl
  | (a, x) :: xs, _, h => by
    simp only [VKs] at h
    obtain ⟨u, r, rfl, h1, h2⟩ := h
    simp only [dget]
    by_cases e : a = q
    · rw [if_pos e]
      exact ⟨u, valV_pos e, h1⟩
    · rw [if_neg e, valV_neg (p := (a, u)) e]
      exact K_get h2
theorem T_get {q : List Key} : ∀ {xs : List (List Key × Val)} {us : List (List Key × V)}, VTs k F ι xs us → (match dget q xs with
    | some v => ∃ u, valV us q = some u ∧ VRep k F ι v u
    | none => valV us q = none)
  | [], _, h => by simp only [VTs] at h; subst h; rfl
  | (a, x) :: xs, _, h => by
    simp only [VTs] at h
    obtain ⟨u, r, rfl, h1, h2⟩ := h
    simp only [dget]
    by_cases e : a = q
    · rw [if_pos e]
      exact ⟨u, valV_pos e, h1⟩
    · rw [if_neg e, valV_neg (p := (a, u)) e]
      exact T_get h2
end
section
variable {k : Kx} {g : Gh} {H : Hp}
/-- d[k] looked up: what is there -/
def dlook (d key : Val) : Option (Option Val) := match d with
  | .dK kvs => match keyK key with
    | some q => some (dget q kvs)
    | none => none
  | .dT kvs => match key with
    | .tup ks => match keyT ks with
      | some q => some (dget q kvs)
      | none => none
    | _ => none
  | _ => none
theorem R_V {v : Val} {u : V} (h : RRep k g H v u) (hc : ¬ isColl v) : VRep k (fzP g H) g.ι v u := by
  cases v <;> first | exact h | exact absurd trivial hc
def LkR (k : Kx) (g : Gh) (H : Hp) (r : Option V) : Option Val → Prop
  | some v => ∃ u, r = some u ∧ VRep k (fzP g H) g.ι v u
  | none => r = none
theorem dlook_r {d key : Val} {o : Option Val} {u1 u2 : V} (h1 : RRep k g H d u1) (h2 : RRep k g H key u2) (e : dlook d key = some o) :
    ∃ a r, u1 = .ref a ∧ DGet H a u2 r ∧ LkR k g H r o := by
  cases d with
  | dK kvs =>
    simp only [dlook] at e
    cases eq : keyK key with
    | none => rw [eq] at e; cases e
    | some q =>
      rw [eq] at e
      cases e
      obtain ⟨a, us, rfl, ha, hs⟩ := h1.dK_of
      have hk : u2 = kV q := key_of (R_V h2 (by cases key <;> simp only [keyK] at eq <;> first | exact fun z => z | cases eq)) eq
      refine ⟨a, valV us q, rfl, .inl ⟨us, q, .inl ha, hk, rfl⟩, ?_⟩
      have hg := K_get (q := q) hs
      cases ed : dget q kvs with
      | none => rw [ed] at hg; exact hg
      | some v => rw [ed] at hg; exact hg
  | dT kvs =>
    simp only [dlook] at e
    cases key with
    | tup ks =>
      simp only at e
      cases eq : keyT ks with
      | none => rw [eq] at e; cases e
      | some q =>
        rw [eq] at e
        cases e
        obtain ⟨a, us, rfl, ha, hs⟩ := h1.dT_of
        obtain ⟨b, ws, rfl, hb, tb, ht⟩ := h2.tup_of
        rw [keys_of ht eq] at hb
        refine ⟨a, valV us q, rfl, .inr ⟨us, q, b, .inl ha, rfl, hb, rfl⟩, ?_⟩
        have hg := T_get (q := q) hs
        cases ed : dget q kvs with
        | none => rw [ed] at hg; exact hg
        | some v => rw [ed] at hg; exact hg
    | _ => cases e
  | _ => cases e
theorem in_dlook {d key : Val} {b : Bool} (hd : isDct d = true) (e : inV key d = some b) : ∃ o, dlook d key = some o ∧ b = o.isSome := by
  cases d with
  | dK kvs =>
    simp only [inV] at e
    simp only [dlook]
    cases eq : keyK key with
    | none => rw [eq] at e; cases e
    | some q => rw [eq] at e; cases e; exact ⟨_, rfl, rfl⟩
  | dT kvs =>
    simp only [inV] at e
    simp only [dlook]
    cases key with
    | tup ks =>
      simp only at e ⊢
      cases eq : keyT ks with
      | none => rw [eq] at e; cases e
      | some q => rw [eq] at e; cases e; exact ⟨_, rfl, rfl⟩
    | _ => cases e
  | _ => exact Bool.noConfusion hd
end

section
variable {X : Cx} {J : Jx} {m : Md} {pos : Pos}
/-! ### a comparison -/
/-- the operand's mode: of in, not in an object's own dict may stand behind -/
def cpMd : Cp → Md
  | .inn => .P
  | .notin => .P
  | _ => .B
theorem evE_cmp (x : Cfg) (c : Cp) (a b : E) (ρ : Env) (S : Store) : evE x (.cmp c a b) ρ S = (evE x a ρ S).bind fun v S1 => (evE x b ρ S1).bind fun w S2 => match cpV c (deref S2 v) (deref S2 w) with
    | some b => .ok (.bl b) S2
    | none => .stuck := by
  simp only [evE] <;> rfl
theorem not_some {o : Option Bool} {b : Bool} (h : nop o = some b) : ∃ b0, o = some b0 ∧ b = !b0 := by
  cases o with
  | none => cases h
  | some b0 => cases h; exact ⟨b0, rfl, rfl⟩
theorem cp_inn {neg : Bool} {v w : Val} {b : Bool} (h : cpV (if neg = true then .notin else .inn) v w = some b) : ∃ b0, inV v w = some b0 ∧ b = if neg = true then !b0 else b0 := by
  cases neg with
  | false =>
    have h2 : inV v w = some b := by
      rw [← h]
      cases v <;> cases w <;> rfl
    exact ⟨b, h2, rfl⟩
  | true =>
    have h2 : nop (inV v w) = some b := by
      rw [← h]
      cases v <;> cases w <;> rfl
    exact not_some h2
/-- what a comparison is asked for: by values, or a dict's way of in -/
def tCp (X : Cx) (J : Jx) (c : Cp) (ia ib : E) : TE := fun σ H Q => tOp (rCp X.K c) (J.tE .B ia) (J.tE (cpMd c) ib) σ H Q ∨
  ∃ neg, c = (if neg = true then .notin else .inn) ∧ J.tE .B ia σ H fun y H1 => J.tE .P ib σ H1 fun x H2 => ∃ p o, x = .ref p ∧ DGet H2 p y o ∧ Q (.bl (if neg = true then !o.isSome else o.isSome)) H2
theorem cp_imp {c : Cp} {ia ib : E} (σ : L2.St) (H : Hp) (Q : VK) (h : J.tE m (.cmp c ia ib) σ H Q) : tCp X J c ia ib σ H Q := by
  obtain ⟨g, ρ, S, r, p⟩ := h
  have hq : pureE (.cmp c ia ib) = (pureE ia && (pureE ib && true)) := by simp only [pureE, Bool.and_true]
  rw [evE_cmp, hq] at p
  by_cases hd : (∃ neg, c = if neg = true then Cp.notin else Cp.inn) ∧ ∃ v S1 w S2, evE J.x ia ρ S = .ok v S1 ∧ evE J.x ib ρ S1 = .ok w S2 ∧ isDct (deref S2 w) = true
  · right
    obtain ⟨⟨neg, hneg⟩, v, S1, w, S2, e1, e2, hdct⟩ := hd
    refine ⟨neg, hneg, ?_⟩
    refine tE_bind (q2 := pureE ib && true) r p fun v' S1' u1 g1 H1 ev1 r1 mr1 p1 => ?_
    rw [e1] at ev1
    cases ev1
    refine ⟨g1, ρ, S1, r1, ?_⟩
    rw [e2] at p1 ⊢
    intro u2 g2 H2 r2 st mr2
    have p2 := post_after (q1 := pureE ib) (q2 := true) p1 st
    have mr1' := st.mB mr1
    simp only [R.bind] at p2
    cases ec : cpV c (deref S2 v) (deref S2 w) with
    | none => rw [ec] at p2; exact p2.elim
    | some bb =>
      rw [ec] at p2
      rw [hneg] at ec
      obtain ⟨b0, ei, rfl⟩ := cp_inn ec
      obtain ⟨o, el, rfl⟩ := in_dlook hdct ei
      obtain ⟨a0, rr, e4, dg, ho⟩ := dlook_r (deref_R r2.str mr2.R) (deref_R r2.str mr1'.R) el
      refine ⟨a0, rr, e4, dg, ?_⟩
      have es : rr.isSome = o.isSome := by
        cases o with
        | none =>
          have ho' : rr = none := ho
          subst ho'
          rfl
        | some v =>
          obtain ⟨u, e5, _⟩ := (show ∃ u, rr = some u ∧ _ from ho)
          rw [e5]
          rfl
      rw [es]
      exact fin_V r2 (fun m => MRep.bl _) p2
  · left
    refine two_at (m1 := .B) (m2 := cpMd c) (.inr (.inl rfl)) r p fun g' H' v S1 w S2 u1 u2 e1 e2 r1 h1 h2 p1 => ?_
    have hnd : (c = .inn ∨ c = .notin) → isDct (deref S2 w) = false := fun hc => by
      cases e3 : isDct (deref S2 w) with
      | false => rfl
      | true =>
        refine absurd ⟨?_, v, S1, w, S2, e1, e2, e3⟩ hd
        rcases hc with rfl | rfl
        · exact ⟨false, rfl⟩
        · exact ⟨true, rfl⟩
    cases ec : cpV c (deref S2 v) (deref S2 w) with
    | none =>
      simp only [ec] at p1
      exact p1.elim
    | some bb =>
      simp only [ec] at p1
      exact cp_r (deref_R r1.str h1.R) (deref_R r1.str h2.R) ec hnd (fin_V r1 (fun m => MRep.bl _) p1)
theorem s_cmp {c : Cp} {a b : Expr} {ia ib : E} (hu : X.A.units + 65 < cLine) (ha : PE X a (J.tE .B ia)) (hb : PE X b (J.tE (cpMd c) ib)) (hm : behindInMarks (cpS c) b = false) : PE X (.Compare a [cpS c] [b] pos) (J.tE m (.cmp c ia ib)) := by
  refine PE.imp (t := tCp X J c ia ib) ⟨fun pins s σ H Q I h => ?_⟩ cp_imp
  rcases h with h | ⟨neg, rfl, h⟩
  · exact (pe_cmpR (opr_cp hu c) ha hb hm).run pins s σ H Q I h
  · cases neg with
    | false => exact (pe_cmp (pc_din (by omega) ha hb) hm).run pins s σ H Q I h
    | true => exact (pe_cmp (pc_dnotin (by omega) ha hb) hm).run pins s σ H Q I h
theorem t_val {e : Expr} {ie : E} (h : PE X e (J.tE .B ie)) (he : ∀ whole, isTrue e X.env whole = (do let v ← whole; standAt e.pos; holding [v] (truthy v))) : PT X e (J.tT ie) := pt_val h he
theorem t_cmp {c : Cp} {a b : Expr} {ia ib : E} (hu : X.A.units + 65 < cLine) (ha : PE X a (J.tE .B ia)) (hb : PE X b (J.tE (cpMd c) ib)) (hm : behindInMarks (cpS c) b = false) : PT X (.Compare a [cpS c] [b] pos) (J.tT (.cmp c ia ib)) := by
  refine PT.imp (t := fun σ H Q => tCp X J c ia ib σ H fun x H' => ∃ k, x = .bl k ∧ Q k H') ⟨fun pins s σ H Q I h => ?_⟩ fun σ H Q h => cp_imp σ H _ h
  rcases h with h | ⟨neg, rfl, h⟩
  · exact (pt_cmpR (opr_cp hu c) ha hb hm).run pins s σ H Q I h
  · cases neg with
    | false => exact (pt_cmp (pc_din (by omega) ha hb) hm).run pins s σ H Q I h
    | true => exact (pt_cmp (pc_dnotin (by omega) ha hb) hm).run pins s σ H Q I h
end
end Pv
end

section
set_option Elab.async false
set_option linter.all false
set_option maxRecDepth 100000
set_option autoImplicit false
/-! Pv8: chains, and, or, not, if, argument lists, displays, slices, subscripts. -/
namespace Pv
open PySem PySem.Spec PyProof.Rows L2

theorem szb_max {n : Nat} (h : n ≤ 16777215) : n ≤ sizeLine := by rw [sizeLine_val]; omega
def isIn : Cp → Bool
  | .inn => true
  | .notin => true
  | _ => false
theorem isIn_no {c : Cp} (h : isIn c = false) : ¬ (c = .inn ∨ c = .notin) := by
  rintro (rfl | rfl) <;> cases h
section
variable {X : Cx} {J : Jx} {m : Md} {pos : Pos}

/-! ### a chain -/
theorem ch_imp {o1 o2 : Cp} {ia ib ic : E} (n1 : isIn o1 = false) (n2 : isIn o2 = false) (σ : L2.St) (H : Hp) (Q : VK) (h : J.tE m (.ch o1 o2 ia ib ic) σ H Q) :
    tChain (rCp X.K o1) (rCp X.K o2) (J.tE .B ia) (J.tE .B ib) (J.tE .B ic) σ H Q := by
  obtain ⟨g, ρ, S, r, p⟩ := h
  have hq : pureE (.ch o1 o2 ia ib ic) = (pureE ia && (pureE ib && (pureE ic && true))) := by simp only [pureE, Bool.and_true, Bool.and_assoc]
  simp only [evE] at p
  rw [hq] at p
  refine tE_bindS r p fun v S1 u1 g1 H1 e1 r1 st1 mr1 p1 => ?_
  refine tE_bindS r1 p1 fun w S2 u2 g2 H2 e2 r2 st2 mr2 p2 => ?_
  have mr1' := st2.mB mr1
  cases ec : cpV o1 v w with
  | none => simp only [ec] at p2; exact p2.elim
  | some bb =>
    simp only [ec] at p2
    refine cp_r mr1'.R mr2.R ec (fun z => absurd z (isIn_no n1)) ⟨bb, rfl, ?_⟩
    cases bb with
    | false =>
      simp only [Bool.false_eq_true, if_false] at p2 ⊢
      exact fin_V r2 (fun m => MRep.bl _) (post_q p2)
    | true =>
      simp only [if_true] at p2 ⊢
      refine tE_bindS r2 p2 fun x S3 u3 g3 H3 e3 r3 st3 mr3 p3 => ?_
      cases ec2 : cpV o2 w x with
      | none => simp only [ec2] at p3; exact p3.elim
      | some b2 =>
        simp only [ec2] at p3
        exact cp_r (st3.mB mr2).R mr3.R ec2 (fun z => absurd z (isIn_no n2)) (fin_V r3 (fun m => MRep.bl _) p3)
theorem s_ch {o1 o2 : Cp} {a b c : Expr} {ia ib ic : E} (hu : X.A.units + 65 < cLine) (n1 : isIn o1 = false) (n2 : isIn o2 = false) (ha : PE X a (J.tE .B ia)) (hb : PE X b (J.tE .B ib)) (hc : PE X c (J.tE .B ic))
    (hm : lastMarks [cpS o1, cpS o2] [b, c] = false) : PE X (.Compare a [cpS o1, cpS o2] [b, c] pos) (J.tE m (.ch o1 o2 ia ib ic)) :=
  PE.imp (pe_chain (opr_cp hu o1) (opr_cp hu o2) ha hb hc hm) (ch_imp n1 n2)
theorem t_ch {o1 o2 : Cp} {a b c : Expr} {ia ib ic : E} (hu : X.A.units + 65 < cLine) (n1 : isIn o1 = false) (n2 : isIn o2 = false) (ha : PE X a (J.tE .B ia)) (hb : PE X b (J.tE .B ib)) (hc : PE X c (J.tE .B ic))
    (hm : lastMarks [cpS o1, cpS o2] [b, c] = false) : PT X (.Compare a [cpS o1, cpS o2] [b, c] pos) (J.tT (.ch o1 o2 ia ib ic)) :=
  PT.imp (pt_chain (opr_cp hu o1) (opr_cp hu o2) ha hb hc hm) fun σ H Q h => ch_imp n1 n2 σ H _ h

/-! ### and, or, not, if -/
def boS : Bool → BoolOp
  | true => .And
  | false => .Or
theorem bop_imp {k : Bool} {ie ie2 : E} {r : List E} (σ : L2.St) (H : Hp) (Q : VK) (h : J.tE m (.bop k (ie :: ie2 :: r)) σ H Q) :
    J.tE .B ie σ H fun x H1 => ∃ c, x = .bl c ∧ if c = k then J.tE m (.bop k (ie2 :: r)) σ H1 Q else Q (.bl c) H1 := by
  obtain ⟨g, ρ, S, rl, p⟩ := h
  have hq : pureE (.bop k (ie :: ie2 :: r)) = (pureE ie && pureE (.bop k (ie2 :: r))) := by simp only [pureE, pureEs]
  have ev : evE J.x (.bop k (ie :: ie2 :: r)) ρ S = (evE J.x ie ρ S).bind fun v S1 => match v with
    | .bl b => if b = k then evE J.x (.bop k (ie2 :: r)) ρ S1 else .ok (.bl b) S1
    | _ => .stuck := by
    simp only [evE]
    rw [evB] <;> first | rfl | (intro h; cases h)
  rw [hq, ev] at p
  refine tE_bindS rl p fun v S1 u g1 H1 e1 r1 st1 mr1 p1 => ?_
  cases v with
  | bl b =>
    refine ⟨b, mr1.R.bl_of, ?_⟩
    simp only at p1
    split
    · rename_i hk
      rw [if_pos hk] at p1
      exact ⟨g1, ρ, S1, r1, p1⟩
    · rename_i hk
      rw [if_neg hk] at p1
      exact fin_V r1 (fun m => MRep.bl _) (post_q p1)
  | _ => exact p1.elim
theorem bop1_imp {k : Bool} {ie : E} (σ : L2.St) (H : Hp) (Q : VK) (h : J.tE m (.bop k [ie]) σ H Q) : J.tE m ie σ H Q := by
  obtain ⟨g, ρ, S, rl, p⟩ := h
  refine ⟨g, ρ, S, rl, ?_⟩
  have e : evE J.x (.bop k [ie]) ρ S = evE J.x ie ρ S := by simp only [evE, evB]
  have e2 : pureE (.bop k [ie]) = pureE ie := by simp only [pureE, pureEs, Bool.and_true]
  rw [e, e2] at p
  exact p
theorem s_bop1 {k : Bool} {a : Expr} {ia : E} (ha : PE X a (J.tE m ia)) : PE X (.BoolOp (boS k) [a] pos) (J.tE m (.bop k [ia])) := PE.imp (pe_one ha) bop1_imp
theorem s_bop {k : Bool} {a b : Expr} {rest : List Expr} {ia ib : E} {ir : List E} (ha : PE X a (J.tE .B ia)) (hb : PE X (.BoolOp (boS k) (b :: rest) pos) (J.tE m (.bop k (ib :: ir)))) :
    PE X (.BoolOp (boS k) (a :: b :: rest) pos) (J.tE m (.bop k (ia :: ib :: ir))) := by
  cases k with
  | true =>
    refine PE.imp (pe_and ha hb) fun σ H Q h => ?_
    obtain ⟨g, ρ, S, rl, p⟩ := bop_imp σ H Q h
    refine ⟨g, ρ, S, rl, ?_⟩
    cases ev : evE J.x ia ρ S with
    | ok v S1 =>
      rw [ev] at p
      intro u g' H' r' st mr
      obtain ⟨c, e, q⟩ := p u g' H' r' st mr
      refine ⟨c, e, ?_⟩
      cases c with
      | true => exact q
      | false => exact q
    | exn c S1 => rw [ev] at p; exact p
    | stuck => rw [ev] at p; exact p
  | false =>
    refine PE.imp (pe_or ha hb) fun σ H Q h => ?_
    obtain ⟨g, ρ, S, rl, p⟩ := bop_imp σ H Q h
    refine ⟨g, ρ, S, rl, ?_⟩
    cases ev : evE J.x ia ρ S with
    | ok v S1 =>
      rw [ev] at p
      intro u g' H' r' st mr
      obtain ⟨c, e, q⟩ := p u g' H' r' st mr
      refine ⟨c, e, ?_⟩
      cases c with
      | true => exact q
      | false => exact q
    | exn c S1 => rw [ev] at p; exact p
    | stuck => rw [ev] at p; exact p
theorem t_bop1 {k : Bool} {a : Expr} {ia : E} (ha : PT X a (J.tT ia)) : PW X (.BoolOp (boS k) [a] pos) (J.tT (.bop k [ia])) := by
  have w : ∀ σ H Q, J.tT (.bop k [ia]) σ H Q → J.tT ia σ H Q := fun σ H Q h => bop1_imp σ H _ h
  cases k with
  | true => exact ⟨fun wh pins s σ H Q I h => (pw_and1 ha).run wh pins s σ H Q I (w σ H Q h)⟩
  | false => exact ⟨fun wh pins s σ H Q I h => (pw_or1 ha).run wh pins s σ H Q I (w σ H Q h)⟩
/-- the end of a reading is weakened -/
theorem tE_mono {m : Md} {e : E} {σ : L2.St} {H : Hp} {Q Q' : VK} (h : J.tE m e σ H Q) (w : ∀ u H', Q u H' → Q' u H') : J.tE m e σ H Q' := by
  obtain ⟨g, ρ, S, rl, p⟩ := h
  refine ⟨g, ρ, S, rl, ?_⟩
  cases ev : evE J.x e ρ S with
  | ok v S1 =>
    rw [ev] at p
    exact fun u g' H' r' st mr => w _ _ (p u g' H' r' st mr)
  | exn c S1 => rw [ev] at p; exact p
  | stuck => rw [ev] at p; exact p
theorem t_bop {k : Bool} {a b : Expr} {rest : List Expr} {ia ib : E} {ir : List E} (ha : PT X a (J.tT ia)) (hb : PW X (.BoolOp (boS k) (b :: rest) pos) (J.tT (.bop k (ib :: ir)))) :
    PW X (.BoolOp (boS k) (a :: b :: rest) pos) (J.tT (.bop k (ia :: ib :: ir))) := by
  have w : ∀ σ H (Q : Bool → Hp → Prop), J.tT (.bop k (ia :: ib :: ir)) σ H Q → J.tT ia σ H fun c H1 => if c = k then J.tT (.bop k (ib :: ir)) σ H1 Q else Q c H1 := fun σ H Q h => by
    refine tE_mono (bop_imp σ H _ h) fun u H' q => ?_
    obtain ⟨c, rfl, q⟩ := q
    refine ⟨c, rfl, ?_⟩
    show if c = k then J.tT (.bop k (ib :: ir)) σ H' Q else Q c H'
    split
    · rename_i hk
      rw [if_pos hk] at q
      exact q
    · rename_i hk
      rw [if_neg hk] at q
      obtain ⟨c', e, q⟩ := q
      cases e
      exact q
  cases k with
  | true =>
    refine ⟨fun wh pins s σ H Q I h => (pw_and ha hb).run wh pins s σ H Q I (tE_mono (w σ H Q h) fun u H' q => ?_)⟩
    obtain ⟨c, e, q⟩ := q
    refine ⟨c, e, ?_⟩
    cases c with
    | true => exact q
    | false => exact q
  | false =>
    refine ⟨fun wh pins s σ H Q I h => (pw_or ha hb).run wh pins s σ H Q I (tE_mono (w σ H Q h) fun u H' q => ?_)⟩
    obtain ⟨c, e, q⟩ := q
    refine ⟨c, e, ?_⟩
    cases c with
    | true => exact q
    | false => exact q
theorem nt_imp {ia : E} (σ : L2.St) (H : Hp) (Q : VK) (h : J.tE m (.nt ia) σ H Q) : J.tE .B ia σ H fun x H1 => ∃ c, x = .bl c ∧ Q (.bl (!c)) H1 := by
  obtain ⟨g, ρ, S, rl, p⟩ := h
  have hq : pureE (.nt ia) = (pureE ia && true) := by simp only [pureE, Bool.and_true]
  simp only [evE] at p
  rw [hq] at p
  refine tE_bindS rl p fun v S1 u g1 H1 e1 r1 st1 mr1 p1 => ?_
  cases v with
  | bl b => exact ⟨b, mr1.R.bl_of, fin_V r1 (fun m => MRep.bl _) p1⟩
  | _ => exact p1.elim
theorem s_nt {a : Expr} {ia : E} (ha : PE X a (J.tE .B ia)) : PE X (.UnaryOp .Not a pos) (J.tE m (.nt ia)) := PE.imp (pe_not ha) nt_imp
theorem t_nt {a : Expr} {ia : E} (ha : PT X a (J.tT ia)) : PT X (.UnaryOp .Not a pos) (J.tT (.nt ia)) := by
  refine PT.imp (pt_not ha) fun σ H Q h => ?_
  refine tE_mono (nt_imp σ H _ h) fun u H' q => ?_
  obtain ⟨c, rfl, c', e, q⟩ := q
  cases e
  exact ⟨c, rfl, q⟩
theorem s_ife {t a b : Expr} {it ia ib : E} (ht : PT X t (J.tT it)) (ha : PE X a (J.tE m ia)) (hb : PE X b (J.tE m ib)) : PE X (.IfExp t a b pos) (J.tE m (.ife it ia ib)) := by
  refine PE.imp (pe_ifExp ht ha hb) fun σ H Q h => ?_
  obtain ⟨g, ρ, S, rl, p⟩ := h
  have hq : pureE (.ife it ia ib) = (pureE it && (pureE ia && pureE ib)) := by simp only [pureE, Bool.and_assoc]
  simp only [evE] at p
  rw [hq] at p
  refine tE_bindS rl p fun v S1 u g1 H1 e1 r1 st1 mr1 p1 => ?_
  cases v with
  | bl c =>
    refine ⟨c, mr1.R.bl_of, ?_⟩
    have wk : ∀ {q1 q2 : Bool} {r : R Val}, (q1 = true → q2 = true) → J.Post m q1 g1 H1 σ ρ r Q → J.Post m q2 g1 H1 σ ρ r Q := fun {q1 q2 r} hq h => by
      cases r with
      | ok v S1 => exact fun u g2 H2 r s mr => h u g2 H2 r (by
          cases q1 with
          | true => rw [hq rfl] at s; exact s
          | false => exact s.weak) mr
      | exn c S1 => exact h
      | stuck => exact h
    cases c with
    | true =>
      simp only [if_true] at p1 ⊢
      exact ⟨g1, ρ, S1, r1, wk (fun z => (Bool.and_eq_true_iff.mp z).1) p1⟩
    | false =>
      simp only [Bool.false_eq_true, if_false] at p1 ⊢
      exact ⟨g1, ρ, S1, r1, wk (fun z => (Bool.and_eq_true_iff.mp z).2) p1⟩
  | _ => exact p1.elim
theorem s_neg {a : Expr} {ia : E} (ha : PE X a (J.tE .B ia)) : PE X (.UnaryOp .USub a pos) (J.tE m (.neg ia)) := by
  refine PE.imp (pe_un un_neg ha) fun σ H Q h => ?_
  obtain ⟨g, ρ, S, rl, p⟩ := h
  have hq : pureE (.neg ia) = (pureE ia && true) := by simp only [pureE, Bool.and_true]
  simp only [evE] at p
  rw [hq] at p
  refine tE_bindS rl p fun v S1 u g1 H1 e1 r1 st1 mr1 p1 => ?_
  cases v with
  | int i => exact ⟨i, mr1.R.int_of, fin_V r1 (fun m => MRep.int _) p1⟩
  | _ => exact p1.elim

/-! ### argument lists -/
theorem MReps.vs {k : Kx} {g : Gh} {H : Hp} : ∀ {vs : List Val} {us : List V}, MReps k g H [] vs us → VReps k (fzP g H) g.ι vs us
  | [], _, h => by
    simp only [VReps]
    exact h
  | v :: vs, us, h => by
    obtain ⟨u, r, e, h1, h2⟩ := h
    simp only [VReps]
    exact ⟨u, r, e, h1, MReps.vs h2⟩
theorem a_nil {ms : List Md} : PA X [] (J.tA ms []) := by
  refine PA.imp pa_nil fun σ H Q h => ?_
  obtain ⟨g, ρ, S, rl, p⟩ := h
  simp only [evs] at p
  exact p [] g H rl Step.refl rfl
theorem a_cons {ms : List Md} {e : Expr} {es : List Expr} {ie : E} {ies : List E} (ha : PE X e (J.tE (ms.headD .V) ie)) (hr : PA X es (J.tA ms.tail ies)) (hm : ms.headD .V = .P → pureEs ies = true)
    (hs : starEach (e :: es) X.env = (false, eval e X.env) :: starEach es X.env) : PA X (e :: es) (J.tA ms (ie :: ies)) := by
  refine PA.imp (pa_cons ha hr hs) fun σ H Q h => ?_
  obtain ⟨g, ρ, S, rl, p⟩ := h
  refine ⟨g, ρ, S, rl, ?_⟩
  have ev : evs J.x (ie :: ies) ρ S = (evE J.x ie ρ S).bind fun v S1 => (evs J.x ies ρ S1).bind fun vs S2 => .ok (v :: vs) S2 := by simp only [evs]
  have hq : pureEs (ie :: ies) = (pureE ie && pureEs ies) := by simp only [pureEs]
  rw [ev, hq] at p
  cases ev1 : evE J.x ie ρ S with
  | ok v S1 =>
    rw [ev1] at p
    intro u g1 H1 r1 st mr
    refine ⟨g1, ρ, S1, r1, ?_⟩
    simp only [R.bind] at p
    cases ev2 : evs J.x ies ρ S1 with
    | ok vs S2 =>
      rw [ev2] at p
      intro us g2 H2 r2 st2 mrs
      exact p (u :: us) g2 H2 r2 (st.trans st2) ⟨u, us, rfl, st2.mM hm mr, mrs⟩
    | exn c S2 =>
      rw [ev2] at p
      exact exn_weak p st
    | stuck =>
      rw [ev2] at p
      exact p
  | exn c S1 => rw [ev1] at p; exact p
  | stuck => rw [ev1] at p; exact p

/-! ### displays -/
theorem s_tup {es : List Expr} {ies : List E} {x1} (h : PA X es (J.tA [] ies)) : PE X (.Tuple es x1 pos) (J.tE m (.tup ies)) := by
  refine PE.imp (pe_tup h) fun σ H Q h => ?_
  obtain ⟨g, ρ, S, rl, p⟩ := h
  have hq : pureE (.tup ies) = (pureEs ies && true) := by simp only [pureE, Bool.and_true]
  simp only [evE] at p
  rw [hq] at p
  refine tA_bind rl p fun vs S1 us g1 H1 e1 r1 st mr p1 => ?_
  split at p1
  · rename_i hz
    have hv := mr.vs
    exact ⟨by rw [hv.len]; exact szb_line hz, fin_tup r1 hv p1⟩
  · exact p1.elim
theorem s_lst {es : List Expr} {ies : List E} (h : PA X es (J.tA [] ies)) : PE X (.List es pos) (J.tE m (.lst ies)) := by
  refine PE.imp (pe_lst h) fun σ H Q h => ?_
  obtain ⟨g, ρ, S, rl, p⟩ := h
  have hq : pureE (.lst ies) = (pureEs ies && true) := by simp only [pureE, Bool.and_true]
  simp only [evE] at p
  rw [hq] at p
  refine tA_bind rl p fun vs S1 us g1 H1 e1 r1 st mr p1 => ?_
  split at p1
  · rename_i hz
    have hv := mr.vs
    exact ⟨by rw [hv.len]; exact szb_line hz, fin_lst r1 hv p1⟩
  · exact p1.elim
theorem VReps.flat {k : Kx} {F : Hp} {ι : Nat → Option Addr} {xs : List Val} {us : List V} (h : VReps k F ι xs us) : ∀ n : Nat, VReps k F ι (List.replicate n xs).flatten (List.replicate n us).flatten
  | 0 => by
    show VReps k F ι [] []
    simp only [VReps]
  | n + 1 => by
    rw [List.replicate_succ, List.replicate_succ, List.flatten_cons, List.flatten_cons]
    exact h.app (VReps.flat h n)
theorem s_rep {es : List Expr} {b : Expr} {ies : List E} {ib : E} {lp : Pos} (h : PA X es (J.tA [] ies)) (hb : PE X b (J.tE .B ib)) : PE X (.BinOp (.List es lp) .Mult b pos) (J.tE m (.rep ies ib)) := by
  refine PE.imp (pe_op op_rep (pe_lst h) hb) fun σ H Q h => ?_
  obtain ⟨g, ρ, S, rl, p⟩ := h
  have hq : pureE (.rep ies ib) = (pureEs ies && (pureE ib && true)) := by simp only [pureE, Bool.and_true]
  simp only [evE] at p
  rw [hq] at p
  refine tA_bind rl p fun vs S1 us g1 H1 e1 r1 st mr p1 => ?_
  have hv := mr.vs
  split at p1
  · rename_i hz
    refine ⟨by rw [hv.len]; exact szb_line hz, fun q hqn => ?_⟩
    have r1' := put_rel r1 hqn (o := .lst us) (.inr ⟨rfl, fun _ z => nomatch z⟩)
    have st1 : Step true g1 H1 (g1.put q .rt) (upd H1 q (.lst us)) := put_step (r1.str.no_tag hqn)
    have p1' : J.Post m (pureE ib && true) _ _ σ ρ _ Q := post_after (q1 := true) (q2 := pureE ib && true) p1 st1
    refine tE_bindS r1' p1' fun w S2 u2 g2 H2 e2 r2 st2 mr2 p2 => ?_
    cases w with
    | int j =>
      simp only at p2
      split at p2
      · rename_i hj
        have hv2 := st2.mVs (st1.mVs hv)
        have hl := (st2.keep q (.inr (.inr (.inl put_same)))).2.trans upd_same
        refine ⟨q, j, us, rfl, mr2.R.int_of, hl, by omega, by omega, by rw [hv.len]; exact szb_line hj.2.2, fin_lst r2 (hv2.flat _) p2⟩
      · exact p2.elim
    | _ => exact p2.elim
  · exact p1.elim
end
end Pv
end

section
set_option Elab.async false
set_option linter.all false
set_option maxRecDepth 100000
set_option autoImplicit false
/-! Pv9: subscripts, slices. -/
namespace Pv
open PySem PySem.Spec PyProof.Rows L2

section
variable {k : Kx} {g : Gh} {H : Hp} {F : Hp} {ι : Nat → Option Addr}
theorem VReps.atI {xs : List Val} {us : List V} {i : Int} {z : Val} (h : VReps k F ι xs us) (e : L2.atI xs i = some z) : ∃ u, L2.atI us i = some u ∧ VRep k F ι z u := by
  unfold L2.atI at e ⊢
  rw [h.len]
  cases hj : ixN xs.length i with
  | none => rw [hj] at e; cases e
  | some j =>
    rw [hj] at e
    exact h.get e
theorem VReps.drop {xs : List Val} {us : List V} : ∀ {xs : List Val} {us : List V} (n : Nat), VReps k F ι xs us → VReps k F ι (xs.drop n) (us.drop n)
  | xs, us, 0, h => h
  | [], us, n + 1, h => by
    simp only [VReps] at h
    subst h
    simp only [List.drop_nil, VReps]
  | x :: xs, us, n + 1, h => by
    simp only [VReps] at h
    obtain ⟨u, r, rfl, _, h2⟩ := h
    rw [List.drop_succ_cons, List.drop_succ_cons]
    exact VReps.drop (xs := xs) (us := r) n h2
theorem VReps.take {xs : List Val} {us : List V} : ∀ {xs : List Val} {us : List V} (n : Nat), VReps k F ι xs us → VReps k F ι (xs.take n) (us.take n)
  | xs, us, 0, h => by
    rw [List.take_zero, List.take_zero]
    simp only [VReps]
  | [], us, n + 1, h => by
    simp only [VReps] at h
    subst h
    simp only [List.take_nil, VReps]
  | x :: xs, us, n + 1, h => by
    simp only [VReps] at h
    obtain ⟨u, r, rfl, h1, h2⟩ := h
    rw [List.take_succ_cons, List.take_succ_cons]
    simp only [VReps]
    exact ⟨u, _, rfl, h1, VReps.take (xs := xs) (us := r) n h2⟩
theorem VReps.ofInts {F : Hp} {ι : Nat → Option Addr} : ∀ (is : List Int), VReps k F ι (is.map .int) (is.map V.int)
  | [] => by
    simp only [List.map_nil, VReps]
  | i :: is => by
    simp only [List.map_cons, VReps]
    refine ⟨_, _, rfl, ?_, VReps.ofInts is⟩
    simp only [VRep]
theorem cut_map {α β : Type} (f : α → β) (xs : List α) (lo hi : Option Int) : cutL (xs.map f) lo hi = (cutL xs lo hi).map f := by
  unfold cutL
  rw [List.length_map, List.map_take, List.map_drop]
theorem VReps.cut {xs : List Val} {us : List V} (lo hi : Option Int) (h : VReps k F ι xs us) : VReps k F ι (cutL xs lo hi) (cutV us lo hi) := by
  unfold cutL cutV
  rw [h.len]
  exact VReps.take (xs := xs) (us := us) _ (VReps.drop (xs := xs) (us := us) _ h)
theorem ix_dlook {d key z : Val} (hd : isDct d = true) (e : ixV d key = some z) : dlook d key = some (some z) := by
  cases d with
  | dK kvs =>
    simp only [ixV] at e
    simp only [dlook]
    cases eq : keyK key with
    | none => rw [eq] at e; cases e
    | some q => rw [eq] at e; simp only at e ⊢; rw [e]
  | dT kvs =>
    simp only [dlook]
    cases key with
    | tup ks =>
      simp only [ixV] at e
      simp only
      cases eq : keyT ks with
      | none => rw [eq] at e; cases e
      | some q => rw [eq] at e; simp only at e ⊢; rw [e]
    | _ => simp [ixV] at e
  | _ => exact Bool.noConfusion hd
end

section
variable {X : Cx} {J : Jx} {m : Md} {pos : Pos}
/-! ### a[b] -/
def tIx (X : Cx) (ta tb : TE) : TE := fun σ H Q => tOp (rIx X.K) ta tb σ H Q ∨ tDGet ta tb σ H Q
theorem ix_imp {ma : Md} {ia ib : E} (hk : ∀ a us (H : Hp), J.k.kl a us → SqL X.K H a us) (hma : ma = .V ∨ ma = .B ∨ (ma = .P ∧ pureE ib = true)) (hm : m ≠ .O) (σ : L2.St) (H : Hp) (Q : VK) (h : J.tE m (.ix ia ib) σ H Q) : tIx X (J.tE ma ia) (J.tE .B ib) σ H Q := by
  obtain ⟨g, ρ, S, r, p⟩ := h
  have hq : pureE (.ix ia ib) = (pureE ia && (pureE ib && true)) := by simp only [pureE, Bool.and_true]
  have ev : evE J.x (.ix ia ib) ρ S = (evE J.x ia ρ S).bind fun v S1 => (evE J.x ib ρ S1).bind fun w S2 => R.of (ixV (deref S2 v) w) S2 := by simp only [evE]
  rw [ev, hq] at p
  have mA : ∀ {g1 g2 : Gh} {H1 H2 : Hp} {v : Val} {u : V}, Step (pureE ib) g1 H1 g2 H2 → MRep J.k g1 H1 ma v u → MRep J.k g2 H2 ma v u := fun st mr => st.mM (fun e => by
    rcases hma with h | h | h
    · rw [h] at e; cases e
    · rw [h] at e; cases e
    · exact h.2) mr
  by_cases hd : ∃ v S1 w S2, evE J.x ia ρ S = .ok v S1 ∧ evE J.x ib ρ S1 = .ok w S2 ∧ isDct (deref S2 v) = true
  · right
    obtain ⟨v, S1, w, S2, e1, e2, hdct⟩ := hd
    refine tE_bindS (q2 := pureE ib && true) r p fun v' S1' u1 g1 H1 ev1 r1 st1 mr1 p1 => ?_
    rw [e1] at ev1
    cases ev1
    refine tE_bindS (q2 := true) r1 p1 fun w' S2' u2 g2 H2 ev2 r2 st2 mr2 p2 => ?_
    rw [e2] at ev2
    cases ev2
    cases ei : ixV (deref S2 v) w with
    | none => rw [ei] at p2; exact p2.elim
    | some z =>
      rw [ei] at p2
      obtain ⟨a0, rr, e4, dg, ho⟩ := dlook_r (deref_R r2.str (mA st2 mr1).R) mr2.R (ix_dlook hdct ei)
      obtain ⟨u, e5, hv⟩ := (show ∃ u, rr = some u ∧ _ from ho)
      subst e5
      exact ⟨a0, u, e4, dg, fin_kept r2 hm hv p2⟩
  · left
    refine two_at (m1 := ma) (m2 := .B) hma r p fun g' H' v S1 w S2 u1 u2 e1 e2 r1 h1 h2 p1 => ?_
    have hnd : isDct (deref S2 v) = false := by
      cases e3 : isDct (deref S2 v) with
      | false => rfl
      | true => exact absurd ⟨v, S1, w, S2, e1, e2, e3⟩ hd
    have h1' := deref_R r1.str h1.R
    cases ei : ixV (deref S2 v) w with
    | none => rw [ei] at p1; exact p1.elim
    | some z =>
      rw [ei] at p1
      simp only [R.of] at p1
      generalize deref S2 v = v' at h1' hnd ei
      unfold ixV at ei
      split at ei
      · obtain ⟨a, us, rfl, ha, hs⟩ := h1'.lst_of
        obtain ⟨u, e, hv⟩ := hs.atI ei
        exact .inl ⟨a, us, _, u, rfl, h2.R.int_of, .inl (.inl ha), e, fin_kept r1 hm hv p1⟩
      · obtain ⟨a, us, rfl, ha, ta, hs⟩ := h1'.tup_of
        obtain ⟨u, e, hv⟩ := hs.atI ei
        exact .inr (.inl ⟨a, us, _, u, rfl, h2.R.int_of, SqT.of ha, e, fin_kept r1 hm hv p1⟩)
      · rename_i ns i
        unfold scrAt at ei
        split at ei
        · rename_i k' hk'
          cases ei
          obtain ⟨a, rfl, hs⟩ := h1'.scr_of hk
          refine .inl ⟨a, _, i, .int k', rfl, h2.R.int_of, hs, ?_, fin_V r1 (fun m => MRep.int _) p1⟩
          unfold L2.atI at hk' ⊢
          rw [List.length_map]
          cases hj : ixN ns.length i with
          | none => rw [hj] at hk'; cases hk'
          | some j =>
            rw [hj] at hk'
            show (ns.map V.int)[j]? = some (.int k')
            rw [List.getElem?_map]
            rw [show ns[j]? = some k' from hk']
            rfl
        · cases ei
      · split at ei
        · rename_i hz
          unfold sign1 at ei
          split at ei
          · rename_i c hc
            cases ei
            exact .inr (.inr ⟨_, _, c, h1'.str_of, h2.R.int_of, szb_line hz, hc, fin_V r1 (fun m => MRep.str _) p1⟩)
          · cases ei
        · cases ei
      · cases hnd
      · cases hnd
      · cases ei
theorem s_ix {ma : Md} {a b : Expr} {ia ib : E} (hk : ∀ a us (H : Hp), J.k.kl a us → SqL X.K H a us) (hu : X.A.units + 1 < cLine) (hma : ma = .V ∨ ma = .B ∨ (ma = .P ∧ pureE ib = true)) (hm : m ≠ .O) (ha : PE X a (J.tE ma ia)) (hb : PE X b (J.tE .B ib)) (hs : PlainIx b) : PE X (.Subscript a b pos) (J.tE m (.ix ia ib)) :=
  PE.imp (PE.or (pe_ix ix_seq ha hb hs) (pe_dget hu ha hb hs)) (ix_imp hk hma hm)

/-! ### a[lo:hi] -/
def Jx.PostO (J : Jx) (q : Bool) (g : Gh) (H : Hp) (σ : L2.St) (ρ : Env) (r : R (Option Int)) (Q : Option Int → Hp → Prop) : Prop := match r with
  | .ok o S' => ∀ g' H', Rel J.k J.md g' σ H' ρ S' → Step q g H g' H' → Q o H'
  | .exn c S' => J.exnP g H σ ρ c S'
  | .stuck => False
def Jx.tO (J : Jx) (e : Option E) : TO := fun σ H Q => ∃ g ρ S, Rel J.k J.md g σ H ρ S ∧ J.PostO (pureO e) g H σ ρ (evO J.x e ρ S) Q
theorem PO.imp {e : Option Expr} {t t' : TO} (h : PO X e t) (w : ∀ σ H Q, t' σ H Q → t σ H Q) : PO X e t' := ⟨fun pins s σ H Q I q => h.run pins s σ H Q I (w σ H Q q)⟩
theorem o_none : PO X none (J.tO none) := by
  refine PO.imp po_none fun σ H Q h => ?_
  obtain ⟨g, ρ, S, r, p⟩ := h
  simp only [evO] at p
  exact p g H r Step.refl
theorem o_some {e : Expr} {ie : E} (he : PE X e (J.tE .B ie)) : PO X (some e) (J.tO (some ie)) := by
  refine PO.imp (po_some he) fun σ H Q h => ?_
  obtain ⟨g, ρ, S, r, p⟩ := h
  refine ⟨g, ρ, S, r, ?_⟩
  simp only [evO, pureO] at p
  cases ev : evE J.x ie ρ S with
  | ok v S1 =>
    rw [ev] at p
    intro u g' H' r' st mr
    simp only [R.bind] at p
    cases v with
    | int i => exact ⟨i, mr.R.int_of, p g' H' r' st⟩
    | _ => exact p.elim
  | exn c S1 => rw [ev] at p; exact p
  | stuck => rw [ev] at p; exact p
theorem tO_bindS {g : Gh} {H : Hp} {σ : L2.St} {ρ : Env} {S : Store} {q2 : Bool} {e : Option E} {f : Option Int → Store → R Val} {Q : VK} {Q1 : Option Int → Hp → Prop} (r : Rel J.k J.md g σ H ρ S) (h : J.Post m (pureO e && q2) g H σ ρ ((evO J.x e ρ S).bind f) Q)
    (hn : ∀ v S' g' H', evO J.x e ρ S = .ok v S' → Rel J.k J.md g' σ H' ρ S' → Step (pureO e) g H g' H' → J.Post m q2 g' H' σ ρ (f v S') Q → Q1 v H') : J.tO e σ H Q1 := by
  refine ⟨g, ρ, S, r, ?_⟩
  cases ev : evO J.x e ρ S with
  | ok v S1 =>
    rw [ev] at h
    exact fun g2 H2 r2 s => hn v S1 g2 H2 ev r2 s (post_after h s)
  | exn c S1 =>
    rw [ev] at h
    exact h
  | stuck =>
    rw [ev] at h
    exact h
theorem cutS_eq (s : Str) (lo hi : Option Int) : (⟨(cutL s.cps.toList lo hi).toArray⟩ : Str) = cutS s lo hi := by
  have e : s.cps.toList.length = s.length := by simp [Str.length]
  unfold cutL cutS
  rw [e]
theorem s_sl (hk : ∀ a us (H : Hp), J.k.kl a us → SqL X.K H a us) {a : Expr} {lo hi : Option Expr} {ia : E} {il ih : Option E} {p2 : Pos} (ha : PE X a (J.tE .B ia)) (hl : PO X lo (J.tO il)) (hh : PO X hi (J.tO ih)) : PE X (.Subscript a (.Slice lo hi none p2) pos) (J.tE m (.sl ia il ih)) := by
  refine PE.imp (pe_slice (sl_list.or sl_str) ha hl hh) fun σ H Q h => ?_
  obtain ⟨g, ρ, S, r, p⟩ := h
  have hq : pureE (.sl ia il ih) = (pureE ia && (pureO il && (pureO ih && true))) := by simp only [pureE, Bool.and_true, Bool.and_assoc]
  simp only [evE] at p
  rw [hq] at p
  refine tE_bindS r p fun v S1 u1 g1 H1 e1 r1 st1 mr1 p1 => ?_
  refine tO_bindS r1 p1 fun l S2 g2 H2 e2 r2 st2 p2 => ?_
  refine tO_bindS r2 p2 fun h S3 g3 H3 e3 r3 st3 p3 => ?_
  have h1 := deref_R r3.str (st3.mB (st2.mB mr1)).R
  cases es : slV (deref S3 v) l h with
  | none => rw [es] at p3; exact p3.elim
  | some z =>
    rw [es] at p3
    simp only [R.of] at p3
    generalize deref S3 v = v' at h1 es
    unfold slV at es
    split at es
    · cases es
      obtain ⟨a, us, rfl, ha, hs⟩ := h1.lst_of
      exact .inl ⟨a, us, rfl, .inl (.inl ha), fin_lst r3 (hs.cut l h) p3⟩
    · split at es
      · rename_i hz
        cases es
        refine .inr ⟨_, h1.str_of, szb_line hz, ?_⟩
        rw [cutS_eq] at p3
        exact fin_V r3 (fun m => MRep.str _) p3
      · cases es
    · cases es
      obtain ⟨a, rfl, hs⟩ := h1.scr_of hk
      refine .inl ⟨a, _, rfl, hs, fin_lst r3 ?_ p3⟩
      rw [show ∀ ns : List Int, cutV (ns.map V.int) l h = (cutL ns l h).map V.int from fun ns => cut_map V.int ns l h]
      exact VReps.ofInts _
    · cases es
end
end Pv
end

section
set_option Elab.async false
set_option linter.all false
set_option maxRecDepth 100000
set_option autoImplicit false
/-! Pv10: what is walked; targets. -/
namespace Pv
open PySem PySem.Spec PyProof.Rows L2

/-- a walk over things that stand for xs -/
def ItOk (k : Kx) (It : L2.It) (xs : List Val) (g : Gh) (H : Hp) : Prop := ∃ (Gd : Hp → Prop) (Y : Nat → Hp → V → Hp → Prop), L2.Walk It xs.length Gd Y ∧
  ∀ g2 H2, StepS g H g2 H2 → Gd H2 ∧ ∀ i x H', i < xs.length → Y i H2 x H' → ∃ v, xs[i]? = some v ∧
    ∀ md σ ρ S, Rel k md g2 σ H2 ρ S → ∃ g', Rel k md g' σ H' ρ S ∧ Step true g2 H2 g' H' ∧ MRep k g' H' .V v x
def Jx.tI (J : Jx) (e : E) : TI := fun σ H R => ∃ g ρ S, Rel J.k J.md g σ H ρ S ∧ match evE J.x e ρ S with
  | .ok v S' => ∃ xs, itemsV v = some xs ∧ ∀ It g' H', Rel J.k J.md g' σ H' ρ S' → Step (pureE e) g H g' H' → ItOk J.k It xs g' H' → R It H'
  | .exn c S' => J.exnP g H σ ρ c S'
  | .stuck => False
theorem PI.or {X : Cx} {tg it : Expr} {t1 t2 : TI} (h1 : PI X tg it t1) (h2 : PI X tg it t2) : PI X tg it (fun σ H R => t1 σ H R ∨ t2 σ H R) :=
  ⟨fun pins s σ H R I h => h.elim (h1.run pins s σ H R I) (h2.run pins s σ H R I)⟩
theorem PI.imp {X : Cx} {tg it : Expr} {t t' : TI} (h : PI X tg it t) (w : ∀ σ H Q, t' σ H Q → t σ H Q) : PI X tg it t' := ⟨fun pins s σ H Q I q => h.run pins s σ H Q I (w σ H Q q)⟩

section
variable {k : Kx} {g : Gh} {H : Hp} {F : Hp} {ι : Nat → Option Addr}
theorem VReps.get' : ∀ {xs : List Val} {us : List V} {i : Nat} {u : V}, VReps k F ι xs us → us[i]? = some u → ∃ x, xs[i]? = some x ∧ VRep k F ι x u
  | [], _, i, u, h, e => by
    simp only [VReps] at h
    subst h
    simp at e
  | x :: xs, _, 0, u, h, e => by
    simp only [VReps] at h
    obtain ⟨w, r, rfl, h1, _⟩ := h
    simp at e
    subst e
    exact ⟨x, rfl, h1⟩
  | x :: xs, _, i + 1, u, h, e => by
    simp only [VReps] at h
    obtain ⟨w, r, rfl, _, h2⟩ := h
    obtain ⟨y, e1, h3⟩ := VReps.get' h2 (i := i) (u := u) (by simpa using e)
    exact ⟨y, by simpa using e1, h3⟩
theorem itok_list {K : PySem.W.Frag} {a : Addr} {xs : List Val} {us : List V} (hl : lTag (g.T a) = true) (ha : H a = some (.lst us)) (hs : VReps k (fzP g H) g.ι xs us) : ItOk k (Itl K a) xs g H := by
  refine ⟨_, _, by rw [← hs.len]; exact walk_list, fun g2 H2 st => ?_⟩
  have hk : g.T a = .fz ∨ g.T a = .br := by
    cases e : g.T a <;> rw [e] at hl <;> first | (exact .inl rfl) | (exact .inr rfl) | cases hl
  refine ⟨.inl (.inl ((st.keep a hk).2.trans ha)), fun i x H' hi y => ?_⟩
  obtain ⟨rfl, y⟩ := y
  obtain ⟨v, e, hv⟩ := hs.get' y
  exact ⟨v, e, fun md σ ρ S r => ⟨g2, r, Step.refl, VRep.mono st.fz st.ι _ _ hv⟩⟩
theorem itok_tup {K : PySem.W.Frag} {a : Addr} {xs : List Val} {us : List V} (hl : g.T a = .fz) (ha : H a = some (.tup us)) (hs : VReps k (fzP g H) g.ι xs us) : ItOk k (Itt K a) xs g H := by
  refine ⟨_, _, by rw [← hs.len]; exact walk_tup, fun g2 H2 st => ?_⟩
  refine ⟨SqT.of ((st.keep a (.inl hl)).2.trans ha), fun i x H' hi y => ?_⟩
  obtain ⟨rfl, y⟩ := y
  obtain ⟨v, e, hv⟩ := hs.get' y
  exact ⟨v, e, fun md σ ρ S r => ⟨g2, r, Step.refl, VRep.mono st.fz st.ι _ _ hv⟩⟩
theorem itok_str {s : Str} : ItOk k (Its s) (s.cps.toList.map fun c => .str ⟨#[c]⟩) g H := by
  refine ⟨_, _, by rw [List.length_map, Array.length_toList]; exact walk_str, fun g2 H2 st => ?_⟩
  refine ⟨trivial, fun i x H' hi y => ?_⟩
  obtain ⟨rfl, c, e, rfl⟩ := y
  refine ⟨.str ⟨#[c]⟩, ?_, fun md σ ρ S r => ⟨g2, r, Step.refl, MRep.str _⟩⟩
  rw [List.getElem?_map, Array.getElem?_toList, e]
  rfl
theorem itok_rev {K : PySem.W.Frag} {a : Addr} {xs : List Val} {us : List V} (hl : lTag (g.T a) = true) (ha : H a = some (.lst us)) (hs : VReps k (fzP g H) g.ι xs us) : ItOk k (Itv K a us.length) xs.reverse g H := by
  refine ⟨_, _, by rw [List.length_reverse, ← hs.len]; exact walk_rev, fun g2 H2 st => ?_⟩
  have hk : g.T a = .fz ∨ g.T a = .br := by
    cases e : g.T a <;> rw [e] at hl <;> first | (exact .inl rfl) | (exact .inr rfl) | cases hl
  refine ⟨.inl (.inl ((st.keep a hk).2.trans ha)), fun i x H' hi y => ?_⟩
  obtain ⟨rfl, y⟩ := y
  obtain ⟨v, e, hv⟩ := hs.get' y
  rw [List.length_reverse] at hi
  refine ⟨v, ?_, fun md σ ρ S r => ⟨g2, r, Step.refl, VRep.mono st.fz st.ι _ _ hv⟩⟩
  rw [List.getElem?_reverse hi, ← hs.len]
  exact e
theorem upto_at : ∀ (n : Nat) (lo : Int) (i : Nat), i < n → (upto lo n)[i]? = some (.int (lo + i))
  | 0, _, _, h => absurd h (Nat.not_lt_zero _)
  | n + 1, lo, 0, _ => by simp [upto]
  | n + 1, lo, i + 1, h => by
    simp only [upto, List.getElem?_cons_succ]
    rw [upto_at n (lo + 1) i (by omega)]
    congr 2
    omega
theorem upto_len : ∀ (n : Nat) (lo : Int), (upto lo n).length = n
  | 0, _ => rfl
  | n + 1, lo => by simp only [upto, List.length_cons, upto_len n (lo + 1)]
theorem itok_range {lo : Int} {n : Nat} : ItOk k (Itr lo n) (upto lo n) g H := by
  refine ⟨_, _, by rw [upto_len]; exact walk_range, fun g2 H2 st => ?_⟩
  refine ⟨trivial, fun i x H' hi y => ?_⟩
  obtain ⟨rfl, rfl⟩ := y
  rw [upto_len] at hi
  exact ⟨_, upto_at n lo i hi, fun md σ ρ S r => ⟨g2, r, Step.refl, MRep.int _⟩⟩
theorem itok_rangeC {lo c : Int} {n : Nat} : ItOk k (Itc lo c n) ((List.range n).map fun i => .int (lo + Int.ofNat i * c)) g H := by
  refine ⟨_, _, by rw [List.length_map, List.length_range]; exact walk_rangeC, fun g2 H2 st => ?_⟩
  refine ⟨trivial, fun i x H' hi y => ?_⟩
  obtain ⟨rfl, rfl⟩ := y
  rw [List.length_map, List.length_range] at hi
  refine ⟨.int (lo + Int.ofNat i * c), ?_, fun md σ ρ S r => ⟨g2, r, Step.refl, MRep.int _⟩⟩
  rw [List.getElem?_map, List.getElem?_range hi]
  rfl
theorem itok_zip {K : PySem.W.Frag} {a b : Addr} {xs ys : List Val} {us ws : List V} (hl : lTag (g.T a) = true) (ha : H a = some (.lst us)) (hs : VReps k (fzP g H) g.ι xs us) (hl2 : lTag (g.T b) = true) (hb : H b = some (.lst ws)) (ht : VReps k (fzP g H) g.ι ys ws) :
    ItOk k (Itz K a b) ((xs.zip ys).map fun p => .tup [p.1, p.2]) g H := by
  refine ⟨_, _, walk_zip (n := _) (by rw [List.length_map, List.length_zip, ← hs.len, ← ht.len]), fun g2 H2 st => ?_⟩
  have key : ∀ {c : Addr}, lTag (g.T c) = true → g.T c = .fz ∨ g.T c = .br := fun {c} h => by
    cases e : g.T c <;> rw [e] at h <;> first | (exact .inl rfl) | (exact .inr rfl) | cases h
  refine ⟨⟨.inl (.inl ((st.keep a (key hl)).2.trans ha)), .inl (.inl ((st.keep b (key hl2)).2.trans hb))⟩, fun i x H' hi y => ?_⟩
  obtain ⟨T, x1, x2, rfl, hT, rfl, e1, e2⟩ := y
  obtain ⟨v1, f1, h1⟩ := hs.get' e1
  obtain ⟨v2, f2, h2⟩ := ht.get' e2
  refine ⟨.tup [v1, v2], ?_, fun md σ ρ S r => ?_⟩
  · rw [List.getElem?_map]
    have : (xs.zip ys)[i]? = some (v1, v2) := by
      rw [List.getElem?_zip_eq_some]
      exact ⟨f1, f2⟩
    rw [this]
    rfl
  · have hv : VReps k (fzP g2 H2) g2.ι [v1, v2] [x1, x2] := by
      simp only [VReps]
      exact ⟨x1, [x2], rfl, VRep.mono st.fz st.ι _ _ h1, x2, [], rfl, VRep.mono st.fz st.ι _ _ h2, rfl⟩
    exact ⟨_, put_rel r hT (.inl rfl), put_step (r.str.no_tag hT), mrep_tup (r.str.no_tag hT) hv⟩
end

section
variable {X : Cx} {J : Jx} {m : Md} {pos : Pos}
theorem tE_ok {e : E} {g : Gh} {H : Hp} {σ : L2.St} {ρ : Env} {S S' : Store} {v : Val} {Q : VK} (r : Rel J.k J.md g σ H ρ S) (ev : evE J.x e ρ S = .ok v S') (h : ∀ u g' H', Rel J.k J.md g' σ H' ρ S' → Step (pureE e) g H g' H' → MRep J.k g' H' m v u → Q u H') : J.tE m e σ H Q := by
  refine ⟨g, ρ, S, r, ?_⟩
  rw [ev]
  exact h
theorem tE_exn {e : E} {g : Gh} {H : Hp} {σ : L2.St} {ρ : Env} {S S' : Store} {c : Nat} {Q : VK} (r : Rel J.k J.md g σ H ρ S) (ev : evE J.x e ρ S = .exn c S') (h : J.exnP g H σ ρ c S') : J.tE m e σ H Q := by
  refine ⟨g, ρ, S, r, ?_⟩
  rw [ev]
  exact h
theorem i_val {tg e : Expr} {ie : E} (he : PE X e (J.tE .L ie)) : PI X tg e (J.tI ie) := by
  refine PI.imp (PI.or (pi_list he) (PI.or (pi_tup he) (pi_str he))) fun σ H R h => ?_
  obtain ⟨g, ρ, S, r, p⟩ := h
  cases ev : evE J.x ie ρ S with
  | ok v S' =>
    rw [ev] at p
    obtain ⟨xs, ei, p⟩ := p
    unfold itemsV at ei
    split at ei
    · cases ei
      refine .inl (tE_ok r ev fun u g' H' r' st mr => ?_)
      obtain ⟨a, us, rfl, ⟨hl, ha⟩, hs⟩ := (show ∃ a us, u = .ref a ∧ LP g' H' a (.lst us) ∧ _ from mr)
      exact ⟨a, rfl, ⟨us, .inl (.inl ha)⟩, p _ g' H' r' st (itok_list hl ha hs)⟩
    · cases ei
      refine .inr (.inl (tE_ok r ev fun u g' H' r' st mr => ?_))
      obtain ⟨a, us, rfl, ha, ta, hs⟩ := mr.R.tup_of
      exact ⟨a, rfl, ⟨us, SqT.of ha⟩, p _ g' H' r' st (itok_tup ta ha hs)⟩
    · cases ei
      refine .inr (.inr (tE_ok r ev fun u g' H' r' st mr => ?_))
      exact ⟨_, mr.R.str_of, p _ g' H' r' st itok_str⟩
    · cases ei
  | exn c S' =>
    rw [ev] at p
    exact .inl (tE_exn r ev p)
  | stuck => rw [ev] at p; exact p.elim
theorem tA_bindI {g : Gh} {H : Hp} {σ : L2.St} {ρ : Env} {S : Store} {es : List E} {ms : List Md} {Q1 : List V → Hp → Prop} (r : Rel J.k J.md g σ H ρ S)
    (hx : ∀ c S', evs J.x es ρ S = .exn c S' → J.exnP g H σ ρ c S') (hs : evs J.x es ρ S ≠ .stuck)
    (hn : ∀ vs S' us g' H', evs J.x es ρ S = .ok vs S' → Rel J.k J.md g' σ H' ρ S' → Step (pureEs es) g H g' H' → MReps J.k g' H' ms vs us → Q1 us H') : J.tA ms es σ H Q1 := by
  refine ⟨g, ρ, S, r, ?_⟩
  cases ev : evs J.x es ρ S with
  | ok v S1 => exact fun u g2 H2 r2 s mr => hn v S1 u g2 H2 ev r2 s mr
  | exn c S1 => exact hx c S1 ev
  | stuck => exact absurd ev hs
theorem MReps.one {k : Kx} {g : Gh} {H : Hp} {ms : List Md} {v : Val} {us : List V} (h : MReps k g H ms [v] us) : ∃ u, us = [u] ∧ MRep k g H (ms.headD .V) v u := by
  obtain ⟨u, r, rfl, h1, h2⟩ := h
  have h2 : r = [] := h2
  subst h2
  exact ⟨u, rfl, h1⟩
theorem MReps.two {k : Kx} {g : Gh} {H : Hp} {ms : List Md} {v w : Val} {us : List V} (h : MReps k g H ms [v, w] us) : ∃ u u', us = [u, u'] ∧ MRep k g H (ms.headD .V) v u ∧ MRep k g H (ms.tail.headD .V) w u' := by
  obtain ⟨u, r, rfl, h1, h2⟩ := h
  obtain ⟨u', rfl, h3⟩ := MReps.one h2
  exact ⟨u, u', rfl, h1, h3⟩
theorem MReps.three {k : Kx} {g : Gh} {H : Hp} {ms : List Md} {v w x : Val} {us : List V} (h : MReps k g H ms [v, w, x] us) : ∃ u u' u2, us = [u, u', u2] ∧ MRep k g H (ms.headD .V) v u ∧ MRep k g H (ms.tail.headD .V) w u' ∧ MRep k g H (ms.tail.tail.headD .V) x u2 := by
  obtain ⟨u, r, rfl, h1, h2⟩ := h
  obtain ⟨u', u2, rfl, h3, h4⟩ := MReps.two h2
  exact ⟨u, u', u2, rfl, h1, h3, h4⟩
theorem evE_rng (x : Cfg) (es : List E) (ρ : Env) (S : Store) : evE x (.rng es) ρ S = (evs x es ρ S).bind fun vs S1 => match rngV vs with
    | some xs => .ok (.lst xs) S1
    | none => .stuck := by simp only [evE] <;> rfl
theorem evs_len {x : Cfg} : ∀ {es : List E} {ρ : Env} {S S' : Store} {vs : List Val}, evs x es ρ S = .ok vs S' → vs.length = es.length
  | [], ρ, S, S', vs, h => by
    simp only [evs] at h
    cases h
    rfl
  | e :: es, ρ, S, S', vs, h => by
    simp only [evs] at h
    cases e1 : evE x e ρ S with
    | ok v S1 =>
      rw [e1] at h
      simp only [Pv.R.bind] at h
      cases e2 : evs x es ρ S1 with
      | ok ws S2 =>
        rw [e2] at h
        cases h
        rw [List.length_cons, List.length_cons, evs_len e2]
      | exn c S2 => rw [e2] at h; cases h
      | stuck => rw [e2] at h; cases h
    | exn c S1 => rw [e1] at h; cases h
    | stuck => rw [e1] at h; cases h
/-- what a range's reading says of its arguments -/
theorem rng_imp {es : List E} {σ : L2.St} {H : Hp} {RR : L2.It → Hp → Prop} {Q1 : List V → Hp → Prop} (h : J.tI (.rng es) σ H RR)
    (hn : ∀ vs us g' H', vs.length = es.length → MReps J.k g' H' [] vs us → (∃ xs, rngV vs = some xs ∧ ∀ It, ItOk J.k It xs g' H' → RR It H') → Q1 us H') : J.tA [] es σ H Q1 := by
  obtain ⟨g, ρ, S, r, p⟩ := h
  rw [evE_rng] at p
  refine tA_bindI r (fun c S' ev => ?_) (fun ev => ?_) fun vs S' us g' H' ev r' st mr => ?_
  · rw [ev] at p
    exact p
  · rw [ev] at p
    exact p
  · rw [ev] at p
    simp only [R.bind] at p
    refine hn vs us g' H' (evs_len ev) mr ?_
    cases er : rngV vs with
    | none => rw [er] at p; exact p.elim
    | some xs =>
      rw [er] at p
      obtain ⟨ys, ey, p⟩ := p
      cases ey
      exact ⟨_, rfl, fun It ok => p It g' H' r' (by simp only [pureE]; exact st) ok⟩
theorem i_rng1 {tg a : Expr} {ia : E} {p : Pos} (hg : Gl X "range") (hm : X.mg "range" = none) (ha : PA X [a] (J.tA [] [ia])) (hs : starEach [a] X.env = [(false, eval a X.env)]) : PI X tg (.Call (.Name "range" p) [a] [] pos) (J.tI (.rng [ia])) := by
  refine PI.imp (pi_range1 hg hm ha hs) fun σ H R h => ?_
  refine rng_imp h fun vs us g' H' hl mr hx => ?_
  obtain ⟨xs, er, ok⟩ := hx
  unfold rngV at er
  split at er
  · rename_i n
    split at er
    · rename_i hn
      cases er
      obtain ⟨u, rfl, h1⟩ := mr.one
      have e := h1.R.int_of
      subst e
      exact ⟨n, rfl, by omega, by omega, ok _ itok_range⟩
    · cases er
  · cases hl
  · cases hl
  · cases er
theorem i_rng2 {tg a b : Expr} {ia ib : E} {p : Pos} (hg : Gl X "range") (hm : X.mg "range" = none) (ha : PA X [a, b] (J.tA [] [ia, ib])) (hs : starEach [a, b] X.env = [(false, eval a X.env), (false, eval b X.env)]) (hs2 : starEach [b] X.env = [(false, eval b X.env)]) :
    PI X tg (.Call (.Name "range" p) [a, b] [] pos) (J.tI (.rng [ia, ib])) := by
  refine PI.imp (pi_range2 hg hm ha hs hs2) fun σ H R h => ?_
  refine rng_imp h fun vs us g' H' hl mr hx => ?_
  obtain ⟨xs, er, ok⟩ := hx
  unfold rngV at er
  split at er
  · cases hl
  · rename_i i j
    split at er
    · rename_i hn
      cases er
      obtain ⟨u, u', rfl, h1, h2⟩ := mr.two
      have e := h1.R.int_of
      have e' := h2.R.int_of
      subst e e'
      exact ⟨i, j, rfl, ⟨by omega, by omega, by omega, by omega⟩, ok _ itok_range⟩
    · cases er
  · cases hl
  · cases er
theorem rgc_pos {i j c : Int} (hi : i.natAbs < 2 ^ 61) (hj : j.natAbs < 2 ^ 61) (h0 : 0 < c) (h1 : c < 1000) : RgC i j c (rsz i j c) := by
  have hs : Builtin.Range.rangeSize i j c = (rsz i j c : Int) := by
    unfold Builtin.Range.rangeSize rsz
    rw [if_pos h0]
    split
    · have := Int.ediv_nonneg (a := j - i - 1) (b := c) (by omega) (by omega)
      omega
    · rfl
  have hb : rsz i j c ≤ (j - i).toNat := by
    unfold rsz
    split
    · have h2 := Int.ediv_le_self c (show (0 : Int) ≤ j - i - 1 by omega)
      omega
    · omega
  refine ⟨by omega, by omega, ?_, hs⟩
  unfold Builtin.Range.small
  rw [hs]
  simp only [Builtin.Range.rangeFitsLong, Bool.and_eq_true, Bool.or_eq_true, decide_eq_true_eq, beq_iff_eq, if_pos h0]
  omega
theorem i_rng3 {tg a b c : Expr} {ia ib ic : E} {p : Pos} (hg : Gl X "range") (hm : X.mg "range" = none) (ha : PA X [a, b, c] (J.tA [] [ia, ib, ic])) (hs : starEach [a, b, c] X.env = (false, eval a X.env) :: starEach [b, c] X.env)
    (hpl : (backTo pos (starEach [b, c] X.env)).any (·.1) = false) : PI X tg (.Call (.Name "range" p) [a, b, c] [] pos) (J.tI (.rng [ia, ib, ic])) := by
  refine PI.imp (pi_range3 hg hm ha hs hpl) fun σ H R h => ?_
  refine rng_imp h fun vs us g' H' hl mr hx => ?_
  obtain ⟨xs, er, ok⟩ := hx
  unfold rngV at er
  split at er
  · cases hl
  · cases hl
  · rename_i i j c
    obtain ⟨u, u', u2, rfl, h1, h2, h3⟩ := mr.three
    have e := h1.R.int_of
    have e' := h2.R.int_of
    have e2 := h3.R.int_of
    subst e e' e2
    split at er
    · rename_i hn
      cases er
      exact ⟨i, j, c, _, rfl, rgc_pos hn.1 hn.2.1 hn.2.2.1 hn.2.2.2, ok _ itok_rangeC⟩
    · split at er
      · rename_i hn
        cases er
        obtain ⟨h1, h2, rfl⟩ := hn
        exact ⟨i, j, -1, _, rfl, RgC.neg (by omega) (by omega) (by omega) (by omega), ok _ itok_rangeC⟩
      · cases er
  · cases er
theorem i_rev {tg e : Expr} {ie : E} {p : Pos} (hg : Gl X "reversed") (hm : X.mg "reversed" = none) (he : PE X e (J.tE .L ie)) (hs : starEach [e] X.env = (false, eval e X.env) :: starEach [] X.env) : PI X tg (.Call (.Name "reversed" p) [e] [] pos) (J.tI (.rev ie)) := by
  refine PI.imp (RT.pi_revA hg hm he hs) fun σ H RR h => ?_
  obtain ⟨g, ρ, S, r, p⟩ := h
  simp only [evE] at p
  cases ev : evE J.x ie ρ S with
  | ok v S' =>
    rw [ev] at p
    simp only [_root_.Pv.R.bind] at p
    refine tE_ok r ev fun u g' H' r' st mr => ?_
    cases v with
    | lst xs =>
      obtain ⟨ys, ey, p⟩ := p
      cases ey
      obtain ⟨a, us, rfl, ⟨hl, ha⟩, hs⟩ := (show ∃ a us, u = .ref a ∧ LP g' H' a (.lst us) ∧ _ from mr)
      exact ⟨a, us, rfl, .inl ⟨.inl (.inl ha), p _ g' H' r' (by simp only [pureE]; exact st) (itok_rev hl ha hs)⟩⟩
    | _ => exact p.elim
  | exn c S' =>
    rw [ev] at p
    exact tE_exn r ev p
  | stuck => rw [ev] at p; exact p.elim
theorem i_zip {elts : List Expr} {kk : Nat} {tpos : Pos} {a b : Expr} {ia ib : E} {p : Pos} (hg : Gl X "zip") (hm : X.mg "zip" = none) (ha : PA X [a, b] (J.tA [.L, .L] [ia, ib])) (hs : starEach [a, b] X.env = (false, eval a X.env) :: starEach [b] X.env)
    (hpl : (backTo pos (starEach [b] X.env)).any (·.1) = false) : PI X (.Tuple elts kk tpos) (.Call (.Name "zip" p) [a, b] [] pos) (J.tI (.zip ia ib)) := by
  refine PI.imp (RZ.pi_zipA hg hm ha hs hpl) fun σ H RR h => ?_
  obtain ⟨g, ρ, S, r, p⟩ := h
  have ev0 : evE J.x (.zip ia ib) ρ S = (evs J.x [ia, ib] ρ S).bind fun vs S' => match vs with
    | [.lst xs, .lst ys] => .ok (.lst ((xs.zip ys).map fun p => .tup [p.1, p.2])) S'
    | _ => .stuck := by
    simp only [evE, evs]
    cases evE J.x ia ρ S with
    | ok v S1 =>
      simp only [_root_.Pv.R.bind]
      cases evE J.x ib ρ S1 with
      | ok w S2 => cases v <;> cases w <;> rfl
      | exn c S2 => rfl
      | stuck => rfl
    | exn c S1 => rfl
    | stuck => rfl
  rw [ev0] at p
  refine tA_bindI r (fun c S' ev => ?_) (fun ev => ?_) fun vs S' us g' H' ev r' st mr => ?_
  · rw [ev] at p
    exact p
  · rw [ev] at p
    exact p
  · rw [ev] at p
    simp only [_root_.Pv.R.bind] at p
    split at p
    · obtain ⟨zs, ez, p⟩ := p
      rename_i e0
      split at e0
      · cases e0
        cases ez
        obtain ⟨u, u', rfl, h1, h2⟩ := mr.two
        obtain ⟨a, us, rfl, ⟨hl, ha⟩, hs⟩ := (show ∃ a us, u = .ref a ∧ LP g' H' a (.lst us) ∧ _ from h1)
        obtain ⟨b, ws, rfl, ⟨hl2, hb⟩, ht⟩ := (show ∃ a us, u' = .ref a ∧ LP g' H' a (.lst us) ∧ _ from h2)
        exact ⟨a, b, us, ws, rfl, .inl ⟨.inl (.inl ha), .inl (.inl hb), p _ g' H' r' (by simpa only [pureE, pureEs, Bool.and_true] using st) (itok_zip hl ha hs hl2 hb ht)⟩⟩
      · cases e0
    · rename_i e0
      split at e0
      · cases e0
      · cases e0
    · exact p.elim
end
end Pv
end

section
set_option Elab.async false
set_option linter.all false
set_option maxRecDepth 100000
set_option autoImplicit false
/-! Pv11: targets, comprehensions. -/
namespace Pv
open PySem PySem.Spec PyProof.Rows L2

/-! ### a slot is set -/
theorem set_at {α : Type} (l : List α) (i j : Nat) (x : α) : (l.set i x)[j]? = if i = j ∧ i < l.length then some x else l[j]? := by
  by_cases h : i = j
  · subst h
    by_cases hl : i < l.length
    · rw [List.getElem?_set_self hl, if_pos ⟨rfl, hl⟩]
    · rw [if_neg (fun z => hl z.2), List.getElem?_eq_none (by rw [List.length_set]; omega), List.getElem?_eq_none (by omega)]
  · rw [List.getElem?_set_ne h, if_neg (fun z => h z.1)]
section
variable {k : Kx} {md : Sl} {g : Gh} {H : Hp} {σ : L2.St} {ρ : Env} {S : Store}
/-- the suite's exception's slot is another -/
def hxOk (md : Sl) (i : Nat) : Prop := ∀ j a c, md.hx = some (j, a, c) → j ≠ i
theorem rel_set {i : Nat} {v : Val} {u : V} (r : Rel k md g σ H ρ S) (hx : hxOk md i) (h : SRep k g H i (md.l.getD i .shr) v u) : Rel k md g (σ.set i (some u)) H (ρ.set i (some v)) S := by
  refine ⟨by rw [List.length_set]; exact r.len, by rw [List.length_set]; exact r.lenσ, fun j w e => ?_, fun j a c e => ?_, r.str⟩
  · rw [set_at] at e
    rw [set_at]
    split at e
    · rename_i hj
      cases e
      obtain ⟨rfl, hl⟩ := hj
      refine ⟨u, ?_, h⟩
      rw [if_pos ⟨rfl, by rw [r.lenσ, ← r.len]; exact hl⟩]
    · rename_i hj
      rw [if_neg (fun z => hj ⟨z.1, by rw [r.len, ← r.lenσ]; exact z.2⟩)]
      exact r.slot j w e
  · have n := hx j a c e
    rw [set_at, set_at, if_neg (fun z => n z.1.symm), if_neg (fun z => n z.1.symm)]
    exact r.hx j a c e
/-- a slot is forgotten -/
theorem rel_drop {i : Nat} (r : Rel k md g σ H ρ S) (hx : hxOk md i) : Rel k md g σ H (ρ.set i none) S := by
  refine ⟨by rw [List.length_set]; exact r.len, r.lenσ, fun j w e => ?_, fun j a c e => ?_, r.str⟩
  · rw [set_at] at e
    split at e
    · cases e
    · exact r.slot j w e
  · have n := hx j a c e
    rw [set_at, if_neg (fun z => n z.1.symm)]
    exact r.hx j a c e
theorem rel_dropσ {i : Nat} (r : Rel k md g σ H ρ S) (hx : hxOk md i) : Rel k md g (σ.set i none) H (ρ.set i none) S := by
  refine ⟨by rw [List.length_set]; exact r.len, by rw [List.length_set]; exact r.lenσ, fun j w e => ?_, fun j a c e => ?_, r.str⟩
  · rw [set_at] at e
    split at e
    · cases e
    · rename_i hj
      rw [set_at, if_neg (fun z => hj ⟨z.1, by rw [r.len, ← r.lenσ]; exact z.2⟩)]
      exact r.slot j w e
  · have n := hx j a c e
    rw [set_at, set_at, if_neg (fun z => n z.1.symm), if_neg (fun z => n z.1.symm)]
    exact r.hx j a c e
end
def tgIs : Tg → List Nat
  | .one i => [i]
  | .many is => is
/-- slots that targets may have -/
def tgOk (md : Sl) (is : List Nat) : Prop := ∀ i ∈ is, md.l.getD i .shr = .shr ∧ hxOk md i
def Jx.tG (J : Jx) (tg : Tg) : TG := fun u σ H Q => ∃ g ρ S v ρ1, Rel J.k J.md g σ H ρ S ∧ MRep J.k g H .V v u ∧ bindT tg v ρ = some ρ1 ∧
  ∀ σ1, Rel J.k J.md g σ1 H ρ1 S → (∀ j, j ∉ tgIs tg → σ1[j]? = σ[j]?) → Q σ1 H
theorem PG.imp {X : Cx} {tg : Expr} {t t' : TG} (h : PG X tg t) (w : ∀ u σ H Q, t' u σ H Q → t u σ H Q) : PG X tg t' := ⟨fun pins s σ H v u Q I r q => h.run pins s σ H v u Q I r (w v σ H Q q)⟩
section
variable {X : Cx} {J : Jx} {m : Md} {pos : Pos}
theorem g_one {i : Nat} {x : Str} (hN : X.N.Nodup) (hi : X.N[i]? = some x) (hx : Loc X.env.scope x) (hf : X.fn x = true ∨ X.env.scope.names.lookup x = some .local) (ok : tgOk J.md [i]) : PG X (.Name x pos) (J.tG (.one i)) := by
  refine PG.imp (pg_name hN hi hx hf) fun u σ H Q h => ?_
  obtain ⟨g, ρ, S, v, ρ1, r, mr, eb, q⟩ := h
  cases eb
  obtain ⟨o1, o2⟩ := ok i List.mem_cons_self
  exact q _ (rel_set r o2 (by rw [o1]; exact mr)) fun j hj => by rw [set_at, if_neg (fun z => hj (by rw [z.1]; exact List.mem_cons_self))]
def gs : List Nat → TGs
  | [] => gNil
  | i :: r => gCons (gName i) (gs r)
theorem gs_run : ∀ {is : List Nat} {vs : List Val} {us : List V} {ρ ρ1 : Env} {σ : L2.St} {g : Gh} {H : Hp} {S : Store} {Q : L2.St → Hp → Prop}, tgOk J.md is → Rel J.k J.md g σ H ρ S → VReps J.k (fzP g H) g.ι vs us → bindMany is vs ρ = some ρ1 →
    (∀ σ1, Rel J.k J.md g σ1 H ρ1 S → (∀ j, j ∉ is → σ1[j]? = σ[j]?) → Q σ1 H) → gs is us σ H Q
  | [], [], us, ρ, ρ1, σ, g, H, S, Q, _, r, h, e, q => by
    simp only [VReps] at h
    simp only [bindMany, Option.some.injEq] at e
    subst h e
    exact ⟨rfl, q σ r fun _ _ => rfl⟩
  | [], _ :: _, _, _, _, _, _, _, _, _, _, _, _, e, _ => by simp [bindMany] at e
  | _ :: _, [], _, _, _, _, _, _, _, _, _, _, _, e, _ => by simp [bindMany] at e
  | i :: is, v :: vs, us, ρ, ρ1, σ, g, H, S, Q, ok, r, h, e, q => by
    simp only [VReps] at h
    obtain ⟨u, ur, rfl, h1, h2⟩ := h
    simp only [bindMany] at e
    obtain ⟨o1, o2⟩ := ok i List.mem_cons_self
    refine ⟨u, ur, rfl, ?_⟩
    have r1 := rel_set r o2 (u := u) (v := v) (by rw [o1]; exact h1)
    refine gs_run (fun j hj => ok j (List.mem_cons_of_mem _ hj)) r1 h2 e fun σ1 r2 hk => q σ1 r2 fun j hj => ?_
    rw [hk j (fun z => hj (List.mem_cons_of_mem _ z)), set_at, if_neg (fun z => hj (by rw [z.1]; exact List.mem_cons_self))]
theorem bindMany_len : ∀ {is : List Nat} {vs : List Val} {ρ ρ1 : Env}, bindMany is vs ρ = some ρ1 → vs.length = is.length
  | [], [], _, _, _ => rfl
  | [], _ :: _, _, _, e => by simp [bindMany] at e
  | _ :: _, [], _, _, e => by simp [bindMany] at e
  | i :: is, v :: vs, ρ, ρ1, e => by
    simp only [bindMany] at e
    rw [List.length_cons, List.length_cons, bindMany_len e]
/-- a row of names -/
inductive NamesAt (X : Cx) : List Expr → List Nat → Prop where
  | nil : NamesAt X [] []
  | cons {x : Str} {p : Pos} {i : Nat} {es : List Expr} {is : List Nat} (hi : X.N[i]? = some x) (hx : Loc X.env.scope x) (hf : X.fn x = true ∨ X.env.scope.names.lookup x = some .local) (r : NamesAt X es is) : NamesAt X (.Name x p :: es) (i :: is)
theorem NamesAt.each {X : Cx} {es : List Expr} {is : List Nat} (h : NamesAt X es is) : (assignEach es X.env).length = is.length ∧ (assignEach es X.env).findIdx? (·.1) = none := by
  induction h with
  | nil => exact ⟨rfl, rfl⟩
  | cons hi hx hf r ih =>
    refine ⟨?_, ?_⟩
    · show ((false, _) :: assignEach _ _).length = _
      rw [List.length_cons, List.length_cons, ih.1]
    · show List.findIdx? _ ((false, _) :: assignEach _ _) = none
      rw [List.findIdx?_cons]
      simp [ih.2]
theorem NamesAt.pgs {X : Cx} (hN : X.N.Nodup) {es : List Expr} {is : List Nat} (h : NamesAt X es is) : PGs X es (gs is) := by
  induction h with
  | nil => exact pgs_nil
  | cons hi hx hf r ih => exact pgs_cons (pg_name hN hi hx hf) ih
theorem g_many {is : List Nat} {es : List Expr} {kk : Nat} (hc : X.calm = true) (hN : X.N.Nodup) (hn : NamesAt X es is) (ok : tgOk J.md is) : PG X (.Tuple es kk pos) (J.tG (.many is)) := by
  refine PG.imp (pg_tup (n := is.length) hc (hn.pgs hN) hn.each.1 hn.each.2) fun u σ H Q h => ?_
  obtain ⟨g, ρ, S, v, ρ1, r, mr, eb, q⟩ := h
  unfold bindT at eb
  split at eb
  · cases eb
    rename_i h0
    cases h0
  · rename_i is' vs ρ' h0
    cases h0
    obtain ⟨a, us, rfl, ha, ta, hs⟩ := mr.R.tup_of
    exact ⟨a, us, rfl, SqT.of ha, by rw [hs.len]; exact bindMany_len eb, gs_run ok r hs eb q⟩
  · cases eb
end
end Pv
end

section
set_option Elab.async false
set_option linter.all false
set_option maxRecDepth 100000
set_option autoImplicit false
/-! Pv12: changes beside what is held; comprehensions. -/
namespace Pv
open PySem PySem.Spec PyProof.Rows L2

section
variable {k : Kx} {md : Sl} {g g' : Gh} {H H' : Hp} {σ : L2.St} {ρ : Env} {S S' : Store}
/-- what is held by frozen things, by callers and by the store stays -/
structure Keep (g : Gh) (H : Hp) (g' : Gh) (H' : Hp) : Prop where
  at' : ∀ a, g.T a = .fz ∨ g.T a = .br ∨ (∃ n, g.T a = .st n) ∨ (∃ n f, g.T a = .fo n f) → g'.T a = g.T a ∧ H' a = H a
  ι : ∀ n a, g.ι n = some a → g'.ι n = some a
theorem Keep.fz (h : Keep g H g' H') : ∀ b o, fzP g H b = some o → fzP g' H' b = some o := fun b o e => by
  obtain ⟨t, e⟩ := fzP_some e
  obtain ⟨t', e'⟩ := h.at' b (.inl t)
  exact fzP_of (t'.trans t) (e'.trans e)
theorem Keep.mV (h : Keep g H g' H') {v : Val} {u : V} (m : MRep k g H .V v u) : MRep k g' H' .V v u := VRep.mono h.fz h.ι _ _ m
theorem Keep.vs (h : Keep g H g' H') {v : List Val} {u : List V} (m : VReps k (fzP g H) g.ι v u) : VReps k (fzP g' H') g'.ι v u := VReps.mono h.fz h.ι _ _ m
theorem Keep.mL (h : Keep g H g' H') {v : Val} {u : V} (m : MRep k g H .L v u) : MRep k g' H' .L v u := by
  refine TRep.mono h.fz h.ι (fun b o r => ?_) _ _ m
  obtain ⟨t, r⟩ := r
  have hk : g.T b = .fz ∨ g.T b = .br := by
    cases e : g.T b <;> rw [e] at t <;> first | (exact .inl rfl) | (exact .inr rfl) | cases t
  obtain ⟨t', e'⟩ := h.at' b (hk.imp id .inl)
  exact ⟨by rw [t']; exact t, e'.trans r⟩
theorem Keep.sl (h : Keep g H g' H') {j : Nat} (hj : ∀ a, g.T a = .sl j → g'.T a = g.T a ∧ H' a = H a) {mo : Mode} {v : Val} {u : V} (m : SRep k g H j mo v u) : SRep k g' H' j mo v u := by
  cases mo with
  | shr => exact h.mV m
  | brw => exact h.mL m
  | own =>
    refine TRep.mono h.fz h.ι (fun b o r => ?_) _ _ m
    obtain ⟨t', e'⟩ := hj b r.1
    exact ⟨t'.trans r.1, e'.trans r.2⟩
theorem Keep.fs (h : Keep g H g' H') {c n : Nat} : ∀ {fs : List (Nat × Val)} {us : List (Str × V)}, FReps k g H c n fs us → FReps k g' H' c n fs us
  | [], _, m => m
  | (f, x) :: xs, _, m => by
    obtain ⟨u, r, e, h1, h2⟩ := m
    refine ⟨u, r, e, ?_, h.fs h2⟩
    split
    · rename_i ho
      rw [if_pos ho] at h1
      refine TRep.mono h.fz h.ι (fun b o r => ?_) _ _ h1
      obtain ⟨t', e'⟩ := h.at' b (.inr (.inr (.inr ⟨n, f, r.1⟩)))
      exact ⟨t'.trans r.1, e'.trans r.2⟩
    · rename_i ho
      rw [if_neg ho] at h1
      exact h.mV h1
theorem Keep.obj (h : Keep g H g' H') {n : Nat} {x : Addr} {o : SO} (t : g.T x = .st n) (m : ORep k g H n x o) : ORep k g' H' n x o := by
  obtain ⟨_, e⟩ := h.at' x (.inr (.inr (.inl ⟨n, t⟩)))
  cases o with
  | inst c fs =>
    obtain ⟨dx, us, h1, h2⟩ := m
    exact ⟨dx, us, e.trans h1, h.fs h2⟩
  | cell v =>
    obtain ⟨hc, m⟩ := m
    refine ⟨hc, TRep.mono h.fz h.ι (fun b ob r => ?_) _ _ m⟩
    obtain ⟨rfl, r⟩ := r
    exact ⟨rfl, e.trans r⟩
  | lk v =>
    obtain ⟨hc, m⟩ := m
    refine ⟨hc, TRep.mono h.fz h.ι (fun b ob r => ?_) _ _ m⟩
    obtain ⟨rfl, oo, r⟩ := r
    exact ⟨rfl, oo, e.trans r⟩
/-- the other facts of a state -/
structure Side (g : Gh) (H : Hp) (S : Store) : Prop where
  no : ∀ n, S.length ≤ n → g.ι n = none
  uniq : ∀ n f a b, g.T a = .fo n f → g.T b = .fo n f → a = b
  wf : ∀ a, g.T a ≠ .no → H a ≠ none
  tup : ∀ a xs, H a = some (.tup xs) → g.T a = .no ∨ g.T a = .fz
theorem SRel.side (r : SRel k g H S) : Side g H S := ⟨r.no, r.uniq, r.wf, r.tup⟩
theorem Keep.str (h : Keep g H g' H') (r : SRel k g H S) (s : Side g' H' S) : SRel k g' H' S :=
  ⟨fun n o e => by
    obtain ⟨x, i, t, m⟩ := r.obj n o e
    exact ⟨x, h.ι _ _ i, (h.at' x (.inr (.inr (.inl ⟨n, t⟩)))).1.trans t, h.obj t m⟩, s.no, s.uniq, s.wf, s.tup⟩
theorem Keep.rel (h : Keep g H g' H') (hs : ∀ j v, ρ[j]? = some (some v) → ∀ a, g.T a = .sl j → g'.T a = g.T a ∧ H' a = H a) (r : Rel k md g σ H ρ S) (s : Side g' H' S) : Rel k md g' σ H' ρ S :=
  ⟨r.len, r.lenσ, fun i v e => by
    obtain ⟨u, e2, m⟩ := r.slot i v e
    exact ⟨u, e2, h.sl (hs i v e) m⟩, r.hx, h.str r.str s⟩
/-- the slots as they were, another store -/
theorem rel_back {q : Bool} (r : Rel k md g σ H ρ S) (st : Step q g H g' H') (s : SRel k g' H' S') : Rel k md g' σ H' ρ S' :=
  ⟨r.len, r.lenσ, fun i v e => by
    obtain ⟨u, e2, m⟩ := r.slot i v e
    exact ⟨u, e2, st.mS m⟩, r.hx, s⟩
/-- a fresh result's own list is written -/
theorem keep_rt {D : Addr} {o : HO} (t : g.T D = .rt) : Keep g H g (upd H D o) := ⟨fun a h => ⟨rfl, upd_ne (fun e => by
  subst e
  rw [t] at h
  rcases h with h | h | ⟨_, h⟩ | ⟨_, _, h⟩ <;> cases h)⟩, fun _ _ h => h⟩
theorem side_upd {D : Addr} {o : HO} (s : Side g H S) (no : ∀ xs, o ≠ .tup xs) : Side g (upd H D o) S := by
  refine ⟨s.no, s.uniq, fun a ha => ?_, fun a xs e => ?_⟩
  · by_cases h : a = D
    · rw [h, upd_same]
      intro z
      cases z
    · rw [upd_ne h]
      exact s.wf a ha
  · by_cases h : a = D
    · rw [h, upd_same] at e
      exact absurd (Option.some.inj e) (no xs)
    · rw [upd_ne h] at e
      exact s.tup a xs e
theorem rel_rt {D : Addr} {o : HO} (t : g.T D = .rt) (r : Rel k md g σ H ρ S) (no : ∀ xs, o ≠ .tup xs) : Rel k md g σ (upd H D o) ρ S :=
  (keep_rt t).rel (fun j v e a ha => ⟨rfl, upd_ne fun z => by subst z; rw [t] at ha; cases ha⟩) r (side_upd r.str.side no)
theorem rel_retag {D : Addr} {o : HO} (t : g.T D = .rt) (hD : H D = some o) (r : Rel k md g σ H ρ S) (m : Md) : Rel k md (g.put D (tagM m)) σ H ρ S := by
  have ne : ∀ a, g.T a ≠ .rt → (g.put D (tagM m)).T a = g.T a := fun a h => put_ne fun e => h (by rw [e]; exact t)
  have hm : ∀ x, x = tagM m → x = .fz ∨ x = .rt := fun x e => by rw [e]; exact tagM_or m
  refine Keep.rel ⟨fun a h => ⟨ne a (by rcases h with h | h | ⟨_, h⟩ | ⟨_, _, h⟩ <;> rw [h] <;> intro z <;> cases z), rfl⟩, fun _ _ h => h⟩ (fun j v e a ha => ⟨ne a (by rw [ha]; intro z; cases z), rfl⟩) r ⟨r.str.no, fun n f a b ha hb => ?_, fun a ha => ?_, fun a xs e => ?_⟩
  · have h1 : a ≠ D := fun e => by rw [e, put_same] at ha; rcases tagM_or m with h | h <;> rw [h] at ha <;> cases ha
    have h2 : b ≠ D := fun e => by rw [e, put_same] at hb; rcases tagM_or m with h | h <;> rw [h] at hb <;> cases hb
    rw [put_ne h1] at ha
    rw [put_ne h2] at hb
    exact r.str.uniq n f a b ha hb
  · by_cases h : a = D
    · rw [h, hD]
      intro z
      cases z
    · rw [put_ne h] at ha
      exact r.str.wf a ha
  · by_cases h : a = D
    · subst h
      have := r.str.tup a xs e
      rw [t] at this
      rcases this with h | h <;> cases h
    · rw [put_ne h]
      exact r.str.tup a xs e
theorem step_put {q : Bool} {D : Addr} {t : Tag} (hD : g.T D = .no) (st : Step q g H g' H') : Step q g H (g'.put D t) H' := by
  have ne : ∀ a, g.T a ≠ .no → (g'.put D t).T a = g'.T a := fun a h => put_ne fun e => h (by rw [e]; exact hD)
  refine ⟨fun a h => ?_, fun a n h => ?_, fun a n f h => ?_, st.pure, st.ι⟩
  · rw [ne a (by rcases h with h | h | h | ⟨_, h⟩ <;> rw [h] <;> intro z <;> cases z)]
    exact st.keep a h
  · rw [ne a (by rw [h]; intro z; cases z)]
    exact st.st a n h
  · rw [ne a (by rw [h]; intro z; cases z)]
    exact st.fo a n f h
theorem step_upd {q : Bool} {D : Addr} {o : HO} (hD : g.T D = .no) (st : Step q g H g' H') : Step q g H g' (upd H' D o) := by
  have ne : ∀ a, g.T a ≠ .no → a ≠ D := fun a h e => h (by rw [e]; exact hD)
  refine ⟨fun a h => ?_, st.st, st.fo, fun hq a h => ?_, st.ι⟩
  · rw [upd_ne (ne a (by rcases h with h | h | h | ⟨_, h⟩ <;> rw [h] <;> intro z <;> cases z))]
    exact st.keep a h
  · rw [upd_ne (ne a (by rcases h with ⟨_, h⟩ | ⟨_, _, h⟩ <;> rw [h] <;> intro z <;> cases z))]
    exact st.pure hq a h
theorem mrep_rt {D : Addr} {av : List Val} {acc : List V} {m : Md} (t : g.T D = .rt) (hD : H D = some (.lst acc)) (h : VReps k (fzP g H) g.ι av acc) : MRep k (g.put D (tagM m)) H m (.lst av) (.ref D) := by
  have h2 : VReps k (fzP (g.put D (tagM m)) H) g.ι av acc := by
    refine VReps.mono (fun a o e => ?_) (fun _ _ h => h) _ _ h
    obtain ⟨t1, e1⟩ := fzP_some e
    exact fzP_of (by rw [put_ne (fun z => by subst z; rw [t] at t1; cases t1)]; exact t1) e1
  cases m with
  | V =>
    show VRep _ _ _ _ _
    simp only [VRep]
    exact ⟨D, acc, rfl, fzP_of put_same hD, h2⟩
  | L => exact ⟨D, acc, rfl, ⟨by rw [show (g.put D (tagM .L)).T D = .fz from put_same]; rfl, hD⟩, h2⟩
  | B => exact ⟨D, acc, rfl, ⟨by rw [show (g.put D (tagM .B)).T D = .fz from put_same]; rfl, hD⟩, h2⟩
  | P => exact ⟨D, acc, rfl, ⟨by rw [show (g.put D (tagM .P)).T D = .fz from put_same]; rfl, hD⟩, h2⟩
  | O => exact ⟨D, acc, rfl, ⟨put_same, hD⟩, h2⟩
end

/-! ### slots of a block forgotten -/
def wipeE (ρ : Env) : List Nat → Env
  | [] => ρ
  | v :: vs => (wipeE ρ vs).set v none
theorem rel_wipe {k : Kx} {md : Sl} {g : Gh} {H : Hp} {σ : L2.St} {ρ : Env} {S : Store} (r : Rel k md g σ H ρ S) : ∀ {vs : List Nat}, (∀ i ∈ vs, hxOk md i) → Rel k md g (wipe σ vs) H (wipeE ρ vs) S
  | [], _ => r
  | v :: vs, h => by
    unfold wipe wipeE
    exact rel_dropσ (rel_wipe r fun i hi => h i (List.mem_cons_of_mem _ hi)) (h v List.mem_cons_self)
theorem wipeE_set {ρ : Env} {i : Nat} {x : Option Val} : ∀ {vs : List Nat}, i ∉ vs → (wipeE ρ vs).set i x = wipeE (ρ.set i x) vs
  | [], _ => rfl
  | v :: vs, h => by
    unfold wipeE
    rw [← wipeE_set (fun z => h (List.mem_cons_of_mem _ z)), List.set_comm _ _ (fun e => h (by rw [e]; exact List.mem_cons_self))]
theorem bindMany_wipe : ∀ {is : List Nat} {vs : List Val} {ρ : Env}, is.Nodup → bindMany is vs (wipeE ρ is) = bindMany is vs ρ
  | [], _, _, _ => rfl
  | _ :: _, [], _, _ => rfl
  | i :: is, v :: vs, ρ, h => by
    obtain ⟨h1, h2⟩ := List.nodup_cons.mp h
    simp only [bindMany]
    rw [wipeE, List.set_set, wipeE_set h1, bindMany_wipe h2]
theorem bindT_wipe {tg : Tg} {v : Val} {ρ : Env} (h : (tgIs tg).Nodup) : bindT tg v (wipeE ρ (tgIs tg)) = bindT tg v ρ := by
  cases tg with
  | one i =>
    simp only [bindT, tgIs, wipeE]
    rw [List.set_set]
  | many is =>
    cases v with
    | tup vs => exact bindMany_wipe h
    | _ => rfl
theorem wipe_eq {σ τ : L2.St} {vs : List Nat} (hl : σ.length = τ.length) (h : ∀ j, j ∉ vs → σ[j]? = τ[j]?) : wipe σ vs = wipe τ vs := by
  have key : ∀ {vs : List Nat} {σ : L2.St} (j : Nat), (wipe σ vs)[j]? = if j ∈ vs ∧ j < σ.length then some none else σ[j]? := by
    intro vs
    induction vs with
    | nil =>
      intro σ j
      simp [wipe]
    | cons v vs ih =>
      intro σ j
      unfold wipe
      rw [set_at, ih j, wipe_length]
      by_cases e : v = j
      · subst e
        by_cases hl : v < σ.length
        · simp [hl]
        · simp [hl]
      · have e' : ¬ j = v := fun z => e z.symm
        simp [e, e']
  apply List.ext_getElem?
  intro j
  rw [key, key, hl]
  by_cases hj : j ∈ vs
  · by_cases hlt : j < τ.length
    · simp [hj, hlt]
    · rw [if_neg (fun z => hlt z.2), if_neg (fun z => hlt z.2), List.getElem?_eq_none (by omega), List.getElem?_eq_none (by omega)]
  · rw [if_neg (fun z => hj z.1), if_neg (fun z => hj z.1), h j hj]

/-! ### comprehensions -/
/-- one item of a comprehension -/
def compF (x : Cfg) (e : E) (tg : Tg) (cd : Option E) (ρ : Env) : Val → Store → R (Option Val) := fun y S => match bindT tg y ρ with
  | some ρ1 => (match evC x cd ρ1 S with
    | .ok true S1 => (match evE x e ρ1 S1 with
      | .ok w S2 => .ok (some w) S2
      | _ => .stuck)
    | .ok false S1 => .ok none S1
    | _ => .stuck)
  | none => .stuck
theorem evE_comp (x : Cfg) (e : E) (tg : Tg) (it : E) (cd : Option E) (ρ : Env) (S : Store) : evE x (.comp e tg it cd) ρ S = (evE x it ρ S).bind fun v S1 => match itemsV v with
    | some xs => if szb xs.length = true then (compL (compF x e tg cd ρ) xs S1).bind (fun vs S2 => .ok (.lst vs) S2) else .stuck
    | none => .stuck := by
  simp only [evE]
  rfl
theorem compL_ok {f : Val → Store → R (Option Val)} (hf : ∀ y S c S', f y S ≠ .exn c S') : ∀ (xs : List Val) (S : Store), (∃ vs S', compL f xs S = .ok vs S') ∨ compL f xs S = .stuck
  | [], S => .inl ⟨[], S, rfl⟩
  | x :: xs, S => by
    simp only [compL]
    cases e : f x S with
    | ok o S1 =>
      cases o with
      | some v =>
        simp only
        rcases compL_ok hf xs S1 with ⟨vs, S', h⟩ | h
        · rw [h]
          exact .inl ⟨_, _, rfl⟩
        · rw [h]
          exact .inr rfl
      | none => exact compL_ok hf xs S1
    | exn c S1 => exact absurd e (hf x S c S1)
    | stuck => exact .inr rfl
theorem compF_no {x : Cfg} {e : E} {tg : Tg} {cd : Option E} {ρ : Env} : ∀ y S c S', compF x e tg cd ρ y S ≠ .exn c S' := by
  intro y S c S' h
  unfold compF at h
  split at h
  · split at h
    · split at h <;> cases h
    · cases h
    · cases h
  · cases h
def Jx.tC (J : Jx) : Option E → TT
  | none => tYes
  | some c => J.tT c
/-- no exception leaves it -/
def Jx.calm (J : Jx) : Jx := { J with W := fun _ _ _ _ => False }
section
variable {X : Cx} {J : Jx} {m : Md} {pos : Pos}
theorem tC_bind {g : Gh} {H : Hp} {σ : L2.St} {ρ : Env} {S S' : Store} {cd : Option E} {b : Bool} {Q : Bool → Hp → Prop} (r : Rel J.k J.md g σ H ρ S) (ev : evC J.x cd ρ S = .ok b S')
    (h : ∀ g' H', Rel J.k J.md g' σ H' ρ S' → Step (pureO cd) g H g' H' → Q b H') : J.tC cd σ H Q := by
  cases cd with
  | none =>
    simp only [evC] at ev
    cases ev
    exact h g H r Step.refl
  | some c =>
    simp only [evC] at ev
    cases e : evE J.x c ρ S with
    | ok v S1 =>
      rw [e] at ev
      simp only [R.bind] at ev
      cases v with
      | bl d =>
        cases ev
        exact tE_ok r e fun u g' H' r' st mr => ⟨b, mr.R.bl_of, h g' H' r' st⟩
      | _ => cases ev
    | exn c S1 => rw [e] at ev; cases ev
    | stuck => rw [e] at ev; cases ev
theorem tI_bind {g : Gh} {H : Hp} {σ : L2.St} {ρ : Env} {S : Store} {q2 : Bool} {e : E} {f : Val → Store → R Val} {Q : VK} {Q1 : L2.It → Hp → Prop} (r : Rel J.k J.md g σ H ρ S) (h : J.Post m (pureE e && q2) g H σ ρ ((evE J.x e ρ S).bind f) Q)
    (hi : ∀ v S', evE J.x e ρ S = .ok v S' → itemsV v ≠ none)
    (hn : ∀ v S' xs It g' H', evE J.x e ρ S = .ok v S' → itemsV v = some xs → Rel J.k J.md g' σ H' ρ S' → ItOk J.k It xs g' H' → J.Post m q2 g' H' σ ρ (f v S') Q → Q1 It H') : J.tI e σ H Q1 := by
  refine ⟨g, ρ, S, r, ?_⟩
  cases ev : evE J.x e ρ S with
  | ok v S1 =>
    rw [ev] at h
    cases ei : itemsV v with
    | none => exact absurd ei (hi v S1 ev)
    | some xs => exact ⟨xs, ei, fun It g' H' r' st ok => hn v S1 xs It g' H' ev ei r' ok (post_after h st)⟩
  | exn c S1 => rw [ev] at h; exact h
  | stuck => rw [ev] at h; exact h
theorem comp_imp {ie iit : E} {tg : Tg} {icd : Option E} (hn : (tgIs tg).Nodup) (hok : tgOk J.md (tgIs tg)) (σ : L2.St) (H : Hp) (Q : VK) (h : J.tE m (.comp ie tg iit icd) σ H Q) :
    tLc (J.tI iit) (J.calm.tG tg) (J.calm.tC icd) (J.calm.tE .V ie) (tgIs tg) σ H Q := by
  obtain ⟨g, ρ, S, r, p⟩ := h
  have hq : pureE (.comp ie tg iit icd) = (pureE iit && (pureE ie && pureO icd)) := by
    simp only [pureE]
    cases pureE ie <;> cases pureE iit <;> cases pureO icd <;> rfl
  rw [evE_comp, hq] at p
  refine tI_bind r p (fun v S' ev z => ?_) fun v S1 xs It g1 H1 ev ei r1 ok p1 => ?_
  · rw [ev] at p
    simp only [_root_.Pv.R.bind, z] at p
    exact p
  simp only [ei] at p1
  split at p1
  case isFalse => exact p1.elim
  rename_i hz
  rcases compL_ok (compF_no (x := J.x) (e := ie) (tg := tg) (cd := icd) (ρ := ρ)) xs S1 with ⟨vs, S2, hc⟩ | hc
  case inr => rw [hc] at p1; exact p1.elim
  rw [hc] at p1
  simp only [_root_.Pv.R.bind] at p1
  intro D hD
  have hDn := r1.str.no_tag hD
  obtain ⟨Gd, Y, wk, st⟩ := ok
  refine lc_it wk (fun i H' => ∃ g' S' av acc rest, Rel J.k J.md g' σ H' ρ S' ∧ Step (pureE ie && pureO icd) g1 H1 g' H' ∧ g'.T D = .rt ∧ H' D = some (.lst acc) ∧ VReps J.k (fzP g' H') g'.ι av acc ∧ av.length ≤ i ∧
    compL (compF J.x ie tg icd ρ) (xs.drop i) S' = .ok rest S2 ∧ vs = av ++ rest) ?_ ?_ ?_ ?_
  · -- at the start
    refine ⟨_, S1, [], [], vs, put_rel r1 hD (.inr ⟨rfl, fun _ z => nomatch z⟩), (put_step hDn).any, put_same, upd_same, by simp only [VReps], Nat.le_refl _, hc, rfl⟩
  · rintro i H' hi ⟨g', S', av, acc, rest, r', st', tD, hD', hv, hl, hr, he⟩
    exact (st g' H' st'.toS).1
  · rintro i x H' H2 hi ⟨g', S', av, acc, rest, r', st', tD, hD', hv, hl, hr, he⟩ y
    obtain ⟨v0, hx, hy⟩ := (st g' H' st'.toS).2 i x H2 hi y
    obtain ⟨g2, r2, st2, mr2⟩ := hy J.md σ ρ S' r'
    have hdrop : xs.drop i = v0 :: xs.drop (i + 1) := by
      obtain ⟨hi', e⟩ := List.getElem?_eq_some_iff.mp hx
      rw [List.drop_eq_getElem_cons hi', e]
    rw [hdrop] at hr
    simp only [compL] at hr
    cases eb : bindT tg v0 ρ with
    | none => simp only [compF, eb] at hr; cases hr
    | some ρ1 =>
      have ef : compF J.x ie tg icd ρ v0 S' = (match evC J.x icd ρ1 S' with
        | .ok true S1 => (match evE J.x ie ρ1 S1 with
          | .ok w S2 => .ok (some w) S2
          | _ => .stuck)
        | .ok false S1 => .ok none S1
        | _ => .stuck) := by simp only [compF, eb]
      rw [ef] at hr
      refine ⟨g2, wipeE ρ (tgIs tg), S', v0, ρ1, rel_wipe r2 fun j hj => (hok j hj).2, mr2, by rw [bindT_wipe hn]; exact eb, fun σ1 r3 hk => ⟨?_, ?_⟩⟩
      · have hww : wipe (wipe σ (tgIs tg)) (tgIs tg) = wipe σ (tgIs tg) := wipe_eq (wipe_length _ _) fun j hj => by
          have : ∀ {vs : List Nat}, j ∉ vs → (wipe σ vs)[j]? = σ[j]? := by
            intro vs
            induction vs with
            | nil => intro _; rfl
            | cons w vs ih =>
              intro h
              unfold wipe
              rw [List.getElem?_set_ne (fun e => h (by rw [e]; exact List.mem_cons_self)), ih (fun z => h (List.mem_cons_of_mem _ z))]
          exact this hj
        rw [← hww]
        exact wipe_eq (by rw [r3.lenσ, wipe_length]; exact r.lenσ.symm) hk
      · cases ec : evC J.x icd ρ1 S' with
        | ok b S3 =>
          rw [ec] at hr
          refine tC_bind (J := J.calm) r3 ec fun g3 H3 r4 st3 => ?_
          have s13 : Step (pureE ie && pureO icd) g1 H1 g3 H3 := by
            have := (st'.trans st2).trans st3
            revert this
            cases pureE ie <;> cases pureO icd <;> intro z <;> exact z
          have st23 : Step (pureO icd) g' H' g3 H3 := by
            have := st2.trans st3
            rwa [Bool.true_and] at this
          have k3 := st23.keep D (.inr (.inr (.inl tD)))
          cases b with
          | false =>
            simp only [Bool.false_eq_true, if_false] at hr ⊢
            exact ⟨g3, S3, av, acc, rest, rel_back r' st23 r4.str, s13, k3.1.trans tD, k3.2.trans hD', st23.mVs hv, by omega, hr, he⟩
          | true =>
            simp only [if_true] at hr ⊢
            cases ee : evE J.x ie ρ1 S3 with
            | ok w S4 =>
              rw [ee] at hr
              simp only at hr
              refine tE_ok (J := J.calm) r4 ee fun u g4 H4 r5 st4 mr4 => ?_
              have s14 : Step (pureE ie && pureO icd) g1 H1 g4 H4 := by
                have := s13.trans st4
                revert this
                cases pureE ie <;> cases pureO icd <;> intro z <;> exact z
              have st34 := st23.trans st4
              have k4 := st34.keep D (.inr (.inr (.inl tD)))
              have tD4 := k4.1.trans tD
              have hv4 := st34.mVs hv
              have hlen : acc.length < sizeLine := by
                rw [hv.len]
                have := szb_lt hz
                omega
              refine ⟨acc, k4.2.trans hD', hlen, ?_⟩
              cases er : compL (compF J.x ie tg icd ρ) (xs.drop (i + 1)) S4 with
              | ok rest' S5 =>
                rw [er] at hr
                cases hr
                have kp := keep_rt (H := H4) (o := .lst (acc ++ [u])) tD4
                refine ⟨g4, S4, av ++ [w], acc ++ [u], rest', rel_rt tD4 (rel_back r' st34 r5.str) (fun _ z => nomatch z), step_upd hDn s14, tD4, upd_same, kp.vs (hv4.app (VReps.one mr4)), by rw [List.length_append, List.length_singleton]; omega, er, by rw [he]; simp⟩
              | exn c S5 => rw [er] at hr; cases hr
              | stuck => rw [er] at hr; cases hr
            | exn c S4 => rw [ee] at hr; cases hr
            | stuck => rw [ee] at hr; cases hr
        | exn c S3 => rw [ec] at hr; cases hr
        | stuck => rw [ec] at hr; cases hr
  · rintro H' ⟨g', S', av, acc, rest, r', st', tD, hD', hv, hl, hr, he⟩
    rw [List.drop_length] at hr
    simp only [compL] at hr
    cases hr
    rw [List.append_nil] at he
    subst he
    exact p1 _ _ _ (rel_retag tD hD' r' m) (step_put hDn st') (mrep_rt tD hD' hv)
end
end Pv
end

section
set_option Elab.async false
set_option linter.all false
set_option maxRecDepth 100000
set_option autoImplicit false
/-! Pv13: built-in functions. -/
namespace Pv
open PySem PySem.Spec PyProof.Rows L2

section
variable {X : Cx} {J : Jx} {m : Md} {pos : Pos}
/-- what a built-in's rule asks is had of its values -/
def BiOk (J : Jx) (m : Md) (b : Bi) (ms : List Md) (n : Nat) (rr : List V → Hp → VK → Prop) : Prop :=
  ∀ g H σ ρ S vs us z Q, vs.length = n → Rel J.k J.md g σ H ρ S → MReps J.k g H ms vs us → biV b (vs.map (deref S)) = some z → J.Post m true g H σ ρ (.ok z S) Q → rr us H Q
theorem bi_imp {b : Bi} {ies : List E} {ms : List Md} {rr : List V → Hp → VK → Prop} (hr : BiOk J m b ms ies.length rr) (σ : L2.St) (H : Hp) (Q : VK) (h : J.tE m (.bi b ies) σ H Q) : tCB rr (J.tA ms ies) σ H Q := by
  obtain ⟨g, ρ, S, r, p⟩ := h
  have hq : pureE (.bi b ies) = (pureEs ies && true) := by simp only [pureE, Bool.and_true]
  simp only [evE] at p
  rw [hq] at p
  refine tA_bind r p fun vs S1 us g1 H1 e1 r1 st mr p1 => ?_
  cases eb : biV b (vs.map (deref S1)) with
  | none => rw [eb] at p1; exact p1.elim
  | some z =>
    rw [eb] at p1
    exact hr g1 H1 σ ρ S1 vs us z Q (evs_len e1) r1 mr eb p1
theorem one_of {k : Kx} {g : Gh} {H : Hp} {S : Store} {ms : List Md} {vs : List Val} {us : List V} (hl : vs.length = 1) (s : SRel k g H S) (h : MReps k g H ms vs us) : ∃ v u, vs.map (deref S) = [v] ∧ us = [u] ∧ RRep k g H v u := by
  cases vs with
  | nil => cases hl
  | cons v r =>
    cases r with
    | nil =>
      obtain ⟨u, rfl, h1⟩ := h.one
      exact ⟨_, u, rfl, rfl, deref_R s h1.R⟩
    | cons w r => cases hl
theorem two_of' {k : Kx} {g : Gh} {H : Hp} {S : Store} {ms : List Md} {vs : List Val} {us : List V} (hl : vs.length = 2) (s : SRel k g H S) (h : MReps k g H ms vs us) : ∃ v w u x, vs.map (deref S) = [v, w] ∧ us = [u, x] ∧ RRep k g H v u ∧ RRep k g H w x := by
  cases vs with
  | nil => cases hl
  | cons v r =>
    cases r with
    | nil => cases hl
    | cons w r =>
      cases r with
      | nil =>
        obtain ⟨u, x, rfl, h1, h2⟩ := h.two
        exact ⟨_, _, u, x, rfl, rfl, deref_R s h1.R, deref_R s h2.R⟩
      | cons _ _ => cases hl
def rLen (K : PySem.W.Frag) : List V → Hp → VK → Prop := fun xs H Q => (∃ x n, xs = [x] ∧ LenV K x H n ∧ Q (.int n) H) ∨ (∃ a kvs, xs = [V.ref a] ∧ H a = some (.dK kvs) ∧ Q (.int kvs.length) H) ∨ rLenT xs H Q
theorem VKs.len {k : Kx} {F : Hp} {ι : Nat → Option Addr} : ∀ {xs : List (Key × Val)} {us : List (Key × V)}, VKs k F ι xs us → us.length = xs.length
  | [], _, h => by simp only [VKs] at h; subst h; rfl
  | (q, x) :: xs, _, h => by
    simp only [VKs] at h
    obtain ⟨u, r, e, _, h2⟩ := h
    subst e
    rw [List.length_cons, List.length_cons, VKs.len h2]
theorem VTs.len {k : Kx} {F : Hp} {ι : Nat → Option Addr} : ∀ {xs : List (List Key × Val)} {us : List (List Key × V)}, VTs k F ι xs us → us.length = xs.length
  | [], _, h => by simp only [VTs] at h; subst h; rfl
  | (q, x) :: xs, _, h => by
    simp only [VTs] at h
    obtain ⟨u, r, e, _, h2⟩ := h
    subst e
    rw [List.length_cons, List.length_cons, VTs.len h2]
theorem b_len {ms : List Md} (hk : ∀ a us (H : Hp), J.k.kl a us → SqL X.K H a us) : BiOk J m .len ms 1 (rLen X.K) := by
  intro g H σ ρ S vs us z Q hl r mr e p
  obtain ⟨v, u, e1, rfl, h⟩ := one_of hl r.str mr
  rw [e1] at e
  simp only [biV] at e
  unfold lenV at e
  cases v with
  | lst xs =>
    cases e
    obtain ⟨a, us, rfl, ha, hs⟩ := h.lst_of
    exact .inl ⟨_, xs.length, rfl, .inl ⟨us, .inl (.inl ha), hs.len.symm⟩, fin_V r (fun m => MRep.int _) p⟩
  | tup xs =>
    cases e
    obtain ⟨a, us, rfl, ha, ta, hs⟩ := h.tup_of
    exact .inl ⟨_, xs.length, rfl, .inr ⟨us, SqT.of ha, hs.len.symm⟩, fin_V r (fun m => MRep.int _) p⟩
  | str s =>
    simp only at e
    split at e
    · rename_i hz
      split at hz
      · rename_i hz2
        cases hz
        cases e
        rw [h.str_of]
        exact .inl ⟨_, s.length, rfl, ⟨szb_line hz2, rfl⟩, fin_V r (fun m => MRep.int _) p⟩
      · cases hz
    · cases e
  | scr ns =>
    cases e
    obtain ⟨a, rfl, hs⟩ := h.scr_of hk
    refine .inl ⟨_, ns.length, rfl, .inl ⟨_, hs, by rw [List.length_map]⟩, fin_V r (fun m => MRep.int _) p⟩
  | dK kvs =>
    cases e
    obtain ⟨a, us, rfl, ha, hs⟩ := h.dK_of
    refine .inr (.inl ⟨a, us, rfl, ha, ?_⟩)
    rw [hs.len]
    exact fin_V r (fun m => MRep.int _) p
  | dT kvs =>
    cases e
    obtain ⟨a, us, rfl, ha, hs⟩ := h.dT_of
    refine .inr (.inr ⟨a, us, rfl, ha, ?_⟩)
    rw [hs.len]
    exact fin_V r (fun m => MRep.int _) p
  | _ => cases e
def rAbs : List V → Hp → VK → Prop := fun xs H Q => ∃ i, xs = [V.int i] ∧ Q (.int (if i < 0 then -i else i)) H
theorem b_abs {ms : List Md} : BiOk J m .abs ms 1 rAbs := by
  intro g H σ ρ S vs us z Q hl r mr e p
  obtain ⟨v, u, e1, rfl, h⟩ := one_of hl r.str mr
  rw [e1] at e
  cases v with
  | int i =>
    simp only [biV] at e
    cases e
    rw [h.int_of]
    exact ⟨i, rfl, fin_V r (fun m => MRep.int _) p⟩
  | _ => cases e
def rMin2 : List V → Hp → VK → Prop := fun xs H Q => ∃ i j, xs = [V.int i, V.int j] ∧ Q (.int (if j < i then j else i)) H
def rMax2 : List V → Hp → VK → Prop := fun xs H Q => ∃ i j, xs = [V.int i, V.int j] ∧ Q (.int (if j > i then j else i)) H
theorem b_min2 {ms : List Md} : BiOk J m .min2 ms 2 rMin2 := by
  intro g H σ ρ S vs us z Q hl r mr e p
  obtain ⟨v, w, u, x, e1, rfl, h1, h2⟩ := two_of' hl r.str mr
  rw [e1] at e
  cases v <;> try cases e
  cases w <;> try cases e
  rw [h1.int_of, h2.int_of]
  exact ⟨_, _, rfl, fin_V r (fun m => MRep.int _) p⟩
theorem b_max2 {ms : List Md} : BiOk J m .max2 ms 2 rMax2 := by
  intro g H σ ρ S vs us z Q hl r mr e p
  obtain ⟨v, w, u, x, e1, rfl, h1, h2⟩ := two_of' hl r.str mr
  rw [e1] at e
  cases v <;> try cases e
  cases w <;> try cases e
  rw [h1.int_of, h2.int_of]
  exact ⟨_, _, rfl, fin_V r (fun m => MRep.int _) p⟩
theorem minI_mem : ∀ (r : List Int) (a : Int), minI a r ∈ a :: r
  | [], a => List.mem_cons_self
  | b :: r, a => by
    simp only [minI]
    have := minI_mem r (if b < a then b else a)
    rcases List.mem_cons.mp this with e | h
    · rw [e]
      split
      · exact List.mem_cons_of_mem _ List.mem_cons_self
      · exact List.mem_cons_self
    · exact List.mem_cons_of_mem _ (List.mem_cons_of_mem _ h)
theorem minI_le : ∀ (r : List Int) (a x : Int), x ∈ a :: r → minI a r ≤ x
  | [], a, x, h => by
    simp only [List.mem_singleton] at h
    subst h
    exact Int.le_refl _
  | b :: r, a, x, h => by
    simp only [minI]
    have key := minI_le r (if b < a then b else a)
    rcases List.mem_cons.mp h with e | h
    · have := key _ List.mem_cons_self
      subst e
      split at this <;> split <;> omega
    · rcases List.mem_cons.mp h with e | h
      · have := key _ List.mem_cons_self
        subst e
        split at this <;> split <;> omega
      · exact key x (List.mem_cons_of_mem _ h)
theorem maxI_mem : ∀ (r : List Int) (a : Int), maxI a r ∈ a :: r
  | [], a => List.mem_cons_self
  | b :: r, a => by
    simp only [maxI]
    have := maxI_mem r (if b > a then b else a)
    rcases List.mem_cons.mp this with e | h
    · rw [e]
      split
      · exact List.mem_cons_of_mem _ List.mem_cons_self
      · exact List.mem_cons_self
    · exact List.mem_cons_of_mem _ (List.mem_cons_of_mem _ h)
theorem le_maxI : ∀ (r : List Int) (a x : Int), x ∈ a :: r → x ≤ maxI a r
  | [], a, x, h => by
    simp only [List.mem_singleton] at h
    subst h
    exact Int.le_refl _
  | b :: r, a, x, h => by
    simp only [maxI]
    have key := le_maxI r (if b > a then b else a)
    rcases List.mem_cons.mp h with e | h
    · have := key _ List.mem_cons_self
      subst e
      split at this <;> split <;> omega
    · rcases List.mem_cons.mp h with e | h
      · have := key _ List.mem_cons_self
        subst e
        split at this <;> split <;> omega
      · exact key x (List.mem_cons_of_mem _ h)
theorem b_min1 {ms : List Md} : BiOk J m .min1 ms 1 (rMin X.K) := by
  intro g H σ ρ S vs us z Q hl r mr e p
  obtain ⟨v, u, e1, rfl, h⟩ := one_of hl r.str mr
  rw [e1] at e
  cases v <;> try cases e
  rename_i xs
  simp only [biV] at e
  split at e
  · rename_i i is ei
    cases e
    obtain ⟨a, us, rfl, ha, hs⟩ := h.lst_of
    have := hs.ints ei
    subst this
    refine ⟨a, i :: is, rfl, .inl (.inl ha), Nat.succ_pos _, fun mm h1 h2 => ?_⟩
    have e3 : mm = minI i is := Int.le_antisymm (h2 _ (minI_mem is i)) (minI_le is i mm h1)
    rw [e3]
    exact fin_V r (fun m => MRep.int _) p
  · cases e
theorem b_max1 {ms : List Md} : BiOk J m .max1 ms 1 (rMax X.K) := by
  intro g H σ ρ S vs us z Q hl r mr e p
  obtain ⟨v, u, e1, rfl, h⟩ := one_of hl r.str mr
  rw [e1] at e
  cases v <;> try cases e
  rename_i xs
  simp only [biV] at e
  split at e
  · rename_i i is ei
    cases e
    obtain ⟨a, us, rfl, ha, hs⟩ := h.lst_of
    have := hs.ints ei
    subst this
    refine ⟨a, i :: is, rfl, .inl (.inl ha), Nat.succ_pos _, fun mm h1 h2 => ?_⟩
    have e3 : mm = maxI i is := Int.le_antisymm (le_maxI is i mm h1) (h2 _ (maxI_mem is i))
    rw [e3]
    exact fin_V r (fun m => MRep.int _) p
  · cases e
theorem b_sum {ms : List Md} : BiOk J m .sum ms 1 (rSum X.K) := by
  intro g H σ ρ S vs us z Q hl r mr e p
  obtain ⟨v, u, e1, rfl, h⟩ := one_of hl r.str mr
  rw [e1] at e
  cases v <;> try cases e
  simp only [biV] at e
  split at e
  · rename_i is ei
    cases e
    obtain ⟨a, us, rfl, ha, hs⟩ := h.lst_of
    have := hs.ints ei
    subst this
    exact ⟨a, is, rfl, .inl (.inl ha), fin_V r (fun m => MRep.int _) p⟩
  · cases e
theorem b_any {ms : List Md} : BiOk J m .any ms 1 (rAny X.K) := by
  intro g H σ ρ S vs us z Q hl r mr e p
  obtain ⟨v, u, e1, rfl, h⟩ := one_of hl r.str mr
  rw [e1] at e
  cases v <;> try cases e
  simp only [biV] at e
  split at e
  · rename_i is ei
    cases e
    obtain ⟨a, us, rfl, ha, hs⟩ := h.lst_of
    have := hs.bools ei
    subst this
    exact ⟨a, is, rfl, .inl (.inl ha), fin_V r (fun m => MRep.bl _) p⟩
  · cases e
theorem b_all {ms : List Md} : BiOk J m .all ms 1 (rAll X.K) := by
  intro g H σ ρ S vs us z Q hl r mr e p
  obtain ⟨v, u, e1, rfl, h⟩ := one_of hl r.str mr
  rw [e1] at e
  cases v <;> try cases e
  simp only [biV] at e
  split at e
  · rename_i is ei
    cases e
    obtain ⟨a, us, rfl, ha, hs⟩ := h.lst_of
    have := hs.bools ei
    subst this
    exact ⟨a, is, rfl, .inl (.inl ha), fin_V r (fun m => MRep.bl _) p⟩
  · cases e
def rListOf (K : PySem.W.Frag) : List V → Hp → VK → Prop := fun xs H Q => (∃ p ys, xs = [.ref p] ∧ (SqL K H p ys ∨ SqT K H p ys) ∧ ∀ l, H l = none → Q (.ref l) (upd H l (.lst ys))) ∨
  (∃ (a : Addr) (kvs : List (L2.Key × V)), xs = [.ref a] ∧ Rd H a (.dK kvs) ∧ ∀ p, H p = none → Q (.ref p) (upd H p (.lst (kvs.map fun kv => kV kv.1))))
theorem kV_unkey {k : Kx} {F : Hp} {ι : Nat → Option Addr} (q : Key) : VRep k F ι (unkey q) (kV q) := by
  cases q <;> simp only [unkey, VRep] <;> rfl
theorem VKs.keys {k : Kx} {F : Hp} {ι : Nat → Option Addr} : ∀ {xs : List (Key × Val)} {us : List (Key × V)}, VKs k F ι xs us → VReps k F ι (xs.map fun kv => unkey kv.1) (us.map fun kv => kV kv.1)
  | [], _, h => by
    simp only [VKs] at h
    subst h
    simp only [List.map_nil, VReps]
  | (q, x) :: xs, _, h => by
    simp only [VKs] at h
    obtain ⟨u, r, e, _, h2⟩ := h
    subst e
    simp only [List.map_cons, VReps]
    exact ⟨_, _, rfl, kV_unkey q, VKs.keys h2⟩
theorem b_list {ms : List Md} : BiOk J m .list ms 1 (rListOf X.K) := by
  intro g H σ ρ S vs us z Q hl r mr e p
  obtain ⟨v, u, e1, rfl, h⟩ := one_of hl r.str mr
  rw [e1] at e
  cases v with
  | lst xs =>
    simp only [biV] at e
    cases e
    obtain ⟨a, us, rfl, ha, hs⟩ := h.lst_of
    exact .inl ⟨a, us, rfl, .inl (.inl (.inl ha)), fin_lst r hs p⟩
  | tup xs =>
    simp only [biV] at e
    cases e
    obtain ⟨a, us, rfl, ha, ta, hs⟩ := h.tup_of
    exact .inl ⟨a, us, rfl, .inr (SqT.of ha), fin_lst r hs p⟩
  | dK kvs =>
    simp only [biV] at e
    cases e
    obtain ⟨a, us, rfl, ha, hs⟩ := h.dK_of
    exact .inr ⟨a, us, rfl, .inl ha, fin_lst r hs.keys p⟩
  | _ => cases e
def rStrOf : List V → Hp → VK → Prop := fun xs H Q => (∃ i, xs = [V.int i] ∧ i.natAbs.log2 < 1920 ∧ Q (.str (toString i)) H) ∨ ∃ a, xs = [V.str a] ∧ Q (.str a) H
theorem b_str {ms : List Md} : BiOk J m .str ms 1 rStrOf := by
  intro g H σ ρ S vs us z Q hl r mr e p
  obtain ⟨v, u, e1, rfl, h⟩ := one_of hl r.str mr
  rw [e1] at e
  cases v with
  | int i =>
    simp only [biV] at e
    split at e
    · rename_i hi
      cases e
      rw [h.int_of]
      exact .inl ⟨i, rfl, hi, fin_V r (fun m => MRep.str _) p⟩
    · cases e
  | str s =>
    simp only [biV] at e
    cases e
    rw [h.str_of]
    exact .inr ⟨s, rfl, fin_V r (fun m => MRep.str _) p⟩
  | _ => cases e
def rIntOf : List V → Hp → VK → Prop := fun xs H Q => ((∃ i, xs = [V.int i] ∧ Q (.int i) H) ∨ ∃ k, xs = [V.bl k] ∧ Q (.int (if k then 1 else 0)) H) ∨ ∃ a n, xs = [V.str a] ∧ PySem.intText? a = some n ∧ a.length ≤ 640 ∧ Q (.int n) H
theorem b_int {ms : List Md} : BiOk J m .int ms 1 rIntOf := by
  intro g H σ ρ S vs us z Q hl r mr e p
  obtain ⟨v, u, e1, rfl, h⟩ := one_of hl r.str mr
  rw [e1] at e
  cases v with
  | int i =>
    simp only [biV] at e
    cases e
    rw [h.int_of]
    exact .inl (.inl ⟨i, rfl, fin_V r (fun m => MRep.int _) p⟩)
  | bl b =>
    simp only [biV] at e
    cases e
    rw [h.bl_of]
    exact .inl (.inr ⟨b, rfl, fin_V r (fun m => MRep.int _) p⟩)
  | str s =>
    simp only [biV] at e
    split at e
    · rename_i hz
      split at e
      · rename_i n hn
        cases e
        rw [h.str_of]
        exact .inr ⟨s, n, rfl, hn, hz, fin_V r (fun m => MRep.int _) p⟩
      · cases e
    · cases e
  | _ => cases e

/-! ### isinstance -/
def tyN : Ty → String
  | .int => "int"
  | .bool => "bool"
  | .str => "str"
  | .list => "list"
  | .tuple => "tuple"
  | .dict => "dict"
  | .valueError => "ValueError"
  | .cls _ => ""
def tyB : Ty → Bool
  | .int => true
  | .bool => true
  | .str => true
  | .list => true
  | .tuple => true
  | .dict => true
  | _ => false
/-- data's types -/
def flatTy : Val → Bool
  | .obj _ _ => false
  | .ref _ => false
  | .exc _ => false
  | .scr _ => false
  | _ => true
theorem isi_r {K : PySem.W.Frag} {k : Kx} {g : Gh} {H : Hp} {G : Prog} {S : Store} {v : Val} {u : V} {t : Ty} {b : Bool} (hb : tyB t = true) (hf : flatTy v = true) (h : RRep k g H v u) (e : tyV G S v t = some b) :
    ∃ tv, TyX K H u tv ∧ PySem.W.kitOne K tv (.type (tyN t)) = some b := by
  cases v with
  | non =>
    rw [h.non_of]
    refine ⟨_, .base .non, ?_⟩
    simp only [tyV] at e
    cases e
    cases t <;> first | exact Bool.noConfusion hb | exact kit_ty (by decide +kernel)
  | bl x =>
    rw [h.bl_of]
    refine ⟨_, .base (.bl x), ?_⟩
    simp only [tyV] at e
    cases e
    cases t <;> first | exact Bool.noConfusion hb | exact kit_ty (by decide +kernel)
  | int i =>
    rw [h.int_of]
    refine ⟨_, .base (.int i), ?_⟩
    simp only [tyV] at e
    cases e
    cases t <;> first | exact Bool.noConfusion hb | exact kit_ty (by decide +kernel)
  | str s =>
    rw [h.str_of]
    refine ⟨_, .base (.str s), ?_⟩
    simp only [tyV] at e
    cases e
    cases t <;> first | exact Bool.noConfusion hb | exact kit_ty (by decide +kernel)
  | lst xs =>
    obtain ⟨a, us, rfl, ha, _⟩ := h.lst_of
    simp only [tyV] at e
    cases e
    exact ⟨_, .base (.lst ha), by cases t <;> first | exact Bool.noConfusion hb | exact kit_ty (by decide +kernel)⟩
  | tup xs =>
    obtain ⟨a, us, rfl, ha, ta, _⟩ := h.tup_of
    simp only [tyV] at e
    cases e
    exact ⟨_, .base (.tup ha), by cases t <;> first | exact Bool.noConfusion hb | exact kit_ty (by decide +kernel)⟩
  | dK kvs =>
    obtain ⟨a, us, rfl, ha, _⟩ := h.dK_of
    simp only [tyV] at e
    cases e
    exact ⟨_, .base (.dK ha), by cases t <;> first | exact Bool.noConfusion hb | exact kit_ty (by decide +kernel)⟩
  | dT kvs =>
    obtain ⟨a, us, rfl, ha, _⟩ := h.dT_of
    simp only [tyV] at e
    cases e
    exact ⟨_, .base (.dT ha), by cases t <;> first | exact Bool.noConfusion hb | exact kit_ty (by decide +kernel)⟩
  | _ => cases hf
end
end Pv
end

section
set_option Elab.async false
set_option linter.all false
set_option maxRecDepth 100000
set_option autoImplicit false
/-! Pv13d: min, max with default=None. -/
namespace Pv
open PySem PySem.Spec PyProof.Rows L2
theorem minOf_eq : ∀ (r : List Int) (a : Int), PySem.W.minOf a r = minI a r
  | [], a => rfl
  | b :: r, a => by
    have h := minOf_eq r (if b < a then b else a)
    unfold PySem.W.minOf at h ⊢
    rw [List.foldl_cons, minI, ← h]
    congr 1
    show (if decide (b < a) = true then b else a) = _
    simp only [decide_eq_true_eq]
theorem maxOf_eq : ∀ (r : List Int) (a : Int), PySem.W.maxOf a r = maxI a r
  | [], a => rfl
  | b :: r, a => by
    have h := maxOf_eq r (if b > a then b else a)
    unfold PySem.W.maxOf at h ⊢
    rw [List.foldl_cons, maxI, ← h]
    congr 1
    show (if decide (a < b) = true then b else a) = _
    simp only [decide_eq_true_eq]
theorem ints_hold {h : Heap} : ∀ {vs : List Value} {ns : List Int}, IntsAre vs ns → PySem.W.HoldAll h vs ns
  | _, _, .nil => ⟨[], .nil⟩
  | _, _, .cons _ _ r => PySem.W.HoldAll.cons (PySem.W.holds_int _ _) (ints_hold r)
section
variable {X : Cx} {J : Jx} {m : Md} {pos : Pos}
def optI (f : Int → List Int → Int) : List Int → V
  | [] => .non
  | i :: is => .int (f i is)
def rMnD (K : PySem.W.Frag) (f : Int → List Int → Int) : List V → List V → Hp → VK → Prop := fun vs zs H Q => ∃ (a : Addr) (ns : List Int), vs = [V.ref a] ∧ zs = [V.non] ∧ SqL K H a (ns.map V.int) ∧ Q (optI f ns) H
theorem cr_minD (hc : X.calm = true) (hu : X.A.units + 65 < cLine) : CallRK X (.builtin "min") [Str.ofString "default"] (rMnD X.K minI) := by
  intro pins s σ H vs zs us ws Q I r rz h
  obtain ⟨a, ns, rfl, rfl, hs, q⟩ := h
  obtain rfl := Vals.ref1 r
  obtain ⟨w1, rfl, e1⟩ := vals1 rz
  obtain rfl : w1 = Value.none := e1
  obtain ⟨its, rv, hl, _⟩ := I.list hs
  have hi := rv.ints
  refine PySem.W.min_list_datum_default (α := Int) (xs := ns) (I.ok.hd hc) hl.isList (by simpa using ints_hold hi) (by
    have : PySem.W.Datum.depth Int ≤ 60 := by decide
    omega) (fun e h' tk hk => ?_) fun y ys i v h' tk e hi' hv hk => ?_
  · subst e
    exact ⟨.non, H, I.kept hk, rfl, q⟩
  · subst e
    obtain ⟨t, rfl⟩ := PySem.W.int_of_holds hv
    rw [minOf_eq]
    exact ⟨.int _, H, I.kept hk, ⟨_, rfl⟩, q⟩
theorem cr_maxD (hc : X.calm = true) (hu : X.A.units + 65 < cLine) : CallRK X (.builtin "max") [Str.ofString "default"] (rMnD X.K maxI) := by
  intro pins s σ H vs zs us ws Q I r rz h
  obtain ⟨a, ns, rfl, rfl, hs, q⟩ := h
  obtain rfl := Vals.ref1 r
  obtain ⟨w1, rfl, e1⟩ := vals1 rz
  obtain rfl : w1 = Value.none := e1
  obtain ⟨its, rv, hl, _⟩ := I.list hs
  have hi := rv.ints
  refine PySem.W.max_list_datum_default (α := Int) (xs := ns) (I.ok.hd hc) hl.isList (by simpa using ints_hold hi) (by
    have : PySem.W.Datum.depth Int ≤ 60 := by decide
    omega) (fun e h' tk hk => ?_) fun y ys i v h' tk e hi' hv hk => ?_
  · subst e
    exact ⟨.non, H, I.kept hk, rfl, q⟩
  · subst e
    obtain ⟨t, rfl⟩ := PySem.W.int_of_holds hv
    rw [maxOf_eq]
    exact ⟨.int _, H, I.kept hk, ⟨_, rfl⟩, q⟩
def bdN : Bi → Bool
  | .minD => true
  | .maxD => true
  | _ => false
theorem b_minD {a : Addr} {g : Gh} {H : Hp} {σ : L2.St} {ρ : Env} {S : Store} {v : Val} {u : V} {Q : VK} (r : Rel J.k J.md g σ H ρ S) {z : Val} (h : RRep J.k g H v u) (e : biV .minD [v] = some z) (p : J.Post m true g H σ ρ (.ok z S) Q) : rMnD X.K minI [u] [V.non] H Q := by
  cases v <;> try cases e
  rename_i xs
  simp only [biV] at e
  obtain ⟨a, us, rfl, ha, hs⟩ := h.lst_of
  split at e
  · rename_i i is ei
    cases e
    have := hs.ints ei
    subst this
    exact ⟨a, i :: is, rfl, rfl, .inl (.inl ha), fin_V r (fun m => MRep.int _) p⟩
  · rename_i ei
    cases e
    have := hs.ints ei
    subst this
    exact ⟨a, [], rfl, rfl, .inl (.inl ha), fin_V r (fun m => MRep.non) p⟩
  · cases e
theorem b_maxD {a : Addr} {g : Gh} {H : Hp} {σ : L2.St} {ρ : Env} {S : Store} {v : Val} {u : V} {Q : VK} (r : Rel J.k J.md g σ H ρ S) {z : Val} (h : RRep J.k g H v u) (e : biV .maxD [v] = some z) (p : J.Post m true g H σ ρ (.ok z S) Q) : rMnD X.K maxI [u] [V.non] H Q := by
  cases v <;> try cases e
  rename_i xs
  simp only [biV] at e
  obtain ⟨a, us, rfl, ha, hs⟩ := h.lst_of
  split at e
  · rename_i i is ei
    cases e
    have := hs.ints ei
    subst this
    exact ⟨a, i :: is, rfl, rfl, .inl (.inl ha), fin_V r (fun m => MRep.int _) p⟩
  · rename_i ei
    cases e
    have := hs.ints ei
    subst this
    exact ⟨a, [], rfl, rfl, .inl (.inl ha), fin_V r (fun m => MRep.non) p⟩
  · cases e
theorem st_one {e : Expr} {env : PySem.Env} (h : starEach [e] env = (false, eval e env) :: starEach [] env) (pos : Pos) : backTo pos (starEach [e] env) = (false, eval e env) :: backTo pos (starEach [] env) := by
  rw [h]
  rfl
theorem s_mnD {b : Bi} {e : Expr} {ie : E} {p p2 kp : Pos} {j : Nat} {x : Str} (hb : (b = .minD ∧ x = "min") ∨ (b = .maxD ∧ x = "max")) (hc : X.calm = true) (hu : X.A.units + 65 < cLine) (hg : Gl X x) (hm : X.mg x = none) (ha : PA X [e] (J.tA [.P] [ie])) (h1 : ∀ {env : PySem.Env}, starEach [e] env = (false, eval e env) :: starEach [] env) :
    PE X (.Call (.Name x p) [e] [⟨some (Str.ofString "default"), .Constant .none j p2, kp⟩] pos) (J.tE m (.bi b [ie])) := by
  have h2 : (backTo pos (starEach [e] X.env)).any (·.1) = false := by
    rw [st_one h1 pos]
    rfl
  rcases hb with ⟨rfl, rfl⟩ | ⟨rfl, rfl⟩
  · refine PE.imp (pe_callBK (cr_minD hc hu) hg hm boot_min ha (pk_cons pe_non pk_nil) (he := st_one h1 pos) (hpl := h2)) fun σ H Q h => ?_
    obtain ⟨g, ρ, S, r, q⟩ := h
    have hq : pureE (.bi .minD [ie]) = (pureEs [ie] && true) := by simp only [pureE, Bool.and_true]
    simp only [evE] at q
    rw [hq] at q
    refine tA_bind r q fun vs S1 us g1 H1 e1 r1 st mr p1 => ?_
    obtain ⟨v, u, e2, rfl, h⟩ := one_of (evs_len e1) r1.str mr
    rw [e2] at p1
    cases eb : biV .minD [v] with
    | none => rw [eb] at p1; exact p1.elim
    | some z =>
      rw [eb] at p1
      exact b_minD (a := 0) r1 h eb p1
  · refine PE.imp (pe_callBK (cr_maxD hc hu) hg hm boot_max ha (pk_cons pe_non pk_nil) (he := st_one h1 pos) (hpl := h2)) fun σ H Q h => ?_
    obtain ⟨g, ρ, S, r, q⟩ := h
    have hq : pureE (.bi .maxD [ie]) = (pureEs [ie] && true) := by simp only [pureE, Bool.and_true]
    simp only [evE] at q
    rw [hq] at q
    refine tA_bind r q fun vs S1 us g1 H1 e1 r1 st mr p1 => ?_
    obtain ⟨v, u, e2, rfl, h⟩ := one_of (evs_len e1) r1.str mr
    rw [e2] at p1
    cases eb : biV .maxD [v] with
    | none => rw [eb] at p1; exact p1.elim
    | some z =>
      rw [eb] at p1
      exact b_maxD (a := 0) r1 h eb p1
end
end Pv
end

section
set_option Elab.async false
set_option linter.all false
set_option maxRecDepth 100000
set_option autoImplicit false
/-! Pv14: isinstance; statements. -/
namespace Pv
open PySem PySem.Spec PyProof.Rows L2

section
variable {X : Cx} {J : Jx} {m : Md} {pos : Pos}
theorem evE_isi (x : Cfg) (a : E) (t : Ty) (ρ : Env) (S : Store) : evE x (.isi a t) ρ S = (evE x a ρ S).bind fun v S1 => match tyV x.G S1 (deref S1 v) t with
    | some b => .ok (.bl b) S1
    | none => .stuck := by
  simp only [evE] <;> rfl
theorem isi_imp {ia : E} {t : Ty} (hb : tyB t = true) (σ : L2.St) (H : Hp) (Q : VK) (h : J.tE m (.isi ia t) σ H Q) :
    tCB (rIsi X.K) (tCons (J.tE .B ia) (tCons (tC (.ty (tyN t))) tNil)) σ H Q := by
  obtain ⟨g, ρ, S, r, p⟩ := h
  have hq : pureE (.isi ia t) = (pureE ia && true) := by simp only [pureE, Bool.and_true]
  rw [evE_isi, hq] at p
  refine tE_bindS r p fun v S1 u g1 H1 e1 r1 st1 mr1 p1 => ?_
  cases et : tyV J.x.G S1 (deref S1 v) t with
  | none => simp only [et] at p1; exact p1.elim
  | some b =>
    simp only [et] at p1
    have hf : flatTy (deref S1 v) = true := by
      cases hv : deref S1 v with
      | obj c fs => rw [hv] at et; cases t <;> first | exact Bool.noConfusion hb | (simp only [tyV] at et; cases et)
      | ref n => rw [hv] at et; cases t <;> first | exact Bool.noConfusion hb | (simp only [tyV] at et; cases et)
      | exc c => rw [hv] at et; cases t <;> first | exact Bool.noConfusion hb | (simp only [tyV] at et; cases et)
      | scr c => rw [hv] at et; simp only [tyV] at et; cases et
      | _ => rfl
    obtain ⟨tv, ht, hk⟩ := isi_r (K := X.K) hb hf (deref_R r1.str mr1.R) et
    exact ⟨u, .ty (tyN t), tv, .type (tyN t), b, rfl, .ty _, ht, hk, fin_V r1 (fun m => MRep.bl _) p1⟩
theorem s_isi {ia : E} {t : Ty} {a : Expr} {x1 : Str} {p1 p2 : Pos} (hb : tyB t = true) (hg : Gl X "isinstance") (hm : X.mg "isinstance" = none) (hx : x1 = Str.ofString (tyN t)) (hg2 : Gl X x1) (hm2 : X.mg x1 = none) (ha : PE X a (J.tE .B ia))
    (hs : starEach (a :: [.Name x1 p2]) X.env = (false, eval a X.env) :: starEach [.Name x1 p2] X.env) : PE X (.Call (.Name "isinstance" p1) [a, .Name x1 p2] [] pos) (J.tE m (.isi ia t)) := by
  subst hx
  have h2 : PE X (.Name (Str.ofString (tyN t)) p2) (tC (.ty (tyN t))) := by
    cases t <;> first
      | exact Bool.noConfusion hb
      | exact pe_bltn hg2 hm2 boot_int rfl
      | exact pe_bltn hg2 hm2 boot_bool rfl
      | exact pe_bltn hg2 hm2 boot_str rfl
      | exact pe_bltn hg2 hm2 boot_list rfl
      | exact pe_bltn hg2 hm2 boot_tuple rfl
      | exact pe_bltn hg2 hm2 boot_dict rfl
  exact PE.imp (pe_callB call_isi hg hm boot_isinstance (pa_cons ha (pa_cons h2 pa_nil) hs) (he := hs)) (isi_imp hb)
end

/-! ### readings of statements -/
structure Jr extends Jx where
  rm : Md
def Jr.PostS (J : Jr) (g : Gh) (H : Hp) (r : RS) (D : Ends) : Prop := match r with
  | .nx ρ S => ∀ σ g' H', Rel J.k J.md g' σ H' ρ S → StepS g H g' H' → D.nx σ H'
  | .brk ρ S => ∀ σ g' H', Rel J.k J.md g' σ H' ρ S → StepS g H g' H' → D.bk σ H'
  | .cnt ρ S => ∀ σ g' H', Rel J.k J.md g' σ H' ρ S → StepS g H g' H' → D.ct σ H'
  | .ret v S => ∀ u g' H', SRel J.k g' H' S → StepS g H g' H' → MRep J.k g' H' J.rm v u → D.rt u H'
  | .exn c ρ S => ∀ σ g' H', Rel J.k J.md g' σ H' ρ S → StepS g H g' H' → J.W (.ref (J.k.ca c)) none σ H'
  | .stuck => False
def Jr.tS (J : Jr) (s : S) : TS := fun D σ H => ∃ g ρ S, Rel J.k J.md g σ H ρ S ∧ J.PostS g H (evS J.x s ρ S) D
def Jr.tSs (J : Jr) (s : List S) : TS := fun D σ H => ∃ g ρ S, Rel J.k J.md g σ H ρ S ∧ J.PostS g H (evSs J.x s ρ S) D
theorem PS.imp {X : Cx} {st : Stmt} {t t' : TS} (h : PS X st t) (w : ∀ D σ H, t' D σ H → t D σ H) : PS X st t' := ⟨fun pins s σ H D I q => h.run pins s σ H D I (w D σ H q)⟩
theorem PSs.imp {X : Cx} {st : List Stmt} {t t' : TS} (h : PSs X st t) (w : ∀ D σ H, t' D σ H → t D σ H) : PSs X st t' := ⟨fun pins s σ H D I q => h.run pins s σ H D I (w D σ H q)⟩
section
variable {X : Cx} {J : Jr} {m : Md} {pos : Pos} {g g' : Gh} {H H' : Hp} {σ : L2.St} {ρ : Env} {S : Store} {D : Ends}
theorem postS_after {r : RS} (p : J.PostS g H r D) (st : StepS g H g' H') : J.PostS g' H' r D := by
  cases r with
  | nx ρ S => exact fun σ g2 H2 r2 s2 => p σ g2 H2 r2 (st.trans s2)
  | brk ρ S => exact fun σ g2 H2 r2 s2 => p σ g2 H2 r2 (st.trans s2)
  | cnt ρ S => exact fun σ g2 H2 r2 s2 => p σ g2 H2 r2 (st.trans s2)
  | ret v S => exact fun u g2 H2 r2 s2 => p u g2 H2 r2 (st.trans s2)
  | exn c ρ S => exact fun σ g2 H2 r2 s2 => p σ g2 H2 r2 (st.trans s2)
  | stuck => exact p
/-- an expression within a statement -/
theorem tE_bindR {m1 : Md} {e : E} {f : Val → Store → RS} {Q1 : VK} (r : Rel J.k J.md g σ H ρ S) (h : J.PostS g H ((evE J.x e ρ S).toS ρ f) D)
    (hn : ∀ v S' u g' H', evE J.x e ρ S = .ok v S' → Rel J.k J.md g' σ H' ρ S' → Step (pureE e) g H g' H' → MRep J.k g' H' m1 v u → J.PostS g' H' (f v S') D → Q1 u H') : J.tE m1 e σ H Q1 := by
  refine ⟨g, ρ, S, r, ?_⟩
  cases ev : evE J.x e ρ S with
  | ok v S1 =>
    rw [ev] at h
    exact fun u g2 H2 r2 s mr => hn v S1 u g2 H2 ev r2 s mr (postS_after h s.toS)
  | exn c S1 =>
    rw [ev] at h
    exact fun g2 H2 r2 s => h σ g2 H2 r2 s.toS
  | stuck =>
    rw [ev] at h
    exact h.elim
theorem ss_nil : PSs X [] (J.tSs []) := by
  refine PSs.imp pss_nil fun D σ H h => ?_
  obtain ⟨g, ρ, S, r, p⟩ := h
  simp only [evSs] at p
  exact p σ g H r StepS.refl
theorem ss_cons {st : Stmt} {rest : List Stmt} {is : _root_.Pv.S} {ir : List _root_.Pv.S} (h1 : PS X st (J.tS is)) (h2 : PSs X rest (J.tSs ir)) : PSs X (st :: rest) (J.tSs (is :: ir)) := by
  refine PSs.imp (pss_cons h1 h2) fun D σ H h => ?_
  obtain ⟨g, ρ, S, r, p⟩ := h
  refine ⟨g, ρ, S, r, ?_⟩
  simp only [evSs] at p
  cases ev : evS J.x is ρ S with
  | nx ρ1 S1 =>
    rw [ev] at p
    exact fun σ1 g1 H1 r1 st => ⟨g1, ρ1, S1, r1, postS_after p st⟩
  | brk ρ1 S1 => rw [ev] at p; exact p
  | cnt ρ1 S1 => rw [ev] at p; exact p
  | ret v S1 => rw [ev] at p; exact p
  | exn c ρ1 S1 => rw [ev] at p; exact p
  | stuck => rw [ev] at p; exact p
theorem s_pas : PS X (.Pass pos) (J.tS .pas) := by
  refine PS.imp ps_pass fun D σ H h => ?_
  obtain ⟨g, ρ, S, r, p⟩ := h
  simp only [evS] at p
  exact p σ g H r StepS.refl
theorem s_brk : PS X (.Break pos) (J.tS .brk) := by
  refine PS.imp ps_break fun D σ H h => ?_
  obtain ⟨g, ρ, S, r, p⟩ := h
  simp only [evS] at p
  exact p σ g H r StepS.refl
theorem s_cnt : PS X (.Continue pos) (J.tS .cnt) := by
  refine PS.imp ps_continue fun D σ H h => ?_
  obtain ⟨g, ρ, S, r, p⟩ := h
  simp only [evS] at p
  exact p σ g H r StepS.refl
theorem s_nev {st : Stmt} : PS X st (J.tS .nev) := by
  refine PS.imp ps_never fun D σ H h => ?_
  obtain ⟨g, ρ, S, r, p⟩ := h
  simp only [evS] at p
  exact p.elim
theorem s_ex {e : Expr} {ie : E} (he : PE X e (J.tE .B ie)) (hs : swapsWith e none pos.line X.env = pure false) : PS X (.Expr e pos) (J.tS (.ex ie)) := by
  refine PS.imp (ps_expr he hs) fun D σ H h => ?_
  obtain ⟨g, ρ, S, r, p⟩ := h
  simp only [evS] at p
  exact tE_bindR r p fun v S1 u g1 H1 e1 r1 st1 mr1 p1 => p1 σ g1 H1 r1 StepS.refl
theorem s_ret {e : Expr} {ie : E} (he : PE X e (J.tE J.rm ie)) : PS X (.Return (some e) pos) (J.tS (.ret ie)) := by
  refine PS.imp (ps_ret he) fun D σ H h => ?_
  obtain ⟨g, ρ, S, r, p⟩ := h
  simp only [evS] at p
  exact tE_bindR r p fun v S1 u g1 H1 e1 r1 st1 mr1 p1 => p1 u g1 H1 r1.str StepS.refl mr1
theorem s_retN : PS X (.Return none pos) (J.tS .retN) := by
  refine PS.imp ps_retN fun D σ H h => ?_
  obtain ⟨g, ρ, S, r, p⟩ := h
  simp only [evS] at p
  exact p .non g H r.str StepS.refl MRep.non
theorem s_if {c : Expr} {a b : List Stmt} {ic : E} {ia ib : List _root_.Pv.S} (hc : PT X c (J.tT ic)) (ha : PSs X a (J.tSs ia)) (hb : PSs X b (J.tSs ib)) : PS X (.If c a b pos) (J.tS (.ife ic ia ib)) := by
  refine PS.imp (ps_if hc ha hb) fun D σ H h => ?_
  obtain ⟨g, ρ, S, r, p⟩ := h
  simp only [evS] at p
  refine tE_bindR r p fun v S1 u g1 H1 e1 r1 st1 mr1 p1 => ?_
  cases v with
  | bl c =>
    refine ⟨c, mr1.R.bl_of, ?_⟩
    cases c with
    | true => exact ⟨g1, ρ, S1, r1, p1⟩
    | false => exact ⟨g1, ρ, S1, r1, p1⟩
  | _ => exact p1.elim
theorem s_whil {c : Expr} {body : List Stmt} {ic : E} {ib : List _root_.Pv.S} (hp : PassesOwn (model X.prog X.w) X.A X.env X.xe) (hc : PT X c (J.tT ic)) (hb : PSs X body (J.tSs ib)) : PS X (.While c body [] pos) (J.tS (.whil ic ib)) := by
  refine PS.imp (ps_while hp hc hb) fun D σ H h => ?_
  obtain ⟨g, ρ, S, r, p⟩ := h
  simp only [evS] at p
  refine ⟨fun n σ H => ∃ g ρ S, Rel J.k J.md g σ H ρ S ∧ J.PostS g H (whileL (evE J.x ic) (evSs J.x ib) n ρ S) D, ⟨_, g, ρ, S, r, p⟩, ?_⟩
  rintro n σ H ⟨g, ρ, S, r, p⟩
  cases n with
  | zero => exact p.elim
  | succ n =>
    simp only [whileL] at p
    refine ⟨g, ρ, S, r, ?_⟩
    cases ev : evE J.x ic ρ S with
    | ok v S1 =>
      rw [ev] at p
      intro u g1 H1 r1 st1 mr1
      cases v with
      | bl b =>
        refine ⟨b, mr1.R.bl_of, ?_⟩
        cases b with
        | true =>
          rw [if_pos rfl]
          simp only at p
          refine ⟨fun σ H => ∃ g ρ S, Rel J.k J.md g σ H ρ S ∧ J.PostS g H (whileL (evE J.x ic) (evSs J.x ib) n ρ S) D, fun σ' H' h => ⟨n, Nat.lt_succ_self n, h⟩, g1, ρ, S1, r1, ?_⟩
          have p' := postS_after p st1.toS
          cases ev2 : evSs J.x ib ρ S1 with
          | nx ρ2 S2 =>
            rw [ev2] at p'
            exact fun σ2 g2 H2 r2 st2 => ⟨g2, ρ2, S2, r2, postS_after p' st2⟩
          | cnt ρ2 S2 =>
            rw [ev2] at p'
            exact fun σ2 g2 H2 r2 st2 => ⟨g2, ρ2, S2, r2, postS_after p' st2⟩
          | brk ρ2 S2 => rw [ev2] at p'; exact p'
          | ret v S2 => rw [ev2] at p'; exact p'
          | exn c ρ2 S2 => rw [ev2] at p'; exact p'
          | stuck => rw [ev2] at p'; exact p'
        | false =>
          rw [if_neg Bool.false_ne_true]
          exact p σ g1 H1 r1 st1.toS
      | _ => exact p.elim
    | exn c S1 =>
      rw [ev] at p
      exact fun g1 H1 r1 st1 => p σ g1 H1 r1 st1.toS
    | stuck => rw [ev] at p; exact p.elim
theorem s_for {tg iter : Expr} {body : List Stmt} {it : E} {itg : Tg} {ib : List _root_.Pv.S} (hp : PassesOwn (model X.prog X.w) X.A X.env X.xe) (hc : X.calm = true) (hi : PI X tg iter (J.tI it)) (hg : PG X tg (J.tG itg)) (hb : PSs X body (J.tSs ib))
    (hs : ∀ x, foldedSetIterable iter X.env x = pure x) : PS X (.For tg iter body [] pos) (J.tS (.for' itg it ib)) := by
  refine PS.imp (ps_for hp hc hi hg hb hs) fun D σ H h => ?_
  obtain ⟨g, ρ, S, r, p⟩ := h
  have ev0 : evS J.x (.for' itg it ib) ρ S = (evE J.x it ρ S).toS ρ fun v S1 => match itemsV v with
    | some xs => forL (fun y ρ S => match bindT itg y ρ with
      | some ρ1 => evSs J.x ib ρ1 S
      | none => .stuck) xs ρ S1
    | none => .stuck := by
    simp only [evS] <;> rfl
  rw [ev0] at p
  refine ⟨g, ρ, S, r, ?_⟩
  cases ev : evE J.x it ρ S with
  | exn c S1 =>
    rw [ev] at p
    exact fun g1 H1 r1 st1 => p σ g1 H1 r1 st1.toS
  | stuck => rw [ev] at p; exact p.elim
  | ok v S1 =>
    rw [ev] at p
    simp only [_root_.Pv.R.toS] at p
    cases ei : itemsV v with
    | none => rw [ei] at p; exact p.elim
    | some xs =>
      rw [ei] at p
      simp only at p
      refine ⟨xs, ei, fun It g1 H1 r1 st1 ok => ?_⟩
      obtain ⟨Gd, Y, wk, st⟩ := ok
      have p1 := postS_after p st1.toS
      refine for_it wk (fun i σ H => ∃ g ρ S, Rel J.k J.md g σ H ρ S ∧ StepS g1 H1 g H ∧ J.PostS g H (forL (fun y ρ S => match bindT itg y ρ with
        | some ρ1 => evSs J.x ib ρ1 S
        | none => .stuck) (xs.drop i) ρ S) D) ⟨g1, ρ, S1, r1, StepS.refl, p1⟩ ?_ ?_ ?_
      · rintro i σ' H' hi ⟨g', ρ', S', r', st', p'⟩
        exact (st g' H' st').1
      · rintro i x σ' H' H2 hi ⟨g', ρ', S', r', st', p'⟩ y
        obtain ⟨v0, hx, hy⟩ := (st g' H' st').2 i x H2 hi y
        obtain ⟨g2, r2, st2, mr2⟩ := hy J.md σ' ρ' S' r'
        have hdrop : xs.drop i = v0 :: xs.drop (i + 1) := by
          obtain ⟨hi', e⟩ := List.getElem?_eq_some_iff.mp hx
          rw [List.drop_eq_getElem_cons hi', e]
        rw [hdrop] at p'
        simp only [forL] at p'
        cases eb : bindT itg v0 ρ' with
        | none => rw [eb] at p'; exact p'.elim
        | some ρ1 =>
          rw [eb] at p'
          refine ⟨g2, ρ', S', v0, ρ1, r2, mr2, eb, fun σ1 r3 _ => ⟨g2, ρ1, S', r3, ?_⟩⟩
          have p2 := postS_after p' st2.toS
          simp only at p2
          cases ev2 : evSs J.x ib ρ1 S' with
          | nx ρ2 S2 =>
            rw [ev2] at p2
            exact fun σ2 g3 H3 r4 st3 => ⟨g3, ρ2, S2, r4, (st'.trans st2.toS).trans st3, postS_after p2 st3⟩
          | cnt ρ2 S2 =>
            rw [ev2] at p2
            exact fun σ2 g3 H3 r4 st3 => ⟨g3, ρ2, S2, r4, (st'.trans st2.toS).trans st3, postS_after p2 st3⟩
          | brk ρ2 S2 => rw [ev2] at p2; exact p2
          | ret v S2 => rw [ev2] at p2; exact p2
          | exn c ρ2 S2 => rw [ev2] at p2; exact p2
          | stuck => rw [ev2] at p2; exact p2
      · rintro σ' H' ⟨g', ρ', S', r', st', p'⟩
        rw [List.drop_length] at p'
        simp only [forL] at p'
        exact p' σ' g' H' r' StepS.refl
end
end Pv
end

section
set_option Elab.async false
set_option linter.all false
set_option maxRecDepth 100000
set_option autoImplicit false
/-! Pv15: assignments, moves, changes of an own list. -/
namespace Pv
open PySem PySem.Spec PyProof.Rows L2

section
variable {k : Kx} {md : Sl} {g g' : Gh} {H H' : Hp} {σ : L2.St} {ρ : Env} {S S' : Store}
theorem coll_cases {v : Val} (h : isColl v) : (∃ xs, v = .lst xs) ∨ (∃ xs, v = .dK xs) ∨ ∃ xs, v = .dT xs := by
  cases v <;> first
    | exact .inl ⟨_, rfl⟩
    | exact .inr (.inl ⟨_, rfl⟩)
    | exact .inr (.inr ⟨_, rfl⟩)
    | exact h.elim
/-- a fresh result's address goes to a slot -/
theorem put_sl {a : Addr} {o : HO} {i : Nat} (t : g.T a = .rt) (ha : H a = some o) (no : ∀ xs, o ≠ .tup xs) (r : Rel k md g σ H ρ S) : Rel k md (g.put a (.sl i)) σ H ρ S ∧ Keep g H (g.put a (.sl i)) H := by
  have ne : ∀ b, g.T b ≠ .rt → (g.put a (.sl i)).T b = g.T b := fun b h => put_ne fun e => h (by rw [e]; exact t)
  have kp : Keep g H (g.put a (.sl i)) H := ⟨fun b h => ⟨ne b (by rcases h with h | h | ⟨_, h⟩ | ⟨_, _, h⟩ <;> rw [h] <;> intro z <;> cases z), rfl⟩, fun _ _ h => h⟩
  refine ⟨kp.rel (fun j v e b hb => ⟨ne b (by rw [hb]; intro z; cases z), rfl⟩) r ⟨r.str.no, fun n f b c hb hc => ?_, fun b hb => ?_, fun b xs e => ?_⟩, kp⟩
  · have h1 : b ≠ a := fun e => by rw [e, put_same] at hb; cases hb
    have h2 : c ≠ a := fun e => by rw [e, put_same] at hc; cases hc
    rw [put_ne h1] at hb
    rw [put_ne h2] at hc
    exact r.str.uniq n f b c hb hc
  · by_cases h : b = a
    · rw [h, ha]
      intro z
      cases z
    · rw [put_ne h] at hb
      exact r.str.wf b hb
  · by_cases h : b = a
    · rw [h, ha] at e
      exact absurd (Option.some.inj e) (no xs)
    · rw [put_ne h]
      exact r.str.tup b xs e
theorem stepS_put {a : Addr} {t : Tag} (h : g.T a = .rt ∨ g.T a = .no ∨ ∃ i, g.T a = .sl i) : StepS g H (g.put a t) H := by
  have ne : ∀ b, (g.T b = .fz ∨ g.T b = .br ∨ (∃ n, g.T b = .st n) ∨ ∃ n f, g.T b = .fo n f) → (g.put a t).T b = g.T b := fun b hb => put_ne fun e => by
    subst e
    rcases h with h | h | ⟨_, h⟩ <;> rw [h] at hb <;> rcases hb with z | z | ⟨_, z⟩ | ⟨_, _, z⟩ <;> cases z
  refine ⟨fun b hb => ⟨ne b (hb.imp id .inl), rfl⟩, fun b n hb => ?_, fun b n f hb => ?_, fun _ _ h => h⟩
  · rw [ne b (.inr (.inr (.inl ⟨n, hb⟩)))]
    exact hb
  · rw [ne b (.inr (.inr (.inr ⟨n, f, hb⟩)))]
    exact hb
theorem rel_own {i : Nat} {v : Val} {u : V} (r : Rel k md g σ H ρ S) (hx : hxOk md i) (hm : md.l.getD i .shr = .own) (h : MRep k g H .O v u) : ∃ g', Rel k md g' (σ.set i (some u)) H (ρ.set i (some v)) S ∧ StepS g H g' H := by
  by_cases hc : isColl v
  · have go : ∀ {a : Addr} {o : HO}, g.T a = .rt → H a = some o → (∀ xs, o ≠ .tup xs) → (∀ g', Keep g H g' H → g'.T a = .sl i → SRep k g' H i .own v u) → ∃ g', Rel k md g' (σ.set i (some u)) H (ρ.set i (some v)) S ∧ StepS g H g' H := fun {a o} t ha no f => by
      obtain ⟨r1, kp⟩ := put_sl (i := i) t ha no r
      exact ⟨_, rel_set r1 hx (by rw [hm]; exact f _ kp put_same), stepS_put (.inl t)⟩
    rcases coll_cases hc with ⟨xs, rfl⟩ | ⟨xs, rfl⟩ | ⟨xs, rfl⟩
    · obtain ⟨a, us, rfl, ⟨t, ha⟩, hs⟩ := (show ∃ a us, u = .ref a ∧ OP g H .rt a (.lst us) ∧ _ from h)
      exact go t ha (fun _ z => nomatch z) fun g' kp t' => ⟨a, us, rfl, ⟨t', ha⟩, kp.vs hs⟩
    · obtain ⟨a, us, rfl, ⟨t, ha⟩, hs⟩ := (show ∃ a us, u = .ref a ∧ OP g H .rt a (.dK us) ∧ _ from h)
      exact go t ha (fun _ z => nomatch z) fun g' kp t' => ⟨a, us, rfl, ⟨t', ha⟩, VKs.mono kp.fz kp.ι _ _ hs⟩
    · obtain ⟨a, us, rfl, ⟨t, ha⟩, hs⟩ := (show ∃ a us, u = .ref a ∧ OP g H .rt a (.dT us) ∧ _ from h)
      exact go t ha (fun _ z => nomatch z) fun g' kp t' => ⟨a, us, rfl, ⟨t', ha⟩, VTs.mono kp.fz kp.ι _ _ hs⟩
  · refine ⟨g, rel_set r hx ?_, StepS.refl⟩
    rw [hm]
    cases v <;> first | exact h | exact absurd trivial hc
/-- a slot's name for what it holds -/
theorem rel_fill {i : Nat} {v : Val} {u : V} (r : Rel k md g σ H ρ S) (hx : hxOk md i) (hu : σ[i]? = some (some u)) (h : SRep k g H i (md.l.getD i .shr) v u) : Rel k md g σ H (ρ.set i (some v)) S := by
  refine ⟨by rw [List.length_set]; exact r.len, r.lenσ, fun j w e => ?_, fun j a c e => ?_, r.str⟩
  · rw [set_at] at e
    split at e
    · rename_i hj
      cases e
      obtain ⟨rfl, hl⟩ := hj
      exact ⟨u, hu, h⟩
    · exact r.slot j w e
  · have n := hx j a c e
    rw [set_at, if_neg (fun z => n z.1.symm)]
    exact r.hx j a c e
/-- an own list is changed -/
theorem rel_mut {i : Nat} {a : Addr} {o : HO} {v : Val} (r : Rel k md g σ H ρ S) (hx : hxOk md i) (hm : md.l.getD i .shr = .own) (t : g.T a = .sl i) (hu : σ[i]? = some (some (.ref a))) (no : ∀ xs, o ≠ .tup xs)
    (h : ∀ H', Keep g H g H' → H' a = some o → SRep k g H' i .own v (.ref a)) : Rel k md g σ (upd H a o) (ρ.set i (some v)) S ∧ StepS g H g (upd H a o) := by
  have ne : ∀ b, g.T b ≠ .sl i → b ≠ a := fun b hb e => hb (by rw [e]; exact t)
  have kp : Keep g H g (upd H a o) := ⟨fun b hb => ⟨rfl, upd_ne (ne b (by rcases hb with z | z | ⟨_, z⟩ | ⟨_, _, z⟩ <;> rw [z] <;> intro z <;> cases z))⟩, fun _ _ h => h⟩
  refine ⟨?_, ⟨fun b hb => ⟨rfl, upd_ne (ne b (by rcases hb with z | z <;> rw [z] <;> intro z <;> cases z))⟩, fun _ _ h => h, fun _ _ _ h => h, fun _ _ h => h⟩⟩
  have r1 := kp.rel (ρ := ρ.set i none) (fun j w e b hb => ⟨rfl, upd_ne (ne b (by
    rw [hb]
    intro z
    cases z
    rw [set_at] at e
    split at e
    · cases e
    · rename_i hn
      rw [List.getElem?_eq_none (by
        by_cases hl : i < ρ.length
        · exact absurd ⟨rfl, hl⟩ hn
        · omega)] at e
      cases e))⟩) (rel_drop r hx) (side_upd r.str.side no)
  have r2 := rel_fill (v := v) r1 hx hu (by rw [hm]; exact h _ kp upd_same)
  rw [List.set_set] at r2
  exact r2
/-! ### moved slots -/
def shrAll (l : List Mode) : List Nat → List Mode
  | [] => l
  | i :: r => (shrAll l r).set i .shr
theorem shrAll_len (l : List Mode) : ∀ is, (shrAll l is).length = l.length
  | [] => rfl
  | i :: r => by
    unfold shrAll
    rw [List.length_set, shrAll_len l r]
theorem getD_eq {l : List Mode} {j : Nat} : l.getD j .shr = (l[j]?).getD .shr := by rw [List.getD_eq_getElem?_getD]
theorem shrAll_at (l : List Mode) (j : Nat) : ∀ is, (shrAll l is).getD j .shr = if j ∈ is then .shr else l.getD j .shr
  | [] => by simp [shrAll]
  | i :: r => by
    unfold shrAll
    rw [getD_eq, set_at]
    by_cases e : i = j
    · subst e
      by_cases hl : i < (shrAll l r).length
      · rw [if_pos ⟨rfl, hl⟩, if_pos List.mem_cons_self]
        rfl
      · rw [if_neg (fun z => hl z.2), if_pos List.mem_cons_self, List.getElem?_eq_none (by omega)]
        rfl
    · rw [if_neg (fun z => e z.1), ← getD_eq, shrAll_at l j r]
      have : j ∈ i :: r ↔ j ∈ r := by
        simp only [List.mem_cons]
        exact ⟨fun h => h.resolve_left fun z => e z.symm, .inr⟩
      simp only [this]
def Gh.frz (g : Gh) (is : List Nat) : Gh := { g with T := fun a => match g.T a with
  | .sl i => if i ∈ is then .fz else .sl i
  | t => t }
theorem frz_of {is : List Nat} {a : Addr} {i : Nat} (h : g.T a = .sl i) : (g.frz is).T a = if i ∈ is then .fz else .sl i := by
  unfold Gh.frz
  simp only [h]
theorem frz_ne {is : List Nat} {a : Addr} (h : ∀ i, g.T a ≠ .sl i) : (g.frz is).T a = g.T a := by
  unfold Gh.frz
  cases e : g.T a with
  | sl i => exact absurd e (h i)
  | _ => simp only [e]
theorem frz_keep {is : List Nat} : Keep g H (g.frz is) H :=
  ⟨fun a h => ⟨frz_ne (fun i e => by rw [e] at h; rcases h with z | z | ⟨_, z⟩ | ⟨_, _, z⟩ <;> cases z), rfl⟩, fun _ _ h => h⟩
theorem frz_fo {is : List Nat} {a : Addr} {n f : Nat} (h : (g.frz is).T a = .fo n f) : g.T a = .fo n f := by
  cases e : g.T a with
  | sl i =>
    rw [frz_of e] at h
    split at h <;> cases h
  | _ =>
    rw [frz_ne (fun i z => by rw [e] at z; cases z), e] at h
    first | exact h | cases h
theorem frz_no {is : List Nat} {a : Addr} (h : (g.frz is).T a ≠ .no) : g.T a ≠ .no := fun e => h (by rw [frz_ne (fun i z => by rw [e] at z; cases z)]; exact e)
theorem frz_side {is : List Nat} (s : Side g H S) : Side (g.frz is) H S := by
  refine ⟨s.no, fun n f a b ha hb => s.uniq n f a b (frz_fo ha) (frz_fo hb), fun a h => s.wf a (frz_no h), fun a xs e => ?_⟩
  rcases s.tup a xs e with h | h
  · exact .inl (by rw [frz_ne (fun i z => by rw [h] at z; cases z)]; exact h)
  · exact .inr (by rw [frz_ne (fun i z => by rw [h] at z; cases z)]; exact h)
theorem frz_stepS {is : List Nat} : StepS g H (g.frz is) H :=
  ⟨fun a h => frz_keep.at' a (h.imp id .inl), fun a n h => ((frz_keep (H := H)).at' a (.inr (.inr (.inl ⟨n, h⟩)))).1.trans h, fun a n f h => ((frz_keep (H := H)).at' a (.inr (.inr (.inr ⟨n, f, h⟩)))).1.trans h, fun _ _ h => h⟩
def Sl.mv (md : Sl) (is : List Nat) : Sl := { md with l := shrAll md.l is }
theorem rel_frz {is : List Nat} (r : Rel k md g σ H ρ S) (hs : ∀ i ∈ is, md.l.getD i .shr = .own) : Rel k (md.mv is) (g.frz is) σ H ρ S := by
  refine ⟨by rw [r.len]; exact (shrAll_len _ _).symm, by rw [r.lenσ]; exact (shrAll_len _ _).symm, fun j v e => ?_, r.hx, frz_keep.str r.str (frz_side r.str.side)⟩
  obtain ⟨u, e2, h⟩ := r.slot j v e
  refine ⟨u, e2, ?_⟩
  show SRep k (g.frz is) H j ((shrAll md.l is).getD j .shr) v u
  rw [shrAll_at]
  by_cases hj : j ∈ is
  · rw [if_pos hj]
    rw [hs j hj] at h
    have kp : Keep g H (g.frz is) H := frz_keep
    have tf : ∀ {a : Addr} {o : HO}, OP g H (.sl j) a o → fzP (g.frz is) H a = some o := fun {a o} q => fzP_of (by rw [frz_of q.1, if_pos hj]) q.2
    by_cases hc : isColl v
    · rcases coll_cases hc with ⟨xs, rfl⟩ | ⟨xs, rfl⟩ | ⟨xs, rfl⟩
      · obtain ⟨a, us, rfl, q, hv⟩ := (show ∃ a us, u = .ref a ∧ OP g H (.sl j) a (.lst us) ∧ _ from h)
        show VRep _ _ _ _ _
        simp only [VRep]
        exact ⟨a, us, rfl, tf q, kp.vs hv⟩
      · obtain ⟨a, us, rfl, q, hv⟩ := (show ∃ a us, u = .ref a ∧ OP g H (.sl j) a (.dK us) ∧ _ from h)
        show VRep _ _ _ _ _
        simp only [VRep]
        exact ⟨a, us, rfl, tf q, VKs.mono kp.fz kp.ι _ _ hv⟩
      · obtain ⟨a, us, rfl, q, hv⟩ := (show ∃ a us, u = .ref a ∧ OP g H (.sl j) a (.dT us) ∧ _ from h)
        show VRep _ _ _ _ _
        simp only [VRep]
        exact ⟨a, us, rfl, tf q, VTs.mono kp.fz kp.ι _ _ hv⟩
    · refine kp.mV (u := u) (v := v) ?_
      cases v <;> first | exact h | exact absurd trivial hc
  · rw [if_neg hj]
    exact frz_keep.sl (fun a ha => ⟨by rw [frz_of ha, if_neg hj]; exact ha.symm, rfl⟩) h
theorem dropE_at : ∀ {is : List Nat} {ρ : Env} {j : Nat} {v : Val}, (dropE is ρ)[j]? = some (some v) → ρ[j]? = some (some v) ∧ j ∉ is
  | [], _, _, _, h => ⟨h, by simp⟩
  | i :: r, ρ, j, v, h => by
    unfold dropE at h
    obtain ⟨h1, h2⟩ := dropE_at h
    rw [set_at] at h1
    split at h1
    · cases h1
    · rename_i hn
      refine ⟨h1, ?_⟩
      simp only [List.mem_cons, not_or]
      refine ⟨fun e => ?_, h2⟩
      subst e
      by_cases hl : j < ρ.length
      · exact hn ⟨rfl, hl⟩
      · rw [List.getElem?_eq_none (by omega)] at h1
        cases h1
theorem dropE_len : ∀ {is : List Nat} {ρ : Env}, (dropE is ρ).length = ρ.length
  | [], _ => rfl
  | i :: r, ρ => by
    unfold dropE
    rw [dropE_len, List.length_set]
theorem dropE_ne : ∀ {is : List Nat} {ρ : Env} {j : Nat}, j ∉ is → (dropE is ρ)[j]? = ρ[j]?
  | [], _, _, _ => rfl
  | i :: r, ρ, j, h => by
    unfold dropE
    rw [dropE_ne (fun z => h (List.mem_cons_of_mem _ z)), set_at, if_neg (fun z => h (by rw [z.1]; exact List.mem_cons_self))]
theorem rel_unmv {is : List Nat} (r : Rel k (md.mv is) g σ H ρ S) (hx : ∀ i ∈ is, hxOk md i) : Rel k md g σ H (dropE is ρ) S := by
  refine ⟨by rw [dropE_len, r.len]; exact shrAll_len _ _, by rw [r.lenσ]; exact shrAll_len _ _, fun j v e => ?_, fun j a c e => ?_, r.str⟩
  · obtain ⟨e1, hj⟩ := dropE_at e
    obtain ⟨u, e2, h⟩ := r.slot j v e1
    refine ⟨u, e2, ?_⟩
    have h' : SRep k g H j ((shrAll md.l is).getD j .shr) v u := h
    rw [shrAll_at, if_neg hj] at h'
    exact h'
  · have hj : j ∉ is := fun z => hx j z j a c e rfl
    rw [dropE_ne hj]
    exact r.hx j a c e
end

section
variable {X : Cx} {J : Jr} {m : Md} {pos : Pos}
/-! ### x = e -/
theorem set_imp {i : Nat} {ie : E} (hx : hxOk J.md i) (hm : (J.md.l.getD i .shr = .shr ∧ m = .V) ∨ (J.md.l.getD i .shr = .own ∧ m = .O)) (D : Ends) (σ : L2.St) (H : Hp) (h : J.tS (.set i ie) D σ H) : tAsg (J.tE m ie) (gName i) D σ H := by
  obtain ⟨g, ρ, S, r, p⟩ := h
  simp only [evS] at p
  refine tE_bindR r p fun v S1 u g1 H1 e1 r1 st1 mr1 p1 => ?_
  rcases hm with ⟨h1, rfl⟩ | ⟨h1, rfl⟩
  · exact p1 _ g1 H1 (rel_set r1 hx (by rw [h1]; exact mr1)) StepS.refl
  · obtain ⟨g2, r2, st⟩ := rel_own r1 hx h1 mr1
    exact p1 _ g2 H1 r2 st
theorem s_set {i : Nat} {x : Str} {e : Expr} {ie : E} {pos' : Pos} (hN : X.N.Nodup) (hi : X.N[i]? = some x) (hl : Loc X.env.scope x) (hf : X.fn x = true ∨ X.env.scope.names.lookup x = some .local) (hx : hxOk J.md i)
    (hm : (J.md.l.getD i .shr = .shr ∧ m = .V) ∨ (J.md.l.getD i .shr = .own ∧ m = .O)) (he : PE X e (J.tE m ie)) (hs : swapsWith e (some (.Name x pos')) pos.line X.env = pure false) : PS X (.Assign [.Name x pos'] e pos) (J.tS (.set i ie)) :=
  PS.imp (ps_set hN hi hl he hs hf) (set_imp hx hm)
theorem s_setLc {i : Nat} {y : Str} {py : Pos} {elt tg iter : Expr} {ifs : List Expr} {scope : Scope} {own : List (Str × Nat)} {spos : Pos} {ie iit : E} {itg : Tg} {icd : Option E} (hc : X.calm = true) (hN : X.N.Nodup) (hy : X.N[i]? = some y) (hyl : X.env.scope.names.lookup y = some .local)
    (hsw : swapsWith (.ListComp elt [⟨tg, iter, ifs, 0⟩] scope pos) (some (.Name y py)) spos.line X.env = pure true) (hi : PI X tg iter (J.tI iit)) (ok : BlkOk X.N X.env.scope scope own) (hown : own.map (·.2) = tgIs itg)
    (hg : ∀ (s : Shared) (H : Hp) (C : Addr) (cl : List (Str × Addr)) (fp : List Addr), PG (X.blk s H scope (compEnvC scope cl C X.env) fp) tg (J.calm.tG itg)) (ht : ∀ (s : Shared) (H : Hp) (C : Addr) (cl : List (Str × Addr)) (fp : List Addr), PTs (X.blk s H scope (compEnvC scope cl C X.env) fp) ifs (J.calm.tC icd))
    (he : ∀ (s : Shared) (H : Hp) (C : Addr) (cl : List (Str × Addr)) (fp : List Addr), PE (X.blk s H scope (compEnvC scope cl C X.env) fp) elt (J.calm.tE .V ie)) (hs : ∀ x, foldedSetIterable iter X.env x = pure x)
    (hn : (tgIs itg).Nodup) (hok : tgOk J.md (tgIs itg)) (hx : hxOk J.md i) (hm : (J.md.l.getD i .shr = .shr ∧ m = .V) ∨ (J.md.l.getD i .shr = .own ∧ m = .O)) :
    PS X (.Assign [.Name y py] (.ListComp elt [⟨tg, iter, ifs, 0⟩] scope pos) spos) (J.tS (.set i (.comp ie itg iit icd))) := by
  refine PS.imp (ps_setLc hc hN hy hyl hsw hi ok hg ht he hs) fun D σ H h => ?_
  have h2 := set_imp (m := m) hx hm D σ H h
  have h3 := comp_imp hn hok σ H _ h2
  rw [← hown] at h3
  exact h3
theorem s_comp {elt tg iter : Expr} {ifs : List Expr} {scope : Scope} {own : List (Str × Nat)} {ie iit : E} {itg : Tg} {icd : Option E} {K : Jx} (hc : X.calm = true) (hN : X.N.Nodup)
    (hi : PI X tg iter (K.tI iit)) (ok : BlkOk X.N X.env.scope scope own) (hown : own.map (·.2) = tgIs itg)
    (hg : ∀ (s : Shared) (H : Hp) (C : Addr) (cl : List (Str × Addr)) (fp : List Addr), PG (X.blk s H scope (compEnvC scope cl C X.env) fp) tg (K.calm.tG itg)) (ht : ∀ (s : Shared) (H : Hp) (C : Addr) (cl : List (Str × Addr)) (fp : List Addr), PTs (X.blk s H scope (compEnvC scope cl C X.env) fp) ifs (K.calm.tC icd))
    (he : ∀ (s : Shared) (H : Hp) (C : Addr) (cl : List (Str × Addr)) (fp : List Addr), PE (X.blk s H scope (compEnvC scope cl C X.env) fp) elt (K.calm.tE .V ie)) (hs : ∀ x, foldedSetIterable iter X.env x = pure x)
    (hn : (tgIs itg).Nodup) (hok : tgOk K.md (tgIs itg)) : PE X (.ListComp elt [⟨tg, iter, ifs, 0⟩] scope pos) (K.tE m (.comp ie itg iit icd)) := by
  refine PE.imp (pe_lc hc hN hi ok hg ht he hs) fun σ H Q h => ?_
  rw [hown]
  exact comp_imp hn hok σ H Q h
/-! ### a, b = e -/
theorem s_unp {is : List Nat} {es : List Expr} {kk : Nat} {tpos : Pos} {e : Expr} {ie : E} (hc : X.calm = true) (hN : X.N.Nodup) (hn : NamesAt X es is) (ok : tgOk J.md is) (he : PE X e (J.tE .B ie))
    (hs : swapsWithSole [.Tuple es kk tpos] e pos.line X.env = pure false) (hw : swappedStores [.Tuple es kk tpos] e X.env = pure none) : PS X (.Assign [.Tuple es kk tpos] e pos) (J.tS (.unp is ie)) := by
  refine PS.imp (ps_asg he (g_many (J := J.toJx) hc hN hn ok) hs hw) fun D σ H h => ?_
  obtain ⟨g, ρ, S, r, p⟩ := h
  simp only [evS] at p
  refine tE_bindR r p fun v S1 u g1 H1 e1 r1 st1 mr1 p1 => ?_
  cases v with
  | tup vs =>
    simp only at p1
    cases eb : bindMany is vs ρ with
    | none => rw [eb] at p1; exact p1.elim
    | some ρ1 =>
      rw [eb] at p1
      exact ⟨g1, ρ, S1, .tup vs, ρ1, r1, mr1, eb, fun σ1 r2 _ => p1 σ1 g1 H1 r2 StepS.refl⟩
  | _ => exact p1.elim
theorem s_par {i j : Nat} {x y : Str} {a b : Expr} {ia ib : E} {px py pt : Pos} {kt k2 : Nat} {pt2 : Pos} (hc : X.calm = true) (hN : X.N.Nodup) (hi : X.N[i]? = some x) (hj : X.N[j]? = some y) (hij : i ≠ j)
    (hx : X.env.scope.names.lookup x = some .local) (hy : X.env.scope.names.lookup y = some .local) (ok : tgOk J.md [i, j]) (ha : PA X [a, b] (J.tA [] [ia, ib]))
    (hw : swappedStores [.Tuple [.Name x px, .Name y py] kt pt] (.Tuple [a, b] k2 pt2) X.env = pure (some [x, y])) (hs : swapsWithSole [.Tuple [.Name x px, .Name y py] kt pt] (.Tuple [a, b] k2 pt2) pos.line X.env = pure false) :
    PS X (.Assign [.Tuple [.Name x px, .Name y py] kt pt] (.Tuple [a, b] k2 pt2) pos) (J.tS (.unp [i, j] (.tup [ia, ib]))) := by
  refine PS.imp (ps_par hc hN hi hj hij hx hy ha hw hs) fun D σ H h => ?_
  obtain ⟨g, ρ, S, r, p⟩ := h
  simp only [evS, evE] at p
  refine tA_bindI r (fun c S' ev => ?_) (fun ev => ?_) fun vs S' us g' H' ev r' st mr => ?_
  · rw [ev] at p
    exact fun g2 H2 r2 s => p σ g2 H2 r2 s.toS
  · rw [ev] at p
    exact p
  · rw [ev] at p
    have hl := evs_len ev
    simp only [_root_.Pv.R.bind] at p
    cases hz : szb vs.length with
    | false =>
      rw [hz] at p
      exact p.elim
    | true =>
      rw [hz] at p
      simp only [if_true, _root_.Pv.R.toS] at p
      cases vs with
      | nil => cases hl
      | cons v vs =>
        cases vs with
        | nil => cases hl
        | cons w vs =>
          cases vs with
          | cons _ _ => cases hl
          | nil =>
            obtain ⟨u, u', rfl, h1, h2⟩ := mr.two
            simp only [bindMany] at p
            obtain ⟨o1, o2⟩ := ok i List.mem_cons_self
            obtain ⟨o3, o4⟩ := ok j (List.mem_cons_of_mem _ List.mem_cons_self)
            exact ⟨u, u', rfl, p _ g' H' (rel_set (rel_set r' o2 (by rw [o1]; exact h1)) o4 (by rw [o3]; exact h2)) st.toS⟩
/-! ### moved -/
def Jr.mv (J : Jr) (is : List Nat) : Jr := { J with md := J.md.mv is }
theorem s_mvs {is : List Nat} {st : Stmt} {ist : _root_.Pv.S} (ho : ∀ i ∈ is, J.md.l.getD i .shr = .own ∧ hxOk J.md i) (h : PS X st ((J.mv is).tS ist)) : PS X st (J.tS (.mvs is ist)) := by
  refine PS.imp h fun D σ H h => ?_
  obtain ⟨g, ρ, S, r, p⟩ := h
  refine ⟨g.frz is, ρ, S, rel_frz r fun i hi => (ho i hi).1, ?_⟩
  simp only [evS] at p
  have p := postS_after p (frz_stepS (is := is))
  show (J.mv is).PostS _ _ (evS J.x ist ρ S) D
  cases ev : evS J.x ist ρ S with
  | nx ρ1 S1 =>
    rw [ev] at p
    exact fun σ1 g1 H1 r1 st1 => p σ1 g1 H1 (rel_unmv r1 fun i hi => (ho i hi).2) st1
  | exn c ρ1 S1 =>
    rw [ev] at p
    exact fun σ1 g1 H1 r1 st1 => p σ1 g1 H1 (rel_unmv r1 fun i hi => (ho i hi).2) st1
  | ret v S1 =>
    rw [ev] at p
    exact p
  | brk ρ1 S1 => rw [ev] at p; exact p.elim
  | cnt ρ1 S1 => rw [ev] at p; exact p.elim
  | stuck => rw [ev] at p; exact p.elim
/-- an own list is given back as it is -/
theorem s_retO {i : Nat} {x : Str} {p1 : Pos} (hN : X.N[i]? = some x) (hv : Vis X.env.scope x) (hd : (x == ("__debug__" : Str)) = false) (hcd : (x == ("__classdict__" : Str)) = false) (ho : J.md.l.getD i .shr = .own) (hr : J.rm = .O) :
    PS X (.Return (some (.Name x p1)) pos) (J.tS (.ret (.v i))) := by
  refine PS.imp (ps_ret (pe_var hN hv hd hcd)) fun D σ H h => ?_
  obtain ⟨g, ρ, S, r, p⟩ := h
  simp only [evS, evE] at p
  split at p
  · rename_i v e
    obtain ⟨u, e2, h⟩ := r.slot i v e
    refine ⟨u, e2, ?_⟩
    rw [ho] at h
    simp only [_root_.Pv.R.toS] at p
    have go : ∀ {a : Addr} {o : HO}, g.T a = .sl i → H a = some o → (∀ xs, o ≠ .tup xs) → (∀ g', Keep g H g' H → g'.T a = .rt → MRep J.k g' H .O v u) → D.rt u H := fun {a o} t ha no f => by
      have ne : ∀ b, g.T b ≠ .sl i → (g.put a .rt).T b = g.T b := fun b h => put_ne fun e => h (by rw [e]; exact t)
      have kp : Keep g H (g.put a .rt) H := ⟨fun b h => ⟨ne b (by rcases h with h | h | ⟨_, h⟩ | ⟨_, _, h⟩ <;> rw [h] <;> intro z <;> cases z), rfl⟩, fun _ _ h => h⟩
      refine p u _ H (kp.str r.str ⟨r.str.no, fun n f b c hb hc => ?_, fun b hb => ?_, fun b xs e => ?_⟩) (stepS_put (.inr (.inr ⟨i, t⟩))) (by rw [hr]; exact f _ kp put_same)
      · have h1 : b ≠ a := fun e => by rw [e, put_same] at hb; cases hb
        have h2 : c ≠ a := fun e => by rw [e, put_same] at hc; cases hc
        rw [put_ne h1] at hb
        rw [put_ne h2] at hc
        exact r.str.uniq n f b c hb hc
      · by_cases h : b = a
        · rw [h, ha]
          intro z
          cases z
        · rw [put_ne h] at hb
          exact r.str.wf b hb
      · by_cases h : b = a
        · rw [h, ha] at e
          exact absurd (Option.some.inj e) (no xs)
        · rw [put_ne h]
          exact r.str.tup b xs e
    by_cases hc : isColl v
    · rcases coll_cases hc with ⟨xs, rfl⟩ | ⟨xs, rfl⟩ | ⟨xs, rfl⟩
      · obtain ⟨a, us, rfl, ⟨t, ha⟩, hs⟩ := (show ∃ a us, u = .ref a ∧ OP g H (.sl i) a (.lst us) ∧ _ from h)
        exact go t ha (fun _ z => nomatch z) fun g' kp t' => ⟨a, us, rfl, ⟨t', ha⟩, kp.vs hs⟩
      · obtain ⟨a, us, rfl, ⟨t, ha⟩, hs⟩ := (show ∃ a us, u = .ref a ∧ OP g H (.sl i) a (.dK us) ∧ _ from h)
        exact go t ha (fun _ z => nomatch z) fun g' kp t' => ⟨a, us, rfl, ⟨t', ha⟩, VKs.mono kp.fz kp.ι _ _ hs⟩
      · obtain ⟨a, us, rfl, ⟨t, ha⟩, hs⟩ := (show ∃ a us, u = .ref a ∧ OP g H (.sl i) a (.dT us) ∧ _ from h)
        exact go t ha (fun _ z => nomatch z) fun g' kp t' => ⟨a, us, rfl, ⟨t', ha⟩, VTs.mono kp.fz kp.ι _ _ hs⟩
    · refine p u g H r.str StepS.refl ?_
      rw [hr]
      cases v <;> first | exact h | exact absurd trivial hc
  · exact p.elim
end
end Pv
end

section
set_option Elab.async false
set_option linter.all false
set_option maxRecDepth 100000
set_option autoImplicit false
/-! Pv16: an own list is changed in place. -/
namespace Pv
open PySem PySem.Spec PyProof.Rows L2

section
variable {X : Cx} {J : Jr} {m : Md} {pos : Pos}
theorem evS_mu_slot (x : Cfg) (i : Nat) (mu : Mu) (ρ : Env) (S : Store) : evS x (.mu (.slot i) mu) ρ S = match (ρ[i]? : Option (Option Val)) with
    | some (some v) => if muTy mu v = true then (evs x (muArgs mu) ρ S).toS ρ fun vs S2 => (match muV mu v (muDe mu S2 vs) with
      | some w => .nx (ρ.set i (some w)) S2
      | none => .stuck) else .stuck
    | _ => .stuck := by
  simp only [evS, plE, evs, R.toS, plV]
  cases h : (ρ[i]? : Option (Option Val)) with
  | none => rfl
  | some o =>
    cases o with
    | none => rfl
    | some v =>
      simp only
      split
      · congr 1
        funext vs S2
        simp only [muP, h] <;> rfl
      · rfl
/-- the list of a slot -/
theorem own_lst {k : Kx} {md : Sl} {g : Gh} {H : Hp} {σ : L2.St} {ρ : Env} {S : Store} {i : Nat} {xs : List Val} (r : Rel k md g σ H ρ S) (ho : md.l.getD i .shr = .own) (e : ρ[i]? = some (some (.lst xs))) :
    ∃ a us, σ[i]? = some (some (.ref a)) ∧ g.T a = .sl i ∧ H a = some (.lst us) ∧ VReps k (fzP g H) g.ι xs us := by
  obtain ⟨u, e2, h⟩ := r.slot i _ e
  rw [ho] at h
  obtain ⟨a, us, rfl, ⟨t, ha⟩, hs⟩ := (show ∃ a us, u = .ref a ∧ OP g H (.sl i) a (.lst us) ∧ _ from h)
  exact ⟨a, us, e2, t, ha, hs⟩
/-- a list's method at a slot -/
theorem mu_imp {i : Nat} {mu : Mu} {ms : List Md} {rr : V → List V → Hp → VK → Prop} (ho : J.md.l.getD i .shr = .own) (hx : hxOk J.md i) (hl : ∀ v, muTy mu v = true → ∃ xs, v = .lst xs)
    (hr : ∀ g H σ ρ S vs us a xs ws z Q, vs.length = (muArgs mu).length → Rel J.k J.md g σ H ρ S → MReps J.k g H ms vs us → H a = some (.lst ws) → VReps J.k (fzP g H) g.ι xs ws → muV mu (.lst xs) (muDe mu S vs) = some z →
      (∀ (zs : List Val) (xz : List V), z = .lst zs → VReps J.k (fzP g H) g.ι zs xz → Q .non (upd H a (.lst xz))) → rr (.ref a) us H Q)
    (D : Ends) (σ : L2.St) (H : Hp) (h : J.tS (.mu (.slot i) mu) D σ H) : tDrop (tBM X.K "list" rr (tVar i) (J.tA ms (muArgs mu))) D σ H := by
  obtain ⟨g, ρ, S, r, p⟩ := h
  rw [evS_mu_slot] at p
  cases e : (ρ[i]? : Option (Option Val)) with
  | none => rw [e] at p; exact p.elim
  | some o =>
    cases o with
    | none => rw [e] at p; exact p.elim
    | some v =>
      rw [e] at p
      simp only at p
      split at p
      case isFalse => exact p.elim
      rename_i hty
      obtain ⟨xs, rfl⟩ := hl v hty
      obtain ⟨a, us0, eσ, t0, ha0, hs0⟩ := own_lst r ho e
      refine ⟨.ref a, eσ, .inl ⟨rfl, us0, .inl (.inl ha0)⟩, ?_⟩
      refine tA_bindI r (fun c S' ev => ?_) (fun ev => ?_) fun vs S' us g' H' ev r' st mr => ?_
      · rw [ev] at p
        exact fun g2 H2 r2 s => p σ g2 H2 r2 s.toS
      · rw [ev] at p
        exact p
      · rw [ev] at p
        simp only [_root_.Pv.R.toS] at p
        have k1 := st.keep a (.inr (.inr (.inr ⟨i, t0⟩)))
        have p' := postS_after p st.toS
        cases em : muV mu (.lst xs) (muDe mu S' vs) with
        | none => rw [em] at p'; exact p'.elim
        | some z =>
          rw [em] at p'
          refine hr g' H' σ ρ S' vs us a xs us0 z _ (evs_len ev) r' mr (k1.2.trans ha0) (st.mVs hs0) em fun zs xz ez hz => ?_
          subst ez
          have rm := rel_mut (o := .lst xz) (v := .lst zs) r' hx ho (k1.1.trans t0) eσ (fun _ z => nomatch z) fun H2 kp hH2 => ⟨a, xz, rfl, ⟨k1.1.trans t0, hH2⟩, kp.vs hz⟩
          exact p' σ g' _ rm.1 rm.2
theorem muTy_lst {mu : Mu} (h : (match mu with | .seti _ _ => false | .dpop _ => false | _ => true) = true) : ∀ v, muTy mu v = true → ∃ xs, v = .lst xs := by
  intro v hv
  cases mu <;> cases v <;> first
    | exact ⟨_, rfl⟩
    | exact Bool.noConfusion h
    | exact Bool.noConfusion hv
theorem s_app {i : Nat} {x : Str} {e : Expr} {ie : E} {p1 ap cp : Pos} (hN : X.N[i]? = some x) (hv : Vis X.env.scope x) (hd : (x == ("__debug__" : Str)) = false) (hcd : (x == ("__classdict__" : Str)) = false) (ho : J.md.l.getD i .shr = .own) (hx : hxOk J.md i)
    (ha : PA X [e] (J.tA [] [ie])) (hline : (ap.endLine == cp.line) = true) (hst : starEach [e] X.env = (false, eval e X.env) :: starEach [] X.env) (hs : swapsWith (.Call (.Attribute (.Name x p1) "append" ap) [e] [] cp) none pos.line X.env = pure false) :
    PS X (.Expr (.Call (.Attribute (.Name x p1) "append" ap) [e] [] cp) pos) (J.tS (.mu (.slot i) (.app ie))) := by
  refine PS.imp (ps_expr (pe_bm PySem.F.plainAttrs_list PySem.F.slot_list_append PySem.F.type_list_append mt_append (pe_var hN hv hd hcd) ha (hline := hline) (hs := hst) (hfew := by rw [hst]; rfl)) hs) ?_
  refine mu_imp ho hx (muTy_lst rfl) fun g H σ ρ S vs us a xs ws z Q hlen r mr ha hs em q => ?_
  cases vs with
  | nil => cases hlen
  | cons v vs =>
    cases vs with
    | cons _ _ => cases hlen
    | nil =>
      obtain ⟨u, rfl, h1⟩ := mr.one
      simp only [muDe, muV] at em
      split at em
      · rename_i hz
        cases em
        refine ⟨a, ws, u, rfl, rfl, ha, ?_, q _ _ rfl (hs.app (VReps.one h1))⟩
        rw [hs.len]
        have := szb_lt hz
        omega
      · cases em
theorem s_ext {i : Nat} {x : Str} {e : Expr} {ie : E} {p1 ap cp : Pos} (hN : X.N[i]? = some x) (hv : Vis X.env.scope x) (hd : (x == ("__debug__" : Str)) = false) (hcd : (x == ("__classdict__" : Str)) = false) (ho : J.md.l.getD i .shr = .own) (hx : hxOk J.md i)
    (ha : PA X [e] (J.tA [.B] [ie])) (hline : (ap.endLine == cp.line) = true) (hst : starEach [e] X.env = (false, eval e X.env) :: starEach [] X.env) (hs : swapsWith (.Call (.Attribute (.Name x p1) "extend" ap) [e] [] cp) none pos.line X.env = pure false) :
    PS X (.Expr (.Call (.Attribute (.Name x p1) "extend" ap) [e] [] cp) pos) (J.tS (.mu (.slot i) (.ext ie))) := by
  refine PS.imp (ps_expr (pe_bm PySem.F.plainAttrs_list PySem.F.slot_list_extend PySem.F.type_list_extend mt_extend (pe_var hN hv hd hcd) ha (hline := hline) (hs := hst) (hfew := by rw [hst]; rfl)) hs) ?_
  refine mu_imp ho hx (muTy_lst rfl) fun g H σ ρ S vs us a xs ws z Q hlen r mr ha hs em q => ?_
  cases vs with
  | nil => cases hlen
  | cons v vs =>
    cases vs with
    | cons _ _ => cases hlen
    | nil =>
      obtain ⟨u, rfl, h1⟩ := mr.one
      have h2 := deref_R r.str h1.R
      simp only [muDe, List.map_cons, List.map_nil] at em
      generalize deref S v = v' at h2 em
      cases v' <;> simp only [muV] at em <;> try cases em
      rename_i ys
      split at em
      · rename_i hz
        cases em
        obtain ⟨b, zs, rfl, hb, ht⟩ := h2.lst_of
        refine ⟨a, b, ws, zs, rfl, rfl, ha, hb, ?_, q _ _ rfl (hs.app ht)⟩
        rw [hs.len, ht.len]
        exact szb_line hz
      · cases em
theorem VReps.rev {k : Kx} {F : Hp} {ι : Nat → Option Addr} : ∀ {xs : List Val} {us : List V}, VReps k F ι xs us → VReps k F ι xs.reverse us.reverse
  | [], _, h => by
    simp only [VReps] at h
    subst h
    simp only [List.reverse_nil, VReps]
  | x :: xs, _, h => by
    simp only [VReps] at h
    obtain ⟨u, r, rfl, h1, h2⟩ := h
    rw [List.reverse_cons, List.reverse_cons]
    exact (VReps.rev h2).app (VReps.one h1)
/-- a method without arguments -/
theorem mu0_imp {i : Nat} {mu : Mu} {rr : V → List V → Hp → VK → Prop} (h0 : muArgs mu = []) (ho : J.md.l.getD i .shr = .own) (hx : hxOk J.md i) (hl : ∀ v, muTy mu v = true → ∃ xs, v = .lst xs)
    (hr : ∀ g H a xs ws z Q, H a = some (.lst ws) → VReps J.k (fzP g H) g.ι xs ws → (∀ S, muV mu (.lst xs) (muDe mu S []) = some z) →
      (∀ (zs : List Val) (xz : List V), z = .lst zs → VReps J.k (fzP g H) g.ι zs xz → Q .non (upd H a (.lst xz))) → rr (.ref a) [] H Q)
    (hd : ∀ S S' v, muV mu v (muDe mu S []) = muV mu v (muDe mu S' []))
    (D : Ends) (σ : L2.St) (H : Hp) (h : J.tS (.mu (.slot i) mu) D σ H) : tDrop (tBM0 X.K "list" rr (tVar i)) D σ H := by
  obtain ⟨g, ρ, S, r, p⟩ := h
  rw [evS_mu_slot] at p
  cases e : (ρ[i]? : Option (Option Val)) with
  | none => rw [e] at p; exact p.elim
  | some o =>
    cases o with
    | none => rw [e] at p; exact p.elim
    | some v =>
      rw [e] at p
      simp only at p
      split at p
      case isFalse => exact p.elim
      rename_i hty
      obtain ⟨xs, rfl⟩ := hl v hty
      obtain ⟨a, us0, eσ, t0, ha0, hs0⟩ := own_lst r ho e
      refine ⟨.ref a, eσ, .inl ⟨rfl, us0, .inl (.inl ha0)⟩, ?_⟩
      rw [h0] at p
      simp only [evs, _root_.Pv.R.toS] at p
      cases em : muV mu (.lst xs) (muDe mu S []) with
      | none => rw [em] at p; exact p.elim
      | some z =>
        rw [em] at p
        refine hr g H a xs us0 z _ ha0 hs0 (fun S' => (hd _ _ _).trans em) fun zs xz ez hz => ?_
        subst ez
        have rm := rel_mut (o := .lst xz) (v := .lst zs) r hx ho t0 eσ (fun _ z => nomatch z) fun H2 kp hH2 => ⟨a, xz, rfl, ⟨t0, hH2⟩, kp.vs hz⟩
        exact p σ g _ rm.1 rm.2
theorem s_clr {i : Nat} {x : Str} {p1 ap cp : Pos} (hN : X.N[i]? = some x) (hv : Vis X.env.scope x) (hd : (x == ("__debug__" : Str)) = false) (hcd : (x == ("__classdict__" : Str)) = false) (ho : J.md.l.getD i .shr = .own) (hx : hxOk J.md i)
    (hline : (ap.endLine == cp.line) = true) (hs : swapsWith (.Call (.Attribute (.Name x p1) "clear" ap) [] [] cp) none pos.line X.env = pure false) :
    PS X (.Expr (.Call (.Attribute (.Name x p1) "clear" ap) [] [] cp) pos) (J.tS (.mu (.slot i) .clr)) := by
  refine PS.imp (ps_expr (pe_bm0 PySem.F.plainAttrs_list PySem.F.slot_list_clear PySem.F.type_list_clear mt_clear (pe_var hN hv hd hcd) (hline := hline)) hs) ?_
  refine mu0_imp rfl ho hx (muTy_lst rfl) (fun g H a xs ws z Q ha hs em q => ?_) fun _ _ _ => rfl
  have em := em []
  simp only [muDe, muV] at em
  cases em
  exact ⟨a, ws, rfl, rfl, ha, q _ _ rfl (by simp only [VReps])⟩
theorem s_rev {i : Nat} {x : Str} {p1 ap cp : Pos} (hN : X.N[i]? = some x) (hv : Vis X.env.scope x) (hd : (x == ("__debug__" : Str)) = false) (hcd : (x == ("__classdict__" : Str)) = false) (ho : J.md.l.getD i .shr = .own) (hx : hxOk J.md i)
    (hline : (ap.endLine == cp.line) = true) (hs : swapsWith (.Call (.Attribute (.Name x p1) "reverse" ap) [] [] cp) none pos.line X.env = pure false) :
    PS X (.Expr (.Call (.Attribute (.Name x p1) "reverse" ap) [] [] cp) pos) (J.tS (.mu (.slot i) .rev)) := by
  refine PS.imp (ps_expr (pe_bm0 PySem.F.plainAttrs_list PySem.F.slot_list_reverse PySem.F.type_list_reverse mt_reverse (pe_var hN hv hd hcd) (hline := hline)) hs) ?_
  refine mu0_imp rfl ho hx (muTy_lst rfl) (fun g H a xs ws z Q ha hs em q => ?_) fun _ _ _ => rfl
  have em := em []
  simp only [muDe, muV] at em
  cases em
  exact ⟨a, ws, rfl, rfl, ha, q _ _ rfl hs.rev⟩

/-! ### x[i] = e -/
theorem VReps.set {k : Kx} {F : Hp} {ι : Nat → Option Addr} {y : Val} {w : V} (hy : VRep k F ι y w) : ∀ {xs : List Val} {us : List V} {j : Nat}, VReps k F ι xs us → VReps k F ι (xs.set j y) (us.set j w)
  | [], _, j, h => by
    simp only [VReps] at h
    subst h
    simp only [List.set_nil, VReps]
  | x :: xs, _, 0, h => by
    simp only [VReps] at h
    obtain ⟨u, r, rfl, h1, h2⟩ := h
    rw [List.set_cons_zero, List.set_cons_zero]
    simp only [VReps]
    exact ⟨w, r, rfl, hy, h2⟩
  | x :: xs, _, j + 1, h => by
    simp only [VReps] at h
    obtain ⟨u, r, rfl, h1, h2⟩ := h
    rw [List.set_cons_succ, List.set_cons_succ]
    simp only [VReps]
    exact ⟨u, _, rfl, h1, VReps.set hy h2⟩
theorem VKs.put {k : Kx} {F : Hp} {ι : Nat → Option Addr} {y : Val} {w : V} {q : Key} (hy : VRep k F ι y w) : ∀ {xs : List (Key × Val)} {us : List (Key × V)}, VKs k F ι xs us → (us.map (·.1)).Nodup → VKs k F ι (dput q y xs) (putK us q w) := by
  have app : ∀ {xs : List (Key × Val)} {us : List (Key × V)}, VKs k F ι xs us → (us.any fun kv => decide (kv.1 = q)) = false → VKs k F ι (dput q y xs) (us ++ [(q, w)]) := by
    intro xs
    induction xs with
    | nil =>
      intro us h _
      simp only [VKs] at h
      subst h
      show VKs k F ι [(q, y)] [(q, w)]
      simp only [VKs]
      exact ⟨w, [], rfl, hy, rfl⟩
    | cons p xs ih =>
      intro us h hn
      obtain ⟨a, x⟩ := p
      simp only [VKs] at h
      obtain ⟨u, r, rfl, h1, h2⟩ := h
      simp only [List.any_cons, Bool.or_eq_false_iff, decide_eq_false_iff_not] at hn
      simp only [dput, if_neg hn.1, List.cons_append, VKs]
      exact ⟨u, _, rfl, h1, ih h2 hn.2⟩
  have rep : ∀ {xs : List (Key × Val)} {us : List (Key × V)}, VKs k F ι xs us → (us.map (·.1)).Nodup → (us.any fun kv => decide (kv.1 = q)) = true → VKs k F ι (dput q y xs) (us.map fun kv => if kv.1 = q then (kv.1, w) else kv) := by
    intro xs
    induction xs with
    | nil =>
      intro us h _ hn
      simp only [VKs] at h
      subst h
      cases hn
    | cons p xs ih =>
      intro us h hd hn
      obtain ⟨a, x⟩ := p
      simp only [VKs] at h
      obtain ⟨u, r, rfl, h1, h2⟩ := h
      simp only [List.map_cons, List.nodup_cons] at hd
      by_cases e : a = q
      · subst e
        have hr : (r.map fun kv => if kv.1 = a then (kv.1, w) else kv) = r := by
          rw [List.map_congr_left (g := id)]
          · simp
          · intro kv hkv
            rw [if_neg]
            · rfl
            · intro z
              exact hd.1 (List.mem_map.mpr ⟨kv, hkv, z⟩)
        simp only [dput, if_pos, List.map_cons, hr, VKs]
        exact ⟨w, r, rfl, hy, h2⟩
      · simp only [List.any_cons, decide_eq_false e, Bool.false_or] at hn
        simp only [dput, if_neg e, List.map_cons, VKs]
        exact ⟨u, _, rfl, h1, ih h2 hd.2 hn⟩
  intro xs us h hd
  unfold putK
  cases e : (us.any fun kv => decide (kv.1 = q)) with
  | true => exact rep h hd e
  | false => exact app h e
end
end Pv
end

section
set_option Elab.async false
set_option linter.all false
set_option maxRecDepth 100000
set_option autoImplicit false
/-! Pv17: x[i] = e of an own list; raise; try. -/
namespace Pv
open PySem PySem.Spec PyProof.Rows L2

section
variable {X : Cx} {J : Jr} {m : Md} {pos : Pos}
theorem toS_two {x : Cfg} {a b : E} {ρ : Env} {S : Store} {f : List Val → Store → RS} : (evs x [a, b] ρ S).toS ρ f = (evE x a ρ S).toS ρ fun v S1 => (evE x b ρ S1).toS ρ fun w S2 => f [v, w] S2 := by
  simp only [evs]
  cases evE x a ρ S with
  | ok v S1 =>
    simp only [_root_.Pv.R.bind, _root_.Pv.R.toS]
    cases evE x b ρ S1 <;> rfl
  | exn c S1 => rfl
  | stuck => rfl
theorem s_seti {i : Nat} {x : Str} {e ix : Expr} {ie ik : E} {p1 tpos : Pos} (hN : X.N[i]? = some x) (hv : Vis X.env.scope x) (hd : (x == ("__debug__" : Str)) = false) (hcd : (x == ("__classdict__" : Str)) = false) (ho : J.md.l.getD i .shr = .own) (hx : hxOk J.md i)
    (he : PE X e (J.tE .V ie)) (hk : PE X ix (J.tE .V ik)) (hs : swapsWithSole [.Subscript (.Name x p1) ix tpos] e pos.line X.env = pure false) (hw : swappedStores [.Subscript (.Name x p1) ix tpos] e X.env = pure none)
    (ha : ∀ v, assign (.Subscript (.Name x p1) ix tpos) X.env v = (do
      let ov ← holding [v] (eval (.Name x p1) X.env)
      let iv ← holding [v, ov] (eval ix X.env)
      standAt tpos
      holding [v, ov, iv] (setItem ov iv v)
      release [v, ov, iv] [])) :
    PS X (.Assign [.Subscript (.Name x p1) ix tpos] e pos) (J.tS (.mu (.slot i) (.seti ik ie))) := by
  refine PS.imp (ps_asg he (pg_sub (pe_var hN hv hd hcd) hk set_list ha) hs hw) fun D σ H h => ?_
  obtain ⟨g, ρ, S, r, p⟩ := h
  rw [evS_mu_slot] at p
  cases e0 : (ρ[i]? : Option (Option Val)) with
  | none => rw [e0] at p; exact p.elim
  | some o =>
    cases o with
    | none => rw [e0] at p; exact p.elim
    | some v0 =>
      rw [e0] at p
      simp only at p
      split at p
      case isFalse => exact p.elim
      rename_i hty
      simp only [muArgs] at p
      rw [toS_two] at p
      refine tE_bindR r p fun v S1 u g1 H1 e1 r1 st1 mr1 p1 => ?_
      obtain ⟨uo, eσ, _⟩ := r1.slot i v0 e0
      refine ⟨uo, eσ, ?_⟩
      refine tE_bindR r1 p1 fun w S2 u2 g2 H2 e2 r2 st2 mr2 p2 => ?_
      simp only [muDe] at p2
      cases v0 with
      | lst xs =>
        cases w with
        | int j =>
          simp only [muV] at p2
          cases ej : atN xs.length j with
          | none => rw [ej] at p2; exact p2.elim
          | some n =>
            rw [ej] at p2
            obtain ⟨a, us, eσ2, t2, ha2, hs2⟩ := own_lst r2 ho e0
            rw [eσ] at eσ2
            cases eσ2
            have mv := st2.mV mr1
            refine ⟨a, us, j, n, rfl, mr2.R.int_of, ha2, by rw [hs2.len]; exact ej, ?_⟩
            have rm := rel_mut (o := .lst (us.set n u)) (v := .lst (xs.set n v)) r2 hx ho t2 eσ (fun _ z => nomatch z) fun H3 kp hH3 => ⟨a, _, rfl, ⟨t2, hH3⟩, kp.vs (hs2.set mv)⟩
            exact p2 σ g2 _ rm.1 rm.2
        | _ => exact p2.elim
      | _ => cases hty

/-! ### raise -/
theorem s_rais {x msg : Str} {c : Nat} {j : Nat} {p p2 p3 : Pos} {bmB : List Value} {B newId initId : String} (hc : X.calm = true) (tk : Takes X J.W) (F : ExcBaseFacts B newId initId bmB) (q : PySem.W.excIn X.K (J.k.ca c) bmB newId = true) (gC : X.mg x = some (.ref (J.k.ca c)))
    (kC : PySem.W.keepIn X.K (.ref (J.k.ca c)) = true) (r : Raises X (.ref (J.k.ca c))) (hg : Gl X x) (hdb : (x == ("__debug__" : Str)) = false) :
    PS X (.Raise (some (.Call (.Name x p) [.Constant (.str msg) j p2] [] p3)) none pos) (J.tS (.rais c)) := by
  refine PS.imp (ps_raise hc tk (pmk_own F q gC kC r hg hdb)) fun D σ H h => ?_
  obtain ⟨g, ρ, S, rl, p⟩ := h
  simp only [evS] at p
  exact p σ g H rl StepS.refl

/-! ### try -/
def Jr.wish (J : Jr) (W : WX) : Jr := { J with W := W }
/-- in a suite -/
def Jr.suit (J : Jr) (o : Option (Nat × Addr × Nat)) : Jr := { J with W := fun _ _ _ _ => False, md := { J.md with hx := o } }
/-- what a try's class says of a class -/
def Catch (K : PySem.W.Frag) (J : Jr) (d : Nat) : Prop := ∀ c b, catches J.x.G c d = some b → PySem.W.exmOne K (.ref (J.k.ca c)) (.ref (J.k.ca d)) = some b
theorem rel_hx {k : Kx} {md : Sl} {g : Gh} {H : Hp} {σ : L2.St} {ρ : Env} {S : Store} (r : Rel k md g σ H ρ S) : Rel k { md with hx := none } g σ H ρ S := ⟨r.len, r.lenσ, r.slot, (fun _ _ _ z => nomatch z), r.str⟩
theorem rel_unhx {k : Kx} {l : List Mode} {o : Option (Nat × Addr × Nat)} {g : Gh} {H : Hp} {σ : L2.St} {ρ : Env} {S : Store} (r : Rel k { l := l, hx := o } g σ H ρ S) : Rel k { l := l, hx := none } g σ H ρ S := ⟨r.len, r.lenσ, r.slot, (fun _ _ _ z => nomatch z), r.str⟩
/-- the end of a suite, as the try has it -/
theorem suit_post {J : Jr} {g : Gh} {H : Hp} {r : RS} {D : Ends} (h0 : J.md.hx = none) (p : J.PostS g H (unAs none r) D) : (J.suit none).PostS g H r D := by
  have w : ∀ {g' : Gh} {σ' : L2.St} {H' : Hp} {ρ' : Env} {S' : Store}, Rel (J.suit none).k (J.suit none).md g' σ' H' ρ' S' → Rel J.k J.md g' σ' H' ρ' S' := fun {g' σ' H' ρ' S'} q => ⟨q.len, q.lenσ, q.slot, (fun i a c z => by rw [h0] at z; cases z), q.str⟩
  cases r with
  | nx ρ S => exact fun σ g' H' q st => p σ g' H' (w q) st
  | brk ρ S => exact fun σ g' H' q st => p σ g' H' (w q) st
  | cnt ρ S => exact fun σ g' H' q st => p σ g' H' (w q) st
  | ret v S => exact p
  | exn c ρ S => exact p.elim
  | stuck => exact p
/-- except clauses without names -/
inductive HdsAt (X : Cx) (J : Jr) : List ExceptHandler → List (Nat × Option Nat × List _root_.Pv.S) → Prop where
  | nil : HdsAt X J [] []
  | cons {x : Str} {b₀ : Stmt} {suite : List Stmt} {np pos' : Pos} {d : Nat} {isu : List _root_.Pv.S} {hds : List ExceptHandler} {ihs : List (Nat × Option Nat × List _root_.Pv.S)} (hc : Names X x (.ref (J.k.ca d))) (hk : Catch X.K J d)
      (hsu : ∀ (a : Addr) (oe : Obj) (pn : List (Addr × Obj)), PSs (X.suite a ((a, oe) :: pn)) (b₀ :: suite) ((J.suit none).tSs isu)) (r : HdsAt X J hds ihs) : HdsAt X J (.ExceptHandler (some (.Name x np)) none (b₀ :: suite) pos' :: hds) ((d, none, isu) :: ihs)
def hdL (J : Jr) (ihs : List (Nat × Option Nat × List _root_.Pv.S)) : List (Value × (Addr → Value → Option Addr → TS)) := ihs.map fun ih => (.ref (J.k.ca ih.1), fun _ _ _ => (J.suit none).tSs ih.2.2)
theorem HdsAt.ok {X : Cx} {J : Jr} {hds : List ExceptHandler} {ihs : List (Nat × Option Nat × List _root_.Pv.S)} (h : HdsAt X J hds ihs) : HdsOk X hds (hdL J ihs) := by
  induction h with
  | nil => exact .nil
  | cons hc hk hsu r ih => exact .cons hc (fun a oe cls d pn _ _ => hsu a oe pn) ih
theorem HdsAt.many {X : Cx} {J : Jr} (h0 : J.md.hx = none) {D : Ends} {c : Nat} {hds : List ExceptHandler} {ihs : List (Nat × Option Nat × List _root_.Pv.S)} (h : HdsAt X J hds ihs) :
    ∀ {g : Gh} {H : Hp} {σ : L2.St} {ρ : Env} {S : Store}, Rel J.k J.md g σ H ρ S → J.PostS g H (evH J.x c ihs ρ S) D → wMany X.K J.W D (hdL J ihs) (.ref (J.k.ca c)) none σ H := by
  induction h with
  | nil =>
    intro g H σ ρ S r p
    simp only [evH] at p
    exact p σ g H r StepS.refl
  | @cons x b₀ suite np pos' d isu hds ihs hc hk hsu r' ih =>
    intro g H σ ρ S r p
    simp only [evH] at p
    cases ec : catches J.x.G c d with
    | none => rw [ec] at p; exact p.elim
    | some b =>
      rw [ec] at p
      refine ⟨b, hk c b ec, fun hb a _ => ?_, fun hb => ?_⟩
      · subst hb
        exact ⟨g, ρ, S, rel_hx r, suit_post h0 p⟩
      · subst hb
        exact ih r p
theorem s_try {X : Cx} {J : Jr} {pos : Pos} {body : List Stmt} {h₀ : ExceptHandler} {hds : List ExceptHandler} {ib : List _root_.Pv.S} {ihs : List (Nat × Option Nat × List _root_.Pv.S)} (h0 : J.md.hx = none) (hs : X.stack = X.env :: X.outer) (hf : X.env.frame = some X.env.locals) (tk : Takes X J.W)
    (hb : ∀ (W : WX) (pn : List (Addr × Obj)) (xe : Value → Shared → Prop), Takes (X.tr pn xe) W → PassesOwn (model X.prog X.w) X.A X.env xe → PSs (X.tr pn xe) body ((J.wish W).tSs ib))
    (hh : HdsAt X J (h₀ :: hds) ihs) : PS X (.Try body (h₀ :: hds) [] [] pos) (J.tS (.tr ib ihs)) := by
  refine PS.imp (ps_try_many hs hf tk hb hh.ok) fun D σ H h => ?_
  obtain ⟨g, ρ, S, r, p⟩ := h
  refine ⟨g, ρ, S, r, ?_⟩
  simp only [evS] at p
  show (J.wish _).PostS g H (evSs J.x ib ρ S) D
  cases ev : evSs J.x ib ρ S with
  | nx ρ1 S1 => rw [ev] at p; exact p
  | brk ρ1 S1 => rw [ev] at p; exact p
  | cnt ρ1 S1 => rw [ev] at p; exact p
  | ret v S1 => rw [ev] at p; exact p
  | stuck => rw [ev] at p; exact p
  | exn c ρ1 S1 =>
    rw [ev] at p
    exact fun σ1 g1 H1 r1 st => hh.many h0 r1 (postS_after p st)
/-- one clause with a name -/
theorem s_tryAs {X : Cx} {J : Jr} {pos : Pos} {body : List Stmt} {x n : Str} {b₀ : Stmt} {suite : List Stmt} {np pos' : Pos} {i d : Nat} {ib isu : List _root_.Pv.S} (h0 : J.md.hx = none) (hs : X.stack = X.env :: X.outer) (hf : X.env.frame = some X.env.locals)
    (hN : X.N.Nodup) (hi : X.N[i]? = some n) (hln : X.env.kindOf n = some .local) (hm : J.md.l[i]? = some .shr) (hc : Names X x (.ref (J.k.ca d))) (hk : Catch X.K J d) (tk : Takes X J.W)
    (hb : ∀ (W : WX) (pn : List (Addr × Obj)) (xe : Value → Shared → Prop), Takes (X.tr pn xe) W → PassesOwn (model X.prog X.w) X.A X.env xe → PSs (X.tr pn xe) body ((J.wish W).tSs ib))
    (hsu : ∀ (a : Addr) (oe : Obj) (c : Nat) (pn : List (Addr × Obj)), (∃ C, J.x.G.cls c = some C ∧ C.exc = true) → Zc (.ref (J.k.ca c)) none oe → (∃ vs, oe.data = .fields vs) → PSs (X.suite a ((a, oe) :: pn)) (b₀ :: suite) ((J.suit (some (i, a, c))).tSs isu)) :
    PS X (.Try body [.ExceptHandler (some (.Name x np)) (some n) (b₀ :: suite) pos'] [] [] pos) (J.tS (.tr ib [(d, some i, isu)])) := by
  refine PS.imp (ps_try_as (ts := fun a cls dd D σ H => ∃ c, cls = .ref (J.k.ca c) ∧ dd = none ∧ (∃ C, J.x.G.cls c = some C ∧ C.exc = true) ∧ (J.suit (some (i, a, c))).tSs isu D σ H) hs hf hN hi hln hc tk hb (fun a oe cls dd pn hz hd => ⟨fun pins s σ H D I h => ?_⟩)) fun D σ H h => ?_
  · obtain ⟨c, rfl, rfl, hC, h⟩ := h
    exact (hsu a oe c pn hC hz hd).run pins s σ H D I h
  · obtain ⟨g, ρ, S, r, p⟩ := h
    refine ⟨g, ρ, S, r, ?_⟩
    simp only [evS] at p
    show (J.wish _).PostS g H (evSs J.x ib ρ S) D
    cases ev : evSs J.x ib ρ S with
    | nx ρ1 S1 => rw [ev] at p; exact p
    | brk ρ1 S1 => rw [ev] at p; exact p
    | cnt ρ1 S1 => rw [ev] at p; exact p
    | ret v S1 => rw [ev] at p; exact p
    | stuck => rw [ev] at p; exact p
    | exn c ρ1 S1 =>
      rw [ev] at p
      intro σ1 g1 H1 r1 st
      have r1 : Rel J.k J.md g1 σ1 H1 ρ1 S1 := r1
      have p := postS_after p st
      simp only [evH] at p
      cases ec : catches J.x.G c d with
      | none => rw [ec] at p; exact p.elim
      | some b =>
        rw [ec] at p
        refine ⟨b, hk c b ec, fun hb a _ => ?_, fun hb => ?_⟩
        · subst hb
          have hC : ∃ C, J.x.G.cls c = some C ∧ C.exc = true := by
            unfold catches at ec
            split at ec
            · rename_i C hC
              split at ec
              · rename_i hx
                exact ⟨C, hC, hx⟩
              · cases ec
            · cases ec
          refine ⟨c, rfl, rfl, hC, g1, ρ1.set i (some (.exc c)), S1, ?_, ?_⟩
          · have hl : i < J.md.l.length := by
              by_cases z : i < J.md.l.length
              · exact z
              · rw [List.getElem?_eq_none (by omega)] at hm
                cases hm
            have hx0 : hxOk J.md i := fun j a c z => by rw [h0] at z; cases z
            have r2 := rel_set (v := .exc c) (u := .ref a) r1 hx0 (by
              rw [getD_eq, hm]
              show VRep _ _ _ _ _
              simp only [VRep]
              exact ⟨a, rfl⟩)
            refine ⟨r2.len, r2.lenσ, r2.slot, fun j a' c' z => ?_, r2.str⟩
            cases z
            rw [set_at, set_at, if_pos ⟨rfl, by rw [r1.lenσ]; exact hl⟩, if_pos ⟨rfl, by rw [r1.len]; exact hl⟩]
            exact ⟨rfl, rfl⟩
          · simp only [asSlot] at p
            have w : ∀ {g' : Gh} {σ' : L2.St} {H' : Hp} {ρ' : Env} {S' : Store}, Rel (J.suit (some (i, a, c))).k (J.suit (some (i, a, c))).md g' σ' H' ρ' S' → Rel J.k J.md g' (σ'.set i none) H' (ρ'.set i none) S' := fun {g' σ' H' ρ' S'} q => by
              have q2 : Rel J.k { J.md with hx := none } g' σ' H' ρ' S' := ⟨q.len, q.lenσ, q.slot, (fun _ _ _ z => nomatch z), q.str⟩
              have q3 := rel_dropσ (i := i) q2 (fun _ _ _ z => nomatch z)
              exact ⟨q3.len, q3.lenσ, q3.slot, (fun j a c z => by rw [h0] at z; cases z), q3.str⟩
            cases ev2 : evSs (J.suit (some (i, a, c))).x isu (ρ1.set i (some (.exc c))) S1 with
            | nx ρ2 S2 =>
              have e2 : evSs J.x isu (ρ1.set i (some (.exc c))) S1 = .nx ρ2 S2 := ev2
              rw [e2] at p
              exact fun σ2 g2 H2 q st2 => p _ g2 H2 (w q) st2
            | brk ρ2 S2 =>
              have e2 : evSs J.x isu (ρ1.set i (some (.exc c))) S1 = .brk ρ2 S2 := ev2
              rw [e2] at p
              exact fun σ2 g2 H2 q st2 => p _ g2 H2 (w q) st2
            | cnt ρ2 S2 =>
              have e2 : evSs J.x isu (ρ1.set i (some (.exc c))) S1 = .cnt ρ2 S2 := ev2
              rw [e2] at p
              exact fun σ2 g2 H2 q st2 => p _ g2 H2 (w q) st2
            | ret v S2 =>
              have e2 : evSs J.x isu (ρ1.set i (some (.exc c))) S1 = .ret v S2 := ev2
              rw [e2] at p
              exact p
            | exn c2 ρ2 S2 =>
              have e2 : evSs J.x isu (ρ1.set i (some (.exc c))) S1 = .exn c2 ρ2 S2 := ev2
              rw [e2] at p
              exact p.elim
            | stuck =>
              have e2 : evSs J.x isu (ρ1.set i (some (.exc c))) S1 = .stuck := ev2
              rw [e2] at p
              exact p.elim
        · subst hb
          simp only [evH] at p
          exact p σ1 g1 H1 r1 StepS.refl
end
end Pv
end

section
set_option Elab.async false
set_option linter.all false
set_option maxRecDepth 100000
set_option autoImplicit false
/-! Pv18: calls. -/
namespace Pv
open PySem PySem.Spec PyProof.Rows L2

/-! ### a callee's view of the addresses -/
def Gh.callee (g : Gh) : Gh := { g with T := fun a => match g.T a with
  | .sl _ => .br
  | .rt => .br
  | t => t }
/-- the caller's view behind a call -/
def Gh.back (g g' : Gh) : Gh := { g' with T := fun a => match g.T a with
  | .sl i => .sl i
  | .rt => .rt
  | .no => (match g'.T a with
    | .sl _ => .no
    | .br => .no
    | t => t)
  | _ => g'.T a }
def Clean (g : Gh) : Prop := ∀ a, g.T a ≠ .rt ∧ ∀ i, g.T a ≠ .sl i
section
variable {k : Kx} {md : Sl} {g g' : Gh} {H H' : Hp} {σ : L2.St} {ρ : Env} {S S' : Store}
/-- what a store's facts need to be carried over -/
structure Keep0 (g : Gh) (H : Hp) (g' : Gh) (H' : Hp) : Prop where
  at' : ∀ a, g.T a = .fz ∨ (∃ n, g.T a = .st n) ∨ (∃ n f, g.T a = .fo n f) → g'.T a = g.T a ∧ H' a = H a
  ι : ∀ n a, g.ι n = some a → g'.ι n = some a
theorem Keep0.fz (h : Keep0 g H g' H') : ∀ b o, fzP g H b = some o → fzP g' H' b = some o := fun b o e => by
  obtain ⟨t, e⟩ := fzP_some e
  obtain ⟨t', e'⟩ := h.at' b (.inl t)
  exact fzP_of (t'.trans t) (e'.trans e)
theorem Keep0.fs (h : Keep0 g H g' H') {c n : Nat} : ∀ {fs : List (Nat × Val)} {us : List (Str × V)}, FReps k g H c n fs us → FReps k g' H' c n fs us
  | [], _, m => m
  | (f, x) :: xs, _, m => by
    obtain ⟨u, r, e, h1, h2⟩ := m
    refine ⟨u, r, e, ?_, h.fs h2⟩
    split
    · rename_i ho
      rw [if_pos ho] at h1
      refine TRep.mono h.fz h.ι (fun b o r => ?_) _ _ h1
      obtain ⟨t', e'⟩ := h.at' b (.inr (.inr ⟨n, f, r.1⟩))
      exact ⟨t'.trans r.1, e'.trans r.2⟩
    · rename_i ho
      rw [if_neg ho] at h1
      exact VRep.mono h.fz h.ι _ _ h1
theorem Keep0.obj (h : Keep0 g H g' H') {n : Nat} {x : Addr} {o : SO} (t : g.T x = .st n) (m : ORep k g H n x o) : ORep k g' H' n x o := by
  obtain ⟨_, e⟩ := h.at' x (.inr (.inl ⟨n, t⟩))
  cases o with
  | inst c fs =>
    obtain ⟨dx, us, h1, h2⟩ := m
    exact ⟨dx, us, e.trans h1, h.fs h2⟩
  | cell v =>
    obtain ⟨hc, m⟩ := m
    refine ⟨hc, TRep.mono h.fz h.ι (fun b ob r => ?_) _ _ m⟩
    obtain ⟨rfl, r⟩ := r
    exact ⟨rfl, e.trans r⟩
  | lk v =>
    obtain ⟨hc, m⟩ := m
    refine ⟨hc, TRep.mono h.fz h.ι (fun b ob r => ?_) _ _ m⟩
    obtain ⟨rfl, oo, r⟩ := r
    exact ⟨rfl, oo, e.trans r⟩
theorem Keep0.str (h : Keep0 g H g' H') (r : SRel k g H S) (s : Side g' H' S) : SRel k g' H' S :=
  ⟨fun n o e => by
    obtain ⟨x, i, t, m⟩ := r.obj n o e
    exact ⟨x, h.ι _ _ i, (h.at' x (.inr (.inl ⟨n, t⟩))).1.trans t, h.obj t m⟩, s.no, s.uniq, s.wf, s.tup⟩
theorem callee_ne {a : Addr} (h1 : g.T a ≠ .rt) (h2 : ∀ i, g.T a ≠ .sl i) : g.callee.T a = g.T a := by
  unfold Gh.callee
  cases e : g.T a with
  | rt => exact absurd e h1
  | sl i => exact absurd e (h2 i)
  | _ => simp only [e]
theorem callee_rt {a : Addr} (h : g.T a = .rt) : g.callee.T a = .br := by
  unfold Gh.callee
  simp only [h]
theorem callee_sl {a : Addr} {i : Nat} (h : g.T a = .sl i) : g.callee.T a = .br := by
  unfold Gh.callee
  simp only [h]
theorem callee_clean : Clean g.callee := fun a => by
  cases e : g.T a with
  | rt => rw [callee_rt e]; exact ⟨(fun z => nomatch z), fun i z => nomatch z⟩
  | sl i => rw [callee_sl e]; exact ⟨(fun z => nomatch z), fun i z => nomatch z⟩
  | _ =>
    rw [callee_ne (by rw [e]; intro z; cases z) (fun i => by rw [e]; intro z; cases z), e]
    exact ⟨(fun z => nomatch z), fun i z => nomatch z⟩
theorem callee_keep : Keep0 g H g.callee H := ⟨fun a h => ⟨callee_ne (fun z => by rw [z] at h; rcases h with h | ⟨_, h⟩ | ⟨_, _, h⟩ <;> cases h) (fun i z => by rw [z] at h; rcases h with h | ⟨_, h⟩ | ⟨_, _, h⟩ <;> cases h), rfl⟩, fun _ _ h => h⟩
theorem callee_no {a : Addr} (h : g.callee.T a ≠ .no) : g.T a ≠ .no := fun e => h (by rw [callee_ne (by rw [e]; intro z; cases z) (fun i => by rw [e]; intro z; cases z)]; exact e)
theorem callee_fo {a : Addr} {n f : Nat} (h : g.callee.T a = .fo n f) : g.T a = .fo n f := by
  cases e : g.T a with
  | rt => rw [callee_rt e] at h; cases h
  | sl i => rw [callee_sl e] at h; cases h
  | _ =>
    rw [callee_ne (by rw [e]; intro z; cases z) (fun i => by rw [e]; intro z; cases z), e] at h
    first | exact h | cases h
theorem callee_str (r : SRel k g H S) : SRel k g.callee H S := callee_keep.str r ⟨r.no, fun n f a b ha hb => r.uniq n f a b (callee_fo ha) (callee_fo hb), fun a h => r.wf a (callee_no h), fun a xs e => by
  rcases r.tup a xs e with h | h
  · exact .inl (by rw [callee_ne (by rw [h]; intro z; cases z) (fun i => by rw [h]; intro z; cases z)]; exact h)
  · exact .inr (by rw [callee_ne (by rw [h]; intro z; cases z) (fun i => by rw [h]; intro z; cases z)]; exact h)⟩
/-! ### back -/
theorem back_sl {a : Addr} {i : Nat} (h : g.T a = .sl i) : (g.back g').T a = .sl i := by
  unfold Gh.back
  simp only [h]
theorem back_rt {a : Addr} (h : g.T a = .rt) : (g.back g').T a = .rt := by
  unfold Gh.back
  simp only [h]
theorem back_new {a : Addr} (h : g.T a = .no) : (g.back g').T a = match g'.T a with
    | .sl _ => .no
    | .br => .no
    | t => t := by
  unfold Gh.back
  simp only [h]
theorem back_else {a : Addr} (h0 : g.T a ≠ .no) (h1 : g.T a ≠ .rt) (h2 : ∀ i, g.T a ≠ .sl i) : (g.back g').T a = g'.T a := by
  unfold Gh.back
  cases e : g.T a with
  | no => exact absurd e h0
  | rt => exact absurd e h1
  | sl i => exact absurd e (h2 i)
  | _ => simp only [e]
/-- what the callee frees of tags -/
theorem back_same {a : Addr} (st : StepS g.callee H g' H') (h : g'.T a = .fz ∨ g'.T a = .rt ∨ (∃ n, g'.T a = .st n) ∨ (∃ n f, g'.T a = .fo n f)) : (g.back g').T a = g'.T a := by
  cases e : g.T a with
  | no =>
    rw [back_new e]
    rcases h with h | h | ⟨n, h⟩ | ⟨n, f, h⟩ <;> rw [h]
  | rt =>
    have := (st.keep a (.inr (callee_rt e))).1
    rw [callee_rt e] at this
    rw [this] at h
    rcases h with h | h | ⟨n, h⟩ | ⟨n, f, h⟩ <;> cases h
  | sl i =>
    have := (st.keep a (.inr (callee_sl e))).1
    rw [callee_sl e] at this
    rw [this] at h
    rcases h with h | h | ⟨n, h⟩ | ⟨n, f, h⟩ <;> cases h
  | _ => exact back_else (by rw [e]; intro z; cases z) (by rw [e]; intro z; cases z) (fun i => by rw [e]; intro z; cases z)
theorem back_keep (st : StepS g.callee H g' H') : Keep0 g' H' (g.back g') H' := ⟨fun a h => ⟨back_same st (h.imp id .inr), rfl⟩, fun _ _ h => h⟩
theorem back_fo {a : Addr} {n f : Nat} (h : (g.back g').T a = .fo n f) : g'.T a = .fo n f := by
  cases e : g.T a with
  | no =>
    rw [back_new e] at h
    cases e2 : g'.T a <;> rw [e2] at h <;> first | exact h | cases h
  | rt => rw [back_rt e] at h; cases h
  | sl i => rw [back_sl e] at h; cases h
  | _ => rwa [back_else (by rw [e]; intro z; cases z) (by rw [e]; intro z; cases z) (fun i => by rw [e]; intro z; cases z)] at h
theorem back_step (wf : ∀ a, g.T a ≠ .no → H a ≠ none) (st : StepS g.callee H g' H') : Step false g H (g.back g') H' := by
  refine ⟨fun a h => ?_, fun a n h => ?_, fun a n f h => ?_, fun z => Bool.noConfusion z, st.ι⟩
  · rcases h with h | h | h | ⟨i, h⟩
    · have e : g.callee.T a = .fz := (callee_ne (by rw [h]; intro z; cases z) (fun i => by rw [h]; intro z; cases z)).trans h
      obtain ⟨t, e2⟩ := st.keep a (.inl e)
      exact ⟨by rw [back_else (by rw [h]; intro z; cases z) (by rw [h]; intro z; cases z) (fun i => by rw [h]; intro z; cases z), t, e, h], e2⟩
    · have e : g.callee.T a = .br := (callee_ne (by rw [h]; intro z; cases z) (fun i => by rw [h]; intro z; cases z)).trans h
      obtain ⟨t, e2⟩ := st.keep a (.inr e)
      exact ⟨by rw [back_else (by rw [h]; intro z; cases z) (by rw [h]; intro z; cases z) (fun i => by rw [h]; intro z; cases z), t, e, h], e2⟩
    · obtain ⟨t, e2⟩ := st.keep a (.inr (callee_rt h))
      exact ⟨by rw [back_rt h, h], e2⟩
    · obtain ⟨t, e2⟩ := st.keep a (.inr (callee_sl h))
      exact ⟨by rw [back_sl h, h], e2⟩
  · have e : g.callee.T a = .st n := (callee_ne (by rw [h]; intro z; cases z) (fun i => by rw [h]; intro z; cases z)).trans h
    rw [back_else (by rw [h]; intro z; cases z) (by rw [h]; intro z; cases z) (fun i => by rw [h]; intro z; cases z)]
    exact st.st a n e
  · have e : g.callee.T a = .fo n f := (callee_ne (by rw [h]; intro z; cases z) (fun i => by rw [h]; intro z; cases z)).trans h
    rw [back_else (by rw [h]; intro z; cases z) (by rw [h]; intro z; cases z) (fun i => by rw [h]; intro z; cases z)]
    exact st.fo a n f e
theorem back_str (wf : ∀ a, g.T a ≠ .no → H a ≠ none) (st : StepS g.callee H g' H') (r : SRel k g' H' S) : SRel k (g.back g') H' S := by
  refine (back_keep st).str r ⟨r.no, fun n f a b ha hb => r.uniq n f a b (back_fo ha) (back_fo hb), fun a h => ?_, fun a xs e => ?_⟩
  · cases e : g.T a with
    | no =>
      rw [back_new e] at h
      exact r.wf a fun z => h (by rw [z])
    | rt => rw [(st.keep a (.inr (callee_rt e))).2]; exact wf a (by rw [e]; intro z; cases z)
    | sl i => rw [(st.keep a (.inr (callee_sl e))).2]; exact wf a (by rw [e]; intro z; cases z)
    | _ =>
      rw [back_else (by rw [e]; intro z; cases z) (by rw [e]; intro z; cases z) (fun i => by rw [e]; intro z; cases z)] at h
      exact r.wf a h
  · rcases r.tup a xs e with h | h
    · cases e2 : g.T a with
      | no => left; rw [back_new e2, h]
      | rt =>
        have := (st.keep a (.inr (callee_rt e2))).1
        rw [callee_rt e2, h] at this
        cases this
      | sl i =>
        have := (st.keep a (.inr (callee_sl e2))).1
        rw [callee_sl e2, h] at this
        cases this
      | _ =>
        left
        rw [back_else (by rw [e2]; intro z; cases z) (by rw [e2]; intro z; cases z) (fun i => by rw [e2]; intro z; cases z)]
        exact h
    · right
      rw [back_same st (.inl h)]
      exact h
/-- a callee's fresh result is new to the caller -/
theorem back_rtno {a : Addr} (st : StepS g.callee H g' H') (t2 : g'.T a = .rt) : g.T a = .no := by
  cases e3 : g.T a with
  | no => rfl
  | rt =>
    have := (st.keep a (.inr (callee_rt e3))).1
    rw [callee_rt e3, t2] at this
    cases this
  | sl i =>
    have := (st.keep a (.inr (callee_sl e3))).1
    rw [callee_sl e3, t2] at this
    cases this
  | fz =>
    have e4 : g.callee.T a = .fz := (callee_ne (by rw [e3]; intro z; cases z) (fun i => by rw [e3]; intro z; cases z)).trans e3
    have := (st.keep a (.inl e4)).1
    rw [e4, t2] at this
    cases this
  | br =>
    have e4 : g.callee.T a = .br := (callee_ne (by rw [e3]; intro z; cases z) (fun i => by rw [e3]; intro z; cases z)).trans e3
    have := (st.keep a (.inr e4)).1
    rw [e4, t2] at this
    cases this
  | st n =>
    have e4 : g.callee.T a = .st n := (callee_ne (by rw [e3]; intro z; cases z) (fun i => by rw [e3]; intro z; cases z)).trans e3
    have := st.st a n e4
    rw [t2] at this
    cases this
  | fo n f =>
    have e4 : g.callee.T a = .fo n f := (callee_ne (by rw [e3]; intro z; cases z) (fun i => by rw [e3]; intro z; cases z)).trans e3
    have := st.fo a n f e4
    rw [t2] at this
    cases this
/-- a fresh result at any mode -/
theorem fin_O {g0 : Gh} {H0 : Hp} {q : Bool} {m : Md} {v : Val} {u : V} (r : Rel k md g σ H ρ S) (h : MRep k g H .O v u) (hn : isColl v → ∀ a, u = .ref a → g0.T a = .no) (st : Step q g0 H0 g H) : ∃ g', Rel k md g' σ H ρ S ∧ Step q g0 H0 g' H ∧ MRep k g' H m v u := by
  by_cases hc : isColl v
  · rcases coll_cases hc with ⟨xs, rfl⟩ | ⟨xs, rfl⟩ | ⟨xs, rfl⟩
    · obtain ⟨a, us, rfl, ⟨t, ha⟩, hs⟩ := (show ∃ a us, u = .ref a ∧ OP g H .rt a (.lst us) ∧ _ from h)
      exact ⟨_, rel_retag t ha r m, step_put (hn hc a rfl) st, mrep_rt t ha hs⟩
    · obtain ⟨a, us, rfl, ⟨t, ha⟩, hs⟩ := (show ∃ a us, u = .ref a ∧ OP g H .rt a (.dK us) ∧ _ from h)
      refine ⟨_, rel_retag t ha r m, step_put (hn hc a rfl) st, ?_⟩
      have h2 : VKs k (fzP (g.put a (tagM m)) H) g.ι xs us := by
        refine VKs.mono (fun b o e => ?_) (fun _ _ h => h) _ _ hs
        obtain ⟨t1, e1⟩ := fzP_some e
        exact fzP_of (by rw [put_ne (fun z => by subst z; rw [t] at t1; cases t1)]; exact t1) e1
      cases m with
      | V =>
        show VRep _ _ _ _ _
        simp only [VRep]
        exact ⟨a, us, rfl, fzP_of put_same ha, h2⟩
      | L => exact ⟨a, us, rfl, ⟨by rw [show (g.put a (tagM .L)).T a = .fz from put_same]; rfl, ha⟩, h2⟩
      | B => exact ⟨a, us, rfl, ⟨by rw [show (g.put a (tagM .B)).T a = .fz from put_same]; rfl, ha⟩, h2⟩
      | P => exact ⟨a, us, rfl, ⟨by rw [show (g.put a (tagM .P)).T a = .fz from put_same]; rfl, ha⟩, h2⟩
      | O => exact ⟨a, us, rfl, ⟨put_same, ha⟩, h2⟩
    · obtain ⟨a, us, rfl, ⟨t, ha⟩, hs⟩ := (show ∃ a us, u = .ref a ∧ OP g H .rt a (.dT us) ∧ _ from h)
      refine ⟨_, rel_retag t ha r m, step_put (hn hc a rfl) st, ?_⟩
      have h2 : VTs k (fzP (g.put a (tagM m)) H) g.ι xs us := by
        refine VTs.mono (fun b o e => ?_) (fun _ _ h => h) _ _ hs
        obtain ⟨t1, e1⟩ := fzP_some e
        exact fzP_of (by rw [put_ne (fun z => by subst z; rw [t] at t1; cases t1)]; exact t1) e1
      cases m with
      | V =>
        show VRep _ _ _ _ _
        simp only [VRep]
        exact ⟨a, us, rfl, fzP_of put_same ha, h2⟩
      | L => exact ⟨a, us, rfl, ⟨by rw [show (g.put a (tagM .L)).T a = .fz from put_same]; rfl, ha⟩, h2⟩
      | B => exact ⟨a, us, rfl, ⟨by rw [show (g.put a (tagM .B)).T a = .fz from put_same]; rfl, ha⟩, h2⟩
      | P => exact ⟨a, us, rfl, ⟨by rw [show (g.put a (tagM .P)).T a = .fz from put_same]; rfl, ha⟩, h2⟩
      | O => exact ⟨a, us, rfl, ⟨put_same, ha⟩, h2⟩
  · refine ⟨g, r, st, MRep.of_V ?_ hc⟩
    cases v <;> first | exact h | exact absurd trivial hc
end

/-! ### what a def promises -/
def argM : Mode → Md
  | .brw => .L
  | _ => .V
/-- the arguments, as the def's slots want them -/
def ArgsR (k : Kx) (g : Gh) (H : Hp) : List Mode → List Val → List V → Prop
  | _, [], us => us = []
  | ms, v :: vs, us => ∃ u r, us = u :: r ∧ MRep k g H (argM (ms.headD .shr)) v u ∧ ArgsR k g H ms.tail vs r
def PostC (k : Kx) (rm : Md) (g : Gh) (H : Hp) (r : R Val) (Q : VK) (E : XK) : Prop := match r with
  | .ok v S' => ∀ u g' H', SRel k g' H' S' → StepS g H g' H' → MRep k g' H' rm v u → Q u H'
  | .exn c S' => ∀ g' H', SRel k g' H' S' → StepS g H g' H' → E (.ref (k.ca c)) none H'
  | .stuck => False
def retM : Mode → Md
  | .own => .O
  | _ => .V
def spec (k : Kx) (F : Fn) (go : List Val → Store → R Val) : Sp := fun us H Q E => ∃ g S vs, SRel k g H S ∧ Clean g ∧ ArgsR k g H F.md vs us ∧ vs.length = F.np ∧ PostC k (retM F.ret) g H (go vs S) Q E
theorem ArgsR.len {k : Kx} {g : Gh} {H : Hp} : ∀ {ms : List Mode} {vs : List Val} {us : List V}, ArgsR k g H ms vs us → us.length = vs.length
  | _, [], _, h => by
    have h : _ = [] := h
    subst h
    rfl
  | ms, v :: vs, us, h => by
    obtain ⟨u, r, rfl, _, h2⟩ := h
    rw [List.length_cons, List.length_cons, ArgsR.len h2]
def callMs : List Mode → List Md
  | [] => []
  | .brw :: r => .B :: callMs r
  | _ :: r => .V :: callMs r
theorem callMs_at : ∀ (ms : List Mode), (callMs ms).headD .V = (match ms.headD .shr with
    | .brw => Md.B
    | _ => .V) ∧ (callMs ms).tail = callMs ms.tail
  | [] => ⟨rfl, rfl⟩
  | .brw :: r => ⟨rfl, rfl⟩
  | .shr :: r => ⟨rfl, rfl⟩
  | .own :: r => ⟨rfl, rfl⟩
theorem args_callee {k : Kx} {g : Gh} {H : Hp} : ∀ {ms : List Mode} {vs : List Val} {us : List V}, MReps k g H (callMs ms) vs us → ArgsR k g.callee H ms vs us
  | _, [], _, h => h
  | ms, v :: vs, us, h => by
    obtain ⟨u, r, rfl, h1, h2⟩ := h
    rw [(callMs_at ms).1] at h1
    rw [(callMs_at ms).2] at h2
    refine ⟨u, r, rfl, ?_, args_callee h2⟩
    have kp : Keep0 g H g.callee H := callee_keep
    cases e : ms.headD .shr with
    | brw =>
      rw [e] at h1
      refine TRep.mono kp.fz kp.ι (fun b o r => ⟨?_, r.2⟩) _ _ h1
      have hb : bTag (g.T b) = true := r.1
      cases e2 : g.T b with
      | fz => rw [callee_ne (by rw [e2]; intro z; cases z) (fun i => by rw [e2]; intro z; cases z), e2]; rfl
      | br => rw [callee_ne (by rw [e2]; intro z; cases z) (fun i => by rw [e2]; intro z; cases z), e2]; rfl
      | sl i => rw [callee_sl e2]; rfl
      | _ => rw [e2] at hb; exact Bool.noConfusion hb
    | shr => rw [e] at h1; exact VRep.mono kp.fz kp.ι _ _ h1
    | own => rw [e] at h1; exact VRep.mono kp.fz kp.ι _ _ h1
section
variable {X : Cx} {J : Jx} {m : Md} {pos : Pos}
theorem call_imp {F : Fn} {f : Nat} {ies : List E} (hl : ies.length = F.np) (hm : retM F.ret = .O ∨ m ≠ .O) (σ : L2.St) (H : Hp) (Q : VK) (h : J.tE m (.call f ies) σ H Q) :
    tCallSD (spec J.k F (J.x.cl f)) [] (WE J.W) (J.tA (callMs F.md) ies) σ H Q := by
  obtain ⟨g, ρ, S, r, p⟩ := h
  simp only [evE] at p
  refine tA_bindI r (fun c S' ev => ?_) (fun ev => ?_) fun vs S1 us g1 H1 ev r1 st1 mr => ?_
  · rw [ev] at p
    exact p
  · rw [ev] at p
    exact p
  · rw [ev] at p
    simp only [_root_.Pv.R.bind] at p
    rw [List.append_nil]
    refine ⟨g1.callee, S1, vs, callee_str r1.str, callee_clean, args_callee mr, (evs_len ev).trans hl, ?_⟩
    have p : J.Post m false g1 H1 σ ρ (J.x.cl f vs S1) Q := by
      cases e : J.x.cl f vs S1 with
      | ok v S' =>
        rw [e] at p
        exact fun u g2 H2 r2 s mr => p u g2 H2 r2 (by
          have := st1.trans s
          rw [Bool.and_false] at this
          exact this) mr
      | exn c S' =>
        rw [e] at p
        exact exn_weak p st1
      | stuck => rw [e] at p; exact p
    cases e : J.x.cl f vs S1 with
    | ok v S2 =>
      rw [e] at p
      intro u g2 H2 s2 st2 mr2
      have wf := r1.str.wf
      have s3 := back_str wf st2 s2
      have st3 := back_step wf st2
      have r3 := rel_back r1 st3 s3
      have kp := back_keep st2
      by_cases hO : retM F.ret = .O
      · rw [hO] at mr2
        have mr3 : MRep J.k (g1.back g2) H2 .O v u := by
          refine TRep.mono kp.fz kp.ι (fun b o r => ⟨?_, r.2⟩) _ _ mr2
          rw [back_same st2 (.inr (.inl r.1))]
          exact r.1
        by_cases hmO : m = .O
        · subst hmO
          exact p u _ H2 r3 st3 mr3
        · obtain ⟨g4, r4, st4, mr4⟩ := fin_O (m := m) r3 mr3 (g0 := g1) (H0 := H1) (q := false) (fun hc a ea => by
            subst ea
            have t2 : g2.T a = .rt := by
              rcases coll_cases hc with ⟨xs, rfl⟩ | ⟨xs, rfl⟩ | ⟨xs, rfl⟩
              · obtain ⟨b, us, e1, ⟨t, ha⟩, hs⟩ := (show ∃ b us, V.ref a = .ref b ∧ OP g2 H2 .rt b (.lst us) ∧ _ from mr2)
                cases e1
                exact t
              · obtain ⟨b, us, e1, ⟨t, ha⟩, hs⟩ := (show ∃ b us, V.ref a = .ref b ∧ OP g2 H2 .rt b (.dK us) ∧ _ from mr2)
                cases e1
                exact t
              · obtain ⟨b, us, e1, ⟨t, ha⟩, hs⟩ := (show ∃ b us, V.ref a = .ref b ∧ OP g2 H2 .rt b (.dT us) ∧ _ from mr2)
                cases e1
                exact t
            exact back_rtno st2 t2) st3
          exact p u g4 H2 r4 st4 mr4
      · have hV : retM F.ret = .V := by
          revert hO
          cases F.ret <;> intro hO <;> first | rfl | exact absurd rfl hO
        rw [hV] at mr2
        have mr3 : MRep J.k (g1.back g2) H2 .V v u := VRep.mono kp.fz kp.ι _ _ mr2
        exact p u _ H2 r3 st3 (mr3.V_any (hm.resolve_left hO))
    | exn c S2 =>
      rw [e] at p
      intro g2 H2 s2 st2
      have wf := r1.str.wf
      have st3 := back_step wf st2
      exact p _ H2 (rel_back r1 st3 (back_str wf st2 s2)) st3
    | stuck => rw [e] at p; exact p
end
end Pv
end

section
set_option Elab.async false
set_option linter.all false
set_option maxRecDepth 100000
set_option autoImplicit false
/-! Pv19: the small language's text against the tree: expressions. -/
namespace Pv
open PySem PySem.Spec PyProof.Rows L2

structure Ck where
  N : List Str
  sc : Scope
  blk : Option Scope
  calm : Bool
  md : List Mode
  hs : Option Nat
  G : Prog
  free : List Str
  cons : List (Str × Cn)
def Ck.fnB (st : Ck) (x : Str) : Bool := match st.blk with
  | none => true
  | some s => s.names.lookup x == some .cell
/-! ### small checks -/
def kind? (sc : Scope) (x : Str) : Option NameKind := sc.names.lookup x
def visB (sc : Scope) (x : Str) : Bool := match kind? sc x with
  | some .local => true
  | some .cell => true
  | some .free => true
  | _ => false
def locB (sc : Scope) (x : Str) : Bool := match kind? sc x with
  | some .local => true
  | some .cell => true
  | _ => false
def glB (sc : Scope) (x : Str) : Bool := match kind? sc x with
  | some .globalImplicit => true
  | _ => false
def dbgB (x : Str) : Bool := !(x == ("__debug__" : Str)) && !(x == ("__classdict__" : Str))
def storeB (st : Ck) (x : Str) : Bool := st.fnB x || (match kind? st.sc x with
  | some .local => true
  | _ => false)
def opB (o : Op) (q : Operator) : Bool := decide (q = opS o)
def cpB (o : Cp) (q : CmpOp) : Bool := decide (q = cpS o)
def boB (k : Bool) (q : BoolOp) : Bool := decide (q = boS k)
def cnB (c : Cn) (cc : Const) : Bool := match c, cc with
  | .non, .none => true
  | .bl b, .bool d => b == d
  | .int i, .int j => decide (i = j)
  | .str s, .str t => decide (s = t)
  | _, _ => false
def starB : Expr → Bool
  | .Starred _ _ => true
  | _ => false
def sliceB : Expr → Bool
  | .Slice _ _ _ _ => true
  | _ => false
def setB : Expr → Bool
  | .Set _ _ _ => true
  | _ => false
theorem cn_eq {c : Cn} {cc : Const} (h : cnB c cc = true) : cc = cnC c := by
  cases c with
  | non => cases cc <;> first | rfl | exact Bool.noConfusion h
  | bl b =>
    cases cc with
    | bool d =>
      have h2 : (b == d) = true := h
      rw [beq_iff_eq.mp h2]
      rfl
    | _ => exact Bool.noConfusion h
  | int i =>
    cases cc with
    | int j =>
      have h2 : decide (i = j) = true := h
      rw [of_decide_eq_true h2]
      rfl
    | _ => exact Bool.noConfusion h
  | str s =>
    cases cc with
    | str t =>
      have h2 : decide (s = t) = true := h
      rw [of_decide_eq_true h2]
      rfl
    | _ => exact Bool.noConfusion h
theorem star_ok {e : Expr} {es : List Expr} {env : PySem.Env} (h : starB e = false) : starEach (e :: es) env = (false, eval e env) :: starEach es env := by
  cases e <;> first | rfl | cases h
theorem stars_any {p : Pos} {env : PySem.Env} : ∀ {es : List Expr}, es.all (fun e => !starB e) = true → (backTo p (starEach es env)).any (·.1) = false
  | [], _ => rfl
  | e :: es, h => by
    simp only [List.all_cons, Bool.and_eq_true, Bool.not_eq_true'] at h
    rw [star_ok h.1]
    show (false || (backTo p (starEach es env)).any (·.1)) = false
    rw [stars_any h.2]
    rfl
theorem slice_ok {b : Expr} (h : sliceB b = false) : PlainIx b := by
  intro o i
  cases b <;> first | rfl | cases h
theorem fold_ok {e : Expr} {env : PySem.Env} (h : setB e = false) : ∀ x, foldedSetIterable e env x = pure x := by
  intro x
  cases e <;> first | rfl | cases h
theorem marks_ok {op : CmpOp} {e : Expr} (h : setB e = false) : behindInMarks op e = false := by
  cases e <;> first | rfl | cases h

/-! ### what holds of a context -/
def FnX (X : Cx) (J : Jx) (f : Nat) (F : Fn) : Prop := ∃ n addr fd, Room n X.A ∧ X.mg F.name = some (.ref addr) ∧ PySem.W.keepIn X.K (.ref addr) = true ∧ Binds X.K fd (F.names.take F.np) [] ∧
  FnOk X.prog X.w X.K X.mg X.base (L2.CX X.prog X.w) n addr fd (F.names.take F.np) (spec J.k F (J.x.cl f))
/-- isinstance of a suite's exception -/
def ExcX (X : Cx) (J : Jx) (a : Addr) (c : Nat) : Prop := CallR X (.builtin "isinstance") (rIsE X.K (J.k.ca c) a) ∧ (∀ d D b, J.x.G.cls d = some D → catches J.x.G c d = some b → PySem.W.kitOne X.K (.ref (J.k.ca c)) (.ref (J.k.ca d)) = some b) ∧
  PySem.W.kitOne X.K (.ref (J.k.ca c)) (.type "ValueError") = some true
structure Good (st : Ck) (X : Cx) (J : Jx) : Prop where
  N : X.N = st.N
  nd : X.N.Nodup
  sc : X.env.scope = st.sc
  fn : ∀ x, X.fn x = st.fnB x
  calm : st.calm = true → X.calm = true
  un : X.A.units + 65 < cLine
  md : J.md.l = st.md
  hs : J.md.hx.map (·.1) = st.hs
  G : J.x.G = st.G
  free : ∀ x ∈ st.free, X.mg x = none
  cons : ∀ x c, (x, c) ∈ st.cons → ∃ u, X.mg x = some u ∧ RelV (cnV' c) u
  cls : ∀ d C, st.G.cls d = some C → X.mg C.name = some (.ref (J.k.ca d))
  kl : ∀ a us (H : Hp), J.k.kl a us → SqL X.K H a us
  tk : Takes X J.W
  fns : st.calm = true → ∀ f F, st.G.fn f = some F → F.isIni = false → FnX X J f F
  hx : ∀ i a c, J.md.hx = some (i, a, c) → ExcX X J a c
section
variable {st : Ck} {X : Cx} {J : Jx}
theorem Good.vis (g : Good st X J) {x : Str} (h : visB st.sc x = true) : Vis X.env.scope x := by
  rw [g.sc]
  unfold visB kind? at h
  unfold Vis
  split at h <;> simp_all
theorem Good.loc (g : Good st X J) {x : Str} (h : locB st.sc x = true) : L2.Loc X.env.scope x := by
  rw [g.sc]
  unfold locB kind? at h
  unfold L2.Loc
  split at h <;> simp_all
theorem Good.gl (g : Good st X J) {x : Str} (h : glB st.sc x = true) : Gl X x := by
  show X.env.scope.names.lookup x = some .globalImplicit
  rw [g.sc]
  unfold glB kind? at h
  split at h <;> simp_all
theorem Good.store (g : Good st X J) {x : Str} (h : storeB st x = true) : X.fn x = true ∨ X.env.scope.names.lookup x = some .local := by
  unfold storeB at h
  rw [Bool.or_eq_true] at h
  rcases h with h | h
  · exact .inl ((g.fn x).trans h)
  · right
    rw [g.sc]
    unfold kind? at h
    split at h <;> simp_all
end

/-! ### the block of a comprehension -/
def Ck.block (st : Ck) (scope : Scope) : Ck := { st with sc := relS scope st.sc, blk := some scope }
theorem Good.block {st : Ck} {X : Cx} {J : Jx} (g : Good st X J) (s : Shared) (H : Hp) (scope : Scope) (C : Addr) (cl : List (Str × Addr)) (fp : List Addr) (hhs : st.hs = none) : Good (st.block scope) (X.blk s H scope (compEnvC scope cl C X.env) fp) J.calm where
  N := g.N
  nd := g.nd
  sc := by
    show relS scope X.env.scope = relS scope st.sc
    rw [g.sc]
  fn := fun _ => rfl
  calm := g.calm
  un := g.un
  md := g.md
  hs := g.hs
  G := g.G
  free := g.free
  cons := g.cons
  cls := g.cls
  kl := g.kl
  tk := takes0
  fns := g.fns
  hx := fun i a c e => by
    have e : J.md.hx = some (i, a, c) := e
    have h := g.hs
    rw [e, hhs] at h
    cases h

/-! ### the check -/
def biN : Bi → Str
  | .len => "len"
  | .abs => "abs"
  | .min2 => "min"
  | .max2 => "max"
  | .min1 => "min"
  | .max1 => "max"
  | .sum => "sum"
  | .any => "any"
  | .all => "all"
  | .list => "list"
  | .str => "str"
  | .int => "int"
  | .sorted => "sorted"
  | _ => ""
/-- how many arguments; 0: not served -/
def biA : Bi → Nat
  | .len => 1
  | .abs => 1
  | .min2 => 2
  | .max2 => 2
  | .min1 => 1
  | .max1 => 1
  | .sum => 1
  | .any => 1
  | .all => 1
  | .list => 1
  | .str => 1
  | .int => 1
  | _ => 0
/-- min, max with default=None -/
def bdB (b : Bi) (x : Str) : Bool := match b with
  | .minD => decide (x = "min")
  | .maxD => decide (x = "max")
  | _ => false
theorem bdB_ok {b : Bi} {x : Str} (h : bdB b x = true) : (b = .minD ∧ x = "min") ∨ (b = .maxD ∧ x = "max") := by
  unfold bdB at h
  split at h
  · exact .inl ⟨rfl, of_decide_eq_true h⟩
  · exact .inr ⟨rfl, of_decide_eq_true h⟩
  · cases h
def oneB (st : Ck) (i : Nat) : Expr → Bool
  | .Name x _ => decide (st.N[i]? = some x) && locB st.sc x && storeB st x && decide (st.md[i]? = some Mode.shr) && decide (st.hs ≠ some i)
  | _ => false
def manyB (st : Ck) : List Nat → List Expr → Bool
  | [], [] => true
  | i :: is, e :: es => oneB st i e && manyB st is es
  | _, _ => false
def tgB (st : Ck) (e : Expr) : Tg → Bool
  | .one i => oneB st i e
  | .many is => (match e with
    | .Tuple es _ _ => st.calm && manyB st is es
    | _ => false)
def ownB (tg : Tg) (N : List Str) : List (Str × Nat) := (tgIs tg).map fun i => (N.getD i "", i)
mutual
def mE : Nat → Ck → Md → Expr → E → Bool
  | 0, _, _, _, _ => false
  | n + 1, st, m, e, ie => match ie with
    | .v i => (match e with
      | .Name x _ => decide (st.N[i]? = some x) && visB st.sc x && dbgB x && modeOk (st.md.getD i .shr) m
      | _ => false)
    | .k c => (match e with
      | .Constant cc _ _ => cnB c cc
      | _ => false)
    | .gl x c => (match e with
      | .Name y _ => decide (y = x) && glB st.sc x && dbgB x && (match c with
        | .int i => st.cons.contains (x, Cn.int i)
        | .str s => st.cons.contains (x, Cn.str s)
        | _ => false)
      | _ => false)
    | .op2 o a b => (match e with
      | .BinOp ea q eb _ => opB o q && mE n st .B ea a && mE n st .B eb b
      | _ => false)
    | .rep es b => (match e with
      | .BinOp (.List ees _) .Mult eb _ => mEs n st [] ees es && mE n st .B eb b
      | _ => false)
    | .neg a => (match e with
      | .UnaryOp .USub ea _ => mE n st .B ea a
      | _ => false)
    | .cmp o a b => (match e with
      | .Compare ea [q] [eb] _ => cpB o q && mE n st .B ea a && mE n st (cpMd o) eb b && !setB eb
      | _ => false)
    | .ch o1 o2 a b c => (match e with
      | .Compare ea [q1, q2] [eb, ec] _ => cpB o1 q1 && cpB o2 q2 && !isIn o1 && !isIn o2 && mE n st .B ea a && mE n st .B eb b && mE n st .B ec c && !setB ec
      | _ => false)
    | .bop k es => (match e with
      | .BoolOp q ees _ => boB k q && mB n st m ees es
      | _ => false)
    | .nt a => (match e with
      | .UnaryOp .Not ea _ => mE n st .B ea a
      | _ => false)
    | .ife t a b => (match e with
      | .IfExp et ea eb _ => mE n st .B et t && mE n st m ea a && mE n st m eb b
      | _ => false)
    | .tup es => (match e with
      | .Tuple ees _ _ => mEs n st [] ees es
      | _ => false)
    | .lst es => (match e with
      | .List ees _ => mEs n st [] ees es
      | _ => false)
    | .ix a b => (match e with
      | .Subscript ea eb _ => decide (m ≠ .O) && !sliceB eb && mE n st (if pureE b = true then .P else .B) ea a && mE n st .B eb b
      | _ => false)
    | .sl a lo hi => (match e with
      | .Subscript ea (.Slice elo ehi none _) _ => mE n st .B ea a && mO n st elo lo && mO n st ehi hi
      | _ => false)
    | .call f es => (match e with
      | .Call (.Name x _) ees [] _ => (match st.G.fn f with
        | some F => st.calm && decide (F.name = x) && !F.isIni && glB st.sc x && dbgB x && decide (es.length = F.np) && decide (0 < es.length) && (decide (retM F.ret = .O) || decide (m ≠ .O)) && mEs n st (callMs F.md) ees es
        | none => false)
      | _ => false)
    | .bi b es => (match e with
      | .Call (.Name x _) ees [] _ => st.calm && decide (biN b = x) && glB st.sc x && st.free.contains x && decide (0 < biA b) && decide (es.length = biA b) && mEs n st (if biA b = 1 then [.P] else [.B, .B]) ees es
      | .Call (.Name x _) [ea] [⟨some kn, .Constant .none _ _, _⟩] _ => st.calm && decide (kn = Str.ofString "default") && bdB b x && glB st.sc x && st.free.contains x && mEs n st [.P] [ea] es
      | _ => false)
    | .isi a t => (match e with
      | .Call (.Name x _) [ea, .Name y _] [] _ => decide (x = "isinstance") && glB st.sc x && st.free.contains x && glB st.sc y && !starB ea &&
        (match st.hs, a with
        | some h, .v i => if h = i then (match ea with
            | .Name z _ => decide (st.N[i]? = some z) && visB st.sc z && dbgB z && (match t with
              | .valueError => decide (y = "ValueError") && st.free.contains y
              | .cls d => (match st.G.cls d with
                | some C => decide (C.name = y) && dbgB y
                | none => false)
              | _ => false)
            | _ => false) else tyB t && decide (y = Str.ofString (tyN t)) && st.free.contains y && mE n st .B ea a
        | _, _ => tyB t && decide (y = Str.ofString (tyN t)) && st.free.contains y && mE n st .B ea a)
      | _ => false)
    | .comp ce tg it cd => (match e with
      | .ListComp eelt [⟨etg, eiter, eifs, 0⟩] scope _ => st.calm && decide (st.hs = none) && mI n st etg eiter it && blkC st.N st.sc scope (ownB tg st.N) && decide (tgIs tg).Nodup && (tgIs tg).all (fun i => decide (st.md[i]? = some Mode.shr)) &&
        tgB (st.block scope) etg tg && (match eifs, cd with
        | [], none => true
        | [ec], some c => mE n (st.block scope) .B ec c
        | _, _ => false) && mE n (st.block scope) .V eelt ce && !setB eiter
      | _ => false)
    | _ => false
def mEs : Nat → Ck → List Md → List Expr → List E → Bool
  | 0, _, _, _, _ => false
  | _ + 1, _, _, [], [] => true
  | n + 1, st, ms, e :: es, ie :: ies => !starB e && mE n st (ms.headD .V) e ie && mEs n st ms.tail es ies && (decide (ms.headD .V ≠ .P) || pureEs ies)
  | _ + 1, _, _, _, _ => false
def mB : Nat → Ck → Md → List Expr → List E → Bool
  | 0, _, _, _, _ => false
  | n + 1, st, m, [e], [ie] => mE n st m e ie
  | n + 1, st, m, e :: e2 :: es, ie :: ie2 :: ies => mE n st .B e ie && mB n st m (e2 :: es) (ie2 :: ies)
  | _ + 1, _, _, _, _ => false
def mO : Nat → Ck → Option Expr → Option E → Bool
  | 0, _, _, _ => false
  | _ + 1, _, none, none => true
  | n + 1, st, some e, some ie => mE n st .B e ie
  | _ + 1, _, _, _ => false
def mI : Nat → Ck → Expr → Expr → E → Bool
  | 0, _, _, _, _ => false
  | n + 1, st, tg, e, ie => match ie with
    | .rng es => (match e with
      | .Call (.Name x _) ees [] _ => decide (x = "range") && glB st.sc x && st.free.contains x && decide (0 < es.length) && decide (es.length ≤ 3) && mEs n st [] ees es
      | _ => false)
    | .rev a => (match e with
      | .Call (.Name x _) [ea] [] _ => decide (x = "reversed") && glB st.sc x && st.free.contains x && !starB ea && mE n st .L ea a
      | _ => false)
    | .zip a b => (match e, tg with
      | .Call (.Name x _) [ea, eb] [] _, .Tuple _ _ _ => decide (x = "zip") && glB st.sc x && st.free.contains x && mEs n st [.L, .L] [ea, eb] [a, b]
      | _, _ => false)
    | _ => mE n st .L e ie
end
end Pv
end

section
set_option Elab.async false
set_option linter.all false
set_option maxRecDepth 100000
set_option autoImplicit false
/-! Pv20: what the check of an expression gives. -/
namespace Pv
open PySem PySem.Spec PyProof.Rows L2

section
variable {st : Ck} {X : Cx} {J : Jx} {m : Md} {pos : Pos}
theorem str_all {es : List Expr} (h : es.all (fun e => !starB e) = true) : ∀ {e : Expr} {r : List Expr} {env : PySem.Env}, es = e :: r → starEach (e :: r) env = (false, eval e env) :: starEach r env := by
  intro e r env he
  subst he
  simp only [List.all_cons, Bool.and_eq_true, Bool.not_eq_true'] at h
  exact star_ok h.1
theorem s_bi {b : Bi} {ees : List Expr} {ies : List E} {p : Pos} (hk : ∀ a us (H : Hp), J.k.kl a us → SqL X.K H a us) (hc : X.calm = true) (hg : Gl X (biN b)) (hm : X.mg (biN b) = none) (h0 : 0 < biA b) (hl : ies.length = biA b) (ha : PA X ees (J.tA (if biA b = 1 then [.P] else [.B, .B]) ies)) (hs : ees.all (fun e => !starB e) = true) (hle : ees.length = ies.length) :
    PE X (.Call (.Name (biN b) p) ees [] pos) (J.tE m (.bi b ies)) := by
  cases ees with
  | nil =>
    simp only [List.length_nil] at hle
    omega
  | cons e r =>
    have h1 : ∀ {env : PySem.Env}, starEach (e :: r) env = (false, eval e env) :: starEach r env := fun {env} => str_all hs rfl
    have h2 : ∀ {env : PySem.Env}, (backTo pos (starEach r env)).any (·.1) = false := fun {env} => stars_any (by
      simp only [List.all_cons, Bool.and_eq_true] at hs
      exact hs.2)
    cases b <;> first
      | exact absurd h0 (by decide)
      | (rw [show biA _ = 1 from rfl] at hl
         first
           | exact PE.imp (pe_callB (call_len.or (call_lenD.or call_len_dT)) hg hm boot_len ha (he := h1) (hpl := h2)) (bi_imp (by rw [hl]; exact b_len hk))
           | exact PE.imp (pe_callB call_abs hg hm boot_abs ha (he := h1) (hpl := h2)) (bi_imp (by rw [hl]; exact b_abs))
           | exact PE.imp (pe_callB (cr_min hc) hg hm boot_min ha (he := h1) (hpl := h2)) (bi_imp (by rw [hl]; exact b_min1))
           | exact PE.imp (pe_callB (cr_max hc) hg hm boot_max ha (he := h1) (hpl := h2)) (bi_imp (by rw [hl]; exact b_max1))
           | exact PE.imp (pe_callB (cr_sum hc) hg hm boot_sum ha (he := h1) (hpl := h2)) (bi_imp (by rw [hl]; exact b_sum))
           | exact PE.imp (pe_callB (cr_any hc) hg hm boot_any ha (he := h1) (hpl := h2)) (bi_imp (by rw [hl]; exact b_any))
           | exact PE.imp (pe_callB (cr_all hc) hg hm boot_all ha (he := h1) (hpl := h2)) (bi_imp (by rw [hl]; exact b_all))
           | exact PE.imp (pe_callTy (call_list_of.or (call_listD hc)) hg hm boot_list ha (he := h1) (hpl := h2)) (bi_imp (by rw [hl]; exact b_list))
           | exact PE.imp (pe_callTy (call_str_int.or SkE.call_str_str) hg hm boot_str ha (he := h1) (hpl := h2)) (bi_imp (by rw [hl]; exact b_str))
           | exact PE.imp (pe_callTy (call_int1.or call_int_str) hg hm boot_int ha (he := h1) (hpl := h2)) (bi_imp (by rw [hl]; exact b_int)))
      | (rw [show biA _ = 2 from rfl] at hl
         first
           | exact PE.imp (pe_callB (call_min2 hc) hg hm boot_min ha (he := h1) (hpl := h2)) (bi_imp (by rw [hl]; exact b_min2))
           | exact PE.imp (pe_callB (call_max2 hc) hg hm boot_max ha (he := h1) (hpl := h2)) (bi_imp (by rw [hl]; exact b_max2)))
end
end Pv
end

section
set_option Elab.async false
set_option linter.all false
set_option maxRecDepth 100000
set_option autoImplicit false
/-! Pv21: the check of an expression is sound. -/
namespace Pv
open PySem PySem.Spec PyProof.Rows L2

section
variable {st : Ck} {X : Cx} {J : Jx} {m : Md} {pos : Pos}
/-! ### isinstance of a suite's exception -/
theorem isx_imp {i : Nat} {a : Addr} {c : Nat} {t : Ty} {cv : V} {u : Value} (hh : J.md.hx = some (i, a, c)) (hu : ∀ w, RelV cv w → w = u) (hk : ∀ b, tyV J.x.G [] (.exc c) t = some b → PySem.W.kitOne X.K (.ref (J.k.ca c)) u = some b)
    (σ : L2.St) (H : Hp) (Q : VK) (h : J.tE m (.isi (.v i) t) σ H Q) : tCB (rIsE X.K (J.k.ca c) a) (tCons (tVar i) (tCons (tC cv) tNil)) σ H Q := by
  obtain ⟨g, ρ, S, r, p⟩ := h
  obtain ⟨h1, h2⟩ := r.hx i a c hh
  have ev : evE J.x (.v i) ρ S = .ok (.exc c) S := by
    simp only [evE, h2]
  rw [evE_isi, ev] at p
  simp only [_root_.Pv.R.bind, deref] at p
  have et : tyV J.x.G S (.exc c) t = tyV J.x.G [] (.exc c) t := by cases t <;> rfl
  rw [et] at p
  cases e : tyV J.x.G [] (.exc c) t with
  | none => simp only [e] at p; exact p.elim
  | some b =>
    simp only [e] at p
    refine ⟨.ref a, h1, cv, u, b, rfl, hu, hk b e, ?_⟩
    exact fin_V r (fun m => MRep.bl _) (post_q p)
theorem s_isxC {i : Nat} {a : Addr} {c d : Nat} {C : Cls} {z y : Str} {p1 pz py : Pos} (g : Good st X J) (hh : J.md.hx = some (i, a, c)) (hg : Gl X "isinstance") (hm : X.mg "isinstance" = none) (hN : X.N[i]? = some z) (hv : Vis X.env.scope z) (hd : (z == ("__debug__" : Str)) = false)
    (hcd : (z == ("__classdict__" : Str)) = false) (hC : st.G.cls d = some C) (hy : C.name = y) (hyg : Gl X y) (hyd : (y == ("__debug__" : Str)) = false) : PE X (.Call (.Name "isinstance" p1) [.Name z pz, .Name y py] [] pos) (J.tE m (.isi (.v i) (.cls d))) := by
  obtain ⟨e1, e2, e3⟩ := g.hx i a c hh
  have hmy : X.mg y = some (.ref (J.k.ca d)) := by rw [← hy]; exact g.cls d C hC
  have py' : PE X (.Name y py) (tC (.ref (J.k.ca d))) := pe_glob hyg hmy rfl hyd
  refine PE.imp (pe_callB e1 hg hm boot_isinstance (pa_cons (pe_var hN hv hd hcd) (pa_cons py' pa_nil))) (isx_imp (u := .ref (J.k.ca d)) hh (fun w r => r) fun b e => e2 d C b (by rw [g.G]; exact hC) e)
theorem s_isxV {i : Nat} {a : Addr} {c : Nat} {z : Str} {p1 pz py : Pos} (g : Good st X J) (hh : J.md.hx = some (i, a, c)) (hg : Gl X "isinstance") (hm : X.mg "isinstance" = none) (hN : X.N[i]? = some z) (hv : Vis X.env.scope z) (hd : (z == ("__debug__" : Str)) = false)
    (hcd : (z == ("__classdict__" : Str)) = false) (hyg : Gl X "ValueError") (hym : X.mg "ValueError" = none) : PE X (.Call (.Name "isinstance" p1) [.Name z pz, .Name "ValueError" py] [] pos) (J.tE m (.isi (.v i) .valueError)) := by
  obtain ⟨e1, e2, e3⟩ := g.hx i a c hh
  have py' : PE X (.Name "ValueError" py) (tC (.ty "ValueError")) := pe_bltn hyg hym boot_ValueError rfl
  refine PE.imp (pe_callB e1 hg hm boot_isinstance (pa_cons (pe_var hN hv hd hcd) (pa_cons py' pa_nil))) (isx_imp (u := .type "ValueError") hh (fun w r => r) fun b e => by
    simp only [tyV] at e
    cases e
    exact e3)

/-! ### targets -/
theorem tg_one (g : Good st X J) {e : Expr} {i : Nat} (h : oneB st i e = true) : (∃ x p, e = .Name x p ∧ X.N[i]? = some x ∧ L2.Loc X.env.scope x ∧ (X.fn x = true ∨ X.env.scope.names.lookup x = some .local)) ∧ J.md.l.getD i .shr = .shr ∧ hxOk J.md i := by
  unfold oneB at h
  split at h
  · simp only [Bool.and_eq_true, decide_eq_true_eq] at h
    obtain ⟨⟨⟨⟨h1, h2⟩, h3⟩, h4⟩, h5⟩ := h
    refine ⟨⟨_, _, rfl, by rw [g.N]; exact h1, g.loc h2, g.store h3⟩, ?_, fun j a c e z => ?_⟩
    · rw [getD_eq, g.md, h4]
      rfl
    · subst z
      have := g.hs
      rw [e] at this
      exact h5 this.symm
  · cases h
theorem tg_names (g : Good st X J) : ∀ {es : List Expr} {is : List Nat}, manyB st is es = true → NamesAt X es is ∧ tgOk J.md is
  | [], [], _ => ⟨.nil, fun i hi => absurd hi (by simp)⟩
  | [], _ :: _, h => by cases h
  | _ :: _, [], h => by cases h
  | e :: es, i :: is, h => by
    simp only [manyB, Bool.and_eq_true] at h
    obtain ⟨⟨x, p, rfl, h1, h2, h3⟩, h4, h5⟩ := tg_one g h.1
    obtain ⟨h6, h7⟩ := tg_names g (es := es) (is := is) h.2
    refine ⟨.cons h1 h2 h3 h6, fun j hj => ?_⟩
    rcases List.mem_cons.mp hj with e | hj
    · subst e
      exact ⟨h4, h5⟩
    · exact h7 j hj
theorem tg_ok (g : Good st X J) {e : Expr} {tg : Tg} (h : tgB st e tg = true) : PG X e (J.tG tg) ∧ tgOk J.md (tgIs tg) := by
  cases tg with
  | one i =>
    simp only [tgB] at h
    obtain ⟨⟨x, p, rfl, h1, h2, h3⟩, h4, h5⟩ := tg_one g h
    have ok : tgOk J.md [i] := fun j hj => by
      rcases List.mem_cons.mp hj with e | hj
      · subst e
        exact ⟨h4, h5⟩
      · cases hj
    exact ⟨g_one g.nd h1 h2 h3 ok, ok⟩
  | many is =>
    simp only [tgB] at h
    split at h
    · simp only [Bool.and_eq_true] at h
      obtain ⟨h1, h2⟩ := tg_names g h.2
      exact ⟨g_many (g.calm h.1) g.nd h1 h2, h2⟩
    · cases h
end

theorem evPt {X : Cx} {J : Jx} {e : Expr} {ie : E} (h : PE X e (J.tE .B ie)) (hp : (match e with
    | .UnaryOp .Not _ _ => false
    | .BoolOp _ _ _ => false
    | .IfExp _ _ _ _ => false
    | .Compare _ _ _ _ => false
    | _ => true) = true) : PT X e (J.tT ie) := by
  refine t_val h fun whole => ?_
  cases e with
  | UnaryOp o a p => cases o <;> first | rfl | cases hp
  | BoolOp _ _ _ => cases hp
  | IfExp _ _ _ _ => cases hp
  | Compare _ _ _ _ => cases hp
  | _ => rfl
structure Snd (n : Nat) : Prop where
  e : ∀ {st : Ck} {X : Cx} {J : Jx} {m : Md} {e : Expr} {ie : E}, Good st X J → mE n st m e ie = true → PE X e (J.tE m ie)
  t : ∀ {st : Ck} {X : Cx} {J : Jx} {e : Expr} {ie : E}, Good st X J → mE n st .B e ie = true → PT X e (J.tT ie)
  es : ∀ {st : Ck} {X : Cx} {J : Jx} {ms : List Md} {es : List Expr} {ies : List E}, Good st X J → mEs n st ms es ies = true → PA X es (J.tA ms ies) ∧ es.all (fun e => !starB e) = true ∧ es.length = ies.length
  b : ∀ {st : Ck} {X : Cx} {J : Jx} {m : Md} {k : Bool} {pos : Pos} {es : List Expr} {ies : List E}, Good st X J → mB n st m es ies = true → PE X (.BoolOp (boS k) es pos) (J.tE m (.bop k ies))
  bt : ∀ {st : Ck} {X : Cx} {J : Jx} {k : Bool} {pos : Pos} {es : List Expr} {ies : List E}, Good st X J → mB n st .B es ies = true → PW X (.BoolOp (boS k) es pos) (J.tT (.bop k ies))
  o : ∀ {st : Ck} {X : Cx} {J : Jx} {e : Option Expr} {ie : Option E}, Good st X J → mO n st e ie = true → PO X e (J.tO ie)
  i : ∀ {st : Ck} {X : Cx} {J : Jx} {tg e : Expr} {ie : E}, Good st X J → mI n st tg e ie = true → PI X tg e (J.tI ie)
theorem dbg_of {x : Str} (h : dbgB x = true) : (x == ("__debug__" : Str)) = false ∧ (x == ("__classdict__" : Str)) = false := by
  unfold dbgB at h
  simp only [Bool.and_eq_true, Bool.not_eq_true'] at h
  exact h
theorem snd0 : Snd 0 := by
  refine ⟨?_, ?_, ?_, ?_, ?_, ?_, ?_⟩ <;> intros <;> rename_i h <;> first | (simp only [mE] at h; cases h) | (simp only [mEs] at h; cases h) | (simp only [mB] at h; cases h) | (simp only [mO] at h; cases h) | (simp only [mI] at h; cases h)
section
variable {n : Nat} (ih : Snd n)
include ih
theorem snd_es {st : Ck} {X : Cx} {J : Jx} {ms : List Md} {es : List Expr} {ies : List E} (g : Good st X J) (h : mEs (n + 1) st ms es ies = true) : PA X es (J.tA ms ies) ∧ es.all (fun e => !starB e) = true ∧ es.length = ies.length := by
  cases es with
  | nil =>
    cases ies with
    | nil => exact ⟨a_nil, rfl, rfl⟩
    | cons _ _ => simp [mEs] at h
  | cons e es =>
    cases ies with
    | nil => simp [mEs] at h
    | cons ie ies =>
      simp only [mEs, Bool.and_eq_true, Bool.not_eq_true', Bool.or_eq_true, decide_eq_true_eq] at h
      obtain ⟨⟨⟨h1, h2⟩, h3⟩, h4⟩ := h
      obtain ⟨r1, r2, r3⟩ := ih.es g h3
      refine ⟨a_cons (ih.e g h2) r1 (fun z => h4.resolve_left fun q => q z) (star_ok h1), ?_, by rw [List.length_cons, List.length_cons, r3]⟩
      simp only [List.all_cons, Bool.and_eq_true, Bool.not_eq_true']
      exact ⟨h1, r2⟩
theorem snd_o {st : Ck} {X : Cx} {J : Jx} {e : Option Expr} {ie : Option E} (g : Good st X J) (h : mO (n + 1) st e ie = true) : PO X e (J.tO ie) := by
  cases e with
  | none =>
    cases ie with
    | none => exact o_none
    | some _ => simp [mO] at h
  | some e =>
    cases ie with
    | none => simp [mO] at h
    | some ie =>
      simp only [mO] at h
      exact o_some (ih.e g h)
theorem snd_b {st : Ck} {X : Cx} {J : Jx} {m : Md} {k : Bool} {pos : Pos} {es : List Expr} {ies : List E} (g : Good st X J) (h : mB (n + 1) st m es ies = true) : PE X (.BoolOp (boS k) es pos) (J.tE m (.bop k ies)) := by
  unfold mB at h
  split at h
  · rename_i h0
    cases h0
  · rename_i n' st' m' e ie h0
    cases h0
    exact s_bop1 (ih.e g h)
  · rename_i n' st' m' e e2 es ie ie2 ies h0
    cases h0
    rw [Bool.and_eq_true] at h
    exact s_bop (ih.e g h.1) (ih.b g h.2)
  · cases h
theorem snd_bt {st : Ck} {X : Cx} {J : Jx} {k : Bool} {pos : Pos} {es : List Expr} {ies : List E} (g : Good st X J) (h : mB (n + 1) st .B es ies = true) : PW X (.BoolOp (boS k) es pos) (J.tT (.bop k ies)) := by
  unfold mB at h
  split at h
  · rename_i h0
    cases h0
  · rename_i n' st' m' e ie h0
    cases h0
    exact t_bop1 (ih.t g h)
  · rename_i n' st' m' e e2 es ie ie2 ies h0
    cases h0
    rw [Bool.and_eq_true] at h
    exact t_bop (ih.t g h.1) (ih.bt g h.2)
  · cases h
theorem snd_i {st : Ck} {X : Cx} {J : Jx} {tg e : Expr} {ie : E} (g : Good st X J) (h : mI (n + 1) st tg e ie = true) : PI X tg e (J.tI ie) := by
  cases ie with
  | rng es =>
    simp only [mI] at h
    split at h
    · rename_i x p ees pos
      simp only [Bool.and_eq_true, decide_eq_true_eq] at h
      obtain ⟨⟨⟨⟨⟨rfl, h2⟩, h3⟩, h4⟩, h5⟩, h6⟩ := h
      obtain ⟨r1, r2, r3⟩ := ih.es g h6
      have hm := g.free _ (List.contains_iff_mem.mp h3)
      match es, ees, r3 with
      | [], _, _ => cases h4
      | [a], [ea], _ => exact i_rng1 (g.gl h2) hm r1 (str_all r2 rfl)
      | [a, b], [ea, eb], _ =>
        have s1 := str_all r2 (env := X.env) rfl
        have s2 : starEach [eb] X.env = (false, eval eb X.env) :: starEach [] X.env := star_ok (by
          simp only [List.all_cons, Bool.and_eq_true, Bool.not_eq_true'] at r2
          exact r2.2.1)
        exact i_rng2 (g.gl h2) hm r1 (by rw [s1, s2]; rfl) s2
      | [a, b, c], [ea, eb, ec], _ => exact i_rng3 (g.gl h2) hm r1 (str_all r2 rfl) (stars_any (by
          simp only [List.all_cons, Bool.and_eq_true] at r2
          simp only [List.all_cons, Bool.and_eq_true]
          exact r2.2))
      | _ :: _ :: _ :: _ :: _, _, _ => simp at h5
    · cases h
  | rev a =>
    simp only [mI] at h
    split at h
    · simp only [Bool.and_eq_true, decide_eq_true_eq, Bool.not_eq_true'] at h
      obtain ⟨⟨⟨⟨rfl, h2⟩, h3⟩, h4⟩, h5⟩ := h
      exact i_rev (g.gl h2) (g.free _ (List.contains_iff_mem.mp h3)) (ih.e g h5) (star_ok h4)
    · cases h
  | zip a b =>
    simp only [mI] at h
    split at h
    · simp only [Bool.and_eq_true, decide_eq_true_eq] at h
      obtain ⟨⟨⟨rfl, h2⟩, h3⟩, h4⟩ := h
      obtain ⟨r1, r2, r3⟩ := ih.es g h4
      exact i_zip (g.gl h2) (g.free _ (List.contains_iff_mem.mp h3)) r1 (str_all r2 rfl) (stars_any (by
          simp only [List.all_cons, Bool.and_eq_true] at r2
          simp only [List.all_cons, Bool.and_eq_true]
          exact r2.2))
    · cases h
  | _ => exact i_val (ih.e g (by simpa only [mI] using h))
end
end Pv
end

section
set_option Elab.async false
set_option linter.all false
set_option maxRecDepth 100000
set_option autoImplicit false
/-! Pv22: the check of an expression is sound (the main cases). -/
namespace Pv
open PySem PySem.Spec PyProof.Rows L2

theorem hs_none {st : Ck} {X : Cx} {J : Jx} (g : Good st X J) (h : st.hs = none) : J.md.hx = none := by
  have := g.hs
  rw [h] at this
  cases e : J.md.hx with
  | none => rfl
  | some p => rw [e] at this; cases this
theorem hs_some {st : Ck} {X : Cx} {J : Jx} {i : Nat} (g : Good st X J) (h : st.hs = some i) : ∃ a c, J.md.hx = some (i, a, c) := by
  have := g.hs
  rw [h] at this
  cases e : J.md.hx with
  | none => rw [e] at this; cases this
  | some p =>
    rw [e] at this
    obtain ⟨j, a, c⟩ := p
    simp only [Option.map_some, Option.some.injEq] at this
    subst this
    exact ⟨a, c, rfl⟩
theorem ownB_map {tg : Tg} {N : List Str} : (ownB tg N).map (·.2) = tgIs tg := by
  unfold ownB
  rw [List.map_map]
  exact List.map_id _
theorem opB_eq {o : Op} {q : Operator} (h : opB o q = true) : q = opS o := of_decide_eq_true h
theorem cpB_eq {o : Cp} {q : CmpOp} (h : cpB o q = true) : q = cpS o := of_decide_eq_true h
theorem boB_eq {o : Bool} {q : BoolOp} (h : boB o q = true) : q = boS o := of_decide_eq_true h
theorem lastM {o1 o2 : Cp} {b c : Expr} (h : setB c = false) : lastMarks [cpS o1, cpS o2] [b, c] = false := by
  show behindInMarks (cpS o2) c = false
  exact marks_ok h
theorem pt_ifx {X : Cx} {c a b : Expr} {pos : Pos} {tc ta tb : TT} (hc : PT X c tc) (ha : PT X a ta) (hb : PT X b tb) : PT X (.IfExp c a b pos) (fun σ H Q => tc σ H fun k H1 => if k = true then ta σ H1 Q else tb σ H1 Q) := by
  refine ⟨fun pins s σ H Q I h => ?_⟩
  have e : isTrue (.IfExp c a b pos) X.env (eval (.IfExp c a b pos) X.env) = (do if ← isTrue c X.env (eval c X.env) then isTrue a X.env (eval a X.env) else isTrue b X.env (eval b X.env)) := by
    first
      | rfl
      | simp only [isTrue]
  rw [e]
  refine wpAny_bind (thn (hc.run pins s σ H _ I h) fun k s1 ⟨H1, I1, q⟩ => ?_)
  cases k with
  | true =>
    simp only [if_true] at q ⊢
    exact ha.run pins s1 σ H1 Q I1 q
  | false =>
    simp only [Bool.false_eq_true, if_false] at q ⊢
    exact hb.run pins s1 σ H1 Q I1 q
theorem t_ife {X : Cx} {J : Jx} {t a b : Expr} {pos : Pos} {it ia ib : E} (ht : PT X t (J.tT it)) (ha : PT X a (J.tT ia)) (hb : PT X b (J.tT ib)) : PT X (.IfExp t a b pos) (J.tT (.ife it ia ib)) := by
  refine PT.imp (pt_ifx ht ha hb) fun σ H Q h => ?_
  obtain ⟨g, ρ, S, rl, p⟩ := h
  have hq : pureE (.ife it ia ib) = (pureE it && (pureE ia && pureE ib)) := by simp only [pureE, Bool.and_assoc]
  simp only [evE] at p
  rw [hq] at p
  refine tE_bindS rl p fun v S1 u g1 H1 e1 r1 st1 mr1 p1 => ?_
  cases v with
  | bl c =>
    refine ⟨c, mr1.R.bl_of, ?_⟩
    have wk : ∀ {q1 q2 : Bool} {r : _root_.Pv.R Val} {Q : VK}, (q1 = true → q2 = true) → J.Post .B q1 g1 H1 σ ρ r Q → J.Post .B q2 g1 H1 σ ρ r Q := fun {q1 q2 r Q} hq h => by
      cases r with
      | ok v S1 => exact fun u g2 H2 r s mr => h u g2 H2 r (by
          cases q1 with
          | true => rw [hq rfl] at s; exact s
          | false => exact s.weak) mr
      | exn c S1 => exact h
      | stuck => exact h
    cases c with
    | true =>
      simp only [if_true] at p1 ⊢
      exact ⟨g1, ρ, S1, r1, wk (fun z => (Bool.and_eq_true_iff.mp z).1) p1⟩
    | false =>
      simp only [Bool.false_eq_true, if_false] at p1 ⊢
      exact ⟨g1, ρ, S1, r1, wk (fun z => (Bool.and_eq_true_iff.mp z).2) p1⟩
  | _ => exact p1.elim
section
variable {n : Nat} (ih : Snd n)
include ih
theorem snd_comp {st : Ck} {X : Cx} {J : Jx} {m : Md} {e : Expr} {ce it : E} {tg : Tg} {cd : Option E} (g : Good st X J) (h : mE (n + 1) st m e (.comp ce tg it cd) = true) :
    ∃ eelt etg eiter eifs scope pos, e = .ListComp eelt [⟨etg, eiter, eifs, 0⟩] scope pos ∧ X.calm = true ∧ PI X etg eiter (J.tI it) ∧ BlkOk X.N X.env.scope scope (ownB tg st.N) ∧
    (∀ (s : Shared) (H : Hp) (C : Addr) (cl : List (Str × Addr)) (fp : List Addr), PG (X.blk s H scope (compEnvC scope cl C X.env) fp) etg (J.calm.tG tg)) ∧
    (∀ (s : Shared) (H : Hp) (C : Addr) (cl : List (Str × Addr)) (fp : List Addr), PTs (X.blk s H scope (compEnvC scope cl C X.env) fp) eifs (J.calm.tC cd)) ∧
    (∀ (s : Shared) (H : Hp) (C : Addr) (cl : List (Str × Addr)) (fp : List Addr), PE (X.blk s H scope (compEnvC scope cl C X.env) fp) eelt (J.calm.tE .V ce)) ∧
    (∀ x, foldedSetIterable eiter X.env x = pure x) ∧ (tgIs tg).Nodup ∧ tgOk J.md (tgIs tg) := by
  simp only [mE] at h
  split at h
  · rename_i eelt etg eiter eifs scope pos
    simp only [Bool.and_eq_true, decide_eq_true_eq, Bool.not_eq_true'] at h
    obtain ⟨⟨⟨⟨⟨⟨⟨⟨⟨h1, h2⟩, h3⟩, h4⟩, h5⟩, h6⟩, h7⟩, h8⟩, h9⟩, h10⟩ := h
    have gb := fun s H C cl fp => g.block s H scope C cl fp h2
    refine ⟨eelt, etg, eiter, eifs, scope, pos, rfl, g.calm h1, ih.i g h3, by rw [g.N, g.sc]; exact blkOk_by h4, fun s H C cl fp => (tg_ok (gb s H C cl fp) h7).1, fun s H C cl fp => ?_, fun s H C cl fp => ih.e (gb s H C cl fp) h9, fold_ok h10, h5, fun i hi => ?_⟩
    · split at h8
      · exact pts_nil
      · exact pts_one (ih.t (gb s H C cl fp) h8)
      · cases h8
    · have hm := List.all_eq_true.mp h6 i hi
      refine ⟨?_, fun j a c z => ?_⟩
      · rw [getD_eq, g.md, of_decide_eq_true hm]
        rfl
      · rw [hs_none g h2] at z
        cases z
  · cases h
theorem snd_isi {st : Ck} {X : Cx} {J : Jx} {m : Md} {e : Expr} {a : E} {t : Ty} (g : Good st X J) (h : mE (n + 1) st m e (.isi a t) = true) : PE X e (J.tE m (.isi a t)) := by
  simp only [mE] at h
  split at h
  · rename_i x p1 ea y p2 pos
    simp only [Bool.and_eq_true, decide_eq_true_eq, Bool.not_eq_true'] at h
    obtain ⟨⟨⟨⟨⟨rfl, h2⟩, h3⟩, h4⟩, h5⟩, h6⟩ := h
    have hg := g.gl h2
    have hm := g.free _ (List.contains_iff_mem.mp h3)
    have hyg := g.gl h4
    have plain : (tyB t && decide (y = Str.ofString (tyN t)) && st.free.contains y && mE n st .B ea a) = true → PE X (.Call (.Name "isinstance" p1) [ea, .Name y p2] [] pos) (J.tE m (.isi a t)) := fun h => by
      simp only [Bool.and_eq_true, decide_eq_true_eq] at h
      obtain ⟨⟨⟨q1, q2⟩, q3⟩, q4⟩ := h
      exact s_isi q1 hg hm q2 hyg (g.free _ (List.contains_iff_mem.mp q3)) (ih.e g q4) (star_ok h5)
    split at h6
    · rename_i hh i hs
      split at h6
      · rename_i he
        subst he
        split at h6
        · rename_i z pz
          simp only [Bool.and_eq_true, decide_eq_true_eq] at h6
          obtain ⟨⟨⟨q1, q2⟩, q3⟩, q4⟩ := h6
          obtain ⟨a, c, hx⟩ := hs_some g hs
          obtain ⟨d1, d2⟩ := dbg_of q3
          split at q4
          · simp only [Bool.and_eq_true, decide_eq_true_eq] at q4
            obtain ⟨rfl, q5⟩ := q4
            exact s_isxV g hx hg hm (by rw [g.N]; exact q1) (g.vis q2) d1 d2 hyg (g.free _ (List.contains_iff_mem.mp q5))
          · split at q4
            · rename_i C hC
              simp only [Bool.and_eq_true, decide_eq_true_eq] at q4
              exact s_isxC g hx hg hm (by rw [g.N]; exact q1) (g.vis q2) d1 d2 hC q4.1 hyg (dbg_of q4.2).1
            · cases q4
          · cases q4
        · cases h6
      · exact plain h6
    · exact plain h6
  · cases h
theorem snd_e {st : Ck} {X : Cx} {J : Jx} {m : Md} {e : Expr} {ie : E} (g : Good st X J) (h : mE (n + 1) st m e ie = true) : PE X e (J.tE m ie) := by
  cases ie with
  | v i =>
    simp only [mE] at h
    split at h
    · simp only [Bool.and_eq_true, decide_eq_true_eq] at h
      obtain ⟨⟨⟨h1, h2⟩, h3⟩, h4⟩ := h
      obtain ⟨d1, d2⟩ := dbg_of h3
      exact s_v (by rw [g.N]; exact h1) (g.vis h2) d1 d2 (by rw [g.md]; exact h4)
    · cases h
  | k c =>
    simp only [mE] at h
    split at h
    · exact s_k (cn_eq h)
    · cases h
  | gl x c =>
    simp only [mE] at h
    split at h
    · simp only [Bool.and_eq_true, decide_eq_true_eq] at h
      obtain ⟨⟨⟨rfl, h2⟩, h3⟩, h4⟩ := h
      split at h4
      · obtain ⟨u, hu, hr⟩ := g.cons _ _ (List.contains_iff_mem.mp h4)
        exact s_gl (c := .int _) (g.gl h2) hu hr (dbg_of h3).1
      · obtain ⟨u, hu, hr⟩ := g.cons _ _ (List.contains_iff_mem.mp h4)
        exact s_gl (c := .str _) (g.gl h2) hu hr (dbg_of h3).1
      · cases h4
    · cases h
  | op2 o a b =>
    simp only [mE] at h
    split at h
    · simp only [Bool.and_eq_true] at h
      obtain ⟨⟨h1, h2⟩, h3⟩ := h
      have := opB_eq h1
      subst this
      exact s_op2 (ih.e g h2) (ih.e g h3)
    · cases h
  | rep es b =>
    simp only [mE] at h
    split at h
    · simp only [Bool.and_eq_true] at h
      exact s_rep (ih.es g h.1).1 (ih.e g h.2)
    · cases h
  | neg a =>
    simp only [mE] at h
    split at h
    · exact s_neg (ih.e g h)
    · cases h
  | cmp o a b =>
    simp only [mE] at h
    split at h
    · simp only [Bool.and_eq_true, Bool.not_eq_true'] at h
      obtain ⟨⟨⟨h1, h2⟩, h3⟩, h4⟩ := h
      have := cpB_eq h1
      subst this
      exact s_cmp g.un (ih.e g h2) (ih.e g h3) (marks_ok h4)
    · cases h
  | ch o1 o2 a b c =>
    simp only [mE] at h
    split at h
    · simp only [Bool.and_eq_true, Bool.not_eq_true'] at h
      obtain ⟨⟨⟨⟨⟨⟨⟨h1, h2⟩, h3⟩, h4⟩, h5⟩, h6⟩, h7⟩, h8⟩ := h
      have e1 := cpB_eq h1
      have e2 := cpB_eq h2
      subst e1 e2
      exact s_ch g.un h3 h4 (ih.e g h5) (ih.e g h6) (ih.e g h7) (lastM h8)
    · cases h
  | bop k es =>
    simp only [mE] at h
    split at h
    · simp only [Bool.and_eq_true] at h
      have e1 := boB_eq h.1
      subst e1
      exact ih.b g h.2
    · cases h
  | nt a =>
    simp only [mE] at h
    split at h
    · exact s_nt (ih.e g h)
    · cases h
  | ife t a b =>
    simp only [mE] at h
    split at h
    · simp only [Bool.and_eq_true] at h
      exact s_ife (ih.t g h.1.1) (ih.e g h.1.2) (ih.e g h.2)
    · cases h
  | tup es =>
    simp only [mE] at h
    split at h
    · exact s_tup (ih.es g h).1
    · cases h
  | lst es =>
    simp only [mE] at h
    split at h
    · exact s_lst (ih.es g h).1
    · cases h
  | ix a b =>
    simp only [mE] at h
    split at h
    · simp only [Bool.and_eq_true, decide_eq_true_eq, Bool.not_eq_true'] at h
      obtain ⟨⟨⟨h1, h2⟩, h3⟩, h4⟩ := h
      have hu := g.un
      refine s_ix (ma := if pureE b = true then .P else .B) g.kl (by omega) ?_ h1 (ih.e g h3) (ih.e g h4) (slice_ok h2)
      split
      · rename_i hp
        exact .inr (.inr ⟨rfl, hp⟩)
      · exact .inr (.inl rfl)
    · cases h
  | sl a lo hi =>
    simp only [mE] at h
    split at h
    · simp only [Bool.and_eq_true] at h
      exact s_sl g.kl (ih.e g h.1.1) (ih.o g h.1.2) (ih.o g h.2)
    · cases h
  | call f es =>
    simp only [mE] at h
    split at h
    · rename_i x p ees pos
      split at h
      · rename_i F hF
        simp only [Bool.and_eq_true, decide_eq_true_eq, Bool.not_eq_true', Bool.or_eq_true] at h
        obtain ⟨⟨⟨⟨⟨⟨⟨⟨h1, rfl⟩, h3⟩, h4⟩, h5⟩, h6⟩, h7⟩, h8⟩, h9⟩ := h
        obtain ⟨r1, r2, r3⟩ := ih.es g h9
        obtain ⟨k, addr, fd, q1, q2, q3, q4, q5⟩ := g.fns h1 f F hF h3
        cases ees with
        | nil =>
          simp only [List.length_nil] at r3
          omega
        | cons e1 er =>
          exact PE.imp (pe_callSD q5 q1 (g.gl h4) q2 q3 q4 .nil (fun σ => passAt g.tk σ) r1 (dbg_of h5).1 (str_all r2 rfl) (stars_any (by
            simp only [List.all_cons, Bool.and_eq_true] at r2
            exact r2.2))) (call_imp h6 h8)
      · cases h
    · cases h
  | bi b es =>
    simp only [mE] at h
    split at h
    · simp only [Bool.and_eq_true, decide_eq_true_eq] at h
      obtain ⟨⟨⟨⟨⟨⟨h1, rfl⟩, h3⟩, h4⟩, h5⟩, h6⟩, h7⟩ := h
      obtain ⟨r1, r2, r3⟩ := ih.es g h7
      exact s_bi g.kl (g.calm h1) (g.gl h3) (g.free _ (List.contains_iff_mem.mp h4)) h5 h6 r1 r2 r3
    · rename_i x p ea kn j p2 kp pos
      simp only [Bool.and_eq_true, decide_eq_true_eq] at h
      obtain ⟨⟨⟨⟨⟨h1, rfl⟩, h2⟩, h3⟩, h4⟩, h5⟩ := h
      obtain ⟨r1, r2, r3⟩ := ih.es g h5
      cases es with
      | nil => cases r3
      | cons ie r =>
        cases r with
        | nil =>
          simp only [List.all_cons, List.all_nil, Bool.and_true, Bool.not_eq_true'] at r2
          exact s_mnD (bdB_ok h2) (g.calm h1) g.un (g.gl h3) (g.free _ (List.contains_iff_mem.mp h4)) r1 (fun {env} => star_ok r2)
        | cons _ _ => cases r3
    · cases h
  | isi a t => exact snd_isi ih g h
  | comp ce tg it cd =>
    obtain ⟨eelt, etg, eiter, eifs, scope, pos, rfl, h1, h2, h3, h4, h5, h6, h7, h8, h9⟩ := snd_comp ih g h
    exact s_comp h1 g.nd h2 h3 ownB_map h4 h5 h6 h7 h8 h9
  | _ => simp [mE] at h
theorem snd_t {st : Ck} {X : Cx} {J : Jx} {e : Expr} {ie : E} (g : Good st X J) (h : mE (n + 1) st .B e ie = true) : PT X e (J.tT ie) := by
  have hE := snd_e ih (m := .B) g h
  cases ie with
  | cmp o a b =>
    simp only [mE] at h
    split at h
    · simp only [Bool.and_eq_true, Bool.not_eq_true'] at h
      obtain ⟨⟨⟨h1, h2⟩, h3⟩, h4⟩ := h
      have := cpB_eq h1
      subst this
      exact t_cmp g.un (ih.e g h2) (ih.e g h3) (marks_ok h4)
    · cases h
  | ch o1 o2 a b c =>
    simp only [mE] at h
    split at h
    · simp only [Bool.and_eq_true, Bool.not_eq_true'] at h
      obtain ⟨⟨⟨⟨⟨⟨⟨h1, h2⟩, h3⟩, h4⟩, h5⟩, h6⟩, h7⟩, h8⟩ := h
      have e1 := cpB_eq h1
      have e2 := cpB_eq h2
      subst e1 e2
      exact t_ch g.un h3 h4 (ih.e g h5) (ih.e g h6) (ih.e g h7) (lastM h8)
    · cases h
  | bop k es =>
    simp only [mE] at h
    split at h
    · simp only [Bool.and_eq_true] at h
      have e1 := boB_eq h.1
      subst e1
      exact (ih.bt g h.2).pt
    · cases h
  | nt a =>
    simp only [mE] at h
    split at h
    · exact t_nt (ih.t g h)
    · cases h
  | ife t a b =>
    simp only [mE] at h
    split at h
    · simp only [Bool.and_eq_true] at h
      exact t_ife (ih.t g h.1.1) (ih.t g h.1.2) (ih.t g h.2)
    · cases h
  | _ =>
    simp only [mE] at h
    try split at h
    all_goals first
      | exact evPt hE rfl
      | cases h
end
theorem snd : ∀ n, Snd n
  | 0 => snd0
  | n + 1 =>
    have ih := snd n
    ⟨fun g h => snd_e ih g h, fun g h => snd_t ih g h, fun g h => snd_es ih g h, fun g h => snd_b ih g h, fun g h => snd_bt ih g h, fun g h => snd_o ih g h, fun g h => snd_i ih g h⟩
end Pv
end

section
set_option Elab.async false
set_option linter.all false
set_option maxRecDepth 100000
set_option autoImplicit false
/-! Pv23: the small language's text against the tree: statements. -/
namespace Pv
open PySem PySem.Spec PyProof.Rows L2

structure GoodS (st : Ck) (X : Cx) (J : Jr) : Prop extends Good st X J.toJx where
  own : PassesOwn (model X.prog X.w) X.A X.env X.xe
  knd : st.sc.kind = .function
  stk : X.stack = X.env :: X.outer ∧ X.env.frame = some X.env.locals
  exc : ∀ c C, st.G.cls c = some C → C.exc = true → PySem.W.excIn X.K (J.k.ca c) He.veBase "ValueError.__new__" = true ∧ PySem.W.keepIn X.K (.ref (J.k.ca c)) = true ∧ Raises X (.ref (J.k.ca c)) ∧ ExcC X.K (J.k.ca c) ∧
    PySem.W.kitOne X.K (.ref (J.k.ca c)) (.type "ValueError") = some true ∧ ∀ d D, st.G.cls d = some D → PySem.W.exmOne X.K (.ref (J.k.ca c)) (.ref (J.k.ca d)) = some (C.sup.contains d) ∧ PySem.W.kitOne X.K (.ref (J.k.ca c)) (.ref (J.k.ca d)) = some (C.sup.contains d)
theorem catch_of {G : Prog} {c d : Nat} {b : Bool} (h : catches G c d = some b) : ∃ C, G.cls c = some C ∧ C.exc = true ∧ b = C.sup.contains d := by
  unfold catches at h
  split at h
  · rename_i C hC
    split at h
    · rename_i hx
      cases h
      exact ⟨C, hC, hx, rfl⟩
    · cases h
  · cases h
theorem GoodS.cat {st : Ck} {X : Cx} {J : Jr} (g : GoodS st X J) {d : Nat} {D : Cls} (hD : st.G.cls d = some D) : Catch X.K J d := fun c b e => by
  obtain ⟨C, hC, hx, rfl⟩ := catch_of e
  rw [g.G] at hC
  exact ((g.exc c C hC hx).2.2.2.2.2 d D hD).1
/-- the context of a try's body -/
theorem GoodS.tr {st : Ck} {X : Cx} {J : Jr} (g : GoodS st X J) (h0 : st.hs = none) {W : WX} {pn : List (Addr × Obj)} {xe : Value → Shared → Prop} (tk : Takes (X.tr pn xe) W) (ow : PassesOwn (model X.prog X.w) X.A X.env xe) : GoodS st (X.tr pn xe) (J.wish W) where
  N := g.N
  nd := g.nd
  sc := g.sc
  fn := g.fn
  calm := g.calm
  un := g.un
  md := g.md
  hs := g.hs
  G := g.G
  free := g.free
  cons := g.cons
  cls := g.cls
  kl := g.kl
  tk := tk
  fns := g.fns
  hx := fun i a c e => by
    have e : J.md.hx = some (i, a, c) := e
    rw [hs_none g.toGood h0] at e
    cases e
  own := ow
  knd := g.knd
  stk := g.stk
  exc := g.exc
def Ck.suit (st : Ck) (o : Option Nat) : Ck := { st with calm := false, hs := o }
/-- the context of a suite -/
theorem GoodS.suit {st : Ck} {X : Cx} {J : Jr} (g : GoodS st X J) {a : Addr} {oe : Obj} {pn : List (Addr × Obj)} : GoodS (st.suit none) (X.suite a ((a, oe) :: pn)) (J.suit none) where
  N := g.N
  nd := g.nd
  sc := g.sc
  fn := g.fn
  calm := fun z => Bool.noConfusion z
  un := g.un
  md := g.md
  hs := rfl
  G := g.G
  free := g.free
  cons := g.cons
  cls := g.cls
  kl := g.kl
  tk := takes0
  fns := fun z => Bool.noConfusion z
  hx := fun i a c e => nomatch e
  own := PassesOwn.never
  knd := g.knd
  stk := g.stk
  exc := g.exc
theorem GoodS.suitAs {st : Ck} {X : Cx} {J : Jr} (g : GoodS st X J) {a : Addr} {oe : Obj} {pn : List (Addr × Obj)} {i c : Nat} {C : Cls} (hC : st.G.cls c = some C) (hx : C.exc = true) (hz : Zc (.ref (J.k.ca c)) none oe) (hf : ∃ vs, oe.data = .fields vs) :
    GoodS (st.suit (some i)) (X.suite a ((a, oe) :: pn)) (J.suit (some (i, a, c))) where
  N := g.N
  nd := g.nd
  sc := g.sc
  fn := g.fn
  calm := fun z => Bool.noConfusion z
  un := g.un
  md := g.md
  hs := rfl
  G := g.G
  free := g.free
  cons := g.cons
  cls := g.cls
  kl := g.kl
  tk := takes0
  fns := fun z => Bool.noConfusion z
  hx := fun i' a' c' e => by
    cases e
    obtain ⟨_, _, _, e4, e5, e6⟩ := g.exc c C hC hx
    refine ⟨call_isE e4 hz hf, fun d D b hD hb => ?_, e5⟩
    obtain ⟨C', hC', _, rfl⟩ := catch_of hb
    have hC'' : J.x.G.cls c = some C' := hC'
    rw [g.G, hC] at hC''
    cases hC''
    have hD' : J.x.G.cls d = some D := hD
    rw [g.G] at hD'
    exact (e6 d D hD').2
  own := PassesOwn.never
  knd := g.knd
  stk := g.stk
  exc := g.exc
/-- moved slots -/
def Ck.mv (st : Ck) (is : List Nat) : Ck := { st with md := shrAll st.md is }
theorem GoodS.mv {st : Ck} {X : Cx} {J : Jr} (g : GoodS st X J) (is : List Nat) : GoodS (st.mv is) X (J.mv is) where
  N := g.N
  nd := g.nd
  sc := g.sc
  fn := g.fn
  calm := g.calm
  un := g.un
  md := by
    show shrAll J.md.l is = shrAll st.md is
    rw [g.md]
  hs := g.hs
  G := g.G
  free := g.free
  cons := g.cons
  cls := g.cls
  kl := g.kl
  tk := g.tk
  fns := g.fns
  hx := g.hx
  own := g.own
  knd := g.knd
  stk := g.stk
  exc := g.exc

/-! ### the check -/
def compB : Expr → Bool
  | .ListComp _ _ _ _ => true
  | .SetComp _ _ _ _ => true
  | .DictComp _ _ _ _ _ => true
  | _ => false
def tupB' : Expr → Bool
  | .Tuple _ _ _ => true
  | _ => false
def swB (st : Ck) (x : Str) (px lp : Pos) (scope : Scope) : Bool := (match kind? st.sc x with
  | some .local => true
  | _ => false) && px.line == lp.line && !(scope.names.any fun (n, k) => n == x && (k == .local || k == .cell))
mutual
def mS : Nat → Ck → Md → Stmt → S → Bool
  | 0, _, _, _, _ => false
  | n + 1, st, rm, s, is => match is with
    | .set i e => (match s with
      | .Assign [.Name x px] v pos => decide (st.N[i]? = some x) && locB st.sc x && storeB st x && decide (st.hs ≠ some i) && (match st.md[i]? with
        | some .shr => mE 200 st .V v e
        | some .own => mE 200 st .O v e
        | _ => false) && (match v with
        | .ListComp elt [⟨tg, iter, ifs, 0⟩] scope lp => (match e with
          | .comp _ _ _ _ => true
          | _ => false)
        | v => !compB v)
      | _ => false)
    | .unp is e => (match s with
      | .Assign [.Tuple es _ _] v _ => st.calm && manyB st is es && !compB v && !tupB' v && mE 200 st .B v e
      | _ => false)
    | .ex e => (match s with
      | .Expr v _ => !compB v && mE 200 st .B v e
      | _ => false)
    | .mu (.slot i) (.app e) => (match s with
      | .Expr (.Call (.Attribute (.Name x _) f ap) [v] [] cp) _ => decide (f = "append") && decide (st.N[i]? = some x) && visB st.sc x && dbgB x && decide (st.md[i]? = some Mode.own) && decide (st.hs ≠ some i) && mEs 200 st [] [v] [e] && (ap.endLine == cp.line)
      | _ => false)
    | .mu (.slot i) (.ext e) => (match s with
      | .Expr (.Call (.Attribute (.Name x _) f ap) [v] [] cp) _ => decide (f = "extend") && decide (st.N[i]? = some x) && visB st.sc x && dbgB x && decide (st.md[i]? = some Mode.own) && decide (st.hs ≠ some i) && mEs 200 st [.B] [v] [e] && (ap.endLine == cp.line)
      | _ => false)
    | .mu (.slot i) .clr => (match s with
      | .Expr (.Call (.Attribute (.Name x _) f ap) [] [] cp) _ => decide (f = "clear") && decide (st.N[i]? = some x) && visB st.sc x && dbgB x && decide (st.md[i]? = some Mode.own) && decide (st.hs ≠ some i) && (ap.endLine == cp.line)
      | _ => false)
    | .mu (.slot i) .rev => (match s with
      | .Expr (.Call (.Attribute (.Name x _) f ap) [] [] cp) _ => decide (f = "reverse") && decide (st.N[i]? = some x) && visB st.sc x && dbgB x && decide (st.md[i]? = some Mode.own) && decide (st.hs ≠ some i) && (ap.endLine == cp.line)
      | _ => false)
    | .mu (.slot i) (.seti k e) => (match s with
      | .Assign [.Subscript (.Name x _) ix _] v _ => decide (st.N[i]? = some x) && visB st.sc x && dbgB x && decide (st.md[i]? = some Mode.own) && decide (st.hs ≠ some i) && mE 200 st .V v e && mE 200 st .V ix k && !compB v && !sliceB ix
      | _ => false)
    | .ret e => (match s with
      | .Return (some v) _ => (match e, v with
        | .v i, .Name x _ => if rm = .O then decide (st.N[i]? = some x) && visB st.sc x && dbgB x && decide (st.md[i]? = some Mode.own) else mE 200 st rm v e
        | _, _ => mE 200 st rm v e)
      | _ => false)
    | .retN => (match s with
      | .Return none _ => true
      | _ => false)
    | .ife c a b => (match s with
      | .If ec ea eb _ => mE 200 st .B ec c && mSs n st rm ea a && mSs n st rm eb b
      | _ => false)
    | .for' tg it body => (match s with
      | .For etg eit eb [] _ => st.calm && mI 200 st etg eit it && tgB st etg tg && !setB eit && mSs n st rm eb body
      | _ => false)
    | .whil c body => (match s with
      | .While ec eb [] _ => mE 200 st .B ec c && mSs n st rm eb body
      | _ => false)
    | .brk => (match s with
      | .Break _ => true
      | _ => false)
    | .cnt => (match s with
      | .Continue _ => true
      | _ => false)
    | .pas => (match s with
      | .Pass _ => true
      | _ => false)
    | .nev => true
    | .rais c => (match s with
      | .Raise (some (.Call (.Name x _) [.Constant (.str _) _ _] [] _)) none _ => (match st.G.cls c with
        | some C => st.calm && C.exc && decide (C.name = x) && glB st.sc x && dbgB x
        | none => false)
      | _ => false)
    | .mvs is s' => is.all (fun i => decide (st.md[i]? = some Mode.own) && decide (st.hs ≠ some i)) && mS n (st.mv is) rm s s'
    | .tr body hs => (match s with
      | .Try eb hds [] [] _ => decide (st.hs = none) && mSs n st rm eb body && (mH n st rm hds hs || mA n st rm hds hs) && decide (0 < hds.length)
      | _ => false)
    | _ => false
def mSs : Nat → Ck → Md → List Stmt → List S → Bool
  | 0, _, _, _, _ => false
  | _ + 1, _, _, [], [] => true
  | n + 1, st, rm, .Expr (.Constant (.str d) j p) q :: s, is => mSs n st rm s is
  | n + 1, st, rm, s :: ss, is :: iss => mS n st rm s is && mSs n st rm ss iss
  | _ + 1, _, _, _, _ => false
/-- except clauses without names -/
def mH : Nat → Ck → Md → List ExceptHandler → List (Nat × Option Nat × List S) → Bool
  | 0, _, _, _, _ => false
  | _ + 1, _, _, [], [] => true
  | n + 1, st, rm, .ExceptHandler (some (.Name x _)) none (b :: su) _ :: hds, (d, none, isu) :: ihs => (match st.G.cls d with
    | some D => decide (D.name = x) && glB st.sc x && dbgB x
    | none => false) && mSs n (st.suit none) rm (b :: su) isu && mH n st rm hds ihs
  | _ + 1, _, _, _, _ => false
/-- one with a name -/
def mA : Nat → Ck → Md → List ExceptHandler → List (Nat × Option Nat × List S) → Bool
  | 0, _, _, _, _ => false
  | n + 1, st, rm, [.ExceptHandler (some (.Name x _)) (some y) (b :: su) _], [(d, some i, isu)] => (match st.G.cls d with
    | some D => decide (D.name = x) && glB st.sc x && dbgB x
    | none => false) && decide (st.N[i]? = some y) && (match kind? st.sc y with
      | some .local => true
      | _ => false) && decide (st.md[i]? = some Mode.shr) && mSs n (st.suit (some i)) rm (b :: su) isu
  | _ + 1, _, _, _, _ => false
end
end Pv
end

section
set_option Elab.async false
set_option linter.all false
set_option maxRecDepth 100000
set_option autoImplicit false
/-! Pv24: the check of a statement is sound. -/
namespace Pv
open PySem PySem.Spec PyProof.Rows L2

theorem sw_no {v : Expr} {t : Option Expr} {l : Nat} {env : PySem.Env} (h : compB v = false) : swapsWith v t l env = pure false := by
  cases v <;> first | rfl | cases h
theorem sw_sole {v t : Expr} {l : Nat} {env : PySem.Env} (h : compB v = false) : swapsWithSole [t] v l env = pure false := sw_no h
theorem swap_no {v : Expr} {es : List Expr} {k : Nat} {p : Pos} {env : PySem.Env} (h : tupB' v = false) : swappedStores [.Tuple es k p] v env = pure none := by
  cases v <;> first | rfl | cases h
theorem swap_sub {v o i : Expr} {p : Pos} {env : PySem.Env} : swappedStores [.Subscript o i p] v env = pure none := by
  cases v <;> rfl
theorem asg_sub {o ix : Expr} {p : Pos} {env : PySem.Env} (h : sliceB ix = false) : ∀ v, assign (.Subscript o ix p) env v = (do
      let ov ← holding [v] (eval o env)
      let iv ← holding [v, ov] (eval ix env)
      standAt p
      holding [v, ov, iv] (setItem ov iv v)
      release [v, ov, iv] []) := by
  intro v
  cases ix <;> first | rfl | cases h
theorem sw_lc {elt : Expr} {gs : List Comprehension} {scope : Scope} {lp px : Pos} {x : Str} {l : Nat} {st : Ck} {env : PySem.Env} (hsc : env.scope = st.sc) (hk : st.sc.kind = .function) :
    swapsWith (.ListComp elt gs scope lp) (some (.Name x px)) l env = pure (swB st x px lp scope) := by
  have hb : env.blockKind = .function := by
    unfold PySem.Env.blockKind
    rw [hsc, hk]
    rfl
  have ek : env.kindOf x = kind? st.sc x := by
    show env.scope.names.lookup x = st.sc.names.lookup x
    rw [hsc]
  have e2 : (kind? st.sc x == some NameKind.local) = (match kind? st.sc x with
    | some .local => true
    | _ => false) := by
    cases kind? st.sc x with
    | none => rfl
    | some k => cases k <;> rfl
  unfold swapsWith swB
  simp only [hb, ek, Expr.pos, e2]
  rfl
theorem own_of {st : Ck} {X : Cx} {J : Jx} (g : Good st X J) {i : Nat} (h : st.md[i]? = some Mode.own) : J.md.l.getD i .shr = .own := by
  rw [getD_eq, g.md, h]
  rfl
theorem hx_of {st : Ck} {X : Cx} {J : Jx} (g : Good st X J) {i : Nat} (h : st.hs ≠ some i) : hxOk J.md i := fun j a c e z => by
  subst z
  have := g.hs
  rw [e] at this
  exact h this.symm
def NamedH (X : Cx) (J : Jr) (h : List ExceptHandler) (ih : List (Nat × Option Nat × List _root_.Pv.S)) : Prop := ∃ (x y : Str) (p p' : Pos) (b : Stmt) (su : List Stmt) (i d : Nat) (isu : List _root_.Pv.S), h = [.ExceptHandler (some (.Name x p)) (some y) (b :: su) p'] ∧ ih = [(d, some i, isu)] ∧
  Names X x (.ref (J.k.ca d)) ∧ Catch X.K J d ∧ X.N[i]? = some y ∧ X.env.kindOf y = some .local ∧ J.md.l[i]? = some .shr ∧
  ∀ (a : Addr) (oe : Obj) (c : Nat) (pn : List (Addr × Obj)), (∃ C, J.x.G.cls c = some C ∧ C.exc = true) → Zc (.ref (J.k.ca c)) none oe → (∃ vs, oe.data = .fields vs) → PSs (X.suite a ((a, oe) :: pn)) (b :: su) ((J.suit (some (i, a, c))).tSs isu)
structure SndS (n : Nat) : Prop where
  s : ∀ {st : Ck} {X : Cx} {J : Jr} {s : Stmt} {is : _root_.Pv.S}, GoodS st X J → mS n st J.rm s is = true → PS X s (J.tS is)
  ss : ∀ {st : Ck} {X : Cx} {J : Jr} {s : List Stmt} {is : List _root_.Pv.S}, GoodS st X J → mSs n st J.rm s is = true → PSs X s (J.tSs is)
  h : ∀ {st : Ck} {X : Cx} {J : Jr} {h : List ExceptHandler} {ih : List (Nat × Option Nat × List _root_.Pv.S)}, GoodS st X J → mH n st J.rm h ih = true → HdsAt X J h ih
  a : ∀ {st : Ck} {X : Cx} {J : Jr} {h : List ExceptHandler} {ih : List (Nat × Option Nat × List _root_.Pv.S)}, GoodS st X J → mA n st J.rm h ih = true → NamedH X J h ih
theorem sndS0 : SndS 0 := by
  refine ⟨?_, ?_, ?_, ?_⟩
  · intro st X J s is g h
    simp only [mS] at h
    cases h
  · intro st X J s is g h
    simp only [mSs] at h
    cases h
  · intro st X J hd ih g h
    simp only [mH] at h
    cases h
  · intro st X J hd ih g h
    simp only [mA] at h
    cases h
theorem cls_names {st : Ck} {X : Cx} {J : Jr} (g : GoodS st X J) {x : Str} {d : Nat} (h : (match st.G.cls d with
    | some D => decide (D.name = x) && glB st.sc x && dbgB x
    | none => false) = true) : Names X x (.ref (J.k.ca d)) ∧ Catch X.K J d := by
  split at h
  · rename_i D hD
    simp only [Bool.and_eq_true, decide_eq_true_eq] at h
    obtain ⟨⟨rfl, h2⟩, h3⟩ := h
    exact ⟨⟨g.gl h2, (dbg_of h3).1, .inl (g.cls d D hD)⟩, g.cat hD⟩
  · cases h
section
variable {n : Nat} (ih : SndS n)
include ih
theorem snd_ss {st : Ck} {X : Cx} {J : Jr} {s : List Stmt} {is : List _root_.Pv.S} (g : GoodS st X J) (h : mSs (n + 1) st J.rm s is = true) : PSs X s (J.tSs is) := by
  unfold mSs at h
  split at h
  · rename_i h0
    cases h0
  · exact ss_nil
  · rename_i h0
    cases h0
    exact PSs.imp (pss_cons ps_doc (ih.ss g h)) fun D σ H q => q
  · rename_i h0
    cases h0
    rw [Bool.and_eq_true] at h
    exact ss_cons (ih.s g h.1) (ih.ss g h.2)
  · cases h
theorem snd_h {st : Ck} {X : Cx} {J : Jr} {h : List ExceptHandler} {ihh : List (Nat × Option Nat × List _root_.Pv.S)} (g : GoodS st X J) (hh : mH (n + 1) st J.rm h ihh = true) : HdsAt X J h ihh := by
  unfold mH at hh
  split at hh
  · rename_i h0
    cases h0
  · exact .nil
  · rename_i n' st' x p b su p' hds d isu ihs hn
    cases hn
    simp only [Bool.and_eq_true] at hh
    obtain ⟨⟨h1, h2⟩, h3⟩ := hh
    obtain ⟨q1, q2⟩ := cls_names g h1
    exact .cons q1 q2 (fun a oe pn => ih.ss (J := J.suit none) (g.suit (a := a) (oe := oe) (pn := pn)) h2) (ih.h g h3)
  · cases hh
theorem snd_a {st : Ck} {X : Cx} {J : Jr} {h : List ExceptHandler} {ihh : List (Nat × Option Nat × List _root_.Pv.S)} (g : GoodS st X J) (hh : mA (n + 1) st J.rm h ihh = true) : NamedH X J h ihh := by
  unfold mA at hh
  split at hh
  · rename_i h0
    cases h0
  · rename_i n' st' x p y b su p' d i isu hn
    cases hn
    simp only [Bool.and_eq_true, decide_eq_true_eq] at hh
    obtain ⟨⟨⟨⟨h1, h2⟩, h3⟩, h4⟩, h5⟩ := hh
    obtain ⟨q1, q2⟩ := cls_names g h1
    refine ⟨x, y, p, p', b, su, i, d, isu, rfl, rfl, q1, q2, by rw [g.N]; exact h2, ?_, by rw [g.md]; exact h4, fun a oe c pn hC hz hf => ?_⟩
    · show X.env.scope.names.lookup y = some .local
      rw [g.sc]
      unfold kind? at h3
      split at h3 <;> simp_all
    · obtain ⟨C, hC, hx⟩ := hC
      rw [g.G] at hC
      exact ih.ss (J := J.suit (some (i, a, c))) (g.suitAs hC hx hz hf) h5
  · cases hh
theorem snd_set {st : Ck} {X : Cx} {J : Jr} {s : Stmt} {i : Nat} {e : E} (g : GoodS st X J) (h : mS (n + 1) st J.rm s (.set i e) = true) : PS X s (J.tS (.set i e)) := by
  simp only [mS] at h
  split at h
  · rename_i x px v pos
    simp only [Bool.and_eq_true, decide_eq_true_eq] at h
    obtain ⟨⟨⟨⟨⟨h1, h2⟩, h3⟩, h4⟩, h5⟩, h6⟩ := h
    have hi : X.N[i]? = some x := by rw [g.N]; exact h1
    have hx := hx_of g.toGood h4
    obtain ⟨m, hm, he⟩ : ∃ m, ((J.md.l.getD i .shr = .shr ∧ m = Md.V) ∨ (J.md.l.getD i .shr = .own ∧ m = .O)) ∧ mE 200 st m v e = true := by
      split at h5
      · rename_i hmd
        exact ⟨.V, .inl ⟨by rw [getD_eq, g.md, hmd]; rfl, rfl⟩, h5⟩
      · rename_i hmd
        exact ⟨.O, .inr ⟨own_of g.toGood hmd, rfl⟩, h5⟩
      · cases h5
    have pe := (snd 200).e g.toGood he
    split at h6
    · rename_i elt tg iter ifs scope lp
      split at h6
      · rename_i ce tg' it cd
        cases hw : swB st x px lp scope with
        | false => exact s_set g.nd hi (g.loc h2) (g.store h3) hx hm pe (by rw [sw_lc (st := st) g.sc g.knd, hw])
        | true =>
          obtain ⟨eelt, etg, eiter, eifs, scope', pos', ee, q1, q2, q3, q4, q5, q6, q7, q8, q9⟩ := snd_comp (snd 199) g.toGood he
          cases ee
          have hl : X.env.scope.names.lookup x = some .local := by
            rw [g.sc]
            unfold swB kind? at hw
            simp only [Bool.and_eq_true] at hw
            have hw := hw.1.1
            split at hw <;> simp_all
          exact s_setLc q1 g.nd hi hl (by rw [sw_lc (st := st) g.sc g.knd, hw]) q2 q3 ownB_map q4 q5 q6 q7 q8 q9 hx hm
      · cases h6
    · exact s_set g.nd hi (g.loc h2) (g.store h3) hx hm pe (sw_no (by simpa using h6))
  · cases h
theorem snd_ret {st : Ck} {X : Cx} {J : Jr} {s : Stmt} {e : E} (g : GoodS st X J) (h : mS (n + 1) st J.rm s (.ret e) = true) : PS X s (J.tS (.ret e)) := by
  simp only [mS] at h
  split at h
  · rename_i v pos
    split at h
    · rename_i i x p
      split at h
      · rename_i hr
        simp only [Bool.and_eq_true, decide_eq_true_eq] at h
        obtain ⟨⟨⟨h1, h2⟩, h3⟩, h4⟩ := h
        exact s_retO (by rw [g.N]; exact h1) (g.vis h2) (dbg_of h3).1 (dbg_of h3).2 (own_of g.toGood h4) hr
      · exact s_ret ((snd 200).e g.toGood h)
    · exact s_ret ((snd 200).e g.toGood h)
  · cases h
theorem snd_mu {st : Ck} {X : Cx} {J : Jr} {s : Stmt} {p : Pl} {m : Mu} (g : GoodS st X J) (h : mS (n + 1) st J.rm s (.mu p m) = true) : PS X s (J.tS (.mu p m)) := by
  cases p with
  | slot i =>
    cases m with
    | app e =>
      simp only [mS] at h
      split at h
      · simp only [Bool.and_eq_true, decide_eq_true_eq] at h
        obtain ⟨⟨⟨⟨⟨⟨⟨rfl, h1⟩, h2⟩, h3⟩, h4⟩, h5⟩, h6⟩, h7⟩ := h
        obtain ⟨r1, r2, _⟩ := (snd 200).es g.toGood h6
        exact s_app (by rw [g.N]; exact h1) (g.vis h2) (dbg_of h3).1 (dbg_of h3).2 (own_of g.toGood h4) (hx_of g.toGood h5) r1 h7 (str_all r2 rfl) rfl
      · cases h
    | ext e =>
      simp only [mS] at h
      split at h
      · simp only [Bool.and_eq_true, decide_eq_true_eq] at h
        obtain ⟨⟨⟨⟨⟨⟨⟨rfl, h1⟩, h2⟩, h3⟩, h4⟩, h5⟩, h6⟩, h7⟩ := h
        obtain ⟨r1, r2, _⟩ := (snd 200).es g.toGood h6
        exact s_ext (by rw [g.N]; exact h1) (g.vis h2) (dbg_of h3).1 (dbg_of h3).2 (own_of g.toGood h4) (hx_of g.toGood h5) r1 h7 (str_all r2 rfl) rfl
      · cases h
    | clr =>
      simp only [mS] at h
      split at h
      · simp only [Bool.and_eq_true, decide_eq_true_eq] at h
        obtain ⟨⟨⟨⟨⟨⟨rfl, h1⟩, h2⟩, h3⟩, h4⟩, h5⟩, h7⟩ := h
        exact s_clr (by rw [g.N]; exact h1) (g.vis h2) (dbg_of h3).1 (dbg_of h3).2 (own_of g.toGood h4) (hx_of g.toGood h5) h7 rfl
      · cases h
    | rev =>
      simp only [mS] at h
      split at h
      · simp only [Bool.and_eq_true, decide_eq_true_eq] at h
        obtain ⟨⟨⟨⟨⟨⟨rfl, h1⟩, h2⟩, h3⟩, h4⟩, h5⟩, h7⟩ := h
        exact s_rev (by rw [g.N]; exact h1) (g.vis h2) (dbg_of h3).1 (dbg_of h3).2 (own_of g.toGood h4) (hx_of g.toGood h5) h7 rfl
      · cases h
    | seti k e =>
      simp only [mS] at h
      split at h
      · simp only [Bool.and_eq_true, decide_eq_true_eq, Bool.not_eq_true'] at h
        obtain ⟨⟨⟨⟨⟨⟨⟨⟨h1, h2⟩, h3⟩, h4⟩, h5⟩, h6⟩, h7⟩, h8⟩, h9⟩ := h
        exact s_seti (by rw [g.N]; exact h1) (g.vis h2) (dbg_of h3).1 (dbg_of h3).2 (own_of g.toGood h4) (hx_of g.toGood h5) ((snd 200).e g.toGood h6) ((snd 200).e g.toGood h7) (sw_sole h8) swap_sub (asg_sub h9)
      · cases h
    | dpop k => simp [mS] at h
  | fldp i f => cases m <;> simp [mS] at h
  | refp e => cases m <;> simp [mS] at h
theorem snd_s {st : Ck} {X : Cx} {J : Jr} {s : Stmt} {is : _root_.Pv.S} (g : GoodS st X J) (h : mS (n + 1) st J.rm s is = true) : PS X s (J.tS is) := by
  cases is with
  | set i e => exact snd_set ih g h
  | mu p m => exact snd_mu ih g h
  | ret e => exact snd_ret ih g h
  | unp is e =>
    simp only [mS] at h
    split at h
    · simp only [Bool.and_eq_true, Bool.not_eq_true'] at h
      obtain ⟨⟨⟨⟨h1, h2⟩, h3⟩, h4⟩, h5⟩ := h
      obtain ⟨q1, q2⟩ := tg_names g.toGood h2
      exact s_unp (g.calm h1) g.nd q1 q2 ((snd 200).e g.toGood h5) (sw_sole h3) (swap_no h4)
    · cases h
  | ex e =>
    simp only [mS] at h
    split at h
    · simp only [Bool.and_eq_true, Bool.not_eq_true'] at h
      exact s_ex ((snd 200).e g.toGood h.2) (sw_no h.1)
    · cases h
  | retN =>
    simp only [mS] at h
    split at h
    · exact s_retN
    · cases h
  | ife c a b =>
    simp only [mS] at h
    split at h
    · simp only [Bool.and_eq_true] at h
      exact s_if ((snd 200).t g.toGood h.1.1) (ih.ss g h.1.2) (ih.ss g h.2)
    · cases h
  | for' tg it body =>
    simp only [mS] at h
    split at h
    · simp only [Bool.and_eq_true, Bool.not_eq_true'] at h
      obtain ⟨⟨⟨⟨h1, h2⟩, h3⟩, h4⟩, h5⟩ := h
      exact s_for g.own (g.calm h1) ((snd 200).i g.toGood h2) (tg_ok g.toGood h3).1 (ih.ss g h5) (fold_ok h4)
    · cases h
  | whil c body =>
    simp only [mS] at h
    split at h
    · simp only [Bool.and_eq_true] at h
      exact s_whil g.own ((snd 200).t g.toGood h.1) (ih.ss g h.2)
    · cases h
  | brk =>
    simp only [mS] at h
    split at h
    · exact s_brk
    · cases h
  | cnt =>
    simp only [mS] at h
    split at h
    · exact s_cnt
    · cases h
  | pas =>
    simp only [mS] at h
    split at h
    · exact s_pas
    · cases h
  | nev => exact s_nev
  | rais c =>
    simp only [mS] at h
    split at h
    · split at h
      · rename_i C hC
        simp only [Bool.and_eq_true, decide_eq_true_eq] at h
        obtain ⟨⟨⟨⟨h1, h2⟩, rfl⟩, h4⟩, h5⟩ := h
        obtain ⟨e1, e2, e3, _⟩ := g.exc c C hC h2
        exact s_rais (g.calm h1) g.tk PySem.F.excBase_ValueError e1 (g.cls c C hC) e2 e3 (g.gl h4) (dbg_of h5).1
      · cases h
    · cases h
  | mvs is s' =>
    simp only [mS, Bool.and_eq_true] at h
    refine s_mvs (fun i hi => ?_) (ih.s (J := J.mv is) (g.mv is) h.2)
    have q := List.all_eq_true.mp h.1 i hi
    simp only [Bool.and_eq_true, decide_eq_true_eq] at q
    exact ⟨own_of g.toGood q.1, hx_of g.toGood q.2⟩
  | tr body hs =>
    simp only [mS] at h
    split at h
    · rename_i eb hds pos
      simp only [Bool.and_eq_true, decide_eq_true_eq, Bool.or_eq_true] at h
      obtain ⟨⟨⟨h1, h2⟩, h3⟩, h4⟩ := h
      have hb : ∀ (W : WX) (pn : List (Addr × Obj)) (xe : Value → Shared → Prop), Takes (X.tr pn xe) W → PassesOwn (model X.prog X.w) X.A X.env xe → PSs (X.tr pn xe) eb ((J.wish W).tSs body) :=
        fun W pn xe tk ow => ih.ss (J := J.wish W) (g.tr h1 tk ow) h2
      rcases h3 with h3 | h3
      · cases hds with
        | nil => cases h4
        | cons h₀ hds => exact s_try (hs_none g.toGood h1) g.stk.1 g.stk.2 g.tk hb (ih.h g h3)
      · obtain ⟨x, y, p, p', b, su, i, d, isu, rfl, rfl, q1, q2, q3, q4, q5, q6⟩ := ih.a g h3
        exact s_tryAs (hs_none g.toGood h1) g.stk.1 g.stk.2 g.nd q3 q4 q5 q1 q2 g.tk hb q6
    · cases h
  | _ => simp [mS] at h
end
theorem sndS : ∀ n, SndS n
  | 0 => sndS0
  | n + 1 =>
    have ih := sndS n
    ⟨fun g h => snd_s ih g h, fun g h => snd_ss ih g h, fun g h => snd_h ih g h, fun g h => snd_a ih g h⟩
end Pv
end

section
set_option Elab.async false
set_option linter.all false
set_option maxRecDepth 100000
set_option autoImplicit false
/-! Pv25: defs keep what the evaluator says; the law's call. -/
namespace Pv
open PySem PySem.Spec PyProof.Rows L2

/-- the start of a body -/
theorem args_at {k : Kx} {g : Gh} {H : Hp} : ∀ {ms : List Mode} {vs : List Val} {us : List V} {i : Nat} {v : Val}, ArgsR k g H ms vs us → vs[i]? = some v → ∃ u, us[i]? = some u ∧ MRep k g H (argM (ms.getD i .shr)) v u
  | _, [], _, i, v, _, e => by simp at e
  | ms, w :: vs, us, 0, v, h, e => by
    obtain ⟨u, r, rfl, h1, _⟩ := h
    simp at e
    subst e
    refine ⟨u, rfl, ?_⟩
    cases ms <;> exact h1
  | ms, w :: vs, us, i + 1, v, h, e => by
    obtain ⟨u, r, rfl, _, h2⟩ := h
    obtain ⟨u', e1, h3⟩ := args_at (i := i) (v := v) h2 (by simpa using e)
    refine ⟨u', by simpa using e1, ?_⟩
    cases ms with
    | nil => exact h3
    | cons m ms => exact h3
theorem start_rel {k : Kx} {F : Fn} {g : Gh} {H : Hp} {S : Store} {vs : List Val} {us : List V} (hm : F.md.length = F.names.length) (hp : F.np ≤ F.names.length) (hno : (F.md.take F.np).all (fun m => decide (m ≠ Mode.own)) = true) (s : SRel k g H S) (h : ArgsR k g H F.md vs us) (hl : vs.length = F.np) :
    Rel k { l := F.md } g (L2.start F.names us) H (startE F.names.length vs) S := by
  have hul := h.len
  refine ⟨?_, ?_, fun i v e => ?_, (fun i a c z => nomatch z), s⟩
  · unfold startE
    rw [List.length_append, List.length_map, List.length_replicate, hm]
    omega
  · unfold L2.start
    rw [List.length_append, List.length_map, List.length_replicate, hm]
    omega
  · unfold startE at e
    by_cases hi : i < vs.length
    · rw [List.getElem?_append_left (by rw [List.length_map]; exact hi), List.getElem?_map] at e
      cases e1 : vs[i]? with
      | none => rw [e1] at e; cases e
      | some w =>
        rw [e1] at e
        cases e
        obtain ⟨u, e2, h2⟩ := args_at h e1
        refine ⟨u, ?_, ?_⟩
        · unfold L2.start
          rw [List.getElem?_append_left (by rw [List.length_map, hul]; exact hi), List.getElem?_map, e2]
          rfl
        · have hmo : F.md.getD i .shr ≠ .own := by
            rw [getD_eq]
            cases e3 : F.md[i]? with
            | none => intro z; cases z
            | some m =>
              have hmem : m ∈ F.md.take F.np := by
                have : (F.md.take F.np)[i]? = some m := by
                  rw [List.getElem?_take_of_lt (by omega), e3]
                exact List.mem_of_getElem? this
              exact of_decide_eq_true (List.all_eq_true.mp hno m hmem)
          show SRep k g H i (F.md.getD i .shr) v u
          cases e3 : F.md.getD i .shr with
          | shr => rw [e3] at h2; exact h2
          | brw => rw [e3] at h2; exact h2
          | own => exact absurd e3 hmo
    · rw [List.getElem?_append_right (by rw [List.length_map]; omega), List.getElem?_replicate] at e
      split at e <;> cases e

/-- facts of the module, over every base -/
structure Mods (K : PySem.W.Frag) (mg : Str → Option Value) (k : Kx) (G : Prog) (free : List Str) (cons : List (Str × Cn)) : Prop where
  free : ∀ x ∈ free, mg x = none
  cons : ∀ x c, (x, c) ∈ cons → ∃ u, mg x = some u ∧ RelV (cnV' c) u
  cls : ∀ d C, G.cls d = some C → mg C.name = some (.ref (k.ca d))
  kl : ∀ a us (H : Hp), k.kl a us → SqL K H a us
  exc : ∀ c C, G.cls c = some C → C.exc = true → PySem.W.excIn K (k.ca c) He.veBase "ValueError.__new__" = true ∧ PySem.W.keepIn K (.ref (k.ca c)) = true ∧
    (PySem.W.subIn K (.ref (k.ca c)) (.type "BaseException") = some true ∧ PySem.W.typeIn K (.ref (k.ca c)) = some (.type "type")) ∧ ExcC K (k.ca c) ∧
    PySem.W.kitOne K (.ref (k.ca c)) (.type "ValueError") = some true ∧ ∀ d D, G.cls d = some D → PySem.W.exmOne K (.ref (k.ca c)) (.ref (k.ca d)) = some (C.sup.contains d) ∧ PySem.W.kitOne K (.ref (k.ca c)) (.ref (k.ca d)) = some (C.sup.contains d)
/-- a def's text -/
structure Txt where
  params : Arguments
  body : List Stmt
  scope : Scope
def ckOf (G : Prog) (free : List Str) (cons : List (Str × Cn)) (F : Fn) (t : Txt) : Ck := { N := F.names, sc := t.scope, blk := none, calm := true, md := F.md, hs := none, G := G, free := free, cons := cons }
/-- a def's text is its small language's -/
def txtB (G : Prog) (free : List Str) (cons : List (Str × Cn)) (F : Fn) (t : Txt) : Bool :=
  decide (F.md.length = F.names.length) && decide (F.np ≤ F.names.length) && (F.md.take F.np).all (fun m => decide (m ≠ Mode.own)) && (match t.scope.kind with | .function => true | _ => false) && mSs 200 (ckOf G free cons F t) (retM F.ret) t.body F.body
structure DefOk (K : PySem.W.Frag) (mg : Str → Option Value) (G : Prog) (free : List Str) (cons : List (Str × Cn)) (F : Fn) : Prop where
  ex : ∃ (t : Txt) (addr : Addr) (fd : FuncData), FunD K F.name F.name t.params t.body t.scope [] [] addr fd ∧ mg F.name = some (.ref addr) ∧ (∀ (s : Shared) (us : List Value), us.length = (F.names.take F.np).length → BindsTo s fd ⟨us, []⟩ ((F.names.take F.np).zip us)) ∧ FnScope F.names (F.names.take F.np) t.scope ∧ txtB G free cons F t = true
section
variable {P : Program} {w : World} {K : PySem.W.Frag} {mg : Str → Option Value} {base : Heap} {k : Kx} {G : Prog} {free : List Str} {cons : List (Str × Cn)} {wf : Nat}
theorem post_body {J : Jr} {g : Gh} {H : Hp} {r : RS} {Q : VK} {E : XK} (hW : J.W = fun cls d _ H => E cls d H) (p : PostC J.k J.rm g H (ofBody r) Q E) : J.PostS g H r { nx := fun _ H' => Q .non H', rt := Q } := by
  cases r with
  | nx ρ S => exact fun σ g' H' r st => p .non g' H' r.str st MRep.non
  | brk ρ S => exact p.elim
  | cnt ρ S => exact p.elim
  | ret v S => exact p
  | exn c ρ S =>
    intro σ g' H' r st
    rw [hW]
    exact p g' H' r.str st
  | stuck => exact p
theorem binds_of {fd : FuncData} {ps : List Str} (h : ∀ (s : Shared) (us : List Value), us.length = ps.length → BindsTo s fd ⟨us, []⟩ (ps.zip us)) : Binds K fd ps [] := fun s us _ hl => by
  rw [List.append_nil] at hl ⊢
  exact h s us hl
theorem fn_level (M : Mods K mg k G free cons) (D : ∀ f F, G.fn f = some F → F.isIni = false → DefOk K mg G free cons F) : ∀ (n f : Nat) (F : Fn), G.fn f = some F → F.isIni = false → ∀ (t : Txt) (addr : Addr) (fd : FuncData),
    FunD K F.name F.name t.params t.body t.scope [] [] addr fd → FnScope F.names (F.names.take F.np) t.scope → txtB G free cons F t = true → FnOk P w K mg base (L2.CX P w) n addr fd (F.names.take F.np) (spec k F (run G wf n f))
  | 0, f, F, hF, hi, t, addr, fd, h1, h4, h5 => by
    have no : ∀ vs H Q E, ¬ spec k F (run G wf 0 f) vs H Q E := fun vs H Q E ⟨g, S, as, _, _, _, _, p⟩ => by
      simp only [run] at p
      exact p
    exact ⟨fun vs H Q E h => absurd h (no vs H Q E), fun A outer s H args us vs Q E _ _ _ _ h => absurd h (no vs H Q E)⟩
  | n + 1, f, F, hF, hi, t, addr, fd, h1, h4, h5 => by
    unfold txtB at h5
    simp only [Bool.and_eq_true, decide_eq_true_eq] at h5
    obtain ⟨⟨⟨⟨b1, b2⟩, b3⟩, b4⟩, b5⟩ := h5
    have hk : t.scope.kind = .function := by
      split at b4
      · assumption
      · cases b4
    refine h1.ok h4 (fun us H Q E h => ?_) fun cdv A outer s H us Q E hr h => ?_
    · obtain ⟨g, S, vs, _, _, h6, h7, _⟩ := h
      rw [h6.len, h7, List.length_take]
      omega
    · obtain ⟨g, S, vs, sr, cl, h6, h7, p⟩ := h
      let J : Jr := { k := k, x := ⟨G, wf, run G wf n, runI G wf n⟩, md := { l := F.md }, W := fun cls d _ H => E cls d H, rm := retM F.ret }
      refine ⟨J.tSs F.body, ?_, ?_⟩
      · have hun := hr.un
        have good : GoodS (ckOf G free cons F t) (cxOf (L2.CX P w) P w K mg base F.names F.name t.scope addr cdv A outer s H E) J := {
          N := rfl
          nd := h4.nd
          sc := rfl
          fn := fun _ => rfl
          calm := fun _ => rfl
          un := by
            show (A.deeper _).units + 65 < cLine
            omega
          md := rfl
          hs := rfl
          G := rfl
          free := M.free
          cons := M.cons
          cls := M.cls
          kl := M.kl
          tk := takes_of rfl rfl rfl rfl
          fns := fun _ f' F' hF' hi' => by
            obtain ⟨t', addr', fd', q1, q2, q3, q4, q5⟩ := (D f' F' hF' hi').ex
            exact ⟨n, addr', fd', hr, q2, q1.kp, binds_of q3, fn_level M D n f' F' hF' hi' t' addr' fd' q1 q4 q5⟩
          hx := fun i a c z => nomatch z
          own := PassesOwn.leaving
          knd := hk
          stk := ⟨rfl, rfl⟩
          exc := fun c C hC hx => by
            obtain ⟨e1, e2, ⟨e3, e4⟩, e5⟩ := M.exc c C hC hx
            exact ⟨e1, e2, raises_own e3 e4, e5⟩ }
        exact (sndS 200).ss good b5
      · refine ⟨g, startE F.names.length vs, S, start_rel b1 b2 b3 sr h6 h7, ?_⟩
        refine post_body (J := J) rfl ?_
        have e : run G wf (n + 1) f vs S = ofBody (evSs ⟨G, wf, run G wf n, runI G wf n⟩ F.body (startE F.names.length vs) S) := by
          simp only [run, hF]
          rw [if_pos ⟨h7, hi⟩]
        rw [e] at p
        exact p
end

/-! ### the law -/
/-- the script is tracked as it lies -/
def kxOf (K : PySem.W.Frag) (G : Prog) (ca : Nat → Addr) (own : Nat → Nat → Bool) : Kx := { ca := ca, nm := G.nm, own := own, kl := fun a us => ∃ (o : Obj) (its : Array Value) (n : Nat), K.lookup a = some o ∧ o.cls = .type "list" ∧ o.dict = none ∧ o.data = .seq its n ∧ its.size ≤ sizeLine ∧ Vals us its.toList }
theorem law_spec {K : PySem.W.Frag} {G : Prog} {ca : Nat → Addr} {own : Nat → Nat → Bool} {F : Fn} {go : List Val → Store → R Val} {H : Hp} {a : Addr} {ns : List Int} {S' : Store} (hO : Only H) (hS : SqL K H a (ns.map V.int)) (hnp : F.np = 1) (hr : F.ret = .shr)
    (h : go [.scr ns] [] = .ok (.bl true) S') : spec (kxOf K G ca own) F go [.ref a] H (fun v _ => v = .bl true) fun _ _ _ => False := by
  let g : Gh := { T := fun b => match H b with | none => .no | some _ => .fz, ι := fun _ => none }
  have gno : ∀ b, g.T b ≠ .no → H b ≠ none := fun b hb e => hb (by show (match H b with | none => Tag.no | some _ => .fz) = .no; rw [e])
  have gt : ∀ b, g.T b = .no ∨ g.T b = .fz := fun b => by
    show (match H b with | none => Tag.no | some _ => .fz) = .no ∨ (match H b with | none => Tag.no | some _ => .fz) = .fz
    cases H b <;> simp
  refine ⟨g, [], [.scr ns], ⟨fun n o e => by simp at e, fun _ _ => rfl, fun n f a b e _ => ?_, gno, fun a xs e => ?_⟩, fun b => ?_, ⟨.ref a, [], rfl, ?_, rfl⟩, hnp.symm, ?_⟩
  · rcases gt a with z | z <;> rw [z] at e <;> cases e
  · exact gt a
  · rcases gt b with z | z <;> rw [z] <;> exact ⟨(fun z => nomatch z), fun i z => nomatch z⟩
  · have hv : VRep (kxOf K G ca own) (fzP g H) g.ι (.scr ns) (.ref a) := by
      simp only [VRep]
      refine ⟨a, rfl, ?_⟩
      rcases hS with (h1 | ⟨o, h1⟩) | h1
      · rcases hO a with z | ⟨o, xs, z⟩
        · rw [h1] at z; cases z
        · rw [h1] at z; cases z
      · left
        refine ⟨o, fzP_of ?_ h1⟩
        show (match H a with | none => Tag.no | some _ => .fz) = .fz
        rw [h1]
      · exact .inr h1
    exact MRep.of_V hv fun z => z
  · rw [h]
    intro u g' H' _ _ mr
    rw [hr] at mr
    exact mr.R.bl_of
theorem kxOf_kl {K : PySem.W.Frag} {G : Prog} {ca : Nat → Addr} {own : Nat → Nat → Bool} : ∀ a us (H : Hp), (kxOf K G ca own).kl a us → SqL K H a us := fun a us H h => .inr h
theorem no_cx {P : Program} {w : World} {H : Hp} {s : Shared} {e : Value} {s' : Shared} (h : L2.CX P w [] H s (fun _ _ _ => False) e s') : False := by
  obtain ⟨_, _, _, _, _, _, _, _, _, _, _, _, z⟩ := h
  exact z
/-- a law's call: what the small language's run says of every script -/
theorem walk_pv {l : PySem.W.OpenLaw} {q : Program} {loose : List Str} {XP : (Str → Option Value) → Heap → Prop} {YP : World → Heap → Prop} {d : DefRec} {G : Prog} {F : Fn} {x : Str} {free : List Str} {cons : List (Str × Cn)} {wf lv lawId : Nat} {own : Nat → Nat → Bool}
    (hn : l.most = some 63) (hdf : d.params.defaults = []) (hr : Room lv callerA) (hF : G.fn lawId = some F) (hi : F.isIni = false) (hnp : F.np = 1) (hret : F.ret = .shr) (hnm : F.name = d.name) (hx : F.names.take 1 = [x])
    (hY : ∀ (w : World) (mg : Str → Option Value) (h : Heap), YP w h → h.Ns mainGlobals mg → ∃ (K : PySem.W.Frag) (ca : Nat → Addr), K.In h ∧ Mods K mg (kxOf K G ca own) G free cons ∧ ∀ f F, G.fn f = some F → F.isIni = false → DefOk K mg G free cons F)
    (hrun : ∀ ns : List Int, ns.length ≤ 63 → (∀ z ∈ ns, Builtin.Int.intBits z ≤ 1048576) → ∃ S', run G wf lv lawId [.scr ns] [] = .ok (.bl true) S') :
    PySem.W.WalkO q loose XP YP l.row.toRowW d [] (fun f vs => PySem.call f vs) := by
  refine Att.attach_callB hn hdf fun w s₀ s₁ mg mb fa o pm cd doc a vs ns Gr Y ho hd hcd hmg hobj hints hlen hbits hg => ?_
  obtain ⟨K, ca, KX, M, D⟩ := hY w mg _ Y Gr.T.g
  obtain ⟨t, addr, fd, h1, h2, h3, h4, h5⟩ := (D lawId F hF hi).ex
  have ea : addr = fa := by
    rw [hnm, hmg] at h2
    cases h2
    rfl
  subst ea
  rw [hnp, hx] at h3
  refine law_call (P := l.prog) (w := w) (CX := L2.CX l.prog w) (sp := spec (kxOf K G ca own) F (run G wf lv lawId)) (mb := mb) (fd := fd) KX Gr.T.g Gr.T.b Gr.T.builtins Gr.T.nolimit hg hobj hints (Nat.le_trans hlen (by decide)) hr (fun base _ _ => ?_) (fun s u => h3 s [u] rfl) (fun H hO hS => ?_) fun H e s' => no_cx
  · have q := fn_level (P := l.prog) (w := w) (base := base) (wf := wf) M D lv lawId F hF hi t addr fd h1 h4 h5
    rw [hnp, hx] at q
    exact q
  · obtain ⟨S', hS'⟩ := hrun ns hlen hbits
    exact law_spec hO hS hnp hret hS'
end Pv
end

section
set_option Elab.async false
set_option linter.all false
set_option maxRecDepth 100000
set_option autoImplicit false
/-! Pv26: from the head's facts to the module's. -/
namespace Pv
open PySem PySem.Spec PyProof.Rows L2

/-! ### a hook: the defs, and a check of one's own -/
abbrev AlP : Type := He.AlD × Bool
def obsP (n : Nat) (fa : List He.Fa) (fn : List He.DefD) (ck : PySem.W.Frag → Bool) (g : Addr → Option Obj) : AlP := (He.obsDG n fa fn g, ck (He.frG g (He.asD g n)))
def hookP (n : Nat) (fa : List He.Fa) (fn : List He.DefD) (ck : PySem.W.Frag → Bool) : PySem.W.Hook where
  α := AlP
  obs := fun s => obsP n fa fn ck s.heap.get?
  val := fun _ => (He.valD fn, true)
  says := fun _ h => ∃ K : PySem.W.Frag, K.In h ∧ He.SaysD fa fn K ∧ ck K = true
  of := fun _ _ e => ⟨_, He.frG_in, congrArg Prod.fst e, congrArg Prod.snd e⟩
  keeps := fun _ _ _ ⟨K, hK, c⟩ k => ⟨K, PySem.W.Frag.In.keeps hK k, c⟩
theorem obsP_eq {n : Nat} {fa : List He.Fa} {fn : List He.DefD} {ck : PySem.W.Frag → Bool} {g : Addr → Option Obj} {s : Shared} (h : ∀ a, g a = s.heap.get? a) : obsP n fa fn ck g = (hookP n fa fn ck).obs s := by
  have e : g = s.heap.get? := funext h
  subst e
  rfl

/-! ### the checks -/
def excB (K : PySem.W.Frag) (cs : List (Nat × Cls)) (C : Cls) : Bool :=
  decide (PySem.W.findIn K (.ref (He.ga K C.name)) "__getattribute__" = some (some (.builtin "BaseException.__getattribute__"))) && decide (PySem.W.findIn K (.ref (He.ga K C.name)) "__getattr__" = some none) &&
  PySem.W.hasDictIn K (He.ga K C.name) && decide (PySem.W.findIn K (.ref (He.ga K C.name)) "__class__" = some (some (.builtin "object.__class__"))) &&
  decide (PySem.W.specialIn K (.builtin "object.__class__") "__get__" = some (some (.builtin "getset_descriptor.__get__"))) && decide (PySem.W.takesIn K (.builtin "object.__class__") = some true) && decide (PySem.W.mroIn K (He.ga K C.name) (.type "object") = some true) &&
  (He.Fa.exc C.name).ok K && decide (PySem.W.kitOne K (.ref (He.ga K C.name)) (.type "ValueError") = some true) &&
  cs.all fun p => decide (PySem.W.exmOne K (.ref (He.ga K C.name)) (.ref (He.ga K p.2.name)) = some (C.sup.contains p.1)) && decide (PySem.W.kitOne K (.ref (He.ga K C.name)) (.ref (He.ga K p.2.name)) = some (C.sup.contains p.1))
def conB (K : PySem.W.Frag) (p : Str × Cn) : Bool := match p.2 with
  | .int i => (He.Fa.int p.1 i).ok K
  | .str s => (He.Fa.str p.1 s).ok K
  | _ => false
def modB (cs : List (Nat × Cls)) (fs : List (Nat × Fn)) (free : List Str) (cons : List (Str × Cn)) (K : PySem.W.Frag) : Bool :=
  (cs.all fun p => (He.Fa.glo p.2.name).ok K && (!p.2.exc || excB K cs p.2)) && (free.all fun x => (He.Fa.free x).ok K) && (cons.all fun p => conB K p) && (fs.all fun p => (He.Fa.glo p.2.name).ok K)
def caOf (K : PySem.W.Frag) (cs : List (Nat × Cls)) (c : Nat) : Addr := match cs.lookup c with
  | some C => He.ga K C.name
  | none => 0
theorem look_mem {α : Type} : ∀ {l : List (Nat × α)} {i : Nat} {x : α}, l.lookup i = some x → (i, x) ∈ l
  | (j, y) :: r, i, x, h => by
    rw [List.lookup_cons] at h
    cases hb : i == j with
    | true =>
      rw [hb] at h
      cases h
      rw [beq_iff_eq.mp hb]
      exact List.mem_cons_self
    | false =>
      rw [hb] at h
      exact List.mem_cons_of_mem _ (look_mem h)
theorem mods_of {K : PySem.W.Frag} {h : Heap} {mg : Str → Option Value} {G : Prog} {own : Nat → Nat → Bool} {cs : List (Nat × Cls)} {fs : List (Nat × Fn)} {free : List Str} {cons : List (Str × Cn)} (KX : K.In h) (Gm : h.Ns mainGlobals mg) (hc : ∀ i, G.cls i = cs.lookup i) (b : modB cs fs free cons K = true) :
    Mods K mg (kxOf K G (caOf K cs) own) G free cons := by
  unfold modB at b
  simp only [Bool.and_eq_true] at b
  obtain ⟨⟨⟨b1, b2⟩, b3⟩, b4⟩ := b
  have ca : ∀ {d D}, G.cls d = some D → caOf K cs d = He.ga K D.name ∧ (d, D) ∈ cs := fun {d D} e => by
    rw [hc] at e
    exact ⟨by unfold caOf; rw [e], look_mem e⟩
  refine ⟨fun x hx => He.free_ok KX Gm (List.all_eq_true.mp b2 x hx), fun x c hx => ?_, fun d D e => ?_, kxOf_kl, fun c C e hx => ?_⟩
  · have q := List.all_eq_true.mp b3 (x, c) hx
    cases c with
    | int i =>
      obtain ⟨t, e⟩ := He.int_ok KX Gm (show (He.Fa.int x i).ok K = true from q)
      exact ⟨_, e, t, rfl⟩
    | str s =>
      obtain ⟨t, e⟩ := He.str_ok KX Gm (show (He.Fa.str x s).ok K = true from q)
      exact ⟨_, e, t, rfl⟩
    | non => cases q
    | bl _ => cases q
  · obtain ⟨e1, e2⟩ := ca e
    have q := List.all_eq_true.mp b1 (d, D) e2
    simp only [Bool.and_eq_true] at q
    show mg D.name = some (.ref (caOf K cs d))
    rw [e1]
    exact He.glo_ok KX Gm q.1
  · obtain ⟨e1, e2⟩ := ca e
    have q := List.all_eq_true.mp b1 (c, C) e2
    simp only [Bool.and_eq_true, hx, Bool.not_true, Bool.false_or] at q
    have q := q.2
    unfold excB at q
    simp only [Bool.and_eq_true, decide_eq_true_eq] at q
    obtain ⟨⟨⟨⟨⟨⟨⟨⟨⟨q1, q2⟩, q3⟩, q4⟩, q5⟩, q6⟩, q7⟩, q8⟩, q9⟩, q10⟩ := q
    obtain ⟨f1, f2, f3, f4⟩ := He.exc_ok q8
    show PySem.W.excIn K (caOf K cs c) He.veBase "ValueError.__new__" = true ∧ _
    simp only [kxOf]
    rw [e1]
    refine ⟨f1, f2, ⟨f3, f4⟩, ⟨q1, q2, f3, q3, q4, q5, q6, q7⟩, q9, fun d D hd => ?_⟩
    obtain ⟨e3, e4⟩ := ca hd
    have q := List.all_eq_true.mp q10 (d, D) e4
    simp only [Bool.and_eq_true, decide_eq_true_eq] at q
    rw [e3]
    exact q
def mkD (F : Fn) (t : Txt) : He.DefD := ⟨(F.name, none), F.name, F.name, t.params, t.body, t.scope, [], []⟩
def scopeB (F : Fn) (sc : Scope) : Bool := (match sc.kind with | .function => true | _ => false) && !sc.isCoroutine && !sc.isGenerator && decide F.names.Nodup && decide ((F.names.take (F.names.take F.np).length) = F.names.take F.np) &&
  (F.names.take F.np).all (fun x => match sc.names.lookup x with | some .local => true | some .cell => true | _ => false) && sc.names.all (fun y => match y.2 with | .free => false | _ => true)
theorem scope_ok {F : Fn} {sc : Scope} (h : scopeB F sc = true) : FnScope F.names (F.names.take F.np) sc := by
  unfold scopeB at h
  simp only [Bool.and_eq_true, decide_eq_true_eq, Bool.not_eq_true'] at h
  obtain ⟨⟨⟨⟨⟨⟨h1, h2⟩, h3⟩, h4⟩, h5⟩, h6⟩, h7⟩ := h
  refine ⟨?_, h2, h3, h4, h5, fun x hx => ?_, fun y hy e => ?_⟩
  · split at h1
    · assumption
    · cases h1
  · have q := List.all_eq_true.mp h6 x hx
    split at q
    · exact .inl (by assumption)
    · exact .inr (by assumption)
    · cases q
  · have q := List.all_eq_true.mp h7 y hy
    rw [e] at q
    cases q
def BindA (F : Fn) (t : Txt) : Prop := ∀ (kV doc pm : Value) (an : Option Addr) (cdv ct : Value) (us : List Value), us.length = (F.names.take F.np).length → bindArgs (PySem.W.fnOf F.name F.name t.params t.body t.scope .none kV doc pm an cdv ct) ⟨us, []⟩ = pure ((F.names.take F.np).zip us)
theorem def_ok {K : PySem.W.Frag} {h : Heap} {mg : Str → Option Value} {G : Prog} {fa : List He.Fa} {cs : List (Nat × Cls)} {fs : List (Nat × Fn)} {dl : List He.DefD} {free : List Str} {cons : List (Str × Cn)} {i : Nat} {F : Fn} {t : Txt} (KX : K.In h) (Gm : h.Ns mainGlobals mg) (c : He.SaysD fa dl K)
    (b : modB cs fs free cons K = true) (hm : (i, F) ∈ fs) (hd : mkD F t ∈ dl) (ha : BindA F t) (hs : scopeB F t.scope = true) (ht : txtB G free cons F t = true) : DefOk K mg G free cons F := by
  obtain ⟨j, hj⟩ := List.getElem?_of_mem hd
  obtain ⟨fd, FD⟩ := c.def_ j hj
  unfold modB at b
  simp only [Bool.and_eq_true] at b
  have q := List.all_eq_true.mp b.2 (i, F) hm
  exact ⟨t, He.ga K F.name, fd, FD, He.glo_ok KX Gm q, fun s us hl => L2.FunD.bindsA (ps := F.names.take F.np) FD ha s us hl, scope_ok hs, ht⟩
end Pv
end

section
set_option maxRecDepth 100000
namespace Pv
open PySem
def F_stretch : Fn := { name := ⟨#[115, 116, 114, 101, 116, 99, 104]⟩, np := 2, names := [⟨#[108, 111]⟩, ⟨#[104, 105]⟩], md := [.shr, .shr], ret := .shr, isIni := false, body := [(.ife (.bop true [(.cmp .isnt (.v 0) (.k .non)), (.cmp .isnt (.v 1) (.k .non)), (.cmp .gt (.v 0) (.v 1))]) [(.rais 2)] []), (.ret (.tup [(.v 0), (.v 1)]))] }
def F_holds : Fn := { name := ⟨#[104, 111, 108, 100, 115]⟩, np := 2, names := [⟨#[111, 110, 101]⟩, ⟨#[110, 117, 109, 98, 101, 114]⟩], md := [.brw, .brw], ret := .shr, isIni := false, body := [(.ife (.bop true [(.cmp .isnt (.ix (.v 0) (.k (.int 0))) (.k .non)), (.cmp .lt (.v 1) (.ix (.v 0) (.k (.int 0))))]) [(.ret (.k (.bl false)))] []), (.ret (.bop false [(.cmp .isn (.ix (.v 0) (.k (.int 1))) (.k .non)), (.cmp .le (.v 1) (.ix (.v 0) (.k (.int 1))))]))] }
def F_meet : Fn := { name := ⟨#[109, 101, 101, 116]⟩, np := 2, names := [⟨#[111, 110, 101]⟩, ⟨#[111, 116, 104, 101, 114]⟩, ⟨#[108, 111]⟩, ⟨#[104, 105]⟩], md := [.brw, .brw, .shr, .shr], ret := .shr, isIni := false, body := [(.set 2 (.ix (.v 0) (.k (.int 0)))), (.ife (.bop false [(.cmp .isn (.v 2) (.k .non)), (.bop true [(.cmp .isnt (.ix (.v 1) (.k (.int 0))) (.k .non)), (.cmp .gt (.ix (.v 1) (.k (.int 0))) (.v 2))])]) [(.set 2 (.ix (.v 1) (.k (.int 0))))] []), (.set 3 (.ix (.v 0) (.k (.int 1)))), (.ife (.bop false [(.cmp .isn (.v 3) (.k .non)), (.bop true [(.cmp .isnt (.ix (.v 1) (.k (.int 1))) (.k .non)), (.cmp .lt (.ix (.v 1) (.k (.int 1))) (.v 3))])]) [(.set 3 (.ix (.v 1) (.k (.int 1))))] []), (.ife (.bop true [(.cmp .isnt (.v 2) (.k .non)), (.cmp .isnt (.v 3) (.k .non)), (.cmp .gt (.v 2) (.v 3))]) [(.ret (.k .non))] []), (.ret (.tup [(.v 2), (.v 3)]))] }
def F_widened : Fn := { name := ⟨#[119, 105, 100, 101, 110, 101, 100]⟩, np := 2, names := [⟨#[111, 110, 101]⟩, ⟨#[98, 121]⟩, ⟨#[108, 111]⟩, ⟨#[104, 105]⟩], md := [.brw, .brw, .shr, .shr], ret := .shr, isIni := false, body := [(.set 2 (.ix (.v 0) (.k (.int 0)))), (.ife (.cmp .isnt (.v 2) (.k .non)) [(.set 2 (.op2 .sub (.v 2) (.v 1)))] []), (.set 3 (.ix (.v 0) (.k (.int 1)))), (.ife (.cmp .isnt (.v 3) (.k .non)) [(.set 3 (.op2 .add (.v 3) (.v 1)))] []), (.ret (.tup [(.v 2), (.v 3)]))] }
def F_l_cell : Fn := { name := ⟨#[95, 108, 97, 119, 95, 99, 101, 108, 108]⟩, np := 2, names := [⟨#[95, 108, 97, 119, 95, 115, 99, 114, 105, 112, 116]⟩, ⟨#[95, 108, 97, 119, 95, 107]⟩], md := [.brw, .shr], ret := .shr, isIni := false, body := [(.ife (.cmp .lt (.v 1) (.bi .len [(.v 0)])) [(.ret (.ix (.v 0) (.v 1)))] []), (.ret (.k (.int 0)))] }
def F_l_whole : Fn := { name := ⟨#[95, 108, 97, 119, 95, 119, 104, 111, 108, 101]⟩, np := 1, names := [⟨#[95, 108, 97, 119, 95, 102, 111, 117, 110, 100]⟩], md := [.brw], ret := .shr, isIni := false, body := [(.ret (.bop true [(.isi (.v 0) .int), (.nt (.isi (.v 0) .bool))]))] }
def F_l_end : Fn := { name := ⟨#[95, 108, 97, 119, 95, 101, 110, 100]⟩, np := 1, names := [⟨#[95, 108, 97, 119, 95, 99, 101, 108, 108, 95, 104, 101, 114, 101]⟩], md := [.brw], ret := .shr, isIni := false, body := [(.ife (.cmp .eq (.op2 .mod (.v 0) (.k (.int 5))) (.k (.int 0))) [(.ret (.k .non))] []), (.ife (.cmp .lt (.op2 .mod (.v 0) (.k (.int 5))) (.k (.int 3))) [(.ret (.op2 .sub (.op2 .mod (.op2 .fdiv (.v 0) (.k (.int 5))) (.k (.int 41))) (.k (.int 20))))] []), (.ret (.op2 .sub (.op2 .mod (.op2 .mul (.op2 .mod (.op2 .fdiv (.v 0) (.k (.int 5))) (.op2 .pow (.k (.int 10)) (.k (.int 30)))) (.op2 .pow (.k (.int 48271)) (.k (.int 11)))) (.op2 .add (.op2 .mul (.k (.int 2)) (.op2 .pow (.k (.int 10)) (.k (.int 50)))) (.k (.int 1)))) (.op2 .pow (.k (.int 10)) (.k (.int 50)))))] }
def F_l_size : Fn := { name := ⟨#[95, 108, 97, 119, 95, 115, 105, 122, 101]⟩, np := 1, names := [⟨#[95, 108, 97, 119, 95, 99, 101, 108, 108, 95, 104, 101, 114, 101]⟩], md := [.brw], ret := .shr, isIni := false, body := [(.ife (.cmp .eq (.op2 .mod (.v 0) (.k (.int 2))) (.k (.int 0))) [(.ret (.op2 .mod (.op2 .fdiv (.v 0) (.k (.int 2))) (.k (.int 21))))] []), (.ret (.op2 .mod (.op2 .mul (.op2 .mod (.op2 .fdiv (.v 0) (.k (.int 2))) (.op2 .pow (.k (.int 10)) (.k (.int 30)))) (.op2 .pow (.k (.int 48271)) (.k (.int 11)))) (.op2 .add (.op2 .pow (.k (.int 10)) (.k (.int 50))) (.k (.int 1)))))] }
def F_l_refused_2 : Fn := { name := ⟨#[95, 108, 97, 119, 95, 114, 101, 102, 117, 115, 101, 100]⟩, np := 2, names := [⟨#[95, 108, 97, 119, 95, 108, 111]⟩, ⟨#[95, 108, 97, 119, 95, 104, 105]⟩, ⟨#[95, 108, 97, 119, 95, 116, 111, 108, 100]⟩, ⟨#[101]⟩], md := [.shr, .shr, .shr, .shr], ret := .shr, isIni := false, body := [(.set 2 (.k (.bl false))), (.tr [(.ex (.call 20 [(.v 0), (.v 1)]))] [(0, some 3, [(.set 2 (.bop true [(.isi (.v 3) (.cls 2)), (.nt (.isi (.v 3) (.cls 5)))]))])]), (.ret (.v 2))] }
def F_l_alike : Fn := { name := ⟨#[95, 108, 97, 119, 95, 97, 108, 105, 107, 101]⟩, np := 2, names := [⟨#[95, 108, 97, 119, 95, 102, 111, 117, 110, 100]⟩, ⟨#[95, 108, 97, 119, 95, 100, 117, 101]⟩, ⟨#[95, 108, 97, 119, 95, 107]⟩], md := [.brw, .brw, .shr], ret := .shr, isIni := false, body := [(.ife (.cmp .isn (.v 1) (.k .non)) [(.ret (.cmp .isn (.v 0) (.k .non)))] []), (.ife (.bop false [(.nt (.isi (.v 0) .tuple)), (.cmp .ne (.bi .len [(.v 0)]) (.k (.int 2)))]) [(.ret (.k (.bl false)))] []), (.for' (.one 2) (.rng [(.k (.int 2))]) [(.ife (.cmp .isn (.ix (.v 1) (.v 2)) (.k .non)) [(.ife (.cmp .isnt (.ix (.v 0) (.v 2)) (.k .non)) [(.ret (.k (.bl false)))] [])] [(.ife (.bop false [(.nt (.call 3 [(.ix (.v 0) (.v 2))])), (.cmp .ne (.ix (.v 0) (.v 2)) (.ix (.v 1) (.v 2)))]) [(.ret (.k (.bl false)))] [])])]), (.ret (.k (.bl true)))] }
def F_l_within : Fn := { name := ⟨#[95, 108, 97, 119, 95, 119, 105, 116, 104, 105, 110]⟩, np := 2, names := [⟨#[95, 108, 97, 119, 95, 111, 110, 101]⟩, ⟨#[95, 108, 97, 119, 95, 110, 117, 109, 98, 101, 114]⟩], md := [.brw, .brw], ret := .shr, isIni := false, body := [(.ife (.bop true [(.cmp .isnt (.ix (.v 0) (.k (.int 0))) (.k .non)), (.cmp .lt (.v 1) (.ix (.v 0) (.k (.int 0))))]) [(.ret (.k (.bl false)))] []), (.ret (.bop false [(.cmp .isn (.ix (.v 0) (.k (.int 1))) (.k .non)), (.cmp .ge (.ix (.v 0) (.k (.int 1))) (.v 1))]))] }
def F_l_common : Fn := { name := ⟨#[95, 108, 97, 119, 95, 99, 111, 109, 109, 111, 110]⟩, np := 2, names := [⟨#[95, 108, 97, 119, 95, 111, 110, 101]⟩, ⟨#[95, 108, 97, 119, 95, 111, 116, 104, 101, 114]⟩, ⟨#[95, 108, 97, 119, 95, 108, 111, 115]⟩, ⟨#[95, 108, 97, 119, 95, 104, 105, 115]⟩, ⟨#[95, 108, 97, 119, 95, 101, 110, 100, 95, 104, 101, 114, 101]⟩], md := [.brw, .brw, .shr, .shr, .shr], ret := .shr, isIni := false, body := [(.set 2 (.comp (.v 4) (.one 4) (.tup [(.ix (.v 0) (.k (.int 0))), (.ix (.v 1) (.k (.int 0)))]) (some (.cmp .isnt (.v 4) (.k .non))))), (.set 3 (.comp (.v 4) (.one 4) (.tup [(.ix (.v 0) (.k (.int 1))), (.ix (.v 1) (.k (.int 1)))]) (some (.cmp .isnt (.v 4) (.k .non))))), (.ife (.bop true [(.cmp .gt (.bi .len [(.v 2)]) (.k (.int 0))), (.cmp .gt (.bi .len [(.v 3)]) (.k (.int 0))), (.cmp .gt (.bi .max1 [(.v 2)]) (.bi .min1 [(.v 3)]))]) [(.ret (.k .non))] []), (.ret (.tup [(.bi .maxD [(.v 2)]), (.bi .minD [(.v 3)])]))] }
def F_l_put_out : Fn := { name := ⟨#[95, 108, 97, 119, 95, 112, 117, 116, 95, 111, 117, 116]⟩, np := 2, names := [⟨#[95, 108, 97, 119, 95, 111, 110, 101]⟩, ⟨#[95, 108, 97, 119, 95, 98, 121]⟩, ⟨#[95, 108, 97, 119, 95, 108, 111]⟩, ⟨#[95, 108, 97, 119, 95, 104, 105]⟩], md := [.brw, .brw, .shr, .shr], ret := .shr, isIni := false, body := [(.set 2 (.ix (.v 0) (.k (.int 0)))), (.set 3 (.ix (.v 0) (.k (.int 1)))), (.ife (.cmp .isnt (.v 2) (.k .non)) [(.set 2 (.op2 .sub (.v 2) (.v 1)))] []), (.ife (.cmp .isnt (.v 3) (.k .non)) [(.set 3 (.op2 .add (.v 3) (.v 1)))] []), (.ret (.tup [(.v 2), (.v 3)]))] }
def F_l_asked : Fn := { name := ⟨#[95, 108, 97, 119, 95, 97, 115, 107, 101, 100]⟩, np := 3, names := [⟨#[95, 108, 97, 119, 95, 111, 110, 101]⟩, ⟨#[95, 108, 97, 119, 95, 111, 116, 104, 101, 114]⟩, ⟨#[95, 108, 97, 119, 95, 98, 121]⟩, ⟨#[95, 108, 97, 119, 95, 100, 117, 101]⟩, ⟨#[95, 108, 97, 119, 95, 110, 117, 109, 98, 101, 114, 115]⟩, ⟨#[95, 108, 97, 119, 95, 101, 110, 100, 95, 104, 101, 114, 101]⟩, ⟨#[95, 108, 97, 119, 95, 110, 117, 109, 98, 101, 114]⟩, ⟨#[95, 108, 97, 119, 95, 102, 111, 117, 110, 100]⟩], md := [.brw, .brw, .shr, .shr, .own, .shr, .shr, .shr], ret := .shr, isIni := false, body := [(.set 3 (.call 29 [(.v 0), (.v 1)])), (.ife (.bop false [(.nt (.call 27 [(.call 22 [(.v 0), (.v 1)]), (.v 3)])), (.nt (.call 27 [(.call 22 [(.v 1), (.v 0)]), (.v 3)]))]) [(.ret (.k (.bl false)))] []), (.set 4 (.lst [(.k (.int 0)), (.v 2)])), (.for' (.one 5) (.tup [(.ix (.v 0) (.k (.int 0))), (.ix (.v 0) (.k (.int 1))), (.ix (.v 1) (.k (.int 0))), (.ix (.v 1) (.k (.int 1)))]) [(.ife (.cmp .isnt (.v 5) (.k .non)) [(.mu (.slot 4) (.ext (.lst [(.op2 .sub (.v 5) (.k (.int 1))), (.v 5), (.op2 .add (.v 5) (.k (.int 1)))])))] [])]), (.mvs [4] (.for' (.one 6) (.v 4) [(.set 7 (.call 21 [(.v 0), (.v 6)])), (.ife (.bop false [(.nt (.isi (.v 7) .bool)), (.cmp .ne (.v 7) (.call 28 [(.v 0), (.v 6)]))]) [(.ret (.k (.bl false)))] [])])), (.ret (.call 27 [(.call 23 [(.v 0), (.v 2)]), (.call 30 [(.v 0), (.v 2)])]))] }
def F_law_4 : Fn := { name := ⟨#[108, 97, 119]⟩, np := 1, names := [⟨#[95, 108, 97, 119, 95, 115, 99, 114, 105, 112, 116]⟩, ⟨#[95, 108, 97, 119, 95, 111, 116, 104, 101, 114]⟩, ⟨#[95, 108, 97, 119, 95, 107]⟩, ⟨#[95, 108, 97, 119, 95, 108, 111]⟩, ⟨#[95, 108, 97, 119, 95, 104, 105]⟩, ⟨#[95, 108, 97, 119, 95, 111, 110, 101]⟩], md := [.brw, .shr, .shr, .shr, .shr, .shr], ret := .shr, isIni := false, body := [(.set 1 (.tup [(.k .non), (.k (.int 0))])), (.for' (.one 2) (.rng [(.op2 .add (.k (.int 1)) (.op2 .fdiv (.bi .min2 [(.bi .len [(.v 0)]), (.k (.int 60))]) (.k (.int 3))))]) [(.set 3 (.call 24 [(.call 2 [(.v 0), (.op2 .mul (.k (.int 3)) (.v 2))])])), (.set 4 (.call 24 [(.call 2 [(.v 0), (.op2 .add (.op2 .mul (.k (.int 3)) (.v 2)) (.k (.int 1)))])])), (.ife (.bop true [(.cmp .isnt (.v 3) (.k .non)), (.cmp .isnt (.v 4) (.k .non)), (.cmp .gt (.v 3) (.v 4))]) [(.ife (.nt (.call 26 [(.v 3), (.v 4)])) [(.ret (.k (.bl false)))] []), (.set 5 (.tup [(.v 4), (.v 3)]))] [(.set 5 (.tup [(.v 3), (.v 4)]))]), (.ife (.nt (.call 27 [(.call 20 [(.ix (.v 5) (.k (.int 0))), (.ix (.v 5) (.k (.int 1)))]), (.v 5)])) [(.ret (.k (.bl false)))] []), (.ife (.nt (.call 31 [(.v 5), (.v 1), (.call 25 [(.call 2 [(.v 0), (.op2 .add (.op2 .mul (.k (.int 3)) (.v 2)) (.k (.int 2)))])])])) [(.ret (.k (.bl false)))] []), (.set 1 (.v 5))]), (.ret (.k (.bl true)))] }
def C_GazeError : Cls := { name := ⟨#[71, 97, 122, 101, 69, 114, 114, 111, 114]⟩, exc := true, val := false, sup := [0], own := [], mths := [], ini := none }
def C_NoStretch : Cls := { name := ⟨#[78, 111, 83, 116, 114, 101, 116, 99, 104]⟩, exc := true, val := false, sup := [2, 0], own := [], mths := [], ini := none }
def C_NoTelling : Cls := { name := ⟨#[78, 111, 84, 101, 108, 108, 105, 110, 103]⟩, exc := true, val := false, sup := [5, 0], own := [], mths := [], ini := none }
def fnA : List (Nat × Fn) := [(20, F_stretch), (21, F_holds), (22, F_meet), (23, F_widened), (2, F_l_cell), (3, F_l_whole), (24, F_l_end), (25, F_l_size), (26, F_l_refused_2), (27, F_l_alike), (28, F_l_within), (29, F_l_common), (30, F_l_put_out), (31, F_l_asked), (32, F_law_4)]
def clA : List (Nat × Cls) := [(0, C_GazeError), (2, C_NoStretch), (5, C_NoTelling)]
def nmT : List PySem.Str := [⟨#[107, 110, 111, 116, 115]⟩, ⟨#[102, 111, 114, 116, 104]⟩, ⟨#[98, 97, 99, 107]⟩, ⟨#[100, 114, 105, 102, 116]⟩, ⟨#[115, 105, 110, 99, 101]⟩, ⟨#[98, 97, 114, 101]⟩, ⟨#[115, 108, 97, 99, 107]⟩, ⟨#[109, 97, 110, 121]⟩, ⟨#[108, 111, 119]⟩, ⟨#[104, 105, 103, 104]⟩, ⟨#[115, 116, 114, 101, 116, 99, 104, 101, 115]⟩, ⟨#[103, 97, 117, 103, 101]⟩, ⟨#[101, 114, 114, 111, 114]⟩, ⟨#[118, 97, 108, 117, 101, 95, 111, 102]⟩, ⟨#[101, 121, 101, 115]⟩, ⟨#[116, 117, 114, 110, 115]⟩, ⟨#[117, 112]⟩, ⟨#[100, 111, 119, 110]⟩, ⟨#[109, 111, 115, 116]⟩, ⟨#[116, 111, 108, 100]⟩, ⟨#[104, 97, 115]⟩, ⟨#[116, 101, 108, 108]⟩, ⟨#[99, 111, 112, 105, 101, 100]⟩, ⟨#[104, 117, 115, 104]⟩, ⟨#[119, 111, 114, 100]⟩, ⟨#[107, 101, 101, 112, 105, 110, 103]⟩, ⟨#[97, 108, 108, 111, 119, 105, 110, 103]⟩, ⟨#[116, 101, 108, 108, 105, 110, 103, 115]⟩, ⟨#[116, 119, 105, 110]⟩, ⟨#[102, 105, 114, 115, 116]⟩, ⟨#[108, 97, 115, 116]⟩, ⟨#[115, 116, 114, 101, 116, 99, 104]⟩, ⟨#[115, 112, 111, 107, 101, 110]⟩, ⟨#[115, 105, 108, 108]⟩, ⟨#[116, 117, 114, 110]⟩, ⟨#[102, 97, 114]⟩, ⟨#[104, 101, 108, 100]⟩, ⟨#[119, 97, 121, 115]⟩, ⟨#[98, 114, 101, 97, 107, 115]⟩, ⟨#[115, 105, 122, 101, 115]⟩, ⟨#[111, 110, 101]⟩, ⟨#[111, 116, 104, 101, 114]⟩, ⟨#[114, 111, 119]⟩, ⟨#[116, 101, 120, 116]⟩, ⟨#[98, 111, 97, 114, 100]⟩, ⟨#[114, 117, 108, 101, 115]⟩, ⟨#[114, 117, 108, 101, 100]⟩, ⟨#[100, 111, 110, 101]⟩, ⟨#[97, 110, 115, 119, 101, 114]⟩, ⟨#[115, 97, 121]⟩]
def G : Prog := { fn := fun i => fnA.lookup i, cls := fun i => clA.lookup i, nm := fun i => nmT.getD i ⟨#[]⟩ }
def lawId : Nat := 32
end Pv
end

section
set_option Elab.async false
set_option linter.all false
set_option maxRecDepth 100000
set_option maxHeartbeats 0
namespace Pv
open PySem PySem.Spec PyProof.Rows L2
def top (i : Nat) : Stmt := PySem.Challenge.pw_gaze_k04_stretches_hold.main.body.getD i (.Pass ⟨0, 0, 0, 0⟩)
def t_stretch : Txt := ⟨defArgs (top 5), defBody (top 5), defScope (top 5)⟩
def t_holds : Txt := ⟨defArgs (top 6), defBody (top 6), defScope (top 6)⟩
def t_meet : Txt := ⟨defArgs (top 7), defBody (top 7), defScope (top 7)⟩
def t_widened : Txt := ⟨defArgs (top 8), defBody (top 8), defScope (top 8)⟩
def t_l_cell : Txt := ⟨defArgs (top 10), defBody (top 10), defScope (top 10)⟩
def t_l_whole : Txt := ⟨defArgs (top 11), defBody (top 11), defScope (top 11)⟩
def t_l_end : Txt := ⟨defArgs (top 12), defBody (top 12), defScope (top 12)⟩
def t_l_size : Txt := ⟨defArgs (top 13), defBody (top 13), defScope (top 13)⟩
def t_l_refused_2 : Txt := ⟨defArgs (top 14), defBody (top 14), defScope (top 14)⟩
def t_l_alike : Txt := ⟨defArgs (top 15), defBody (top 15), defScope (top 15)⟩
def t_l_within : Txt := ⟨defArgs (top 16), defBody (top 16), defScope (top 16)⟩
def t_l_common : Txt := ⟨defArgs (top 17), defBody (top 17), defScope (top 17)⟩
def t_l_put_out : Txt := ⟨defArgs (top 18), defBody (top 18), defScope (top 18)⟩
def t_l_asked : Txt := ⟨defArgs (top 19), defBody (top 19), defScope (top 19)⟩
def t_law_4 : Txt := ⟨defArgs (top 20), defBody (top 20), defScope (top 20)⟩
def freeN : List PySem.Str := [⟨#[108, 101, 110]⟩, ⟨#[109, 105, 110]⟩, ⟨#[109, 97, 120]⟩, ⟨#[105, 110, 116]⟩, ⟨#[105, 115, 105, 110, 115, 116, 97, 110, 99, 101]⟩, ⟨#[98, 111, 111, 108]⟩, ⟨#[116, 117, 112, 108, 101]⟩, ⟨#[114, 97, 110, 103, 101]⟩, ⟨#[86, 97, 108, 117, 101, 69, 114, 114, 111, 114]⟩]
def consN : List (PySem.Str × Cn) := []
def dl : List He.DefD := [mkD F_stretch t_stretch, mkD F_holds t_holds, mkD F_meet t_meet, mkD F_widened t_widened, mkD F_l_cell t_l_cell, mkD F_l_whole t_l_whole, mkD F_l_end t_l_end, mkD F_l_size t_l_size, mkD F_l_refused_2 t_l_refused_2, mkD F_l_alike t_l_alike, mkD F_l_within t_l_within, mkD F_l_common t_l_common, mkD F_l_put_out t_l_put_out, mkD F_l_asked t_l_asked, mkD F_law_4 t_law_4]
theorem tx_stretch : txtB G freeN consN F_stretch t_stretch = true := by decide +kernel
theorem sc_stretch : scopeB F_stretch t_stretch.scope = true := by decide +kernel
theorem bi_stretch : BindA F_stretch t_stretch := fun _ _ _ _ _ _ us hl => match us, hl with
  | [_, _], _ => rfl
theorem tx_holds : txtB G freeN consN F_holds t_holds = true := by decide +kernel
theorem sc_holds : scopeB F_holds t_holds.scope = true := by decide +kernel
theorem bi_holds : BindA F_holds t_holds := fun _ _ _ _ _ _ us hl => match us, hl with
  | [_, _], _ => rfl
theorem tx_meet : txtB G freeN consN F_meet t_meet = true := by decide +kernel
theorem sc_meet : scopeB F_meet t_meet.scope = true := by decide +kernel
theorem bi_meet : BindA F_meet t_meet := fun _ _ _ _ _ _ us hl => match us, hl with
  | [_, _], _ => rfl
theorem tx_widened : txtB G freeN consN F_widened t_widened = true := by decide +kernel
theorem sc_widened : scopeB F_widened t_widened.scope = true := by decide +kernel
theorem bi_widened : BindA F_widened t_widened := fun _ _ _ _ _ _ us hl => match us, hl with
  | [_, _], _ => rfl
theorem tx_l_cell : txtB G freeN consN F_l_cell t_l_cell = true := by decide +kernel
theorem sc_l_cell : scopeB F_l_cell t_l_cell.scope = true := by decide +kernel
theorem bi_l_cell : BindA F_l_cell t_l_cell := fun _ _ _ _ _ _ us hl => match us, hl with
  | [_, _], _ => rfl
theorem tx_l_whole : txtB G freeN consN F_l_whole t_l_whole = true := by decide +kernel
theorem sc_l_whole : scopeB F_l_whole t_l_whole.scope = true := by decide +kernel
theorem bi_l_whole : BindA F_l_whole t_l_whole := fun _ _ _ _ _ _ us hl => match us, hl with
  | [_], _ => rfl
theorem tx_l_end : txtB G freeN consN F_l_end t_l_end = true := by decide +kernel
theorem sc_l_end : scopeB F_l_end t_l_end.scope = true := by decide +kernel
theorem bi_l_end : BindA F_l_end t_l_end := fun _ _ _ _ _ _ us hl => match us, hl with
  | [_], _ => rfl
theorem tx_l_size : txtB G freeN consN F_l_size t_l_size = true := by decide +kernel
theorem sc_l_size : scopeB F_l_size t_l_size.scope = true := by decide +kernel
theorem bi_l_size : BindA F_l_size t_l_size := fun _ _ _ _ _ _ us hl => match us, hl with
  | [_], _ => rfl
theorem tx_l_refused_2 : txtB G freeN consN F_l_refused_2 t_l_refused_2 = true := by decide +kernel
theorem sc_l_refused_2 : scopeB F_l_refused_2 t_l_refused_2.scope = true := by decide +kernel
theorem bi_l_refused_2 : BindA F_l_refused_2 t_l_refused_2 := fun _ _ _ _ _ _ us hl => match us, hl with
  | [_, _], _ => rfl
theorem tx_l_alike : txtB G freeN consN F_l_alike t_l_alike = true := by decide +kernel
theorem sc_l_alike : scopeB F_l_alike t_l_alike.scope = true := by decide +kernel
theorem bi_l_alike : BindA F_l_alike t_l_alike := fun _ _ _ _ _ _ us hl => match us, hl with
  | [_, _], _ => rfl
theorem tx_l_within : txtB G freeN consN F_l_within t_l_within = true := by decide +kernel
theorem sc_l_within : scopeB F_l_within t_l_within.scope = true := by decide +kernel
theorem bi_l_within : BindA F_l_within t_l_within := fun _ _ _ _ _ _ us hl => match us, hl with
  | [_, _], _ => rfl
theorem tx_l_common : txtB G freeN consN F_l_common t_l_common = true := by decide +kernel
theorem sc_l_common : scopeB F_l_common t_l_common.scope = true := by decide +kernel
theorem bi_l_common : BindA F_l_common t_l_common := fun _ _ _ _ _ _ us hl => match us, hl with
  | [_, _], _ => rfl
theorem tx_l_put_out : txtB G freeN consN F_l_put_out t_l_put_out = true := by decide +kernel
theorem sc_l_put_out : scopeB F_l_put_out t_l_put_out.scope = true := by decide +kernel
theorem bi_l_put_out : BindA F_l_put_out t_l_put_out := fun _ _ _ _ _ _ us hl => match us, hl with
  | [_, _], _ => rfl
theorem tx_l_asked : txtB G freeN consN F_l_asked t_l_asked = true := by decide +kernel
theorem sc_l_asked : scopeB F_l_asked t_l_asked.scope = true := by decide +kernel
theorem bi_l_asked : BindA F_l_asked t_l_asked := fun _ _ _ _ _ _ us hl => match us, hl with
  | [_, _, _], _ => rfl
theorem tx_law_4 : txtB G freeN consN F_law_4 t_law_4 = true := by decide +kernel
theorem sc_law_4 : scopeB F_law_4 t_law_4.scope = true := by decide +kernel
theorem bi_law_4 : BindA F_law_4 t_law_4 := fun _ _ _ _ _ _ us hl => match us, hl with
  | [_], _ => rfl
def hasD (K : PySem.W.Frag) (mg : PySem.Str → Option Value) (p : Nat × Fn) : Prop := DefOk K mg G freeN consN p.2
theorem defs_ok {K : PySem.W.Frag} {h : Heap} {mg : PySem.Str → Option Value} (KX : K.In h) (Gm : h.Ns mainGlobals mg) (c : He.SaysD [] dl K) (b : modB clA fnA freeN consN K = true) : ∀ p ∈ fnA, hasD K mg p := by
  intro p hp
  unfold fnA at hp
  rcases List.mem_cons.mp hp with rfl | hp
  · exact def_ok (i := 20) KX Gm c b (by unfold fnA; simp) (by unfold dl; simp) bi_stretch sc_stretch tx_stretch
  rcases List.mem_cons.mp hp with rfl | hp
  · exact def_ok (i := 21) KX Gm c b (by unfold fnA; simp) (by unfold dl; simp) bi_holds sc_holds tx_holds
  rcases List.mem_cons.mp hp with rfl | hp
  · exact def_ok (i := 22) KX Gm c b (by unfold fnA; simp) (by unfold dl; simp) bi_meet sc_meet tx_meet
  rcases List.mem_cons.mp hp with rfl | hp
  · exact def_ok (i := 23) KX Gm c b (by unfold fnA; simp) (by unfold dl; simp) bi_widened sc_widened tx_widened
  rcases List.mem_cons.mp hp with rfl | hp
  · exact def_ok (i := 2) KX Gm c b (by unfold fnA; simp) (by unfold dl; simp) bi_l_cell sc_l_cell tx_l_cell
  rcases List.mem_cons.mp hp with rfl | hp
  · exact def_ok (i := 3) KX Gm c b (by unfold fnA; simp) (by unfold dl; simp) bi_l_whole sc_l_whole tx_l_whole
  rcases List.mem_cons.mp hp with rfl | hp
  · exact def_ok (i := 24) KX Gm c b (by unfold fnA; simp) (by unfold dl; simp) bi_l_end sc_l_end tx_l_end
  rcases List.mem_cons.mp hp with rfl | hp
  · exact def_ok (i := 25) KX Gm c b (by unfold fnA; simp) (by unfold dl; simp) bi_l_size sc_l_size tx_l_size
  rcases List.mem_cons.mp hp with rfl | hp
  · exact def_ok (i := 26) KX Gm c b (by unfold fnA; simp) (by unfold dl; simp) bi_l_refused_2 sc_l_refused_2 tx_l_refused_2
  rcases List.mem_cons.mp hp with rfl | hp
  · exact def_ok (i := 27) KX Gm c b (by unfold fnA; simp) (by unfold dl; simp) bi_l_alike sc_l_alike tx_l_alike
  rcases List.mem_cons.mp hp with rfl | hp
  · exact def_ok (i := 28) KX Gm c b (by unfold fnA; simp) (by unfold dl; simp) bi_l_within sc_l_within tx_l_within
  rcases List.mem_cons.mp hp with rfl | hp
  · exact def_ok (i := 29) KX Gm c b (by unfold fnA; simp) (by unfold dl; simp) bi_l_common sc_l_common tx_l_common
  rcases List.mem_cons.mp hp with rfl | hp
  · exact def_ok (i := 30) KX Gm c b (by unfold fnA; simp) (by unfold dl; simp) bi_l_put_out sc_l_put_out tx_l_put_out
  rcases List.mem_cons.mp hp with rfl | hp
  · exact def_ok (i := 31) KX Gm c b (by unfold fnA; simp) (by unfold dl; simp) bi_l_asked sc_l_asked tx_l_asked
  rcases List.mem_cons.mp hp with rfl | hp
  · exact def_ok (i := 32) KX Gm c b (by unfold fnA; simp) (by unfold dl; simp) bi_law_4 sc_law_4 tx_law_4
  cases hp
abbrev Rw : PySem.W.OpenRow := PySem.W.OpenLaw.row PySem.Challenge.rw_gaze_k04_stretches_hold
abbrev hkP : PySem.W.Hook := hookP 4 [] dl (modB clA fnA freeN consN)
def obP (s : PySem.W.SharedT) : AlP := obsP 4 [] dl (modB clA fnA freeN consN) (HandSHeadRun.getT s)
theorem obP_eq (s : PySem.W.SharedT) : obP s = hkP.obs s.abs := obsP_eq (HandSHeadRun.getT_eq s)
def loose0 : List PySem.Str := ["GazeError", "NoStretch", "NoTelling", "stretch", "holds", "meet", "widened", "_law_cell", "_law_whole", "_law_end", "_law_size", "_law_refused", "_law_alike", "_law_within", "_law_common", "_law_put_out", "_law_asked"]
def looseN : List PySem.Str := loose0
theorem run_top (w : World) : HandSHeadRun.RunEq Rw (PySem.W.view Rw.prog [20]) hkP obP 2860 looseN w := by
  intro os
  kernel_rfl
end Pv
end

section
set_option Elab.async false
set_option linter.all false
set_option maxRecDepth 100000
set_option autoImplicit false
/-! Pe: how the evaluator's runs are read. -/
namespace Pv
open PySem

theorem run_unf {G : Prog} {wf n f : Nat} {F : Fn} {vs : List Val} {S : Store} (h : G.fn f = some F) (hl : vs.length = F.np) (hi : F.isIni = false) :
    run G wf (n + 1) f vs S = ofBody (evSs ⟨G, wf, run G wf n, runI G wf n⟩ F.body (startE F.names.length vs) S) := by
  simp only [run, h]
  rw [if_pos ⟨hl, hi⟩]
theorem eqV_int {i j : Int} : eqV (.int i) (.int j) = some (decide (i = j)) := by
  simp [eqV, dataOk, eqv]
theorem eqV_str {i j : Str} : eqV (.str i) (.str j) = some (decide (i = j)) := rfl
theorem eqV_non {v : Val} (h : dataOk 60 v = true) : eqV v .non = some (isNonB v) := by
  cases v <;> simp_all [eqV, dataOk, eqv, isNonB]
theorem log2_3 : Nat.log2 3 < 9000 := by decide
theorem szb1 : szb 1 = true := rfl
theorem szb2 : szb 2 = true := rfl
theorem szb3 : szb 3 = true := rfl
/-! ### values, one by one -/
section
variable {S : Store} {i j : Int} {s t : Str} {v w : Val} {xs ys : List Val} {b c : Bool} {G : Prog}
theorem op_add : op2 .add (.int i) (.int j) = some (.int (i + j)) := rfl
theorem op_sub : op2 .sub (.int i) (.int j) = some (.int (i - j)) := rfl
theorem op_mul (h : mulOk i j = true) : op2 .mul (.int i) (.int j) = some (.int (i * j)) := by
  simp only [op2, h, if_true]
def fdivOk (j : Int) : Bool := decide (j.natAbs.log2 < 9000)
theorem op_fdiv (h0 : 0 < j) (h : fdivOk j = true) : op2 .fdiv (.int i) (.int j) = some (.int (i / j)) := by
  have h1 : j ≠ 0 := by omega
  have h2 : j.natAbs.log2 < 9000 := of_decide_eq_true h
  simp only [op2, h1, h2, h0, if_true, if_false]
theorem op_fdivN (h0 : j < 0) (h : fdivOk j = true) : op2 .fdiv (.int i) (.int j) = some (.int (i.fdiv j)) := by
  have h1 : j ≠ 0 := by omega
  have h2 : j.natAbs.log2 < 9000 := of_decide_eq_true h
  have h3 : ¬ 0 < j := by omega
  simp only [op2, h1, h2, h3, if_true, if_false]
theorem op_mod (h0 : 0 < j) : op2 .mod (.int i) (.int j) = some (.int (i % j)) := by
  simp only [op2, h0, if_true]
theorem op_pow (h : 0 ≤ j ∧ j ≤ 1000000 ∧ i.natAbs < 2 ^ 64) : op2 .pow (.int i) (.int j) = some (.int (i ^ j.toNat)) := by
  simp only [op2]
  rw [if_pos h]
theorem op_addS (h : szb (s.length + t.length) = true) : op2 .add (.str s) (.str t) = some (.str (s ++ t)) := by
  simp only [op2, h, if_true]
theorem op_addL (h : szb (xs.length + ys.length) = true) : op2 .add (.lst xs) (.lst ys) = some (.lst (xs ++ ys)) := by
  simp only [op2, h, if_true]
theorem de_non : deref S .non = .non := rfl
theorem de_bl : deref S (.bl b) = .bl b := rfl
theorem de_int : deref S (.int i) = .int i := rfl
theorem de_str : deref S (.str s) = .str s := rfl
theorem de_tup : deref S (.tup xs) = .tup xs := rfl
theorem de_lst : deref S (.lst xs) = .lst xs := rfl
theorem de_exc {k : Nat} : deref S (.exc k) = .exc k := rfl
theorem de_scr {ns : List Int} : deref S (.scr ns) = .scr ns := rfl
theorem de_obj {k : Nat} {fs : List (Nat × Val)} : deref S (.obj k fs) = .obj k fs := rfl
theorem cp_lt : cpV .lt (.int i) (.int j) = some (decide (i < j)) := rfl
theorem cp_le : cpV .le (.int i) (.int j) = some (decide (i ≤ j)) := rfl
theorem cp_gt : cpV .gt (.int i) (.int j) = some (decide (j < i)) := rfl
theorem cp_ge : cpV .ge (.int i) (.int j) = some (decide (j ≤ i)) := rfl
theorem cp_eq : cpV .eq v w = eqV v w := by cases v <;> cases w <;> rfl
theorem cp_ne : cpV .ne v w = nop (eqV v w) := by cases v <;> cases w <;> rfl
theorem cp_isn : cpV .isn v w = isV v w := by cases v <;> cases w <;> rfl
theorem cp_isnt : cpV .isnt v w = nop (isV v w) := by cases v <;> cases w <;> rfl
theorem cp_in : cpV .inn v w = inV v w := by cases v <;> cases w <;> rfl
theorem cp_nin : cpV .notin v w = nop (inV v w) := by cases v <;> cases w <;> rfl
theorem no_some : nop (some b) = some (!b) := rfl
theorem is_non : isV v .non = some (isNonB v) := by cases v <;> rfl
theorem nb_non : isNonB .non = true := rfl
theorem nb_int : isNonB (.int i) = false := rfl
theorem nb_bl : isNonB (.bl b) = false := rfl
theorem nb_tup : isNonB (.tup xs) = false := rfl
theorem nb_lst : isNonB (.lst xs) = false := rfl
theorem nb_str : isNonB (.str s) = false := rfl
theorem eq_nn : eqV .non .non = some true := by decide
theorem eq_ni : eqV .non (.int i) = some false := by simp [eqV, dataOk, eqv]
theorem eq_in : eqV (.int i) .non = some false := by simp [eqV, dataOk, eqv]
theorem eq_bb : eqV (.bl b) (.bl c) = some (b == c) := by simp [eqV, dataOk, eqv]
theorem ix_lst : ixV (.lst xs) (.int i) = L2.atI xs i := rfl
theorem ix_tup : ixV (.tup xs) (.int i) = L2.atI xs i := rfl
theorem ix_scr {ns : List Int} : ixV (.scr ns) (.int i) = scrAt ns i := rfl
theorem at_0 : L2.atI (v :: xs) 0 = some v := by
  unfold L2.atI L2.ixN
  rw [if_pos (by omega), if_pos (by simp only [List.length_cons]; omega)]
  rfl
theorem at_1 {v1 : Val} : L2.atI (v :: v1 :: xs) 1 = some v1 := by
  unfold L2.atI L2.ixN
  rw [if_pos (by omega), if_pos (by simp only [List.length_cons]; omega)]
  rfl
theorem at_2 {v1 v2 : Val} : L2.atI (v :: v1 :: v2 :: xs) 2 = some v2 := by
  unfold L2.atI L2.ixN
  rw [if_pos (by omega), if_pos (by simp only [List.length_cons]; omega)]
  rfl
theorem at_3 {v1 v2 v3 : Val} : L2.atI (v :: v1 :: v2 :: v3 :: xs) 3 = some v3 := by
  unfold L2.atI L2.ixN
  rw [if_pos (by omega), if_pos (by simp only [List.length_cons]; omega)]
  rfl
theorem at_4 {v1 v2 v3 v4 : Val} : L2.atI (v :: v1 :: v2 :: v3 :: v4 :: xs) 4 = some v4 := by
  unfold L2.atI L2.ixN
  rw [if_pos (by omega), if_pos (by simp only [List.length_cons]; omega)]
  rfl
theorem bi_lenL : biV .len [.lst xs] = some (.int xs.length) := rfl
theorem bi_lenT : biV .len [.tup xs] = some (.int xs.length) := rfl
theorem bi_lenC {ns : List Int} : biV .len [.scr ns] = some (.int ns.length) := rfl
theorem bi_abs : biV .abs [.int i] = some (.int (if i < 0 then -i else i)) := rfl
theorem bi_min2 : biV .min2 [.int i, .int j] = some (.int (if j < i then j else i)) := rfl
theorem bi_max2 : biV .max2 [.int i, .int j] = some (.int (if j > i then j else i)) := rfl
theorem bi_listL : biV .list [.lst xs] = some (.lst xs) := rfl
theorem bi_listT : biV .list [.tup xs] = some (.lst xs) := rfl
theorem bi_sum {is : List Int} (h : intsOf xs = some is) : biV .sum [.lst xs] = some (.int is.sum) := by simp only [biV, h]
theorem ty_int {q : Ty} : tyV G S (.int i) q = some (q == .int) := by cases q <;> rfl
theorem ty_bl {q : Ty} : tyV G S (.bl b) q = some (q == .bool || q == .int) := by cases q <;> rfl
theorem ty_non {q : Ty} : tyV G S .non q = some false := by cases q <;> rfl
theorem ty_str {q : Ty} : tyV G S (.str s) q = some (q == .str) := by cases q <;> rfl
theorem ty_lst {q : Ty} : tyV G S (.lst xs) q = some (q == .list) := by cases q <;> rfl
theorem ty_tup {q : Ty} : tyV G S (.tup xs) q = some (q == .tuple) := by cases q <;> rfl
theorem ty_exV {k : Nat} : tyV G S (.exc k) .valueError = some true := rfl
theorem ty_exC {k d : Nat} {C : Cls} (h : G.cls k = some C) (hx : C.exc = true) : tyV G S (.exc k) (.cls d) = some (C.sup.contains d) := by
  simp only [tyV, h, hx, if_true]
theorem cat_C {k d : Nat} {C : Cls} (h : G.cls k = some C) (hx : C.exc = true) : catches G k d = some (C.sup.contains d) := by
  simp only [catches, h, hx, if_true]
theorem rng_1 (h : i.natAbs < 2 ^ 62) : rngV [.int i] = some (upto 0 i.toNat) := by
  simp only [rngV]
  rw [if_pos h]
theorem rng_2 (h : i.natAbs < 2 ^ 62 ∧ j.natAbs < 2 ^ 62) : rngV [.int i, .int j] = some (upto i (j - i).toNat) := by
  simp only [rngV]
  rw [if_pos h]
theorem it_lst : itemsV (.lst xs) = some xs := rfl
theorem it_tup : itemsV (.tup xs) = some xs := rfl
theorem bt_one {k : Nat} {ρ : Env} : bindT (.one k) v ρ = some (ρ.set k (some v)) := rfl
theorem bt_many {is : List Nat} {ρ : Env} : bindT (.many is) (.tup xs) ρ = bindMany is xs ρ := rfl
theorem mu_app {e : E} (h : szb (xs.length + 1) = true) : muV (.app e) (.lst xs) [v] = some (.lst (xs ++ [v])) := by simp only [muV, h, if_true]
theorem mu_ext {e : E} (h : szb (xs.length + ys.length) = true) : muV (.ext e) (.lst xs) [.lst ys] = some (.lst (xs ++ ys)) := by simp only [muV, h, if_true]
theorem mt_app {e : E} : muTy (.app e) (.lst xs) = true := rfl
theorem mt_ext {e : E} : muTy (.ext e) (.lst xs) = true := rfl
theorem mt_clr : muTy .clr (.lst xs) = true := rfl
theorem mt_rev : muTy .rev (.lst xs) = true := rfl
theorem mt_set {k e : E} : muTy (.seti k e) (.lst xs) = true := rfl
theorem mu_clr : muV .clr (.lst xs) [] = some (.lst []) := rfl
theorem mu_rev : muV .rev (.lst xs) [] = some (.lst xs.reverse) := rfl
theorem fd_lit {k : Nat} (h : k.log2 < 9000) : fdivOk (k : Int) = true := decide_eq_true h
end
/-- statements, one after the other -/
theorem evSs_cons {x : Cfg} {s : S} {r : List S} {ρ : Env} {S : Store} : evSs x (s :: r) ρ S = match evS x s ρ S with
    | .nx ρ1 S1 => evSs x r ρ1 S1
    | q => q := by
  simp only [evSs] <;> cases evS x s ρ S <;> rfl
theorem evSs_nil {x : Cfg} {ρ : Env} {S : Store} : evSs x [] ρ S = .nx ρ S := by simp only [evSs]
theorem evSs_nx {x : Cfg} {s : S} {r : List S} {ρ ρ1 : Env} {S S1 : Store} (h : evS x s ρ S = .nx ρ1 S1) : evSs x (s :: r) ρ S = evSs x r ρ1 S1 := by
  rw [evSs_cons, h]
theorem evSs_ret {x : Cfg} {s : S} {r : List S} {ρ : Env} {S S1 : Store} {v : Val} (h : evS x s ρ S = .ret v S1) : evSs x (s :: r) ρ S = .ret v S1 := by
  rw [evSs_cons, h]
theorem evSs_exn {x : Cfg} {s : S} {r : List S} {ρ ρ1 : Env} {S S1 : Store} {c : Nat} (h : evS x s ρ S = .exn c ρ1 S1) : evSs x (s :: r) ρ S = .exn c ρ1 S1 := by
  rw [evSs_cons, h]
/-- a loop whose turns all go on: an invariant -/
theorem forL_inv {f : Val → Env → Store → RS} (I : Env → Store → Prop) : ∀ (xs : List Val) (ρ : Env) (S : Store), (∀ x ∈ xs, ∀ ρ S, I ρ S → ∃ ρ1 S1, (f x ρ S = .nx ρ1 S1 ∨ f x ρ S = .cnt ρ1 S1) ∧ I ρ1 S1) → I ρ S → ∃ ρ1 S1, forL f xs ρ S = .nx ρ1 S1 ∧ I ρ1 S1
  | [], ρ, S, _, h => ⟨ρ, S, rfl, h⟩
  | x :: xs, ρ, S, hs, h => by
    obtain ⟨ρ1, S1, e, h1⟩ := hs x List.mem_cons_self ρ S h
    obtain ⟨ρ2, S2, e2, h2⟩ := forL_inv I xs ρ1 S1 (fun y hy => hs y (List.mem_cons_of_mem _ hy)) h1
    refine ⟨ρ2, S2, ?_, h2⟩
    simp only [forL]
    rcases e with e | e <;> rw [e] <;> exact e2
/-- a loop that folds: what the slots are by what was walked -/
theorem forL_fold {α : Type} {f : Val → Env → Store → RS} (enc : α → Env) (step : α → Val → α) : ∀ (xs : List Val) (a : α) (S : Store), (∀ x ∈ xs, ∀ a, f x (enc a) S = .nx (enc (step a x)) S ∨ f x (enc a) S = .cnt (enc (step a x)) S) → forL f xs (enc a) S = .nx (enc (xs.foldl step a)) S
  | [], a, S, _ => rfl
  | x :: xs, a, S, hs => by
    simp only [forL, List.foldl_cons]
    rcases hs x List.mem_cons_self a with e | e <;> rw [e] <;> exact forL_fold enc step xs _ S fun y hy => hs y (List.mem_cons_of_mem _ hy)
/-- .. with an invariant of what is folded -/
theorem forL_foldI {α : Type} {f : Val → Env → Store → RS} (enc : α → Env) (step : α → Val → α) (I : α → Prop) : ∀ (xs : List Val) (a : α) (S : Store), I a → (∀ x ∈ xs, ∀ a, I a → (f x (enc a) S = .nx (enc (step a x)) S ∨ f x (enc a) S = .cnt (enc (step a x)) S) ∧ I (step a x)) →
    forL f xs (enc a) S = .nx (enc (xs.foldl step a)) S ∧ I (xs.foldl step a)
  | [], a, S, h, _ => ⟨rfl, h⟩
  | x :: xs, a, S, h, hs => by
    simp only [forL, List.foldl_cons]
    obtain ⟨e, h1⟩ := hs x List.mem_cons_self a h
    have ih := forL_foldI enc step I xs _ S h1 fun y hy => hs y (List.mem_cons_of_mem _ hy)
    rcases e with e | e <;> rw [e] <;> exact ih
/-- a comprehension that keeps all, or some -/
theorem compL_map {f : Val → Store → R (Option Val)} {g : Val → Val} {S : Store} : ∀ (xs : List Val), (∀ x ∈ xs, f x S = .ok (some (g x)) S) → compL f xs S = .ok (xs.map g) S
  | [], _ => rfl
  | x :: xs, h => by
    simp only [compL, h x List.mem_cons_self, compL_map xs fun y hy => h y (List.mem_cons_of_mem _ hy), List.map_cons]
theorem compL_filterMap {f : Val → Store → R (Option Val)} {g : Val → Option Val} {S : Store} : ∀ (xs : List Val), (∀ x ∈ xs, f x S = .ok (g x) S) → compL f xs S = .ok (xs.filterMap g) S
  | [], _ => rfl
  | x :: xs, h => by
    have ih := compL_filterMap xs fun y hy => h y (List.mem_cons_of_mem _ hy)
    simp only [compL, h x List.mem_cons_self]
    cases e : g x with
    | none => simp only [List.filterMap_cons, e]; exact ih
    | some v => simp only [List.filterMap_cons, e, ih]
theorem upto_map : ∀ (n : Nat) (lo : Int), upto lo n = (List.range n).map fun (i : Nat) => Val.int (lo + i)
  | 0, _ => rfl
  | n + 1, lo => by
    rw [List.range_succ_eq_map, List.map_cons, List.map_map, upto, upto_map n (lo + 1)]
    congr 1
    · simp
    · apply List.map_congr_left
      intro i _
      simp only [Function.comp]
      congr 1
      omega
theorem upto_mem {n : Nat} {lo : Int} {v : Val} (h : v ∈ upto lo n) : ∃ i : Nat, i < n ∧ v = .int (lo + i) := by
  rw [upto_map] at h
  obtain ⟨i, hi, rfl⟩ := List.mem_map.mp h
  exact ⟨i, List.mem_range.mp hi, rfl⟩
theorem intsOf_map : ∀ is : List Int, intsOf (is.map Val.int) = some is
  | [] => rfl
  | i :: is => by simp only [List.map_cons, intsOf, intsOf_map is]
theorem atI_ok {α : Type} {xs : List α} {i : Nat} {x : α} (h : xs[i]? = some x) : L2.atI xs (i : Int) = some x := by
  obtain ⟨hl, _⟩ := List.getElem?_eq_some_iff.mp h
  unfold L2.atI L2.ixN
  rw [if_pos (by omega), if_pos (by omega)]
  simpa using h
/-- bounds by bits -/
theorem log2_lt {n k : Nat} (hk : 0 < k) (h : n < 2 ^ k) : n.log2 < k := by
  by_cases h0 : n = 0
  · rw [h0]
    simpa using hk
  · exact (Nat.log2_lt h0).mpr h
theorem mulOk_of {i j : Int} {a b : Nat} (ha : i.natAbs < 2 ^ a) (hb : j.natAbs < 2 ^ b) (h0 : 0 < a) (h1 : 0 < b) (h : a + b ≤ 100000000) : mulOk i j = true := by
  unfold mulOk
  have x := log2_lt h0 ha
  have y := log2_lt h1 hb
  rw [decide_eq_true (show i.natAbs.log2 + j.natAbs.log2 < 100000000 by omega)]
  simp
theorem mulOk_small {i j : Int} (h : i.natAbs < 2 ^ 64) : mulOk i j = true := by
  unfold mulOk
  rw [decide_eq_true h]
  rfl
theorem mulOk_small2 {i j : Int} (h : j.natAbs < 2 ^ 64) : mulOk i j = true := by
  unfold mulOk
  rw [decide_eq_true h]
  simp
end Pv
end

section
set_option Elab.async false
set_option linter.all false
set_option maxRecDepth 100000
set_option autoImplicit false
/-! Pf: the evaluator's equations with all their arguments, for simp. -/
namespace Pv
open PySem
abbrev St := Pv.S
section
variable {α β : Type} {x : Cfg} {ρ ρ1 : Env} {S S1 : Store} {v w u : Val} {vs : List Val} {c d i : Nat}
theorem b_ok {a : α} {f : α → Store → R β} : (R.ok a S).bind f = f a S := rfl
theorem b_exn {f : α → Store → R β} : (R.exn c S : R α).bind f = .exn c S := rfl
theorem b_ite {p : Prop} [Decidable p] {a b : R α} {f : α → Store → R β} : (if p then a else b).bind f = if p then a.bind f else b.bind f := by
  by_cases h : p <;> simp only [h, if_true, if_false]
theorem t_ok {a : α} {f : α → Store → RS} : (R.ok a S).toS ρ f = f a S := rfl
theorem t_exn {f : α → Store → RS} : (R.exn c S : R α).toS ρ f = .exn c ρ S := rfl
theorem t_ite {p : Prop} [Decidable p] {a b : R α} {f : α → Store → RS} : (if p then a else b).toS ρ f = if p then a.toS ρ f else b.toS ρ f := by
  by_cases h : p <;> simp only [h, if_true, if_false]
theorem of_some {a : α} : R.of (some a) S = .ok a S := rfl
def RS.seq (r : RS) (k : Env → Store → RS) : RS := match r with
  | .nx ρ S => k ρ S
  | q => q
theorem sq_nx {k : Env → Store → RS} : (RS.nx ρ S).seq k = k ρ S := rfl
theorem sq_ret {k : Env → Store → RS} : (RS.ret v S).seq k = .ret v S := rfl
theorem sq_exn {k : Env → Store → RS} : (RS.exn c ρ S).seq k = .exn c ρ S := rfl
theorem sq_brk {k : Env → Store → RS} : (RS.brk ρ S).seq k = .brk ρ S := rfl
theorem sq_cnt {k : Env → Store → RS} : (RS.cnt ρ S).seq k = .cnt ρ S := rfl
theorem sq_ite {p : Prop} [Decidable p] {a b : RS} {k : Env → Store → RS} : (if p then a else b).seq k = if p then a.seq k else b.seq k := by
  by_cases h : p <;> simp only [h, if_true, if_false]
def obl (o : Option Bool) (S : Store) : R Val := match o with
  | some b => .ok (.bl b) S
  | none => .stuck
theorem obl_some {b : Bool} : obl (some b) S = .ok (.bl b) S := rfl
theorem ob_ite {p : Prop} [Decidable p] {a b : RS} : ofBody (if p then a else b) = if p then ofBody a else ofBody b := by
  by_cases h : p <;> simp only [h, if_true, if_false]
theorem ob_ret : ofBody (.ret v S) = .ok v S := rfl
theorem ob_nx : ofBody (.nx ρ S) = .ok .non S := rfl
theorem ob_exn : ofBody (.exn c ρ S) = .exn c S := rfl
def k2 (j : Val → Val → Store → R Val) (x : Cfg) (b : E) (ρ : Env) (v : Val) (S : Store) : R Val := (evE x b ρ S).bind (j v)
/-- a loop with an invariant, ahead of the rest of a body -/
theorem forL_k {f : Val → Env → Store → RS} {k : Env → Store → RS} {r : R Val} (I : Env → Store → Prop) {xs : List Val} {ρ : Env} {S : Store} (hs : ∀ x ∈ xs, ∀ ρ S, I ρ S → ∃ ρ1 S1, (f x ρ S = .nx ρ1 S1 ∨ f x ρ S = .cnt ρ1 S1) ∧ I ρ1 S1) (h0 : I ρ S) (h1 : ∀ ρ1 S1, I ρ1 S1 → ofBody (k ρ1 S1) = r) :
    ofBody ((forL f xs ρ S).seq k) = r := by
  obtain ⟨ρ1, S1, e, h⟩ := forL_inv I xs ρ S hs h0
  rw [e]
  exact h1 ρ1 S1 h
theorem forL_idx {f : Val → Env → Store → RS} (I : Nat → Env → Store → Prop) : ∀ (xs : List Val) (m : Nat) (ρ : Env) (S : Store), (∀ (i : Nat) (hi : i < xs.length) ρ S, I (m + i) ρ S → ∃ ρ1 S1, (f xs[i] ρ S = .nx ρ1 S1 ∨ f xs[i] ρ S = .cnt ρ1 S1) ∧ I (m + i + 1) ρ1 S1) → I m ρ S → ∃ ρ1 S1, forL f xs ρ S = .nx ρ1 S1 ∧ I (m + xs.length) ρ1 S1
  | [], m, ρ, S, _, h => ⟨ρ, S, rfl, h⟩
  | x :: xs, m, ρ, S, hs, h => by
    obtain ⟨ρ1, S1, e, h1⟩ := hs 0 (by simp) ρ S h
    obtain ⟨ρ2, S2, e2, h2⟩ := forL_idx I xs (m + 1) ρ1 S1 (fun i hi ρ S hI => by
      have := hs (i + 1) (by simp only [List.length_cons]; omega) ρ S (by rw [show m + (i + 1) = m + 1 + i by omega]; exact hI)
      rw [show m + (i + 1) + 1 = m + 1 + i + 1 by omega] at this
      exact this) h1
    refine ⟨ρ2, S2, ?_, ?_⟩
    · simp only [forL]
      simp only [List.getElem_cons_zero] at e
      rcases e with e | e <;> rw [e] <;> exact e2
    · rw [List.length_cons, show m + (xs.length + 1) = m + 1 + xs.length by omega]
      exact h2
/-- a loop with an invariant that counts, ahead of the rest of a body -/
theorem forL_kI {f : Val → Env → Store → RS} {k : Env → Store → RS} {r : R Val} (I : Nat → Env → Store → Prop) {xs : List Val} {ρ : Env} {S : Store} (hs : ∀ (i : Nat) (hi : i < xs.length) ρ S, I i ρ S → ∃ ρ1 S1, (f xs[i] ρ S = .nx ρ1 S1 ∨ f xs[i] ρ S = .cnt ρ1 S1) ∧ I (i + 1) ρ1 S1) (h0 : I 0 ρ S) (h1 : ∀ ρ1 S1, I xs.length ρ1 S1 → ofBody (k ρ1 S1) = r) :
    ofBody ((forL f xs ρ S).seq k) = r := by
  obtain ⟨ρ1, S1, e, h⟩ := forL_idx I xs 0 ρ S (fun i hi ρ S hI => by
    have := hs i hi ρ S (by rw [Nat.zero_add] at hI; exact hI)
    rw [Nat.zero_add]
    exact this) h0
  rw [e]
  rw [Nat.zero_add] at h
  exact h1 ρ1 S1 h
theorem upto_ln : ∀ (n : Nat) (lo : Int), (upto lo n).length = n
  | 0, _ => rfl
  | n + 1, lo => by rw [upto, List.length_cons, upto_ln n]
theorem upto_get {n : Nat} {lo : Int} {i : Nat} {hi : i < (upto lo n).length} : (upto lo n)[i] = .int (lo + i) := by
  simp only [upto_map, List.getElem_map, List.getElem_range]
theorem forL_kU {f : Val → Env → Store → RS} {k : Env → Store → RS} {r : R Val} (I : Nat → Env → Store → Prop) {lo : Int} {n : Nat} {ρ : Env} {S : Store} (hs : ∀ (i : Nat), i < n → ∀ ρ S, I i ρ S → ∃ ρ1 S1, (f (.int (lo + i)) ρ S = .nx ρ1 S1 ∨ f (.int (lo + i)) ρ S = .cnt ρ1 S1) ∧ I (i + 1) ρ1 S1) (h0 : I 0 ρ S) (h1 : ∀ ρ1 S1, I n ρ1 S1 → ofBody (k ρ1 S1) = r) :
    ofBody ((forL f (upto lo n) ρ S).seq k) = r := by
  apply forL_kI I (fun i hi ρ S hI => ?_) h0 (fun ρ1 S1 h => h1 ρ1 S1 (by rwa [upto_ln] at h))
  rw [upto_get]
  exact hs i (by rwa [upto_ln] at hi) ρ S hI
theorem k2_ {j : Val → Val → Store → R Val} {b : E} : k2 j x b ρ v S = (evE x b ρ S).bind (j v) := rfl

theorem e_v0 : evE x (.v 0) (some v :: ρ) S = .ok v S := by simp only [evE]; rfl
theorem st_0 {o o1 : Option Val} : List.set (o :: ρ) 0 o1 = o1 :: ρ := rfl
theorem e_v1 {v0 : Option Val} : evE x (.v 1) (v0 :: some v :: ρ) S = .ok v S := by simp only [evE]; rfl
theorem st_1 {v0 : Option Val} {o o1 : Option Val} : List.set (v0 :: o :: ρ) 1 o1 = v0 :: o1 :: ρ := rfl
theorem e_v2 {v0 v1 : Option Val} : evE x (.v 2) (v0 :: v1 :: some v :: ρ) S = .ok v S := by simp only [evE]; rfl
theorem st_2 {v0 v1 : Option Val} {o o1 : Option Val} : List.set (v0 :: v1 :: o :: ρ) 2 o1 = v0 :: v1 :: o1 :: ρ := rfl
theorem e_v3 {v0 v1 v2 : Option Val} : evE x (.v 3) (v0 :: v1 :: v2 :: some v :: ρ) S = .ok v S := by simp only [evE]; rfl
theorem st_3 {v0 v1 v2 : Option Val} {o o1 : Option Val} : List.set (v0 :: v1 :: v2 :: o :: ρ) 3 o1 = v0 :: v1 :: v2 :: o1 :: ρ := rfl
theorem e_v4 {v0 v1 v2 v3 : Option Val} : evE x (.v 4) (v0 :: v1 :: v2 :: v3 :: some v :: ρ) S = .ok v S := by simp only [evE]; rfl
theorem st_4 {v0 v1 v2 v3 : Option Val} {o o1 : Option Val} : List.set (v0 :: v1 :: v2 :: v3 :: o :: ρ) 4 o1 = v0 :: v1 :: v2 :: v3 :: o1 :: ρ := rfl
theorem e_v5 {v0 v1 v2 v3 v4 : Option Val} : evE x (.v 5) (v0 :: v1 :: v2 :: v3 :: v4 :: some v :: ρ) S = .ok v S := by simp only [evE]; rfl
theorem st_5 {v0 v1 v2 v3 v4 : Option Val} {o o1 : Option Val} : List.set (v0 :: v1 :: v2 :: v3 :: v4 :: o :: ρ) 5 o1 = v0 :: v1 :: v2 :: v3 :: v4 :: o1 :: ρ := rfl
theorem e_v6 {v0 v1 v2 v3 v4 v5 : Option Val} : evE x (.v 6) (v0 :: v1 :: v2 :: v3 :: v4 :: v5 :: some v :: ρ) S = .ok v S := by simp only [evE]; rfl
theorem st_6 {v0 v1 v2 v3 v4 v5 : Option Val} {o o1 : Option Val} : List.set (v0 :: v1 :: v2 :: v3 :: v4 :: v5 :: o :: ρ) 6 o1 = v0 :: v1 :: v2 :: v3 :: v4 :: v5 :: o1 :: ρ := rfl
theorem e_v7 {v0 v1 v2 v3 v4 v5 v6 : Option Val} : evE x (.v 7) (v0 :: v1 :: v2 :: v3 :: v4 :: v5 :: v6 :: some v :: ρ) S = .ok v S := by simp only [evE]; rfl
theorem st_7 {v0 v1 v2 v3 v4 v5 v6 : Option Val} {o o1 : Option Val} : List.set (v0 :: v1 :: v2 :: v3 :: v4 :: v5 :: v6 :: o :: ρ) 7 o1 = v0 :: v1 :: v2 :: v3 :: v4 :: v5 :: v6 :: o1 :: ρ := rfl
theorem e_v8 {v0 v1 v2 v3 v4 v5 v6 v7 : Option Val} : evE x (.v 8) (v0 :: v1 :: v2 :: v3 :: v4 :: v5 :: v6 :: v7 :: some v :: ρ) S = .ok v S := by simp only [evE]; rfl
theorem st_8 {v0 v1 v2 v3 v4 v5 v6 v7 : Option Val} {o o1 : Option Val} : List.set (v0 :: v1 :: v2 :: v3 :: v4 :: v5 :: v6 :: v7 :: o :: ρ) 8 o1 = v0 :: v1 :: v2 :: v3 :: v4 :: v5 :: v6 :: v7 :: o1 :: ρ := rfl
theorem e_v9 {v0 v1 v2 v3 v4 v5 v6 v7 v8 : Option Val} : evE x (.v 9) (v0 :: v1 :: v2 :: v3 :: v4 :: v5 :: v6 :: v7 :: v8 :: some v :: ρ) S = .ok v S := by simp only [evE]; rfl
theorem st_9 {v0 v1 v2 v3 v4 v5 v6 v7 v8 : Option Val} {o o1 : Option Val} : List.set (v0 :: v1 :: v2 :: v3 :: v4 :: v5 :: v6 :: v7 :: v8 :: o :: ρ) 9 o1 = v0 :: v1 :: v2 :: v3 :: v4 :: v5 :: v6 :: v7 :: v8 :: o1 :: ρ := rfl
theorem e_v10 {v0 v1 v2 v3 v4 v5 v6 v7 v8 v9 : Option Val} : evE x (.v 10) (v0 :: v1 :: v2 :: v3 :: v4 :: v5 :: v6 :: v7 :: v8 :: v9 :: some v :: ρ) S = .ok v S := by simp only [evE]; rfl
theorem st_10 {v0 v1 v2 v3 v4 v5 v6 v7 v8 v9 : Option Val} {o o1 : Option Val} : List.set (v0 :: v1 :: v2 :: v3 :: v4 :: v5 :: v6 :: v7 :: v8 :: v9 :: o :: ρ) 10 o1 = v0 :: v1 :: v2 :: v3 :: v4 :: v5 :: v6 :: v7 :: v8 :: v9 :: o1 :: ρ := rfl
theorem e_v11 {v0 v1 v2 v3 v4 v5 v6 v7 v8 v9 v10 : Option Val} : evE x (.v 11) (v0 :: v1 :: v2 :: v3 :: v4 :: v5 :: v6 :: v7 :: v8 :: v9 :: v10 :: some v :: ρ) S = .ok v S := by simp only [evE]; rfl
theorem st_11 {v0 v1 v2 v3 v4 v5 v6 v7 v8 v9 v10 : Option Val} {o o1 : Option Val} : List.set (v0 :: v1 :: v2 :: v3 :: v4 :: v5 :: v6 :: v7 :: v8 :: v9 :: v10 :: o :: ρ) 11 o1 = v0 :: v1 :: v2 :: v3 :: v4 :: v5 :: v6 :: v7 :: v8 :: v9 :: v10 :: o1 :: ρ := rfl
theorem e_v12 {v0 v1 v2 v3 v4 v5 v6 v7 v8 v9 v10 v11 : Option Val} : evE x (.v 12) (v0 :: v1 :: v2 :: v3 :: v4 :: v5 :: v6 :: v7 :: v8 :: v9 :: v10 :: v11 :: some v :: ρ) S = .ok v S := by simp only [evE]; rfl
theorem st_12 {v0 v1 v2 v3 v4 v5 v6 v7 v8 v9 v10 v11 : Option Val} {o o1 : Option Val} : List.set (v0 :: v1 :: v2 :: v3 :: v4 :: v5 :: v6 :: v7 :: v8 :: v9 :: v10 :: v11 :: o :: ρ) 12 o1 = v0 :: v1 :: v2 :: v3 :: v4 :: v5 :: v6 :: v7 :: v8 :: v9 :: v10 :: v11 :: o1 :: ρ := rfl
theorem e_v13 {v0 v1 v2 v3 v4 v5 v6 v7 v8 v9 v10 v11 v12 : Option Val} : evE x (.v 13) (v0 :: v1 :: v2 :: v3 :: v4 :: v5 :: v6 :: v7 :: v8 :: v9 :: v10 :: v11 :: v12 :: some v :: ρ) S = .ok v S := by simp only [evE]; rfl
theorem st_13 {v0 v1 v2 v3 v4 v5 v6 v7 v8 v9 v10 v11 v12 : Option Val} {o o1 : Option Val} : List.set (v0 :: v1 :: v2 :: v3 :: v4 :: v5 :: v6 :: v7 :: v8 :: v9 :: v10 :: v11 :: v12 :: o :: ρ) 13 o1 = v0 :: v1 :: v2 :: v3 :: v4 :: v5 :: v6 :: v7 :: v8 :: v9 :: v10 :: v11 :: v12 :: o1 :: ρ := rfl
theorem e_v14 {v0 v1 v2 v3 v4 v5 v6 v7 v8 v9 v10 v11 v12 v13 : Option Val} : evE x (.v 14) (v0 :: v1 :: v2 :: v3 :: v4 :: v5 :: v6 :: v7 :: v8 :: v9 :: v10 :: v11 :: v12 :: v13 :: some v :: ρ) S = .ok v S := by simp only [evE]; rfl
theorem st_14 {v0 v1 v2 v3 v4 v5 v6 v7 v8 v9 v10 v11 v12 v13 : Option Val} {o o1 : Option Val} : List.set (v0 :: v1 :: v2 :: v3 :: v4 :: v5 :: v6 :: v7 :: v8 :: v9 :: v10 :: v11 :: v12 :: v13 :: o :: ρ) 14 o1 = v0 :: v1 :: v2 :: v3 :: v4 :: v5 :: v6 :: v7 :: v8 :: v9 :: v10 :: v11 :: v12 :: v13 :: o1 :: ρ := rfl
theorem e_v15 {v0 v1 v2 v3 v4 v5 v6 v7 v8 v9 v10 v11 v12 v13 v14 : Option Val} : evE x (.v 15) (v0 :: v1 :: v2 :: v3 :: v4 :: v5 :: v6 :: v7 :: v8 :: v9 :: v10 :: v11 :: v12 :: v13 :: v14 :: some v :: ρ) S = .ok v S := by simp only [evE]; rfl
theorem st_15 {v0 v1 v2 v3 v4 v5 v6 v7 v8 v9 v10 v11 v12 v13 v14 : Option Val} {o o1 : Option Val} : List.set (v0 :: v1 :: v2 :: v3 :: v4 :: v5 :: v6 :: v7 :: v8 :: v9 :: v10 :: v11 :: v12 :: v13 :: v14 :: o :: ρ) 15 o1 = v0 :: v1 :: v2 :: v3 :: v4 :: v5 :: v6 :: v7 :: v8 :: v9 :: v10 :: v11 :: v12 :: v13 :: v14 :: o1 :: ρ := rfl
theorem e_v16 {v0 v1 v2 v3 v4 v5 v6 v7 v8 v9 v10 v11 v12 v13 v14 v15 : Option Val} : evE x (.v 16) (v0 :: v1 :: v2 :: v3 :: v4 :: v5 :: v6 :: v7 :: v8 :: v9 :: v10 :: v11 :: v12 :: v13 :: v14 :: v15 :: some v :: ρ) S = .ok v S := by simp only [evE]; rfl
theorem st_16 {v0 v1 v2 v3 v4 v5 v6 v7 v8 v9 v10 v11 v12 v13 v14 v15 : Option Val} {o o1 : Option Val} : List.set (v0 :: v1 :: v2 :: v3 :: v4 :: v5 :: v6 :: v7 :: v8 :: v9 :: v10 :: v11 :: v12 :: v13 :: v14 :: v15 :: o :: ρ) 16 o1 = v0 :: v1 :: v2 :: v3 :: v4 :: v5 :: v6 :: v7 :: v8 :: v9 :: v10 :: v11 :: v12 :: v13 :: v14 :: v15 :: o1 :: ρ := rfl
theorem e_v17 {v0 v1 v2 v3 v4 v5 v6 v7 v8 v9 v10 v11 v12 v13 v14 v15 v16 : Option Val} : evE x (.v 17) (v0 :: v1 :: v2 :: v3 :: v4 :: v5 :: v6 :: v7 :: v8 :: v9 :: v10 :: v11 :: v12 :: v13 :: v14 :: v15 :: v16 :: some v :: ρ) S = .ok v S := by simp only [evE]; rfl
theorem st_17 {v0 v1 v2 v3 v4 v5 v6 v7 v8 v9 v10 v11 v12 v13 v14 v15 v16 : Option Val} {o o1 : Option Val} : List.set (v0 :: v1 :: v2 :: v3 :: v4 :: v5 :: v6 :: v7 :: v8 :: v9 :: v10 :: v11 :: v12 :: v13 :: v14 :: v15 :: v16 :: o :: ρ) 17 o1 = v0 :: v1 :: v2 :: v3 :: v4 :: v5 :: v6 :: v7 :: v8 :: v9 :: v10 :: v11 :: v12 :: v13 :: v14 :: v15 :: v16 :: o1 :: ρ := rfl
theorem e_v18 {v0 v1 v2 v3 v4 v5 v6 v7 v8 v9 v10 v11 v12 v13 v14 v15 v16 v17 : Option Val} : evE x (.v 18) (v0 :: v1 :: v2 :: v3 :: v4 :: v5 :: v6 :: v7 :: v8 :: v9 :: v10 :: v11 :: v12 :: v13 :: v14 :: v15 :: v16 :: v17 :: some v :: ρ) S = .ok v S := by simp only [evE]; rfl
theorem st_18 {v0 v1 v2 v3 v4 v5 v6 v7 v8 v9 v10 v11 v12 v13 v14 v15 v16 v17 : Option Val} {o o1 : Option Val} : List.set (v0 :: v1 :: v2 :: v3 :: v4 :: v5 :: v6 :: v7 :: v8 :: v9 :: v10 :: v11 :: v12 :: v13 :: v14 :: v15 :: v16 :: v17 :: o :: ρ) 18 o1 = v0 :: v1 :: v2 :: v3 :: v4 :: v5 :: v6 :: v7 :: v8 :: v9 :: v10 :: v11 :: v12 :: v13 :: v14 :: v15 :: v16 :: v17 :: o1 :: ρ := rfl
theorem e_v19 {v0 v1 v2 v3 v4 v5 v6 v7 v8 v9 v10 v11 v12 v13 v14 v15 v16 v17 v18 : Option Val} : evE x (.v 19) (v0 :: v1 :: v2 :: v3 :: v4 :: v5 :: v6 :: v7 :: v8 :: v9 :: v10 :: v11 :: v12 :: v13 :: v14 :: v15 :: v16 :: v17 :: v18 :: some v :: ρ) S = .ok v S := by simp only [evE]; rfl
theorem st_19 {v0 v1 v2 v3 v4 v5 v6 v7 v8 v9 v10 v11 v12 v13 v14 v15 v16 v17 v18 : Option Val} {o o1 : Option Val} : List.set (v0 :: v1 :: v2 :: v3 :: v4 :: v5 :: v6 :: v7 :: v8 :: v9 :: v10 :: v11 :: v12 :: v13 :: v14 :: v15 :: v16 :: v17 :: v18 :: o :: ρ) 19 o1 = v0 :: v1 :: v2 :: v3 :: v4 :: v5 :: v6 :: v7 :: v8 :: v9 :: v10 :: v11 :: v12 :: v13 :: v14 :: v15 :: v16 :: v17 :: v18 :: o1 :: ρ := rfl
theorem e_v20 {v0 v1 v2 v3 v4 v5 v6 v7 v8 v9 v10 v11 v12 v13 v14 v15 v16 v17 v18 v19 : Option Val} : evE x (.v 20) (v0 :: v1 :: v2 :: v3 :: v4 :: v5 :: v6 :: v7 :: v8 :: v9 :: v10 :: v11 :: v12 :: v13 :: v14 :: v15 :: v16 :: v17 :: v18 :: v19 :: some v :: ρ) S = .ok v S := by simp only [evE]; rfl
theorem st_20 {v0 v1 v2 v3 v4 v5 v6 v7 v8 v9 v10 v11 v12 v13 v14 v15 v16 v17 v18 v19 : Option Val} {o o1 : Option Val} : List.set (v0 :: v1 :: v2 :: v3 :: v4 :: v5 :: v6 :: v7 :: v8 :: v9 :: v10 :: v11 :: v12 :: v13 :: v14 :: v15 :: v16 :: v17 :: v18 :: v19 :: o :: ρ) 20 o1 = v0 :: v1 :: v2 :: v3 :: v4 :: v5 :: v6 :: v7 :: v8 :: v9 :: v10 :: v11 :: v12 :: v13 :: v14 :: v15 :: v16 :: v17 :: v18 :: v19 :: o1 :: ρ := rfl
theorem e_v21 {v0 v1 v2 v3 v4 v5 v6 v7 v8 v9 v10 v11 v12 v13 v14 v15 v16 v17 v18 v19 v20 : Option Val} : evE x (.v 21) (v0 :: v1 :: v2 :: v3 :: v4 :: v5 :: v6 :: v7 :: v8 :: v9 :: v10 :: v11 :: v12 :: v13 :: v14 :: v15 :: v16 :: v17 :: v18 :: v19 :: v20 :: some v :: ρ) S = .ok v S := by simp only [evE]; rfl
theorem st_21 {v0 v1 v2 v3 v4 v5 v6 v7 v8 v9 v10 v11 v12 v13 v14 v15 v16 v17 v18 v19 v20 : Option Val} {o o1 : Option Val} : List.set (v0 :: v1 :: v2 :: v3 :: v4 :: v5 :: v6 :: v7 :: v8 :: v9 :: v10 :: v11 :: v12 :: v13 :: v14 :: v15 :: v16 :: v17 :: v18 :: v19 :: v20 :: o :: ρ) 21 o1 = v0 :: v1 :: v2 :: v3 :: v4 :: v5 :: v6 :: v7 :: v8 :: v9 :: v10 :: v11 :: v12 :: v13 :: v14 :: v15 :: v16 :: v17 :: v18 :: v19 :: v20 :: o1 :: ρ := rfl
theorem e_v22 {v0 v1 v2 v3 v4 v5 v6 v7 v8 v9 v10 v11 v12 v13 v14 v15 v16 v17 v18 v19 v20 v21 : Option Val} : evE x (.v 22) (v0 :: v1 :: v2 :: v3 :: v4 :: v5 :: v6 :: v7 :: v8 :: v9 :: v10 :: v11 :: v12 :: v13 :: v14 :: v15 :: v16 :: v17 :: v18 :: v19 :: v20 :: v21 :: some v :: ρ) S = .ok v S := by simp only [evE]; rfl
theorem st_22 {v0 v1 v2 v3 v4 v5 v6 v7 v8 v9 v10 v11 v12 v13 v14 v15 v16 v17 v18 v19 v20 v21 : Option Val} {o o1 : Option Val} : List.set (v0 :: v1 :: v2 :: v3 :: v4 :: v5 :: v6 :: v7 :: v8 :: v9 :: v10 :: v11 :: v12 :: v13 :: v14 :: v15 :: v16 :: v17 :: v18 :: v19 :: v20 :: v21 :: o :: ρ) 22 o1 = v0 :: v1 :: v2 :: v3 :: v4 :: v5 :: v6 :: v7 :: v8 :: v9 :: v10 :: v11 :: v12 :: v13 :: v14 :: v15 :: v16 :: v17 :: v18 :: v19 :: v20 :: v21 :: o1 :: ρ := rfl
theorem e_v23 {v0 v1 v2 v3 v4 v5 v6 v7 v8 v9 v10 v11 v12 v13 v14 v15 v16 v17 v18 v19 v20 v21 v22 : Option Val} : evE x (.v 23) (v0 :: v1 :: v2 :: v3 :: v4 :: v5 :: v6 :: v7 :: v8 :: v9 :: v10 :: v11 :: v12 :: v13 :: v14 :: v15 :: v16 :: v17 :: v18 :: v19 :: v20 :: v21 :: v22 :: some v :: ρ) S = .ok v S := by simp only [evE]; rfl
theorem st_23 {v0 v1 v2 v3 v4 v5 v6 v7 v8 v9 v10 v11 v12 v13 v14 v15 v16 v17 v18 v19 v20 v21 v22 : Option Val} {o o1 : Option Val} : List.set (v0 :: v1 :: v2 :: v3 :: v4 :: v5 :: v6 :: v7 :: v8 :: v9 :: v10 :: v11 :: v12 :: v13 :: v14 :: v15 :: v16 :: v17 :: v18 :: v19 :: v20 :: v21 :: v22 :: o :: ρ) 23 o1 = v0 :: v1 :: v2 :: v3 :: v4 :: v5 :: v6 :: v7 :: v8 :: v9 :: v10 :: v11 :: v12 :: v13 :: v14 :: v15 :: v16 :: v17 :: v18 :: v19 :: v20 :: v21 :: v22 :: o1 :: ρ := rfl
theorem e_v24 {v0 v1 v2 v3 v4 v5 v6 v7 v8 v9 v10 v11 v12 v13 v14 v15 v16 v17 v18 v19 v20 v21 v22 v23 : Option Val} : evE x (.v 24) (v0 :: v1 :: v2 :: v3 :: v4 :: v5 :: v6 :: v7 :: v8 :: v9 :: v10 :: v11 :: v12 :: v13 :: v14 :: v15 :: v16 :: v17 :: v18 :: v19 :: v20 :: v21 :: v22 :: v23 :: some v :: ρ) S = .ok v S := by simp only [evE]; rfl
theorem st_24 {v0 v1 v2 v3 v4 v5 v6 v7 v8 v9 v10 v11 v12 v13 v14 v15 v16 v17 v18 v19 v20 v21 v22 v23 : Option Val} {o o1 : Option Val} : List.set (v0 :: v1 :: v2 :: v3 :: v4 :: v5 :: v6 :: v7 :: v8 :: v9 :: v10 :: v11 :: v12 :: v13 :: v14 :: v15 :: v16 :: v17 :: v18 :: v19 :: v20 :: v21 :: v22 :: v23 :: o :: ρ) 24 o1 = v0 :: v1 :: v2 :: v3 :: v4 :: v5 :: v6 :: v7 :: v8 :: v9 :: v10 :: v11 :: v12 :: v13 :: v14 :: v15 :: v16 :: v17 :: v18 :: v19 :: v20 :: v21 :: v22 :: v23 :: o1 :: ρ := rfl
theorem e_v25 {v0 v1 v2 v3 v4 v5 v6 v7 v8 v9 v10 v11 v12 v13 v14 v15 v16 v17 v18 v19 v20 v21 v22 v23 v24 : Option Val} : evE x (.v 25) (v0 :: v1 :: v2 :: v3 :: v4 :: v5 :: v6 :: v7 :: v8 :: v9 :: v10 :: v11 :: v12 :: v13 :: v14 :: v15 :: v16 :: v17 :: v18 :: v19 :: v20 :: v21 :: v22 :: v23 :: v24 :: some v :: ρ) S = .ok v S := by simp only [evE]; rfl
theorem st_25 {v0 v1 v2 v3 v4 v5 v6 v7 v8 v9 v10 v11 v12 v13 v14 v15 v16 v17 v18 v19 v20 v21 v22 v23 v24 : Option Val} {o o1 : Option Val} : List.set (v0 :: v1 :: v2 :: v3 :: v4 :: v5 :: v6 :: v7 :: v8 :: v9 :: v10 :: v11 :: v12 :: v13 :: v14 :: v15 :: v16 :: v17 :: v18 :: v19 :: v20 :: v21 :: v22 :: v23 :: v24 :: o :: ρ) 25 o1 = v0 :: v1 :: v2 :: v3 :: v4 :: v5 :: v6 :: v7 :: v8 :: v9 :: v10 :: v11 :: v12 :: v13 :: v14 :: v15 :: v16 :: v17 :: v18 :: v19 :: v20 :: v21 :: v22 :: v23 :: v24 :: o1 :: ρ := rfl
theorem e_v26 {v0 v1 v2 v3 v4 v5 v6 v7 v8 v9 v10 v11 v12 v13 v14 v15 v16 v17 v18 v19 v20 v21 v22 v23 v24 v25 : Option Val} : evE x (.v 26) (v0 :: v1 :: v2 :: v3 :: v4 :: v5 :: v6 :: v7 :: v8 :: v9 :: v10 :: v11 :: v12 :: v13 :: v14 :: v15 :: v16 :: v17 :: v18 :: v19 :: v20 :: v21 :: v22 :: v23 :: v24 :: v25 :: some v :: ρ) S = .ok v S := by simp only [evE]; rfl
theorem st_26 {v0 v1 v2 v3 v4 v5 v6 v7 v8 v9 v10 v11 v12 v13 v14 v15 v16 v17 v18 v19 v20 v21 v22 v23 v24 v25 : Option Val} {o o1 : Option Val} : List.set (v0 :: v1 :: v2 :: v3 :: v4 :: v5 :: v6 :: v7 :: v8 :: v9 :: v10 :: v11 :: v12 :: v13 :: v14 :: v15 :: v16 :: v17 :: v18 :: v19 :: v20 :: v21 :: v22 :: v23 :: v24 :: v25 :: o :: ρ) 26 o1 = v0 :: v1 :: v2 :: v3 :: v4 :: v5 :: v6 :: v7 :: v8 :: v9 :: v10 :: v11 :: v12 :: v13 :: v14 :: v15 :: v16 :: v17 :: v18 :: v19 :: v20 :: v21 :: v22 :: v23 :: v24 :: v25 :: o1 :: ρ := rfl
theorem e_v27 {v0 v1 v2 v3 v4 v5 v6 v7 v8 v9 v10 v11 v12 v13 v14 v15 v16 v17 v18 v19 v20 v21 v22 v23 v24 v25 v26 : Option Val} : evE x (.v 27) (v0 :: v1 :: v2 :: v3 :: v4 :: v5 :: v6 :: v7 :: v8 :: v9 :: v10 :: v11 :: v12 :: v13 :: v14 :: v15 :: v16 :: v17 :: v18 :: v19 :: v20 :: v21 :: v22 :: v23 :: v24 :: v25 :: v26 :: some v :: ρ) S = .ok v S := by simp only [evE]; rfl
theorem st_27 {v0 v1 v2 v3 v4 v5 v6 v7 v8 v9 v10 v11 v12 v13 v14 v15 v16 v17 v18 v19 v20 v21 v22 v23 v24 v25 v26 : Option Val} {o o1 : Option Val} : List.set (v0 :: v1 :: v2 :: v3 :: v4 :: v5 :: v6 :: v7 :: v8 :: v9 :: v10 :: v11 :: v12 :: v13 :: v14 :: v15 :: v16 :: v17 :: v18 :: v19 :: v20 :: v21 :: v22 :: v23 :: v24 :: v25 :: v26 :: o :: ρ) 27 o1 = v0 :: v1 :: v2 :: v3 :: v4 :: v5 :: v6 :: v7 :: v8 :: v9 :: v10 :: v11 :: v12 :: v13 :: v14 :: v15 :: v16 :: v17 :: v18 :: v19 :: v20 :: v21 :: v22 :: v23 :: v24 :: v25 :: v26 :: o1 :: ρ := rfl
theorem e_v28 {v0 v1 v2 v3 v4 v5 v6 v7 v8 v9 v10 v11 v12 v13 v14 v15 v16 v17 v18 v19 v20 v21 v22 v23 v24 v25 v26 v27 : Option Val} : evE x (.v 28) (v0 :: v1 :: v2 :: v3 :: v4 :: v5 :: v6 :: v7 :: v8 :: v9 :: v10 :: v11 :: v12 :: v13 :: v14 :: v15 :: v16 :: v17 :: v18 :: v19 :: v20 :: v21 :: v22 :: v23 :: v24 :: v25 :: v26 :: v27 :: some v :: ρ) S = .ok v S := by simp only [evE]; rfl
theorem st_28 {v0 v1 v2 v3 v4 v5 v6 v7 v8 v9 v10 v11 v12 v13 v14 v15 v16 v17 v18 v19 v20 v21 v22 v23 v24 v25 v26 v27 : Option Val} {o o1 : Option Val} : List.set (v0 :: v1 :: v2 :: v3 :: v4 :: v5 :: v6 :: v7 :: v8 :: v9 :: v10 :: v11 :: v12 :: v13 :: v14 :: v15 :: v16 :: v17 :: v18 :: v19 :: v20 :: v21 :: v22 :: v23 :: v24 :: v25 :: v26 :: v27 :: o :: ρ) 28 o1 = v0 :: v1 :: v2 :: v3 :: v4 :: v5 :: v6 :: v7 :: v8 :: v9 :: v10 :: v11 :: v12 :: v13 :: v14 :: v15 :: v16 :: v17 :: v18 :: v19 :: v20 :: v21 :: v22 :: v23 :: v24 :: v25 :: v26 :: v27 :: o1 :: ρ := rfl
theorem e_v29 {v0 v1 v2 v3 v4 v5 v6 v7 v8 v9 v10 v11 v12 v13 v14 v15 v16 v17 v18 v19 v20 v21 v22 v23 v24 v25 v26 v27 v28 : Option Val} : evE x (.v 29) (v0 :: v1 :: v2 :: v3 :: v4 :: v5 :: v6 :: v7 :: v8 :: v9 :: v10 :: v11 :: v12 :: v13 :: v14 :: v15 :: v16 :: v17 :: v18 :: v19 :: v20 :: v21 :: v22 :: v23 :: v24 :: v25 :: v26 :: v27 :: v28 :: some v :: ρ) S = .ok v S := by simp only [evE]; rfl
theorem st_29 {v0 v1 v2 v3 v4 v5 v6 v7 v8 v9 v10 v11 v12 v13 v14 v15 v16 v17 v18 v19 v20 v21 v22 v23 v24 v25 v26 v27 v28 : Option Val} {o o1 : Option Val} : List.set (v0 :: v1 :: v2 :: v3 :: v4 :: v5 :: v6 :: v7 :: v8 :: v9 :: v10 :: v11 :: v12 :: v13 :: v14 :: v15 :: v16 :: v17 :: v18 :: v19 :: v20 :: v21 :: v22 :: v23 :: v24 :: v25 :: v26 :: v27 :: v28 :: o :: ρ) 29 o1 = v0 :: v1 :: v2 :: v3 :: v4 :: v5 :: v6 :: v7 :: v8 :: v9 :: v10 :: v11 :: v12 :: v13 :: v14 :: v15 :: v16 :: v17 :: v18 :: v19 :: v20 :: v21 :: v22 :: v23 :: v24 :: v25 :: v26 :: v27 :: v28 :: o1 :: ρ := rfl

theorem e_k {c : Cn} : evE x (.k c) ρ S = .ok (cnV c) S := by simp only [evE]
theorem e_gl {s : Str} {c : Val} : evE x (.gl s c) ρ S = .ok c S := by simp only [evE]
def j_op2 (o : Op) (v w : Val) (S : Store) : R Val := R.of (op2 o (deref S v) (deref S w)) S
theorem j_op2_ {o : Op} : j_op2 o v w S = R.of (op2 o (deref S v) (deref S w)) S := rfl
theorem e_op2 {o : Op} {a b : E} : evE x (.op2 o a b) ρ S = (evE x a ρ S).bind (k2 (j_op2 o) x b ρ) := by
  simp only [evE]
  rfl
def j_rep2 (vs : List Val) (w : Val) (S : Store) : R Val := match w with
  | .int j => if 0 ≤ j ∧ j < 100000 ∧ szb (vs.length * j.toNat) = true then .ok (.lst (List.replicate j.toNat vs).flatten) S else .stuck
  | _ => .stuck
def j_rep (x : Cfg) (b : E) (ρ : Env) (vs : List Val) (S : Store) : R Val := if szb vs.length = true then (evE x b ρ S).bind (j_rep2 vs) else .stuck
theorem j_rep_ {b : E} : j_rep x b ρ vs S = if szb vs.length = true then (evE x b ρ S).bind (j_rep2 vs) else .stuck := rfl
theorem e_rep {es : List E} {b : E} : evE x (.rep es b) ρ S = (evs x es ρ S).bind (j_rep x b ρ) := by
  simp only [evE]
  first | rfl | (congr; done)
theorem j_rep2_ {j : Int} (h : 0 ≤ j ∧ j < 100000 ∧ szb (vs.length * j.toNat) = true) : j_rep2 vs (.int j) S = .ok (.lst (List.replicate j.toNat vs).flatten) S := by
  simp only [j_rep2, h, and_self, if_true]
def j_neg (v : Val) (S : Store) : R Val := match v with
  | .int i => .ok (.int (-i)) S
  | _ => .stuck
theorem e_neg {a : E} : evE x (.neg a) ρ S = (evE x a ρ S).bind j_neg := by
  simp only [evE]
  first | rfl | (congr; done) | (congr; funext v S1; cases v <;> rfl)
theorem j_neg_ {j : Int} : j_neg (.int j) S = .ok (.int (-j)) S := rfl
def j_cmp (o : Cp) (v w : Val) (S : Store) : R Val := obl (cpV o (deref S v) (deref S w)) S
theorem j_cmp_ {o : Cp} : j_cmp o v w S = obl (cpV o (deref S v) (deref S w)) S := rfl
theorem e_cmp {o : Cp} {a b : E} : evE x (.cmp o a b) ρ S = (evE x a ρ S).bind (k2 (j_cmp o) x b ρ) := by
  simp only [evE]
  rfl
def j_ch3 (o2 : Cp) (w u : Val) (S : Store) : R Val := obl (cpV o2 w u) S
theorem j_ch3_ {o2 : Cp} : j_ch3 o2 w u S = obl (cpV o2 w u) S := rfl
def chV (x : Cfg) (o2 : Cp) (c : E) (ρ : Env) (w : Val) (S : Store) (o : Option Bool) : R Val := match o with
  | some b => if b = true then (evE x c ρ S).bind (j_ch3 o2 w) else .ok (.bl false) S
  | none => .stuck
theorem chV_b {o2 : Cp} {c : E} {b : Bool} : chV x o2 c ρ w S (some b) = if b = true then (evE x c ρ S).bind (j_ch3 o2 w) else .ok (.bl false) S := rfl
def j_ch2 (x : Cfg) (o1 o2 : Cp) (c : E) (ρ : Env) (v w : Val) (S : Store) : R Val := chV x o2 c ρ w S (cpV o1 v w)
theorem j_ch2_ {o1 o2 : Cp} {c : E} : j_ch2 x o1 o2 c ρ v w S = chV x o2 c ρ w S (cpV o1 v w) := rfl
theorem e_ch {o1 o2 : Cp} {a b c : E} : evE x (.ch o1 o2 a b c) ρ S = (evE x a ρ S).bind (k2 (j_ch2 x o1 o2 c ρ) x b ρ) := by
  simp only [evE]
  congr
theorem e_bop {k : Bool} {es : List E} : evE x (.bop k es) ρ S = evB x k es ρ S := by simp only [evE]
def j_nt (v : Val) (S : Store) : R Val := match v with
  | .bl b => .ok (.bl (!b)) S
  | _ => .stuck
theorem e_nt {a : E} : evE x (.nt a) ρ S = (evE x a ρ S).bind j_nt := by
  simp only [evE]
  first | rfl | (congr; done) | (congr; funext v S1; cases v <;> rfl)
theorem j_nt_ {b : Bool} : j_nt (.bl b) S = .ok (.bl (!b)) S := rfl
def j_ife (x : Cfg) (a b : E) (ρ : Env) (v : Val) (S : Store) : R Val := match v with
  | .bl c => if c = true then evE x a ρ S else evE x b ρ S
  | _ => .stuck
theorem j_ife_ {a b : E} {c : Bool} : j_ife x a b ρ (.bl c) S = if c = true then evE x a ρ S else evE x b ρ S := rfl
theorem e_ife {t a b : E} : evE x (.ife t a b) ρ S = (evE x t ρ S).bind (j_ife x a b ρ) := by
  simp only [evE]
  first | rfl | (congr; done) | (congr; funext v S1; cases v <;> rfl)
def szt (b : Bool) (A : R Val) : R Val := if b = true then A else .stuck
theorem szt_t {A : R Val} : szt true A = A := rfl
def j_tup (vs : List Val) (S : Store) : R Val := szt (szb vs.length) (.ok (.tup vs) S)
theorem j_tup_ : j_tup vs S = szt (szb vs.length) (.ok (.tup vs) S) := rfl
def j_lst (vs : List Val) (S : Store) : R Val := szt (szb vs.length) (.ok (.lst vs) S)
theorem j_lst_ : j_lst vs S = szt (szb vs.length) (.ok (.lst vs) S) := rfl
theorem e_tup {es : List E} : evE x (.tup es) ρ S = (evs x es ρ S).bind j_tup := by
  simp only [evE]
  rfl
theorem e_lst {es : List E} : evE x (.lst es) ρ S = (evs x es ρ S).bind j_lst := by
  simp only [evE]
  rfl
def j_ix (v w : Val) (S : Store) : R Val := R.of (ixV (deref S v) w) S
theorem j_ix_ : j_ix v w S = R.of (ixV (deref S v) w) S := rfl
theorem e_ix {a b : E} : evE x (.ix a b) ρ S = (evE x a ρ S).bind (k2 j_ix x b ρ) := by
  simp only [evE]
  rfl
def j_sl3 (v : Val) (l h : Option Int) (S : Store) : R Val := R.of (slV (deref S v) l h) S
theorem j_sl3_ {l h : Option Int} : j_sl3 v l h S = R.of (slV (deref S v) l h) S := rfl
def j_sl2 (x : Cfg) (hi : Option E) (ρ : Env) (v : Val) (l : Option Int) (S : Store) : R Val := (evO x hi ρ S).bind (j_sl3 v l)
theorem j_sl2_ {hi : Option E} {l : Option Int} : j_sl2 x hi ρ v l S = (evO x hi ρ S).bind (j_sl3 v l) := rfl
def j_sl (x : Cfg) (lo hi : Option E) (ρ : Env) (v : Val) (S : Store) : R Val := (evO x lo ρ S).bind (j_sl2 x hi ρ v)
theorem j_sl_ {lo hi : Option E} : j_sl x lo hi ρ v S = (evO x lo ρ S).bind (j_sl2 x hi ρ v) := rfl
theorem e_sl {a : E} {lo hi : Option E} : evE x (.sl a lo hi) ρ S = (evE x a ρ S).bind (j_sl x lo hi ρ) := by
  simp only [evE]
  rfl
theorem e_call {f : Nat} {es : List E} : evE x (.call f es) ρ S = (evs x es ρ S).bind (x.cl f) := by simp only [evE]
def j_fld (f : Nat) (v : Val) (S : Store) : R Val := match fieldsOf S v with
  | some (_, fs) => R.of (fget f fs) S
  | none => .stuck
theorem j_fld_ {f k : Nat} {fs : List (Nat × Val)} : j_fld f (.obj k fs) S = R.of (fget f fs) S := rfl
theorem e_fld {a : E} {f : Nat} : evE x (.fld a f) ρ S = (evE x a ρ S).bind (j_fld f) := by
  simp only [evE]
  rfl
theorem e_mk {f : Nat} {es : List E} : evE x (.mk f es) ρ S = (evs x es ρ S).bind (mkObj x f) := by simp only [evE]
def j_mth2 (x : Cfg) (f : Nat) (S1 : Store) (v : Val) (vs : List Val) (S : Store) : R Val := callM x v f vs S1 S
theorem j_mth2_ {f : Nat} : j_mth2 x f S1 v vs S = callM x v f vs S1 S := rfl
def j_mth (x : Cfg) (es : List E) (f : Nat) (ρ : Env) (v : Val) (S : Store) : R Val := (evs x es ρ S).bind (j_mth2 x f S v)
theorem j_mth_ {es : List E} {f : Nat} : j_mth x es f ρ v S = (evs x es ρ S).bind (j_mth2 x f S v) := rfl
theorem e_mth {o : E} {f : Nat} {es : List E} : evE x (.mth o f es) ρ S = (evE x o ρ S).bind (j_mth x es f ρ) := by
  simp only [evE]
  rfl
def j_bi (b : Bi) (vs : List Val) (S : Store) : R Val := R.of (biV b (vs.map (deref S))) S
theorem j_bi_ {b : Bi} : j_bi b vs S = R.of (biV b (vs.map (deref S))) S := rfl
theorem e_bi {b : Bi} {es : List E} : evE x (.bi b es) ρ S = (evs x es ρ S).bind (j_bi b) := by
  simp only [evE]
  rfl
def j_bm2 (b : Bm) (v : Val) (vs : List Val) (S : Store) : R Val := R.of (bmV b (deref S v) vs) S
theorem j_bm2_ {b : Bm} : j_bm2 b v vs S = R.of (bmV b (deref S v) vs) S := rfl
def j_bm (x : Cfg) (b : Bm) (es : List E) (ρ : Env) (v : Val) (S : Store) : R Val := (evs x es ρ S).bind (j_bm2 b v)
theorem j_bm_ {b : Bm} {es : List E} : j_bm x b es ρ v S = (evs x es ρ S).bind (j_bm2 b v) := rfl
theorem e_bm {b : Bm} {o : E} {es : List E} : evE x (.bm b o es) ρ S = (evE x o ρ S).bind (j_bm x b es ρ) := by
  simp only [evE]
  rfl
def skV (x : Cfg) (f : Nat) (v : Val) (S : Store) : R Val := match deref S v with
  | .lst xs => (keyL (fun y S => x.cl f [y] S) xs S).bind fun ks S2 => .ok (.lst ((isort (fun a b => lexLe a.1 b.1) ks).map (·.2))) S2
  | _ => .stuck
theorem e_sortk {f : Nat} {a : E} : evE x (.sortk f a) ρ S = (evE x a ρ S).bind (skV x f) := by
  simp only [evE]
  rfl
def j_isi (G : Prog) (t : Ty) (v : Val) (S : Store) : R Val := obl (tyV G S (deref S v) t) S
theorem j_isi_ {G : Prog} {t : Ty} : j_isi G t v S = obl (tyV G S (deref S v) t) S := rfl
theorem e_isi {a : E} {t : Ty} : evE x (.isi a t) ρ S = (evE x a ρ S).bind (j_isi x.G t) := by
  simp only [evE]
  rfl
def cmpB (x : Cfg) (e : E) (tg : Tg) (cd : Option E) (ρ : Env) (y : Val) (S : Store) : R (Option Val) := match bindT tg y ρ with
      | some ρ1 => (match evC x cd ρ1 S with
        | .ok true S1 => (match evE x e ρ1 S1 with
          | .ok w S2 => .ok (some w) S2
          | _ => .stuck)
        | .ok false S1 => .ok none S1
        | _ => .stuck)
      | none => .stuck
def j_lok (vs : List Val) (S : Store) : R Val := .ok (.lst vs) S
theorem j_lok_ : j_lok vs S = .ok (.lst vs) S := rfl
def compV (x : Cfg) (e : E) (tg : Tg) (cd : Option E) (ρ : Env) (o : Option (List Val)) (S : Store) : R Val := match o with
  | some xs => if szb xs.length = true then (compL (cmpB x e tg cd ρ) xs S).bind j_lok else .stuck
  | none => .stuck
def j_comp (x : Cfg) (e : E) (tg : Tg) (cd : Option E) (ρ : Env) (v : Val) (S : Store) : R Val := compV x e tg cd ρ (itemsV v) S
theorem j_comp_ {e : E} {tg : Tg} {cd : Option E} : j_comp x e tg cd ρ v S = compV x e tg cd ρ (itemsV v) S := rfl
theorem e_comp {e it : E} {tg : Tg} {cd : Option E} : evE x (.comp e tg it cd) ρ S = (evE x it ρ S).bind (j_comp x e tg cd ρ) := by
  simp only [evE]
  rfl
theorem compV_some {e : E} {tg : Tg} {cd : Option E} {xs : List Val} (h : szb xs.length = true) : compV x e tg cd ρ (some xs) S = (compL (cmpB x e tg cd ρ) xs S).bind j_lok := by
  simp only [compV, h, if_true]
/-- a comprehension's turn -/
def cpR (r : R Val) : R (Option Val) := match r with
  | .ok w S2 => .ok (some w) S2
  | _ => .stuck
theorem cpR_ok : cpR (.ok v S) = .ok (some v) S := rfl
theorem cpR_ite {p : Prop} [Decidable p] {a b : R Val} : cpR (if p then a else b) = if p then cpR a else cpR b := by
  by_cases h : p <;> simp only [h, if_true, if_false]
theorem cB_none {e : E} {tg : Tg} {y : Val} (h : bindT tg y ρ = some ρ1) : cmpB x e tg none ρ y S = cpR (evE x e ρ1 S) := by
  simp only [cmpB, h, evC]
  rfl
theorem cB_one {e : E} {y : Val} : cmpB x e (.one i) none ρ y S = cpR (evE x e (ρ.set i (some y)) S) := cB_none rfl
theorem cB_many {e : E} {is : List Nat} (h : bindMany is vs ρ = some ρ1) : cmpB x e (.many is) none ρ (.tup vs) S = cpR (evE x e ρ1 S) := cB_none h
def cdX (x : Cfg) (e : E) (ρ : Env) (r : R Val) : R (Option Val) := match r with
  | .ok (.bl true) S1 => cpR (evE x e ρ S1)
  | .ok (.bl false) S1 => .ok none S1
  | _ => .stuck
theorem cdX_ok {e : E} {b : Bool} : cdX x e ρ (.ok (.bl b) S) = if b = true then cpR (evE x e ρ S) else .ok none S := by cases b <;> rfl
theorem cB_cd {e c : E} {tg : Tg} {y : Val} (h : bindT tg y ρ = some ρ1) : cmpB x e tg (some c) ρ y S = cdX x e ρ1 (evE x c ρ1 S) := by
  simp only [cmpB, h, evC]
  cases e1 : evE x c ρ1 S with
  | ok v S1 =>
    simp only [R.bind]
    cases v with
    | bl b => cases b <;> rfl
    | _ => rfl
  | exn c1 S1 => rfl
  | stuck => rfl
theorem cB_cd1 {e c : E} {y : Val} : cmpB x e (.one i) (some c) ρ y S = cdX x e (ρ.set i (some y)) (evE x c (ρ.set i (some y)) S) := cB_cd rfl
theorem compL_enc {γ : Type} {f : Val → Store → R (Option Val)} (enc : γ → Val) (g : γ → Val) : ∀ (xs : List γ), (∀ a ∈ xs, f (enc a) S = .ok (some (g a)) S) → compL f (xs.map enc) S = .ok (xs.map g) S
  | [], _ => rfl
  | a :: xs, h => by
    rw [List.map_cons, List.map_cons]
    simp only [compL, h a List.mem_cons_self, compL_enc enc g xs fun b hb => h b (List.mem_cons_of_mem _ hb)]
theorem e_d0 {t : Bool} : evE x (.d0 t) ρ S = .ok (if t = true then .dT [] else .dK []) S := by simp only [evE]
def lstO (o : Option (List Val)) (S : Store) : R Val := match o with
  | some xs => .ok (.lst xs) S
  | none => .stuck
theorem lstO_some {xs : List Val} : lstO (some xs) S = .ok (.lst xs) S := rfl
def j_rng (vs : List Val) (S : Store) : R Val := lstO (rngV vs) S
theorem j_rng_ : j_rng vs S = lstO (rngV vs) S := rfl
theorem e_rng {es : List E} : evE x (.rng es) ρ S = (evs x es ρ S).bind j_rng := by
  simp only [evE]
  rfl
def zipV (v w : Val) : Option (List Val) := match v, w with
  | .lst xs, .lst ys => some ((xs.zip ys).map fun p => .tup [p.1, p.2])
  | _, _ => none
theorem zipV_l {xs ys : List Val} : zipV (.lst xs) (.lst ys) = some ((xs.zip ys).map fun p => .tup [p.1, p.2]) := rfl
def j_zip (v w : Val) (S : Store) : R Val := lstO (zipV v w) S
theorem j_zip_ : j_zip v w S = lstO (zipV v w) S := rfl
theorem e_zip {a b : E} : evE x (.zip a b) ρ S = (evE x a ρ S).bind (k2 j_zip x b ρ) := by
  simp only [evE]
  congr
  funext v S1
  simp only [k2]
  congr
  funext w S2
  cases v <;> cases w <;> rfl
def revV (v : Val) : Option (List Val) := match v with
  | .lst xs => some xs.reverse
  | _ => none
theorem revV_l {xs : List Val} : revV (.lst xs) = some xs.reverse := rfl
def j_rev (v : Val) (S : Store) : R Val := lstO (revV v) S
theorem j_rev_ : j_rev v S = lstO (revV v) S := rfl
theorem e_rev {a : E} : evE x (.rev a) ρ S = (evE x a ρ S).bind j_rev := by
  simp only [evE]
  first | rfl | (congr; done) | (congr; funext v S1; cases v <;> rfl)
def j_cons (v : Val) (vs : List Val) (S : Store) : R (List Val) := .ok (v :: vs) S
theorem j_cons_ : j_cons v vs S = .ok (v :: vs) S := rfl
def k_es (x : Cfg) (es : List E) (ρ : Env) (v : Val) (S : Store) : R (List Val) := (evs x es ρ S).bind (j_cons v)
theorem k_es_ {es : List E} : k_es x es ρ v S = (evs x es ρ S).bind (j_cons v) := rfl
theorem es_n : evs x [] ρ S = .ok [] S := by simp only [evs]
theorem es_c {e : E} {es : List E} : evs x (e :: es) ρ S = (evE x e ρ S).bind (k_es x es ρ) := by
  simp only [evs]
  rfl
theorem eO_n : evO x none ρ S = .ok none S := by simp only [evO]
def intO (v : Val) (S : Store) : R (Option Int) := match v with
  | .int i => .ok (some i) S
  | _ => .stuck
theorem intO_i {j : Int} : intO (.int j) S = .ok (some j) S := rfl
theorem eO_s {e : E} : evO x (some e) ρ S = (evE x e ρ S).bind intO := by
  simp only [evO]
  first | rfl | (congr; done) | (congr; funext v S1; cases v <;> rfl)
theorem eB_1 {k : Bool} {e : E} : evB x k [e] ρ S = evE x e ρ S := by simp only [evB]
def bB (k : Bool) (x : Cfg) (es : List E) (ρ : Env) (v : Val) (S : Store) : R Val := match v with
  | .bl b => if b = k then evB x k es ρ S else .ok (.bl b) S
  | _ => .stuck
theorem bB_tt {es : List E} : bB true x es ρ (.bl true) S = evB x true es ρ S := rfl
theorem bB_tf {es : List E} : bB true x es ρ (.bl false) S = .ok (.bl false) S := rfl
theorem bB_ft {es : List E} : bB false x es ρ (.bl true) S = .ok (.bl true) S := rfl
theorem bB_ff {es : List E} : bB false x es ρ (.bl false) S = evB x false es ρ S := rfl
theorem bB_t {es : List E} {b : Bool} : bB true x es ρ (.bl b) S = if b = true then evB x true es ρ S else .ok (.bl false) S := by cases b <;> rfl
theorem bB_f {es : List E} {b : Bool} : bB false x es ρ (.bl b) S = if b = true then .ok (.bl true) S else evB x false es ρ S := by cases b <;> rfl
theorem eB_c {k : Bool} {e e1 : E} {es : List E} : evB x k (e :: e1 :: es) ρ S = (evE x e ρ S).bind (bB k x (e1 :: es) ρ) := by
  conv => lhs; simp only [evB]
  cases es with
  | nil =>
    simp only [evB]
    first | rfl | (congr; done) | (congr; funext v S1; cases v <;> (first | rfl | simp only [bB, evB]))
  | cons a b =>
    simp only [evB]
    first | rfl | (congr; done) | (congr; funext v S1; cases v <;> (first | rfl | simp only [bB, evB]))
/-! statements -/
theorem q_n : evSs x [] ρ S = .nx ρ S := evSs_nil
theorem q_c {s : St} {r : List St} : evSs x (s :: r) ρ S = (evS x s ρ S).seq (evSs x r) := by
  rw [evSs_cons]
  rfl
theorem q_1 {s : St} : evSs x [s] ρ S = evS x s ρ S := by
  rw [evSs_cons]
  cases evS x s ρ S <;> first | rfl | exact evSs_nil
theorem q_app {b : List St} : ∀ {a : List St} {ρ : Env} {S : Store}, evSs x (a ++ b) ρ S = (evSs x a ρ S).seq (evSs x b)
  | [], ρ, S => by rw [q_n]; rfl
  | s :: a, ρ, S => by
    rw [List.cons_append, q_c, q_c]
    cases evS x s ρ S with
    | nx ρ1 S1 => exact q_app (a := a)
    | _ => rfl
/-- a body in two parts -/
theorem q_split (n : Nat) {l : List St} : evSs x l ρ S = (evSs x (l.take n) ρ S).seq (evSs x (l.drop n)) := by
  rw [← q_app, List.take_append_drop]
def z_setK (i : Nat) (ρ : Env) (v : Val) (S : Store) : RS := .nx (ρ.set i (some v)) S
theorem z_setK_ : z_setK i ρ v S = .nx (ρ.set i (some v)) S := rfl
theorem z_set {e : E} : evS x (.set i e) ρ S = (evE x e ρ S).toS ρ (z_setK i ρ) := by
  simp only [evS]
  rfl
def unpV (is : List Nat) (v : Val) (ρ : Env) : Option Env := match v with
  | .tup vs => bindMany is vs ρ
  | _ => none
theorem unpV_t {is : List Nat} : unpV is (.tup vs) ρ = bindMany is vs ρ := rfl
def nxO (o : Option Env) (S : Store) : RS := match o with
  | some ρ => .nx ρ S
  | none => .stuck
theorem nxO_s : nxO (some ρ) S = .nx ρ S := rfl
def z_unpK (is : List Nat) (ρ : Env) (v : Val) (S : Store) : RS := nxO (unpV is v ρ) S
theorem z_unpK_ {is : List Nat} : z_unpK is ρ v S = nxO (unpV is v ρ) S := rfl
theorem z_unp {is : List Nat} {e : E} : evS x (.unp is e) ρ S = (evE x e ρ S).toS ρ (z_unpK is ρ) := by
  simp only [evS]
  first | rfl | (congr; done) | (congr; funext v S1; cases v <;> rfl)
def z_exK (ρ : Env) (v : Val) (S : Store) : RS := .nx ρ S
theorem z_exK_ : z_exK ρ v S = .nx ρ S := rfl
theorem z_ex {e : E} : evS x (.ex e) ρ S = (evE x e ρ S).toS ρ (z_exK ρ) := by
  simp only [evS]
  rfl
theorem z_ret {e : E} : evS x (.ret e) ρ S = (evE x e ρ S).toS ρ RS.ret := by simp only [evS]
theorem z_retN : evS x .retN ρ S = .ret .non S := by simp only [evS]
def z_ifeK (x : Cfg) (a b : List St) (ρ : Env) (v : Val) (S : Store) : RS := match v with
  | .bl c => if c = true then evSs x a ρ S else evSs x b ρ S
  | _ => .stuck
theorem z_ifeK_ {a b : List St} {c : Bool} : z_ifeK x a b ρ (.bl c) S = if c = true then evSs x a ρ S else evSs x b ρ S := rfl
theorem z_ife {c : E} {a b : List St} : evS x (.ife c a b) ρ S = (evE x c ρ S).toS ρ (z_ifeK x a b ρ) := by
  simp only [evS]
  first | rfl | (congr; done) | (congr; funext v S1; cases v <;> rfl)
def forB (x : Cfg) (tg : Tg) (body : List St) (y : Val) (ρ : Env) (S : Store) : RS := match bindT tg y ρ with
  | some ρ1 => evSs x body ρ1 S
  | none => .stuck
def forV (x : Cfg) (tg : Tg) (body : List St) (o : Option (List Val)) (ρ : Env) (S : Store) : RS := match o with
  | some xs => forL (forB x tg body) xs ρ S
  | none => .stuck
def z_forK (x : Cfg) (tg : Tg) (body : List St) (ρ : Env) (v : Val) (S : Store) : RS := forV x tg body (itemsV v) ρ S
theorem z_forK_ {tg : Tg} {body : List St} : z_forK x tg body ρ v S = forV x tg body (itemsV v) ρ S := rfl
theorem z_for {tg : Tg} {it : E} {body : List St} : evS x (.for' tg it body) ρ S = (evE x it ρ S).toS ρ (z_forK x tg body ρ) := by
  simp only [evS]
  rfl
theorem forV_s {tg : Tg} {body : List St} {xs : List Val} : forV x tg body (some xs) ρ S = forL (forB x tg body) xs ρ S := rfl
theorem fB_one {body : List St} {y : Val} : forB x (.one i) body y ρ S = evSs x body (ρ.set i (some y)) S := rfl
theorem fB_many {body : List St} {is : List Nat} (h : bindMany is vs ρ = some ρ1) : forB x (.many is) body (.tup vs) ρ S = evSs x body ρ1 S := by
  simp only [forB, bindT, h]
theorem bm_n : bindMany [] [] ρ = some ρ := rfl
theorem bm_c {i : Nat} {is : List Nat} {v : Val} : bindMany (i :: is) (v :: vs) ρ = bindMany is vs (ρ.set i (some v)) := rfl
theorem z_whil {c : E} {body : List St} : evS x (.whil c body) ρ S = whileL (evE x c) (evSs x body) x.wf ρ S := by simp only [evS]
theorem z_brk : evS x .brk ρ S = .brk ρ S := by simp only [evS]
theorem z_cnt : evS x .cnt ρ S = .cnt ρ S := by simp only [evS]
theorem z_pas : evS x .pas ρ S = .nx ρ S := by simp only [evS]
theorem z_rais : evS x (.rais c) ρ S = .exn c ρ S := by simp only [evS]
def mvR (is : List Nat) (r : RS) : RS := match r with
    | .nx ρ1 S1 => .nx (dropE is ρ1) S1
    | .exn c ρ1 S1 => .exn c (dropE is ρ1) S1
    | .ret v S1 => .ret v S1
    | _ => .stuck
theorem mvR_nx {is : List Nat} : mvR is (.nx ρ S) = .nx (dropE is ρ) S := rfl
theorem mvR_ret {is : List Nat} : mvR is (.ret v S) = .ret v S := rfl
theorem mvR_exn {is : List Nat} : mvR is (.exn c ρ S) = .exn c (dropE is ρ) S := rfl
theorem z_mvs {is : List Nat} {s : St} : evS x (.mvs is s) ρ S = mvR is (evS x s ρ S) := by
  simp only [evS]
  cases evS x s ρ S <;> rfl
theorem dE_n : dropE [] ρ = ρ := rfl
theorem dE_c {is : List Nat} : dropE (i :: is) ρ = dropE is (ρ.set i none) := rfl
def trR (x : Cfg) (hs : List (Nat × Option Nat × List St)) (r : RS) : RS := match r with
    | .exn c ρ1 S1 => evH x c hs ρ1 S1
    | r => r
theorem trR_nx {hs : List (Nat × Option Nat × List St)} : trR x hs (.nx ρ S) = .nx ρ S := rfl
theorem trR_ret {hs : List (Nat × Option Nat × List St)} : trR x hs (.ret v S) = .ret v S := rfl
theorem trR_exn {hs : List (Nat × Option Nat × List St)} : trR x hs (.exn c ρ S) = evH x c hs ρ S := rfl
theorem tr_ite {hs : List (Nat × Option Nat × List St)} {p : Prop} [Decidable p] {a b : RS} : trR x hs (if p then a else b) = if p then trR x hs a else trR x hs b := by
  by_cases h : p <;> simp only [h, if_true, if_false]
theorem z_tr {body : List St} {hs : List (Nat × Option Nat × List St)} : evS x (.tr body hs) ρ S = trR x hs (evSs x body ρ S) := by
  simp only [evS]
  cases evSs x body ρ S <;> rfl
theorem h_n : evH x c [] ρ S = .exn c ρ S := by simp only [evH]
def caR (x : Cfg) (c : Nat) (o : Option Nat) (s : List St) (r : List (Nat × Option Nat × List St)) (ρ : Env) (S : Store) (q : Option Bool) : RS := match q with
  | some b => if b = true then unAs o (evSs x s (asSlot o (some (.exc c)) ρ) S) else evH x c r ρ S
  | none => .stuck
theorem caR_t {o : Option Nat} {s : List St} {r : List (Nat × Option Nat × List St)} : caR x c o s r ρ S (some true) = unAs o (evSs x s (asSlot o (some (.exc c)) ρ) S) := rfl
theorem caR_f {o : Option Nat} {s : List St} {r : List (Nat × Option Nat × List St)} : caR x c o s r ρ S (some false) = evH x c r ρ S := rfl
theorem h_c {d : Nat} {o : Option Nat} {s : List St} {r : List (Nat × Option Nat × List St)} : evH x c ((d, o, s) :: r) ρ S = caR x c o s r ρ S (catches x.G c d) := by
  simp only [evH]
  cases catches x.G c d with
  | none => rfl
  | some b => cases b <;> rfl
theorem unAs_nx {o : Option Nat} : unAs o (.nx ρ S) = .nx (asSlot o none ρ) S := rfl
theorem unAs_ret {o : Option Nat} : unAs o (.ret v S) = .ret v S := rfl
theorem aS_s {o : Option Val} : asSlot (some i) o ρ = ρ.set i o := rfl
theorem aS_n {o : Option Val} : asSlot none o ρ = ρ := rfl
/-- a list in a slot is changed -/
def muO (i : Nat) (w : Option Val) (ρ : Env) (S : Store) : RS := match w with
  | some w => .nx (ρ.set i (some w)) S
  | none => .stuck
theorem muO_s : muO i (some w) ρ S = .nx (ρ.set i (some w)) S := rfl
def k_mu (i : Nat) (m : Mu) (v : Val) (ρ : Env) (vs : List Val) (S : Store) : RS := muO i (muV m v (muDe m S vs)) ρ S
theorem k_mu_ {m : Mu} : k_mu i m v ρ vs S = muO i (muV m v (muDe m S vs)) ρ S := rfl
def muK (x : Cfg) (i : Nat) (m : Mu) (v : Val) (ρ : Env) (S : Store) (t : Bool) : RS := if t = true then (evs x (muArgs m) ρ S).toS ρ (k_mu i m v ρ) else .stuck
theorem muK_t {m : Mu} : muK x i m v ρ S true = (evs x (muArgs m) ρ S).toS ρ (k_mu i m v ρ) := rfl
theorem z_mu {m : Mu} (h : ρ[i]? = some (some v)) : evS x (.mu (.slot i) m) ρ S = muK x i m v ρ S (muTy m v) := by
  simp only [evS, plE, evs, R.toS, plV, h, muP, muK]
  split
  · congr
  · rfl

theorem z_mu0 {m : Mu} : evS x (.mu (.slot 0) m) (some v :: ρ) S = muK x 0 m v (some v :: ρ) S (muTy m v) := z_mu rfl
theorem z_mu1 {v0 : Option Val} {m : Mu} : evS x (.mu (.slot 1) m) (v0 :: some v :: ρ) S = muK x 1 m v (v0 :: some v :: ρ) S (muTy m v) := z_mu rfl
theorem z_mu2 {v0 v1 : Option Val} {m : Mu} : evS x (.mu (.slot 2) m) (v0 :: v1 :: some v :: ρ) S = muK x 2 m v (v0 :: v1 :: some v :: ρ) S (muTy m v) := z_mu rfl
theorem z_mu3 {v0 v1 v2 : Option Val} {m : Mu} : evS x (.mu (.slot 3) m) (v0 :: v1 :: v2 :: some v :: ρ) S = muK x 3 m v (v0 :: v1 :: v2 :: some v :: ρ) S (muTy m v) := z_mu rfl
theorem z_mu4 {v0 v1 v2 v3 : Option Val} {m : Mu} : evS x (.mu (.slot 4) m) (v0 :: v1 :: v2 :: v3 :: some v :: ρ) S = muK x 4 m v (v0 :: v1 :: v2 :: v3 :: some v :: ρ) S (muTy m v) := z_mu rfl
theorem z_mu5 {v0 v1 v2 v3 v4 : Option Val} {m : Mu} : evS x (.mu (.slot 5) m) (v0 :: v1 :: v2 :: v3 :: v4 :: some v :: ρ) S = muK x 5 m v (v0 :: v1 :: v2 :: v3 :: v4 :: some v :: ρ) S (muTy m v) := z_mu rfl
theorem z_mu6 {v0 v1 v2 v3 v4 v5 : Option Val} {m : Mu} : evS x (.mu (.slot 6) m) (v0 :: v1 :: v2 :: v3 :: v4 :: v5 :: some v :: ρ) S = muK x 6 m v (v0 :: v1 :: v2 :: v3 :: v4 :: v5 :: some v :: ρ) S (muTy m v) := z_mu rfl
theorem z_mu7 {v0 v1 v2 v3 v4 v5 v6 : Option Val} {m : Mu} : evS x (.mu (.slot 7) m) (v0 :: v1 :: v2 :: v3 :: v4 :: v5 :: v6 :: some v :: ρ) S = muK x 7 m v (v0 :: v1 :: v2 :: v3 :: v4 :: v5 :: v6 :: some v :: ρ) S (muTy m v) := z_mu rfl
theorem z_mu8 {v0 v1 v2 v3 v4 v5 v6 v7 : Option Val} {m : Mu} : evS x (.mu (.slot 8) m) (v0 :: v1 :: v2 :: v3 :: v4 :: v5 :: v6 :: v7 :: some v :: ρ) S = muK x 8 m v (v0 :: v1 :: v2 :: v3 :: v4 :: v5 :: v6 :: v7 :: some v :: ρ) S (muTy m v) := z_mu rfl
theorem z_mu9 {v0 v1 v2 v3 v4 v5 v6 v7 v8 : Option Val} {m : Mu} : evS x (.mu (.slot 9) m) (v0 :: v1 :: v2 :: v3 :: v4 :: v5 :: v6 :: v7 :: v8 :: some v :: ρ) S = muK x 9 m v (v0 :: v1 :: v2 :: v3 :: v4 :: v5 :: v6 :: v7 :: v8 :: some v :: ρ) S (muTy m v) := z_mu rfl
theorem z_mu10 {v0 v1 v2 v3 v4 v5 v6 v7 v8 v9 : Option Val} {m : Mu} : evS x (.mu (.slot 10) m) (v0 :: v1 :: v2 :: v3 :: v4 :: v5 :: v6 :: v7 :: v8 :: v9 :: some v :: ρ) S = muK x 10 m v (v0 :: v1 :: v2 :: v3 :: v4 :: v5 :: v6 :: v7 :: v8 :: v9 :: some v :: ρ) S (muTy m v) := z_mu rfl
theorem z_mu11 {v0 v1 v2 v3 v4 v5 v6 v7 v8 v9 v10 : Option Val} {m : Mu} : evS x (.mu (.slot 11) m) (v0 :: v1 :: v2 :: v3 :: v4 :: v5 :: v6 :: v7 :: v8 :: v9 :: v10 :: some v :: ρ) S = muK x 11 m v (v0 :: v1 :: v2 :: v3 :: v4 :: v5 :: v6 :: v7 :: v8 :: v9 :: v10 :: some v :: ρ) S (muTy m v) := z_mu rfl
theorem z_mu12 {v0 v1 v2 v3 v4 v5 v6 v7 v8 v9 v10 v11 : Option Val} {m : Mu} : evS x (.mu (.slot 12) m) (v0 :: v1 :: v2 :: v3 :: v4 :: v5 :: v6 :: v7 :: v8 :: v9 :: v10 :: v11 :: some v :: ρ) S = muK x 12 m v (v0 :: v1 :: v2 :: v3 :: v4 :: v5 :: v6 :: v7 :: v8 :: v9 :: v10 :: v11 :: some v :: ρ) S (muTy m v) := z_mu rfl
theorem z_mu13 {v0 v1 v2 v3 v4 v5 v6 v7 v8 v9 v10 v11 v12 : Option Val} {m : Mu} : evS x (.mu (.slot 13) m) (v0 :: v1 :: v2 :: v3 :: v4 :: v5 :: v6 :: v7 :: v8 :: v9 :: v10 :: v11 :: v12 :: some v :: ρ) S = muK x 13 m v (v0 :: v1 :: v2 :: v3 :: v4 :: v5 :: v6 :: v7 :: v8 :: v9 :: v10 :: v11 :: v12 :: some v :: ρ) S (muTy m v) := z_mu rfl
theorem z_mu14 {v0 v1 v2 v3 v4 v5 v6 v7 v8 v9 v10 v11 v12 v13 : Option Val} {m : Mu} : evS x (.mu (.slot 14) m) (v0 :: v1 :: v2 :: v3 :: v4 :: v5 :: v6 :: v7 :: v8 :: v9 :: v10 :: v11 :: v12 :: v13 :: some v :: ρ) S = muK x 14 m v (v0 :: v1 :: v2 :: v3 :: v4 :: v5 :: v6 :: v7 :: v8 :: v9 :: v10 :: v11 :: v12 :: v13 :: some v :: ρ) S (muTy m v) := z_mu rfl
theorem z_mu15 {v0 v1 v2 v3 v4 v5 v6 v7 v8 v9 v10 v11 v12 v13 v14 : Option Val} {m : Mu} : evS x (.mu (.slot 15) m) (v0 :: v1 :: v2 :: v3 :: v4 :: v5 :: v6 :: v7 :: v8 :: v9 :: v10 :: v11 :: v12 :: v13 :: v14 :: some v :: ρ) S = muK x 15 m v (v0 :: v1 :: v2 :: v3 :: v4 :: v5 :: v6 :: v7 :: v8 :: v9 :: v10 :: v11 :: v12 :: v13 :: v14 :: some v :: ρ) S (muTy m v) := z_mu rfl
theorem z_mu16 {v0 v1 v2 v3 v4 v5 v6 v7 v8 v9 v10 v11 v12 v13 v14 v15 : Option Val} {m : Mu} : evS x (.mu (.slot 16) m) (v0 :: v1 :: v2 :: v3 :: v4 :: v5 :: v6 :: v7 :: v8 :: v9 :: v10 :: v11 :: v12 :: v13 :: v14 :: v15 :: some v :: ρ) S = muK x 16 m v (v0 :: v1 :: v2 :: v3 :: v4 :: v5 :: v6 :: v7 :: v8 :: v9 :: v10 :: v11 :: v12 :: v13 :: v14 :: v15 :: some v :: ρ) S (muTy m v) := z_mu rfl
theorem z_mu17 {v0 v1 v2 v3 v4 v5 v6 v7 v8 v9 v10 v11 v12 v13 v14 v15 v16 : Option Val} {m : Mu} : evS x (.mu (.slot 17) m) (v0 :: v1 :: v2 :: v3 :: v4 :: v5 :: v6 :: v7 :: v8 :: v9 :: v10 :: v11 :: v12 :: v13 :: v14 :: v15 :: v16 :: some v :: ρ) S = muK x 17 m v (v0 :: v1 :: v2 :: v3 :: v4 :: v5 :: v6 :: v7 :: v8 :: v9 :: v10 :: v11 :: v12 :: v13 :: v14 :: v15 :: v16 :: some v :: ρ) S (muTy m v) := z_mu rfl
theorem z_mu18 {v0 v1 v2 v3 v4 v5 v6 v7 v8 v9 v10 v11 v12 v13 v14 v15 v16 v17 : Option Val} {m : Mu} : evS x (.mu (.slot 18) m) (v0 :: v1 :: v2 :: v3 :: v4 :: v5 :: v6 :: v7 :: v8 :: v9 :: v10 :: v11 :: v12 :: v13 :: v14 :: v15 :: v16 :: v17 :: some v :: ρ) S = muK x 18 m v (v0 :: v1 :: v2 :: v3 :: v4 :: v5 :: v6 :: v7 :: v8 :: v9 :: v10 :: v11 :: v12 :: v13 :: v14 :: v15 :: v16 :: v17 :: some v :: ρ) S (muTy m v) := z_mu rfl
theorem z_mu19 {v0 v1 v2 v3 v4 v5 v6 v7 v8 v9 v10 v11 v12 v13 v14 v15 v16 v17 v18 : Option Val} {m : Mu} : evS x (.mu (.slot 19) m) (v0 :: v1 :: v2 :: v3 :: v4 :: v5 :: v6 :: v7 :: v8 :: v9 :: v10 :: v11 :: v12 :: v13 :: v14 :: v15 :: v16 :: v17 :: v18 :: some v :: ρ) S = muK x 19 m v (v0 :: v1 :: v2 :: v3 :: v4 :: v5 :: v6 :: v7 :: v8 :: v9 :: v10 :: v11 :: v12 :: v13 :: v14 :: v15 :: v16 :: v17 :: v18 :: some v :: ρ) S (muTy m v) := z_mu rfl
theorem z_mu20 {v0 v1 v2 v3 v4 v5 v6 v7 v8 v9 v10 v11 v12 v13 v14 v15 v16 v17 v18 v19 : Option Val} {m : Mu} : evS x (.mu (.slot 20) m) (v0 :: v1 :: v2 :: v3 :: v4 :: v5 :: v6 :: v7 :: v8 :: v9 :: v10 :: v11 :: v12 :: v13 :: v14 :: v15 :: v16 :: v17 :: v18 :: v19 :: some v :: ρ) S = muK x 20 m v (v0 :: v1 :: v2 :: v3 :: v4 :: v5 :: v6 :: v7 :: v8 :: v9 :: v10 :: v11 :: v12 :: v13 :: v14 :: v15 :: v16 :: v17 :: v18 :: v19 :: some v :: ρ) S (muTy m v) := z_mu rfl
theorem z_mu21 {v0 v1 v2 v3 v4 v5 v6 v7 v8 v9 v10 v11 v12 v13 v14 v15 v16 v17 v18 v19 v20 : Option Val} {m : Mu} : evS x (.mu (.slot 21) m) (v0 :: v1 :: v2 :: v3 :: v4 :: v5 :: v6 :: v7 :: v8 :: v9 :: v10 :: v11 :: v12 :: v13 :: v14 :: v15 :: v16 :: v17 :: v18 :: v19 :: v20 :: some v :: ρ) S = muK x 21 m v (v0 :: v1 :: v2 :: v3 :: v4 :: v5 :: v6 :: v7 :: v8 :: v9 :: v10 :: v11 :: v12 :: v13 :: v14 :: v15 :: v16 :: v17 :: v18 :: v19 :: v20 :: some v :: ρ) S (muTy m v) := z_mu rfl
theorem z_mu22 {v0 v1 v2 v3 v4 v5 v6 v7 v8 v9 v10 v11 v12 v13 v14 v15 v16 v17 v18 v19 v20 v21 : Option Val} {m : Mu} : evS x (.mu (.slot 22) m) (v0 :: v1 :: v2 :: v3 :: v4 :: v5 :: v6 :: v7 :: v8 :: v9 :: v10 :: v11 :: v12 :: v13 :: v14 :: v15 :: v16 :: v17 :: v18 :: v19 :: v20 :: v21 :: some v :: ρ) S = muK x 22 m v (v0 :: v1 :: v2 :: v3 :: v4 :: v5 :: v6 :: v7 :: v8 :: v9 :: v10 :: v11 :: v12 :: v13 :: v14 :: v15 :: v16 :: v17 :: v18 :: v19 :: v20 :: v21 :: some v :: ρ) S (muTy m v) := z_mu rfl
theorem z_mu23 {v0 v1 v2 v3 v4 v5 v6 v7 v8 v9 v10 v11 v12 v13 v14 v15 v16 v17 v18 v19 v20 v21 v22 : Option Val} {m : Mu} : evS x (.mu (.slot 23) m) (v0 :: v1 :: v2 :: v3 :: v4 :: v5 :: v6 :: v7 :: v8 :: v9 :: v10 :: v11 :: v12 :: v13 :: v14 :: v15 :: v16 :: v17 :: v18 :: v19 :: v20 :: v21 :: v22 :: some v :: ρ) S = muK x 23 m v (v0 :: v1 :: v2 :: v3 :: v4 :: v5 :: v6 :: v7 :: v8 :: v9 :: v10 :: v11 :: v12 :: v13 :: v14 :: v15 :: v16 :: v17 :: v18 :: v19 :: v20 :: v21 :: v22 :: some v :: ρ) S (muTy m v) := z_mu rfl
theorem z_mu24 {v0 v1 v2 v3 v4 v5 v6 v7 v8 v9 v10 v11 v12 v13 v14 v15 v16 v17 v18 v19 v20 v21 v22 v23 : Option Val} {m : Mu} : evS x (.mu (.slot 24) m) (v0 :: v1 :: v2 :: v3 :: v4 :: v5 :: v6 :: v7 :: v8 :: v9 :: v10 :: v11 :: v12 :: v13 :: v14 :: v15 :: v16 :: v17 :: v18 :: v19 :: v20 :: v21 :: v22 :: v23 :: some v :: ρ) S = muK x 24 m v (v0 :: v1 :: v2 :: v3 :: v4 :: v5 :: v6 :: v7 :: v8 :: v9 :: v10 :: v11 :: v12 :: v13 :: v14 :: v15 :: v16 :: v17 :: v18 :: v19 :: v20 :: v21 :: v22 :: v23 :: some v :: ρ) S (muTy m v) := z_mu rfl
theorem z_mu25 {v0 v1 v2 v3 v4 v5 v6 v7 v8 v9 v10 v11 v12 v13 v14 v15 v16 v17 v18 v19 v20 v21 v22 v23 v24 : Option Val} {m : Mu} : evS x (.mu (.slot 25) m) (v0 :: v1 :: v2 :: v3 :: v4 :: v5 :: v6 :: v7 :: v8 :: v9 :: v10 :: v11 :: v12 :: v13 :: v14 :: v15 :: v16 :: v17 :: v18 :: v19 :: v20 :: v21 :: v22 :: v23 :: v24 :: some v :: ρ) S = muK x 25 m v (v0 :: v1 :: v2 :: v3 :: v4 :: v5 :: v6 :: v7 :: v8 :: v9 :: v10 :: v11 :: v12 :: v13 :: v14 :: v15 :: v16 :: v17 :: v18 :: v19 :: v20 :: v21 :: v22 :: v23 :: v24 :: some v :: ρ) S (muTy m v) := z_mu rfl
theorem z_mu26 {v0 v1 v2 v3 v4 v5 v6 v7 v8 v9 v10 v11 v12 v13 v14 v15 v16 v17 v18 v19 v20 v21 v22 v23 v24 v25 : Option Val} {m : Mu} : evS x (.mu (.slot 26) m) (v0 :: v1 :: v2 :: v3 :: v4 :: v5 :: v6 :: v7 :: v8 :: v9 :: v10 :: v11 :: v12 :: v13 :: v14 :: v15 :: v16 :: v17 :: v18 :: v19 :: v20 :: v21 :: v22 :: v23 :: v24 :: v25 :: some v :: ρ) S = muK x 26 m v (v0 :: v1 :: v2 :: v3 :: v4 :: v5 :: v6 :: v7 :: v8 :: v9 :: v10 :: v11 :: v12 :: v13 :: v14 :: v15 :: v16 :: v17 :: v18 :: v19 :: v20 :: v21 :: v22 :: v23 :: v24 :: v25 :: some v :: ρ) S (muTy m v) := z_mu rfl
theorem z_mu27 {v0 v1 v2 v3 v4 v5 v6 v7 v8 v9 v10 v11 v12 v13 v14 v15 v16 v17 v18 v19 v20 v21 v22 v23 v24 v25 v26 : Option Val} {m : Mu} : evS x (.mu (.slot 27) m) (v0 :: v1 :: v2 :: v3 :: v4 :: v5 :: v6 :: v7 :: v8 :: v9 :: v10 :: v11 :: v12 :: v13 :: v14 :: v15 :: v16 :: v17 :: v18 :: v19 :: v20 :: v21 :: v22 :: v23 :: v24 :: v25 :: v26 :: some v :: ρ) S = muK x 27 m v (v0 :: v1 :: v2 :: v3 :: v4 :: v5 :: v6 :: v7 :: v8 :: v9 :: v10 :: v11 :: v12 :: v13 :: v14 :: v15 :: v16 :: v17 :: v18 :: v19 :: v20 :: v21 :: v22 :: v23 :: v24 :: v25 :: v26 :: some v :: ρ) S (muTy m v) := z_mu rfl
theorem z_mu28 {v0 v1 v2 v3 v4 v5 v6 v7 v8 v9 v10 v11 v12 v13 v14 v15 v16 v17 v18 v19 v20 v21 v22 v23 v24 v25 v26 v27 : Option Val} {m : Mu} : evS x (.mu (.slot 28) m) (v0 :: v1 :: v2 :: v3 :: v4 :: v5 :: v6 :: v7 :: v8 :: v9 :: v10 :: v11 :: v12 :: v13 :: v14 :: v15 :: v16 :: v17 :: v18 :: v19 :: v20 :: v21 :: v22 :: v23 :: v24 :: v25 :: v26 :: v27 :: some v :: ρ) S = muK x 28 m v (v0 :: v1 :: v2 :: v3 :: v4 :: v5 :: v6 :: v7 :: v8 :: v9 :: v10 :: v11 :: v12 :: v13 :: v14 :: v15 :: v16 :: v17 :: v18 :: v19 :: v20 :: v21 :: v22 :: v23 :: v24 :: v25 :: v26 :: v27 :: some v :: ρ) S (muTy m v) := z_mu rfl
theorem z_mu29 {v0 v1 v2 v3 v4 v5 v6 v7 v8 v9 v10 v11 v12 v13 v14 v15 v16 v17 v18 v19 v20 v21 v22 v23 v24 v25 v26 v27 v28 : Option Val} {m : Mu} : evS x (.mu (.slot 29) m) (v0 :: v1 :: v2 :: v3 :: v4 :: v5 :: v6 :: v7 :: v8 :: v9 :: v10 :: v11 :: v12 :: v13 :: v14 :: v15 :: v16 :: v17 :: v18 :: v19 :: v20 :: v21 :: v22 :: v23 :: v24 :: v25 :: v26 :: v27 :: v28 :: some v :: ρ) S = muK x 29 m v (v0 :: v1 :: v2 :: v3 :: v4 :: v5 :: v6 :: v7 :: v8 :: v9 :: v10 :: v11 :: v12 :: v13 :: v14 :: v15 :: v16 :: v17 :: v18 :: v19 :: v20 :: v21 :: v22 :: v23 :: v24 :: v25 :: v26 :: v27 :: v28 :: some v :: ρ) S (muTy m v) := z_mu rfl
theorem ma_app {e : E} : muArgs (.app e) = [e] := rfl
theorem ma_ext {e : E} : muArgs (.ext e) = [e] := rfl
theorem ma_clr : muArgs .clr = [] := rfl
theorem ma_rev : muArgs .rev = [] := rfl
theorem ma_set {k e : E} : muArgs (.seti k e) = [e, k] := rfl
theorem md_app {e : E} : muDe (.app e) S vs = vs := rfl
theorem md_ext {e : E} : muDe (.ext e) S vs = vs.map (deref S) := rfl
theorem md_clr : muDe .clr S vs = vs := rfl
theorem md_rev : muDe .rev S vs = vs := rfl
theorem md_set {k e : E} : muDe (.seti k e) S vs = vs := rfl
theorem mu_set {k e : E} {xs : List Val} {j : Nat} {i : Int} (h : atN xs.length i = some j) : muV (.seti k e) (.lst xs) [v, .int i] = some (.lst (xs.set j v)) := by
  simp only [muV, h]
theorem cn_i {j : Int} : cnV (.int j) = .int j := rfl
theorem cn_b {b : Bool} : cnV (.bl b) = .bl b := rfl
theorem cn_n : cnV .non = .non := rfl
theorem cn_s {s : Str} : cnV (.str s) = .str s := rfl

theorem ty_int_int : (Ty.int == Ty.int) = true := rfl
theorem ty_int_bool : (Ty.int == Ty.bool) = false := rfl
theorem ty_int_str : (Ty.int == Ty.str) = false := rfl
theorem ty_int_list : (Ty.int == Ty.list) = false := rfl
theorem ty_int_tuple : (Ty.int == Ty.tuple) = false := rfl
theorem ty_int_dict : (Ty.int == Ty.dict) = false := rfl
theorem ty_bool_int : (Ty.bool == Ty.int) = false := rfl
theorem ty_bool_bool : (Ty.bool == Ty.bool) = true := rfl
theorem ty_bool_str : (Ty.bool == Ty.str) = false := rfl
theorem ty_bool_list : (Ty.bool == Ty.list) = false := rfl
theorem ty_bool_tuple : (Ty.bool == Ty.tuple) = false := rfl
theorem ty_bool_dict : (Ty.bool == Ty.dict) = false := rfl
theorem ty_str_int : (Ty.str == Ty.int) = false := rfl
theorem ty_str_bool : (Ty.str == Ty.bool) = false := rfl
theorem ty_str_str : (Ty.str == Ty.str) = true := rfl
theorem ty_str_list : (Ty.str == Ty.list) = false := rfl
theorem ty_str_tuple : (Ty.str == Ty.tuple) = false := rfl
theorem ty_str_dict : (Ty.str == Ty.dict) = false := rfl
theorem ty_list_int : (Ty.list == Ty.int) = false := rfl
theorem ty_list_bool : (Ty.list == Ty.bool) = false := rfl
theorem ty_list_str : (Ty.list == Ty.str) = false := rfl
theorem ty_list_list : (Ty.list == Ty.list) = true := rfl
theorem ty_list_tuple : (Ty.list == Ty.tuple) = false := rfl
theorem ty_list_dict : (Ty.list == Ty.dict) = false := rfl
theorem ty_tuple_int : (Ty.tuple == Ty.int) = false := rfl
theorem ty_tuple_bool : (Ty.tuple == Ty.bool) = false := rfl
theorem ty_tuple_str : (Ty.tuple == Ty.str) = false := rfl
theorem ty_tuple_list : (Ty.tuple == Ty.list) = false := rfl
theorem ty_tuple_tuple : (Ty.tuple == Ty.tuple) = true := rfl
theorem ty_tuple_dict : (Ty.tuple == Ty.dict) = false := rfl
theorem ty_dict_int : (Ty.dict == Ty.int) = false := rfl
theorem ty_dict_bool : (Ty.dict == Ty.bool) = false := rfl
theorem ty_dict_str : (Ty.dict == Ty.str) = false := rfl
theorem ty_dict_list : (Ty.dict == Ty.list) = false := rfl
theorem ty_dict_tuple : (Ty.dict == Ty.tuple) = false := rfl
theorem ty_dict_dict : (Ty.dict == Ty.dict) = true := rfl
theorem at_5 {v1 v2 v3 v4 v5 : Val} {xs : List Val} : L2.atI (v :: v1 :: v2 :: v3 :: v4 :: v5 :: xs) 5 = some v5 := by
  unfold L2.atI L2.ixN
  rw [if_pos (by omega), if_pos (by simp only [List.length_cons]; omega)]
  rfl
theorem at_6 {v1 v2 v3 v4 v5 v6 : Val} {xs : List Val} : L2.atI (v :: v1 :: v2 :: v3 :: v4 :: v5 :: v6 :: xs) 6 = some v6 := by
  unfold L2.atI L2.ixN
  rw [if_pos (by omega), if_pos (by simp only [List.length_cons]; omega)]
  rfl
theorem at_7 {v1 v2 v3 v4 v5 v6 v7 : Val} {xs : List Val} : L2.atI (v :: v1 :: v2 :: v3 :: v4 :: v5 :: v6 :: v7 :: xs) 7 = some v7 := by
  unfold L2.atI L2.ixN
  rw [if_pos (by omega), if_pos (by simp only [List.length_cons]; omega)]
  rfl
theorem at_8 {v1 v2 v3 v4 v5 v6 v7 v8 : Val} {xs : List Val} : L2.atI (v :: v1 :: v2 :: v3 :: v4 :: v5 :: v6 :: v7 :: v8 :: xs) 8 = some v8 := by
  unfold L2.atI L2.ixN
  rw [if_pos (by omega), if_pos (by simp only [List.length_cons]; omega)]
  rfl
theorem at_9 {v1 v2 v3 v4 v5 v6 v7 v8 v9 : Val} {xs : List Val} : L2.atI (v :: v1 :: v2 :: v3 :: v4 :: v5 :: v6 :: v7 :: v8 :: v9 :: xs) 9 = some v9 := by
  unfold L2.atI L2.ixN
  rw [if_pos (by omega), if_pos (by simp only [List.length_cons]; omega)]
  rfl
theorem at_10 {v1 v2 v3 v4 v5 v6 v7 v8 v9 v10 : Val} {xs : List Val} : L2.atI (v :: v1 :: v2 :: v3 :: v4 :: v5 :: v6 :: v7 :: v8 :: v9 :: v10 :: xs) 10 = some v10 := by
  unfold L2.atI L2.ixN
  rw [if_pos (by omega), if_pos (by simp only [List.length_cons]; omega)]
  rfl
theorem at_11 {v1 v2 v3 v4 v5 v6 v7 v8 v9 v10 v11 : Val} {xs : List Val} : L2.atI (v :: v1 :: v2 :: v3 :: v4 :: v5 :: v6 :: v7 :: v8 :: v9 :: v10 :: v11 :: xs) 11 = some v11 := by
  unfold L2.atI L2.ixN
  rw [if_pos (by omega), if_pos (by simp only [List.length_cons]; omega)]
  rfl
theorem szb0 : szb 0 = true := rfl
theorem szb4 : szb 4 = true := rfl
theorem szb5 : szb 5 = true := rfl
theorem szb6 : szb 6 = true := rfl
theorem szb7 : szb 7 = true := rfl
theorem szb8 : szb 8 = true := rfl
theorem szb9 : szb 9 = true := rfl
theorem szb10 : szb 10 = true := rfl
theorem szb11 : szb 11 = true := rfl
theorem szb12 : szb 12 = true := rfl
theorem szb13 : szb 13 = true := rfl
theorem szb14 : szb 14 = true := rfl
theorem szb15 : szb 15 = true := rfl
theorem szb16 : szb 16 = true := rfl
theorem szb17 : szb 17 = true := rfl
theorem szb18 : szb 18 = true := rfl
theorem szb19 : szb 19 = true := rfl
theorem szb20 : szb 20 = true := rfl
theorem szb21 : szb 21 = true := rfl
theorem szb22 : szb 22 = true := rfl
theorem szb23 : szb 23 = true := rfl
theorem szb24 : szb 24 = true := rfl
theorem szb25 : szb 25 = true := rfl
theorem szb26 : szb 26 = true := rfl
theorem szb27 : szb 27 = true := rfl
theorem szb28 : szb 28 = true := rfl
theorem szb29 : szb 29 = true := rfl
theorem szb30 : szb 30 = true := rfl
theorem szb31 : szb 31 = true := rfl
theorem szb32 : szb 32 = true := rfl
theorem szb33 : szb 33 = true := rfl
theorem szb34 : szb 34 = true := rfl
theorem szb35 : szb 35 = true := rfl
theorem szb36 : szb 36 = true := rfl
theorem szb37 : szb 37 = true := rfl
theorem szb38 : szb 38 = true := rfl
theorem szb39 : szb 39 = true := rfl
theorem bbtt : (true == true) = true := rfl
theorem bbtf : (true == false) = false := rfl
theorem bbft : (false == true) = false := rfl
theorem bbff : (false == false) = true := rfl
theorem is_bb {a b : Bool} : isV (.bl a) (.bl b) = some (a == b) := rfl
theorem eqvs_ints : ∀ L : List Int, eqvs (L.map .int) (L.map .int) = true
  | [] => rfl
  | x :: L => by simp only [List.map_cons, eqvs, eqv, eqvs_ints L, decide_true, Bool.and_self]
theorem dataOks_ints (n : Nat) : ∀ L : List Int, dataOks (n + 1) (L.map .int) = true
  | [] => rfl
  | x :: L => by simp only [List.map_cons, dataOks, dataOk, dataOks_ints n L, Bool.and_self]
theorem eq_ints (L : List Int) : eqV (.lst (L.map .int)) (.lst (L.map .int)) = some true := by
  have h : dataOk 60 (.lst (L.map .int)) = true := by simp only [dataOk, dataOks_ints]
  simp only [eqV, h, and_self, if_true, eqv, eqvs_ints]
theorem cutL_two {α : Type} {xs : List α} {i j : Nat} (h1 : i ≤ j) (h2 : j ≤ xs.length) : cutL xs (some (i : Int)) (some (j : Int)) = (xs.drop i).take (j - i) := by
  have e1 : _root_.HT.sIx xs.length 0 (some (i : Int)) = i := by
    simp only [_root_.HT.sIx]
    rw [if_neg (by omega)]
    omega
  have e2 : _root_.HT.sIx xs.length xs.length (some (j : Int)) = j := by
    simp only [_root_.HT.sIx]
    rw [if_neg (by omega)]
    omega
  unfold cutL
  rw [e1, e2]
theorem cutL_to {α : Type} {xs : List α} {j : Nat} (h2 : j ≤ xs.length) : cutL xs none (some (j : Int)) = xs.take j := by
  have e2 : _root_.HT.sIx xs.length xs.length (some (j : Int)) = j := by
    simp only [_root_.HT.sIx]
    rw [if_neg (by omega)]
    omega
  unfold cutL
  rw [show _root_.HT.sIx xs.length 0 none = 0 from rfl, e2, List.drop_zero, Nat.sub_zero]
theorem cutL_from {α : Type} {xs : List α} {i : Nat} (h2 : i ≤ xs.length) : cutL xs (some (i : Int)) none = xs.drop i := by
  have e2 : _root_.HT.sIx xs.length 0 (some (i : Int)) = i := by
    simp only [_root_.HT.sIx]
    rw [if_neg (by omega)]
    omega
  unfold cutL
  rw [show _root_.HT.sIx xs.length xs.length none = xs.length from rfl, e2]
  exact List.take_of_length_le (by rw [List.length_drop]; omega)
theorem cutL_len {α : Type} {xs : List α} {lo hi : Option Int} : (cutL xs lo hi).length ≤ xs.length := by
  unfold cutL
  rw [List.length_take, List.length_drop]
  omega
theorem sl_scr {ns : List Int} {lo hi : Option Int} : slV (.scr ns) lo hi = some (.lst ((cutL ns lo hi).map .int)) := rfl
theorem sl_lst {xs : List Val} {lo hi : Option Int} : slV (.lst xs) lo hi = some (.lst (cutL xs lo hi)) := rfl
theorem forL_n {f : Val → Env → Store → RS} : forL f [] ρ S = .nx ρ S := rfl
theorem compL_n {f : Val → Store → R (Option Val)} : compL f [] S = .ok [] S := rfl
end
end Pv
end

section
set_option Elab.async false
set_option linter.all false
set_option maxRecDepth 100000
set_option autoImplicit false
/-! Rc0: numbers of the runs. -/
namespace Pv
open PySem
def wfN : Nat := 10 ^ 220
def lvN : Nat := 12
theorem abs_nat (i : Int) : (if i < 0 then -i else i) = ((i.natAbs : Nat) : Int) := by
  split <;> omega
end Pv
end

section
set_option Elab.async false
set_option linter.all false
set_option maxRecDepth 100000
set_option autoImplicit false
/-! Rc: the law's cell. -/
namespace Pv
open PySem
/-- the script's cell -/
def cell (ns : List Int) (i : Int) : Int := ns.getD i.toNat 0
theorem r_cell {n : Nat} {ns : List Int} {i : Int} {S : Store} (h0 : 0 ≤ i) : run G wfN (n + 1) 2 [.scr ns, .int i] S = .ok (.int (cell ns i)) S := by
  rw [run_unf (F := F_l_cell) rfl rfl rfl]
  by_cases h : i < (ns.length : Int)
  · have e : scrAt ns i = some (.int (cell ns i)) := by
      unfold scrAt L2.atI L2.ixN
      rw [if_pos h0, if_pos h]
      have hl : i.toNat < ns.length := by omega
      show (match ns[i.toNat]? with
        | some k => some (Val.int k)
        | none => none) = _
      rw [List.getElem?_eq_getElem hl]
      unfold cell
      rw [List.getD_eq_getElem?_getD, List.getElem?_eq_getElem hl]
      rfl
    simp only [F_l_cell, ↓e_v0, ↓e_v1, ↓e_v2, ↓e_v3, ↓e_v4, ↓e_v5, ↓e_v6, ↓e_v7, ↓e_v8, ↓e_v9, ↓e_v10, ↓e_v11, ↓e_v12, ↓e_v13, ↓e_v14, ↓e_v15, ↓e_v16, ↓e_v17, ↓e_v18, ↓e_v19, ↓e_v20, ↓e_v21, ↓e_v22, ↓e_v23, ↓e_v24, ↓e_v25, ↓e_v26, ↓e_v27, ↓e_v28, ↓e_v29, ↓e_k, ↓e_gl, ↓e_op2, ↓e_rep, ↓e_neg, ↓e_cmp, ↓e_ch, ↓e_bop, ↓e_nt, ↓e_ife, ↓e_tup, ↓e_lst, ↓e_ix, ↓e_sl, ↓e_fld, ↓e_call, ↓e_mk, ↓e_mth, ↓e_bi, ↓e_bm, ↓e_sortk, ↓e_isi, ↓e_comp, ↓e_d0, ↓e_rng, ↓e_zip, ↓e_rev, ↓es_n, ↓es_c, ↓eO_n, ↓eO_s, ↓eB_1, ↓eB_c, ↓q_n, ↓q_1, ↓q_c, ↓z_set, ↓z_unp, ↓z_ex, ↓z_ret, ↓z_retN, ↓z_ife, ↓z_for, ↓z_whil, ↓z_brk, ↓z_cnt, ↓z_pas, ↓z_rais, ↓z_mvs, ↓z_tr, ↓h_n, ↓h_c, ↓k2_, ↓j_op2_, ↓j_rep_, ↓j_neg_, ↓j_cmp_, ↓j_ch2_, ↓j_ch3_, ↓j_nt_, ↓j_tup_, ↓j_lst_, ↓j_ix_, ↓j_sl_, ↓j_sl2_, ↓j_sl3_, ↓j_mth_, ↓j_mth2_, ↓j_bi_, ↓j_bm_, ↓j_bm2_, ↓j_isi_, ↓j_lok_, ↓j_comp_, ↓j_rng_, ↓j_zip_, ↓j_rev_, ↓j_cons_, ↓k_es_, ↓z_setK_, ↓z_unpK_, ↓z_exK_, ↓z_forK_, ↓k_mu_, ↓z_mu0, ↓z_mu1, ↓z_mu2, ↓z_mu3, ↓z_mu4, ↓z_mu5, ↓z_mu6, ↓z_mu7, ↓z_mu8, ↓z_mu9, ↓z_mu10, ↓z_mu11, ↓z_mu12, ↓z_mu13, ↓z_mu14, ↓z_mu15, ↓z_mu16, ↓z_mu17, ↓z_mu18, ↓z_mu19, ↓z_mu20, ↓z_mu21, ↓z_mu22, ↓z_mu23, ↓z_mu24, ↓z_mu25, ↓z_mu26, ↓z_mu27, ↓z_mu28, ↓z_mu29, ty_int_int, ty_int_bool, ty_int_str, ty_int_list, ty_int_tuple, ty_int_dict, ty_bool_int, ty_bool_bool, ty_bool_str, ty_bool_list, ty_bool_tuple, ty_bool_dict, ty_str_int, ty_str_bool, ty_str_str, ty_str_list, ty_str_tuple, ty_str_dict, ty_list_int, ty_list_bool, ty_list_str, ty_list_list, ty_list_tuple, ty_list_dict, ty_tuple_int, ty_tuple_bool, ty_tuple_str, ty_tuple_list, ty_tuple_tuple, ty_tuple_dict, ty_dict_int, ty_dict_bool, ty_dict_str, ty_dict_list, ty_dict_tuple, ty_dict_dict, st_0, st_1, st_2, st_3, st_4, st_5, st_6, st_7, st_8, st_9, st_10, st_11, st_12, st_13, st_14, st_15, st_16, st_17, st_18, st_19, st_20, st_21, st_22, st_23, st_24, st_25, st_26, st_27, st_28, st_29, b_ok, b_exn, t_ok, t_exn, of_some, sq_nx, sq_ret, sq_exn, sq_brk, sq_cnt, obl_some, ob_ret, ob_nx, ob_exn, j_rep2_, j_ife_, z_ifeK_, chV_b, szt_t, compV_some, cpR_ok, cB_one, cB_many, cB_cd1, cdX_ok, lstO_some, zipV_l, revV_l, intO_i, bB_tt, bB_tf, bB_ft, bB_ff, bB_t, bB_f, unpV_t, nxO_s, forV_s, fB_one, fB_many, bm_n, bm_c, mvR_nx, mvR_ret, mvR_exn, dE_n, dE_c, trR_nx, trR_ret, trR_exn, caR_t, caR_f, unAs_nx, unAs_ret, aS_s, aS_n, muO_s, muK_t, ma_app, ma_ext, ma_clr, ma_rev, ma_set, md_app, md_ext, md_clr, md_rev, md_set, cn_i, cn_b, cn_n, cn_s, forL_n, compL_n, j_fld_, at_5, at_6, at_7, at_8, at_9, at_10, at_11, is_bb, bbtt, bbtf, bbft, bbff, beq_self_eq_true, mulOk_small, mulOk_small2, Bool.or_true, Bool.or_false, Bool.true_or, Bool.false_or, Bool.and_true, Bool.true_and, startE, eqV_int, eqV_str, op_add, op_sub, op_mul, op_fdiv, op_fdivN, op_mod, op_pow, op_addS, op_addL, de_non, de_bl, de_int, de_str, de_tup, de_lst, de_exc, de_scr, de_obj, cp_lt, cp_le, cp_gt, cp_ge, cp_eq, cp_ne, cp_isn, cp_isnt, cp_in, cp_nin, no_some, is_non, nb_non, nb_int, nb_bl, nb_tup, nb_lst, nb_str, eq_nn, eq_ni, eq_in, eq_bb, ix_lst, ix_tup, ix_scr, at_0, at_1, at_2, at_3, at_4, bi_lenL, bi_lenT, bi_lenC, bi_abs, bi_min2, bi_max2, bi_listL, bi_listT, ty_int, ty_bl, ty_non, ty_str, ty_lst, ty_tup, ty_exV, it_lst, it_tup, mu_app, mu_ext, mt_app, mt_ext, mt_clr, mt_rev, mt_set, mu_clr, mu_rev, List.map_cons, List.map_nil, List.length_cons, List.length_nil, List.cons_append, List.nil_append, List.replicate, Nat.reduceSub, Nat.reduceAdd, ↓reduceIte, if_true, if_false, Bool.false_eq_true, decide_eq_true_eq, decide_true, decide_false, Bool.not_true, Bool.not_false, reduceCtorEq, ite_true, ite_false, Int.reduceLT, Int.reduceLE, Int.reducePow, Int.reduceMul, Int.reduceAdd, Int.reduceSub, Int.reduceToNat, Nat.reduceLT, Nat.reducePow, and_self, and_true, true_and, Int.reduceNeg, Int.reduceEq, szb1, szb2, szb3, szb0, szb4, szb5, szb6, szb7, szb8, szb9, szb10, szb11, szb12, szb13, szb14, szb15, szb16, szb17, szb18, szb19, szb20, szb21, szb22, szb23, szb24, szb25, szb26, szb27, szb28, szb29, szb30, szb31, szb32, szb33, szb34, szb35, szb36, szb37, szb38, szb39, h, e]
  · simp only [F_l_cell, ↓e_v0, ↓e_v1, ↓e_v2, ↓e_v3, ↓e_v4, ↓e_v5, ↓e_v6, ↓e_v7, ↓e_v8, ↓e_v9, ↓e_v10, ↓e_v11, ↓e_v12, ↓e_v13, ↓e_v14, ↓e_v15, ↓e_v16, ↓e_v17, ↓e_v18, ↓e_v19, ↓e_v20, ↓e_v21, ↓e_v22, ↓e_v23, ↓e_v24, ↓e_v25, ↓e_v26, ↓e_v27, ↓e_v28, ↓e_v29, ↓e_k, ↓e_gl, ↓e_op2, ↓e_rep, ↓e_neg, ↓e_cmp, ↓e_ch, ↓e_bop, ↓e_nt, ↓e_ife, ↓e_tup, ↓e_lst, ↓e_ix, ↓e_sl, ↓e_fld, ↓e_call, ↓e_mk, ↓e_mth, ↓e_bi, ↓e_bm, ↓e_sortk, ↓e_isi, ↓e_comp, ↓e_d0, ↓e_rng, ↓e_zip, ↓e_rev, ↓es_n, ↓es_c, ↓eO_n, ↓eO_s, ↓eB_1, ↓eB_c, ↓q_n, ↓q_1, ↓q_c, ↓z_set, ↓z_unp, ↓z_ex, ↓z_ret, ↓z_retN, ↓z_ife, ↓z_for, ↓z_whil, ↓z_brk, ↓z_cnt, ↓z_pas, ↓z_rais, ↓z_mvs, ↓z_tr, ↓h_n, ↓h_c, ↓k2_, ↓j_op2_, ↓j_rep_, ↓j_neg_, ↓j_cmp_, ↓j_ch2_, ↓j_ch3_, ↓j_nt_, ↓j_tup_, ↓j_lst_, ↓j_ix_, ↓j_sl_, ↓j_sl2_, ↓j_sl3_, ↓j_mth_, ↓j_mth2_, ↓j_bi_, ↓j_bm_, ↓j_bm2_, ↓j_isi_, ↓j_lok_, ↓j_comp_, ↓j_rng_, ↓j_zip_, ↓j_rev_, ↓j_cons_, ↓k_es_, ↓z_setK_, ↓z_unpK_, ↓z_exK_, ↓z_forK_, ↓k_mu_, ↓z_mu0, ↓z_mu1, ↓z_mu2, ↓z_mu3, ↓z_mu4, ↓z_mu5, ↓z_mu6, ↓z_mu7, ↓z_mu8, ↓z_mu9, ↓z_mu10, ↓z_mu11, ↓z_mu12, ↓z_mu13, ↓z_mu14, ↓z_mu15, ↓z_mu16, ↓z_mu17, ↓z_mu18, ↓z_mu19, ↓z_mu20, ↓z_mu21, ↓z_mu22, ↓z_mu23, ↓z_mu24, ↓z_mu25, ↓z_mu26, ↓z_mu27, ↓z_mu28, ↓z_mu29, ty_int_int, ty_int_bool, ty_int_str, ty_int_list, ty_int_tuple, ty_int_dict, ty_bool_int, ty_bool_bool, ty_bool_str, ty_bool_list, ty_bool_tuple, ty_bool_dict, ty_str_int, ty_str_bool, ty_str_str, ty_str_list, ty_str_tuple, ty_str_dict, ty_list_int, ty_list_bool, ty_list_str, ty_list_list, ty_list_tuple, ty_list_dict, ty_tuple_int, ty_tuple_bool, ty_tuple_str, ty_tuple_list, ty_tuple_tuple, ty_tuple_dict, ty_dict_int, ty_dict_bool, ty_dict_str, ty_dict_list, ty_dict_tuple, ty_dict_dict, st_0, st_1, st_2, st_3, st_4, st_5, st_6, st_7, st_8, st_9, st_10, st_11, st_12, st_13, st_14, st_15, st_16, st_17, st_18, st_19, st_20, st_21, st_22, st_23, st_24, st_25, st_26, st_27, st_28, st_29, b_ok, b_exn, t_ok, t_exn, of_some, sq_nx, sq_ret, sq_exn, sq_brk, sq_cnt, obl_some, ob_ret, ob_nx, ob_exn, j_rep2_, j_ife_, z_ifeK_, chV_b, szt_t, compV_some, cpR_ok, cB_one, cB_many, cB_cd1, cdX_ok, lstO_some, zipV_l, revV_l, intO_i, bB_tt, bB_tf, bB_ft, bB_ff, bB_t, bB_f, unpV_t, nxO_s, forV_s, fB_one, fB_many, bm_n, bm_c, mvR_nx, mvR_ret, mvR_exn, dE_n, dE_c, trR_nx, trR_ret, trR_exn, caR_t, caR_f, unAs_nx, unAs_ret, aS_s, aS_n, muO_s, muK_t, ma_app, ma_ext, ma_clr, ma_rev, ma_set, md_app, md_ext, md_clr, md_rev, md_set, cn_i, cn_b, cn_n, cn_s, forL_n, compL_n, j_fld_, at_5, at_6, at_7, at_8, at_9, at_10, at_11, is_bb, bbtt, bbtf, bbft, bbff, beq_self_eq_true, mulOk_small, mulOk_small2, Bool.or_true, Bool.or_false, Bool.true_or, Bool.false_or, Bool.and_true, Bool.true_and, startE, eqV_int, eqV_str, op_add, op_sub, op_mul, op_fdiv, op_fdivN, op_mod, op_pow, op_addS, op_addL, de_non, de_bl, de_int, de_str, de_tup, de_lst, de_exc, de_scr, de_obj, cp_lt, cp_le, cp_gt, cp_ge, cp_eq, cp_ne, cp_isn, cp_isnt, cp_in, cp_nin, no_some, is_non, nb_non, nb_int, nb_bl, nb_tup, nb_lst, nb_str, eq_nn, eq_ni, eq_in, eq_bb, ix_lst, ix_tup, ix_scr, at_0, at_1, at_2, at_3, at_4, bi_lenL, bi_lenT, bi_lenC, bi_abs, bi_min2, bi_max2, bi_listL, bi_listT, ty_int, ty_bl, ty_non, ty_str, ty_lst, ty_tup, ty_exV, it_lst, it_tup, mu_app, mu_ext, mt_app, mt_ext, mt_clr, mt_rev, mt_set, mu_clr, mu_rev, List.map_cons, List.map_nil, List.length_cons, List.length_nil, List.cons_append, List.nil_append, List.replicate, Nat.reduceSub, Nat.reduceAdd, ↓reduceIte, if_true, if_false, Bool.false_eq_true, decide_eq_true_eq, decide_true, decide_false, Bool.not_true, Bool.not_false, reduceCtorEq, ite_true, ite_false, Int.reduceLT, Int.reduceLE, Int.reducePow, Int.reduceMul, Int.reduceAdd, Int.reduceSub, Int.reduceToNat, Nat.reduceLT, Nat.reducePow, and_self, and_true, true_and, Int.reduceNeg, Int.reduceEq, szb1, szb2, szb3, szb0, szb4, szb5, szb6, szb7, szb8, szb9, szb10, szb11, szb12, szb13, szb14, szb15, szb16, szb17, szb18, szb19, szb20, szb21, szb22, szb23, szb24, szb25, szb26, szb27, szb28, szb29, szb30, szb31, szb32, szb33, szb34, szb35, szb36, szb37, szb38, szb39, h]
    unfold cell
    rw [List.getD_eq_getElem?_getD, List.getElem?_eq_none (by omega)]
    rfl
end Pv
end

section
set_option Elab.async false
set_option linter.all false
set_option maxRecDepth 100000
set_option autoImplicit false
namespace Pv
open PySem
theorem r_whole {n : Nat} {a : Int} {S : Store} : run G wfN (n + 1) 3 [.int a] S = .ok (.bl true) S := by
  rw [run_unf (F := F_l_whole) rfl rfl rfl]
  simp (decide := true) only [F_l_whole, ↓e_v0, ↓e_v1, ↓e_v2, ↓e_v3, ↓e_v4, ↓e_v5, ↓e_v6, ↓e_v7, ↓e_v8, ↓e_v9, ↓e_v10, ↓e_v11, ↓e_v12, ↓e_v13, ↓e_v14, ↓e_v15, ↓e_v16, ↓e_v17, ↓e_v18, ↓e_v19, ↓e_v20, ↓e_v21, ↓e_v22, ↓e_v23, ↓e_v24, ↓e_v25, ↓e_v26, ↓e_v27, ↓e_v28, ↓e_v29, ↓e_k, ↓e_gl, ↓e_op2, ↓e_rep, ↓e_neg, ↓e_cmp, ↓e_ch, ↓e_bop, ↓e_nt, ↓e_ife, ↓e_tup, ↓e_lst, ↓e_ix, ↓e_sl, ↓e_fld, ↓e_call, ↓e_mk, ↓e_mth, ↓e_bi, ↓e_bm, ↓e_sortk, ↓e_isi, ↓e_comp, ↓e_d0, ↓e_rng, ↓e_zip, ↓e_rev, ↓es_n, ↓es_c, ↓eO_n, ↓eO_s, ↓eB_1, ↓eB_c, ↓q_n, ↓q_1, ↓q_c, ↓z_set, ↓z_unp, ↓z_ex, ↓z_ret, ↓z_retN, ↓z_ife, ↓z_for, ↓z_whil, ↓z_brk, ↓z_cnt, ↓z_pas, ↓z_rais, ↓z_mvs, ↓z_tr, ↓h_n, ↓h_c, ↓k2_, ↓j_op2_, ↓j_rep_, ↓j_neg_, ↓j_cmp_, ↓j_ch2_, ↓j_ch3_, ↓j_nt_, ↓j_tup_, ↓j_lst_, ↓j_ix_, ↓j_sl_, ↓j_sl2_, ↓j_sl3_, ↓j_mth_, ↓j_mth2_, ↓j_bi_, ↓j_bm_, ↓j_bm2_, ↓j_isi_, ↓j_lok_, ↓j_comp_, ↓j_rng_, ↓j_zip_, ↓j_rev_, ↓j_cons_, ↓k_es_, ↓z_setK_, ↓z_unpK_, ↓z_exK_, ↓z_forK_, ↓k_mu_, ↓z_mu0, ↓z_mu1, ↓z_mu2, ↓z_mu3, ↓z_mu4, ↓z_mu5, ↓z_mu6, ↓z_mu7, ↓z_mu8, ↓z_mu9, ↓z_mu10, ↓z_mu11, ↓z_mu12, ↓z_mu13, ↓z_mu14, ↓z_mu15, ↓z_mu16, ↓z_mu17, ↓z_mu18, ↓z_mu19, ↓z_mu20, ↓z_mu21, ↓z_mu22, ↓z_mu23, ↓z_mu24, ↓z_mu25, ↓z_mu26, ↓z_mu27, ↓z_mu28, ↓z_mu29, ty_int_int, ty_int_bool, ty_int_str, ty_int_list, ty_int_tuple, ty_int_dict, ty_bool_int, ty_bool_bool, ty_bool_str, ty_bool_list, ty_bool_tuple, ty_bool_dict, ty_str_int, ty_str_bool, ty_str_str, ty_str_list, ty_str_tuple, ty_str_dict, ty_list_int, ty_list_bool, ty_list_str, ty_list_list, ty_list_tuple, ty_list_dict, ty_tuple_int, ty_tuple_bool, ty_tuple_str, ty_tuple_list, ty_tuple_tuple, ty_tuple_dict, ty_dict_int, ty_dict_bool, ty_dict_str, ty_dict_list, ty_dict_tuple, ty_dict_dict, st_0, st_1, st_2, st_3, st_4, st_5, st_6, st_7, st_8, st_9, st_10, st_11, st_12, st_13, st_14, st_15, st_16, st_17, st_18, st_19, st_20, st_21, st_22, st_23, st_24, st_25, st_26, st_27, st_28, st_29, b_ok, b_exn, t_ok, t_exn, of_some, sq_nx, sq_ret, sq_exn, sq_brk, sq_cnt, obl_some, ob_ret, ob_nx, ob_exn, j_rep2_, j_ife_, z_ifeK_, chV_b, szt_t, compV_some, cpR_ok, cB_one, cB_many, cB_cd1, cdX_ok, lstO_some, zipV_l, revV_l, intO_i, bB_tt, bB_tf, bB_ft, bB_ff, bB_t, bB_f, unpV_t, nxO_s, forV_s, fB_one, fB_many, bm_n, bm_c, mvR_nx, mvR_ret, mvR_exn, dE_n, dE_c, trR_nx, trR_ret, trR_exn, caR_t, caR_f, unAs_nx, unAs_ret, aS_s, aS_n, muO_s, muK_t, ma_app, ma_ext, ma_clr, ma_rev, ma_set, md_app, md_ext, md_clr, md_rev, md_set, cn_i, cn_b, cn_n, cn_s, forL_n, compL_n, j_fld_, at_5, at_6, at_7, at_8, at_9, at_10, at_11, is_bb, bbtt, bbtf, bbft, bbff, beq_self_eq_true, mulOk_small, mulOk_small2, Bool.or_true, Bool.or_false, Bool.true_or, Bool.false_or, Bool.and_true, Bool.true_and, startE, eqV_int, eqV_str, op_add, op_sub, op_mul, op_fdiv, op_fdivN, op_mod, op_pow, op_addS, op_addL, de_non, de_bl, de_int, de_str, de_tup, de_lst, de_exc, de_scr, de_obj, cp_lt, cp_le, cp_gt, cp_ge, cp_eq, cp_ne, cp_isn, cp_isnt, cp_in, cp_nin, no_some, is_non, nb_non, nb_int, nb_bl, nb_tup, nb_lst, nb_str, eq_nn, eq_ni, eq_in, eq_bb, ix_lst, ix_tup, ix_scr, at_0, at_1, at_2, at_3, at_4, bi_lenL, bi_lenT, bi_lenC, bi_abs, bi_min2, bi_max2, bi_listL, bi_listT, ty_int, ty_bl, ty_non, ty_str, ty_lst, ty_tup, ty_exV, it_lst, it_tup, mu_app, mu_ext, mt_app, mt_ext, mt_clr, mt_rev, mt_set, mu_clr, mu_rev, List.map_cons, List.map_nil, List.length_cons, List.length_nil, List.cons_append, List.nil_append, List.replicate, Nat.reduceSub, Nat.reduceAdd, ↓reduceIte, if_true, if_false, Bool.false_eq_true, decide_eq_true_eq, decide_true, decide_false, Bool.not_true, Bool.not_false, reduceCtorEq, ite_true, ite_false, Int.reduceLT, Int.reduceLE, Int.reducePow, Int.reduceMul, Int.reduceAdd, Int.reduceSub, Int.reduceToNat, Nat.reduceLT, Nat.reducePow, and_self, and_true, true_and, Int.reduceNeg, Int.reduceEq, szb1, szb2, szb3, szb0, szb4, szb5, szb6, szb7, szb8, szb9, szb10, szb11, szb12, szb13, szb14, szb15, szb16, szb17, szb18, szb19, szb20, szb21, szb22, szb23, szb24, szb25, szb26, szb27, szb28, szb29, szb30, szb31, szb32, szb33, szb34, szb35, szb36, szb37, szb38, szb39]
end Pv
end

section
set_option Elab.async false
set_option linter.all false
set_option maxRecDepth 100000
set_option autoImplicit false
/-! Rg: plain facts: sizes of numbers, data that equals itself, sums. -/
namespace Pv
open PySem
theorem pw_add {x y : Int} {a : Nat} (hx : x.natAbs < 2 ^ a) (hy : y.natAbs < 2 ^ a) : (x + y).natAbs < 2 ^ (a + 1) := by
  rw [Nat.pow_succ]
  omega
theorem pw_mul {x y : Int} {a b : Nat} (hx : x.natAbs < 2 ^ a) (hy : y.natAbs < 2 ^ b) : (x * y).natAbs < 2 ^ (a + b) := by
  rw [Int.natAbs_mul, Nat.pow_add]
  exact Nat.mul_lt_mul'' hx hy
theorem pw_le {x : Int} {a b : Nat} (hx : x.natAbs < 2 ^ a) (h : a ≤ b) : x.natAbs < 2 ^ b := Nat.lt_of_lt_of_le hx (Nat.pow_le_pow_right (by omega) h)
/-- a script's numbers: a bound of bits that is never computed -/
theorem bits_pw {ns : List Int} (hb : ∀ z ∈ ns, Builtin.Int.intBits z ≤ 1048576) : ∃ B : Nat, 100 ≤ B ∧ B ≤ 2000000 ∧ ∀ z ∈ ns, z.natAbs < 2 ^ B := by
  refine ⟨1048576, by omega, by omega, fun z hz => ?_⟩
  have h := hb z hz
  generalize 1048576 = B at h
  unfold Builtin.Int.intBits at h
  split at h
  · rename_i h0
    have : z = 0 := by simpa using h0
    subst this
    exact Nat.pos_of_ne_zero (by simp)
  · rename_i h0
    have h1 : z.natAbs ≠ 0 := by
      intro h2
      apply h0
      have : z = 0 := by omega
      simp [this]
    exact (Nat.log2_lt h1).mp (by omega)
mutual
theorem eqv_refl : ∀ (n : Nat) (v : Val), dataOk n v = true → eqv v v = true
  | 0, _, h => by simp [dataOk] at h
  | n + 1, .lst xs, h => by
    simp only [dataOk] at h
    simp only [eqv]
    exact eqvs_refl n xs h
  | n + 1, .tup xs, h => by
    simp only [dataOk] at h
    simp only [eqv]
    exact eqvs_refl n xs h
  | _ + 1, .non, _ => rfl
  | _ + 1, .bl b, _ => by simp [eqv]
  | _ + 1, .int i, _ => by simp [eqv]
  | _ + 1, .str s, _ => by simp [eqv]
  | _ + 1, .dK _, h => by simp [dataOk] at h
  | _ + 1, .dT _, h => by simp [dataOk] at h
  | _ + 1, .obj _ _, h => by simp [dataOk] at h
  | _ + 1, .ref _, h => by simp [dataOk] at h
  | _ + 1, .exc _, h => by simp [dataOk] at h
  | _ + 1, .scr _, h => by simp [dataOk] at h
theorem eqvs_refl : ∀ (n : Nat) (xs : List Val), dataOks n xs = true → eqvs xs xs = true
  | _, [], _ => rfl
  | n, x :: xs, h => by
    simp only [dataOks, Bool.and_eq_true] at h
    simp only [eqvs, eqv_refl n x h.1, eqvs_refl n xs h.2, Bool.and_self]
end
theorem eqV_refl {v : Val} (h : dataOk 60 v = true) : eqV v v = some true := by
  unfold eqV
  split
  · simp
  · rw [if_pos ⟨h, h⟩, eqv_refl 60 _ h]
theorem dataOks_map {α : Type} (n : Nat) (enc : α → Val) (h : ∀ a, dataOk n (enc a) = true) : ∀ L : List α, dataOks n (L.map enc) = true
  | [] => rfl
  | x :: L => by simp only [List.map_cons, dataOks, h, dataOks_map n enc h L, Bool.and_self]
theorem eq_map {α : Type} (enc : α → Val) (h : ∀ a, dataOk 59 (enc a) = true) (L : List α) : eqV (.lst (L.map enc)) (.lst (L.map enc)) = some true :=
  eqV_refl (by simp only [dataOk]; exact dataOks_map 59 enc h L)
/-- a pair of ints -/
def encP (p : Int × Int) : Val := .tup [.int p.1, .int p.2]
theorem encP_ok (p : Int × Int) : dataOk 59 (encP p) = true := rfl
theorem eq_pairs (L : List (Int × Int)) : eqV (.lst (L.map encP)) (.lst (L.map encP)) = some true := eq_map encP encP_ok L
theorem map_at {α : Type} {enc : α → Val} {L : List α} {i : Nat} (h : i < L.length) : L2.atI (L.map enc) (i : Int) = some (enc L[i]) := by
  apply atI_ok
  rw [List.getElem?_map, List.getElem?_eq_getElem h]
  rfl
def his (L : List (Int × Int)) (i : Nat) : Int := (L.getD i (0, 0)).2
def los (L : List (Int × Int)) (i : Nat) : Int := (L.getD i (0, 0)).1
theorem at_his {L : List (Int × Int)} {i : Nat} (h : i < L.length) : L2.atI (L.map encP) (i : Int) = some (.tup [.int (los L i), .int (his L i)]) := by
  rw [map_at h]
  unfold encP los his
  rw [List.getD_eq_getElem?_getD, List.getElem?_eq_getElem h]
  rfl
/-- a loop that goes on at good items and returns at the first one that is not -/
theorem forL_all {f : Val → Env → Store → RS} (I : Env → Prop) (good : Nat → Prop) {S : Store} {v : Val} : ∀ (xs : List Val) (m : Nat) (ρ : Env),
    (∀ (i : Nat) (hi : i < xs.length) ρ, I ρ → (good (m + i) ∧ ∃ ρ1, (f xs[i] ρ S = .nx ρ1 S ∨ f xs[i] ρ S = .cnt ρ1 S) ∧ I ρ1) ∨ (¬ good (m + i) ∧ f xs[i] ρ S = .ret v S)) → I ρ →
    ((∀ i, i < xs.length → good (m + i)) ∧ ∃ ρ1, forL f xs ρ S = .nx ρ1 S ∧ I ρ1) ∨ ((¬ ∀ i, i < xs.length → good (m + i)) ∧ forL f xs ρ S = .ret v S)
  | [], m, ρ, _, h => .inl ⟨fun i hi => absurd hi (Nat.not_lt_zero _), ρ, rfl, h⟩
  | x :: xs, m, ρ, hs, h => by
    rcases hs 0 (by simp) ρ h with ⟨g0, ρ1, e, h1⟩ | ⟨g0, e⟩
    · have ih := forL_all I good xs (m + 1) ρ1 (fun i hi ρ hI => by
        have := hs (i + 1) (by simp only [List.length_cons]; omega) ρ hI
        rw [show m + (i + 1) = m + 1 + i by omega] at this
        exact this) h1
      simp only [List.getElem_cons_zero] at e
      have e2 : forL f (x :: xs) ρ S = forL f xs ρ1 S := by
        simp only [forL]
        rcases e with e | e <;> rw [e]
      rw [e2]
      rcases ih with ⟨g1, r⟩ | ⟨g1, r⟩
      · refine .inl ⟨fun i hi => ?_, r⟩
        cases i with
        | zero => exact g0
        | succ i =>
          have := g1 i (by simpa using hi)
          rw [show m + (i + 1) = m + 1 + i by omega]
          exact this
      · refine .inr ⟨fun a => g1 fun i hi => ?_, r⟩
        have := a (i + 1) (by simp only [List.length_cons]; omega)
        rw [show m + (i + 1) = m + 1 + i by omega] at this
        exact this
    · refine .inr ⟨fun a => g0 (a 0 (by simp)), ?_⟩
      simp only [List.getElem_cons_zero] at e
      simp only [forL, e]
/-- .. that raises at the first one that is not -/
theorem forL_allX {f : Val → Env → Store → RS} (I : Env → Prop) (good : Nat → Prop) {S : Store} {c : Nat} : ∀ (xs : List Val) (m : Nat) (ρ : Env),
    (∀ (i : Nat) (hi : i < xs.length) ρ, I ρ → (good (m + i) ∧ ∃ ρ1, (f xs[i] ρ S = .nx ρ1 S ∨ f xs[i] ρ S = .cnt ρ1 S) ∧ I ρ1) ∨ (¬ good (m + i) ∧ ∃ ρ1, f xs[i] ρ S = .exn c ρ1 S)) → I ρ →
    ((∀ i, i < xs.length → good (m + i)) ∧ ∃ ρ1, forL f xs ρ S = .nx ρ1 S ∧ I ρ1) ∨ ((¬ ∀ i, i < xs.length → good (m + i)) ∧ ∃ ρ1, forL f xs ρ S = .exn c ρ1 S)
  | [], m, ρ, _, h => .inl ⟨fun i hi => absurd hi (Nat.not_lt_zero _), ρ, rfl, h⟩
  | x :: xs, m, ρ, hs, h => by
    rcases hs 0 (by simp) ρ h with ⟨g0, ρ1, e, h1⟩ | ⟨g0, ρ1, e⟩
    · have ih := forL_allX I good xs (m + 1) ρ1 (fun i hi ρ hI => by
        have := hs (i + 1) (by simp only [List.length_cons]; omega) ρ hI
        rw [show m + (i + 1) = m + 1 + i by omega] at this
        exact this) h1
      simp only [List.getElem_cons_zero] at e
      have e2 : forL f (x :: xs) ρ S = forL f xs ρ1 S := by
        simp only [forL]
        rcases e with e | e <;> rw [e]
      rw [e2]
      rcases ih with ⟨g1, r⟩ | ⟨g1, r⟩
      · refine .inl ⟨fun i hi => ?_, r⟩
        cases i with
        | zero => exact g0
        | succ i =>
          have := g1 i (by simpa using hi)
          rw [show m + (i + 1) = m + 1 + i by omega]
          exact this
      · refine .inr ⟨fun a => g1 fun i hi => ?_, r⟩
        have := a (i + 1) (by simp only [List.length_cons]; omega)
        rw [show m + (i + 1) = m + 1 + i by omega] at this
        exact this
    · refine .inr ⟨fun a => g0 (a 0 (by simp)), ρ1, ?_⟩
      simp only [List.getElem_cons_zero] at e
      simp only [forL, e]
/-- sums from the front -/
def psum (h : Nat → Int) : Nat → Int
  | 0 => 0
  | n + 1 => psum h n + h n
theorem psum_sub (h : Nat → Int) (a : Nat) : ∀ n, ((List.range n).map fun i => h (a + i)).sum = psum h (a + n) - psum h a
  | 0 => by simp
  | n + 1 => by
    rw [List.range_succ, List.map_append, List.sum_append, psum_sub h a n, List.map_cons, List.map_nil, List.sum_cons, List.sum_nil]
    rw [show a + (n + 1) = (a + n) + 1 by omega, psum]
    omega
/-! ### ends, stretches -/
def oV : Option Int → Val
  | none => .non
  | some b => .int b
/-- a stretch; a mark -/
def encO (p : Option Int × Option Int) : Val := .tup [oV p.1, oV p.2]
theorem oV_ok {n : Nat} (o : Option Int) : dataOk (n + 1) (oV o) = true := by cases o <;> rfl
theorem encO_ok {n : Nat} (p : Option Int × Option Int) : dataOk (n + 2) (encO p) = true := by
  simp only [encO, dataOk, dataOks, oV_ok, Bool.and_self]
theorem de_oV {S : Store} (o : Option Int) : deref S (oV o) = oV o := by cases o <;> rfl
theorem de_encO {S : Store} (o : Option Int × Option Int) : deref S (encO o) = encO o := rfl
theorem oV_s {i : Int} : oV (some i) = .int i := rfl
theorem oV_n : oV none = .non := rfl
end Pv
end

section
set_option Elab.async false
set_option linter.all false
set_option maxRecDepth 100000
set_option autoImplicit false
namespace Pv
open PySem
def lmax : Option Int → Option Int → Option Int
  | none, o => o
  | some x, none => some x
  | some x, some y => some (if y > x then y else x)
def hmin : Option Int → Option Int → Option Int
  | none, o => o
  | some x, none => some x
  | some x, some y => some (if y < x then y else x)
theorem lmax_comm (a b : Option Int) : lmax a b = lmax b a := by
  cases a <;> cases b <;> simp only [lmax] <;> (congr 1; (repeat' split) <;> omega)
theorem hmin_comm (a b : Option Int) : hmin a b = hmin b a := by
  cases a <;> cases b <;> simp only [hmin] <;> (congr 1; (repeat' split) <;> omega)
def overB : Option Int → Option Int → Bool
  | some l, some h => decide (h < l)
  | _, _ => false
def meetV (p q : Option Int × Option Int) : Val := if overB (lmax p.1 q.1) (hmin p.2 q.2) = true then .non else encO (lmax p.1 q.1, hmin p.2 q.2)
def holdsB (p : Option Int × Option Int) (n : Int) : Bool := match p.1, p.2 with
  | some l, some h => decide (¬ n < l) && decide (n ≤ h)
  | some l, none => decide (¬ n < l)
  | none, some h => decide (n ≤ h)
  | none, none => true
def widO (p : Option Int × Option Int) (b : Int) : Option Int × Option Int := (p.1.map (· - b), p.2.map (· + b))
section
variable {n : Nat} {p q : Option Int × Option Int} {S : Store} {b : Int}
theorem r_stretch (h : overB p.1 p.2 = false) : run G wfN (n + 1) 20 [oV p.1, oV p.2] S = .ok (encO p) S := by
  rw [run_unf (F := F_stretch) rfl rfl rfl]
  obtain ⟨a, c⟩ := p
  cases a <;> cases c <;> simp only [overB] at h <;> simp (decide := true) only [F_stretch, ↓e_v0, ↓e_v1, ↓e_v2, ↓e_v3, ↓e_v4, ↓e_v5, ↓e_v6, ↓e_v7, ↓e_v8, ↓e_v9, ↓e_v10, ↓e_v11, ↓e_v12, ↓e_v13, ↓e_v14, ↓e_v15, ↓e_v16, ↓e_v17, ↓e_v18, ↓e_v19, ↓e_v20, ↓e_v21, ↓e_v22, ↓e_v23, ↓e_v24, ↓e_v25, ↓e_v26, ↓e_v27, ↓e_v28, ↓e_v29, ↓e_k, ↓e_gl, ↓e_op2, ↓e_rep, ↓e_neg, ↓e_cmp, ↓e_ch, ↓e_bop, ↓e_nt, ↓e_ife, ↓e_tup, ↓e_lst, ↓e_ix, ↓e_sl, ↓e_fld, ↓e_call, ↓e_mk, ↓e_mth, ↓e_bi, ↓e_bm, ↓e_sortk, ↓e_isi, ↓e_comp, ↓e_d0, ↓e_rng, ↓e_zip, ↓e_rev, ↓es_n, ↓es_c, ↓eO_n, ↓eO_s, ↓eB_1, ↓eB_c, ↓q_n, ↓q_1, ↓q_c, ↓z_set, ↓z_unp, ↓z_ex, ↓z_ret, ↓z_retN, ↓z_ife, ↓z_for, ↓z_whil, ↓z_brk, ↓z_cnt, ↓z_pas, ↓z_rais, ↓z_mvs, ↓z_tr, ↓h_n, ↓h_c, ↓k2_, ↓j_op2_, ↓j_rep_, ↓j_neg_, ↓j_cmp_, ↓j_ch2_, ↓j_ch3_, ↓j_nt_, ↓j_tup_, ↓j_lst_, ↓j_ix_, ↓j_sl_, ↓j_sl2_, ↓j_sl3_, ↓j_mth_, ↓j_mth2_, ↓j_bi_, ↓j_bm_, ↓j_bm2_, ↓j_isi_, ↓j_lok_, ↓j_comp_, ↓j_rng_, ↓j_zip_, ↓j_rev_, ↓j_cons_, ↓k_es_, ↓z_setK_, ↓z_unpK_, ↓z_exK_, ↓z_forK_, ↓k_mu_, ↓z_mu0, ↓z_mu1, ↓z_mu2, ↓z_mu3, ↓z_mu4, ↓z_mu5, ↓z_mu6, ↓z_mu7, ↓z_mu8, ↓z_mu9, ↓z_mu10, ↓z_mu11, ↓z_mu12, ↓z_mu13, ↓z_mu14, ↓z_mu15, ↓z_mu16, ↓z_mu17, ↓z_mu18, ↓z_mu19, ↓z_mu20, ↓z_mu21, ↓z_mu22, ↓z_mu23, ↓z_mu24, ↓z_mu25, ↓z_mu26, ↓z_mu27, ↓z_mu28, ↓z_mu29, ty_int_int, ty_int_bool, ty_int_str, ty_int_list, ty_int_tuple, ty_int_dict, ty_bool_int, ty_bool_bool, ty_bool_str, ty_bool_list, ty_bool_tuple, ty_bool_dict, ty_str_int, ty_str_bool, ty_str_str, ty_str_list, ty_str_tuple, ty_str_dict, ty_list_int, ty_list_bool, ty_list_str, ty_list_list, ty_list_tuple, ty_list_dict, ty_tuple_int, ty_tuple_bool, ty_tuple_str, ty_tuple_list, ty_tuple_tuple, ty_tuple_dict, ty_dict_int, ty_dict_bool, ty_dict_str, ty_dict_list, ty_dict_tuple, ty_dict_dict, st_0, st_1, st_2, st_3, st_4, st_5, st_6, st_7, st_8, st_9, st_10, st_11, st_12, st_13, st_14, st_15, st_16, st_17, st_18, st_19, st_20, st_21, st_22, st_23, st_24, st_25, st_26, st_27, st_28, st_29, b_ok, b_exn, t_ok, t_exn, of_some, sq_nx, sq_ret, sq_exn, sq_brk, sq_cnt, obl_some, ob_ret, ob_nx, ob_exn, j_rep2_, j_ife_, z_ifeK_, chV_b, szt_t, compV_some, cpR_ok, cB_one, cB_many, cB_cd1, cdX_ok, lstO_some, zipV_l, revV_l, intO_i, bB_tt, bB_tf, bB_ft, bB_ff, bB_t, bB_f, unpV_t, nxO_s, forV_s, fB_one, fB_many, bm_n, bm_c, mvR_nx, mvR_ret, mvR_exn, dE_n, dE_c, trR_nx, trR_ret, trR_exn, caR_t, caR_f, unAs_nx, unAs_ret, aS_s, aS_n, muO_s, muK_t, ma_app, ma_ext, ma_clr, ma_rev, ma_set, md_app, md_ext, md_clr, md_rev, md_set, cn_i, cn_b, cn_n, cn_s, forL_n, compL_n, j_fld_, at_5, at_6, at_7, at_8, at_9, at_10, at_11, is_bb, bbtt, bbtf, bbft, bbff, beq_self_eq_true, mulOk_small, mulOk_small2, Bool.or_true, Bool.or_false, Bool.true_or, Bool.false_or, Bool.and_true, Bool.true_and, startE, eqV_int, eqV_str, op_add, op_sub, op_mul, op_fdiv, op_fdivN, op_mod, op_pow, op_addS, op_addL, de_non, de_bl, de_int, de_str, de_tup, de_lst, de_exc, de_scr, de_obj, cp_lt, cp_le, cp_gt, cp_ge, cp_eq, cp_ne, cp_isn, cp_isnt, cp_in, cp_nin, no_some, is_non, nb_non, nb_int, nb_bl, nb_tup, nb_lst, nb_str, eq_nn, eq_ni, eq_in, eq_bb, ix_lst, ix_tup, ix_scr, at_0, at_1, at_2, at_3, at_4, bi_lenL, bi_lenT, bi_lenC, bi_abs, bi_min2, bi_max2, bi_listL, bi_listT, ty_int, ty_bl, ty_non, ty_str, ty_lst, ty_tup, ty_exV, it_lst, it_tup, mu_app, mu_ext, mt_app, mt_ext, mt_clr, mt_rev, mt_set, mu_clr, mu_rev, List.map_cons, List.map_nil, List.length_cons, List.length_nil, List.cons_append, List.nil_append, List.replicate, Nat.reduceSub, Nat.reduceAdd, ↓reduceIte, if_true, if_false, Bool.false_eq_true, decide_eq_true_eq, decide_true, decide_false, Bool.not_true, Bool.not_false, reduceCtorEq, ite_true, ite_false, Int.reduceLT, Int.reduceLE, Int.reducePow, Int.reduceMul, Int.reduceAdd, Int.reduceSub, Int.reduceToNat, Nat.reduceLT, Nat.reducePow, and_self, and_true, true_and, Int.reduceNeg, Int.reduceEq, szb1, szb2, szb3, szb0, szb4, szb5, szb6, szb7, szb8, szb9, szb10, szb11, szb12, szb13, szb14, szb15, szb16, szb17, szb18, szb19, szb20, szb21, szb22, szb23, szb24, szb25, szb26, szb27, szb28, szb29, szb30, szb31, szb32, szb33, szb34, szb35, szb36, szb37, szb38, szb39, encO, oV_s, oV_n]
  rename_i x y
  have h' : ¬ y < x := of_decide_eq_false h
  simp (decide := true) only [↓e_v0, ↓e_v1, ↓e_v2, ↓e_v3, ↓e_v4, ↓e_v5, ↓e_v6, ↓e_v7, ↓e_v8, ↓e_v9, ↓e_v10, ↓e_v11, ↓e_v12, ↓e_v13, ↓e_v14, ↓e_v15, ↓e_v16, ↓e_v17, ↓e_v18, ↓e_v19, ↓e_v20, ↓e_v21, ↓e_v22, ↓e_v23, ↓e_v24, ↓e_v25, ↓e_v26, ↓e_v27, ↓e_v28, ↓e_v29, ↓e_k, ↓e_gl, ↓e_op2, ↓e_rep, ↓e_neg, ↓e_cmp, ↓e_ch, ↓e_bop, ↓e_nt, ↓e_ife, ↓e_tup, ↓e_lst, ↓e_ix, ↓e_sl, ↓e_fld, ↓e_call, ↓e_mk, ↓e_mth, ↓e_bi, ↓e_bm, ↓e_sortk, ↓e_isi, ↓e_comp, ↓e_d0, ↓e_rng, ↓e_zip, ↓e_rev, ↓es_n, ↓es_c, ↓eO_n, ↓eO_s, ↓eB_1, ↓eB_c, ↓q_n, ↓q_1, ↓q_c, ↓z_set, ↓z_unp, ↓z_ex, ↓z_ret, ↓z_retN, ↓z_ife, ↓z_for, ↓z_whil, ↓z_brk, ↓z_cnt, ↓z_pas, ↓z_rais, ↓z_mvs, ↓z_tr, ↓h_n, ↓h_c, ↓k2_, ↓j_op2_, ↓j_rep_, ↓j_neg_, ↓j_cmp_, ↓j_ch2_, ↓j_ch3_, ↓j_nt_, ↓j_tup_, ↓j_lst_, ↓j_ix_, ↓j_sl_, ↓j_sl2_, ↓j_sl3_, ↓j_mth_, ↓j_mth2_, ↓j_bi_, ↓j_bm_, ↓j_bm2_, ↓j_isi_, ↓j_lok_, ↓j_comp_, ↓j_rng_, ↓j_zip_, ↓j_rev_, ↓j_cons_, ↓k_es_, ↓z_setK_, ↓z_unpK_, ↓z_exK_, ↓z_forK_, ↓k_mu_, ↓z_mu0, ↓z_mu1, ↓z_mu2, ↓z_mu3, ↓z_mu4, ↓z_mu5, ↓z_mu6, ↓z_mu7, ↓z_mu8, ↓z_mu9, ↓z_mu10, ↓z_mu11, ↓z_mu12, ↓z_mu13, ↓z_mu14, ↓z_mu15, ↓z_mu16, ↓z_mu17, ↓z_mu18, ↓z_mu19, ↓z_mu20, ↓z_mu21, ↓z_mu22, ↓z_mu23, ↓z_mu24, ↓z_mu25, ↓z_mu26, ↓z_mu27, ↓z_mu28, ↓z_mu29, ty_int_int, ty_int_bool, ty_int_str, ty_int_list, ty_int_tuple, ty_int_dict, ty_bool_int, ty_bool_bool, ty_bool_str, ty_bool_list, ty_bool_tuple, ty_bool_dict, ty_str_int, ty_str_bool, ty_str_str, ty_str_list, ty_str_tuple, ty_str_dict, ty_list_int, ty_list_bool, ty_list_str, ty_list_list, ty_list_tuple, ty_list_dict, ty_tuple_int, ty_tuple_bool, ty_tuple_str, ty_tuple_list, ty_tuple_tuple, ty_tuple_dict, ty_dict_int, ty_dict_bool, ty_dict_str, ty_dict_list, ty_dict_tuple, ty_dict_dict, st_0, st_1, st_2, st_3, st_4, st_5, st_6, st_7, st_8, st_9, st_10, st_11, st_12, st_13, st_14, st_15, st_16, st_17, st_18, st_19, st_20, st_21, st_22, st_23, st_24, st_25, st_26, st_27, st_28, st_29, b_ok, b_exn, t_ok, t_exn, of_some, sq_nx, sq_ret, sq_exn, sq_brk, sq_cnt, obl_some, ob_ret, ob_nx, ob_exn, j_rep2_, j_ife_, z_ifeK_, chV_b, szt_t, compV_some, cpR_ok, cB_one, cB_many, cB_cd1, cdX_ok, lstO_some, zipV_l, revV_l, intO_i, bB_tt, bB_tf, bB_ft, bB_ff, bB_t, bB_f, unpV_t, nxO_s, forV_s, fB_one, fB_many, bm_n, bm_c, mvR_nx, mvR_ret, mvR_exn, dE_n, dE_c, trR_nx, trR_ret, trR_exn, caR_t, caR_f, unAs_nx, unAs_ret, aS_s, aS_n, muO_s, muK_t, ma_app, ma_ext, ma_clr, ma_rev, ma_set, md_app, md_ext, md_clr, md_rev, md_set, cn_i, cn_b, cn_n, cn_s, forL_n, compL_n, j_fld_, at_5, at_6, at_7, at_8, at_9, at_10, at_11, is_bb, bbtt, bbtf, bbft, bbff, beq_self_eq_true, mulOk_small, mulOk_small2, Bool.or_true, Bool.or_false, Bool.true_or, Bool.false_or, Bool.and_true, Bool.true_and, startE, eqV_int, eqV_str, op_add, op_sub, op_mul, op_fdiv, op_fdivN, op_mod, op_pow, op_addS, op_addL, de_non, de_bl, de_int, de_str, de_tup, de_lst, de_exc, de_scr, de_obj, cp_lt, cp_le, cp_gt, cp_ge, cp_eq, cp_ne, cp_isn, cp_isnt, cp_in, cp_nin, no_some, is_non, nb_non, nb_int, nb_bl, nb_tup, nb_lst, nb_str, eq_nn, eq_ni, eq_in, eq_bb, ix_lst, ix_tup, ix_scr, at_0, at_1, at_2, at_3, at_4, bi_lenL, bi_lenT, bi_lenC, bi_abs, bi_min2, bi_max2, bi_listL, bi_listT, ty_int, ty_bl, ty_non, ty_str, ty_lst, ty_tup, ty_exV, it_lst, it_tup, mu_app, mu_ext, mt_app, mt_ext, mt_clr, mt_rev, mt_set, mu_clr, mu_rev, List.map_cons, List.map_nil, List.length_cons, List.length_nil, List.cons_append, List.nil_append, List.replicate, Nat.reduceSub, Nat.reduceAdd, ↓reduceIte, if_true, if_false, Bool.false_eq_true, decide_eq_true_eq, decide_true, decide_false, Bool.not_true, Bool.not_false, reduceCtorEq, ite_true, ite_false, Int.reduceLT, Int.reduceLE, Int.reducePow, Int.reduceMul, Int.reduceAdd, Int.reduceSub, Int.reduceToNat, Nat.reduceLT, Nat.reducePow, and_self, and_true, true_and, Int.reduceNeg, Int.reduceEq, szb1, szb2, szb3, szb0, szb4, szb5, szb6, szb7, szb8, szb9, szb10, szb11, szb12, szb13, szb14, szb15, szb16, szb17, szb18, szb19, szb20, szb21, szb22, szb23, szb24, szb25, szb26, szb27, szb28, szb29, szb30, szb31, szb32, szb33, szb34, szb35, szb36, szb37, szb38, szb39, h']
theorem r_stretchX {x y : Int} (h : y < x) : run G wfN (n + 1) 20 [.int x, .int y] S = .exn 2 S := by
  rw [run_unf (F := F_stretch) rfl rfl rfl]
  simp (decide := true) only [F_stretch, ↓e_v0, ↓e_v1, ↓e_v2, ↓e_v3, ↓e_v4, ↓e_v5, ↓e_v6, ↓e_v7, ↓e_v8, ↓e_v9, ↓e_v10, ↓e_v11, ↓e_v12, ↓e_v13, ↓e_v14, ↓e_v15, ↓e_v16, ↓e_v17, ↓e_v18, ↓e_v19, ↓e_v20, ↓e_v21, ↓e_v22, ↓e_v23, ↓e_v24, ↓e_v25, ↓e_v26, ↓e_v27, ↓e_v28, ↓e_v29, ↓e_k, ↓e_gl, ↓e_op2, ↓e_rep, ↓e_neg, ↓e_cmp, ↓e_ch, ↓e_bop, ↓e_nt, ↓e_ife, ↓e_tup, ↓e_lst, ↓e_ix, ↓e_sl, ↓e_fld, ↓e_call, ↓e_mk, ↓e_mth, ↓e_bi, ↓e_bm, ↓e_sortk, ↓e_isi, ↓e_comp, ↓e_d0, ↓e_rng, ↓e_zip, ↓e_rev, ↓es_n, ↓es_c, ↓eO_n, ↓eO_s, ↓eB_1, ↓eB_c, ↓q_n, ↓q_1, ↓q_c, ↓z_set, ↓z_unp, ↓z_ex, ↓z_ret, ↓z_retN, ↓z_ife, ↓z_for, ↓z_whil, ↓z_brk, ↓z_cnt, ↓z_pas, ↓z_rais, ↓z_mvs, ↓z_tr, ↓h_n, ↓h_c, ↓k2_, ↓j_op2_, ↓j_rep_, ↓j_neg_, ↓j_cmp_, ↓j_ch2_, ↓j_ch3_, ↓j_nt_, ↓j_tup_, ↓j_lst_, ↓j_ix_, ↓j_sl_, ↓j_sl2_, ↓j_sl3_, ↓j_mth_, ↓j_mth2_, ↓j_bi_, ↓j_bm_, ↓j_bm2_, ↓j_isi_, ↓j_lok_, ↓j_comp_, ↓j_rng_, ↓j_zip_, ↓j_rev_, ↓j_cons_, ↓k_es_, ↓z_setK_, ↓z_unpK_, ↓z_exK_, ↓z_forK_, ↓k_mu_, ↓z_mu0, ↓z_mu1, ↓z_mu2, ↓z_mu3, ↓z_mu4, ↓z_mu5, ↓z_mu6, ↓z_mu7, ↓z_mu8, ↓z_mu9, ↓z_mu10, ↓z_mu11, ↓z_mu12, ↓z_mu13, ↓z_mu14, ↓z_mu15, ↓z_mu16, ↓z_mu17, ↓z_mu18, ↓z_mu19, ↓z_mu20, ↓z_mu21, ↓z_mu22, ↓z_mu23, ↓z_mu24, ↓z_mu25, ↓z_mu26, ↓z_mu27, ↓z_mu28, ↓z_mu29, ty_int_int, ty_int_bool, ty_int_str, ty_int_list, ty_int_tuple, ty_int_dict, ty_bool_int, ty_bool_bool, ty_bool_str, ty_bool_list, ty_bool_tuple, ty_bool_dict, ty_str_int, ty_str_bool, ty_str_str, ty_str_list, ty_str_tuple, ty_str_dict, ty_list_int, ty_list_bool, ty_list_str, ty_list_list, ty_list_tuple, ty_list_dict, ty_tuple_int, ty_tuple_bool, ty_tuple_str, ty_tuple_list, ty_tuple_tuple, ty_tuple_dict, ty_dict_int, ty_dict_bool, ty_dict_str, ty_dict_list, ty_dict_tuple, ty_dict_dict, st_0, st_1, st_2, st_3, st_4, st_5, st_6, st_7, st_8, st_9, st_10, st_11, st_12, st_13, st_14, st_15, st_16, st_17, st_18, st_19, st_20, st_21, st_22, st_23, st_24, st_25, st_26, st_27, st_28, st_29, b_ok, b_exn, t_ok, t_exn, of_some, sq_nx, sq_ret, sq_exn, sq_brk, sq_cnt, obl_some, ob_ret, ob_nx, ob_exn, j_rep2_, j_ife_, z_ifeK_, chV_b, szt_t, compV_some, cpR_ok, cB_one, cB_many, cB_cd1, cdX_ok, lstO_some, zipV_l, revV_l, intO_i, bB_tt, bB_tf, bB_ft, bB_ff, bB_t, bB_f, unpV_t, nxO_s, forV_s, fB_one, fB_many, bm_n, bm_c, mvR_nx, mvR_ret, mvR_exn, dE_n, dE_c, trR_nx, trR_ret, trR_exn, caR_t, caR_f, unAs_nx, unAs_ret, aS_s, aS_n, muO_s, muK_t, ma_app, ma_ext, ma_clr, ma_rev, ma_set, md_app, md_ext, md_clr, md_rev, md_set, cn_i, cn_b, cn_n, cn_s, forL_n, compL_n, j_fld_, at_5, at_6, at_7, at_8, at_9, at_10, at_11, is_bb, bbtt, bbtf, bbft, bbff, beq_self_eq_true, mulOk_small, mulOk_small2, Bool.or_true, Bool.or_false, Bool.true_or, Bool.false_or, Bool.and_true, Bool.true_and, startE, eqV_int, eqV_str, op_add, op_sub, op_mul, op_fdiv, op_fdivN, op_mod, op_pow, op_addS, op_addL, de_non, de_bl, de_int, de_str, de_tup, de_lst, de_exc, de_scr, de_obj, cp_lt, cp_le, cp_gt, cp_ge, cp_eq, cp_ne, cp_isn, cp_isnt, cp_in, cp_nin, no_some, is_non, nb_non, nb_int, nb_bl, nb_tup, nb_lst, nb_str, eq_nn, eq_ni, eq_in, eq_bb, ix_lst, ix_tup, ix_scr, at_0, at_1, at_2, at_3, at_4, bi_lenL, bi_lenT, bi_lenC, bi_abs, bi_min2, bi_max2, bi_listL, bi_listT, ty_int, ty_bl, ty_non, ty_str, ty_lst, ty_tup, ty_exV, it_lst, it_tup, mu_app, mu_ext, mt_app, mt_ext, mt_clr, mt_rev, mt_set, mu_clr, mu_rev, List.map_cons, List.map_nil, List.length_cons, List.length_nil, List.cons_append, List.nil_append, List.replicate, Nat.reduceSub, Nat.reduceAdd, ↓reduceIte, if_true, if_false, Bool.false_eq_true, decide_eq_true_eq, decide_true, decide_false, Bool.not_true, Bool.not_false, reduceCtorEq, ite_true, ite_false, Int.reduceLT, Int.reduceLE, Int.reducePow, Int.reduceMul, Int.reduceAdd, Int.reduceSub, Int.reduceToNat, Nat.reduceLT, Nat.reducePow, and_self, and_true, true_and, Int.reduceNeg, Int.reduceEq, szb1, szb2, szb3, szb0, szb4, szb5, szb6, szb7, szb8, szb9, szb10, szb11, szb12, szb13, szb14, szb15, szb16, szb17, szb18, szb19, szb20, szb21, szb22, szb23, szb24, szb25, szb26, szb27, szb28, szb29, szb30, szb31, szb32, szb33, szb34, szb35, szb36, szb37, szb38, szb39, h]
theorem r_refused {x y : Int} (h : y < x) : run G wfN (n + 2) 26 [.int x, .int y] S = .ok (.bl true) S := by
  rw [run_unf (F := F_l_refused_2) rfl rfl rfl]
  have c1 : catches G 2 0 = some true := by rfl
  have c2 : tyV G S (.exc 2) (.cls 2) = some true := by rfl
  have c3 : tyV G S (.exc 2) (.cls 5) = some false := by rfl
  simp (decide := true) only [F_l_refused_2, ↓e_v0, ↓e_v1, ↓e_v2, ↓e_v3, ↓e_v4, ↓e_v5, ↓e_v6, ↓e_v7, ↓e_v8, ↓e_v9, ↓e_v10, ↓e_v11, ↓e_v12, ↓e_v13, ↓e_v14, ↓e_v15, ↓e_v16, ↓e_v17, ↓e_v18, ↓e_v19, ↓e_v20, ↓e_v21, ↓e_v22, ↓e_v23, ↓e_v24, ↓e_v25, ↓e_v26, ↓e_v27, ↓e_v28, ↓e_v29, ↓e_k, ↓e_gl, ↓e_op2, ↓e_rep, ↓e_neg, ↓e_cmp, ↓e_ch, ↓e_bop, ↓e_nt, ↓e_ife, ↓e_tup, ↓e_lst, ↓e_ix, ↓e_sl, ↓e_fld, ↓e_call, ↓e_mk, ↓e_mth, ↓e_bi, ↓e_bm, ↓e_sortk, ↓e_isi, ↓e_comp, ↓e_d0, ↓e_rng, ↓e_zip, ↓e_rev, ↓es_n, ↓es_c, ↓eO_n, ↓eO_s, ↓eB_1, ↓eB_c, ↓q_n, ↓q_1, ↓q_c, ↓z_set, ↓z_unp, ↓z_ex, ↓z_ret, ↓z_retN, ↓z_ife, ↓z_for, ↓z_whil, ↓z_brk, ↓z_cnt, ↓z_pas, ↓z_rais, ↓z_mvs, ↓z_tr, ↓h_n, ↓h_c, ↓k2_, ↓j_op2_, ↓j_rep_, ↓j_neg_, ↓j_cmp_, ↓j_ch2_, ↓j_ch3_, ↓j_nt_, ↓j_tup_, ↓j_lst_, ↓j_ix_, ↓j_sl_, ↓j_sl2_, ↓j_sl3_, ↓j_mth_, ↓j_mth2_, ↓j_bi_, ↓j_bm_, ↓j_bm2_, ↓j_isi_, ↓j_lok_, ↓j_comp_, ↓j_rng_, ↓j_zip_, ↓j_rev_, ↓j_cons_, ↓k_es_, ↓z_setK_, ↓z_unpK_, ↓z_exK_, ↓z_forK_, ↓k_mu_, ↓z_mu0, ↓z_mu1, ↓z_mu2, ↓z_mu3, ↓z_mu4, ↓z_mu5, ↓z_mu6, ↓z_mu7, ↓z_mu8, ↓z_mu9, ↓z_mu10, ↓z_mu11, ↓z_mu12, ↓z_mu13, ↓z_mu14, ↓z_mu15, ↓z_mu16, ↓z_mu17, ↓z_mu18, ↓z_mu19, ↓z_mu20, ↓z_mu21, ↓z_mu22, ↓z_mu23, ↓z_mu24, ↓z_mu25, ↓z_mu26, ↓z_mu27, ↓z_mu28, ↓z_mu29, ty_int_int, ty_int_bool, ty_int_str, ty_int_list, ty_int_tuple, ty_int_dict, ty_bool_int, ty_bool_bool, ty_bool_str, ty_bool_list, ty_bool_tuple, ty_bool_dict, ty_str_int, ty_str_bool, ty_str_str, ty_str_list, ty_str_tuple, ty_str_dict, ty_list_int, ty_list_bool, ty_list_str, ty_list_list, ty_list_tuple, ty_list_dict, ty_tuple_int, ty_tuple_bool, ty_tuple_str, ty_tuple_list, ty_tuple_tuple, ty_tuple_dict, ty_dict_int, ty_dict_bool, ty_dict_str, ty_dict_list, ty_dict_tuple, ty_dict_dict, st_0, st_1, st_2, st_3, st_4, st_5, st_6, st_7, st_8, st_9, st_10, st_11, st_12, st_13, st_14, st_15, st_16, st_17, st_18, st_19, st_20, st_21, st_22, st_23, st_24, st_25, st_26, st_27, st_28, st_29, b_ok, b_exn, t_ok, t_exn, of_some, sq_nx, sq_ret, sq_exn, sq_brk, sq_cnt, obl_some, ob_ret, ob_nx, ob_exn, j_rep2_, j_ife_, z_ifeK_, chV_b, szt_t, compV_some, cpR_ok, cB_one, cB_many, cB_cd1, cdX_ok, lstO_some, zipV_l, revV_l, intO_i, bB_tt, bB_tf, bB_ft, bB_ff, bB_t, bB_f, unpV_t, nxO_s, forV_s, fB_one, fB_many, bm_n, bm_c, mvR_nx, mvR_ret, mvR_exn, dE_n, dE_c, trR_nx, trR_ret, trR_exn, caR_t, caR_f, unAs_nx, unAs_ret, aS_s, aS_n, muO_s, muK_t, ma_app, ma_ext, ma_clr, ma_rev, ma_set, md_app, md_ext, md_clr, md_rev, md_set, cn_i, cn_b, cn_n, cn_s, forL_n, compL_n, j_fld_, at_5, at_6, at_7, at_8, at_9, at_10, at_11, is_bb, bbtt, bbtf, bbft, bbff, beq_self_eq_true, mulOk_small, mulOk_small2, Bool.or_true, Bool.or_false, Bool.true_or, Bool.false_or, Bool.and_true, Bool.true_and, startE, eqV_int, eqV_str, op_add, op_sub, op_mul, op_fdiv, op_fdivN, op_mod, op_pow, op_addS, op_addL, de_non, de_bl, de_int, de_str, de_tup, de_lst, de_exc, de_scr, de_obj, cp_lt, cp_le, cp_gt, cp_ge, cp_eq, cp_ne, cp_isn, cp_isnt, cp_in, cp_nin, no_some, is_non, nb_non, nb_int, nb_bl, nb_tup, nb_lst, nb_str, eq_nn, eq_ni, eq_in, eq_bb, ix_lst, ix_tup, ix_scr, at_0, at_1, at_2, at_3, at_4, bi_lenL, bi_lenT, bi_lenC, bi_abs, bi_min2, bi_max2, bi_listL, bi_listT, ty_int, ty_bl, ty_non, ty_str, ty_lst, ty_tup, ty_exV, it_lst, it_tup, mu_app, mu_ext, mt_app, mt_ext, mt_clr, mt_rev, mt_set, mu_clr, mu_rev, List.map_cons, List.map_nil, List.length_cons, List.length_nil, List.cons_append, List.nil_append, List.replicate, Nat.reduceSub, Nat.reduceAdd, ↓reduceIte, if_true, if_false, Bool.false_eq_true, decide_eq_true_eq, decide_true, decide_false, Bool.not_true, Bool.not_false, reduceCtorEq, ite_true, ite_false, Int.reduceLT, Int.reduceLE, Int.reducePow, Int.reduceMul, Int.reduceAdd, Int.reduceSub, Int.reduceToNat, Nat.reduceLT, Nat.reducePow, and_self, and_true, true_and, Int.reduceNeg, Int.reduceEq, szb1, szb2, szb3, szb0, szb4, szb5, szb6, szb7, szb8, szb9, szb10, szb11, szb12, szb13, szb14, szb15, szb16, szb17, szb18, szb19, szb20, szb21, szb22, szb23, szb24, szb25, szb26, szb27, szb28, szb29, szb30, szb31, szb32, szb33, szb34, szb35, szb36, szb37, szb38, szb39, r_stretchX h, c1, c2, c3]
theorem r_holds {k : Int} : run G wfN (n + 1) 21 [encO p, .int k] S = .ok (.bl (holdsB p k)) S := by
  rw [run_unf (F := F_holds) rfl rfl rfl]
  obtain ⟨a, c⟩ := p
  cases a with
  | none => cases c <;> simp (decide := true) only [F_holds, ↓e_v0, ↓e_v1, ↓e_v2, ↓e_v3, ↓e_v4, ↓e_v5, ↓e_v6, ↓e_v7, ↓e_v8, ↓e_v9, ↓e_v10, ↓e_v11, ↓e_v12, ↓e_v13, ↓e_v14, ↓e_v15, ↓e_v16, ↓e_v17, ↓e_v18, ↓e_v19, ↓e_v20, ↓e_v21, ↓e_v22, ↓e_v23, ↓e_v24, ↓e_v25, ↓e_v26, ↓e_v27, ↓e_v28, ↓e_v29, ↓e_k, ↓e_gl, ↓e_op2, ↓e_rep, ↓e_neg, ↓e_cmp, ↓e_ch, ↓e_bop, ↓e_nt, ↓e_ife, ↓e_tup, ↓e_lst, ↓e_ix, ↓e_sl, ↓e_fld, ↓e_call, ↓e_mk, ↓e_mth, ↓e_bi, ↓e_bm, ↓e_sortk, ↓e_isi, ↓e_comp, ↓e_d0, ↓e_rng, ↓e_zip, ↓e_rev, ↓es_n, ↓es_c, ↓eO_n, ↓eO_s, ↓eB_1, ↓eB_c, ↓q_n, ↓q_1, ↓q_c, ↓z_set, ↓z_unp, ↓z_ex, ↓z_ret, ↓z_retN, ↓z_ife, ↓z_for, ↓z_whil, ↓z_brk, ↓z_cnt, ↓z_pas, ↓z_rais, ↓z_mvs, ↓z_tr, ↓h_n, ↓h_c, ↓k2_, ↓j_op2_, ↓j_rep_, ↓j_neg_, ↓j_cmp_, ↓j_ch2_, ↓j_ch3_, ↓j_nt_, ↓j_tup_, ↓j_lst_, ↓j_ix_, ↓j_sl_, ↓j_sl2_, ↓j_sl3_, ↓j_mth_, ↓j_mth2_, ↓j_bi_, ↓j_bm_, ↓j_bm2_, ↓j_isi_, ↓j_lok_, ↓j_comp_, ↓j_rng_, ↓j_zip_, ↓j_rev_, ↓j_cons_, ↓k_es_, ↓z_setK_, ↓z_unpK_, ↓z_exK_, ↓z_forK_, ↓k_mu_, ↓z_mu0, ↓z_mu1, ↓z_mu2, ↓z_mu3, ↓z_mu4, ↓z_mu5, ↓z_mu6, ↓z_mu7, ↓z_mu8, ↓z_mu9, ↓z_mu10, ↓z_mu11, ↓z_mu12, ↓z_mu13, ↓z_mu14, ↓z_mu15, ↓z_mu16, ↓z_mu17, ↓z_mu18, ↓z_mu19, ↓z_mu20, ↓z_mu21, ↓z_mu22, ↓z_mu23, ↓z_mu24, ↓z_mu25, ↓z_mu26, ↓z_mu27, ↓z_mu28, ↓z_mu29, ty_int_int, ty_int_bool, ty_int_str, ty_int_list, ty_int_tuple, ty_int_dict, ty_bool_int, ty_bool_bool, ty_bool_str, ty_bool_list, ty_bool_tuple, ty_bool_dict, ty_str_int, ty_str_bool, ty_str_str, ty_str_list, ty_str_tuple, ty_str_dict, ty_list_int, ty_list_bool, ty_list_str, ty_list_list, ty_list_tuple, ty_list_dict, ty_tuple_int, ty_tuple_bool, ty_tuple_str, ty_tuple_list, ty_tuple_tuple, ty_tuple_dict, ty_dict_int, ty_dict_bool, ty_dict_str, ty_dict_list, ty_dict_tuple, ty_dict_dict, st_0, st_1, st_2, st_3, st_4, st_5, st_6, st_7, st_8, st_9, st_10, st_11, st_12, st_13, st_14, st_15, st_16, st_17, st_18, st_19, st_20, st_21, st_22, st_23, st_24, st_25, st_26, st_27, st_28, st_29, b_ok, b_exn, t_ok, t_exn, of_some, sq_nx, sq_ret, sq_exn, sq_brk, sq_cnt, obl_some, ob_ret, ob_nx, ob_exn, j_rep2_, j_ife_, z_ifeK_, chV_b, szt_t, compV_some, cpR_ok, cB_one, cB_many, cB_cd1, cdX_ok, lstO_some, zipV_l, revV_l, intO_i, bB_tt, bB_tf, bB_ft, bB_ff, bB_t, bB_f, unpV_t, nxO_s, forV_s, fB_one, fB_many, bm_n, bm_c, mvR_nx, mvR_ret, mvR_exn, dE_n, dE_c, trR_nx, trR_ret, trR_exn, caR_t, caR_f, unAs_nx, unAs_ret, aS_s, aS_n, muO_s, muK_t, ma_app, ma_ext, ma_clr, ma_rev, ma_set, md_app, md_ext, md_clr, md_rev, md_set, cn_i, cn_b, cn_n, cn_s, forL_n, compL_n, j_fld_, at_5, at_6, at_7, at_8, at_9, at_10, at_11, is_bb, bbtt, bbtf, bbft, bbff, beq_self_eq_true, mulOk_small, mulOk_small2, Bool.or_true, Bool.or_false, Bool.true_or, Bool.false_or, Bool.and_true, Bool.true_and, startE, eqV_int, eqV_str, op_add, op_sub, op_mul, op_fdiv, op_fdivN, op_mod, op_pow, op_addS, op_addL, de_non, de_bl, de_int, de_str, de_tup, de_lst, de_exc, de_scr, de_obj, cp_lt, cp_le, cp_gt, cp_ge, cp_eq, cp_ne, cp_isn, cp_isnt, cp_in, cp_nin, no_some, is_non, nb_non, nb_int, nb_bl, nb_tup, nb_lst, nb_str, eq_nn, eq_ni, eq_in, eq_bb, ix_lst, ix_tup, ix_scr, at_0, at_1, at_2, at_3, at_4, bi_lenL, bi_lenT, bi_lenC, bi_abs, bi_min2, bi_max2, bi_listL, bi_listT, ty_int, ty_bl, ty_non, ty_str, ty_lst, ty_tup, ty_exV, it_lst, it_tup, mu_app, mu_ext, mt_app, mt_ext, mt_clr, mt_rev, mt_set, mu_clr, mu_rev, List.map_cons, List.map_nil, List.length_cons, List.length_nil, List.cons_append, List.nil_append, List.replicate, Nat.reduceSub, Nat.reduceAdd, ↓reduceIte, if_true, if_false, Bool.false_eq_true, decide_eq_true_eq, decide_true, decide_false, Bool.not_true, Bool.not_false, reduceCtorEq, ite_true, ite_false, Int.reduceLT, Int.reduceLE, Int.reducePow, Int.reduceMul, Int.reduceAdd, Int.reduceSub, Int.reduceToNat, Nat.reduceLT, Nat.reducePow, and_self, and_true, true_and, Int.reduceNeg, Int.reduceEq, szb1, szb2, szb3, szb0, szb4, szb5, szb6, szb7, szb8, szb9, szb10, szb11, szb12, szb13, szb14, szb15, szb16, szb17, szb18, szb19, szb20, szb21, szb22, szb23, szb24, szb25, szb26, szb27, szb28, szb29, szb30, szb31, szb32, szb33, szb34, szb35, szb36, szb37, szb38, szb39, encO, oV_s, oV_n, holdsB]
  | some x =>
    by_cases h : k < x
    · cases c <;> simp (decide := true) only [F_holds, ↓e_v0, ↓e_v1, ↓e_v2, ↓e_v3, ↓e_v4, ↓e_v5, ↓e_v6, ↓e_v7, ↓e_v8, ↓e_v9, ↓e_v10, ↓e_v11, ↓e_v12, ↓e_v13, ↓e_v14, ↓e_v15, ↓e_v16, ↓e_v17, ↓e_v18, ↓e_v19, ↓e_v20, ↓e_v21, ↓e_v22, ↓e_v23, ↓e_v24, ↓e_v25, ↓e_v26, ↓e_v27, ↓e_v28, ↓e_v29, ↓e_k, ↓e_gl, ↓e_op2, ↓e_rep, ↓e_neg, ↓e_cmp, ↓e_ch, ↓e_bop, ↓e_nt, ↓e_ife, ↓e_tup, ↓e_lst, ↓e_ix, ↓e_sl, ↓e_fld, ↓e_call, ↓e_mk, ↓e_mth, ↓e_bi, ↓e_bm, ↓e_sortk, ↓e_isi, ↓e_comp, ↓e_d0, ↓e_rng, ↓e_zip, ↓e_rev, ↓es_n, ↓es_c, ↓eO_n, ↓eO_s, ↓eB_1, ↓eB_c, ↓q_n, ↓q_1, ↓q_c, ↓z_set, ↓z_unp, ↓z_ex, ↓z_ret, ↓z_retN, ↓z_ife, ↓z_for, ↓z_whil, ↓z_brk, ↓z_cnt, ↓z_pas, ↓z_rais, ↓z_mvs, ↓z_tr, ↓h_n, ↓h_c, ↓k2_, ↓j_op2_, ↓j_rep_, ↓j_neg_, ↓j_cmp_, ↓j_ch2_, ↓j_ch3_, ↓j_nt_, ↓j_tup_, ↓j_lst_, ↓j_ix_, ↓j_sl_, ↓j_sl2_, ↓j_sl3_, ↓j_mth_, ↓j_mth2_, ↓j_bi_, ↓j_bm_, ↓j_bm2_, ↓j_isi_, ↓j_lok_, ↓j_comp_, ↓j_rng_, ↓j_zip_, ↓j_rev_, ↓j_cons_, ↓k_es_, ↓z_setK_, ↓z_unpK_, ↓z_exK_, ↓z_forK_, ↓k_mu_, ↓z_mu0, ↓z_mu1, ↓z_mu2, ↓z_mu3, ↓z_mu4, ↓z_mu5, ↓z_mu6, ↓z_mu7, ↓z_mu8, ↓z_mu9, ↓z_mu10, ↓z_mu11, ↓z_mu12, ↓z_mu13, ↓z_mu14, ↓z_mu15, ↓z_mu16, ↓z_mu17, ↓z_mu18, ↓z_mu19, ↓z_mu20, ↓z_mu21, ↓z_mu22, ↓z_mu23, ↓z_mu24, ↓z_mu25, ↓z_mu26, ↓z_mu27, ↓z_mu28, ↓z_mu29, ty_int_int, ty_int_bool, ty_int_str, ty_int_list, ty_int_tuple, ty_int_dict, ty_bool_int, ty_bool_bool, ty_bool_str, ty_bool_list, ty_bool_tuple, ty_bool_dict, ty_str_int, ty_str_bool, ty_str_str, ty_str_list, ty_str_tuple, ty_str_dict, ty_list_int, ty_list_bool, ty_list_str, ty_list_list, ty_list_tuple, ty_list_dict, ty_tuple_int, ty_tuple_bool, ty_tuple_str, ty_tuple_list, ty_tuple_tuple, ty_tuple_dict, ty_dict_int, ty_dict_bool, ty_dict_str, ty_dict_list, ty_dict_tuple, ty_dict_dict, st_0, st_1, st_2, st_3, st_4, st_5, st_6, st_7, st_8, st_9, st_10, st_11, st_12, st_13, st_14, st_15, st_16, st_17, st_18, st_19, st_20, st_21, st_22, st_23, st_24, st_25, st_26, st_27, st_28, st_29, b_ok, b_exn, t_ok, t_exn, of_some, sq_nx, sq_ret, sq_exn, sq_brk, sq_cnt, obl_some, ob_ret, ob_nx, ob_exn, j_rep2_, j_ife_, z_ifeK_, chV_b, szt_t, compV_some, cpR_ok, cB_one, cB_many, cB_cd1, cdX_ok, lstO_some, zipV_l, revV_l, intO_i, bB_tt, bB_tf, bB_ft, bB_ff, bB_t, bB_f, unpV_t, nxO_s, forV_s, fB_one, fB_many, bm_n, bm_c, mvR_nx, mvR_ret, mvR_exn, dE_n, dE_c, trR_nx, trR_ret, trR_exn, caR_t, caR_f, unAs_nx, unAs_ret, aS_s, aS_n, muO_s, muK_t, ma_app, ma_ext, ma_clr, ma_rev, ma_set, md_app, md_ext, md_clr, md_rev, md_set, cn_i, cn_b, cn_n, cn_s, forL_n, compL_n, j_fld_, at_5, at_6, at_7, at_8, at_9, at_10, at_11, is_bb, bbtt, bbtf, bbft, bbff, beq_self_eq_true, mulOk_small, mulOk_small2, Bool.or_true, Bool.or_false, Bool.true_or, Bool.false_or, Bool.and_true, Bool.true_and, startE, eqV_int, eqV_str, op_add, op_sub, op_mul, op_fdiv, op_fdivN, op_mod, op_pow, op_addS, op_addL, de_non, de_bl, de_int, de_str, de_tup, de_lst, de_exc, de_scr, de_obj, cp_lt, cp_le, cp_gt, cp_ge, cp_eq, cp_ne, cp_isn, cp_isnt, cp_in, cp_nin, no_some, is_non, nb_non, nb_int, nb_bl, nb_tup, nb_lst, nb_str, eq_nn, eq_ni, eq_in, eq_bb, ix_lst, ix_tup, ix_scr, at_0, at_1, at_2, at_3, at_4, bi_lenL, bi_lenT, bi_lenC, bi_abs, bi_min2, bi_max2, bi_listL, bi_listT, ty_int, ty_bl, ty_non, ty_str, ty_lst, ty_tup, ty_exV, it_lst, it_tup, mu_app, mu_ext, mt_app, mt_ext, mt_clr, mt_rev, mt_set, mu_clr, mu_rev, List.map_cons, List.map_nil, List.length_cons, List.length_nil, List.cons_append, List.nil_append, List.replicate, Nat.reduceSub, Nat.reduceAdd, ↓reduceIte, if_true, if_false, Bool.false_eq_true, decide_eq_true_eq, decide_true, decide_false, Bool.not_true, Bool.not_false, reduceCtorEq, ite_true, ite_false, Int.reduceLT, Int.reduceLE, Int.reducePow, Int.reduceMul, Int.reduceAdd, Int.reduceSub, Int.reduceToNat, Nat.reduceLT, Nat.reducePow, and_self, and_true, true_and, Int.reduceNeg, Int.reduceEq, szb1, szb2, szb3, szb0, szb4, szb5, szb6, szb7, szb8, szb9, szb10, szb11, szb12, szb13, szb14, szb15, szb16, szb17, szb18, szb19, szb20, szb21, szb22, szb23, szb24, szb25, szb26, szb27, szb28, szb29, szb30, szb31, szb32, szb33, szb34, szb35, szb36, szb37, szb38, szb39, encO, oV_s, oV_n, holdsB, h, Bool.false_and]
    · cases c <;> simp (decide := true) only [F_holds, ↓e_v0, ↓e_v1, ↓e_v2, ↓e_v3, ↓e_v4, ↓e_v5, ↓e_v6, ↓e_v7, ↓e_v8, ↓e_v9, ↓e_v10, ↓e_v11, ↓e_v12, ↓e_v13, ↓e_v14, ↓e_v15, ↓e_v16, ↓e_v17, ↓e_v18, ↓e_v19, ↓e_v20, ↓e_v21, ↓e_v22, ↓e_v23, ↓e_v24, ↓e_v25, ↓e_v26, ↓e_v27, ↓e_v28, ↓e_v29, ↓e_k, ↓e_gl, ↓e_op2, ↓e_rep, ↓e_neg, ↓e_cmp, ↓e_ch, ↓e_bop, ↓e_nt, ↓e_ife, ↓e_tup, ↓e_lst, ↓e_ix, ↓e_sl, ↓e_fld, ↓e_call, ↓e_mk, ↓e_mth, ↓e_bi, ↓e_bm, ↓e_sortk, ↓e_isi, ↓e_comp, ↓e_d0, ↓e_rng, ↓e_zip, ↓e_rev, ↓es_n, ↓es_c, ↓eO_n, ↓eO_s, ↓eB_1, ↓eB_c, ↓q_n, ↓q_1, ↓q_c, ↓z_set, ↓z_unp, ↓z_ex, ↓z_ret, ↓z_retN, ↓z_ife, ↓z_for, ↓z_whil, ↓z_brk, ↓z_cnt, ↓z_pas, ↓z_rais, ↓z_mvs, ↓z_tr, ↓h_n, ↓h_c, ↓k2_, ↓j_op2_, ↓j_rep_, ↓j_neg_, ↓j_cmp_, ↓j_ch2_, ↓j_ch3_, ↓j_nt_, ↓j_tup_, ↓j_lst_, ↓j_ix_, ↓j_sl_, ↓j_sl2_, ↓j_sl3_, ↓j_mth_, ↓j_mth2_, ↓j_bi_, ↓j_bm_, ↓j_bm2_, ↓j_isi_, ↓j_lok_, ↓j_comp_, ↓j_rng_, ↓j_zip_, ↓j_rev_, ↓j_cons_, ↓k_es_, ↓z_setK_, ↓z_unpK_, ↓z_exK_, ↓z_forK_, ↓k_mu_, ↓z_mu0, ↓z_mu1, ↓z_mu2, ↓z_mu3, ↓z_mu4, ↓z_mu5, ↓z_mu6, ↓z_mu7, ↓z_mu8, ↓z_mu9, ↓z_mu10, ↓z_mu11, ↓z_mu12, ↓z_mu13, ↓z_mu14, ↓z_mu15, ↓z_mu16, ↓z_mu17, ↓z_mu18, ↓z_mu19, ↓z_mu20, ↓z_mu21, ↓z_mu22, ↓z_mu23, ↓z_mu24, ↓z_mu25, ↓z_mu26, ↓z_mu27, ↓z_mu28, ↓z_mu29, ty_int_int, ty_int_bool, ty_int_str, ty_int_list, ty_int_tuple, ty_int_dict, ty_bool_int, ty_bool_bool, ty_bool_str, ty_bool_list, ty_bool_tuple, ty_bool_dict, ty_str_int, ty_str_bool, ty_str_str, ty_str_list, ty_str_tuple, ty_str_dict, ty_list_int, ty_list_bool, ty_list_str, ty_list_list, ty_list_tuple, ty_list_dict, ty_tuple_int, ty_tuple_bool, ty_tuple_str, ty_tuple_list, ty_tuple_tuple, ty_tuple_dict, ty_dict_int, ty_dict_bool, ty_dict_str, ty_dict_list, ty_dict_tuple, ty_dict_dict, st_0, st_1, st_2, st_3, st_4, st_5, st_6, st_7, st_8, st_9, st_10, st_11, st_12, st_13, st_14, st_15, st_16, st_17, st_18, st_19, st_20, st_21, st_22, st_23, st_24, st_25, st_26, st_27, st_28, st_29, b_ok, b_exn, t_ok, t_exn, of_some, sq_nx, sq_ret, sq_exn, sq_brk, sq_cnt, obl_some, ob_ret, ob_nx, ob_exn, j_rep2_, j_ife_, z_ifeK_, chV_b, szt_t, compV_some, cpR_ok, cB_one, cB_many, cB_cd1, cdX_ok, lstO_some, zipV_l, revV_l, intO_i, bB_tt, bB_tf, bB_ft, bB_ff, bB_t, bB_f, unpV_t, nxO_s, forV_s, fB_one, fB_many, bm_n, bm_c, mvR_nx, mvR_ret, mvR_exn, dE_n, dE_c, trR_nx, trR_ret, trR_exn, caR_t, caR_f, unAs_nx, unAs_ret, aS_s, aS_n, muO_s, muK_t, ma_app, ma_ext, ma_clr, ma_rev, ma_set, md_app, md_ext, md_clr, md_rev, md_set, cn_i, cn_b, cn_n, cn_s, forL_n, compL_n, j_fld_, at_5, at_6, at_7, at_8, at_9, at_10, at_11, is_bb, bbtt, bbtf, bbft, bbff, beq_self_eq_true, mulOk_small, mulOk_small2, Bool.or_true, Bool.or_false, Bool.true_or, Bool.false_or, Bool.and_true, Bool.true_and, startE, eqV_int, eqV_str, op_add, op_sub, op_mul, op_fdiv, op_fdivN, op_mod, op_pow, op_addS, op_addL, de_non, de_bl, de_int, de_str, de_tup, de_lst, de_exc, de_scr, de_obj, cp_lt, cp_le, cp_gt, cp_ge, cp_eq, cp_ne, cp_isn, cp_isnt, cp_in, cp_nin, no_some, is_non, nb_non, nb_int, nb_bl, nb_tup, nb_lst, nb_str, eq_nn, eq_ni, eq_in, eq_bb, ix_lst, ix_tup, ix_scr, at_0, at_1, at_2, at_3, at_4, bi_lenL, bi_lenT, bi_lenC, bi_abs, bi_min2, bi_max2, bi_listL, bi_listT, ty_int, ty_bl, ty_non, ty_str, ty_lst, ty_tup, ty_exV, it_lst, it_tup, mu_app, mu_ext, mt_app, mt_ext, mt_clr, mt_rev, mt_set, mu_clr, mu_rev, List.map_cons, List.map_nil, List.length_cons, List.length_nil, List.cons_append, List.nil_append, List.replicate, Nat.reduceSub, Nat.reduceAdd, ↓reduceIte, if_true, if_false, Bool.false_eq_true, decide_eq_true_eq, decide_true, decide_false, Bool.not_true, Bool.not_false, reduceCtorEq, ite_true, ite_false, Int.reduceLT, Int.reduceLE, Int.reducePow, Int.reduceMul, Int.reduceAdd, Int.reduceSub, Int.reduceToNat, Nat.reduceLT, Nat.reducePow, and_self, and_true, true_and, Int.reduceNeg, Int.reduceEq, szb1, szb2, szb3, szb0, szb4, szb5, szb6, szb7, szb8, szb9, szb10, szb11, szb12, szb13, szb14, szb15, szb16, szb17, szb18, szb19, szb20, szb21, szb22, szb23, szb24, szb25, szb26, szb27, szb28, szb29, szb30, szb31, szb32, szb33, szb34, szb35, szb36, szb37, szb38, szb39, encO, oV_s, oV_n, holdsB, h, Bool.true_and]
theorem r_within {k : Int} : run G wfN (n + 1) 28 [encO p, .int k] S = .ok (.bl (holdsB p k)) S := by
  rw [run_unf (F := F_l_within) rfl rfl rfl]
  obtain ⟨a, c⟩ := p
  cases a with
  | none => cases c <;> simp (decide := true) only [F_l_within, ↓e_v0, ↓e_v1, ↓e_v2, ↓e_v3, ↓e_v4, ↓e_v5, ↓e_v6, ↓e_v7, ↓e_v8, ↓e_v9, ↓e_v10, ↓e_v11, ↓e_v12, ↓e_v13, ↓e_v14, ↓e_v15, ↓e_v16, ↓e_v17, ↓e_v18, ↓e_v19, ↓e_v20, ↓e_v21, ↓e_v22, ↓e_v23, ↓e_v24, ↓e_v25, ↓e_v26, ↓e_v27, ↓e_v28, ↓e_v29, ↓e_k, ↓e_gl, ↓e_op2, ↓e_rep, ↓e_neg, ↓e_cmp, ↓e_ch, ↓e_bop, ↓e_nt, ↓e_ife, ↓e_tup, ↓e_lst, ↓e_ix, ↓e_sl, ↓e_fld, ↓e_call, ↓e_mk, ↓e_mth, ↓e_bi, ↓e_bm, ↓e_sortk, ↓e_isi, ↓e_comp, ↓e_d0, ↓e_rng, ↓e_zip, ↓e_rev, ↓es_n, ↓es_c, ↓eO_n, ↓eO_s, ↓eB_1, ↓eB_c, ↓q_n, ↓q_1, ↓q_c, ↓z_set, ↓z_unp, ↓z_ex, ↓z_ret, ↓z_retN, ↓z_ife, ↓z_for, ↓z_whil, ↓z_brk, ↓z_cnt, ↓z_pas, ↓z_rais, ↓z_mvs, ↓z_tr, ↓h_n, ↓h_c, ↓k2_, ↓j_op2_, ↓j_rep_, ↓j_neg_, ↓j_cmp_, ↓j_ch2_, ↓j_ch3_, ↓j_nt_, ↓j_tup_, ↓j_lst_, ↓j_ix_, ↓j_sl_, ↓j_sl2_, ↓j_sl3_, ↓j_mth_, ↓j_mth2_, ↓j_bi_, ↓j_bm_, ↓j_bm2_, ↓j_isi_, ↓j_lok_, ↓j_comp_, ↓j_rng_, ↓j_zip_, ↓j_rev_, ↓j_cons_, ↓k_es_, ↓z_setK_, ↓z_unpK_, ↓z_exK_, ↓z_forK_, ↓k_mu_, ↓z_mu0, ↓z_mu1, ↓z_mu2, ↓z_mu3, ↓z_mu4, ↓z_mu5, ↓z_mu6, ↓z_mu7, ↓z_mu8, ↓z_mu9, ↓z_mu10, ↓z_mu11, ↓z_mu12, ↓z_mu13, ↓z_mu14, ↓z_mu15, ↓z_mu16, ↓z_mu17, ↓z_mu18, ↓z_mu19, ↓z_mu20, ↓z_mu21, ↓z_mu22, ↓z_mu23, ↓z_mu24, ↓z_mu25, ↓z_mu26, ↓z_mu27, ↓z_mu28, ↓z_mu29, ty_int_int, ty_int_bool, ty_int_str, ty_int_list, ty_int_tuple, ty_int_dict, ty_bool_int, ty_bool_bool, ty_bool_str, ty_bool_list, ty_bool_tuple, ty_bool_dict, ty_str_int, ty_str_bool, ty_str_str, ty_str_list, ty_str_tuple, ty_str_dict, ty_list_int, ty_list_bool, ty_list_str, ty_list_list, ty_list_tuple, ty_list_dict, ty_tuple_int, ty_tuple_bool, ty_tuple_str, ty_tuple_list, ty_tuple_tuple, ty_tuple_dict, ty_dict_int, ty_dict_bool, ty_dict_str, ty_dict_list, ty_dict_tuple, ty_dict_dict, st_0, st_1, st_2, st_3, st_4, st_5, st_6, st_7, st_8, st_9, st_10, st_11, st_12, st_13, st_14, st_15, st_16, st_17, st_18, st_19, st_20, st_21, st_22, st_23, st_24, st_25, st_26, st_27, st_28, st_29, b_ok, b_exn, t_ok, t_exn, of_some, sq_nx, sq_ret, sq_exn, sq_brk, sq_cnt, obl_some, ob_ret, ob_nx, ob_exn, j_rep2_, j_ife_, z_ifeK_, chV_b, szt_t, compV_some, cpR_ok, cB_one, cB_many, cB_cd1, cdX_ok, lstO_some, zipV_l, revV_l, intO_i, bB_tt, bB_tf, bB_ft, bB_ff, bB_t, bB_f, unpV_t, nxO_s, forV_s, fB_one, fB_many, bm_n, bm_c, mvR_nx, mvR_ret, mvR_exn, dE_n, dE_c, trR_nx, trR_ret, trR_exn, caR_t, caR_f, unAs_nx, unAs_ret, aS_s, aS_n, muO_s, muK_t, ma_app, ma_ext, ma_clr, ma_rev, ma_set, md_app, md_ext, md_clr, md_rev, md_set, cn_i, cn_b, cn_n, cn_s, forL_n, compL_n, j_fld_, at_5, at_6, at_7, at_8, at_9, at_10, at_11, is_bb, bbtt, bbtf, bbft, bbff, beq_self_eq_true, mulOk_small, mulOk_small2, Bool.or_true, Bool.or_false, Bool.true_or, Bool.false_or, Bool.and_true, Bool.true_and, startE, eqV_int, eqV_str, op_add, op_sub, op_mul, op_fdiv, op_fdivN, op_mod, op_pow, op_addS, op_addL, de_non, de_bl, de_int, de_str, de_tup, de_lst, de_exc, de_scr, de_obj, cp_lt, cp_le, cp_gt, cp_ge, cp_eq, cp_ne, cp_isn, cp_isnt, cp_in, cp_nin, no_some, is_non, nb_non, nb_int, nb_bl, nb_tup, nb_lst, nb_str, eq_nn, eq_ni, eq_in, eq_bb, ix_lst, ix_tup, ix_scr, at_0, at_1, at_2, at_3, at_4, bi_lenL, bi_lenT, bi_lenC, bi_abs, bi_min2, bi_max2, bi_listL, bi_listT, ty_int, ty_bl, ty_non, ty_str, ty_lst, ty_tup, ty_exV, it_lst, it_tup, mu_app, mu_ext, mt_app, mt_ext, mt_clr, mt_rev, mt_set, mu_clr, mu_rev, List.map_cons, List.map_nil, List.length_cons, List.length_nil, List.cons_append, List.nil_append, List.replicate, Nat.reduceSub, Nat.reduceAdd, ↓reduceIte, if_true, if_false, Bool.false_eq_true, decide_eq_true_eq, decide_true, decide_false, Bool.not_true, Bool.not_false, reduceCtorEq, ite_true, ite_false, Int.reduceLT, Int.reduceLE, Int.reducePow, Int.reduceMul, Int.reduceAdd, Int.reduceSub, Int.reduceToNat, Nat.reduceLT, Nat.reducePow, and_self, and_true, true_and, Int.reduceNeg, Int.reduceEq, szb1, szb2, szb3, szb0, szb4, szb5, szb6, szb7, szb8, szb9, szb10, szb11, szb12, szb13, szb14, szb15, szb16, szb17, szb18, szb19, szb20, szb21, szb22, szb23, szb24, szb25, szb26, szb27, szb28, szb29, szb30, szb31, szb32, szb33, szb34, szb35, szb36, szb37, szb38, szb39, encO, oV_s, oV_n, holdsB]
  | some x =>
    by_cases h : k < x
    · cases c <;> simp (decide := true) only [F_l_within, ↓e_v0, ↓e_v1, ↓e_v2, ↓e_v3, ↓e_v4, ↓e_v5, ↓e_v6, ↓e_v7, ↓e_v8, ↓e_v9, ↓e_v10, ↓e_v11, ↓e_v12, ↓e_v13, ↓e_v14, ↓e_v15, ↓e_v16, ↓e_v17, ↓e_v18, ↓e_v19, ↓e_v20, ↓e_v21, ↓e_v22, ↓e_v23, ↓e_v24, ↓e_v25, ↓e_v26, ↓e_v27, ↓e_v28, ↓e_v29, ↓e_k, ↓e_gl, ↓e_op2, ↓e_rep, ↓e_neg, ↓e_cmp, ↓e_ch, ↓e_bop, ↓e_nt, ↓e_ife, ↓e_tup, ↓e_lst, ↓e_ix, ↓e_sl, ↓e_fld, ↓e_call, ↓e_mk, ↓e_mth, ↓e_bi, ↓e_bm, ↓e_sortk, ↓e_isi, ↓e_comp, ↓e_d0, ↓e_rng, ↓e_zip, ↓e_rev, ↓es_n, ↓es_c, ↓eO_n, ↓eO_s, ↓eB_1, ↓eB_c, ↓q_n, ↓q_1, ↓q_c, ↓z_set, ↓z_unp, ↓z_ex, ↓z_ret, ↓z_retN, ↓z_ife, ↓z_for, ↓z_whil, ↓z_brk, ↓z_cnt, ↓z_pas, ↓z_rais, ↓z_mvs, ↓z_tr, ↓h_n, ↓h_c, ↓k2_, ↓j_op2_, ↓j_rep_, ↓j_neg_, ↓j_cmp_, ↓j_ch2_, ↓j_ch3_, ↓j_nt_, ↓j_tup_, ↓j_lst_, ↓j_ix_, ↓j_sl_, ↓j_sl2_, ↓j_sl3_, ↓j_mth_, ↓j_mth2_, ↓j_bi_, ↓j_bm_, ↓j_bm2_, ↓j_isi_, ↓j_lok_, ↓j_comp_, ↓j_rng_, ↓j_zip_, ↓j_rev_, ↓j_cons_, ↓k_es_, ↓z_setK_, ↓z_unpK_, ↓z_exK_, ↓z_forK_, ↓k_mu_, ↓z_mu0, ↓z_mu1, ↓z_mu2, ↓z_mu3, ↓z_mu4, ↓z_mu5, ↓z_mu6, ↓z_mu7, ↓z_mu8, ↓z_mu9, ↓z_mu10, ↓z_mu11, ↓z_mu12, ↓z_mu13, ↓z_mu14, ↓z_mu15, ↓z_mu16, ↓z_mu17, ↓z_mu18, ↓z_mu19, ↓z_mu20, ↓z_mu21, ↓z_mu22, ↓z_mu23, ↓z_mu24, ↓z_mu25, ↓z_mu26, ↓z_mu27, ↓z_mu28, ↓z_mu29, ty_int_int, ty_int_bool, ty_int_str, ty_int_list, ty_int_tuple, ty_int_dict, ty_bool_int, ty_bool_bool, ty_bool_str, ty_bool_list, ty_bool_tuple, ty_bool_dict, ty_str_int, ty_str_bool, ty_str_str, ty_str_list, ty_str_tuple, ty_str_dict, ty_list_int, ty_list_bool, ty_list_str, ty_list_list, ty_list_tuple, ty_list_dict, ty_tuple_int, ty_tuple_bool, ty_tuple_str, ty_tuple_list, ty_tuple_tuple, ty_tuple_dict, ty_dict_int, ty_dict_bool, ty_dict_str, ty_dict_list, ty_dict_tuple, ty_dict_dict, st_0, st_1, st_2, st_3, st_4, st_5, st_6, st_7, st_8, st_9, st_10, st_11, st_12, st_13, st_14, st_15, st_16, st_17, st_18, st_19, st_20, st_21, st_22, st_23, st_24, st_25, st_26, st_27, st_28, st_29, b_ok, b_exn, t_ok, t_exn, of_some, sq_nx, sq_ret, sq_exn, sq_brk, sq_cnt, obl_some, ob_ret, ob_nx, ob_exn, j_rep2_, j_ife_, z_ifeK_, chV_b, szt_t, compV_some, cpR_ok, cB_one, cB_many, cB_cd1, cdX_ok, lstO_some, zipV_l, revV_l, intO_i, bB_tt, bB_tf, bB_ft, bB_ff, bB_t, bB_f, unpV_t, nxO_s, forV_s, fB_one, fB_many, bm_n, bm_c, mvR_nx, mvR_ret, mvR_exn, dE_n, dE_c, trR_nx, trR_ret, trR_exn, caR_t, caR_f, unAs_nx, unAs_ret, aS_s, aS_n, muO_s, muK_t, ma_app, ma_ext, ma_clr, ma_rev, ma_set, md_app, md_ext, md_clr, md_rev, md_set, cn_i, cn_b, cn_n, cn_s, forL_n, compL_n, j_fld_, at_5, at_6, at_7, at_8, at_9, at_10, at_11, is_bb, bbtt, bbtf, bbft, bbff, beq_self_eq_true, mulOk_small, mulOk_small2, Bool.or_true, Bool.or_false, Bool.true_or, Bool.false_or, Bool.and_true, Bool.true_and, startE, eqV_int, eqV_str, op_add, op_sub, op_mul, op_fdiv, op_fdivN, op_mod, op_pow, op_addS, op_addL, de_non, de_bl, de_int, de_str, de_tup, de_lst, de_exc, de_scr, de_obj, cp_lt, cp_le, cp_gt, cp_ge, cp_eq, cp_ne, cp_isn, cp_isnt, cp_in, cp_nin, no_some, is_non, nb_non, nb_int, nb_bl, nb_tup, nb_lst, nb_str, eq_nn, eq_ni, eq_in, eq_bb, ix_lst, ix_tup, ix_scr, at_0, at_1, at_2, at_3, at_4, bi_lenL, bi_lenT, bi_lenC, bi_abs, bi_min2, bi_max2, bi_listL, bi_listT, ty_int, ty_bl, ty_non, ty_str, ty_lst, ty_tup, ty_exV, it_lst, it_tup, mu_app, mu_ext, mt_app, mt_ext, mt_clr, mt_rev, mt_set, mu_clr, mu_rev, List.map_cons, List.map_nil, List.length_cons, List.length_nil, List.cons_append, List.nil_append, List.replicate, Nat.reduceSub, Nat.reduceAdd, ↓reduceIte, if_true, if_false, Bool.false_eq_true, decide_eq_true_eq, decide_true, decide_false, Bool.not_true, Bool.not_false, reduceCtorEq, ite_true, ite_false, Int.reduceLT, Int.reduceLE, Int.reducePow, Int.reduceMul, Int.reduceAdd, Int.reduceSub, Int.reduceToNat, Nat.reduceLT, Nat.reducePow, and_self, and_true, true_and, Int.reduceNeg, Int.reduceEq, szb1, szb2, szb3, szb0, szb4, szb5, szb6, szb7, szb8, szb9, szb10, szb11, szb12, szb13, szb14, szb15, szb16, szb17, szb18, szb19, szb20, szb21, szb22, szb23, szb24, szb25, szb26, szb27, szb28, szb29, szb30, szb31, szb32, szb33, szb34, szb35, szb36, szb37, szb38, szb39, encO, oV_s, oV_n, holdsB, h, Bool.false_and]
    · cases c <;> simp (decide := true) only [F_l_within, ↓e_v0, ↓e_v1, ↓e_v2, ↓e_v3, ↓e_v4, ↓e_v5, ↓e_v6, ↓e_v7, ↓e_v8, ↓e_v9, ↓e_v10, ↓e_v11, ↓e_v12, ↓e_v13, ↓e_v14, ↓e_v15, ↓e_v16, ↓e_v17, ↓e_v18, ↓e_v19, ↓e_v20, ↓e_v21, ↓e_v22, ↓e_v23, ↓e_v24, ↓e_v25, ↓e_v26, ↓e_v27, ↓e_v28, ↓e_v29, ↓e_k, ↓e_gl, ↓e_op2, ↓e_rep, ↓e_neg, ↓e_cmp, ↓e_ch, ↓e_bop, ↓e_nt, ↓e_ife, ↓e_tup, ↓e_lst, ↓e_ix, ↓e_sl, ↓e_fld, ↓e_call, ↓e_mk, ↓e_mth, ↓e_bi, ↓e_bm, ↓e_sortk, ↓e_isi, ↓e_comp, ↓e_d0, ↓e_rng, ↓e_zip, ↓e_rev, ↓es_n, ↓es_c, ↓eO_n, ↓eO_s, ↓eB_1, ↓eB_c, ↓q_n, ↓q_1, ↓q_c, ↓z_set, ↓z_unp, ↓z_ex, ↓z_ret, ↓z_retN, ↓z_ife, ↓z_for, ↓z_whil, ↓z_brk, ↓z_cnt, ↓z_pas, ↓z_rais, ↓z_mvs, ↓z_tr, ↓h_n, ↓h_c, ↓k2_, ↓j_op2_, ↓j_rep_, ↓j_neg_, ↓j_cmp_, ↓j_ch2_, ↓j_ch3_, ↓j_nt_, ↓j_tup_, ↓j_lst_, ↓j_ix_, ↓j_sl_, ↓j_sl2_, ↓j_sl3_, ↓j_mth_, ↓j_mth2_, ↓j_bi_, ↓j_bm_, ↓j_bm2_, ↓j_isi_, ↓j_lok_, ↓j_comp_, ↓j_rng_, ↓j_zip_, ↓j_rev_, ↓j_cons_, ↓k_es_, ↓z_setK_, ↓z_unpK_, ↓z_exK_, ↓z_forK_, ↓k_mu_, ↓z_mu0, ↓z_mu1, ↓z_mu2, ↓z_mu3, ↓z_mu4, ↓z_mu5, ↓z_mu6, ↓z_mu7, ↓z_mu8, ↓z_mu9, ↓z_mu10, ↓z_mu11, ↓z_mu12, ↓z_mu13, ↓z_mu14, ↓z_mu15, ↓z_mu16, ↓z_mu17, ↓z_mu18, ↓z_mu19, ↓z_mu20, ↓z_mu21, ↓z_mu22, ↓z_mu23, ↓z_mu24, ↓z_mu25, ↓z_mu26, ↓z_mu27, ↓z_mu28, ↓z_mu29, ty_int_int, ty_int_bool, ty_int_str, ty_int_list, ty_int_tuple, ty_int_dict, ty_bool_int, ty_bool_bool, ty_bool_str, ty_bool_list, ty_bool_tuple, ty_bool_dict, ty_str_int, ty_str_bool, ty_str_str, ty_str_list, ty_str_tuple, ty_str_dict, ty_list_int, ty_list_bool, ty_list_str, ty_list_list, ty_list_tuple, ty_list_dict, ty_tuple_int, ty_tuple_bool, ty_tuple_str, ty_tuple_list, ty_tuple_tuple, ty_tuple_dict, ty_dict_int, ty_dict_bool, ty_dict_str, ty_dict_list, ty_dict_tuple, ty_dict_dict, st_0, st_1, st_2, st_3, st_4, st_5, st_6, st_7, st_8, st_9, st_10, st_11, st_12, st_13, st_14, st_15, st_16, st_17, st_18, st_19, st_20, st_21, st_22, st_23, st_24, st_25, st_26, st_27, st_28, st_29, b_ok, b_exn, t_ok, t_exn, of_some, sq_nx, sq_ret, sq_exn, sq_brk, sq_cnt, obl_some, ob_ret, ob_nx, ob_exn, j_rep2_, j_ife_, z_ifeK_, chV_b, szt_t, compV_some, cpR_ok, cB_one, cB_many, cB_cd1, cdX_ok, lstO_some, zipV_l, revV_l, intO_i, bB_tt, bB_tf, bB_ft, bB_ff, bB_t, bB_f, unpV_t, nxO_s, forV_s, fB_one, fB_many, bm_n, bm_c, mvR_nx, mvR_ret, mvR_exn, dE_n, dE_c, trR_nx, trR_ret, trR_exn, caR_t, caR_f, unAs_nx, unAs_ret, aS_s, aS_n, muO_s, muK_t, ma_app, ma_ext, ma_clr, ma_rev, ma_set, md_app, md_ext, md_clr, md_rev, md_set, cn_i, cn_b, cn_n, cn_s, forL_n, compL_n, j_fld_, at_5, at_6, at_7, at_8, at_9, at_10, at_11, is_bb, bbtt, bbtf, bbft, bbff, beq_self_eq_true, mulOk_small, mulOk_small2, Bool.or_true, Bool.or_false, Bool.true_or, Bool.false_or, Bool.and_true, Bool.true_and, startE, eqV_int, eqV_str, op_add, op_sub, op_mul, op_fdiv, op_fdivN, op_mod, op_pow, op_addS, op_addL, de_non, de_bl, de_int, de_str, de_tup, de_lst, de_exc, de_scr, de_obj, cp_lt, cp_le, cp_gt, cp_ge, cp_eq, cp_ne, cp_isn, cp_isnt, cp_in, cp_nin, no_some, is_non, nb_non, nb_int, nb_bl, nb_tup, nb_lst, nb_str, eq_nn, eq_ni, eq_in, eq_bb, ix_lst, ix_tup, ix_scr, at_0, at_1, at_2, at_3, at_4, bi_lenL, bi_lenT, bi_lenC, bi_abs, bi_min2, bi_max2, bi_listL, bi_listT, ty_int, ty_bl, ty_non, ty_str, ty_lst, ty_tup, ty_exV, it_lst, it_tup, mu_app, mu_ext, mt_app, mt_ext, mt_clr, mt_rev, mt_set, mu_clr, mu_rev, List.map_cons, List.map_nil, List.length_cons, List.length_nil, List.cons_append, List.nil_append, List.replicate, Nat.reduceSub, Nat.reduceAdd, ↓reduceIte, if_true, if_false, Bool.false_eq_true, decide_eq_true_eq, decide_true, decide_false, Bool.not_true, Bool.not_false, reduceCtorEq, ite_true, ite_false, Int.reduceLT, Int.reduceLE, Int.reducePow, Int.reduceMul, Int.reduceAdd, Int.reduceSub, Int.reduceToNat, Nat.reduceLT, Nat.reducePow, and_self, and_true, true_and, Int.reduceNeg, Int.reduceEq, szb1, szb2, szb3, szb0, szb4, szb5, szb6, szb7, szb8, szb9, szb10, szb11, szb12, szb13, szb14, szb15, szb16, szb17, szb18, szb19, szb20, szb21, szb22, szb23, szb24, szb25, szb26, szb27, szb28, szb29, szb30, szb31, szb32, szb33, szb34, szb35, szb36, szb37, szb38, szb39, encO, oV_s, oV_n, holdsB, h, Bool.true_and]
theorem r_widened : run G wfN (n + 1) 23 [encO p, .int b] S = .ok (encO (widO p b)) S := by
  rw [run_unf (F := F_widened) rfl rfl rfl]
  obtain ⟨a, c⟩ := p
  cases a <;> cases c <;> simp (decide := true) only [F_widened, ↓e_v0, ↓e_v1, ↓e_v2, ↓e_v3, ↓e_v4, ↓e_v5, ↓e_v6, ↓e_v7, ↓e_v8, ↓e_v9, ↓e_v10, ↓e_v11, ↓e_v12, ↓e_v13, ↓e_v14, ↓e_v15, ↓e_v16, ↓e_v17, ↓e_v18, ↓e_v19, ↓e_v20, ↓e_v21, ↓e_v22, ↓e_v23, ↓e_v24, ↓e_v25, ↓e_v26, ↓e_v27, ↓e_v28, ↓e_v29, ↓e_k, ↓e_gl, ↓e_op2, ↓e_rep, ↓e_neg, ↓e_cmp, ↓e_ch, ↓e_bop, ↓e_nt, ↓e_ife, ↓e_tup, ↓e_lst, ↓e_ix, ↓e_sl, ↓e_fld, ↓e_call, ↓e_mk, ↓e_mth, ↓e_bi, ↓e_bm, ↓e_sortk, ↓e_isi, ↓e_comp, ↓e_d0, ↓e_rng, ↓e_zip, ↓e_rev, ↓es_n, ↓es_c, ↓eO_n, ↓eO_s, ↓eB_1, ↓eB_c, ↓q_n, ↓q_1, ↓q_c, ↓z_set, ↓z_unp, ↓z_ex, ↓z_ret, ↓z_retN, ↓z_ife, ↓z_for, ↓z_whil, ↓z_brk, ↓z_cnt, ↓z_pas, ↓z_rais, ↓z_mvs, ↓z_tr, ↓h_n, ↓h_c, ↓k2_, ↓j_op2_, ↓j_rep_, ↓j_neg_, ↓j_cmp_, ↓j_ch2_, ↓j_ch3_, ↓j_nt_, ↓j_tup_, ↓j_lst_, ↓j_ix_, ↓j_sl_, ↓j_sl2_, ↓j_sl3_, ↓j_mth_, ↓j_mth2_, ↓j_bi_, ↓j_bm_, ↓j_bm2_, ↓j_isi_, ↓j_lok_, ↓j_comp_, ↓j_rng_, ↓j_zip_, ↓j_rev_, ↓j_cons_, ↓k_es_, ↓z_setK_, ↓z_unpK_, ↓z_exK_, ↓z_forK_, ↓k_mu_, ↓z_mu0, ↓z_mu1, ↓z_mu2, ↓z_mu3, ↓z_mu4, ↓z_mu5, ↓z_mu6, ↓z_mu7, ↓z_mu8, ↓z_mu9, ↓z_mu10, ↓z_mu11, ↓z_mu12, ↓z_mu13, ↓z_mu14, ↓z_mu15, ↓z_mu16, ↓z_mu17, ↓z_mu18, ↓z_mu19, ↓z_mu20, ↓z_mu21, ↓z_mu22, ↓z_mu23, ↓z_mu24, ↓z_mu25, ↓z_mu26, ↓z_mu27, ↓z_mu28, ↓z_mu29, ty_int_int, ty_int_bool, ty_int_str, ty_int_list, ty_int_tuple, ty_int_dict, ty_bool_int, ty_bool_bool, ty_bool_str, ty_bool_list, ty_bool_tuple, ty_bool_dict, ty_str_int, ty_str_bool, ty_str_str, ty_str_list, ty_str_tuple, ty_str_dict, ty_list_int, ty_list_bool, ty_list_str, ty_list_list, ty_list_tuple, ty_list_dict, ty_tuple_int, ty_tuple_bool, ty_tuple_str, ty_tuple_list, ty_tuple_tuple, ty_tuple_dict, ty_dict_int, ty_dict_bool, ty_dict_str, ty_dict_list, ty_dict_tuple, ty_dict_dict, st_0, st_1, st_2, st_3, st_4, st_5, st_6, st_7, st_8, st_9, st_10, st_11, st_12, st_13, st_14, st_15, st_16, st_17, st_18, st_19, st_20, st_21, st_22, st_23, st_24, st_25, st_26, st_27, st_28, st_29, b_ok, b_exn, t_ok, t_exn, of_some, sq_nx, sq_ret, sq_exn, sq_brk, sq_cnt, obl_some, ob_ret, ob_nx, ob_exn, j_rep2_, j_ife_, z_ifeK_, chV_b, szt_t, compV_some, cpR_ok, cB_one, cB_many, cB_cd1, cdX_ok, lstO_some, zipV_l, revV_l, intO_i, bB_tt, bB_tf, bB_ft, bB_ff, bB_t, bB_f, unpV_t, nxO_s, forV_s, fB_one, fB_many, bm_n, bm_c, mvR_nx, mvR_ret, mvR_exn, dE_n, dE_c, trR_nx, trR_ret, trR_exn, caR_t, caR_f, unAs_nx, unAs_ret, aS_s, aS_n, muO_s, muK_t, ma_app, ma_ext, ma_clr, ma_rev, ma_set, md_app, md_ext, md_clr, md_rev, md_set, cn_i, cn_b, cn_n, cn_s, forL_n, compL_n, j_fld_, at_5, at_6, at_7, at_8, at_9, at_10, at_11, is_bb, bbtt, bbtf, bbft, bbff, beq_self_eq_true, mulOk_small, mulOk_small2, Bool.or_true, Bool.or_false, Bool.true_or, Bool.false_or, Bool.and_true, Bool.true_and, startE, eqV_int, eqV_str, op_add, op_sub, op_mul, op_fdiv, op_fdivN, op_mod, op_pow, op_addS, op_addL, de_non, de_bl, de_int, de_str, de_tup, de_lst, de_exc, de_scr, de_obj, cp_lt, cp_le, cp_gt, cp_ge, cp_eq, cp_ne, cp_isn, cp_isnt, cp_in, cp_nin, no_some, is_non, nb_non, nb_int, nb_bl, nb_tup, nb_lst, nb_str, eq_nn, eq_ni, eq_in, eq_bb, ix_lst, ix_tup, ix_scr, at_0, at_1, at_2, at_3, at_4, bi_lenL, bi_lenT, bi_lenC, bi_abs, bi_min2, bi_max2, bi_listL, bi_listT, ty_int, ty_bl, ty_non, ty_str, ty_lst, ty_tup, ty_exV, it_lst, it_tup, mu_app, mu_ext, mt_app, mt_ext, mt_clr, mt_rev, mt_set, mu_clr, mu_rev, List.map_cons, List.map_nil, List.length_cons, List.length_nil, List.cons_append, List.nil_append, List.replicate, Nat.reduceSub, Nat.reduceAdd, ↓reduceIte, if_true, if_false, Bool.false_eq_true, decide_eq_true_eq, decide_true, decide_false, Bool.not_true, Bool.not_false, reduceCtorEq, ite_true, ite_false, Int.reduceLT, Int.reduceLE, Int.reducePow, Int.reduceMul, Int.reduceAdd, Int.reduceSub, Int.reduceToNat, Nat.reduceLT, Nat.reducePow, and_self, and_true, true_and, Int.reduceNeg, Int.reduceEq, szb1, szb2, szb3, szb0, szb4, szb5, szb6, szb7, szb8, szb9, szb10, szb11, szb12, szb13, szb14, szb15, szb16, szb17, szb18, szb19, szb20, szb21, szb22, szb23, szb24, szb25, szb26, szb27, szb28, szb29, szb30, szb31, szb32, szb33, szb34, szb35, szb36, szb37, szb38, szb39, encO, oV_s, oV_n, widO, Option.map]
theorem r_putout : run G wfN (n + 1) 30 [encO p, .int b] S = .ok (encO (widO p b)) S := by
  rw [run_unf (F := F_l_put_out) rfl rfl rfl]
  obtain ⟨a, c⟩ := p
  cases a <;> cases c <;> simp (decide := true) only [F_l_put_out, ↓e_v0, ↓e_v1, ↓e_v2, ↓e_v3, ↓e_v4, ↓e_v5, ↓e_v6, ↓e_v7, ↓e_v8, ↓e_v9, ↓e_v10, ↓e_v11, ↓e_v12, ↓e_v13, ↓e_v14, ↓e_v15, ↓e_v16, ↓e_v17, ↓e_v18, ↓e_v19, ↓e_v20, ↓e_v21, ↓e_v22, ↓e_v23, ↓e_v24, ↓e_v25, ↓e_v26, ↓e_v27, ↓e_v28, ↓e_v29, ↓e_k, ↓e_gl, ↓e_op2, ↓e_rep, ↓e_neg, ↓e_cmp, ↓e_ch, ↓e_bop, ↓e_nt, ↓e_ife, ↓e_tup, ↓e_lst, ↓e_ix, ↓e_sl, ↓e_fld, ↓e_call, ↓e_mk, ↓e_mth, ↓e_bi, ↓e_bm, ↓e_sortk, ↓e_isi, ↓e_comp, ↓e_d0, ↓e_rng, ↓e_zip, ↓e_rev, ↓es_n, ↓es_c, ↓eO_n, ↓eO_s, ↓eB_1, ↓eB_c, ↓q_n, ↓q_1, ↓q_c, ↓z_set, ↓z_unp, ↓z_ex, ↓z_ret, ↓z_retN, ↓z_ife, ↓z_for, ↓z_whil, ↓z_brk, ↓z_cnt, ↓z_pas, ↓z_rais, ↓z_mvs, ↓z_tr, ↓h_n, ↓h_c, ↓k2_, ↓j_op2_, ↓j_rep_, ↓j_neg_, ↓j_cmp_, ↓j_ch2_, ↓j_ch3_, ↓j_nt_, ↓j_tup_, ↓j_lst_, ↓j_ix_, ↓j_sl_, ↓j_sl2_, ↓j_sl3_, ↓j_mth_, ↓j_mth2_, ↓j_bi_, ↓j_bm_, ↓j_bm2_, ↓j_isi_, ↓j_lok_, ↓j_comp_, ↓j_rng_, ↓j_zip_, ↓j_rev_, ↓j_cons_, ↓k_es_, ↓z_setK_, ↓z_unpK_, ↓z_exK_, ↓z_forK_, ↓k_mu_, ↓z_mu0, ↓z_mu1, ↓z_mu2, ↓z_mu3, ↓z_mu4, ↓z_mu5, ↓z_mu6, ↓z_mu7, ↓z_mu8, ↓z_mu9, ↓z_mu10, ↓z_mu11, ↓z_mu12, ↓z_mu13, ↓z_mu14, ↓z_mu15, ↓z_mu16, ↓z_mu17, ↓z_mu18, ↓z_mu19, ↓z_mu20, ↓z_mu21, ↓z_mu22, ↓z_mu23, ↓z_mu24, ↓z_mu25, ↓z_mu26, ↓z_mu27, ↓z_mu28, ↓z_mu29, ty_int_int, ty_int_bool, ty_int_str, ty_int_list, ty_int_tuple, ty_int_dict, ty_bool_int, ty_bool_bool, ty_bool_str, ty_bool_list, ty_bool_tuple, ty_bool_dict, ty_str_int, ty_str_bool, ty_str_str, ty_str_list, ty_str_tuple, ty_str_dict, ty_list_int, ty_list_bool, ty_list_str, ty_list_list, ty_list_tuple, ty_list_dict, ty_tuple_int, ty_tuple_bool, ty_tuple_str, ty_tuple_list, ty_tuple_tuple, ty_tuple_dict, ty_dict_int, ty_dict_bool, ty_dict_str, ty_dict_list, ty_dict_tuple, ty_dict_dict, st_0, st_1, st_2, st_3, st_4, st_5, st_6, st_7, st_8, st_9, st_10, st_11, st_12, st_13, st_14, st_15, st_16, st_17, st_18, st_19, st_20, st_21, st_22, st_23, st_24, st_25, st_26, st_27, st_28, st_29, b_ok, b_exn, t_ok, t_exn, of_some, sq_nx, sq_ret, sq_exn, sq_brk, sq_cnt, obl_some, ob_ret, ob_nx, ob_exn, j_rep2_, j_ife_, z_ifeK_, chV_b, szt_t, compV_some, cpR_ok, cB_one, cB_many, cB_cd1, cdX_ok, lstO_some, zipV_l, revV_l, intO_i, bB_tt, bB_tf, bB_ft, bB_ff, bB_t, bB_f, unpV_t, nxO_s, forV_s, fB_one, fB_many, bm_n, bm_c, mvR_nx, mvR_ret, mvR_exn, dE_n, dE_c, trR_nx, trR_ret, trR_exn, caR_t, caR_f, unAs_nx, unAs_ret, aS_s, aS_n, muO_s, muK_t, ma_app, ma_ext, ma_clr, ma_rev, ma_set, md_app, md_ext, md_clr, md_rev, md_set, cn_i, cn_b, cn_n, cn_s, forL_n, compL_n, j_fld_, at_5, at_6, at_7, at_8, at_9, at_10, at_11, is_bb, bbtt, bbtf, bbft, bbff, beq_self_eq_true, mulOk_small, mulOk_small2, Bool.or_true, Bool.or_false, Bool.true_or, Bool.false_or, Bool.and_true, Bool.true_and, startE, eqV_int, eqV_str, op_add, op_sub, op_mul, op_fdiv, op_fdivN, op_mod, op_pow, op_addS, op_addL, de_non, de_bl, de_int, de_str, de_tup, de_lst, de_exc, de_scr, de_obj, cp_lt, cp_le, cp_gt, cp_ge, cp_eq, cp_ne, cp_isn, cp_isnt, cp_in, cp_nin, no_some, is_non, nb_non, nb_int, nb_bl, nb_tup, nb_lst, nb_str, eq_nn, eq_ni, eq_in, eq_bb, ix_lst, ix_tup, ix_scr, at_0, at_1, at_2, at_3, at_4, bi_lenL, bi_lenT, bi_lenC, bi_abs, bi_min2, bi_max2, bi_listL, bi_listT, ty_int, ty_bl, ty_non, ty_str, ty_lst, ty_tup, ty_exV, it_lst, it_tup, mu_app, mu_ext, mt_app, mt_ext, mt_clr, mt_rev, mt_set, mu_clr, mu_rev, List.map_cons, List.map_nil, List.length_cons, List.length_nil, List.cons_append, List.nil_append, List.replicate, Nat.reduceSub, Nat.reduceAdd, ↓reduceIte, if_true, if_false, Bool.false_eq_true, decide_eq_true_eq, decide_true, decide_false, Bool.not_true, Bool.not_false, reduceCtorEq, ite_true, ite_false, Int.reduceLT, Int.reduceLE, Int.reducePow, Int.reduceMul, Int.reduceAdd, Int.reduceSub, Int.reduceToNat, Nat.reduceLT, Nat.reducePow, and_self, and_true, true_and, Int.reduceNeg, Int.reduceEq, szb1, szb2, szb3, szb0, szb4, szb5, szb6, szb7, szb8, szb9, szb10, szb11, szb12, szb13, szb14, szb15, szb16, szb17, szb18, szb19, szb20, szb21, szb22, szb23, szb24, szb25, szb26, szb27, szb28, szb29, szb30, szb31, szb32, szb33, szb34, szb35, szb36, szb37, szb38, szb39, encO, oV_s, oV_n, widO, Option.map]
theorem r_alikeN : run G wfN (n + 1) 27 [.non, .non] S = .ok (.bl true) S := by
  rw [run_unf (F := F_l_alike) rfl rfl rfl]
  simp (decide := true) only [F_l_alike, ↓e_v0, ↓e_v1, ↓e_v2, ↓e_v3, ↓e_v4, ↓e_v5, ↓e_v6, ↓e_v7, ↓e_v8, ↓e_v9, ↓e_v10, ↓e_v11, ↓e_v12, ↓e_v13, ↓e_v14, ↓e_v15, ↓e_v16, ↓e_v17, ↓e_v18, ↓e_v19, ↓e_v20, ↓e_v21, ↓e_v22, ↓e_v23, ↓e_v24, ↓e_v25, ↓e_v26, ↓e_v27, ↓e_v28, ↓e_v29, ↓e_k, ↓e_gl, ↓e_op2, ↓e_rep, ↓e_neg, ↓e_cmp, ↓e_ch, ↓e_bop, ↓e_nt, ↓e_ife, ↓e_tup, ↓e_lst, ↓e_ix, ↓e_sl, ↓e_fld, ↓e_call, ↓e_mk, ↓e_mth, ↓e_bi, ↓e_bm, ↓e_sortk, ↓e_isi, ↓e_comp, ↓e_d0, ↓e_rng, ↓e_zip, ↓e_rev, ↓es_n, ↓es_c, ↓eO_n, ↓eO_s, ↓eB_1, ↓eB_c, ↓q_n, ↓q_1, ↓q_c, ↓z_set, ↓z_unp, ↓z_ex, ↓z_ret, ↓z_retN, ↓z_ife, ↓z_for, ↓z_whil, ↓z_brk, ↓z_cnt, ↓z_pas, ↓z_rais, ↓z_mvs, ↓z_tr, ↓h_n, ↓h_c, ↓k2_, ↓j_op2_, ↓j_rep_, ↓j_neg_, ↓j_cmp_, ↓j_ch2_, ↓j_ch3_, ↓j_nt_, ↓j_tup_, ↓j_lst_, ↓j_ix_, ↓j_sl_, ↓j_sl2_, ↓j_sl3_, ↓j_mth_, ↓j_mth2_, ↓j_bi_, ↓j_bm_, ↓j_bm2_, ↓j_isi_, ↓j_lok_, ↓j_comp_, ↓j_rng_, ↓j_zip_, ↓j_rev_, ↓j_cons_, ↓k_es_, ↓z_setK_, ↓z_unpK_, ↓z_exK_, ↓z_forK_, ↓k_mu_, ↓z_mu0, ↓z_mu1, ↓z_mu2, ↓z_mu3, ↓z_mu4, ↓z_mu5, ↓z_mu6, ↓z_mu7, ↓z_mu8, ↓z_mu9, ↓z_mu10, ↓z_mu11, ↓z_mu12, ↓z_mu13, ↓z_mu14, ↓z_mu15, ↓z_mu16, ↓z_mu17, ↓z_mu18, ↓z_mu19, ↓z_mu20, ↓z_mu21, ↓z_mu22, ↓z_mu23, ↓z_mu24, ↓z_mu25, ↓z_mu26, ↓z_mu27, ↓z_mu28, ↓z_mu29, ty_int_int, ty_int_bool, ty_int_str, ty_int_list, ty_int_tuple, ty_int_dict, ty_bool_int, ty_bool_bool, ty_bool_str, ty_bool_list, ty_bool_tuple, ty_bool_dict, ty_str_int, ty_str_bool, ty_str_str, ty_str_list, ty_str_tuple, ty_str_dict, ty_list_int, ty_list_bool, ty_list_str, ty_list_list, ty_list_tuple, ty_list_dict, ty_tuple_int, ty_tuple_bool, ty_tuple_str, ty_tuple_list, ty_tuple_tuple, ty_tuple_dict, ty_dict_int, ty_dict_bool, ty_dict_str, ty_dict_list, ty_dict_tuple, ty_dict_dict, st_0, st_1, st_2, st_3, st_4, st_5, st_6, st_7, st_8, st_9, st_10, st_11, st_12, st_13, st_14, st_15, st_16, st_17, st_18, st_19, st_20, st_21, st_22, st_23, st_24, st_25, st_26, st_27, st_28, st_29, b_ok, b_exn, t_ok, t_exn, of_some, sq_nx, sq_ret, sq_exn, sq_brk, sq_cnt, obl_some, ob_ret, ob_nx, ob_exn, j_rep2_, j_ife_, z_ifeK_, chV_b, szt_t, compV_some, cpR_ok, cB_one, cB_many, cB_cd1, cdX_ok, lstO_some, zipV_l, revV_l, intO_i, bB_tt, bB_tf, bB_ft, bB_ff, bB_t, bB_f, unpV_t, nxO_s, forV_s, fB_one, fB_many, bm_n, bm_c, mvR_nx, mvR_ret, mvR_exn, dE_n, dE_c, trR_nx, trR_ret, trR_exn, caR_t, caR_f, unAs_nx, unAs_ret, aS_s, aS_n, muO_s, muK_t, ma_app, ma_ext, ma_clr, ma_rev, ma_set, md_app, md_ext, md_clr, md_rev, md_set, cn_i, cn_b, cn_n, cn_s, forL_n, compL_n, j_fld_, at_5, at_6, at_7, at_8, at_9, at_10, at_11, is_bb, bbtt, bbtf, bbft, bbff, beq_self_eq_true, mulOk_small, mulOk_small2, Bool.or_true, Bool.or_false, Bool.true_or, Bool.false_or, Bool.and_true, Bool.true_and, startE, eqV_int, eqV_str, op_add, op_sub, op_mul, op_fdiv, op_fdivN, op_mod, op_pow, op_addS, op_addL, de_non, de_bl, de_int, de_str, de_tup, de_lst, de_exc, de_scr, de_obj, cp_lt, cp_le, cp_gt, cp_ge, cp_eq, cp_ne, cp_isn, cp_isnt, cp_in, cp_nin, no_some, is_non, nb_non, nb_int, nb_bl, nb_tup, nb_lst, nb_str, eq_nn, eq_ni, eq_in, eq_bb, ix_lst, ix_tup, ix_scr, at_0, at_1, at_2, at_3, at_4, bi_lenL, bi_lenT, bi_lenC, bi_abs, bi_min2, bi_max2, bi_listL, bi_listT, ty_int, ty_bl, ty_non, ty_str, ty_lst, ty_tup, ty_exV, it_lst, it_tup, mu_app, mu_ext, mt_app, mt_ext, mt_clr, mt_rev, mt_set, mu_clr, mu_rev, List.map_cons, List.map_nil, List.length_cons, List.length_nil, List.cons_append, List.nil_append, List.replicate, Nat.reduceSub, Nat.reduceAdd, ↓reduceIte, if_true, if_false, Bool.false_eq_true, decide_eq_true_eq, decide_true, decide_false, Bool.not_true, Bool.not_false, reduceCtorEq, ite_true, ite_false, Int.reduceLT, Int.reduceLE, Int.reducePow, Int.reduceMul, Int.reduceAdd, Int.reduceSub, Int.reduceToNat, Nat.reduceLT, Nat.reducePow, and_self, and_true, true_and, Int.reduceNeg, Int.reduceEq, szb1, szb2, szb3, szb0, szb4, szb5, szb6, szb7, szb8, szb9, szb10, szb11, szb12, szb13, szb14, szb15, szb16, szb17, szb18, szb19, szb20, szb21, szb22, szb23, szb24, szb25, szb26, szb27, szb28, szb29, szb30, szb31, szb32, szb33, szb34, szb35, szb36, szb37, szb38, szb39]
theorem r_alikeO : run G wfN (n + 2) 27 [encO p, encO p] S = .ok (.bl true) S := by
  rw [run_unf (F := F_l_alike) rfl rfl rfl]
  have h2 : rngV [.int 2] = some (upto 0 2) := rng_1 (by omega)
  have hu : upto 0 2 = [.int 0, .int 1] := rfl
  obtain ⟨a, c⟩ := p
  cases a <;> cases c <;> simp (decide := true) only [F_l_alike, ↓e_v0, ↓e_v1, ↓e_v2, ↓e_v3, ↓e_v4, ↓e_v5, ↓e_v6, ↓e_v7, ↓e_v8, ↓e_v9, ↓e_v10, ↓e_v11, ↓e_v12, ↓e_v13, ↓e_v14, ↓e_v15, ↓e_v16, ↓e_v17, ↓e_v18, ↓e_v19, ↓e_v20, ↓e_v21, ↓e_v22, ↓e_v23, ↓e_v24, ↓e_v25, ↓e_v26, ↓e_v27, ↓e_v28, ↓e_v29, ↓e_k, ↓e_gl, ↓e_op2, ↓e_rep, ↓e_neg, ↓e_cmp, ↓e_ch, ↓e_bop, ↓e_nt, ↓e_ife, ↓e_tup, ↓e_lst, ↓e_ix, ↓e_sl, ↓e_fld, ↓e_call, ↓e_mk, ↓e_mth, ↓e_bi, ↓e_bm, ↓e_sortk, ↓e_isi, ↓e_comp, ↓e_d0, ↓e_rng, ↓e_zip, ↓e_rev, ↓es_n, ↓es_c, ↓eO_n, ↓eO_s, ↓eB_1, ↓eB_c, ↓q_n, ↓q_1, ↓q_c, ↓z_set, ↓z_unp, ↓z_ex, ↓z_ret, ↓z_retN, ↓z_ife, ↓z_for, ↓z_whil, ↓z_brk, ↓z_cnt, ↓z_pas, ↓z_rais, ↓z_mvs, ↓z_tr, ↓h_n, ↓h_c, ↓k2_, ↓j_op2_, ↓j_rep_, ↓j_neg_, ↓j_cmp_, ↓j_ch2_, ↓j_ch3_, ↓j_nt_, ↓j_tup_, ↓j_lst_, ↓j_ix_, ↓j_sl_, ↓j_sl2_, ↓j_sl3_, ↓j_mth_, ↓j_mth2_, ↓j_bi_, ↓j_bm_, ↓j_bm2_, ↓j_isi_, ↓j_lok_, ↓j_comp_, ↓j_rng_, ↓j_zip_, ↓j_rev_, ↓j_cons_, ↓k_es_, ↓z_setK_, ↓z_unpK_, ↓z_exK_, ↓z_forK_, ↓k_mu_, ↓z_mu0, ↓z_mu1, ↓z_mu2, ↓z_mu3, ↓z_mu4, ↓z_mu5, ↓z_mu6, ↓z_mu7, ↓z_mu8, ↓z_mu9, ↓z_mu10, ↓z_mu11, ↓z_mu12, ↓z_mu13, ↓z_mu14, ↓z_mu15, ↓z_mu16, ↓z_mu17, ↓z_mu18, ↓z_mu19, ↓z_mu20, ↓z_mu21, ↓z_mu22, ↓z_mu23, ↓z_mu24, ↓z_mu25, ↓z_mu26, ↓z_mu27, ↓z_mu28, ↓z_mu29, ty_int_int, ty_int_bool, ty_int_str, ty_int_list, ty_int_tuple, ty_int_dict, ty_bool_int, ty_bool_bool, ty_bool_str, ty_bool_list, ty_bool_tuple, ty_bool_dict, ty_str_int, ty_str_bool, ty_str_str, ty_str_list, ty_str_tuple, ty_str_dict, ty_list_int, ty_list_bool, ty_list_str, ty_list_list, ty_list_tuple, ty_list_dict, ty_tuple_int, ty_tuple_bool, ty_tuple_str, ty_tuple_list, ty_tuple_tuple, ty_tuple_dict, ty_dict_int, ty_dict_bool, ty_dict_str, ty_dict_list, ty_dict_tuple, ty_dict_dict, st_0, st_1, st_2, st_3, st_4, st_5, st_6, st_7, st_8, st_9, st_10, st_11, st_12, st_13, st_14, st_15, st_16, st_17, st_18, st_19, st_20, st_21, st_22, st_23, st_24, st_25, st_26, st_27, st_28, st_29, b_ok, b_exn, t_ok, t_exn, of_some, sq_nx, sq_ret, sq_exn, sq_brk, sq_cnt, obl_some, ob_ret, ob_nx, ob_exn, j_rep2_, j_ife_, z_ifeK_, chV_b, szt_t, compV_some, cpR_ok, cB_one, cB_many, cB_cd1, cdX_ok, lstO_some, zipV_l, revV_l, intO_i, bB_tt, bB_tf, bB_ft, bB_ff, bB_t, bB_f, unpV_t, nxO_s, forV_s, fB_one, fB_many, bm_n, bm_c, mvR_nx, mvR_ret, mvR_exn, dE_n, dE_c, trR_nx, trR_ret, trR_exn, caR_t, caR_f, unAs_nx, unAs_ret, aS_s, aS_n, muO_s, muK_t, ma_app, ma_ext, ma_clr, ma_rev, ma_set, md_app, md_ext, md_clr, md_rev, md_set, cn_i, cn_b, cn_n, cn_s, forL_n, compL_n, j_fld_, at_5, at_6, at_7, at_8, at_9, at_10, at_11, is_bb, bbtt, bbtf, bbft, bbff, beq_self_eq_true, mulOk_small, mulOk_small2, Bool.or_true, Bool.or_false, Bool.true_or, Bool.false_or, Bool.and_true, Bool.true_and, startE, eqV_int, eqV_str, op_add, op_sub, op_mul, op_fdiv, op_fdivN, op_mod, op_pow, op_addS, op_addL, de_non, de_bl, de_int, de_str, de_tup, de_lst, de_exc, de_scr, de_obj, cp_lt, cp_le, cp_gt, cp_ge, cp_eq, cp_ne, cp_isn, cp_isnt, cp_in, cp_nin, no_some, is_non, nb_non, nb_int, nb_bl, nb_tup, nb_lst, nb_str, eq_nn, eq_ni, eq_in, eq_bb, ix_lst, ix_tup, ix_scr, at_0, at_1, at_2, at_3, at_4, bi_lenL, bi_lenT, bi_lenC, bi_abs, bi_min2, bi_max2, bi_listL, bi_listT, ty_int, ty_bl, ty_non, ty_str, ty_lst, ty_tup, ty_exV, it_lst, it_tup, mu_app, mu_ext, mt_app, mt_ext, mt_clr, mt_rev, mt_set, mu_clr, mu_rev, List.map_cons, List.map_nil, List.length_cons, List.length_nil, List.cons_append, List.nil_append, List.replicate, Nat.reduceSub, Nat.reduceAdd, ↓reduceIte, if_true, if_false, Bool.false_eq_true, decide_eq_true_eq, decide_true, decide_false, Bool.not_true, Bool.not_false, reduceCtorEq, ite_true, ite_false, Int.reduceLT, Int.reduceLE, Int.reducePow, Int.reduceMul, Int.reduceAdd, Int.reduceSub, Int.reduceToNat, Nat.reduceLT, Nat.reducePow, and_self, and_true, true_and, Int.reduceNeg, Int.reduceEq, szb1, szb2, szb3, szb0, szb4, szb5, szb6, szb7, szb8, szb9, szb10, szb11, szb12, szb13, szb14, szb15, szb16, szb17, szb18, szb19, szb20, szb21, szb22, szb23, szb24, szb25, szb26, szb27, szb28, szb29, szb30, szb31, szb32, szb33, szb34, szb35, szb36, szb37, szb38, szb39, encO, oV_s, oV_n, h2, hu, forL, r_whole]
theorem r_meet : run G wfN (n + 1) 22 [encO p, encO q] S = .ok (meetV p q) S := by
  rw [run_unf (F := F_meet) rfl rfl rfl]
  obtain ⟨a, b⟩ := p
  obtain ⟨c, d⟩ := q
  have s1 : evSs ⟨G, wfN, run G wfN n, runI G wfN n⟩ (F_meet.body.take 2) [some (encO (a, b)), some (encO (c, d)), none, none] S = .nx [some (encO (a, b)), some (encO (c, d)), some (oV (lmax a c)), none] S := by
    cases a with
    | none => cases c <;> simp (decide := true) only [F_meet, List.take, ↓e_v0, ↓e_v1, ↓e_v2, ↓e_v3, ↓e_v4, ↓e_v5, ↓e_v6, ↓e_v7, ↓e_v8, ↓e_v9, ↓e_v10, ↓e_v11, ↓e_v12, ↓e_v13, ↓e_v14, ↓e_v15, ↓e_v16, ↓e_v17, ↓e_v18, ↓e_v19, ↓e_v20, ↓e_v21, ↓e_v22, ↓e_v23, ↓e_v24, ↓e_v25, ↓e_v26, ↓e_v27, ↓e_v28, ↓e_v29, ↓e_k, ↓e_gl, ↓e_op2, ↓e_rep, ↓e_neg, ↓e_cmp, ↓e_ch, ↓e_bop, ↓e_nt, ↓e_ife, ↓e_tup, ↓e_lst, ↓e_ix, ↓e_sl, ↓e_fld, ↓e_call, ↓e_mk, ↓e_mth, ↓e_bi, ↓e_bm, ↓e_sortk, ↓e_isi, ↓e_comp, ↓e_d0, ↓e_rng, ↓e_zip, ↓e_rev, ↓es_n, ↓es_c, ↓eO_n, ↓eO_s, ↓eB_1, ↓eB_c, ↓q_n, ↓q_1, ↓q_c, ↓z_set, ↓z_unp, ↓z_ex, ↓z_ret, ↓z_retN, ↓z_ife, ↓z_for, ↓z_whil, ↓z_brk, ↓z_cnt, ↓z_pas, ↓z_rais, ↓z_mvs, ↓z_tr, ↓h_n, ↓h_c, ↓k2_, ↓j_op2_, ↓j_rep_, ↓j_neg_, ↓j_cmp_, ↓j_ch2_, ↓j_ch3_, ↓j_nt_, ↓j_tup_, ↓j_lst_, ↓j_ix_, ↓j_sl_, ↓j_sl2_, ↓j_sl3_, ↓j_mth_, ↓j_mth2_, ↓j_bi_, ↓j_bm_, ↓j_bm2_, ↓j_isi_, ↓j_lok_, ↓j_comp_, ↓j_rng_, ↓j_zip_, ↓j_rev_, ↓j_cons_, ↓k_es_, ↓z_setK_, ↓z_unpK_, ↓z_exK_, ↓z_forK_, ↓k_mu_, ↓z_mu0, ↓z_mu1, ↓z_mu2, ↓z_mu3, ↓z_mu4, ↓z_mu5, ↓z_mu6, ↓z_mu7, ↓z_mu8, ↓z_mu9, ↓z_mu10, ↓z_mu11, ↓z_mu12, ↓z_mu13, ↓z_mu14, ↓z_mu15, ↓z_mu16, ↓z_mu17, ↓z_mu18, ↓z_mu19, ↓z_mu20, ↓z_mu21, ↓z_mu22, ↓z_mu23, ↓z_mu24, ↓z_mu25, ↓z_mu26, ↓z_mu27, ↓z_mu28, ↓z_mu29, ty_int_int, ty_int_bool, ty_int_str, ty_int_list, ty_int_tuple, ty_int_dict, ty_bool_int, ty_bool_bool, ty_bool_str, ty_bool_list, ty_bool_tuple, ty_bool_dict, ty_str_int, ty_str_bool, ty_str_str, ty_str_list, ty_str_tuple, ty_str_dict, ty_list_int, ty_list_bool, ty_list_str, ty_list_list, ty_list_tuple, ty_list_dict, ty_tuple_int, ty_tuple_bool, ty_tuple_str, ty_tuple_list, ty_tuple_tuple, ty_tuple_dict, ty_dict_int, ty_dict_bool, ty_dict_str, ty_dict_list, ty_dict_tuple, ty_dict_dict, st_0, st_1, st_2, st_3, st_4, st_5, st_6, st_7, st_8, st_9, st_10, st_11, st_12, st_13, st_14, st_15, st_16, st_17, st_18, st_19, st_20, st_21, st_22, st_23, st_24, st_25, st_26, st_27, st_28, st_29, b_ok, b_exn, t_ok, t_exn, of_some, sq_nx, sq_ret, sq_exn, sq_brk, sq_cnt, obl_some, ob_ret, ob_nx, ob_exn, j_rep2_, j_ife_, z_ifeK_, chV_b, szt_t, compV_some, cpR_ok, cB_one, cB_many, cB_cd1, cdX_ok, lstO_some, zipV_l, revV_l, intO_i, bB_tt, bB_tf, bB_ft, bB_ff, bB_t, bB_f, unpV_t, nxO_s, forV_s, fB_one, fB_many, bm_n, bm_c, mvR_nx, mvR_ret, mvR_exn, dE_n, dE_c, trR_nx, trR_ret, trR_exn, caR_t, caR_f, unAs_nx, unAs_ret, aS_s, aS_n, muO_s, muK_t, ma_app, ma_ext, ma_clr, ma_rev, ma_set, md_app, md_ext, md_clr, md_rev, md_set, cn_i, cn_b, cn_n, cn_s, forL_n, compL_n, j_fld_, at_5, at_6, at_7, at_8, at_9, at_10, at_11, is_bb, bbtt, bbtf, bbft, bbff, beq_self_eq_true, mulOk_small, mulOk_small2, Bool.or_true, Bool.or_false, Bool.true_or, Bool.false_or, Bool.and_true, Bool.true_and, startE, eqV_int, eqV_str, op_add, op_sub, op_mul, op_fdiv, op_fdivN, op_mod, op_pow, op_addS, op_addL, de_non, de_bl, de_int, de_str, de_tup, de_lst, de_exc, de_scr, de_obj, cp_lt, cp_le, cp_gt, cp_ge, cp_eq, cp_ne, cp_isn, cp_isnt, cp_in, cp_nin, no_some, is_non, nb_non, nb_int, nb_bl, nb_tup, nb_lst, nb_str, eq_nn, eq_ni, eq_in, eq_bb, ix_lst, ix_tup, ix_scr, at_0, at_1, at_2, at_3, at_4, bi_lenL, bi_lenT, bi_lenC, bi_abs, bi_min2, bi_max2, bi_listL, bi_listT, ty_int, ty_bl, ty_non, ty_str, ty_lst, ty_tup, ty_exV, it_lst, it_tup, mu_app, mu_ext, mt_app, mt_ext, mt_clr, mt_rev, mt_set, mu_clr, mu_rev, List.map_cons, List.map_nil, List.length_cons, List.length_nil, List.cons_append, List.nil_append, List.replicate, Nat.reduceSub, Nat.reduceAdd, ↓reduceIte, if_true, if_false, Bool.false_eq_true, decide_eq_true_eq, decide_true, decide_false, Bool.not_true, Bool.not_false, reduceCtorEq, ite_true, ite_false, Int.reduceLT, Int.reduceLE, Int.reducePow, Int.reduceMul, Int.reduceAdd, Int.reduceSub, Int.reduceToNat, Nat.reduceLT, Nat.reducePow, and_self, and_true, true_and, Int.reduceNeg, Int.reduceEq, szb1, szb2, szb3, szb0, szb4, szb5, szb6, szb7, szb8, szb9, szb10, szb11, szb12, szb13, szb14, szb15, szb16, szb17, szb18, szb19, szb20, szb21, szb22, szb23, szb24, szb25, szb26, szb27, szb28, szb29, szb30, szb31, szb32, szb33, szb34, szb35, szb36, szb37, szb38, szb39, encO, oV_s, oV_n, lmax, de_oV]
    | some x =>
      cases c with
      | none => simp (decide := true) only [F_meet, List.take, ↓e_v0, ↓e_v1, ↓e_v2, ↓e_v3, ↓e_v4, ↓e_v5, ↓e_v6, ↓e_v7, ↓e_v8, ↓e_v9, ↓e_v10, ↓e_v11, ↓e_v12, ↓e_v13, ↓e_v14, ↓e_v15, ↓e_v16, ↓e_v17, ↓e_v18, ↓e_v19, ↓e_v20, ↓e_v21, ↓e_v22, ↓e_v23, ↓e_v24, ↓e_v25, ↓e_v26, ↓e_v27, ↓e_v28, ↓e_v29, ↓e_k, ↓e_gl, ↓e_op2, ↓e_rep, ↓e_neg, ↓e_cmp, ↓e_ch, ↓e_bop, ↓e_nt, ↓e_ife, ↓e_tup, ↓e_lst, ↓e_ix, ↓e_sl, ↓e_fld, ↓e_call, ↓e_mk, ↓e_mth, ↓e_bi, ↓e_bm, ↓e_sortk, ↓e_isi, ↓e_comp, ↓e_d0, ↓e_rng, ↓e_zip, ↓e_rev, ↓es_n, ↓es_c, ↓eO_n, ↓eO_s, ↓eB_1, ↓eB_c, ↓q_n, ↓q_1, ↓q_c, ↓z_set, ↓z_unp, ↓z_ex, ↓z_ret, ↓z_retN, ↓z_ife, ↓z_for, ↓z_whil, ↓z_brk, ↓z_cnt, ↓z_pas, ↓z_rais, ↓z_mvs, ↓z_tr, ↓h_n, ↓h_c, ↓k2_, ↓j_op2_, ↓j_rep_, ↓j_neg_, ↓j_cmp_, ↓j_ch2_, ↓j_ch3_, ↓j_nt_, ↓j_tup_, ↓j_lst_, ↓j_ix_, ↓j_sl_, ↓j_sl2_, ↓j_sl3_, ↓j_mth_, ↓j_mth2_, ↓j_bi_, ↓j_bm_, ↓j_bm2_, ↓j_isi_, ↓j_lok_, ↓j_comp_, ↓j_rng_, ↓j_zip_, ↓j_rev_, ↓j_cons_, ↓k_es_, ↓z_setK_, ↓z_unpK_, ↓z_exK_, ↓z_forK_, ↓k_mu_, ↓z_mu0, ↓z_mu1, ↓z_mu2, ↓z_mu3, ↓z_mu4, ↓z_mu5, ↓z_mu6, ↓z_mu7, ↓z_mu8, ↓z_mu9, ↓z_mu10, ↓z_mu11, ↓z_mu12, ↓z_mu13, ↓z_mu14, ↓z_mu15, ↓z_mu16, ↓z_mu17, ↓z_mu18, ↓z_mu19, ↓z_mu20, ↓z_mu21, ↓z_mu22, ↓z_mu23, ↓z_mu24, ↓z_mu25, ↓z_mu26, ↓z_mu27, ↓z_mu28, ↓z_mu29, ty_int_int, ty_int_bool, ty_int_str, ty_int_list, ty_int_tuple, ty_int_dict, ty_bool_int, ty_bool_bool, ty_bool_str, ty_bool_list, ty_bool_tuple, ty_bool_dict, ty_str_int, ty_str_bool, ty_str_str, ty_str_list, ty_str_tuple, ty_str_dict, ty_list_int, ty_list_bool, ty_list_str, ty_list_list, ty_list_tuple, ty_list_dict, ty_tuple_int, ty_tuple_bool, ty_tuple_str, ty_tuple_list, ty_tuple_tuple, ty_tuple_dict, ty_dict_int, ty_dict_bool, ty_dict_str, ty_dict_list, ty_dict_tuple, ty_dict_dict, st_0, st_1, st_2, st_3, st_4, st_5, st_6, st_7, st_8, st_9, st_10, st_11, st_12, st_13, st_14, st_15, st_16, st_17, st_18, st_19, st_20, st_21, st_22, st_23, st_24, st_25, st_26, st_27, st_28, st_29, b_ok, b_exn, t_ok, t_exn, of_some, sq_nx, sq_ret, sq_exn, sq_brk, sq_cnt, obl_some, ob_ret, ob_nx, ob_exn, j_rep2_, j_ife_, z_ifeK_, chV_b, szt_t, compV_some, cpR_ok, cB_one, cB_many, cB_cd1, cdX_ok, lstO_some, zipV_l, revV_l, intO_i, bB_tt, bB_tf, bB_ft, bB_ff, bB_t, bB_f, unpV_t, nxO_s, forV_s, fB_one, fB_many, bm_n, bm_c, mvR_nx, mvR_ret, mvR_exn, dE_n, dE_c, trR_nx, trR_ret, trR_exn, caR_t, caR_f, unAs_nx, unAs_ret, aS_s, aS_n, muO_s, muK_t, ma_app, ma_ext, ma_clr, ma_rev, ma_set, md_app, md_ext, md_clr, md_rev, md_set, cn_i, cn_b, cn_n, cn_s, forL_n, compL_n, j_fld_, at_5, at_6, at_7, at_8, at_9, at_10, at_11, is_bb, bbtt, bbtf, bbft, bbff, beq_self_eq_true, mulOk_small, mulOk_small2, Bool.or_true, Bool.or_false, Bool.true_or, Bool.false_or, Bool.and_true, Bool.true_and, startE, eqV_int, eqV_str, op_add, op_sub, op_mul, op_fdiv, op_fdivN, op_mod, op_pow, op_addS, op_addL, de_non, de_bl, de_int, de_str, de_tup, de_lst, de_exc, de_scr, de_obj, cp_lt, cp_le, cp_gt, cp_ge, cp_eq, cp_ne, cp_isn, cp_isnt, cp_in, cp_nin, no_some, is_non, nb_non, nb_int, nb_bl, nb_tup, nb_lst, nb_str, eq_nn, eq_ni, eq_in, eq_bb, ix_lst, ix_tup, ix_scr, at_0, at_1, at_2, at_3, at_4, bi_lenL, bi_lenT, bi_lenC, bi_abs, bi_min2, bi_max2, bi_listL, bi_listT, ty_int, ty_bl, ty_non, ty_str, ty_lst, ty_tup, ty_exV, it_lst, it_tup, mu_app, mu_ext, mt_app, mt_ext, mt_clr, mt_rev, mt_set, mu_clr, mu_rev, List.map_cons, List.map_nil, List.length_cons, List.length_nil, List.cons_append, List.nil_append, List.replicate, Nat.reduceSub, Nat.reduceAdd, ↓reduceIte, if_true, if_false, Bool.false_eq_true, decide_eq_true_eq, decide_true, decide_false, Bool.not_true, Bool.not_false, reduceCtorEq, ite_true, ite_false, Int.reduceLT, Int.reduceLE, Int.reducePow, Int.reduceMul, Int.reduceAdd, Int.reduceSub, Int.reduceToNat, Nat.reduceLT, Nat.reducePow, and_self, and_true, true_and, Int.reduceNeg, Int.reduceEq, szb1, szb2, szb3, szb0, szb4, szb5, szb6, szb7, szb8, szb9, szb10, szb11, szb12, szb13, szb14, szb15, szb16, szb17, szb18, szb19, szb20, szb21, szb22, szb23, szb24, szb25, szb26, szb27, szb28, szb29, szb30, szb31, szb32, szb33, szb34, szb35, szb36, szb37, szb38, szb39, encO, oV_s, oV_n, lmax, de_oV]
      | some y =>
        by_cases h : x < y
        · have h' : y > x := h
          rw [lmax, if_pos h']
          simp (decide := true) only [F_meet, List.take, ↓e_v0, ↓e_v1, ↓e_v2, ↓e_v3, ↓e_v4, ↓e_v5, ↓e_v6, ↓e_v7, ↓e_v8, ↓e_v9, ↓e_v10, ↓e_v11, ↓e_v12, ↓e_v13, ↓e_v14, ↓e_v15, ↓e_v16, ↓e_v17, ↓e_v18, ↓e_v19, ↓e_v20, ↓e_v21, ↓e_v22, ↓e_v23, ↓e_v24, ↓e_v25, ↓e_v26, ↓e_v27, ↓e_v28, ↓e_v29, ↓e_k, ↓e_gl, ↓e_op2, ↓e_rep, ↓e_neg, ↓e_cmp, ↓e_ch, ↓e_bop, ↓e_nt, ↓e_ife, ↓e_tup, ↓e_lst, ↓e_ix, ↓e_sl, ↓e_fld, ↓e_call, ↓e_mk, ↓e_mth, ↓e_bi, ↓e_bm, ↓e_sortk, ↓e_isi, ↓e_comp, ↓e_d0, ↓e_rng, ↓e_zip, ↓e_rev, ↓es_n, ↓es_c, ↓eO_n, ↓eO_s, ↓eB_1, ↓eB_c, ↓q_n, ↓q_1, ↓q_c, ↓z_set, ↓z_unp, ↓z_ex, ↓z_ret, ↓z_retN, ↓z_ife, ↓z_for, ↓z_whil, ↓z_brk, ↓z_cnt, ↓z_pas, ↓z_rais, ↓z_mvs, ↓z_tr, ↓h_n, ↓h_c, ↓k2_, ↓j_op2_, ↓j_rep_, ↓j_neg_, ↓j_cmp_, ↓j_ch2_, ↓j_ch3_, ↓j_nt_, ↓j_tup_, ↓j_lst_, ↓j_ix_, ↓j_sl_, ↓j_sl2_, ↓j_sl3_, ↓j_mth_, ↓j_mth2_, ↓j_bi_, ↓j_bm_, ↓j_bm2_, ↓j_isi_, ↓j_lok_, ↓j_comp_, ↓j_rng_, ↓j_zip_, ↓j_rev_, ↓j_cons_, ↓k_es_, ↓z_setK_, ↓z_unpK_, ↓z_exK_, ↓z_forK_, ↓k_mu_, ↓z_mu0, ↓z_mu1, ↓z_mu2, ↓z_mu3, ↓z_mu4, ↓z_mu5, ↓z_mu6, ↓z_mu7, ↓z_mu8, ↓z_mu9, ↓z_mu10, ↓z_mu11, ↓z_mu12, ↓z_mu13, ↓z_mu14, ↓z_mu15, ↓z_mu16, ↓z_mu17, ↓z_mu18, ↓z_mu19, ↓z_mu20, ↓z_mu21, ↓z_mu22, ↓z_mu23, ↓z_mu24, ↓z_mu25, ↓z_mu26, ↓z_mu27, ↓z_mu28, ↓z_mu29, ty_int_int, ty_int_bool, ty_int_str, ty_int_list, ty_int_tuple, ty_int_dict, ty_bool_int, ty_bool_bool, ty_bool_str, ty_bool_list, ty_bool_tuple, ty_bool_dict, ty_str_int, ty_str_bool, ty_str_str, ty_str_list, ty_str_tuple, ty_str_dict, ty_list_int, ty_list_bool, ty_list_str, ty_list_list, ty_list_tuple, ty_list_dict, ty_tuple_int, ty_tuple_bool, ty_tuple_str, ty_tuple_list, ty_tuple_tuple, ty_tuple_dict, ty_dict_int, ty_dict_bool, ty_dict_str, ty_dict_list, ty_dict_tuple, ty_dict_dict, st_0, st_1, st_2, st_3, st_4, st_5, st_6, st_7, st_8, st_9, st_10, st_11, st_12, st_13, st_14, st_15, st_16, st_17, st_18, st_19, st_20, st_21, st_22, st_23, st_24, st_25, st_26, st_27, st_28, st_29, b_ok, b_exn, t_ok, t_exn, of_some, sq_nx, sq_ret, sq_exn, sq_brk, sq_cnt, obl_some, ob_ret, ob_nx, ob_exn, j_rep2_, j_ife_, z_ifeK_, chV_b, szt_t, compV_some, cpR_ok, cB_one, cB_many, cB_cd1, cdX_ok, lstO_some, zipV_l, revV_l, intO_i, bB_tt, bB_tf, bB_ft, bB_ff, bB_t, bB_f, unpV_t, nxO_s, forV_s, fB_one, fB_many, bm_n, bm_c, mvR_nx, mvR_ret, mvR_exn, dE_n, dE_c, trR_nx, trR_ret, trR_exn, caR_t, caR_f, unAs_nx, unAs_ret, aS_s, aS_n, muO_s, muK_t, ma_app, ma_ext, ma_clr, ma_rev, ma_set, md_app, md_ext, md_clr, md_rev, md_set, cn_i, cn_b, cn_n, cn_s, forL_n, compL_n, j_fld_, at_5, at_6, at_7, at_8, at_9, at_10, at_11, is_bb, bbtt, bbtf, bbft, bbff, beq_self_eq_true, mulOk_small, mulOk_small2, Bool.or_true, Bool.or_false, Bool.true_or, Bool.false_or, Bool.and_true, Bool.true_and, startE, eqV_int, eqV_str, op_add, op_sub, op_mul, op_fdiv, op_fdivN, op_mod, op_pow, op_addS, op_addL, de_non, de_bl, de_int, de_str, de_tup, de_lst, de_exc, de_scr, de_obj, cp_lt, cp_le, cp_gt, cp_ge, cp_eq, cp_ne, cp_isn, cp_isnt, cp_in, cp_nin, no_some, is_non, nb_non, nb_int, nb_bl, nb_tup, nb_lst, nb_str, eq_nn, eq_ni, eq_in, eq_bb, ix_lst, ix_tup, ix_scr, at_0, at_1, at_2, at_3, at_4, bi_lenL, bi_lenT, bi_lenC, bi_abs, bi_min2, bi_max2, bi_listL, bi_listT, ty_int, ty_bl, ty_non, ty_str, ty_lst, ty_tup, ty_exV, it_lst, it_tup, mu_app, mu_ext, mt_app, mt_ext, mt_clr, mt_rev, mt_set, mu_clr, mu_rev, List.map_cons, List.map_nil, List.length_cons, List.length_nil, List.cons_append, List.nil_append, List.replicate, Nat.reduceSub, Nat.reduceAdd, ↓reduceIte, if_true, if_false, Bool.false_eq_true, decide_eq_true_eq, decide_true, decide_false, Bool.not_true, Bool.not_false, reduceCtorEq, ite_true, ite_false, Int.reduceLT, Int.reduceLE, Int.reducePow, Int.reduceMul, Int.reduceAdd, Int.reduceSub, Int.reduceToNat, Nat.reduceLT, Nat.reducePow, and_self, and_true, true_and, Int.reduceNeg, Int.reduceEq, szb1, szb2, szb3, szb0, szb4, szb5, szb6, szb7, szb8, szb9, szb10, szb11, szb12, szb13, szb14, szb15, szb16, szb17, szb18, szb19, szb20, szb21, szb22, szb23, szb24, szb25, szb26, szb27, szb28, szb29, szb30, szb31, szb32, szb33, szb34, szb35, szb36, szb37, szb38, szb39, encO, oV_s, oV_n, de_oV, h]
        · have h' : ¬ y > x := h
          rw [lmax, if_neg h']
          simp (decide := true) only [F_meet, List.take, ↓e_v0, ↓e_v1, ↓e_v2, ↓e_v3, ↓e_v4, ↓e_v5, ↓e_v6, ↓e_v7, ↓e_v8, ↓e_v9, ↓e_v10, ↓e_v11, ↓e_v12, ↓e_v13, ↓e_v14, ↓e_v15, ↓e_v16, ↓e_v17, ↓e_v18, ↓e_v19, ↓e_v20, ↓e_v21, ↓e_v22, ↓e_v23, ↓e_v24, ↓e_v25, ↓e_v26, ↓e_v27, ↓e_v28, ↓e_v29, ↓e_k, ↓e_gl, ↓e_op2, ↓e_rep, ↓e_neg, ↓e_cmp, ↓e_ch, ↓e_bop, ↓e_nt, ↓e_ife, ↓e_tup, ↓e_lst, ↓e_ix, ↓e_sl, ↓e_fld, ↓e_call, ↓e_mk, ↓e_mth, ↓e_bi, ↓e_bm, ↓e_sortk, ↓e_isi, ↓e_comp, ↓e_d0, ↓e_rng, ↓e_zip, ↓e_rev, ↓es_n, ↓es_c, ↓eO_n, ↓eO_s, ↓eB_1, ↓eB_c, ↓q_n, ↓q_1, ↓q_c, ↓z_set, ↓z_unp, ↓z_ex, ↓z_ret, ↓z_retN, ↓z_ife, ↓z_for, ↓z_whil, ↓z_brk, ↓z_cnt, ↓z_pas, ↓z_rais, ↓z_mvs, ↓z_tr, ↓h_n, ↓h_c, ↓k2_, ↓j_op2_, ↓j_rep_, ↓j_neg_, ↓j_cmp_, ↓j_ch2_, ↓j_ch3_, ↓j_nt_, ↓j_tup_, ↓j_lst_, ↓j_ix_, ↓j_sl_, ↓j_sl2_, ↓j_sl3_, ↓j_mth_, ↓j_mth2_, ↓j_bi_, ↓j_bm_, ↓j_bm2_, ↓j_isi_, ↓j_lok_, ↓j_comp_, ↓j_rng_, ↓j_zip_, ↓j_rev_, ↓j_cons_, ↓k_es_, ↓z_setK_, ↓z_unpK_, ↓z_exK_, ↓z_forK_, ↓k_mu_, ↓z_mu0, ↓z_mu1, ↓z_mu2, ↓z_mu3, ↓z_mu4, ↓z_mu5, ↓z_mu6, ↓z_mu7, ↓z_mu8, ↓z_mu9, ↓z_mu10, ↓z_mu11, ↓z_mu12, ↓z_mu13, ↓z_mu14, ↓z_mu15, ↓z_mu16, ↓z_mu17, ↓z_mu18, ↓z_mu19, ↓z_mu20, ↓z_mu21, ↓z_mu22, ↓z_mu23, ↓z_mu24, ↓z_mu25, ↓z_mu26, ↓z_mu27, ↓z_mu28, ↓z_mu29, ty_int_int, ty_int_bool, ty_int_str, ty_int_list, ty_int_tuple, ty_int_dict, ty_bool_int, ty_bool_bool, ty_bool_str, ty_bool_list, ty_bool_tuple, ty_bool_dict, ty_str_int, ty_str_bool, ty_str_str, ty_str_list, ty_str_tuple, ty_str_dict, ty_list_int, ty_list_bool, ty_list_str, ty_list_list, ty_list_tuple, ty_list_dict, ty_tuple_int, ty_tuple_bool, ty_tuple_str, ty_tuple_list, ty_tuple_tuple, ty_tuple_dict, ty_dict_int, ty_dict_bool, ty_dict_str, ty_dict_list, ty_dict_tuple, ty_dict_dict, st_0, st_1, st_2, st_3, st_4, st_5, st_6, st_7, st_8, st_9, st_10, st_11, st_12, st_13, st_14, st_15, st_16, st_17, st_18, st_19, st_20, st_21, st_22, st_23, st_24, st_25, st_26, st_27, st_28, st_29, b_ok, b_exn, t_ok, t_exn, of_some, sq_nx, sq_ret, sq_exn, sq_brk, sq_cnt, obl_some, ob_ret, ob_nx, ob_exn, j_rep2_, j_ife_, z_ifeK_, chV_b, szt_t, compV_some, cpR_ok, cB_one, cB_many, cB_cd1, cdX_ok, lstO_some, zipV_l, revV_l, intO_i, bB_tt, bB_tf, bB_ft, bB_ff, bB_t, bB_f, unpV_t, nxO_s, forV_s, fB_one, fB_many, bm_n, bm_c, mvR_nx, mvR_ret, mvR_exn, dE_n, dE_c, trR_nx, trR_ret, trR_exn, caR_t, caR_f, unAs_nx, unAs_ret, aS_s, aS_n, muO_s, muK_t, ma_app, ma_ext, ma_clr, ma_rev, ma_set, md_app, md_ext, md_clr, md_rev, md_set, cn_i, cn_b, cn_n, cn_s, forL_n, compL_n, j_fld_, at_5, at_6, at_7, at_8, at_9, at_10, at_11, is_bb, bbtt, bbtf, bbft, bbff, beq_self_eq_true, mulOk_small, mulOk_small2, Bool.or_true, Bool.or_false, Bool.true_or, Bool.false_or, Bool.and_true, Bool.true_and, startE, eqV_int, eqV_str, op_add, op_sub, op_mul, op_fdiv, op_fdivN, op_mod, op_pow, op_addS, op_addL, de_non, de_bl, de_int, de_str, de_tup, de_lst, de_exc, de_scr, de_obj, cp_lt, cp_le, cp_gt, cp_ge, cp_eq, cp_ne, cp_isn, cp_isnt, cp_in, cp_nin, no_some, is_non, nb_non, nb_int, nb_bl, nb_tup, nb_lst, nb_str, eq_nn, eq_ni, eq_in, eq_bb, ix_lst, ix_tup, ix_scr, at_0, at_1, at_2, at_3, at_4, bi_lenL, bi_lenT, bi_lenC, bi_abs, bi_min2, bi_max2, bi_listL, bi_listT, ty_int, ty_bl, ty_non, ty_str, ty_lst, ty_tup, ty_exV, it_lst, it_tup, mu_app, mu_ext, mt_app, mt_ext, mt_clr, mt_rev, mt_set, mu_clr, mu_rev, List.map_cons, List.map_nil, List.length_cons, List.length_nil, List.cons_append, List.nil_append, List.replicate, Nat.reduceSub, Nat.reduceAdd, ↓reduceIte, if_true, if_false, Bool.false_eq_true, decide_eq_true_eq, decide_true, decide_false, Bool.not_true, Bool.not_false, reduceCtorEq, ite_true, ite_false, Int.reduceLT, Int.reduceLE, Int.reducePow, Int.reduceMul, Int.reduceAdd, Int.reduceSub, Int.reduceToNat, Nat.reduceLT, Nat.reducePow, and_self, and_true, true_and, Int.reduceNeg, Int.reduceEq, szb1, szb2, szb3, szb0, szb4, szb5, szb6, szb7, szb8, szb9, szb10, szb11, szb12, szb13, szb14, szb15, szb16, szb17, szb18, szb19, szb20, szb21, szb22, szb23, szb24, szb25, szb26, szb27, szb28, szb29, szb30, szb31, szb32, szb33, szb34, szb35, szb36, szb37, szb38, szb39, encO, oV_s, oV_n, de_oV, h]
  have s2 : ∀ l : Option Int, evSs ⟨G, wfN, run G wfN n, runI G wfN n⟩ ((F_meet.body.drop 2).take 2) [some (encO (a, b)), some (encO (c, d)), some (oV l), none] S = .nx [some (encO (a, b)), some (encO (c, d)), some (oV l), some (oV (hmin b d))] S := by
    intro l
    cases b with
    | none => cases d <;> simp (decide := true) only [F_meet, List.take, List.drop, ↓e_v0, ↓e_v1, ↓e_v2, ↓e_v3, ↓e_v4, ↓e_v5, ↓e_v6, ↓e_v7, ↓e_v8, ↓e_v9, ↓e_v10, ↓e_v11, ↓e_v12, ↓e_v13, ↓e_v14, ↓e_v15, ↓e_v16, ↓e_v17, ↓e_v18, ↓e_v19, ↓e_v20, ↓e_v21, ↓e_v22, ↓e_v23, ↓e_v24, ↓e_v25, ↓e_v26, ↓e_v27, ↓e_v28, ↓e_v29, ↓e_k, ↓e_gl, ↓e_op2, ↓e_rep, ↓e_neg, ↓e_cmp, ↓e_ch, ↓e_bop, ↓e_nt, ↓e_ife, ↓e_tup, ↓e_lst, ↓e_ix, ↓e_sl, ↓e_fld, ↓e_call, ↓e_mk, ↓e_mth, ↓e_bi, ↓e_bm, ↓e_sortk, ↓e_isi, ↓e_comp, ↓e_d0, ↓e_rng, ↓e_zip, ↓e_rev, ↓es_n, ↓es_c, ↓eO_n, ↓eO_s, ↓eB_1, ↓eB_c, ↓q_n, ↓q_1, ↓q_c, ↓z_set, ↓z_unp, ↓z_ex, ↓z_ret, ↓z_retN, ↓z_ife, ↓z_for, ↓z_whil, ↓z_brk, ↓z_cnt, ↓z_pas, ↓z_rais, ↓z_mvs, ↓z_tr, ↓h_n, ↓h_c, ↓k2_, ↓j_op2_, ↓j_rep_, ↓j_neg_, ↓j_cmp_, ↓j_ch2_, ↓j_ch3_, ↓j_nt_, ↓j_tup_, ↓j_lst_, ↓j_ix_, ↓j_sl_, ↓j_sl2_, ↓j_sl3_, ↓j_mth_, ↓j_mth2_, ↓j_bi_, ↓j_bm_, ↓j_bm2_, ↓j_isi_, ↓j_lok_, ↓j_comp_, ↓j_rng_, ↓j_zip_, ↓j_rev_, ↓j_cons_, ↓k_es_, ↓z_setK_, ↓z_unpK_, ↓z_exK_, ↓z_forK_, ↓k_mu_, ↓z_mu0, ↓z_mu1, ↓z_mu2, ↓z_mu3, ↓z_mu4, ↓z_mu5, ↓z_mu6, ↓z_mu7, ↓z_mu8, ↓z_mu9, ↓z_mu10, ↓z_mu11, ↓z_mu12, ↓z_mu13, ↓z_mu14, ↓z_mu15, ↓z_mu16, ↓z_mu17, ↓z_mu18, ↓z_mu19, ↓z_mu20, ↓z_mu21, ↓z_mu22, ↓z_mu23, ↓z_mu24, ↓z_mu25, ↓z_mu26, ↓z_mu27, ↓z_mu28, ↓z_mu29, ty_int_int, ty_int_bool, ty_int_str, ty_int_list, ty_int_tuple, ty_int_dict, ty_bool_int, ty_bool_bool, ty_bool_str, ty_bool_list, ty_bool_tuple, ty_bool_dict, ty_str_int, ty_str_bool, ty_str_str, ty_str_list, ty_str_tuple, ty_str_dict, ty_list_int, ty_list_bool, ty_list_str, ty_list_list, ty_list_tuple, ty_list_dict, ty_tuple_int, ty_tuple_bool, ty_tuple_str, ty_tuple_list, ty_tuple_tuple, ty_tuple_dict, ty_dict_int, ty_dict_bool, ty_dict_str, ty_dict_list, ty_dict_tuple, ty_dict_dict, st_0, st_1, st_2, st_3, st_4, st_5, st_6, st_7, st_8, st_9, st_10, st_11, st_12, st_13, st_14, st_15, st_16, st_17, st_18, st_19, st_20, st_21, st_22, st_23, st_24, st_25, st_26, st_27, st_28, st_29, b_ok, b_exn, t_ok, t_exn, of_some, sq_nx, sq_ret, sq_exn, sq_brk, sq_cnt, obl_some, ob_ret, ob_nx, ob_exn, j_rep2_, j_ife_, z_ifeK_, chV_b, szt_t, compV_some, cpR_ok, cB_one, cB_many, cB_cd1, cdX_ok, lstO_some, zipV_l, revV_l, intO_i, bB_tt, bB_tf, bB_ft, bB_ff, bB_t, bB_f, unpV_t, nxO_s, forV_s, fB_one, fB_many, bm_n, bm_c, mvR_nx, mvR_ret, mvR_exn, dE_n, dE_c, trR_nx, trR_ret, trR_exn, caR_t, caR_f, unAs_nx, unAs_ret, aS_s, aS_n, muO_s, muK_t, ma_app, ma_ext, ma_clr, ma_rev, ma_set, md_app, md_ext, md_clr, md_rev, md_set, cn_i, cn_b, cn_n, cn_s, forL_n, compL_n, j_fld_, at_5, at_6, at_7, at_8, at_9, at_10, at_11, is_bb, bbtt, bbtf, bbft, bbff, beq_self_eq_true, mulOk_small, mulOk_small2, Bool.or_true, Bool.or_false, Bool.true_or, Bool.false_or, Bool.and_true, Bool.true_and, startE, eqV_int, eqV_str, op_add, op_sub, op_mul, op_fdiv, op_fdivN, op_mod, op_pow, op_addS, op_addL, de_non, de_bl, de_int, de_str, de_tup, de_lst, de_exc, de_scr, de_obj, cp_lt, cp_le, cp_gt, cp_ge, cp_eq, cp_ne, cp_isn, cp_isnt, cp_in, cp_nin, no_some, is_non, nb_non, nb_int, nb_bl, nb_tup, nb_lst, nb_str, eq_nn, eq_ni, eq_in, eq_bb, ix_lst, ix_tup, ix_scr, at_0, at_1, at_2, at_3, at_4, bi_lenL, bi_lenT, bi_lenC, bi_abs, bi_min2, bi_max2, bi_listL, bi_listT, ty_int, ty_bl, ty_non, ty_str, ty_lst, ty_tup, ty_exV, it_lst, it_tup, mu_app, mu_ext, mt_app, mt_ext, mt_clr, mt_rev, mt_set, mu_clr, mu_rev, List.map_cons, List.map_nil, List.length_cons, List.length_nil, List.cons_append, List.nil_append, List.replicate, Nat.reduceSub, Nat.reduceAdd, ↓reduceIte, if_true, if_false, Bool.false_eq_true, decide_eq_true_eq, decide_true, decide_false, Bool.not_true, Bool.not_false, reduceCtorEq, ite_true, ite_false, Int.reduceLT, Int.reduceLE, Int.reducePow, Int.reduceMul, Int.reduceAdd, Int.reduceSub, Int.reduceToNat, Nat.reduceLT, Nat.reducePow, and_self, and_true, true_and, Int.reduceNeg, Int.reduceEq, szb1, szb2, szb3, szb0, szb4, szb5, szb6, szb7, szb8, szb9, szb10, szb11, szb12, szb13, szb14, szb15, szb16, szb17, szb18, szb19, szb20, szb21, szb22, szb23, szb24, szb25, szb26, szb27, szb28, szb29, szb30, szb31, szb32, szb33, szb34, szb35, szb36, szb37, szb38, szb39, encO, oV_s, oV_n, hmin, de_oV]
    | some x =>
      cases d with
      | none => simp (decide := true) only [F_meet, List.take, List.drop, ↓e_v0, ↓e_v1, ↓e_v2, ↓e_v3, ↓e_v4, ↓e_v5, ↓e_v6, ↓e_v7, ↓e_v8, ↓e_v9, ↓e_v10, ↓e_v11, ↓e_v12, ↓e_v13, ↓e_v14, ↓e_v15, ↓e_v16, ↓e_v17, ↓e_v18, ↓e_v19, ↓e_v20, ↓e_v21, ↓e_v22, ↓e_v23, ↓e_v24, ↓e_v25, ↓e_v26, ↓e_v27, ↓e_v28, ↓e_v29, ↓e_k, ↓e_gl, ↓e_op2, ↓e_rep, ↓e_neg, ↓e_cmp, ↓e_ch, ↓e_bop, ↓e_nt, ↓e_ife, ↓e_tup, ↓e_lst, ↓e_ix, ↓e_sl, ↓e_fld, ↓e_call, ↓e_mk, ↓e_mth, ↓e_bi, ↓e_bm, ↓e_sortk, ↓e_isi, ↓e_comp, ↓e_d0, ↓e_rng, ↓e_zip, ↓e_rev, ↓es_n, ↓es_c, ↓eO_n, ↓eO_s, ↓eB_1, ↓eB_c, ↓q_n, ↓q_1, ↓q_c, ↓z_set, ↓z_unp, ↓z_ex, ↓z_ret, ↓z_retN, ↓z_ife, ↓z_for, ↓z_whil, ↓z_brk, ↓z_cnt, ↓z_pas, ↓z_rais, ↓z_mvs, ↓z_tr, ↓h_n, ↓h_c, ↓k2_, ↓j_op2_, ↓j_rep_, ↓j_neg_, ↓j_cmp_, ↓j_ch2_, ↓j_ch3_, ↓j_nt_, ↓j_tup_, ↓j_lst_, ↓j_ix_, ↓j_sl_, ↓j_sl2_, ↓j_sl3_, ↓j_mth_, ↓j_mth2_, ↓j_bi_, ↓j_bm_, ↓j_bm2_, ↓j_isi_, ↓j_lok_, ↓j_comp_, ↓j_rng_, ↓j_zip_, ↓j_rev_, ↓j_cons_, ↓k_es_, ↓z_setK_, ↓z_unpK_, ↓z_exK_, ↓z_forK_, ↓k_mu_, ↓z_mu0, ↓z_mu1, ↓z_mu2, ↓z_mu3, ↓z_mu4, ↓z_mu5, ↓z_mu6, ↓z_mu7, ↓z_mu8, ↓z_mu9, ↓z_mu10, ↓z_mu11, ↓z_mu12, ↓z_mu13, ↓z_mu14, ↓z_mu15, ↓z_mu16, ↓z_mu17, ↓z_mu18, ↓z_mu19, ↓z_mu20, ↓z_mu21, ↓z_mu22, ↓z_mu23, ↓z_mu24, ↓z_mu25, ↓z_mu26, ↓z_mu27, ↓z_mu28, ↓z_mu29, ty_int_int, ty_int_bool, ty_int_str, ty_int_list, ty_int_tuple, ty_int_dict, ty_bool_int, ty_bool_bool, ty_bool_str, ty_bool_list, ty_bool_tuple, ty_bool_dict, ty_str_int, ty_str_bool, ty_str_str, ty_str_list, ty_str_tuple, ty_str_dict, ty_list_int, ty_list_bool, ty_list_str, ty_list_list, ty_list_tuple, ty_list_dict, ty_tuple_int, ty_tuple_bool, ty_tuple_str, ty_tuple_list, ty_tuple_tuple, ty_tuple_dict, ty_dict_int, ty_dict_bool, ty_dict_str, ty_dict_list, ty_dict_tuple, ty_dict_dict, st_0, st_1, st_2, st_3, st_4, st_5, st_6, st_7, st_8, st_9, st_10, st_11, st_12, st_13, st_14, st_15, st_16, st_17, st_18, st_19, st_20, st_21, st_22, st_23, st_24, st_25, st_26, st_27, st_28, st_29, b_ok, b_exn, t_ok, t_exn, of_some, sq_nx, sq_ret, sq_exn, sq_brk, sq_cnt, obl_some, ob_ret, ob_nx, ob_exn, j_rep2_, j_ife_, z_ifeK_, chV_b, szt_t, compV_some, cpR_ok, cB_one, cB_many, cB_cd1, cdX_ok, lstO_some, zipV_l, revV_l, intO_i, bB_tt, bB_tf, bB_ft, bB_ff, bB_t, bB_f, unpV_t, nxO_s, forV_s, fB_one, fB_many, bm_n, bm_c, mvR_nx, mvR_ret, mvR_exn, dE_n, dE_c, trR_nx, trR_ret, trR_exn, caR_t, caR_f, unAs_nx, unAs_ret, aS_s, aS_n, muO_s, muK_t, ma_app, ma_ext, ma_clr, ma_rev, ma_set, md_app, md_ext, md_clr, md_rev, md_set, cn_i, cn_b, cn_n, cn_s, forL_n, compL_n, j_fld_, at_5, at_6, at_7, at_8, at_9, at_10, at_11, is_bb, bbtt, bbtf, bbft, bbff, beq_self_eq_true, mulOk_small, mulOk_small2, Bool.or_true, Bool.or_false, Bool.true_or, Bool.false_or, Bool.and_true, Bool.true_and, startE, eqV_int, eqV_str, op_add, op_sub, op_mul, op_fdiv, op_fdivN, op_mod, op_pow, op_addS, op_addL, de_non, de_bl, de_int, de_str, de_tup, de_lst, de_exc, de_scr, de_obj, cp_lt, cp_le, cp_gt, cp_ge, cp_eq, cp_ne, cp_isn, cp_isnt, cp_in, cp_nin, no_some, is_non, nb_non, nb_int, nb_bl, nb_tup, nb_lst, nb_str, eq_nn, eq_ni, eq_in, eq_bb, ix_lst, ix_tup, ix_scr, at_0, at_1, at_2, at_3, at_4, bi_lenL, bi_lenT, bi_lenC, bi_abs, bi_min2, bi_max2, bi_listL, bi_listT, ty_int, ty_bl, ty_non, ty_str, ty_lst, ty_tup, ty_exV, it_lst, it_tup, mu_app, mu_ext, mt_app, mt_ext, mt_clr, mt_rev, mt_set, mu_clr, mu_rev, List.map_cons, List.map_nil, List.length_cons, List.length_nil, List.cons_append, List.nil_append, List.replicate, Nat.reduceSub, Nat.reduceAdd, ↓reduceIte, if_true, if_false, Bool.false_eq_true, decide_eq_true_eq, decide_true, decide_false, Bool.not_true, Bool.not_false, reduceCtorEq, ite_true, ite_false, Int.reduceLT, Int.reduceLE, Int.reducePow, Int.reduceMul, Int.reduceAdd, Int.reduceSub, Int.reduceToNat, Nat.reduceLT, Nat.reducePow, and_self, and_true, true_and, Int.reduceNeg, Int.reduceEq, szb1, szb2, szb3, szb0, szb4, szb5, szb6, szb7, szb8, szb9, szb10, szb11, szb12, szb13, szb14, szb15, szb16, szb17, szb18, szb19, szb20, szb21, szb22, szb23, szb24, szb25, szb26, szb27, szb28, szb29, szb30, szb31, szb32, szb33, szb34, szb35, szb36, szb37, szb38, szb39, encO, oV_s, oV_n, hmin, de_oV]
      | some y =>
        by_cases h : y < x
        · rw [hmin, if_pos h]
          simp (decide := true) only [F_meet, List.take, List.drop, ↓e_v0, ↓e_v1, ↓e_v2, ↓e_v3, ↓e_v4, ↓e_v5, ↓e_v6, ↓e_v7, ↓e_v8, ↓e_v9, ↓e_v10, ↓e_v11, ↓e_v12, ↓e_v13, ↓e_v14, ↓e_v15, ↓e_v16, ↓e_v17, ↓e_v18, ↓e_v19, ↓e_v20, ↓e_v21, ↓e_v22, ↓e_v23, ↓e_v24, ↓e_v25, ↓e_v26, ↓e_v27, ↓e_v28, ↓e_v29, ↓e_k, ↓e_gl, ↓e_op2, ↓e_rep, ↓e_neg, ↓e_cmp, ↓e_ch, ↓e_bop, ↓e_nt, ↓e_ife, ↓e_tup, ↓e_lst, ↓e_ix, ↓e_sl, ↓e_fld, ↓e_call, ↓e_mk, ↓e_mth, ↓e_bi, ↓e_bm, ↓e_sortk, ↓e_isi, ↓e_comp, ↓e_d0, ↓e_rng, ↓e_zip, ↓e_rev, ↓es_n, ↓es_c, ↓eO_n, ↓eO_s, ↓eB_1, ↓eB_c, ↓q_n, ↓q_1, ↓q_c, ↓z_set, ↓z_unp, ↓z_ex, ↓z_ret, ↓z_retN, ↓z_ife, ↓z_for, ↓z_whil, ↓z_brk, ↓z_cnt, ↓z_pas, ↓z_rais, ↓z_mvs, ↓z_tr, ↓h_n, ↓h_c, ↓k2_, ↓j_op2_, ↓j_rep_, ↓j_neg_, ↓j_cmp_, ↓j_ch2_, ↓j_ch3_, ↓j_nt_, ↓j_tup_, ↓j_lst_, ↓j_ix_, ↓j_sl_, ↓j_sl2_, ↓j_sl3_, ↓j_mth_, ↓j_mth2_, ↓j_bi_, ↓j_bm_, ↓j_bm2_, ↓j_isi_, ↓j_lok_, ↓j_comp_, ↓j_rng_, ↓j_zip_, ↓j_rev_, ↓j_cons_, ↓k_es_, ↓z_setK_, ↓z_unpK_, ↓z_exK_, ↓z_forK_, ↓k_mu_, ↓z_mu0, ↓z_mu1, ↓z_mu2, ↓z_mu3, ↓z_mu4, ↓z_mu5, ↓z_mu6, ↓z_mu7, ↓z_mu8, ↓z_mu9, ↓z_mu10, ↓z_mu11, ↓z_mu12, ↓z_mu13, ↓z_mu14, ↓z_mu15, ↓z_mu16, ↓z_mu17, ↓z_mu18, ↓z_mu19, ↓z_mu20, ↓z_mu21, ↓z_mu22, ↓z_mu23, ↓z_mu24, ↓z_mu25, ↓z_mu26, ↓z_mu27, ↓z_mu28, ↓z_mu29, ty_int_int, ty_int_bool, ty_int_str, ty_int_list, ty_int_tuple, ty_int_dict, ty_bool_int, ty_bool_bool, ty_bool_str, ty_bool_list, ty_bool_tuple, ty_bool_dict, ty_str_int, ty_str_bool, ty_str_str, ty_str_list, ty_str_tuple, ty_str_dict, ty_list_int, ty_list_bool, ty_list_str, ty_list_list, ty_list_tuple, ty_list_dict, ty_tuple_int, ty_tuple_bool, ty_tuple_str, ty_tuple_list, ty_tuple_tuple, ty_tuple_dict, ty_dict_int, ty_dict_bool, ty_dict_str, ty_dict_list, ty_dict_tuple, ty_dict_dict, st_0, st_1, st_2, st_3, st_4, st_5, st_6, st_7, st_8, st_9, st_10, st_11, st_12, st_13, st_14, st_15, st_16, st_17, st_18, st_19, st_20, st_21, st_22, st_23, st_24, st_25, st_26, st_27, st_28, st_29, b_ok, b_exn, t_ok, t_exn, of_some, sq_nx, sq_ret, sq_exn, sq_brk, sq_cnt, obl_some, ob_ret, ob_nx, ob_exn, j_rep2_, j_ife_, z_ifeK_, chV_b, szt_t, compV_some, cpR_ok, cB_one, cB_many, cB_cd1, cdX_ok, lstO_some, zipV_l, revV_l, intO_i, bB_tt, bB_tf, bB_ft, bB_ff, bB_t, bB_f, unpV_t, nxO_s, forV_s, fB_one, fB_many, bm_n, bm_c, mvR_nx, mvR_ret, mvR_exn, dE_n, dE_c, trR_nx, trR_ret, trR_exn, caR_t, caR_f, unAs_nx, unAs_ret, aS_s, aS_n, muO_s, muK_t, ma_app, ma_ext, ma_clr, ma_rev, ma_set, md_app, md_ext, md_clr, md_rev, md_set, cn_i, cn_b, cn_n, cn_s, forL_n, compL_n, j_fld_, at_5, at_6, at_7, at_8, at_9, at_10, at_11, is_bb, bbtt, bbtf, bbft, bbff, beq_self_eq_true, mulOk_small, mulOk_small2, Bool.or_true, Bool.or_false, Bool.true_or, Bool.false_or, Bool.and_true, Bool.true_and, startE, eqV_int, eqV_str, op_add, op_sub, op_mul, op_fdiv, op_fdivN, op_mod, op_pow, op_addS, op_addL, de_non, de_bl, de_int, de_str, de_tup, de_lst, de_exc, de_scr, de_obj, cp_lt, cp_le, cp_gt, cp_ge, cp_eq, cp_ne, cp_isn, cp_isnt, cp_in, cp_nin, no_some, is_non, nb_non, nb_int, nb_bl, nb_tup, nb_lst, nb_str, eq_nn, eq_ni, eq_in, eq_bb, ix_lst, ix_tup, ix_scr, at_0, at_1, at_2, at_3, at_4, bi_lenL, bi_lenT, bi_lenC, bi_abs, bi_min2, bi_max2, bi_listL, bi_listT, ty_int, ty_bl, ty_non, ty_str, ty_lst, ty_tup, ty_exV, it_lst, it_tup, mu_app, mu_ext, mt_app, mt_ext, mt_clr, mt_rev, mt_set, mu_clr, mu_rev, List.map_cons, List.map_nil, List.length_cons, List.length_nil, List.cons_append, List.nil_append, List.replicate, Nat.reduceSub, Nat.reduceAdd, ↓reduceIte, if_true, if_false, Bool.false_eq_true, decide_eq_true_eq, decide_true, decide_false, Bool.not_true, Bool.not_false, reduceCtorEq, ite_true, ite_false, Int.reduceLT, Int.reduceLE, Int.reducePow, Int.reduceMul, Int.reduceAdd, Int.reduceSub, Int.reduceToNat, Nat.reduceLT, Nat.reducePow, and_self, and_true, true_and, Int.reduceNeg, Int.reduceEq, szb1, szb2, szb3, szb0, szb4, szb5, szb6, szb7, szb8, szb9, szb10, szb11, szb12, szb13, szb14, szb15, szb16, szb17, szb18, szb19, szb20, szb21, szb22, szb23, szb24, szb25, szb26, szb27, szb28, szb29, szb30, szb31, szb32, szb33, szb34, szb35, szb36, szb37, szb38, szb39, encO, oV_s, oV_n, de_oV, h]
        · rw [hmin, if_neg h]
          simp (decide := true) only [F_meet, List.take, List.drop, ↓e_v0, ↓e_v1, ↓e_v2, ↓e_v3, ↓e_v4, ↓e_v5, ↓e_v6, ↓e_v7, ↓e_v8, ↓e_v9, ↓e_v10, ↓e_v11, ↓e_v12, ↓e_v13, ↓e_v14, ↓e_v15, ↓e_v16, ↓e_v17, ↓e_v18, ↓e_v19, ↓e_v20, ↓e_v21, ↓e_v22, ↓e_v23, ↓e_v24, ↓e_v25, ↓e_v26, ↓e_v27, ↓e_v28, ↓e_v29, ↓e_k, ↓e_gl, ↓e_op2, ↓e_rep, ↓e_neg, ↓e_cmp, ↓e_ch, ↓e_bop, ↓e_nt, ↓e_ife, ↓e_tup, ↓e_lst, ↓e_ix, ↓e_sl, ↓e_fld, ↓e_call, ↓e_mk, ↓e_mth, ↓e_bi, ↓e_bm, ↓e_sortk, ↓e_isi, ↓e_comp, ↓e_d0, ↓e_rng, ↓e_zip, ↓e_rev, ↓es_n, ↓es_c, ↓eO_n, ↓eO_s, ↓eB_1, ↓eB_c, ↓q_n, ↓q_1, ↓q_c, ↓z_set, ↓z_unp, ↓z_ex, ↓z_ret, ↓z_retN, ↓z_ife, ↓z_for, ↓z_whil, ↓z_brk, ↓z_cnt, ↓z_pas, ↓z_rais, ↓z_mvs, ↓z_tr, ↓h_n, ↓h_c, ↓k2_, ↓j_op2_, ↓j_rep_, ↓j_neg_, ↓j_cmp_, ↓j_ch2_, ↓j_ch3_, ↓j_nt_, ↓j_tup_, ↓j_lst_, ↓j_ix_, ↓j_sl_, ↓j_sl2_, ↓j_sl3_, ↓j_mth_, ↓j_mth2_, ↓j_bi_, ↓j_bm_, ↓j_bm2_, ↓j_isi_, ↓j_lok_, ↓j_comp_, ↓j_rng_, ↓j_zip_, ↓j_rev_, ↓j_cons_, ↓k_es_, ↓z_setK_, ↓z_unpK_, ↓z_exK_, ↓z_forK_, ↓k_mu_, ↓z_mu0, ↓z_mu1, ↓z_mu2, ↓z_mu3, ↓z_mu4, ↓z_mu5, ↓z_mu6, ↓z_mu7, ↓z_mu8, ↓z_mu9, ↓z_mu10, ↓z_mu11, ↓z_mu12, ↓z_mu13, ↓z_mu14, ↓z_mu15, ↓z_mu16, ↓z_mu17, ↓z_mu18, ↓z_mu19, ↓z_mu20, ↓z_mu21, ↓z_mu22, ↓z_mu23, ↓z_mu24, ↓z_mu25, ↓z_mu26, ↓z_mu27, ↓z_mu28, ↓z_mu29, ty_int_int, ty_int_bool, ty_int_str, ty_int_list, ty_int_tuple, ty_int_dict, ty_bool_int, ty_bool_bool, ty_bool_str, ty_bool_list, ty_bool_tuple, ty_bool_dict, ty_str_int, ty_str_bool, ty_str_str, ty_str_list, ty_str_tuple, ty_str_dict, ty_list_int, ty_list_bool, ty_list_str, ty_list_list, ty_list_tuple, ty_list_dict, ty_tuple_int, ty_tuple_bool, ty_tuple_str, ty_tuple_list, ty_tuple_tuple, ty_tuple_dict, ty_dict_int, ty_dict_bool, ty_dict_str, ty_dict_list, ty_dict_tuple, ty_dict_dict, st_0, st_1, st_2, st_3, st_4, st_5, st_6, st_7, st_8, st_9, st_10, st_11, st_12, st_13, st_14, st_15, st_16, st_17, st_18, st_19, st_20, st_21, st_22, st_23, st_24, st_25, st_26, st_27, st_28, st_29, b_ok, b_exn, t_ok, t_exn, of_some, sq_nx, sq_ret, sq_exn, sq_brk, sq_cnt, obl_some, ob_ret, ob_nx, ob_exn, j_rep2_, j_ife_, z_ifeK_, chV_b, szt_t, compV_some, cpR_ok, cB_one, cB_many, cB_cd1, cdX_ok, lstO_some, zipV_l, revV_l, intO_i, bB_tt, bB_tf, bB_ft, bB_ff, bB_t, bB_f, unpV_t, nxO_s, forV_s, fB_one, fB_many, bm_n, bm_c, mvR_nx, mvR_ret, mvR_exn, dE_n, dE_c, trR_nx, trR_ret, trR_exn, caR_t, caR_f, unAs_nx, unAs_ret, aS_s, aS_n, muO_s, muK_t, ma_app, ma_ext, ma_clr, ma_rev, ma_set, md_app, md_ext, md_clr, md_rev, md_set, cn_i, cn_b, cn_n, cn_s, forL_n, compL_n, j_fld_, at_5, at_6, at_7, at_8, at_9, at_10, at_11, is_bb, bbtt, bbtf, bbft, bbff, beq_self_eq_true, mulOk_small, mulOk_small2, Bool.or_true, Bool.or_false, Bool.true_or, Bool.false_or, Bool.and_true, Bool.true_and, startE, eqV_int, eqV_str, op_add, op_sub, op_mul, op_fdiv, op_fdivN, op_mod, op_pow, op_addS, op_addL, de_non, de_bl, de_int, de_str, de_tup, de_lst, de_exc, de_scr, de_obj, cp_lt, cp_le, cp_gt, cp_ge, cp_eq, cp_ne, cp_isn, cp_isnt, cp_in, cp_nin, no_some, is_non, nb_non, nb_int, nb_bl, nb_tup, nb_lst, nb_str, eq_nn, eq_ni, eq_in, eq_bb, ix_lst, ix_tup, ix_scr, at_0, at_1, at_2, at_3, at_4, bi_lenL, bi_lenT, bi_lenC, bi_abs, bi_min2, bi_max2, bi_listL, bi_listT, ty_int, ty_bl, ty_non, ty_str, ty_lst, ty_tup, ty_exV, it_lst, it_tup, mu_app, mu_ext, mt_app, mt_ext, mt_clr, mt_rev, mt_set, mu_clr, mu_rev, List.map_cons, List.map_nil, List.length_cons, List.length_nil, List.cons_append, List.nil_append, List.replicate, Nat.reduceSub, Nat.reduceAdd, ↓reduceIte, if_true, if_false, Bool.false_eq_true, decide_eq_true_eq, decide_true, decide_false, Bool.not_true, Bool.not_false, reduceCtorEq, ite_true, ite_false, Int.reduceLT, Int.reduceLE, Int.reducePow, Int.reduceMul, Int.reduceAdd, Int.reduceSub, Int.reduceToNat, Nat.reduceLT, Nat.reducePow, and_self, and_true, true_and, Int.reduceNeg, Int.reduceEq, szb1, szb2, szb3, szb0, szb4, szb5, szb6, szb7, szb8, szb9, szb10, szb11, szb12, szb13, szb14, szb15, szb16, szb17, szb18, szb19, szb20, szb21, szb22, szb23, szb24, szb25, szb26, szb27, szb28, szb29, szb30, szb31, szb32, szb33, szb34, szb35, szb36, szb37, szb38, szb39, encO, oV_s, oV_n, de_oV, h]
  rw [q_split 2, show startE F_meet.names.length [encO (a, b), encO (c, d)] = [some (encO (a, b)), some (encO (c, d)), none, none] from rfl, s1, sq_nx, q_split 2, s2]
  unfold meetV
  cases hl : lmax a c with
  | none => cases hh : hmin b d <;> simp (decide := true) only [F_meet, List.drop, ↓e_v0, ↓e_v1, ↓e_v2, ↓e_v3, ↓e_v4, ↓e_v5, ↓e_v6, ↓e_v7, ↓e_v8, ↓e_v9, ↓e_v10, ↓e_v11, ↓e_v12, ↓e_v13, ↓e_v14, ↓e_v15, ↓e_v16, ↓e_v17, ↓e_v18, ↓e_v19, ↓e_v20, ↓e_v21, ↓e_v22, ↓e_v23, ↓e_v24, ↓e_v25, ↓e_v26, ↓e_v27, ↓e_v28, ↓e_v29, ↓e_k, ↓e_gl, ↓e_op2, ↓e_rep, ↓e_neg, ↓e_cmp, ↓e_ch, ↓e_bop, ↓e_nt, ↓e_ife, ↓e_tup, ↓e_lst, ↓e_ix, ↓e_sl, ↓e_fld, ↓e_call, ↓e_mk, ↓e_mth, ↓e_bi, ↓e_bm, ↓e_sortk, ↓e_isi, ↓e_comp, ↓e_d0, ↓e_rng, ↓e_zip, ↓e_rev, ↓es_n, ↓es_c, ↓eO_n, ↓eO_s, ↓eB_1, ↓eB_c, ↓q_n, ↓q_1, ↓q_c, ↓z_set, ↓z_unp, ↓z_ex, ↓z_ret, ↓z_retN, ↓z_ife, ↓z_for, ↓z_whil, ↓z_brk, ↓z_cnt, ↓z_pas, ↓z_rais, ↓z_mvs, ↓z_tr, ↓h_n, ↓h_c, ↓k2_, ↓j_op2_, ↓j_rep_, ↓j_neg_, ↓j_cmp_, ↓j_ch2_, ↓j_ch3_, ↓j_nt_, ↓j_tup_, ↓j_lst_, ↓j_ix_, ↓j_sl_, ↓j_sl2_, ↓j_sl3_, ↓j_mth_, ↓j_mth2_, ↓j_bi_, ↓j_bm_, ↓j_bm2_, ↓j_isi_, ↓j_lok_, ↓j_comp_, ↓j_rng_, ↓j_zip_, ↓j_rev_, ↓j_cons_, ↓k_es_, ↓z_setK_, ↓z_unpK_, ↓z_exK_, ↓z_forK_, ↓k_mu_, ↓z_mu0, ↓z_mu1, ↓z_mu2, ↓z_mu3, ↓z_mu4, ↓z_mu5, ↓z_mu6, ↓z_mu7, ↓z_mu8, ↓z_mu9, ↓z_mu10, ↓z_mu11, ↓z_mu12, ↓z_mu13, ↓z_mu14, ↓z_mu15, ↓z_mu16, ↓z_mu17, ↓z_mu18, ↓z_mu19, ↓z_mu20, ↓z_mu21, ↓z_mu22, ↓z_mu23, ↓z_mu24, ↓z_mu25, ↓z_mu26, ↓z_mu27, ↓z_mu28, ↓z_mu29, ty_int_int, ty_int_bool, ty_int_str, ty_int_list, ty_int_tuple, ty_int_dict, ty_bool_int, ty_bool_bool, ty_bool_str, ty_bool_list, ty_bool_tuple, ty_bool_dict, ty_str_int, ty_str_bool, ty_str_str, ty_str_list, ty_str_tuple, ty_str_dict, ty_list_int, ty_list_bool, ty_list_str, ty_list_list, ty_list_tuple, ty_list_dict, ty_tuple_int, ty_tuple_bool, ty_tuple_str, ty_tuple_list, ty_tuple_tuple, ty_tuple_dict, ty_dict_int, ty_dict_bool, ty_dict_str, ty_dict_list, ty_dict_tuple, ty_dict_dict, st_0, st_1, st_2, st_3, st_4, st_5, st_6, st_7, st_8, st_9, st_10, st_11, st_12, st_13, st_14, st_15, st_16, st_17, st_18, st_19, st_20, st_21, st_22, st_23, st_24, st_25, st_26, st_27, st_28, st_29, b_ok, b_exn, t_ok, t_exn, of_some, sq_nx, sq_ret, sq_exn, sq_brk, sq_cnt, obl_some, ob_ret, ob_nx, ob_exn, j_rep2_, j_ife_, z_ifeK_, chV_b, szt_t, compV_some, cpR_ok, cB_one, cB_many, cB_cd1, cdX_ok, lstO_some, zipV_l, revV_l, intO_i, bB_tt, bB_tf, bB_ft, bB_ff, bB_t, bB_f, unpV_t, nxO_s, forV_s, fB_one, fB_many, bm_n, bm_c, mvR_nx, mvR_ret, mvR_exn, dE_n, dE_c, trR_nx, trR_ret, trR_exn, caR_t, caR_f, unAs_nx, unAs_ret, aS_s, aS_n, muO_s, muK_t, ma_app, ma_ext, ma_clr, ma_rev, ma_set, md_app, md_ext, md_clr, md_rev, md_set, cn_i, cn_b, cn_n, cn_s, forL_n, compL_n, j_fld_, at_5, at_6, at_7, at_8, at_9, at_10, at_11, is_bb, bbtt, bbtf, bbft, bbff, beq_self_eq_true, mulOk_small, mulOk_small2, Bool.or_true, Bool.or_false, Bool.true_or, Bool.false_or, Bool.and_true, Bool.true_and, startE, eqV_int, eqV_str, op_add, op_sub, op_mul, op_fdiv, op_fdivN, op_mod, op_pow, op_addS, op_addL, de_non, de_bl, de_int, de_str, de_tup, de_lst, de_exc, de_scr, de_obj, cp_lt, cp_le, cp_gt, cp_ge, cp_eq, cp_ne, cp_isn, cp_isnt, cp_in, cp_nin, no_some, is_non, nb_non, nb_int, nb_bl, nb_tup, nb_lst, nb_str, eq_nn, eq_ni, eq_in, eq_bb, ix_lst, ix_tup, ix_scr, at_0, at_1, at_2, at_3, at_4, bi_lenL, bi_lenT, bi_lenC, bi_abs, bi_min2, bi_max2, bi_listL, bi_listT, ty_int, ty_bl, ty_non, ty_str, ty_lst, ty_tup, ty_exV, it_lst, it_tup, mu_app, mu_ext, mt_app, mt_ext, mt_clr, mt_rev, mt_set, mu_clr, mu_rev, List.map_cons, List.map_nil, List.length_cons, List.length_nil, List.cons_append, List.nil_append, List.replicate, Nat.reduceSub, Nat.reduceAdd, ↓reduceIte, if_true, if_false, Bool.false_eq_true, decide_eq_true_eq, decide_true, decide_false, Bool.not_true, Bool.not_false, reduceCtorEq, ite_true, ite_false, Int.reduceLT, Int.reduceLE, Int.reducePow, Int.reduceMul, Int.reduceAdd, Int.reduceSub, Int.reduceToNat, Nat.reduceLT, Nat.reducePow, and_self, and_true, true_and, Int.reduceNeg, Int.reduceEq, szb1, szb2, szb3, szb0, szb4, szb5, szb6, szb7, szb8, szb9, szb10, szb11, szb12, szb13, szb14, szb15, szb16, szb17, szb18, szb19, szb20, szb21, szb22, szb23, szb24, szb25, szb26, szb27, szb28, szb29, szb30, szb31, szb32, szb33, szb34, szb35, szb36, szb37, szb38, szb39, encO, oV_s, oV_n, overB, hl, hh]
  | some x =>
    cases hh : hmin b d with
    | none => simp (decide := true) only [F_meet, List.drop, ↓e_v0, ↓e_v1, ↓e_v2, ↓e_v3, ↓e_v4, ↓e_v5, ↓e_v6, ↓e_v7, ↓e_v8, ↓e_v9, ↓e_v10, ↓e_v11, ↓e_v12, ↓e_v13, ↓e_v14, ↓e_v15, ↓e_v16, ↓e_v17, ↓e_v18, ↓e_v19, ↓e_v20, ↓e_v21, ↓e_v22, ↓e_v23, ↓e_v24, ↓e_v25, ↓e_v26, ↓e_v27, ↓e_v28, ↓e_v29, ↓e_k, ↓e_gl, ↓e_op2, ↓e_rep, ↓e_neg, ↓e_cmp, ↓e_ch, ↓e_bop, ↓e_nt, ↓e_ife, ↓e_tup, ↓e_lst, ↓e_ix, ↓e_sl, ↓e_fld, ↓e_call, ↓e_mk, ↓e_mth, ↓e_bi, ↓e_bm, ↓e_sortk, ↓e_isi, ↓e_comp, ↓e_d0, ↓e_rng, ↓e_zip, ↓e_rev, ↓es_n, ↓es_c, ↓eO_n, ↓eO_s, ↓eB_1, ↓eB_c, ↓q_n, ↓q_1, ↓q_c, ↓z_set, ↓z_unp, ↓z_ex, ↓z_ret, ↓z_retN, ↓z_ife, ↓z_for, ↓z_whil, ↓z_brk, ↓z_cnt, ↓z_pas, ↓z_rais, ↓z_mvs, ↓z_tr, ↓h_n, ↓h_c, ↓k2_, ↓j_op2_, ↓j_rep_, ↓j_neg_, ↓j_cmp_, ↓j_ch2_, ↓j_ch3_, ↓j_nt_, ↓j_tup_, ↓j_lst_, ↓j_ix_, ↓j_sl_, ↓j_sl2_, ↓j_sl3_, ↓j_mth_, ↓j_mth2_, ↓j_bi_, ↓j_bm_, ↓j_bm2_, ↓j_isi_, ↓j_lok_, ↓j_comp_, ↓j_rng_, ↓j_zip_, ↓j_rev_, ↓j_cons_, ↓k_es_, ↓z_setK_, ↓z_unpK_, ↓z_exK_, ↓z_forK_, ↓k_mu_, ↓z_mu0, ↓z_mu1, ↓z_mu2, ↓z_mu3, ↓z_mu4, ↓z_mu5, ↓z_mu6, ↓z_mu7, ↓z_mu8, ↓z_mu9, ↓z_mu10, ↓z_mu11, ↓z_mu12, ↓z_mu13, ↓z_mu14, ↓z_mu15, ↓z_mu16, ↓z_mu17, ↓z_mu18, ↓z_mu19, ↓z_mu20, ↓z_mu21, ↓z_mu22, ↓z_mu23, ↓z_mu24, ↓z_mu25, ↓z_mu26, ↓z_mu27, ↓z_mu28, ↓z_mu29, ty_int_int, ty_int_bool, ty_int_str, ty_int_list, ty_int_tuple, ty_int_dict, ty_bool_int, ty_bool_bool, ty_bool_str, ty_bool_list, ty_bool_tuple, ty_bool_dict, ty_str_int, ty_str_bool, ty_str_str, ty_str_list, ty_str_tuple, ty_str_dict, ty_list_int, ty_list_bool, ty_list_str, ty_list_list, ty_list_tuple, ty_list_dict, ty_tuple_int, ty_tuple_bool, ty_tuple_str, ty_tuple_list, ty_tuple_tuple, ty_tuple_dict, ty_dict_int, ty_dict_bool, ty_dict_str, ty_dict_list, ty_dict_tuple, ty_dict_dict, st_0, st_1, st_2, st_3, st_4, st_5, st_6, st_7, st_8, st_9, st_10, st_11, st_12, st_13, st_14, st_15, st_16, st_17, st_18, st_19, st_20, st_21, st_22, st_23, st_24, st_25, st_26, st_27, st_28, st_29, b_ok, b_exn, t_ok, t_exn, of_some, sq_nx, sq_ret, sq_exn, sq_brk, sq_cnt, obl_some, ob_ret, ob_nx, ob_exn, j_rep2_, j_ife_, z_ifeK_, chV_b, szt_t, compV_some, cpR_ok, cB_one, cB_many, cB_cd1, cdX_ok, lstO_some, zipV_l, revV_l, intO_i, bB_tt, bB_tf, bB_ft, bB_ff, bB_t, bB_f, unpV_t, nxO_s, forV_s, fB_one, fB_many, bm_n, bm_c, mvR_nx, mvR_ret, mvR_exn, dE_n, dE_c, trR_nx, trR_ret, trR_exn, caR_t, caR_f, unAs_nx, unAs_ret, aS_s, aS_n, muO_s, muK_t, ma_app, ma_ext, ma_clr, ma_rev, ma_set, md_app, md_ext, md_clr, md_rev, md_set, cn_i, cn_b, cn_n, cn_s, forL_n, compL_n, j_fld_, at_5, at_6, at_7, at_8, at_9, at_10, at_11, is_bb, bbtt, bbtf, bbft, bbff, beq_self_eq_true, mulOk_small, mulOk_small2, Bool.or_true, Bool.or_false, Bool.true_or, Bool.false_or, Bool.and_true, Bool.true_and, startE, eqV_int, eqV_str, op_add, op_sub, op_mul, op_fdiv, op_fdivN, op_mod, op_pow, op_addS, op_addL, de_non, de_bl, de_int, de_str, de_tup, de_lst, de_exc, de_scr, de_obj, cp_lt, cp_le, cp_gt, cp_ge, cp_eq, cp_ne, cp_isn, cp_isnt, cp_in, cp_nin, no_some, is_non, nb_non, nb_int, nb_bl, nb_tup, nb_lst, nb_str, eq_nn, eq_ni, eq_in, eq_bb, ix_lst, ix_tup, ix_scr, at_0, at_1, at_2, at_3, at_4, bi_lenL, bi_lenT, bi_lenC, bi_abs, bi_min2, bi_max2, bi_listL, bi_listT, ty_int, ty_bl, ty_non, ty_str, ty_lst, ty_tup, ty_exV, it_lst, it_tup, mu_app, mu_ext, mt_app, mt_ext, mt_clr, mt_rev, mt_set, mu_clr, mu_rev, List.map_cons, List.map_nil, List.length_cons, List.length_nil, List.cons_append, List.nil_append, List.replicate, Nat.reduceSub, Nat.reduceAdd, ↓reduceIte, if_true, if_false, Bool.false_eq_true, decide_eq_true_eq, decide_true, decide_false, Bool.not_true, Bool.not_false, reduceCtorEq, ite_true, ite_false, Int.reduceLT, Int.reduceLE, Int.reducePow, Int.reduceMul, Int.reduceAdd, Int.reduceSub, Int.reduceToNat, Nat.reduceLT, Nat.reducePow, and_self, and_true, true_and, Int.reduceNeg, Int.reduceEq, szb1, szb2, szb3, szb0, szb4, szb5, szb6, szb7, szb8, szb9, szb10, szb11, szb12, szb13, szb14, szb15, szb16, szb17, szb18, szb19, szb20, szb21, szb22, szb23, szb24, szb25, szb26, szb27, szb28, szb29, szb30, szb31, szb32, szb33, szb34, szb35, szb36, szb37, szb38, szb39, encO, oV_s, oV_n, overB, hl, hh]
    | some y =>
      by_cases h : y < x
      · simp (decide := true) only [F_meet, List.drop, ↓e_v0, ↓e_v1, ↓e_v2, ↓e_v3, ↓e_v4, ↓e_v5, ↓e_v6, ↓e_v7, ↓e_v8, ↓e_v9, ↓e_v10, ↓e_v11, ↓e_v12, ↓e_v13, ↓e_v14, ↓e_v15, ↓e_v16, ↓e_v17, ↓e_v18, ↓e_v19, ↓e_v20, ↓e_v21, ↓e_v22, ↓e_v23, ↓e_v24, ↓e_v25, ↓e_v26, ↓e_v27, ↓e_v28, ↓e_v29, ↓e_k, ↓e_gl, ↓e_op2, ↓e_rep, ↓e_neg, ↓e_cmp, ↓e_ch, ↓e_bop, ↓e_nt, ↓e_ife, ↓e_tup, ↓e_lst, ↓e_ix, ↓e_sl, ↓e_fld, ↓e_call, ↓e_mk, ↓e_mth, ↓e_bi, ↓e_bm, ↓e_sortk, ↓e_isi, ↓e_comp, ↓e_d0, ↓e_rng, ↓e_zip, ↓e_rev, ↓es_n, ↓es_c, ↓eO_n, ↓eO_s, ↓eB_1, ↓eB_c, ↓q_n, ↓q_1, ↓q_c, ↓z_set, ↓z_unp, ↓z_ex, ↓z_ret, ↓z_retN, ↓z_ife, ↓z_for, ↓z_whil, ↓z_brk, ↓z_cnt, ↓z_pas, ↓z_rais, ↓z_mvs, ↓z_tr, ↓h_n, ↓h_c, ↓k2_, ↓j_op2_, ↓j_rep_, ↓j_neg_, ↓j_cmp_, ↓j_ch2_, ↓j_ch3_, ↓j_nt_, ↓j_tup_, ↓j_lst_, ↓j_ix_, ↓j_sl_, ↓j_sl2_, ↓j_sl3_, ↓j_mth_, ↓j_mth2_, ↓j_bi_, ↓j_bm_, ↓j_bm2_, ↓j_isi_, ↓j_lok_, ↓j_comp_, ↓j_rng_, ↓j_zip_, ↓j_rev_, ↓j_cons_, ↓k_es_, ↓z_setK_, ↓z_unpK_, ↓z_exK_, ↓z_forK_, ↓k_mu_, ↓z_mu0, ↓z_mu1, ↓z_mu2, ↓z_mu3, ↓z_mu4, ↓z_mu5, ↓z_mu6, ↓z_mu7, ↓z_mu8, ↓z_mu9, ↓z_mu10, ↓z_mu11, ↓z_mu12, ↓z_mu13, ↓z_mu14, ↓z_mu15, ↓z_mu16, ↓z_mu17, ↓z_mu18, ↓z_mu19, ↓z_mu20, ↓z_mu21, ↓z_mu22, ↓z_mu23, ↓z_mu24, ↓z_mu25, ↓z_mu26, ↓z_mu27, ↓z_mu28, ↓z_mu29, ty_int_int, ty_int_bool, ty_int_str, ty_int_list, ty_int_tuple, ty_int_dict, ty_bool_int, ty_bool_bool, ty_bool_str, ty_bool_list, ty_bool_tuple, ty_bool_dict, ty_str_int, ty_str_bool, ty_str_str, ty_str_list, ty_str_tuple, ty_str_dict, ty_list_int, ty_list_bool, ty_list_str, ty_list_list, ty_list_tuple, ty_list_dict, ty_tuple_int, ty_tuple_bool, ty_tuple_str, ty_tuple_list, ty_tuple_tuple, ty_tuple_dict, ty_dict_int, ty_dict_bool, ty_dict_str, ty_dict_list, ty_dict_tuple, ty_dict_dict, st_0, st_1, st_2, st_3, st_4, st_5, st_6, st_7, st_8, st_9, st_10, st_11, st_12, st_13, st_14, st_15, st_16, st_17, st_18, st_19, st_20, st_21, st_22, st_23, st_24, st_25, st_26, st_27, st_28, st_29, b_ok, b_exn, t_ok, t_exn, of_some, sq_nx, sq_ret, sq_exn, sq_brk, sq_cnt, obl_some, ob_ret, ob_nx, ob_exn, j_rep2_, j_ife_, z_ifeK_, chV_b, szt_t, compV_some, cpR_ok, cB_one, cB_many, cB_cd1, cdX_ok, lstO_some, zipV_l, revV_l, intO_i, bB_tt, bB_tf, bB_ft, bB_ff, bB_t, bB_f, unpV_t, nxO_s, forV_s, fB_one, fB_many, bm_n, bm_c, mvR_nx, mvR_ret, mvR_exn, dE_n, dE_c, trR_nx, trR_ret, trR_exn, caR_t, caR_f, unAs_nx, unAs_ret, aS_s, aS_n, muO_s, muK_t, ma_app, ma_ext, ma_clr, ma_rev, ma_set, md_app, md_ext, md_clr, md_rev, md_set, cn_i, cn_b, cn_n, cn_s, forL_n, compL_n, j_fld_, at_5, at_6, at_7, at_8, at_9, at_10, at_11, is_bb, bbtt, bbtf, bbft, bbff, beq_self_eq_true, mulOk_small, mulOk_small2, Bool.or_true, Bool.or_false, Bool.true_or, Bool.false_or, Bool.and_true, Bool.true_and, startE, eqV_int, eqV_str, op_add, op_sub, op_mul, op_fdiv, op_fdivN, op_mod, op_pow, op_addS, op_addL, de_non, de_bl, de_int, de_str, de_tup, de_lst, de_exc, de_scr, de_obj, cp_lt, cp_le, cp_gt, cp_ge, cp_eq, cp_ne, cp_isn, cp_isnt, cp_in, cp_nin, no_some, is_non, nb_non, nb_int, nb_bl, nb_tup, nb_lst, nb_str, eq_nn, eq_ni, eq_in, eq_bb, ix_lst, ix_tup, ix_scr, at_0, at_1, at_2, at_3, at_4, bi_lenL, bi_lenT, bi_lenC, bi_abs, bi_min2, bi_max2, bi_listL, bi_listT, ty_int, ty_bl, ty_non, ty_str, ty_lst, ty_tup, ty_exV, it_lst, it_tup, mu_app, mu_ext, mt_app, mt_ext, mt_clr, mt_rev, mt_set, mu_clr, mu_rev, List.map_cons, List.map_nil, List.length_cons, List.length_nil, List.cons_append, List.nil_append, List.replicate, Nat.reduceSub, Nat.reduceAdd, ↓reduceIte, if_true, if_false, Bool.false_eq_true, decide_eq_true_eq, decide_true, decide_false, Bool.not_true, Bool.not_false, reduceCtorEq, ite_true, ite_false, Int.reduceLT, Int.reduceLE, Int.reducePow, Int.reduceMul, Int.reduceAdd, Int.reduceSub, Int.reduceToNat, Nat.reduceLT, Nat.reducePow, and_self, and_true, true_and, Int.reduceNeg, Int.reduceEq, szb1, szb2, szb3, szb0, szb4, szb5, szb6, szb7, szb8, szb9, szb10, szb11, szb12, szb13, szb14, szb15, szb16, szb17, szb18, szb19, szb20, szb21, szb22, szb23, szb24, szb25, szb26, szb27, szb28, szb29, szb30, szb31, szb32, szb33, szb34, szb35, szb36, szb37, szb38, szb39, encO, oV_s, oV_n, overB, hl, hh, h]
      · simp (decide := true) only [F_meet, List.drop, ↓e_v0, ↓e_v1, ↓e_v2, ↓e_v3, ↓e_v4, ↓e_v5, ↓e_v6, ↓e_v7, ↓e_v8, ↓e_v9, ↓e_v10, ↓e_v11, ↓e_v12, ↓e_v13, ↓e_v14, ↓e_v15, ↓e_v16, ↓e_v17, ↓e_v18, ↓e_v19, ↓e_v20, ↓e_v21, ↓e_v22, ↓e_v23, ↓e_v24, ↓e_v25, ↓e_v26, ↓e_v27, ↓e_v28, ↓e_v29, ↓e_k, ↓e_gl, ↓e_op2, ↓e_rep, ↓e_neg, ↓e_cmp, ↓e_ch, ↓e_bop, ↓e_nt, ↓e_ife, ↓e_tup, ↓e_lst, ↓e_ix, ↓e_sl, ↓e_fld, ↓e_call, ↓e_mk, ↓e_mth, ↓e_bi, ↓e_bm, ↓e_sortk, ↓e_isi, ↓e_comp, ↓e_d0, ↓e_rng, ↓e_zip, ↓e_rev, ↓es_n, ↓es_c, ↓eO_n, ↓eO_s, ↓eB_1, ↓eB_c, ↓q_n, ↓q_1, ↓q_c, ↓z_set, ↓z_unp, ↓z_ex, ↓z_ret, ↓z_retN, ↓z_ife, ↓z_for, ↓z_whil, ↓z_brk, ↓z_cnt, ↓z_pas, ↓z_rais, ↓z_mvs, ↓z_tr, ↓h_n, ↓h_c, ↓k2_, ↓j_op2_, ↓j_rep_, ↓j_neg_, ↓j_cmp_, ↓j_ch2_, ↓j_ch3_, ↓j_nt_, ↓j_tup_, ↓j_lst_, ↓j_ix_, ↓j_sl_, ↓j_sl2_, ↓j_sl3_, ↓j_mth_, ↓j_mth2_, ↓j_bi_, ↓j_bm_, ↓j_bm2_, ↓j_isi_, ↓j_lok_, ↓j_comp_, ↓j_rng_, ↓j_zip_, ↓j_rev_, ↓j_cons_, ↓k_es_, ↓z_setK_, ↓z_unpK_, ↓z_exK_, ↓z_forK_, ↓k_mu_, ↓z_mu0, ↓z_mu1, ↓z_mu2, ↓z_mu3, ↓z_mu4, ↓z_mu5, ↓z_mu6, ↓z_mu7, ↓z_mu8, ↓z_mu9, ↓z_mu10, ↓z_mu11, ↓z_mu12, ↓z_mu13, ↓z_mu14, ↓z_mu15, ↓z_mu16, ↓z_mu17, ↓z_mu18, ↓z_mu19, ↓z_mu20, ↓z_mu21, ↓z_mu22, ↓z_mu23, ↓z_mu24, ↓z_mu25, ↓z_mu26, ↓z_mu27, ↓z_mu28, ↓z_mu29, ty_int_int, ty_int_bool, ty_int_str, ty_int_list, ty_int_tuple, ty_int_dict, ty_bool_int, ty_bool_bool, ty_bool_str, ty_bool_list, ty_bool_tuple, ty_bool_dict, ty_str_int, ty_str_bool, ty_str_str, ty_str_list, ty_str_tuple, ty_str_dict, ty_list_int, ty_list_bool, ty_list_str, ty_list_list, ty_list_tuple, ty_list_dict, ty_tuple_int, ty_tuple_bool, ty_tuple_str, ty_tuple_list, ty_tuple_tuple, ty_tuple_dict, ty_dict_int, ty_dict_bool, ty_dict_str, ty_dict_list, ty_dict_tuple, ty_dict_dict, st_0, st_1, st_2, st_3, st_4, st_5, st_6, st_7, st_8, st_9, st_10, st_11, st_12, st_13, st_14, st_15, st_16, st_17, st_18, st_19, st_20, st_21, st_22, st_23, st_24, st_25, st_26, st_27, st_28, st_29, b_ok, b_exn, t_ok, t_exn, of_some, sq_nx, sq_ret, sq_exn, sq_brk, sq_cnt, obl_some, ob_ret, ob_nx, ob_exn, j_rep2_, j_ife_, z_ifeK_, chV_b, szt_t, compV_some, cpR_ok, cB_one, cB_many, cB_cd1, cdX_ok, lstO_some, zipV_l, revV_l, intO_i, bB_tt, bB_tf, bB_ft, bB_ff, bB_t, bB_f, unpV_t, nxO_s, forV_s, fB_one, fB_many, bm_n, bm_c, mvR_nx, mvR_ret, mvR_exn, dE_n, dE_c, trR_nx, trR_ret, trR_exn, caR_t, caR_f, unAs_nx, unAs_ret, aS_s, aS_n, muO_s, muK_t, ma_app, ma_ext, ma_clr, ma_rev, ma_set, md_app, md_ext, md_clr, md_rev, md_set, cn_i, cn_b, cn_n, cn_s, forL_n, compL_n, j_fld_, at_5, at_6, at_7, at_8, at_9, at_10, at_11, is_bb, bbtt, bbtf, bbft, bbff, beq_self_eq_true, mulOk_small, mulOk_small2, Bool.or_true, Bool.or_false, Bool.true_or, Bool.false_or, Bool.and_true, Bool.true_and, startE, eqV_int, eqV_str, op_add, op_sub, op_mul, op_fdiv, op_fdivN, op_mod, op_pow, op_addS, op_addL, de_non, de_bl, de_int, de_str, de_tup, de_lst, de_exc, de_scr, de_obj, cp_lt, cp_le, cp_gt, cp_ge, cp_eq, cp_ne, cp_isn, cp_isnt, cp_in, cp_nin, no_some, is_non, nb_non, nb_int, nb_bl, nb_tup, nb_lst, nb_str, eq_nn, eq_ni, eq_in, eq_bb, ix_lst, ix_tup, ix_scr, at_0, at_1, at_2, at_3, at_4, bi_lenL, bi_lenT, bi_lenC, bi_abs, bi_min2, bi_max2, bi_listL, bi_listT, ty_int, ty_bl, ty_non, ty_str, ty_lst, ty_tup, ty_exV, it_lst, it_tup, mu_app, mu_ext, mt_app, mt_ext, mt_clr, mt_rev, mt_set, mu_clr, mu_rev, List.map_cons, List.map_nil, List.length_cons, List.length_nil, List.cons_append, List.nil_append, List.replicate, Nat.reduceSub, Nat.reduceAdd, ↓reduceIte, if_true, if_false, Bool.false_eq_true, decide_eq_true_eq, decide_true, decide_false, Bool.not_true, Bool.not_false, reduceCtorEq, ite_true, ite_false, Int.reduceLT, Int.reduceLE, Int.reducePow, Int.reduceMul, Int.reduceAdd, Int.reduceSub, Int.reduceToNat, Nat.reduceLT, Nat.reducePow, and_self, and_true, true_and, Int.reduceNeg, Int.reduceEq, szb1, szb2, szb3, szb0, szb4, szb5, szb6, szb7, szb8, szb9, szb10, szb11, szb12, szb13, szb14, szb15, szb16, szb17, szb18, szb19, szb20, szb21, szb22, szb23, szb24, szb25, szb26, szb27, szb28, szb29, szb30, szb31, szb32, szb33, szb34, szb35, szb36, szb37, szb38, szb39, encO, oV_s, oV_n, overB, hl, hh, h]
/-! ### what both hold, by lists -/
def fl (a c : Option Int) : List Int := a.toList ++ c.toList
theorem fl_n {a c : Option Int} (h : lmax a c = none) : fl a c = [] := by
  cases a <;> cases c <;> simp only [lmax, reduceCtorEq] at h <;> rfl
theorem fh_n {a c : Option Int} (h : hmin a c = none) : fl a c = [] := by
  cases a <;> cases c <;> simp only [hmin, reduceCtorEq] at h <;> rfl
theorem fl_s {a c : Option Int} {l : Int} (h : lmax a c = some l) : 0 < (((fl a c).map Val.int).length : Int) ∧ biV .max1 [.lst ((fl a c).map .int)] = some (.int l) := by
  cases a <;> cases c <;> simp only [lmax, reduceCtorEq, Option.some.injEq] at h <;> subst h <;> exact ⟨by simp [fl], rfl⟩
theorem fh_s {a c : Option Int} {l : Int} (h : hmin a c = some l) : 0 < (((fl a c).map Val.int).length : Int) ∧ biV .min1 [.lst ((fl a c).map .int)] = some (.int l) := by
  cases a <;> cases c <;> simp only [hmin, reduceCtorEq, Option.some.injEq] at h <;> subst h <;> exact ⟨by simp [fl], rfl⟩
theorem fl_D (a c : Option Int) : biV .maxD [.lst ((fl a c).map .int)] = some (oV (lmax a c)) := by cases a <;> cases c <;> rfl
theorem fh_D (a c : Option Int) : biV .minD [.lst ((fl a c).map .int)] = some (oV (hmin a c)) := by cases a <;> cases c <;> rfl
theorem comp_two {x : Cfg} {a c : Option Int} {v0 v1 v2 v3 v4 : Option Val} : compL (cmpB x (.v 4) (.one 4) (some (.cmp .isnt (.v 4) (.k .non))) [v0, v1, v2, v3, v4]) [oV a, oV c] S = .ok ((fl a c).map .int) S := by
  cases a <;> cases c <;> simp (decide := true) only [compL, ↓e_v0, ↓e_v1, ↓e_v2, ↓e_v3, ↓e_v4, ↓e_v5, ↓e_v6, ↓e_v7, ↓e_v8, ↓e_v9, ↓e_v10, ↓e_v11, ↓e_v12, ↓e_v13, ↓e_v14, ↓e_v15, ↓e_v16, ↓e_v17, ↓e_v18, ↓e_v19, ↓e_v20, ↓e_v21, ↓e_v22, ↓e_v23, ↓e_v24, ↓e_v25, ↓e_v26, ↓e_v27, ↓e_v28, ↓e_v29, ↓e_k, ↓e_gl, ↓e_op2, ↓e_rep, ↓e_neg, ↓e_cmp, ↓e_ch, ↓e_bop, ↓e_nt, ↓e_ife, ↓e_tup, ↓e_lst, ↓e_ix, ↓e_sl, ↓e_fld, ↓e_call, ↓e_mk, ↓e_mth, ↓e_bi, ↓e_bm, ↓e_sortk, ↓e_isi, ↓e_comp, ↓e_d0, ↓e_rng, ↓e_zip, ↓e_rev, ↓es_n, ↓es_c, ↓eO_n, ↓eO_s, ↓eB_1, ↓eB_c, ↓q_n, ↓q_1, ↓q_c, ↓z_set, ↓z_unp, ↓z_ex, ↓z_ret, ↓z_retN, ↓z_ife, ↓z_for, ↓z_whil, ↓z_brk, ↓z_cnt, ↓z_pas, ↓z_rais, ↓z_mvs, ↓z_tr, ↓h_n, ↓h_c, ↓k2_, ↓j_op2_, ↓j_rep_, ↓j_neg_, ↓j_cmp_, ↓j_ch2_, ↓j_ch3_, ↓j_nt_, ↓j_tup_, ↓j_lst_, ↓j_ix_, ↓j_sl_, ↓j_sl2_, ↓j_sl3_, ↓j_mth_, ↓j_mth2_, ↓j_bi_, ↓j_bm_, ↓j_bm2_, ↓j_isi_, ↓j_lok_, ↓j_comp_, ↓j_rng_, ↓j_zip_, ↓j_rev_, ↓j_cons_, ↓k_es_, ↓z_setK_, ↓z_unpK_, ↓z_exK_, ↓z_forK_, ↓k_mu_, ↓z_mu0, ↓z_mu1, ↓z_mu2, ↓z_mu3, ↓z_mu4, ↓z_mu5, ↓z_mu6, ↓z_mu7, ↓z_mu8, ↓z_mu9, ↓z_mu10, ↓z_mu11, ↓z_mu12, ↓z_mu13, ↓z_mu14, ↓z_mu15, ↓z_mu16, ↓z_mu17, ↓z_mu18, ↓z_mu19, ↓z_mu20, ↓z_mu21, ↓z_mu22, ↓z_mu23, ↓z_mu24, ↓z_mu25, ↓z_mu26, ↓z_mu27, ↓z_mu28, ↓z_mu29, ty_int_int, ty_int_bool, ty_int_str, ty_int_list, ty_int_tuple, ty_int_dict, ty_bool_int, ty_bool_bool, ty_bool_str, ty_bool_list, ty_bool_tuple, ty_bool_dict, ty_str_int, ty_str_bool, ty_str_str, ty_str_list, ty_str_tuple, ty_str_dict, ty_list_int, ty_list_bool, ty_list_str, ty_list_list, ty_list_tuple, ty_list_dict, ty_tuple_int, ty_tuple_bool, ty_tuple_str, ty_tuple_list, ty_tuple_tuple, ty_tuple_dict, ty_dict_int, ty_dict_bool, ty_dict_str, ty_dict_list, ty_dict_tuple, ty_dict_dict, st_0, st_1, st_2, st_3, st_4, st_5, st_6, st_7, st_8, st_9, st_10, st_11, st_12, st_13, st_14, st_15, st_16, st_17, st_18, st_19, st_20, st_21, st_22, st_23, st_24, st_25, st_26, st_27, st_28, st_29, b_ok, b_exn, t_ok, t_exn, of_some, sq_nx, sq_ret, sq_exn, sq_brk, sq_cnt, obl_some, ob_ret, ob_nx, ob_exn, j_rep2_, j_ife_, z_ifeK_, chV_b, szt_t, compV_some, cpR_ok, cB_one, cB_many, cB_cd1, cdX_ok, lstO_some, zipV_l, revV_l, intO_i, bB_tt, bB_tf, bB_ft, bB_ff, bB_t, bB_f, unpV_t, nxO_s, forV_s, fB_one, fB_many, bm_n, bm_c, mvR_nx, mvR_ret, mvR_exn, dE_n, dE_c, trR_nx, trR_ret, trR_exn, caR_t, caR_f, unAs_nx, unAs_ret, aS_s, aS_n, muO_s, muK_t, ma_app, ma_ext, ma_clr, ma_rev, ma_set, md_app, md_ext, md_clr, md_rev, md_set, cn_i, cn_b, cn_n, cn_s, forL_n, compL_n, j_fld_, at_5, at_6, at_7, at_8, at_9, at_10, at_11, is_bb, bbtt, bbtf, bbft, bbff, beq_self_eq_true, mulOk_small, mulOk_small2, Bool.or_true, Bool.or_false, Bool.true_or, Bool.false_or, Bool.and_true, Bool.true_and, startE, eqV_int, eqV_str, op_add, op_sub, op_mul, op_fdiv, op_fdivN, op_mod, op_pow, op_addS, op_addL, de_non, de_bl, de_int, de_str, de_tup, de_lst, de_exc, de_scr, de_obj, cp_lt, cp_le, cp_gt, cp_ge, cp_eq, cp_ne, cp_isn, cp_isnt, cp_in, cp_nin, no_some, is_non, nb_non, nb_int, nb_bl, nb_tup, nb_lst, nb_str, eq_nn, eq_ni, eq_in, eq_bb, ix_lst, ix_tup, ix_scr, at_0, at_1, at_2, at_3, at_4, bi_lenL, bi_lenT, bi_lenC, bi_abs, bi_min2, bi_max2, bi_listL, bi_listT, ty_int, ty_bl, ty_non, ty_str, ty_lst, ty_tup, ty_exV, it_lst, it_tup, mu_app, mu_ext, mt_app, mt_ext, mt_clr, mt_rev, mt_set, mu_clr, mu_rev, List.map_cons, List.map_nil, List.length_cons, List.length_nil, List.cons_append, List.nil_append, List.replicate, Nat.reduceSub, Nat.reduceAdd, ↓reduceIte, if_true, if_false, Bool.false_eq_true, decide_eq_true_eq, decide_true, decide_false, Bool.not_true, Bool.not_false, reduceCtorEq, ite_true, ite_false, Int.reduceLT, Int.reduceLE, Int.reducePow, Int.reduceMul, Int.reduceAdd, Int.reduceSub, Int.reduceToNat, Nat.reduceLT, Nat.reducePow, and_self, and_true, true_and, Int.reduceNeg, Int.reduceEq, szb1, szb2, szb3, szb0, szb4, szb5, szb6, szb7, szb8, szb9, szb10, szb11, szb12, szb13, szb14, szb15, szb16, szb17, szb18, szb19, szb20, szb21, szb22, szb23, szb24, szb25, szb26, szb27, szb28, szb29, szb30, szb31, szb32, szb33, szb34, szb35, szb36, szb37, szb38, szb39, oV_s, oV_n, fl, Option.toList]
theorem r_common : run G wfN (n + 1) 29 [encO p, encO q] S = .ok (meetV p q) S := by
  rw [run_unf (F := F_l_common) rfl rfl rfl]
  obtain ⟨a, b⟩ := p
  obtain ⟨c, d⟩ := q
  unfold meetV
  have z2 : ∀ x y : Val, szb [x, y].length = true := fun x y => rfl
  have lD := fl_D a c
  have hD := fh_D b d
  cases hl : lmax a c with
  | none =>
    have e0 := fl_n hl
    rw [e0] at lD
    have e1 : ¬ (0 : Int) < ((([] : List Int).map Val.int).length : Int) := by simp
    simp only [List.map_nil] at e1 lD
    cases hh : hmin b d <;> rw [hl] at lD <;> rw [hh] at hD <;> simp (decide := true) only [F_l_common, ↓e_v0, ↓e_v1, ↓e_v2, ↓e_v3, ↓e_v4, ↓e_v5, ↓e_v6, ↓e_v7, ↓e_v8, ↓e_v9, ↓e_v10, ↓e_v11, ↓e_v12, ↓e_v13, ↓e_v14, ↓e_v15, ↓e_v16, ↓e_v17, ↓e_v18, ↓e_v19, ↓e_v20, ↓e_v21, ↓e_v22, ↓e_v23, ↓e_v24, ↓e_v25, ↓e_v26, ↓e_v27, ↓e_v28, ↓e_v29, ↓e_k, ↓e_gl, ↓e_op2, ↓e_rep, ↓e_neg, ↓e_cmp, ↓e_ch, ↓e_bop, ↓e_nt, ↓e_ife, ↓e_tup, ↓e_lst, ↓e_ix, ↓e_sl, ↓e_fld, ↓e_call, ↓e_mk, ↓e_mth, ↓e_bi, ↓e_bm, ↓e_sortk, ↓e_isi, ↓e_comp, ↓e_d0, ↓e_rng, ↓e_zip, ↓e_rev, ↓es_n, ↓es_c, ↓eO_n, ↓eO_s, ↓eB_1, ↓eB_c, ↓q_n, ↓q_1, ↓q_c, ↓z_set, ↓z_unp, ↓z_ex, ↓z_ret, ↓z_retN, ↓z_ife, ↓z_for, ↓z_whil, ↓z_brk, ↓z_cnt, ↓z_pas, ↓z_rais, ↓z_mvs, ↓z_tr, ↓h_n, ↓h_c, ↓k2_, ↓j_op2_, ↓j_rep_, ↓j_neg_, ↓j_cmp_, ↓j_ch2_, ↓j_ch3_, ↓j_nt_, ↓j_tup_, ↓j_lst_, ↓j_ix_, ↓j_sl_, ↓j_sl2_, ↓j_sl3_, ↓j_mth_, ↓j_mth2_, ↓j_bi_, ↓j_bm_, ↓j_bm2_, ↓j_isi_, ↓j_lok_, ↓j_comp_, ↓j_rng_, ↓j_zip_, ↓j_rev_, ↓j_cons_, ↓k_es_, ↓z_setK_, ↓z_unpK_, ↓z_exK_, ↓z_forK_, ↓k_mu_, ↓z_mu0, ↓z_mu1, ↓z_mu2, ↓z_mu3, ↓z_mu4, ↓z_mu5, ↓z_mu6, ↓z_mu7, ↓z_mu8, ↓z_mu9, ↓z_mu10, ↓z_mu11, ↓z_mu12, ↓z_mu13, ↓z_mu14, ↓z_mu15, ↓z_mu16, ↓z_mu17, ↓z_mu18, ↓z_mu19, ↓z_mu20, ↓z_mu21, ↓z_mu22, ↓z_mu23, ↓z_mu24, ↓z_mu25, ↓z_mu26, ↓z_mu27, ↓z_mu28, ↓z_mu29, ty_int_int, ty_int_bool, ty_int_str, ty_int_list, ty_int_tuple, ty_int_dict, ty_bool_int, ty_bool_bool, ty_bool_str, ty_bool_list, ty_bool_tuple, ty_bool_dict, ty_str_int, ty_str_bool, ty_str_str, ty_str_list, ty_str_tuple, ty_str_dict, ty_list_int, ty_list_bool, ty_list_str, ty_list_list, ty_list_tuple, ty_list_dict, ty_tuple_int, ty_tuple_bool, ty_tuple_str, ty_tuple_list, ty_tuple_tuple, ty_tuple_dict, ty_dict_int, ty_dict_bool, ty_dict_str, ty_dict_list, ty_dict_tuple, ty_dict_dict, st_0, st_1, st_2, st_3, st_4, st_5, st_6, st_7, st_8, st_9, st_10, st_11, st_12, st_13, st_14, st_15, st_16, st_17, st_18, st_19, st_20, st_21, st_22, st_23, st_24, st_25, st_26, st_27, st_28, st_29, b_ok, b_exn, t_ok, t_exn, of_some, sq_nx, sq_ret, sq_exn, sq_brk, sq_cnt, obl_some, ob_ret, ob_nx, ob_exn, j_rep2_, j_ife_, z_ifeK_, chV_b, szt_t, compV_some, cpR_ok, cB_one, cB_many, cB_cd1, cdX_ok, lstO_some, zipV_l, revV_l, intO_i, bB_tt, bB_tf, bB_ft, bB_ff, bB_t, bB_f, unpV_t, nxO_s, forV_s, fB_one, fB_many, bm_n, bm_c, mvR_nx, mvR_ret, mvR_exn, dE_n, dE_c, trR_nx, trR_ret, trR_exn, caR_t, caR_f, unAs_nx, unAs_ret, aS_s, aS_n, muO_s, muK_t, ma_app, ma_ext, ma_clr, ma_rev, ma_set, md_app, md_ext, md_clr, md_rev, md_set, cn_i, cn_b, cn_n, cn_s, forL_n, compL_n, j_fld_, at_5, at_6, at_7, at_8, at_9, at_10, at_11, is_bb, bbtt, bbtf, bbft, bbff, beq_self_eq_true, mulOk_small, mulOk_small2, Bool.or_true, Bool.or_false, Bool.true_or, Bool.false_or, Bool.and_true, Bool.true_and, startE, eqV_int, eqV_str, op_add, op_sub, op_mul, op_fdiv, op_fdivN, op_mod, op_pow, op_addS, op_addL, de_non, de_bl, de_int, de_str, de_tup, de_lst, de_exc, de_scr, de_obj, cp_lt, cp_le, cp_gt, cp_ge, cp_eq, cp_ne, cp_isn, cp_isnt, cp_in, cp_nin, no_some, is_non, nb_non, nb_int, nb_bl, nb_tup, nb_lst, nb_str, eq_nn, eq_ni, eq_in, eq_bb, ix_lst, ix_tup, ix_scr, at_0, at_1, at_2, at_3, at_4, bi_lenL, bi_lenT, bi_lenC, bi_abs, bi_min2, bi_max2, bi_listL, bi_listT, ty_int, ty_bl, ty_non, ty_str, ty_lst, ty_tup, ty_exV, it_lst, it_tup, mu_app, mu_ext, mt_app, mt_ext, mt_clr, mt_rev, mt_set, mu_clr, mu_rev, List.map_cons, List.map_nil, List.length_cons, List.length_nil, List.cons_append, List.nil_append, List.replicate, Nat.reduceSub, Nat.reduceAdd, ↓reduceIte, if_true, if_false, Bool.false_eq_true, decide_eq_true_eq, decide_true, decide_false, Bool.not_true, Bool.not_false, reduceCtorEq, ite_true, ite_false, Int.reduceLT, Int.reduceLE, Int.reducePow, Int.reduceMul, Int.reduceAdd, Int.reduceSub, Int.reduceToNat, Nat.reduceLT, Nat.reducePow, and_self, and_true, true_and, Int.reduceNeg, Int.reduceEq, szb1, szb2, szb3, szb0, szb4, szb5, szb6, szb7, szb8, szb9, szb10, szb11, szb12, szb13, szb14, szb15, szb16, szb17, szb18, szb19, szb20, szb21, szb22, szb23, szb24, szb25, szb26, szb27, szb28, szb29, szb30, szb31, szb32, szb33, szb34, szb35, szb36, szb37, szb38, szb39, encO, compV_some (z2 _ _), comp_two, e0, e1, lD, hD, overB, oV_s, oV_n, hl, hh]
  | some l =>
    obtain ⟨e1, e2⟩ := fl_s hl
    cases hh : hmin b d with
    | none =>
      have e0 := fh_n hh
      rw [e0] at hD
      have e3 : ¬ (0 : Int) < ((([] : List Int).map Val.int).length : Int) := by simp
      simp only [List.map_nil] at e3 hD
      rw [hl] at lD
      rw [hh] at hD
      simp (decide := true) only [F_l_common, ↓e_v0, ↓e_v1, ↓e_v2, ↓e_v3, ↓e_v4, ↓e_v5, ↓e_v6, ↓e_v7, ↓e_v8, ↓e_v9, ↓e_v10, ↓e_v11, ↓e_v12, ↓e_v13, ↓e_v14, ↓e_v15, ↓e_v16, ↓e_v17, ↓e_v18, ↓e_v19, ↓e_v20, ↓e_v21, ↓e_v22, ↓e_v23, ↓e_v24, ↓e_v25, ↓e_v26, ↓e_v27, ↓e_v28, ↓e_v29, ↓e_k, ↓e_gl, ↓e_op2, ↓e_rep, ↓e_neg, ↓e_cmp, ↓e_ch, ↓e_bop, ↓e_nt, ↓e_ife, ↓e_tup, ↓e_lst, ↓e_ix, ↓e_sl, ↓e_fld, ↓e_call, ↓e_mk, ↓e_mth, ↓e_bi, ↓e_bm, ↓e_sortk, ↓e_isi, ↓e_comp, ↓e_d0, ↓e_rng, ↓e_zip, ↓e_rev, ↓es_n, ↓es_c, ↓eO_n, ↓eO_s, ↓eB_1, ↓eB_c, ↓q_n, ↓q_1, ↓q_c, ↓z_set, ↓z_unp, ↓z_ex, ↓z_ret, ↓z_retN, ↓z_ife, ↓z_for, ↓z_whil, ↓z_brk, ↓z_cnt, ↓z_pas, ↓z_rais, ↓z_mvs, ↓z_tr, ↓h_n, ↓h_c, ↓k2_, ↓j_op2_, ↓j_rep_, ↓j_neg_, ↓j_cmp_, ↓j_ch2_, ↓j_ch3_, ↓j_nt_, ↓j_tup_, ↓j_lst_, ↓j_ix_, ↓j_sl_, ↓j_sl2_, ↓j_sl3_, ↓j_mth_, ↓j_mth2_, ↓j_bi_, ↓j_bm_, ↓j_bm2_, ↓j_isi_, ↓j_lok_, ↓j_comp_, ↓j_rng_, ↓j_zip_, ↓j_rev_, ↓j_cons_, ↓k_es_, ↓z_setK_, ↓z_unpK_, ↓z_exK_, ↓z_forK_, ↓k_mu_, ↓z_mu0, ↓z_mu1, ↓z_mu2, ↓z_mu3, ↓z_mu4, ↓z_mu5, ↓z_mu6, ↓z_mu7, ↓z_mu8, ↓z_mu9, ↓z_mu10, ↓z_mu11, ↓z_mu12, ↓z_mu13, ↓z_mu14, ↓z_mu15, ↓z_mu16, ↓z_mu17, ↓z_mu18, ↓z_mu19, ↓z_mu20, ↓z_mu21, ↓z_mu22, ↓z_mu23, ↓z_mu24, ↓z_mu25, ↓z_mu26, ↓z_mu27, ↓z_mu28, ↓z_mu29, ty_int_int, ty_int_bool, ty_int_str, ty_int_list, ty_int_tuple, ty_int_dict, ty_bool_int, ty_bool_bool, ty_bool_str, ty_bool_list, ty_bool_tuple, ty_bool_dict, ty_str_int, ty_str_bool, ty_str_str, ty_str_list, ty_str_tuple, ty_str_dict, ty_list_int, ty_list_bool, ty_list_str, ty_list_list, ty_list_tuple, ty_list_dict, ty_tuple_int, ty_tuple_bool, ty_tuple_str, ty_tuple_list, ty_tuple_tuple, ty_tuple_dict, ty_dict_int, ty_dict_bool, ty_dict_str, ty_dict_list, ty_dict_tuple, ty_dict_dict, st_0, st_1, st_2, st_3, st_4, st_5, st_6, st_7, st_8, st_9, st_10, st_11, st_12, st_13, st_14, st_15, st_16, st_17, st_18, st_19, st_20, st_21, st_22, st_23, st_24, st_25, st_26, st_27, st_28, st_29, b_ok, b_exn, t_ok, t_exn, of_some, sq_nx, sq_ret, sq_exn, sq_brk, sq_cnt, obl_some, ob_ret, ob_nx, ob_exn, j_rep2_, j_ife_, z_ifeK_, chV_b, szt_t, compV_some, cpR_ok, cB_one, cB_many, cB_cd1, cdX_ok, lstO_some, zipV_l, revV_l, intO_i, bB_tt, bB_tf, bB_ft, bB_ff, bB_t, bB_f, unpV_t, nxO_s, forV_s, fB_one, fB_many, bm_n, bm_c, mvR_nx, mvR_ret, mvR_exn, dE_n, dE_c, trR_nx, trR_ret, trR_exn, caR_t, caR_f, unAs_nx, unAs_ret, aS_s, aS_n, muO_s, muK_t, ma_app, ma_ext, ma_clr, ma_rev, ma_set, md_app, md_ext, md_clr, md_rev, md_set, cn_i, cn_b, cn_n, cn_s, forL_n, compL_n, j_fld_, at_5, at_6, at_7, at_8, at_9, at_10, at_11, is_bb, bbtt, bbtf, bbft, bbff, beq_self_eq_true, mulOk_small, mulOk_small2, Bool.or_true, Bool.or_false, Bool.true_or, Bool.false_or, Bool.and_true, Bool.true_and, startE, eqV_int, eqV_str, op_add, op_sub, op_mul, op_fdiv, op_fdivN, op_mod, op_pow, op_addS, op_addL, de_non, de_bl, de_int, de_str, de_tup, de_lst, de_exc, de_scr, de_obj, cp_lt, cp_le, cp_gt, cp_ge, cp_eq, cp_ne, cp_isn, cp_isnt, cp_in, cp_nin, no_some, is_non, nb_non, nb_int, nb_bl, nb_tup, nb_lst, nb_str, eq_nn, eq_ni, eq_in, eq_bb, ix_lst, ix_tup, ix_scr, at_0, at_1, at_2, at_3, at_4, bi_lenL, bi_lenT, bi_lenC, bi_abs, bi_min2, bi_max2, bi_listL, bi_listT, ty_int, ty_bl, ty_non, ty_str, ty_lst, ty_tup, ty_exV, it_lst, it_tup, mu_app, mu_ext, mt_app, mt_ext, mt_clr, mt_rev, mt_set, mu_clr, mu_rev, List.map_cons, List.map_nil, List.length_cons, List.length_nil, List.cons_append, List.nil_append, List.replicate, Nat.reduceSub, Nat.reduceAdd, ↓reduceIte, if_true, if_false, Bool.false_eq_true, decide_eq_true_eq, decide_true, decide_false, Bool.not_true, Bool.not_false, reduceCtorEq, ite_true, ite_false, Int.reduceLT, Int.reduceLE, Int.reducePow, Int.reduceMul, Int.reduceAdd, Int.reduceSub, Int.reduceToNat, Nat.reduceLT, Nat.reducePow, and_self, and_true, true_and, Int.reduceNeg, Int.reduceEq, szb1, szb2, szb3, szb0, szb4, szb5, szb6, szb7, szb8, szb9, szb10, szb11, szb12, szb13, szb14, szb15, szb16, szb17, szb18, szb19, szb20, szb21, szb22, szb23, szb24, szb25, szb26, szb27, szb28, szb29, szb30, szb31, szb32, szb33, szb34, szb35, szb36, szb37, szb38, szb39, encO, compV_some (z2 _ _), comp_two, e0, e1, e2, e3, lD, hD, overB, oV_s, oV_n, hl, hh]
    | some h =>
      obtain ⟨e3, e4⟩ := fh_s hh
      rw [hl] at lD
      rw [hh] at hD
      by_cases hc : h < l
      · simp (decide := true) only [F_l_common, ↓e_v0, ↓e_v1, ↓e_v2, ↓e_v3, ↓e_v4, ↓e_v5, ↓e_v6, ↓e_v7, ↓e_v8, ↓e_v9, ↓e_v10, ↓e_v11, ↓e_v12, ↓e_v13, ↓e_v14, ↓e_v15, ↓e_v16, ↓e_v17, ↓e_v18, ↓e_v19, ↓e_v20, ↓e_v21, ↓e_v22, ↓e_v23, ↓e_v24, ↓e_v25, ↓e_v26, ↓e_v27, ↓e_v28, ↓e_v29, ↓e_k, ↓e_gl, ↓e_op2, ↓e_rep, ↓e_neg, ↓e_cmp, ↓e_ch, ↓e_bop, ↓e_nt, ↓e_ife, ↓e_tup, ↓e_lst, ↓e_ix, ↓e_sl, ↓e_fld, ↓e_call, ↓e_mk, ↓e_mth, ↓e_bi, ↓e_bm, ↓e_sortk, ↓e_isi, ↓e_comp, ↓e_d0, ↓e_rng, ↓e_zip, ↓e_rev, ↓es_n, ↓es_c, ↓eO_n, ↓eO_s, ↓eB_1, ↓eB_c, ↓q_n, ↓q_1, ↓q_c, ↓z_set, ↓z_unp, ↓z_ex, ↓z_ret, ↓z_retN, ↓z_ife, ↓z_for, ↓z_whil, ↓z_brk, ↓z_cnt, ↓z_pas, ↓z_rais, ↓z_mvs, ↓z_tr, ↓h_n, ↓h_c, ↓k2_, ↓j_op2_, ↓j_rep_, ↓j_neg_, ↓j_cmp_, ↓j_ch2_, ↓j_ch3_, ↓j_nt_, ↓j_tup_, ↓j_lst_, ↓j_ix_, ↓j_sl_, ↓j_sl2_, ↓j_sl3_, ↓j_mth_, ↓j_mth2_, ↓j_bi_, ↓j_bm_, ↓j_bm2_, ↓j_isi_, ↓j_lok_, ↓j_comp_, ↓j_rng_, ↓j_zip_, ↓j_rev_, ↓j_cons_, ↓k_es_, ↓z_setK_, ↓z_unpK_, ↓z_exK_, ↓z_forK_, ↓k_mu_, ↓z_mu0, ↓z_mu1, ↓z_mu2, ↓z_mu3, ↓z_mu4, ↓z_mu5, ↓z_mu6, ↓z_mu7, ↓z_mu8, ↓z_mu9, ↓z_mu10, ↓z_mu11, ↓z_mu12, ↓z_mu13, ↓z_mu14, ↓z_mu15, ↓z_mu16, ↓z_mu17, ↓z_mu18, ↓z_mu19, ↓z_mu20, ↓z_mu21, ↓z_mu22, ↓z_mu23, ↓z_mu24, ↓z_mu25, ↓z_mu26, ↓z_mu27, ↓z_mu28, ↓z_mu29, ty_int_int, ty_int_bool, ty_int_str, ty_int_list, ty_int_tuple, ty_int_dict, ty_bool_int, ty_bool_bool, ty_bool_str, ty_bool_list, ty_bool_tuple, ty_bool_dict, ty_str_int, ty_str_bool, ty_str_str, ty_str_list, ty_str_tuple, ty_str_dict, ty_list_int, ty_list_bool, ty_list_str, ty_list_list, ty_list_tuple, ty_list_dict, ty_tuple_int, ty_tuple_bool, ty_tuple_str, ty_tuple_list, ty_tuple_tuple, ty_tuple_dict, ty_dict_int, ty_dict_bool, ty_dict_str, ty_dict_list, ty_dict_tuple, ty_dict_dict, st_0, st_1, st_2, st_3, st_4, st_5, st_6, st_7, st_8, st_9, st_10, st_11, st_12, st_13, st_14, st_15, st_16, st_17, st_18, st_19, st_20, st_21, st_22, st_23, st_24, st_25, st_26, st_27, st_28, st_29, b_ok, b_exn, t_ok, t_exn, of_some, sq_nx, sq_ret, sq_exn, sq_brk, sq_cnt, obl_some, ob_ret, ob_nx, ob_exn, j_rep2_, j_ife_, z_ifeK_, chV_b, szt_t, compV_some, cpR_ok, cB_one, cB_many, cB_cd1, cdX_ok, lstO_some, zipV_l, revV_l, intO_i, bB_tt, bB_tf, bB_ft, bB_ff, bB_t, bB_f, unpV_t, nxO_s, forV_s, fB_one, fB_many, bm_n, bm_c, mvR_nx, mvR_ret, mvR_exn, dE_n, dE_c, trR_nx, trR_ret, trR_exn, caR_t, caR_f, unAs_nx, unAs_ret, aS_s, aS_n, muO_s, muK_t, ma_app, ma_ext, ma_clr, ma_rev, ma_set, md_app, md_ext, md_clr, md_rev, md_set, cn_i, cn_b, cn_n, cn_s, forL_n, compL_n, j_fld_, at_5, at_6, at_7, at_8, at_9, at_10, at_11, is_bb, bbtt, bbtf, bbft, bbff, beq_self_eq_true, mulOk_small, mulOk_small2, Bool.or_true, Bool.or_false, Bool.true_or, Bool.false_or, Bool.and_true, Bool.true_and, startE, eqV_int, eqV_str, op_add, op_sub, op_mul, op_fdiv, op_fdivN, op_mod, op_pow, op_addS, op_addL, de_non, de_bl, de_int, de_str, de_tup, de_lst, de_exc, de_scr, de_obj, cp_lt, cp_le, cp_gt, cp_ge, cp_eq, cp_ne, cp_isn, cp_isnt, cp_in, cp_nin, no_some, is_non, nb_non, nb_int, nb_bl, nb_tup, nb_lst, nb_str, eq_nn, eq_ni, eq_in, eq_bb, ix_lst, ix_tup, ix_scr, at_0, at_1, at_2, at_3, at_4, bi_lenL, bi_lenT, bi_lenC, bi_abs, bi_min2, bi_max2, bi_listL, bi_listT, ty_int, ty_bl, ty_non, ty_str, ty_lst, ty_tup, ty_exV, it_lst, it_tup, mu_app, mu_ext, mt_app, mt_ext, mt_clr, mt_rev, mt_set, mu_clr, mu_rev, List.map_cons, List.map_nil, List.length_cons, List.length_nil, List.cons_append, List.nil_append, List.replicate, Nat.reduceSub, Nat.reduceAdd, ↓reduceIte, if_true, if_false, Bool.false_eq_true, decide_eq_true_eq, decide_true, decide_false, Bool.not_true, Bool.not_false, reduceCtorEq, ite_true, ite_false, Int.reduceLT, Int.reduceLE, Int.reducePow, Int.reduceMul, Int.reduceAdd, Int.reduceSub, Int.reduceToNat, Nat.reduceLT, Nat.reducePow, and_self, and_true, true_and, Int.reduceNeg, Int.reduceEq, szb1, szb2, szb3, szb0, szb4, szb5, szb6, szb7, szb8, szb9, szb10, szb11, szb12, szb13, szb14, szb15, szb16, szb17, szb18, szb19, szb20, szb21, szb22, szb23, szb24, szb25, szb26, szb27, szb28, szb29, szb30, szb31, szb32, szb33, szb34, szb35, szb36, szb37, szb38, szb39, encO, compV_some (z2 _ _), comp_two, e1, e2, e3, e4, lD, hD, overB, oV_s, oV_n, hl, hh, hc]
      · simp (decide := true) only [F_l_common, ↓e_v0, ↓e_v1, ↓e_v2, ↓e_v3, ↓e_v4, ↓e_v5, ↓e_v6, ↓e_v7, ↓e_v8, ↓e_v9, ↓e_v10, ↓e_v11, ↓e_v12, ↓e_v13, ↓e_v14, ↓e_v15, ↓e_v16, ↓e_v17, ↓e_v18, ↓e_v19, ↓e_v20, ↓e_v21, ↓e_v22, ↓e_v23, ↓e_v24, ↓e_v25, ↓e_v26, ↓e_v27, ↓e_v28, ↓e_v29, ↓e_k, ↓e_gl, ↓e_op2, ↓e_rep, ↓e_neg, ↓e_cmp, ↓e_ch, ↓e_bop, ↓e_nt, ↓e_ife, ↓e_tup, ↓e_lst, ↓e_ix, ↓e_sl, ↓e_fld, ↓e_call, ↓e_mk, ↓e_mth, ↓e_bi, ↓e_bm, ↓e_sortk, ↓e_isi, ↓e_comp, ↓e_d0, ↓e_rng, ↓e_zip, ↓e_rev, ↓es_n, ↓es_c, ↓eO_n, ↓eO_s, ↓eB_1, ↓eB_c, ↓q_n, ↓q_1, ↓q_c, ↓z_set, ↓z_unp, ↓z_ex, ↓z_ret, ↓z_retN, ↓z_ife, ↓z_for, ↓z_whil, ↓z_brk, ↓z_cnt, ↓z_pas, ↓z_rais, ↓z_mvs, ↓z_tr, ↓h_n, ↓h_c, ↓k2_, ↓j_op2_, ↓j_rep_, ↓j_neg_, ↓j_cmp_, ↓j_ch2_, ↓j_ch3_, ↓j_nt_, ↓j_tup_, ↓j_lst_, ↓j_ix_, ↓j_sl_, ↓j_sl2_, ↓j_sl3_, ↓j_mth_, ↓j_mth2_, ↓j_bi_, ↓j_bm_, ↓j_bm2_, ↓j_isi_, ↓j_lok_, ↓j_comp_, ↓j_rng_, ↓j_zip_, ↓j_rev_, ↓j_cons_, ↓k_es_, ↓z_setK_, ↓z_unpK_, ↓z_exK_, ↓z_forK_, ↓k_mu_, ↓z_mu0, ↓z_mu1, ↓z_mu2, ↓z_mu3, ↓z_mu4, ↓z_mu5, ↓z_mu6, ↓z_mu7, ↓z_mu8, ↓z_mu9, ↓z_mu10, ↓z_mu11, ↓z_mu12, ↓z_mu13, ↓z_mu14, ↓z_mu15, ↓z_mu16, ↓z_mu17, ↓z_mu18, ↓z_mu19, ↓z_mu20, ↓z_mu21, ↓z_mu22, ↓z_mu23, ↓z_mu24, ↓z_mu25, ↓z_mu26, ↓z_mu27, ↓z_mu28, ↓z_mu29, ty_int_int, ty_int_bool, ty_int_str, ty_int_list, ty_int_tuple, ty_int_dict, ty_bool_int, ty_bool_bool, ty_bool_str, ty_bool_list, ty_bool_tuple, ty_bool_dict, ty_str_int, ty_str_bool, ty_str_str, ty_str_list, ty_str_tuple, ty_str_dict, ty_list_int, ty_list_bool, ty_list_str, ty_list_list, ty_list_tuple, ty_list_dict, ty_tuple_int, ty_tuple_bool, ty_tuple_str, ty_tuple_list, ty_tuple_tuple, ty_tuple_dict, ty_dict_int, ty_dict_bool, ty_dict_str, ty_dict_list, ty_dict_tuple, ty_dict_dict, st_0, st_1, st_2, st_3, st_4, st_5, st_6, st_7, st_8, st_9, st_10, st_11, st_12, st_13, st_14, st_15, st_16, st_17, st_18, st_19, st_20, st_21, st_22, st_23, st_24, st_25, st_26, st_27, st_28, st_29, b_ok, b_exn, t_ok, t_exn, of_some, sq_nx, sq_ret, sq_exn, sq_brk, sq_cnt, obl_some, ob_ret, ob_nx, ob_exn, j_rep2_, j_ife_, z_ifeK_, chV_b, szt_t, compV_some, cpR_ok, cB_one, cB_many, cB_cd1, cdX_ok, lstO_some, zipV_l, revV_l, intO_i, bB_tt, bB_tf, bB_ft, bB_ff, bB_t, bB_f, unpV_t, nxO_s, forV_s, fB_one, fB_many, bm_n, bm_c, mvR_nx, mvR_ret, mvR_exn, dE_n, dE_c, trR_nx, trR_ret, trR_exn, caR_t, caR_f, unAs_nx, unAs_ret, aS_s, aS_n, muO_s, muK_t, ma_app, ma_ext, ma_clr, ma_rev, ma_set, md_app, md_ext, md_clr, md_rev, md_set, cn_i, cn_b, cn_n, cn_s, forL_n, compL_n, j_fld_, at_5, at_6, at_7, at_8, at_9, at_10, at_11, is_bb, bbtt, bbtf, bbft, bbff, beq_self_eq_true, mulOk_small, mulOk_small2, Bool.or_true, Bool.or_false, Bool.true_or, Bool.false_or, Bool.and_true, Bool.true_and, startE, eqV_int, eqV_str, op_add, op_sub, op_mul, op_fdiv, op_fdivN, op_mod, op_pow, op_addS, op_addL, de_non, de_bl, de_int, de_str, de_tup, de_lst, de_exc, de_scr, de_obj, cp_lt, cp_le, cp_gt, cp_ge, cp_eq, cp_ne, cp_isn, cp_isnt, cp_in, cp_nin, no_some, is_non, nb_non, nb_int, nb_bl, nb_tup, nb_lst, nb_str, eq_nn, eq_ni, eq_in, eq_bb, ix_lst, ix_tup, ix_scr, at_0, at_1, at_2, at_3, at_4, bi_lenL, bi_lenT, bi_lenC, bi_abs, bi_min2, bi_max2, bi_listL, bi_listT, ty_int, ty_bl, ty_non, ty_str, ty_lst, ty_tup, ty_exV, it_lst, it_tup, mu_app, mu_ext, mt_app, mt_ext, mt_clr, mt_rev, mt_set, mu_clr, mu_rev, List.map_cons, List.map_nil, List.length_cons, List.length_nil, List.cons_append, List.nil_append, List.replicate, Nat.reduceSub, Nat.reduceAdd, ↓reduceIte, if_true, if_false, Bool.false_eq_true, decide_eq_true_eq, decide_true, decide_false, Bool.not_true, Bool.not_false, reduceCtorEq, ite_true, ite_false, Int.reduceLT, Int.reduceLE, Int.reducePow, Int.reduceMul, Int.reduceAdd, Int.reduceSub, Int.reduceToNat, Nat.reduceLT, Nat.reducePow, and_self, and_true, true_and, Int.reduceNeg, Int.reduceEq, szb1, szb2, szb3, szb0, szb4, szb5, szb6, szb7, szb8, szb9, szb10, szb11, szb12, szb13, szb14, szb15, szb16, szb17, szb18, szb19, szb20, szb21, szb22, szb23, szb24, szb25, szb26, szb27, szb28, szb29, szb30, szb31, szb32, szb33, szb34, szb35, szb36, szb37, szb38, szb39, encO, compV_some (z2 _ _), comp_two, e1, e2, e3, e4, lD, hD, overB, oV_s, oV_n, hl, hh, hc]
theorem meet_comm : meetV q p = meetV p q := by
  unfold meetV
  rw [lmax_comm, hmin_comm]
theorem r_alikeM : run G wfN (n + 2) 27 [meetV p q, meetV p q] S = .ok (.bl true) S := by
  unfold meetV
  split
  · exact r_alikeN
  · exact r_alikeO
theorem meetV_de : deref S (meetV p q) = meetV p q := by
  unfold meetV
  split <;> rfl
/-! ### the script's -/
theorem r_lend {c : Int} : ∃ o : Option Int, run G wfN (n + 1) 24 [.int c] S = .ok (oV o) S := by
  rw [run_unf (F := F_l_end) rfl rfl rfl]
  have fd : fdivOk 5 = true := by decide
  have m1 : mulOk (c / 5 % 10 ^ 30) (48271 ^ 11) = true := mulOk_of (a := 100) (b := 200) (by omega) (by decide) (by decide) (by decide) (by decide)
  simp only [Int.reducePow] at m1
  by_cases h : c % 5 = 0
  · exact ⟨none, by simp (decide := true) only [F_l_end, ↓e_v0, ↓e_v1, ↓e_v2, ↓e_v3, ↓e_v4, ↓e_v5, ↓e_v6, ↓e_v7, ↓e_v8, ↓e_v9, ↓e_v10, ↓e_v11, ↓e_v12, ↓e_v13, ↓e_v14, ↓e_v15, ↓e_v16, ↓e_v17, ↓e_v18, ↓e_v19, ↓e_v20, ↓e_v21, ↓e_v22, ↓e_v23, ↓e_v24, ↓e_v25, ↓e_v26, ↓e_v27, ↓e_v28, ↓e_v29, ↓e_k, ↓e_gl, ↓e_op2, ↓e_rep, ↓e_neg, ↓e_cmp, ↓e_ch, ↓e_bop, ↓e_nt, ↓e_ife, ↓e_tup, ↓e_lst, ↓e_ix, ↓e_sl, ↓e_fld, ↓e_call, ↓e_mk, ↓e_mth, ↓e_bi, ↓e_bm, ↓e_sortk, ↓e_isi, ↓e_comp, ↓e_d0, ↓e_rng, ↓e_zip, ↓e_rev, ↓es_n, ↓es_c, ↓eO_n, ↓eO_s, ↓eB_1, ↓eB_c, ↓q_n, ↓q_1, ↓q_c, ↓z_set, ↓z_unp, ↓z_ex, ↓z_ret, ↓z_retN, ↓z_ife, ↓z_for, ↓z_whil, ↓z_brk, ↓z_cnt, ↓z_pas, ↓z_rais, ↓z_mvs, ↓z_tr, ↓h_n, ↓h_c, ↓k2_, ↓j_op2_, ↓j_rep_, ↓j_neg_, ↓j_cmp_, ↓j_ch2_, ↓j_ch3_, ↓j_nt_, ↓j_tup_, ↓j_lst_, ↓j_ix_, ↓j_sl_, ↓j_sl2_, ↓j_sl3_, ↓j_mth_, ↓j_mth2_, ↓j_bi_, ↓j_bm_, ↓j_bm2_, ↓j_isi_, ↓j_lok_, ↓j_comp_, ↓j_rng_, ↓j_zip_, ↓j_rev_, ↓j_cons_, ↓k_es_, ↓z_setK_, ↓z_unpK_, ↓z_exK_, ↓z_forK_, ↓k_mu_, ↓z_mu0, ↓z_mu1, ↓z_mu2, ↓z_mu3, ↓z_mu4, ↓z_mu5, ↓z_mu6, ↓z_mu7, ↓z_mu8, ↓z_mu9, ↓z_mu10, ↓z_mu11, ↓z_mu12, ↓z_mu13, ↓z_mu14, ↓z_mu15, ↓z_mu16, ↓z_mu17, ↓z_mu18, ↓z_mu19, ↓z_mu20, ↓z_mu21, ↓z_mu22, ↓z_mu23, ↓z_mu24, ↓z_mu25, ↓z_mu26, ↓z_mu27, ↓z_mu28, ↓z_mu29, ty_int_int, ty_int_bool, ty_int_str, ty_int_list, ty_int_tuple, ty_int_dict, ty_bool_int, ty_bool_bool, ty_bool_str, ty_bool_list, ty_bool_tuple, ty_bool_dict, ty_str_int, ty_str_bool, ty_str_str, ty_str_list, ty_str_tuple, ty_str_dict, ty_list_int, ty_list_bool, ty_list_str, ty_list_list, ty_list_tuple, ty_list_dict, ty_tuple_int, ty_tuple_bool, ty_tuple_str, ty_tuple_list, ty_tuple_tuple, ty_tuple_dict, ty_dict_int, ty_dict_bool, ty_dict_str, ty_dict_list, ty_dict_tuple, ty_dict_dict, st_0, st_1, st_2, st_3, st_4, st_5, st_6, st_7, st_8, st_9, st_10, st_11, st_12, st_13, st_14, st_15, st_16, st_17, st_18, st_19, st_20, st_21, st_22, st_23, st_24, st_25, st_26, st_27, st_28, st_29, b_ok, b_exn, t_ok, t_exn, of_some, sq_nx, sq_ret, sq_exn, sq_brk, sq_cnt, obl_some, ob_ret, ob_nx, ob_exn, j_rep2_, j_ife_, z_ifeK_, chV_b, szt_t, compV_some, cpR_ok, cB_one, cB_many, cB_cd1, cdX_ok, lstO_some, zipV_l, revV_l, intO_i, bB_tt, bB_tf, bB_ft, bB_ff, bB_t, bB_f, unpV_t, nxO_s, forV_s, fB_one, fB_many, bm_n, bm_c, mvR_nx, mvR_ret, mvR_exn, dE_n, dE_c, trR_nx, trR_ret, trR_exn, caR_t, caR_f, unAs_nx, unAs_ret, aS_s, aS_n, muO_s, muK_t, ma_app, ma_ext, ma_clr, ma_rev, ma_set, md_app, md_ext, md_clr, md_rev, md_set, cn_i, cn_b, cn_n, cn_s, forL_n, compL_n, j_fld_, at_5, at_6, at_7, at_8, at_9, at_10, at_11, is_bb, bbtt, bbtf, bbft, bbff, beq_self_eq_true, mulOk_small, mulOk_small2, Bool.or_true, Bool.or_false, Bool.true_or, Bool.false_or, Bool.and_true, Bool.true_and, startE, eqV_int, eqV_str, op_add, op_sub, op_mul, op_fdiv, op_fdivN, op_mod, op_pow, op_addS, op_addL, de_non, de_bl, de_int, de_str, de_tup, de_lst, de_exc, de_scr, de_obj, cp_lt, cp_le, cp_gt, cp_ge, cp_eq, cp_ne, cp_isn, cp_isnt, cp_in, cp_nin, no_some, is_non, nb_non, nb_int, nb_bl, nb_tup, nb_lst, nb_str, eq_nn, eq_ni, eq_in, eq_bb, ix_lst, ix_tup, ix_scr, at_0, at_1, at_2, at_3, at_4, bi_lenL, bi_lenT, bi_lenC, bi_abs, bi_min2, bi_max2, bi_listL, bi_listT, ty_int, ty_bl, ty_non, ty_str, ty_lst, ty_tup, ty_exV, it_lst, it_tup, mu_app, mu_ext, mt_app, mt_ext, mt_clr, mt_rev, mt_set, mu_clr, mu_rev, List.map_cons, List.map_nil, List.length_cons, List.length_nil, List.cons_append, List.nil_append, List.replicate, Nat.reduceSub, Nat.reduceAdd, ↓reduceIte, if_true, if_false, Bool.false_eq_true, decide_eq_true_eq, decide_true, decide_false, Bool.not_true, Bool.not_false, reduceCtorEq, ite_true, ite_false, Int.reduceLT, Int.reduceLE, Int.reducePow, Int.reduceMul, Int.reduceAdd, Int.reduceSub, Int.reduceToNat, Nat.reduceLT, Nat.reducePow, and_self, and_true, true_and, Int.reduceNeg, Int.reduceEq, szb1, szb2, szb3, szb0, szb4, szb5, szb6, szb7, szb8, szb9, szb10, szb11, szb12, szb13, szb14, szb15, szb16, szb17, szb18, szb19, szb20, szb21, szb22, szb23, szb24, szb25, szb26, szb27, szb28, szb29, szb30, szb31, szb32, szb33, szb34, szb35, szb36, szb37, szb38, szb39, h, oV_n]⟩
  · by_cases h2 : c % 5 < 3
    · exact ⟨some (c / 5 % 41 - 20), by simp (decide := true) only [F_l_end, ↓e_v0, ↓e_v1, ↓e_v2, ↓e_v3, ↓e_v4, ↓e_v5, ↓e_v6, ↓e_v7, ↓e_v8, ↓e_v9, ↓e_v10, ↓e_v11, ↓e_v12, ↓e_v13, ↓e_v14, ↓e_v15, ↓e_v16, ↓e_v17, ↓e_v18, ↓e_v19, ↓e_v20, ↓e_v21, ↓e_v22, ↓e_v23, ↓e_v24, ↓e_v25, ↓e_v26, ↓e_v27, ↓e_v28, ↓e_v29, ↓e_k, ↓e_gl, ↓e_op2, ↓e_rep, ↓e_neg, ↓e_cmp, ↓e_ch, ↓e_bop, ↓e_nt, ↓e_ife, ↓e_tup, ↓e_lst, ↓e_ix, ↓e_sl, ↓e_fld, ↓e_call, ↓e_mk, ↓e_mth, ↓e_bi, ↓e_bm, ↓e_sortk, ↓e_isi, ↓e_comp, ↓e_d0, ↓e_rng, ↓e_zip, ↓e_rev, ↓es_n, ↓es_c, ↓eO_n, ↓eO_s, ↓eB_1, ↓eB_c, ↓q_n, ↓q_1, ↓q_c, ↓z_set, ↓z_unp, ↓z_ex, ↓z_ret, ↓z_retN, ↓z_ife, ↓z_for, ↓z_whil, ↓z_brk, ↓z_cnt, ↓z_pas, ↓z_rais, ↓z_mvs, ↓z_tr, ↓h_n, ↓h_c, ↓k2_, ↓j_op2_, ↓j_rep_, ↓j_neg_, ↓j_cmp_, ↓j_ch2_, ↓j_ch3_, ↓j_nt_, ↓j_tup_, ↓j_lst_, ↓j_ix_, ↓j_sl_, ↓j_sl2_, ↓j_sl3_, ↓j_mth_, ↓j_mth2_, ↓j_bi_, ↓j_bm_, ↓j_bm2_, ↓j_isi_, ↓j_lok_, ↓j_comp_, ↓j_rng_, ↓j_zip_, ↓j_rev_, ↓j_cons_, ↓k_es_, ↓z_setK_, ↓z_unpK_, ↓z_exK_, ↓z_forK_, ↓k_mu_, ↓z_mu0, ↓z_mu1, ↓z_mu2, ↓z_mu3, ↓z_mu4, ↓z_mu5, ↓z_mu6, ↓z_mu7, ↓z_mu8, ↓z_mu9, ↓z_mu10, ↓z_mu11, ↓z_mu12, ↓z_mu13, ↓z_mu14, ↓z_mu15, ↓z_mu16, ↓z_mu17, ↓z_mu18, ↓z_mu19, ↓z_mu20, ↓z_mu21, ↓z_mu22, ↓z_mu23, ↓z_mu24, ↓z_mu25, ↓z_mu26, ↓z_mu27, ↓z_mu28, ↓z_mu29, ty_int_int, ty_int_bool, ty_int_str, ty_int_list, ty_int_tuple, ty_int_dict, ty_bool_int, ty_bool_bool, ty_bool_str, ty_bool_list, ty_bool_tuple, ty_bool_dict, ty_str_int, ty_str_bool, ty_str_str, ty_str_list, ty_str_tuple, ty_str_dict, ty_list_int, ty_list_bool, ty_list_str, ty_list_list, ty_list_tuple, ty_list_dict, ty_tuple_int, ty_tuple_bool, ty_tuple_str, ty_tuple_list, ty_tuple_tuple, ty_tuple_dict, ty_dict_int, ty_dict_bool, ty_dict_str, ty_dict_list, ty_dict_tuple, ty_dict_dict, st_0, st_1, st_2, st_3, st_4, st_5, st_6, st_7, st_8, st_9, st_10, st_11, st_12, st_13, st_14, st_15, st_16, st_17, st_18, st_19, st_20, st_21, st_22, st_23, st_24, st_25, st_26, st_27, st_28, st_29, b_ok, b_exn, t_ok, t_exn, of_some, sq_nx, sq_ret, sq_exn, sq_brk, sq_cnt, obl_some, ob_ret, ob_nx, ob_exn, j_rep2_, j_ife_, z_ifeK_, chV_b, szt_t, compV_some, cpR_ok, cB_one, cB_many, cB_cd1, cdX_ok, lstO_some, zipV_l, revV_l, intO_i, bB_tt, bB_tf, bB_ft, bB_ff, bB_t, bB_f, unpV_t, nxO_s, forV_s, fB_one, fB_many, bm_n, bm_c, mvR_nx, mvR_ret, mvR_exn, dE_n, dE_c, trR_nx, trR_ret, trR_exn, caR_t, caR_f, unAs_nx, unAs_ret, aS_s, aS_n, muO_s, muK_t, ma_app, ma_ext, ma_clr, ma_rev, ma_set, md_app, md_ext, md_clr, md_rev, md_set, cn_i, cn_b, cn_n, cn_s, forL_n, compL_n, j_fld_, at_5, at_6, at_7, at_8, at_9, at_10, at_11, is_bb, bbtt, bbtf, bbft, bbff, beq_self_eq_true, mulOk_small, mulOk_small2, Bool.or_true, Bool.or_false, Bool.true_or, Bool.false_or, Bool.and_true, Bool.true_and, startE, eqV_int, eqV_str, op_add, op_sub, op_mul, op_fdiv, op_fdivN, op_mod, op_pow, op_addS, op_addL, de_non, de_bl, de_int, de_str, de_tup, de_lst, de_exc, de_scr, de_obj, cp_lt, cp_le, cp_gt, cp_ge, cp_eq, cp_ne, cp_isn, cp_isnt, cp_in, cp_nin, no_some, is_non, nb_non, nb_int, nb_bl, nb_tup, nb_lst, nb_str, eq_nn, eq_ni, eq_in, eq_bb, ix_lst, ix_tup, ix_scr, at_0, at_1, at_2, at_3, at_4, bi_lenL, bi_lenT, bi_lenC, bi_abs, bi_min2, bi_max2, bi_listL, bi_listT, ty_int, ty_bl, ty_non, ty_str, ty_lst, ty_tup, ty_exV, it_lst, it_tup, mu_app, mu_ext, mt_app, mt_ext, mt_clr, mt_rev, mt_set, mu_clr, mu_rev, List.map_cons, List.map_nil, List.length_cons, List.length_nil, List.cons_append, List.nil_append, List.replicate, Nat.reduceSub, Nat.reduceAdd, ↓reduceIte, if_true, if_false, Bool.false_eq_true, decide_eq_true_eq, decide_true, decide_false, Bool.not_true, Bool.not_false, reduceCtorEq, ite_true, ite_false, Int.reduceLT, Int.reduceLE, Int.reducePow, Int.reduceMul, Int.reduceAdd, Int.reduceSub, Int.reduceToNat, Nat.reduceLT, Nat.reducePow, and_self, and_true, true_and, Int.reduceNeg, Int.reduceEq, szb1, szb2, szb3, szb0, szb4, szb5, szb6, szb7, szb8, szb9, szb10, szb11, szb12, szb13, szb14, szb15, szb16, szb17, szb18, szb19, szb20, szb21, szb22, szb23, szb24, szb25, szb26, szb27, szb28, szb29, szb30, szb31, szb32, szb33, szb34, szb35, szb36, szb37, szb38, szb39, h, h2, fd, oV_s]⟩
    · exact ⟨some (c / 5 % 10 ^ 30 * 48271 ^ 11 % (2 * 10 ^ 50 + 1) - 10 ^ 50), by simp (decide := true) only [F_l_end, ↓e_v0, ↓e_v1, ↓e_v2, ↓e_v3, ↓e_v4, ↓e_v5, ↓e_v6, ↓e_v7, ↓e_v8, ↓e_v9, ↓e_v10, ↓e_v11, ↓e_v12, ↓e_v13, ↓e_v14, ↓e_v15, ↓e_v16, ↓e_v17, ↓e_v18, ↓e_v19, ↓e_v20, ↓e_v21, ↓e_v22, ↓e_v23, ↓e_v24, ↓e_v25, ↓e_v26, ↓e_v27, ↓e_v28, ↓e_v29, ↓e_k, ↓e_gl, ↓e_op2, ↓e_rep, ↓e_neg, ↓e_cmp, ↓e_ch, ↓e_bop, ↓e_nt, ↓e_ife, ↓e_tup, ↓e_lst, ↓e_ix, ↓e_sl, ↓e_fld, ↓e_call, ↓e_mk, ↓e_mth, ↓e_bi, ↓e_bm, ↓e_sortk, ↓e_isi, ↓e_comp, ↓e_d0, ↓e_rng, ↓e_zip, ↓e_rev, ↓es_n, ↓es_c, ↓eO_n, ↓eO_s, ↓eB_1, ↓eB_c, ↓q_n, ↓q_1, ↓q_c, ↓z_set, ↓z_unp, ↓z_ex, ↓z_ret, ↓z_retN, ↓z_ife, ↓z_for, ↓z_whil, ↓z_brk, ↓z_cnt, ↓z_pas, ↓z_rais, ↓z_mvs, ↓z_tr, ↓h_n, ↓h_c, ↓k2_, ↓j_op2_, ↓j_rep_, ↓j_neg_, ↓j_cmp_, ↓j_ch2_, ↓j_ch3_, ↓j_nt_, ↓j_tup_, ↓j_lst_, ↓j_ix_, ↓j_sl_, ↓j_sl2_, ↓j_sl3_, ↓j_mth_, ↓j_mth2_, ↓j_bi_, ↓j_bm_, ↓j_bm2_, ↓j_isi_, ↓j_lok_, ↓j_comp_, ↓j_rng_, ↓j_zip_, ↓j_rev_, ↓j_cons_, ↓k_es_, ↓z_setK_, ↓z_unpK_, ↓z_exK_, ↓z_forK_, ↓k_mu_, ↓z_mu0, ↓z_mu1, ↓z_mu2, ↓z_mu3, ↓z_mu4, ↓z_mu5, ↓z_mu6, ↓z_mu7, ↓z_mu8, ↓z_mu9, ↓z_mu10, ↓z_mu11, ↓z_mu12, ↓z_mu13, ↓z_mu14, ↓z_mu15, ↓z_mu16, ↓z_mu17, ↓z_mu18, ↓z_mu19, ↓z_mu20, ↓z_mu21, ↓z_mu22, ↓z_mu23, ↓z_mu24, ↓z_mu25, ↓z_mu26, ↓z_mu27, ↓z_mu28, ↓z_mu29, ty_int_int, ty_int_bool, ty_int_str, ty_int_list, ty_int_tuple, ty_int_dict, ty_bool_int, ty_bool_bool, ty_bool_str, ty_bool_list, ty_bool_tuple, ty_bool_dict, ty_str_int, ty_str_bool, ty_str_str, ty_str_list, ty_str_tuple, ty_str_dict, ty_list_int, ty_list_bool, ty_list_str, ty_list_list, ty_list_tuple, ty_list_dict, ty_tuple_int, ty_tuple_bool, ty_tuple_str, ty_tuple_list, ty_tuple_tuple, ty_tuple_dict, ty_dict_int, ty_dict_bool, ty_dict_str, ty_dict_list, ty_dict_tuple, ty_dict_dict, st_0, st_1, st_2, st_3, st_4, st_5, st_6, st_7, st_8, st_9, st_10, st_11, st_12, st_13, st_14, st_15, st_16, st_17, st_18, st_19, st_20, st_21, st_22, st_23, st_24, st_25, st_26, st_27, st_28, st_29, b_ok, b_exn, t_ok, t_exn, of_some, sq_nx, sq_ret, sq_exn, sq_brk, sq_cnt, obl_some, ob_ret, ob_nx, ob_exn, j_rep2_, j_ife_, z_ifeK_, chV_b, szt_t, compV_some, cpR_ok, cB_one, cB_many, cB_cd1, cdX_ok, lstO_some, zipV_l, revV_l, intO_i, bB_tt, bB_tf, bB_ft, bB_ff, bB_t, bB_f, unpV_t, nxO_s, forV_s, fB_one, fB_many, bm_n, bm_c, mvR_nx, mvR_ret, mvR_exn, dE_n, dE_c, trR_nx, trR_ret, trR_exn, caR_t, caR_f, unAs_nx, unAs_ret, aS_s, aS_n, muO_s, muK_t, ma_app, ma_ext, ma_clr, ma_rev, ma_set, md_app, md_ext, md_clr, md_rev, md_set, cn_i, cn_b, cn_n, cn_s, forL_n, compL_n, j_fld_, at_5, at_6, at_7, at_8, at_9, at_10, at_11, is_bb, bbtt, bbtf, bbft, bbff, beq_self_eq_true, mulOk_small, mulOk_small2, Bool.or_true, Bool.or_false, Bool.true_or, Bool.false_or, Bool.and_true, Bool.true_and, startE, eqV_int, eqV_str, op_add, op_sub, op_mul, op_fdiv, op_fdivN, op_mod, op_pow, op_addS, op_addL, de_non, de_bl, de_int, de_str, de_tup, de_lst, de_exc, de_scr, de_obj, cp_lt, cp_le, cp_gt, cp_ge, cp_eq, cp_ne, cp_isn, cp_isnt, cp_in, cp_nin, no_some, is_non, nb_non, nb_int, nb_bl, nb_tup, nb_lst, nb_str, eq_nn, eq_ni, eq_in, eq_bb, ix_lst, ix_tup, ix_scr, at_0, at_1, at_2, at_3, at_4, bi_lenL, bi_lenT, bi_lenC, bi_abs, bi_min2, bi_max2, bi_listL, bi_listT, ty_int, ty_bl, ty_non, ty_str, ty_lst, ty_tup, ty_exV, it_lst, it_tup, mu_app, mu_ext, mt_app, mt_ext, mt_clr, mt_rev, mt_set, mu_clr, mu_rev, List.map_cons, List.map_nil, List.length_cons, List.length_nil, List.cons_append, List.nil_append, List.replicate, Nat.reduceSub, Nat.reduceAdd, ↓reduceIte, if_true, if_false, Bool.false_eq_true, decide_eq_true_eq, decide_true, decide_false, Bool.not_true, Bool.not_false, reduceCtorEq, ite_true, ite_false, Int.reduceLT, Int.reduceLE, Int.reducePow, Int.reduceMul, Int.reduceAdd, Int.reduceSub, Int.reduceToNat, Nat.reduceLT, Nat.reducePow, and_self, and_true, true_and, Int.reduceNeg, Int.reduceEq, szb1, szb2, szb3, szb0, szb4, szb5, szb6, szb7, szb8, szb9, szb10, szb11, szb12, szb13, szb14, szb15, szb16, szb17, szb18, szb19, szb20, szb21, szb22, szb23, szb24, szb25, szb26, szb27, szb28, szb29, szb30, szb31, szb32, szb33, szb34, szb35, szb36, szb37, szb38, szb39, h, h2, fd, m1, oV_s]⟩
theorem r_size {c : Int} : ∃ o : Int, run G wfN (n + 1) 25 [.int c] S = .ok (.int o) S := by
  rw [run_unf (F := F_l_size) rfl rfl rfl]
  have fd : fdivOk 2 = true := by decide
  have m1 : mulOk (c / 2 % 10 ^ 30) (48271 ^ 11) = true := mulOk_of (a := 100) (b := 200) (by omega) (by decide) (by decide) (by decide) (by decide)
  simp only [Int.reducePow] at m1
  by_cases h : c % 2 = 0
  · exact ⟨c / 2 % 21, by simp (decide := true) only [F_l_size, ↓e_v0, ↓e_v1, ↓e_v2, ↓e_v3, ↓e_v4, ↓e_v5, ↓e_v6, ↓e_v7, ↓e_v8, ↓e_v9, ↓e_v10, ↓e_v11, ↓e_v12, ↓e_v13, ↓e_v14, ↓e_v15, ↓e_v16, ↓e_v17, ↓e_v18, ↓e_v19, ↓e_v20, ↓e_v21, ↓e_v22, ↓e_v23, ↓e_v24, ↓e_v25, ↓e_v26, ↓e_v27, ↓e_v28, ↓e_v29, ↓e_k, ↓e_gl, ↓e_op2, ↓e_rep, ↓e_neg, ↓e_cmp, ↓e_ch, ↓e_bop, ↓e_nt, ↓e_ife, ↓e_tup, ↓e_lst, ↓e_ix, ↓e_sl, ↓e_fld, ↓e_call, ↓e_mk, ↓e_mth, ↓e_bi, ↓e_bm, ↓e_sortk, ↓e_isi, ↓e_comp, ↓e_d0, ↓e_rng, ↓e_zip, ↓e_rev, ↓es_n, ↓es_c, ↓eO_n, ↓eO_s, ↓eB_1, ↓eB_c, ↓q_n, ↓q_1, ↓q_c, ↓z_set, ↓z_unp, ↓z_ex, ↓z_ret, ↓z_retN, ↓z_ife, ↓z_for, ↓z_whil, ↓z_brk, ↓z_cnt, ↓z_pas, ↓z_rais, ↓z_mvs, ↓z_tr, ↓h_n, ↓h_c, ↓k2_, ↓j_op2_, ↓j_rep_, ↓j_neg_, ↓j_cmp_, ↓j_ch2_, ↓j_ch3_, ↓j_nt_, ↓j_tup_, ↓j_lst_, ↓j_ix_, ↓j_sl_, ↓j_sl2_, ↓j_sl3_, ↓j_mth_, ↓j_mth2_, ↓j_bi_, ↓j_bm_, ↓j_bm2_, ↓j_isi_, ↓j_lok_, ↓j_comp_, ↓j_rng_, ↓j_zip_, ↓j_rev_, ↓j_cons_, ↓k_es_, ↓z_setK_, ↓z_unpK_, ↓z_exK_, ↓z_forK_, ↓k_mu_, ↓z_mu0, ↓z_mu1, ↓z_mu2, ↓z_mu3, ↓z_mu4, ↓z_mu5, ↓z_mu6, ↓z_mu7, ↓z_mu8, ↓z_mu9, ↓z_mu10, ↓z_mu11, ↓z_mu12, ↓z_mu13, ↓z_mu14, ↓z_mu15, ↓z_mu16, ↓z_mu17, ↓z_mu18, ↓z_mu19, ↓z_mu20, ↓z_mu21, ↓z_mu22, ↓z_mu23, ↓z_mu24, ↓z_mu25, ↓z_mu26, ↓z_mu27, ↓z_mu28, ↓z_mu29, ty_int_int, ty_int_bool, ty_int_str, ty_int_list, ty_int_tuple, ty_int_dict, ty_bool_int, ty_bool_bool, ty_bool_str, ty_bool_list, ty_bool_tuple, ty_bool_dict, ty_str_int, ty_str_bool, ty_str_str, ty_str_list, ty_str_tuple, ty_str_dict, ty_list_int, ty_list_bool, ty_list_str, ty_list_list, ty_list_tuple, ty_list_dict, ty_tuple_int, ty_tuple_bool, ty_tuple_str, ty_tuple_list, ty_tuple_tuple, ty_tuple_dict, ty_dict_int, ty_dict_bool, ty_dict_str, ty_dict_list, ty_dict_tuple, ty_dict_dict, st_0, st_1, st_2, st_3, st_4, st_5, st_6, st_7, st_8, st_9, st_10, st_11, st_12, st_13, st_14, st_15, st_16, st_17, st_18, st_19, st_20, st_21, st_22, st_23, st_24, st_25, st_26, st_27, st_28, st_29, b_ok, b_exn, t_ok, t_exn, of_some, sq_nx, sq_ret, sq_exn, sq_brk, sq_cnt, obl_some, ob_ret, ob_nx, ob_exn, j_rep2_, j_ife_, z_ifeK_, chV_b, szt_t, compV_some, cpR_ok, cB_one, cB_many, cB_cd1, cdX_ok, lstO_some, zipV_l, revV_l, intO_i, bB_tt, bB_tf, bB_ft, bB_ff, bB_t, bB_f, unpV_t, nxO_s, forV_s, fB_one, fB_many, bm_n, bm_c, mvR_nx, mvR_ret, mvR_exn, dE_n, dE_c, trR_nx, trR_ret, trR_exn, caR_t, caR_f, unAs_nx, unAs_ret, aS_s, aS_n, muO_s, muK_t, ma_app, ma_ext, ma_clr, ma_rev, ma_set, md_app, md_ext, md_clr, md_rev, md_set, cn_i, cn_b, cn_n, cn_s, forL_n, compL_n, j_fld_, at_5, at_6, at_7, at_8, at_9, at_10, at_11, is_bb, bbtt, bbtf, bbft, bbff, beq_self_eq_true, mulOk_small, mulOk_small2, Bool.or_true, Bool.or_false, Bool.true_or, Bool.false_or, Bool.and_true, Bool.true_and, startE, eqV_int, eqV_str, op_add, op_sub, op_mul, op_fdiv, op_fdivN, op_mod, op_pow, op_addS, op_addL, de_non, de_bl, de_int, de_str, de_tup, de_lst, de_exc, de_scr, de_obj, cp_lt, cp_le, cp_gt, cp_ge, cp_eq, cp_ne, cp_isn, cp_isnt, cp_in, cp_nin, no_some, is_non, nb_non, nb_int, nb_bl, nb_tup, nb_lst, nb_str, eq_nn, eq_ni, eq_in, eq_bb, ix_lst, ix_tup, ix_scr, at_0, at_1, at_2, at_3, at_4, bi_lenL, bi_lenT, bi_lenC, bi_abs, bi_min2, bi_max2, bi_listL, bi_listT, ty_int, ty_bl, ty_non, ty_str, ty_lst, ty_tup, ty_exV, it_lst, it_tup, mu_app, mu_ext, mt_app, mt_ext, mt_clr, mt_rev, mt_set, mu_clr, mu_rev, List.map_cons, List.map_nil, List.length_cons, List.length_nil, List.cons_append, List.nil_append, List.replicate, Nat.reduceSub, Nat.reduceAdd, ↓reduceIte, if_true, if_false, Bool.false_eq_true, decide_eq_true_eq, decide_true, decide_false, Bool.not_true, Bool.not_false, reduceCtorEq, ite_true, ite_false, Int.reduceLT, Int.reduceLE, Int.reducePow, Int.reduceMul, Int.reduceAdd, Int.reduceSub, Int.reduceToNat, Nat.reduceLT, Nat.reducePow, and_self, and_true, true_and, Int.reduceNeg, Int.reduceEq, szb1, szb2, szb3, szb0, szb4, szb5, szb6, szb7, szb8, szb9, szb10, szb11, szb12, szb13, szb14, szb15, szb16, szb17, szb18, szb19, szb20, szb21, szb22, szb23, szb24, szb25, szb26, szb27, szb28, szb29, szb30, szb31, szb32, szb33, szb34, szb35, szb36, szb37, szb38, szb39, h, fd]⟩
  · exact ⟨c / 2 % 10 ^ 30 * 48271 ^ 11 % (10 ^ 50 + 1), by simp (decide := true) only [F_l_size, ↓e_v0, ↓e_v1, ↓e_v2, ↓e_v3, ↓e_v4, ↓e_v5, ↓e_v6, ↓e_v7, ↓e_v8, ↓e_v9, ↓e_v10, ↓e_v11, ↓e_v12, ↓e_v13, ↓e_v14, ↓e_v15, ↓e_v16, ↓e_v17, ↓e_v18, ↓e_v19, ↓e_v20, ↓e_v21, ↓e_v22, ↓e_v23, ↓e_v24, ↓e_v25, ↓e_v26, ↓e_v27, ↓e_v28, ↓e_v29, ↓e_k, ↓e_gl, ↓e_op2, ↓e_rep, ↓e_neg, ↓e_cmp, ↓e_ch, ↓e_bop, ↓e_nt, ↓e_ife, ↓e_tup, ↓e_lst, ↓e_ix, ↓e_sl, ↓e_fld, ↓e_call, ↓e_mk, ↓e_mth, ↓e_bi, ↓e_bm, ↓e_sortk, ↓e_isi, ↓e_comp, ↓e_d0, ↓e_rng, ↓e_zip, ↓e_rev, ↓es_n, ↓es_c, ↓eO_n, ↓eO_s, ↓eB_1, ↓eB_c, ↓q_n, ↓q_1, ↓q_c, ↓z_set, ↓z_unp, ↓z_ex, ↓z_ret, ↓z_retN, ↓z_ife, ↓z_for, ↓z_whil, ↓z_brk, ↓z_cnt, ↓z_pas, ↓z_rais, ↓z_mvs, ↓z_tr, ↓h_n, ↓h_c, ↓k2_, ↓j_op2_, ↓j_rep_, ↓j_neg_, ↓j_cmp_, ↓j_ch2_, ↓j_ch3_, ↓j_nt_, ↓j_tup_, ↓j_lst_, ↓j_ix_, ↓j_sl_, ↓j_sl2_, ↓j_sl3_, ↓j_mth_, ↓j_mth2_, ↓j_bi_, ↓j_bm_, ↓j_bm2_, ↓j_isi_, ↓j_lok_, ↓j_comp_, ↓j_rng_, ↓j_zip_, ↓j_rev_, ↓j_cons_, ↓k_es_, ↓z_setK_, ↓z_unpK_, ↓z_exK_, ↓z_forK_, ↓k_mu_, ↓z_mu0, ↓z_mu1, ↓z_mu2, ↓z_mu3, ↓z_mu4, ↓z_mu5, ↓z_mu6, ↓z_mu7, ↓z_mu8, ↓z_mu9, ↓z_mu10, ↓z_mu11, ↓z_mu12, ↓z_mu13, ↓z_mu14, ↓z_mu15, ↓z_mu16, ↓z_mu17, ↓z_mu18, ↓z_mu19, ↓z_mu20, ↓z_mu21, ↓z_mu22, ↓z_mu23, ↓z_mu24, ↓z_mu25, ↓z_mu26, ↓z_mu27, ↓z_mu28, ↓z_mu29, ty_int_int, ty_int_bool, ty_int_str, ty_int_list, ty_int_tuple, ty_int_dict, ty_bool_int, ty_bool_bool, ty_bool_str, ty_bool_list, ty_bool_tuple, ty_bool_dict, ty_str_int, ty_str_bool, ty_str_str, ty_str_list, ty_str_tuple, ty_str_dict, ty_list_int, ty_list_bool, ty_list_str, ty_list_list, ty_list_tuple, ty_list_dict, ty_tuple_int, ty_tuple_bool, ty_tuple_str, ty_tuple_list, ty_tuple_tuple, ty_tuple_dict, ty_dict_int, ty_dict_bool, ty_dict_str, ty_dict_list, ty_dict_tuple, ty_dict_dict, st_0, st_1, st_2, st_3, st_4, st_5, st_6, st_7, st_8, st_9, st_10, st_11, st_12, st_13, st_14, st_15, st_16, st_17, st_18, st_19, st_20, st_21, st_22, st_23, st_24, st_25, st_26, st_27, st_28, st_29, b_ok, b_exn, t_ok, t_exn, of_some, sq_nx, sq_ret, sq_exn, sq_brk, sq_cnt, obl_some, ob_ret, ob_nx, ob_exn, j_rep2_, j_ife_, z_ifeK_, chV_b, szt_t, compV_some, cpR_ok, cB_one, cB_many, cB_cd1, cdX_ok, lstO_some, zipV_l, revV_l, intO_i, bB_tt, bB_tf, bB_ft, bB_ff, bB_t, bB_f, unpV_t, nxO_s, forV_s, fB_one, fB_many, bm_n, bm_c, mvR_nx, mvR_ret, mvR_exn, dE_n, dE_c, trR_nx, trR_ret, trR_exn, caR_t, caR_f, unAs_nx, unAs_ret, aS_s, aS_n, muO_s, muK_t, ma_app, ma_ext, ma_clr, ma_rev, ma_set, md_app, md_ext, md_clr, md_rev, md_set, cn_i, cn_b, cn_n, cn_s, forL_n, compL_n, j_fld_, at_5, at_6, at_7, at_8, at_9, at_10, at_11, is_bb, bbtt, bbtf, bbft, bbff, beq_self_eq_true, mulOk_small, mulOk_small2, Bool.or_true, Bool.or_false, Bool.true_or, Bool.false_or, Bool.and_true, Bool.true_and, startE, eqV_int, eqV_str, op_add, op_sub, op_mul, op_fdiv, op_fdivN, op_mod, op_pow, op_addS, op_addL, de_non, de_bl, de_int, de_str, de_tup, de_lst, de_exc, de_scr, de_obj, cp_lt, cp_le, cp_gt, cp_ge, cp_eq, cp_ne, cp_isn, cp_isnt, cp_in, cp_nin, no_some, is_non, nb_non, nb_int, nb_bl, nb_tup, nb_lst, nb_str, eq_nn, eq_ni, eq_in, eq_bb, ix_lst, ix_tup, ix_scr, at_0, at_1, at_2, at_3, at_4, bi_lenL, bi_lenT, bi_lenC, bi_abs, bi_min2, bi_max2, bi_listL, bi_listT, ty_int, ty_bl, ty_non, ty_str, ty_lst, ty_tup, ty_exV, it_lst, it_tup, mu_app, mu_ext, mt_app, mt_ext, mt_clr, mt_rev, mt_set, mu_clr, mu_rev, List.map_cons, List.map_nil, List.length_cons, List.length_nil, List.cons_append, List.nil_append, List.replicate, Nat.reduceSub, Nat.reduceAdd, ↓reduceIte, if_true, if_false, Bool.false_eq_true, decide_eq_true_eq, decide_true, decide_false, Bool.not_true, Bool.not_false, reduceCtorEq, ite_true, ite_false, Int.reduceLT, Int.reduceLE, Int.reducePow, Int.reduceMul, Int.reduceAdd, Int.reduceSub, Int.reduceToNat, Nat.reduceLT, Nat.reducePow, and_self, and_true, true_and, Int.reduceNeg, Int.reduceEq, szb1, szb2, szb3, szb0, szb4, szb5, szb6, szb7, szb8, szb9, szb10, szb11, szb12, szb13, szb14, szb15, szb16, szb17, szb18, szb19, szb20, szb21, szb22, szb23, szb24, szb25, szb26, szb27, szb28, szb29, szb30, szb31, szb32, szb33, szb34, szb35, szb36, szb37, szb38, szb39, h, fd, m1]⟩
theorem r_asked : run G wfN (n + 3) 31 [encO p, encO q, .int b] S = .ok (.bl true) S := by
  rw [run_unf (F := F_l_asked) rfl rfl rfl]
  have rc := r_common (n := n + 1) (p := p) (q := q) (S := S)
  have m1 := r_meet (n := n + 1) (p := p) (q := q) (S := S)
  have m2 := r_meet (n := n + 1) (p := q) (q := p) (S := S)
  rw [meet_comm (p := p) (q := q)] at m2
  have al := r_alikeM (n := n) (p := p) (q := q) (S := S)
  have w1 := r_widened (n := n + 1) (p := p) (b := b) (S := S)
  have w2 := r_putout (n := n + 1) (p := p) (b := b) (S := S)
  have wl := r_alikeO (n := n) (p := widO p b) (S := S)
  have i0 : ∀ o : Option Int × Option Int, L2.atI [oV o.1, oV o.2] 0 = some (oV o.1) := fun _ => at_0
  -- the numbers
  obtain ⟨ρ1, S1, e1, rfl, N, y, hN, rfl⟩ := forL_idx (f := forB ⟨G, wfN, run G wfN (n + 2), runI G wfN (n + 2)⟩ (.one 5) [(.ife (.cmp .isnt (.v 5) (.k .non)) [(.mu (.slot 4) (.ext (.lst [(.op2 .sub (.v 5) (.k (.int 1))), (.v 5), (.op2 .add (.v 5) (.k (.int 1)))])))] [])])
    (fun m ρ1 S1 => S1 = S ∧ ∃ (N : List Int) (y : Option Val), N.length ≤ 2 + 3 * m ∧ ρ1 = [some (encO p), some (encO q), some (.int b), some (meetV p q), some (.lst (N.map .int)), y, none, none])
    ([p.1, p.2, q.1, q.2].map oV) 0 [some (encO p), some (encO q), some (.int b), some (meetV p q), some (.lst [.int 0, .int b]), none, none, none] S
    (by
      rintro m hm ρ S1 ⟨rfl, N, y, hN, rfl⟩
      rw [List.length_map] at hm
      simp only [List.length_cons, List.length_nil] at hm
      rw [List.getElem_map]
      generalize [p.1, p.2, q.1, q.2][m] = o
      rw [Nat.zero_add] at hN ⊢
      cases o with
      | none =>
        refine ⟨[some (encO p), some (encO q), some (.int b), some (meetV p q), some (.lst (N.map .int)), some .non, none, none], _, .inl ?_, rfl, N, _, by omega, rfl⟩
        simp (decide := true) only [↓e_v0, ↓e_v1, ↓e_v2, ↓e_v3, ↓e_v4, ↓e_v5, ↓e_v6, ↓e_v7, ↓e_v8, ↓e_v9, ↓e_v10, ↓e_v11, ↓e_v12, ↓e_v13, ↓e_v14, ↓e_v15, ↓e_v16, ↓e_v17, ↓e_v18, ↓e_v19, ↓e_v20, ↓e_v21, ↓e_v22, ↓e_v23, ↓e_v24, ↓e_v25, ↓e_v26, ↓e_v27, ↓e_v28, ↓e_v29, ↓e_k, ↓e_gl, ↓e_op2, ↓e_rep, ↓e_neg, ↓e_cmp, ↓e_ch, ↓e_bop, ↓e_nt, ↓e_ife, ↓e_tup, ↓e_lst, ↓e_ix, ↓e_sl, ↓e_fld, ↓e_call, ↓e_mk, ↓e_mth, ↓e_bi, ↓e_bm, ↓e_sortk, ↓e_isi, ↓e_comp, ↓e_d0, ↓e_rng, ↓e_zip, ↓e_rev, ↓es_n, ↓es_c, ↓eO_n, ↓eO_s, ↓eB_1, ↓eB_c, ↓q_n, ↓q_1, ↓q_c, ↓z_set, ↓z_unp, ↓z_ex, ↓z_ret, ↓z_retN, ↓z_ife, ↓z_for, ↓z_whil, ↓z_brk, ↓z_cnt, ↓z_pas, ↓z_rais, ↓z_mvs, ↓z_tr, ↓h_n, ↓h_c, ↓k2_, ↓j_op2_, ↓j_rep_, ↓j_neg_, ↓j_cmp_, ↓j_ch2_, ↓j_ch3_, ↓j_nt_, ↓j_tup_, ↓j_lst_, ↓j_ix_, ↓j_sl_, ↓j_sl2_, ↓j_sl3_, ↓j_mth_, ↓j_mth2_, ↓j_bi_, ↓j_bm_, ↓j_bm2_, ↓j_isi_, ↓j_lok_, ↓j_comp_, ↓j_rng_, ↓j_zip_, ↓j_rev_, ↓j_cons_, ↓k_es_, ↓z_setK_, ↓z_unpK_, ↓z_exK_, ↓z_forK_, ↓k_mu_, ↓z_mu0, ↓z_mu1, ↓z_mu2, ↓z_mu3, ↓z_mu4, ↓z_mu5, ↓z_mu6, ↓z_mu7, ↓z_mu8, ↓z_mu9, ↓z_mu10, ↓z_mu11, ↓z_mu12, ↓z_mu13, ↓z_mu14, ↓z_mu15, ↓z_mu16, ↓z_mu17, ↓z_mu18, ↓z_mu19, ↓z_mu20, ↓z_mu21, ↓z_mu22, ↓z_mu23, ↓z_mu24, ↓z_mu25, ↓z_mu26, ↓z_mu27, ↓z_mu28, ↓z_mu29, ty_int_int, ty_int_bool, ty_int_str, ty_int_list, ty_int_tuple, ty_int_dict, ty_bool_int, ty_bool_bool, ty_bool_str, ty_bool_list, ty_bool_tuple, ty_bool_dict, ty_str_int, ty_str_bool, ty_str_str, ty_str_list, ty_str_tuple, ty_str_dict, ty_list_int, ty_list_bool, ty_list_str, ty_list_list, ty_list_tuple, ty_list_dict, ty_tuple_int, ty_tuple_bool, ty_tuple_str, ty_tuple_list, ty_tuple_tuple, ty_tuple_dict, ty_dict_int, ty_dict_bool, ty_dict_str, ty_dict_list, ty_dict_tuple, ty_dict_dict, st_0, st_1, st_2, st_3, st_4, st_5, st_6, st_7, st_8, st_9, st_10, st_11, st_12, st_13, st_14, st_15, st_16, st_17, st_18, st_19, st_20, st_21, st_22, st_23, st_24, st_25, st_26, st_27, st_28, st_29, b_ok, b_exn, t_ok, t_exn, of_some, sq_nx, sq_ret, sq_exn, sq_brk, sq_cnt, obl_some, ob_ret, ob_nx, ob_exn, j_rep2_, j_ife_, z_ifeK_, chV_b, szt_t, compV_some, cpR_ok, cB_one, cB_many, cB_cd1, cdX_ok, lstO_some, zipV_l, revV_l, intO_i, bB_tt, bB_tf, bB_ft, bB_ff, bB_t, bB_f, unpV_t, nxO_s, forV_s, fB_one, fB_many, bm_n, bm_c, mvR_nx, mvR_ret, mvR_exn, dE_n, dE_c, trR_nx, trR_ret, trR_exn, caR_t, caR_f, unAs_nx, unAs_ret, aS_s, aS_n, muO_s, muK_t, ma_app, ma_ext, ma_clr, ma_rev, ma_set, md_app, md_ext, md_clr, md_rev, md_set, cn_i, cn_b, cn_n, cn_s, forL_n, compL_n, j_fld_, at_5, at_6, at_7, at_8, at_9, at_10, at_11, is_bb, bbtt, bbtf, bbft, bbff, beq_self_eq_true, mulOk_small, mulOk_small2, Bool.or_true, Bool.or_false, Bool.true_or, Bool.false_or, Bool.and_true, Bool.true_and, startE, eqV_int, eqV_str, op_add, op_sub, op_mul, op_fdiv, op_fdivN, op_mod, op_pow, op_addS, op_addL, de_non, de_bl, de_int, de_str, de_tup, de_lst, de_exc, de_scr, de_obj, cp_lt, cp_le, cp_gt, cp_ge, cp_eq, cp_ne, cp_isn, cp_isnt, cp_in, cp_nin, no_some, is_non, nb_non, nb_int, nb_bl, nb_tup, nb_lst, nb_str, eq_nn, eq_ni, eq_in, eq_bb, ix_lst, ix_tup, ix_scr, at_0, at_1, at_2, at_3, at_4, bi_lenL, bi_lenT, bi_lenC, bi_abs, bi_min2, bi_max2, bi_listL, bi_listT, ty_int, ty_bl, ty_non, ty_str, ty_lst, ty_tup, ty_exV, it_lst, it_tup, mu_app, mu_ext, mt_app, mt_ext, mt_clr, mt_rev, mt_set, mu_clr, mu_rev, List.map_cons, List.map_nil, List.length_cons, List.length_nil, List.cons_append, List.nil_append, List.replicate, Nat.reduceSub, Nat.reduceAdd, ↓reduceIte, if_true, if_false, Bool.false_eq_true, decide_eq_true_eq, decide_true, decide_false, Bool.not_true, Bool.not_false, reduceCtorEq, ite_true, ite_false, Int.reduceLT, Int.reduceLE, Int.reducePow, Int.reduceMul, Int.reduceAdd, Int.reduceSub, Int.reduceToNat, Nat.reduceLT, Nat.reducePow, and_self, and_true, true_and, Int.reduceNeg, Int.reduceEq, szb1, szb2, szb3, szb0, szb4, szb5, szb6, szb7, szb8, szb9, szb10, szb11, szb12, szb13, szb14, szb15, szb16, szb17, szb18, szb19, szb20, szb21, szb22, szb23, szb24, szb25, szb26, szb27, szb28, szb29, szb30, szb31, szb32, szb33, szb34, szb35, szb36, szb37, szb38, szb39, oV_n]
      | some i =>
        have hz : szb ((N.map Val.int).length + 3) = true := decide_eq_true (by rw [List.length_map]; omega)
        refine ⟨[some (encO p), some (encO q), some (.int b), some (meetV p q), some (.lst ((N ++ [i - 1, i, i + 1]).map .int)), some (.int i), none, none], _, .inl ?_, rfl, N ++ [i - 1, i, i + 1], _, ?_, rfl⟩
        · rw [List.map_append]
          simp (decide := true) only [↓e_v0, ↓e_v1, ↓e_v2, ↓e_v3, ↓e_v4, ↓e_v5, ↓e_v6, ↓e_v7, ↓e_v8, ↓e_v9, ↓e_v10, ↓e_v11, ↓e_v12, ↓e_v13, ↓e_v14, ↓e_v15, ↓e_v16, ↓e_v17, ↓e_v18, ↓e_v19, ↓e_v20, ↓e_v21, ↓e_v22, ↓e_v23, ↓e_v24, ↓e_v25, ↓e_v26, ↓e_v27, ↓e_v28, ↓e_v29, ↓e_k, ↓e_gl, ↓e_op2, ↓e_rep, ↓e_neg, ↓e_cmp, ↓e_ch, ↓e_bop, ↓e_nt, ↓e_ife, ↓e_tup, ↓e_lst, ↓e_ix, ↓e_sl, ↓e_fld, ↓e_call, ↓e_mk, ↓e_mth, ↓e_bi, ↓e_bm, ↓e_sortk, ↓e_isi, ↓e_comp, ↓e_d0, ↓e_rng, ↓e_zip, ↓e_rev, ↓es_n, ↓es_c, ↓eO_n, ↓eO_s, ↓eB_1, ↓eB_c, ↓q_n, ↓q_1, ↓q_c, ↓z_set, ↓z_unp, ↓z_ex, ↓z_ret, ↓z_retN, ↓z_ife, ↓z_for, ↓z_whil, ↓z_brk, ↓z_cnt, ↓z_pas, ↓z_rais, ↓z_mvs, ↓z_tr, ↓h_n, ↓h_c, ↓k2_, ↓j_op2_, ↓j_rep_, ↓j_neg_, ↓j_cmp_, ↓j_ch2_, ↓j_ch3_, ↓j_nt_, ↓j_tup_, ↓j_lst_, ↓j_ix_, ↓j_sl_, ↓j_sl2_, ↓j_sl3_, ↓j_mth_, ↓j_mth2_, ↓j_bi_, ↓j_bm_, ↓j_bm2_, ↓j_isi_, ↓j_lok_, ↓j_comp_, ↓j_rng_, ↓j_zip_, ↓j_rev_, ↓j_cons_, ↓k_es_, ↓z_setK_, ↓z_unpK_, ↓z_exK_, ↓z_forK_, ↓k_mu_, ↓z_mu0, ↓z_mu1, ↓z_mu2, ↓z_mu3, ↓z_mu4, ↓z_mu5, ↓z_mu6, ↓z_mu7, ↓z_mu8, ↓z_mu9, ↓z_mu10, ↓z_mu11, ↓z_mu12, ↓z_mu13, ↓z_mu14, ↓z_mu15, ↓z_mu16, ↓z_mu17, ↓z_mu18, ↓z_mu19, ↓z_mu20, ↓z_mu21, ↓z_mu22, ↓z_mu23, ↓z_mu24, ↓z_mu25, ↓z_mu26, ↓z_mu27, ↓z_mu28, ↓z_mu29, ty_int_int, ty_int_bool, ty_int_str, ty_int_list, ty_int_tuple, ty_int_dict, ty_bool_int, ty_bool_bool, ty_bool_str, ty_bool_list, ty_bool_tuple, ty_bool_dict, ty_str_int, ty_str_bool, ty_str_str, ty_str_list, ty_str_tuple, ty_str_dict, ty_list_int, ty_list_bool, ty_list_str, ty_list_list, ty_list_tuple, ty_list_dict, ty_tuple_int, ty_tuple_bool, ty_tuple_str, ty_tuple_list, ty_tuple_tuple, ty_tuple_dict, ty_dict_int, ty_dict_bool, ty_dict_str, ty_dict_list, ty_dict_tuple, ty_dict_dict, st_0, st_1, st_2, st_3, st_4, st_5, st_6, st_7, st_8, st_9, st_10, st_11, st_12, st_13, st_14, st_15, st_16, st_17, st_18, st_19, st_20, st_21, st_22, st_23, st_24, st_25, st_26, st_27, st_28, st_29, b_ok, b_exn, t_ok, t_exn, of_some, sq_nx, sq_ret, sq_exn, sq_brk, sq_cnt, obl_some, ob_ret, ob_nx, ob_exn, j_rep2_, j_ife_, z_ifeK_, chV_b, szt_t, compV_some, cpR_ok, cB_one, cB_many, cB_cd1, cdX_ok, lstO_some, zipV_l, revV_l, intO_i, bB_tt, bB_tf, bB_ft, bB_ff, bB_t, bB_f, unpV_t, nxO_s, forV_s, fB_one, fB_many, bm_n, bm_c, mvR_nx, mvR_ret, mvR_exn, dE_n, dE_c, trR_nx, trR_ret, trR_exn, caR_t, caR_f, unAs_nx, unAs_ret, aS_s, aS_n, muO_s, muK_t, ma_app, ma_ext, ma_clr, ma_rev, ma_set, md_app, md_ext, md_clr, md_rev, md_set, cn_i, cn_b, cn_n, cn_s, forL_n, compL_n, j_fld_, at_5, at_6, at_7, at_8, at_9, at_10, at_11, is_bb, bbtt, bbtf, bbft, bbff, beq_self_eq_true, mulOk_small, mulOk_small2, Bool.or_true, Bool.or_false, Bool.true_or, Bool.false_or, Bool.and_true, Bool.true_and, startE, eqV_int, eqV_str, op_add, op_sub, op_mul, op_fdiv, op_fdivN, op_mod, op_pow, op_addS, op_addL, de_non, de_bl, de_int, de_str, de_tup, de_lst, de_exc, de_scr, de_obj, cp_lt, cp_le, cp_gt, cp_ge, cp_eq, cp_ne, cp_isn, cp_isnt, cp_in, cp_nin, no_some, is_non, nb_non, nb_int, nb_bl, nb_tup, nb_lst, nb_str, eq_nn, eq_ni, eq_in, eq_bb, ix_lst, ix_tup, ix_scr, at_0, at_1, at_2, at_3, at_4, bi_lenL, bi_lenT, bi_lenC, bi_abs, bi_min2, bi_max2, bi_listL, bi_listT, ty_int, ty_bl, ty_non, ty_str, ty_lst, ty_tup, ty_exV, it_lst, it_tup, mu_app, mu_ext, mt_app, mt_ext, mt_clr, mt_rev, mt_set, mu_clr, mu_rev, List.map_cons, List.map_nil, List.length_cons, List.length_nil, List.cons_append, List.nil_append, List.replicate, Nat.reduceSub, Nat.reduceAdd, ↓reduceIte, if_true, if_false, Bool.false_eq_true, decide_eq_true_eq, decide_true, decide_false, Bool.not_true, Bool.not_false, reduceCtorEq, ite_true, ite_false, Int.reduceLT, Int.reduceLE, Int.reducePow, Int.reduceMul, Int.reduceAdd, Int.reduceSub, Int.reduceToNat, Nat.reduceLT, Nat.reducePow, and_self, and_true, true_and, Int.reduceNeg, Int.reduceEq, szb1, szb2, szb3, szb0, szb4, szb5, szb6, szb7, szb8, szb9, szb10, szb11, szb12, szb13, szb14, szb15, szb16, szb17, szb18, szb19, szb20, szb21, szb22, szb23, szb24, szb25, szb26, szb27, szb28, szb29, szb30, szb31, szb32, szb33, szb34, szb35, szb36, szb37, szb38, szb39, oV_s, hz]
        · rw [List.length_append]
          simp only [List.length_cons, List.length_nil]
          omega)
    ⟨rfl, [0, b], none, by simp, rfl⟩
  obtain ⟨ρ2, S2, e2, rfl, y1, y2, rfl⟩ := forL_inv (f := forB ⟨G, wfN, run G wfN (n + 2), runI G wfN (n + 2)⟩ (.one 6) [(.set 7 (.call 21 [(.v 0), (.v 6)])), (.ife (.bop false [(.nt (.isi (.v 7) .bool)), (.cmp .ne (.v 7) (.call 28 [(.v 0), (.v 6)]))]) [(.ret (.k (.bl false)))] [])])
    (fun ρ2 S2 => S2 = S1 ∧ ∃ y1 y2 : Option Val, ρ2 = [some (encO p), some (encO q), some (.int b), some (meetV p q), some (.lst (N.map .int)), y, y1, y2])
    (N.map .int) [some (encO p), some (encO q), some (.int b), some (meetV p q), some (.lst (N.map .int)), y, none, none] S1
    (by
      rintro v hv ρ S2 ⟨rfl, y1, y2, rfl⟩
      obtain ⟨k, _, rfl⟩ := List.mem_map.mp hv
      refine ⟨[some (encO p), some (encO q), some (.int b), some (meetV p q), some (.lst (N.map .int)), y, some (.int k), some (.bl (holdsB p k))], _, .inl ?_, rfl, _, _, rfl⟩
      simp (decide := true) only [↓e_v0, ↓e_v1, ↓e_v2, ↓e_v3, ↓e_v4, ↓e_v5, ↓e_v6, ↓e_v7, ↓e_v8, ↓e_v9, ↓e_v10, ↓e_v11, ↓e_v12, ↓e_v13, ↓e_v14, ↓e_v15, ↓e_v16, ↓e_v17, ↓e_v18, ↓e_v19, ↓e_v20, ↓e_v21, ↓e_v22, ↓e_v23, ↓e_v24, ↓e_v25, ↓e_v26, ↓e_v27, ↓e_v28, ↓e_v29, ↓e_k, ↓e_gl, ↓e_op2, ↓e_rep, ↓e_neg, ↓e_cmp, ↓e_ch, ↓e_bop, ↓e_nt, ↓e_ife, ↓e_tup, ↓e_lst, ↓e_ix, ↓e_sl, ↓e_fld, ↓e_call, ↓e_mk, ↓e_mth, ↓e_bi, ↓e_bm, ↓e_sortk, ↓e_isi, ↓e_comp, ↓e_d0, ↓e_rng, ↓e_zip, ↓e_rev, ↓es_n, ↓es_c, ↓eO_n, ↓eO_s, ↓eB_1, ↓eB_c, ↓q_n, ↓q_1, ↓q_c, ↓z_set, ↓z_unp, ↓z_ex, ↓z_ret, ↓z_retN, ↓z_ife, ↓z_for, ↓z_whil, ↓z_brk, ↓z_cnt, ↓z_pas, ↓z_rais, ↓z_mvs, ↓z_tr, ↓h_n, ↓h_c, ↓k2_, ↓j_op2_, ↓j_rep_, ↓j_neg_, ↓j_cmp_, ↓j_ch2_, ↓j_ch3_, ↓j_nt_, ↓j_tup_, ↓j_lst_, ↓j_ix_, ↓j_sl_, ↓j_sl2_, ↓j_sl3_, ↓j_mth_, ↓j_mth2_, ↓j_bi_, ↓j_bm_, ↓j_bm2_, ↓j_isi_, ↓j_lok_, ↓j_comp_, ↓j_rng_, ↓j_zip_, ↓j_rev_, ↓j_cons_, ↓k_es_, ↓z_setK_, ↓z_unpK_, ↓z_exK_, ↓z_forK_, ↓k_mu_, ↓z_mu0, ↓z_mu1, ↓z_mu2, ↓z_mu3, ↓z_mu4, ↓z_mu5, ↓z_mu6, ↓z_mu7, ↓z_mu8, ↓z_mu9, ↓z_mu10, ↓z_mu11, ↓z_mu12, ↓z_mu13, ↓z_mu14, ↓z_mu15, ↓z_mu16, ↓z_mu17, ↓z_mu18, ↓z_mu19, ↓z_mu20, ↓z_mu21, ↓z_mu22, ↓z_mu23, ↓z_mu24, ↓z_mu25, ↓z_mu26, ↓z_mu27, ↓z_mu28, ↓z_mu29, ty_int_int, ty_int_bool, ty_int_str, ty_int_list, ty_int_tuple, ty_int_dict, ty_bool_int, ty_bool_bool, ty_bool_str, ty_bool_list, ty_bool_tuple, ty_bool_dict, ty_str_int, ty_str_bool, ty_str_str, ty_str_list, ty_str_tuple, ty_str_dict, ty_list_int, ty_list_bool, ty_list_str, ty_list_list, ty_list_tuple, ty_list_dict, ty_tuple_int, ty_tuple_bool, ty_tuple_str, ty_tuple_list, ty_tuple_tuple, ty_tuple_dict, ty_dict_int, ty_dict_bool, ty_dict_str, ty_dict_list, ty_dict_tuple, ty_dict_dict, st_0, st_1, st_2, st_3, st_4, st_5, st_6, st_7, st_8, st_9, st_10, st_11, st_12, st_13, st_14, st_15, st_16, st_17, st_18, st_19, st_20, st_21, st_22, st_23, st_24, st_25, st_26, st_27, st_28, st_29, b_ok, b_exn, t_ok, t_exn, of_some, sq_nx, sq_ret, sq_exn, sq_brk, sq_cnt, obl_some, ob_ret, ob_nx, ob_exn, j_rep2_, j_ife_, z_ifeK_, chV_b, szt_t, compV_some, cpR_ok, cB_one, cB_many, cB_cd1, cdX_ok, lstO_some, zipV_l, revV_l, intO_i, bB_tt, bB_tf, bB_ft, bB_ff, bB_t, bB_f, unpV_t, nxO_s, forV_s, fB_one, fB_many, bm_n, bm_c, mvR_nx, mvR_ret, mvR_exn, dE_n, dE_c, trR_nx, trR_ret, trR_exn, caR_t, caR_f, unAs_nx, unAs_ret, aS_s, aS_n, muO_s, muK_t, ma_app, ma_ext, ma_clr, ma_rev, ma_set, md_app, md_ext, md_clr, md_rev, md_set, cn_i, cn_b, cn_n, cn_s, forL_n, compL_n, j_fld_, at_5, at_6, at_7, at_8, at_9, at_10, at_11, is_bb, bbtt, bbtf, bbft, bbff, beq_self_eq_true, mulOk_small, mulOk_small2, Bool.or_true, Bool.or_false, Bool.true_or, Bool.false_or, Bool.and_true, Bool.true_and, startE, eqV_int, eqV_str, op_add, op_sub, op_mul, op_fdiv, op_fdivN, op_mod, op_pow, op_addS, op_addL, de_non, de_bl, de_int, de_str, de_tup, de_lst, de_exc, de_scr, de_obj, cp_lt, cp_le, cp_gt, cp_ge, cp_eq, cp_ne, cp_isn, cp_isnt, cp_in, cp_nin, no_some, is_non, nb_non, nb_int, nb_bl, nb_tup, nb_lst, nb_str, eq_nn, eq_ni, eq_in, eq_bb, ix_lst, ix_tup, ix_scr, at_0, at_1, at_2, at_3, at_4, bi_lenL, bi_lenT, bi_lenC, bi_abs, bi_min2, bi_max2, bi_listL, bi_listT, ty_int, ty_bl, ty_non, ty_str, ty_lst, ty_tup, ty_exV, it_lst, it_tup, mu_app, mu_ext, mt_app, mt_ext, mt_clr, mt_rev, mt_set, mu_clr, mu_rev, List.map_cons, List.map_nil, List.length_cons, List.length_nil, List.cons_append, List.nil_append, List.replicate, Nat.reduceSub, Nat.reduceAdd, ↓reduceIte, if_true, if_false, Bool.false_eq_true, decide_eq_true_eq, decide_true, decide_false, Bool.not_true, Bool.not_false, reduceCtorEq, ite_true, ite_false, Int.reduceLT, Int.reduceLE, Int.reducePow, Int.reduceMul, Int.reduceAdd, Int.reduceSub, Int.reduceToNat, Nat.reduceLT, Nat.reducePow, and_self, and_true, true_and, Int.reduceNeg, Int.reduceEq, szb1, szb2, szb3, szb0, szb4, szb5, szb6, szb7, szb8, szb9, szb10, szb11, szb12, szb13, szb14, szb15, szb16, szb17, szb18, szb19, szb20, szb21, szb22, szb23, szb24, szb25, szb26, szb27, szb28, szb29, szb30, szb31, szb32, szb33, szb34, szb35, szb36, szb37, szb38, szb39, r_holds, r_within])
    ⟨rfl, _, _, rfl⟩
  simp only [List.map_cons, List.map_nil] at e1
  have ep : encO p = .tup [oV p.1, oV p.2] := rfl
  have eq : encO q = .tup [oV q.1, oV q.2] := rfl
  have ix0 : ∀ o : Option Int × Option Int, ixV (deref S2 (encO o)) (.int 0) = some (oV o.1) := fun o => at_0
  have ix1 : ∀ o : Option Int × Option Int, ixV (deref S2 (encO o)) (.int 1) = some (oV o.2) := fun o => at_1
  simp (decide := true) only [F_l_asked, ↓e_v0, ↓e_v1, ↓e_v2, ↓e_v3, ↓e_v4, ↓e_v5, ↓e_v6, ↓e_v7, ↓e_v8, ↓e_v9, ↓e_v10, ↓e_v11, ↓e_v12, ↓e_v13, ↓e_v14, ↓e_v15, ↓e_v16, ↓e_v17, ↓e_v18, ↓e_v19, ↓e_v20, ↓e_v21, ↓e_v22, ↓e_v23, ↓e_v24, ↓e_v25, ↓e_v26, ↓e_v27, ↓e_v28, ↓e_v29, ↓e_k, ↓e_gl, ↓e_op2, ↓e_rep, ↓e_neg, ↓e_cmp, ↓e_ch, ↓e_bop, ↓e_nt, ↓e_ife, ↓e_tup, ↓e_lst, ↓e_ix, ↓e_sl, ↓e_fld, ↓e_call, ↓e_mk, ↓e_mth, ↓e_bi, ↓e_bm, ↓e_sortk, ↓e_isi, ↓e_comp, ↓e_d0, ↓e_rng, ↓e_zip, ↓e_rev, ↓es_n, ↓es_c, ↓eO_n, ↓eO_s, ↓eB_1, ↓eB_c, ↓q_n, ↓q_1, ↓q_c, ↓z_set, ↓z_unp, ↓z_ex, ↓z_ret, ↓z_retN, ↓z_ife, ↓z_for, ↓z_whil, ↓z_brk, ↓z_cnt, ↓z_pas, ↓z_rais, ↓z_mvs, ↓z_tr, ↓h_n, ↓h_c, ↓k2_, ↓j_op2_, ↓j_rep_, ↓j_neg_, ↓j_cmp_, ↓j_ch2_, ↓j_ch3_, ↓j_nt_, ↓j_tup_, ↓j_lst_, ↓j_ix_, ↓j_sl_, ↓j_sl2_, ↓j_sl3_, ↓j_mth_, ↓j_mth2_, ↓j_bi_, ↓j_bm_, ↓j_bm2_, ↓j_isi_, ↓j_lok_, ↓j_comp_, ↓j_rng_, ↓j_zip_, ↓j_rev_, ↓j_cons_, ↓k_es_, ↓z_setK_, ↓z_unpK_, ↓z_exK_, ↓z_forK_, ↓k_mu_, ↓z_mu0, ↓z_mu1, ↓z_mu2, ↓z_mu3, ↓z_mu4, ↓z_mu5, ↓z_mu6, ↓z_mu7, ↓z_mu8, ↓z_mu9, ↓z_mu10, ↓z_mu11, ↓z_mu12, ↓z_mu13, ↓z_mu14, ↓z_mu15, ↓z_mu16, ↓z_mu17, ↓z_mu18, ↓z_mu19, ↓z_mu20, ↓z_mu21, ↓z_mu22, ↓z_mu23, ↓z_mu24, ↓z_mu25, ↓z_mu26, ↓z_mu27, ↓z_mu28, ↓z_mu29, ty_int_int, ty_int_bool, ty_int_str, ty_int_list, ty_int_tuple, ty_int_dict, ty_bool_int, ty_bool_bool, ty_bool_str, ty_bool_list, ty_bool_tuple, ty_bool_dict, ty_str_int, ty_str_bool, ty_str_str, ty_str_list, ty_str_tuple, ty_str_dict, ty_list_int, ty_list_bool, ty_list_str, ty_list_list, ty_list_tuple, ty_list_dict, ty_tuple_int, ty_tuple_bool, ty_tuple_str, ty_tuple_list, ty_tuple_tuple, ty_tuple_dict, ty_dict_int, ty_dict_bool, ty_dict_str, ty_dict_list, ty_dict_tuple, ty_dict_dict, st_0, st_1, st_2, st_3, st_4, st_5, st_6, st_7, st_8, st_9, st_10, st_11, st_12, st_13, st_14, st_15, st_16, st_17, st_18, st_19, st_20, st_21, st_22, st_23, st_24, st_25, st_26, st_27, st_28, st_29, b_ok, b_exn, t_ok, t_exn, of_some, sq_nx, sq_ret, sq_exn, sq_brk, sq_cnt, obl_some, ob_ret, ob_nx, ob_exn, j_rep2_, j_ife_, z_ifeK_, chV_b, szt_t, compV_some, cpR_ok, cB_one, cB_many, cB_cd1, cdX_ok, lstO_some, zipV_l, revV_l, intO_i, bB_tt, bB_tf, bB_ft, bB_ff, bB_t, bB_f, unpV_t, nxO_s, forV_s, fB_one, fB_many, bm_n, bm_c, mvR_nx, mvR_ret, mvR_exn, dE_n, dE_c, trR_nx, trR_ret, trR_exn, caR_t, caR_f, unAs_nx, unAs_ret, aS_s, aS_n, muO_s, muK_t, ma_app, ma_ext, ma_clr, ma_rev, ma_set, md_app, md_ext, md_clr, md_rev, md_set, cn_i, cn_b, cn_n, cn_s, forL_n, compL_n, j_fld_, at_5, at_6, at_7, at_8, at_9, at_10, at_11, is_bb, bbtt, bbtf, bbft, bbff, beq_self_eq_true, mulOk_small, mulOk_small2, Bool.or_true, Bool.or_false, Bool.true_or, Bool.false_or, Bool.and_true, Bool.true_and, startE, eqV_int, eqV_str, op_add, op_sub, op_mul, op_fdiv, op_fdivN, op_mod, op_pow, op_addS, op_addL, de_non, de_bl, de_int, de_str, de_tup, de_lst, de_exc, de_scr, de_obj, cp_lt, cp_le, cp_gt, cp_ge, cp_eq, cp_ne, cp_isn, cp_isnt, cp_in, cp_nin, no_some, is_non, nb_non, nb_int, nb_bl, nb_tup, nb_lst, nb_str, eq_nn, eq_ni, eq_in, eq_bb, ix_lst, ix_tup, ix_scr, at_0, at_1, at_2, at_3, at_4, bi_lenL, bi_lenT, bi_lenC, bi_abs, bi_min2, bi_max2, bi_listL, bi_listT, ty_int, ty_bl, ty_non, ty_str, ty_lst, ty_tup, ty_exV, it_lst, it_tup, mu_app, mu_ext, mt_app, mt_ext, mt_clr, mt_rev, mt_set, mu_clr, mu_rev, List.map_cons, List.map_nil, List.length_cons, List.length_nil, List.cons_append, List.nil_append, List.replicate, Nat.reduceSub, Nat.reduceAdd, ↓reduceIte, if_true, if_false, Bool.false_eq_true, decide_eq_true_eq, decide_true, decide_false, Bool.not_true, Bool.not_false, reduceCtorEq, ite_true, ite_false, Int.reduceLT, Int.reduceLE, Int.reducePow, Int.reduceMul, Int.reduceAdd, Int.reduceSub, Int.reduceToNat, Nat.reduceLT, Nat.reducePow, and_self, and_true, true_and, Int.reduceNeg, Int.reduceEq, szb1, szb2, szb3, szb0, szb4, szb5, szb6, szb7, szb8, szb9, szb10, szb11, szb12, szb13, szb14, szb15, szb16, szb17, szb18, szb19, szb20, szb21, szb22, szb23, szb24, szb25, szb26, szb27, szb28, szb29, szb30, szb31, szb32, szb33, szb34, szb35, szb36, szb37, szb38, szb39, rc, m1, m2, al, ix0, ix1, e1, e2, w1, w2, wl]
end
theorem run_ok (ns : List Int) (hl : ns.length ≤ 63) (hb : ∀ z ∈ ns, Builtin.Int.intBits z ≤ 1048576) : ∃ S', run G wfN lvN lawId [.scr ns] [] = .ok (.bl true) S' := by
  refine ⟨[], ?_⟩
  rw [show lvN = 11 + 1 from rfl, show lawId = 32 from rfl, run_unf (F := F_law_4) rfl rfl rfl]
  have hR2 : (1 + (if (60 : Int) < (ns.length : Int) then (60 : Int) else (ns.length : Int)) / 3).natAbs < 2 ^ 62 := by
    split <;> omega
  have fd3 : fdivOk 3 = true := by decide
  have e0 : Val.tup [.non, .int 0] = encO (none, some 0) := rfl
  simp (decide := true) only [F_law_4, ↓e_v0, ↓e_v1, ↓e_v2, ↓e_v3, ↓e_v4, ↓e_v5, ↓e_v6, ↓e_v7, ↓e_v8, ↓e_v9, ↓e_v10, ↓e_v11, ↓e_v12, ↓e_v13, ↓e_v14, ↓e_v15, ↓e_v16, ↓e_v17, ↓e_v18, ↓e_v19, ↓e_v20, ↓e_v21, ↓e_v22, ↓e_v23, ↓e_v24, ↓e_v25, ↓e_v26, ↓e_v27, ↓e_v28, ↓e_v29, ↓e_k, ↓e_gl, ↓e_op2, ↓e_rep, ↓e_neg, ↓e_cmp, ↓e_ch, ↓e_bop, ↓e_nt, ↓e_ife, ↓e_tup, ↓e_lst, ↓e_ix, ↓e_sl, ↓e_fld, ↓e_call, ↓e_mk, ↓e_mth, ↓e_bi, ↓e_bm, ↓e_sortk, ↓e_isi, ↓e_comp, ↓e_d0, ↓e_rng, ↓e_zip, ↓e_rev, ↓es_n, ↓es_c, ↓eO_n, ↓eO_s, ↓eB_1, ↓eB_c, ↓q_n, ↓q_1, ↓q_c, ↓z_set, ↓z_unp, ↓z_ex, ↓z_ret, ↓z_retN, ↓z_ife, ↓z_for, ↓z_whil, ↓z_brk, ↓z_cnt, ↓z_pas, ↓z_rais, ↓z_mvs, ↓z_tr, ↓h_n, ↓h_c, ↓k2_, ↓j_op2_, ↓j_rep_, ↓j_neg_, ↓j_cmp_, ↓j_ch2_, ↓j_ch3_, ↓j_nt_, ↓j_tup_, ↓j_lst_, ↓j_ix_, ↓j_sl_, ↓j_sl2_, ↓j_sl3_, ↓j_mth_, ↓j_mth2_, ↓j_bi_, ↓j_bm_, ↓j_bm2_, ↓j_isi_, ↓j_lok_, ↓j_comp_, ↓j_rng_, ↓j_zip_, ↓j_rev_, ↓j_cons_, ↓k_es_, ↓z_setK_, ↓z_unpK_, ↓z_exK_, ↓z_forK_, ↓k_mu_, ↓z_mu0, ↓z_mu1, ↓z_mu2, ↓z_mu3, ↓z_mu4, ↓z_mu5, ↓z_mu6, ↓z_mu7, ↓z_mu8, ↓z_mu9, ↓z_mu10, ↓z_mu11, ↓z_mu12, ↓z_mu13, ↓z_mu14, ↓z_mu15, ↓z_mu16, ↓z_mu17, ↓z_mu18, ↓z_mu19, ↓z_mu20, ↓z_mu21, ↓z_mu22, ↓z_mu23, ↓z_mu24, ↓z_mu25, ↓z_mu26, ↓z_mu27, ↓z_mu28, ↓z_mu29, ty_int_int, ty_int_bool, ty_int_str, ty_int_list, ty_int_tuple, ty_int_dict, ty_bool_int, ty_bool_bool, ty_bool_str, ty_bool_list, ty_bool_tuple, ty_bool_dict, ty_str_int, ty_str_bool, ty_str_str, ty_str_list, ty_str_tuple, ty_str_dict, ty_list_int, ty_list_bool, ty_list_str, ty_list_list, ty_list_tuple, ty_list_dict, ty_tuple_int, ty_tuple_bool, ty_tuple_str, ty_tuple_list, ty_tuple_tuple, ty_tuple_dict, ty_dict_int, ty_dict_bool, ty_dict_str, ty_dict_list, ty_dict_tuple, ty_dict_dict, st_0, st_1, st_2, st_3, st_4, st_5, st_6, st_7, st_8, st_9, st_10, st_11, st_12, st_13, st_14, st_15, st_16, st_17, st_18, st_19, st_20, st_21, st_22, st_23, st_24, st_25, st_26, st_27, st_28, st_29, b_ok, b_exn, t_ok, t_exn, of_some, sq_nx, sq_ret, sq_exn, sq_brk, sq_cnt, obl_some, ob_ret, ob_nx, ob_exn, j_rep2_, j_ife_, z_ifeK_, chV_b, szt_t, compV_some, cpR_ok, cB_one, cB_many, cB_cd1, cdX_ok, lstO_some, zipV_l, revV_l, intO_i, bB_tt, bB_tf, bB_ft, bB_ff, bB_t, bB_f, unpV_t, nxO_s, forV_s, fB_one, fB_many, bm_n, bm_c, mvR_nx, mvR_ret, mvR_exn, dE_n, dE_c, trR_nx, trR_ret, trR_exn, caR_t, caR_f, unAs_nx, unAs_ret, aS_s, aS_n, muO_s, muK_t, ma_app, ma_ext, ma_clr, ma_rev, ma_set, md_app, md_ext, md_clr, md_rev, md_set, cn_i, cn_b, cn_n, cn_s, forL_n, compL_n, j_fld_, at_5, at_6, at_7, at_8, at_9, at_10, at_11, is_bb, bbtt, bbtf, bbft, bbff, beq_self_eq_true, mulOk_small, mulOk_small2, Bool.or_true, Bool.or_false, Bool.true_or, Bool.false_or, Bool.and_true, Bool.true_and, startE, eqV_int, eqV_str, op_add, op_sub, op_mul, op_fdiv, op_fdivN, op_mod, op_pow, op_addS, op_addL, de_non, de_bl, de_int, de_str, de_tup, de_lst, de_exc, de_scr, de_obj, cp_lt, cp_le, cp_gt, cp_ge, cp_eq, cp_ne, cp_isn, cp_isnt, cp_in, cp_nin, no_some, is_non, nb_non, nb_int, nb_bl, nb_tup, nb_lst, nb_str, eq_nn, eq_ni, eq_in, eq_bb, ix_lst, ix_tup, ix_scr, at_0, at_1, at_2, at_3, at_4, bi_lenL, bi_lenT, bi_lenC, bi_abs, bi_min2, bi_max2, bi_listL, bi_listT, ty_int, ty_bl, ty_non, ty_str, ty_lst, ty_tup, ty_exV, it_lst, it_tup, mu_app, mu_ext, mt_app, mt_ext, mt_clr, mt_rev, mt_set, mu_clr, mu_rev, List.map_cons, List.map_nil, List.length_cons, List.length_nil, List.cons_append, List.nil_append, List.replicate, Nat.reduceSub, Nat.reduceAdd, ↓reduceIte, if_true, if_false, Bool.false_eq_true, decide_eq_true_eq, decide_true, decide_false, Bool.not_true, Bool.not_false, reduceCtorEq, ite_true, ite_false, Int.reduceLT, Int.reduceLE, Int.reducePow, Int.reduceMul, Int.reduceAdd, Int.reduceSub, Int.reduceToNat, Nat.reduceLT, Nat.reducePow, and_self, and_true, true_and, Int.reduceNeg, Int.reduceEq, szb1, szb2, szb3, szb0, szb4, szb5, szb6, szb7, szb8, szb9, szb10, szb11, szb12, szb13, szb14, szb15, szb16, szb17, szb18, szb19, szb20, szb21, szb22, szb23, szb24, szb25, szb26, szb27, szb28, szb29, szb30, szb31, szb32, szb33, szb34, szb35, szb36, szb37, szb38, szb39, fd3, rng_1 hR2]
  apply forL_k (fun ρ1 S1 => S1 = [] ∧ ∃ (o : Option Int × Option Int) (a b c d : Option Val), ρ1 = [some (.scr ns), some (encO o), a, b, c, d])
  · rintro v hv ρ S ⟨rfl, o, a, b, c, d, rfl⟩
    obtain ⟨i, hi, rfl⟩ := upto_mem hv
    have p1 : (0 : Int) ≤ 3 * (0 + i) := by omega
    have p2 : (0 : Int) ≤ 3 * (0 + i) + 1 := by omega
    have p3 : (0 : Int) ≤ 3 * (0 + i) + 2 := by omega
    obtain ⟨lo, elo⟩ := r_lend (n := 10) (S := []) (c := cell ns (3 * (0 + i)))
    obtain ⟨hi, ehi⟩ := r_lend (n := 10) (S := []) (c := cell ns (3 * (0 + i) + 1))
    obtain ⟨sz, esz⟩ := r_size (n := 10) (S := []) (c := cell ns (3 * (0 + i) + 2))
    have ix0 : ∀ o : Option Int × Option Int, ixV (deref [] (encO o)) (.int 0) = some (oV o.1) := fun o => at_0
    have ix1 : ∀ o : Option Int × Option Int, ixV (deref [] (encO o)) (.int 1) = some (oV o.2) := fun o => at_1
    by_cases hov : overB lo hi = true
    · obtain ⟨x, rfl⟩ : ∃ x, lo = some x := by
        cases lo with
        | none => simp [overB] at hov
        | some x => exact ⟨x, rfl⟩
      obtain ⟨y, rfl⟩ : ∃ y, hi = some y := by
        cases hi with
        | none => simp [overB] at hov
        | some x => exact ⟨x, rfl⟩
      have hlt : y < x := of_decide_eq_true hov
      simp only [oV_s] at elo ehi
      have hno : overB (some y) (some x) = false := decide_eq_false (by omega)
      have st := r_stretch (n := 10) (p := (some y, some x)) (S := []) hno
      have al := r_alikeO (n := 9) (p := (some y, some x)) (S := [])
      have as := r_asked (n := 8) (p := (some y, some x)) (q := o) (b := sz) (S := [])
      have e1 : Val.tup [.int y, .int x] = encO (some y, some x) := rfl
      refine ⟨[some (.scr ns), some (encO (some y, some x)), some (.int (0 + i)), some (.int x), some (.int y), some (encO (some y, some x))], _, .inl ?_, rfl, _, _, _, _, _, rfl⟩
      simp only [oV_s] at st
      simp (decide := true) only [↓e_v0, ↓e_v1, ↓e_v2, ↓e_v3, ↓e_v4, ↓e_v5, ↓e_v6, ↓e_v7, ↓e_v8, ↓e_v9, ↓e_v10, ↓e_v11, ↓e_v12, ↓e_v13, ↓e_v14, ↓e_v15, ↓e_v16, ↓e_v17, ↓e_v18, ↓e_v19, ↓e_v20, ↓e_v21, ↓e_v22, ↓e_v23, ↓e_v24, ↓e_v25, ↓e_v26, ↓e_v27, ↓e_v28, ↓e_v29, ↓e_k, ↓e_gl, ↓e_op2, ↓e_rep, ↓e_neg, ↓e_cmp, ↓e_ch, ↓e_bop, ↓e_nt, ↓e_ife, ↓e_tup, ↓e_lst, ↓e_ix, ↓e_sl, ↓e_fld, ↓e_call, ↓e_mk, ↓e_mth, ↓e_bi, ↓e_bm, ↓e_sortk, ↓e_isi, ↓e_comp, ↓e_d0, ↓e_rng, ↓e_zip, ↓e_rev, ↓es_n, ↓es_c, ↓eO_n, ↓eO_s, ↓eB_1, ↓eB_c, ↓q_n, ↓q_1, ↓q_c, ↓z_set, ↓z_unp, ↓z_ex, ↓z_ret, ↓z_retN, ↓z_ife, ↓z_for, ↓z_whil, ↓z_brk, ↓z_cnt, ↓z_pas, ↓z_rais, ↓z_mvs, ↓z_tr, ↓h_n, ↓h_c, ↓k2_, ↓j_op2_, ↓j_rep_, ↓j_neg_, ↓j_cmp_, ↓j_ch2_, ↓j_ch3_, ↓j_nt_, ↓j_tup_, ↓j_lst_, ↓j_ix_, ↓j_sl_, ↓j_sl2_, ↓j_sl3_, ↓j_mth_, ↓j_mth2_, ↓j_bi_, ↓j_bm_, ↓j_bm2_, ↓j_isi_, ↓j_lok_, ↓j_comp_, ↓j_rng_, ↓j_zip_, ↓j_rev_, ↓j_cons_, ↓k_es_, ↓z_setK_, ↓z_unpK_, ↓z_exK_, ↓z_forK_, ↓k_mu_, ↓z_mu0, ↓z_mu1, ↓z_mu2, ↓z_mu3, ↓z_mu4, ↓z_mu5, ↓z_mu6, ↓z_mu7, ↓z_mu8, ↓z_mu9, ↓z_mu10, ↓z_mu11, ↓z_mu12, ↓z_mu13, ↓z_mu14, ↓z_mu15, ↓z_mu16, ↓z_mu17, ↓z_mu18, ↓z_mu19, ↓z_mu20, ↓z_mu21, ↓z_mu22, ↓z_mu23, ↓z_mu24, ↓z_mu25, ↓z_mu26, ↓z_mu27, ↓z_mu28, ↓z_mu29, ty_int_int, ty_int_bool, ty_int_str, ty_int_list, ty_int_tuple, ty_int_dict, ty_bool_int, ty_bool_bool, ty_bool_str, ty_bool_list, ty_bool_tuple, ty_bool_dict, ty_str_int, ty_str_bool, ty_str_str, ty_str_list, ty_str_tuple, ty_str_dict, ty_list_int, ty_list_bool, ty_list_str, ty_list_list, ty_list_tuple, ty_list_dict, ty_tuple_int, ty_tuple_bool, ty_tuple_str, ty_tuple_list, ty_tuple_tuple, ty_tuple_dict, ty_dict_int, ty_dict_bool, ty_dict_str, ty_dict_list, ty_dict_tuple, ty_dict_dict, st_0, st_1, st_2, st_3, st_4, st_5, st_6, st_7, st_8, st_9, st_10, st_11, st_12, st_13, st_14, st_15, st_16, st_17, st_18, st_19, st_20, st_21, st_22, st_23, st_24, st_25, st_26, st_27, st_28, st_29, b_ok, b_exn, t_ok, t_exn, of_some, sq_nx, sq_ret, sq_exn, sq_brk, sq_cnt, obl_some, ob_ret, ob_nx, ob_exn, j_rep2_, j_ife_, z_ifeK_, chV_b, szt_t, compV_some, cpR_ok, cB_one, cB_many, cB_cd1, cdX_ok, lstO_some, zipV_l, revV_l, intO_i, bB_tt, bB_tf, bB_ft, bB_ff, bB_t, bB_f, unpV_t, nxO_s, forV_s, fB_one, fB_many, bm_n, bm_c, mvR_nx, mvR_ret, mvR_exn, dE_n, dE_c, trR_nx, trR_ret, trR_exn, caR_t, caR_f, unAs_nx, unAs_ret, aS_s, aS_n, muO_s, muK_t, ma_app, ma_ext, ma_clr, ma_rev, ma_set, md_app, md_ext, md_clr, md_rev, md_set, cn_i, cn_b, cn_n, cn_s, forL_n, compL_n, j_fld_, at_5, at_6, at_7, at_8, at_9, at_10, at_11, is_bb, bbtt, bbtf, bbft, bbff, beq_self_eq_true, mulOk_small, mulOk_small2, Bool.or_true, Bool.or_false, Bool.true_or, Bool.false_or, Bool.and_true, Bool.true_and, startE, eqV_int, eqV_str, op_add, op_sub, op_mul, op_fdiv, op_fdivN, op_mod, op_pow, op_addS, op_addL, de_non, de_bl, de_int, de_str, de_tup, de_lst, de_exc, de_scr, de_obj, cp_lt, cp_le, cp_gt, cp_ge, cp_eq, cp_ne, cp_isn, cp_isnt, cp_in, cp_nin, no_some, is_non, nb_non, nb_int, nb_bl, nb_tup, nb_lst, nb_str, eq_nn, eq_ni, eq_in, eq_bb, ix_lst, ix_tup, ix_scr, at_0, at_1, at_2, at_3, at_4, bi_lenL, bi_lenT, bi_lenC, bi_abs, bi_min2, bi_max2, bi_listL, bi_listT, ty_int, ty_bl, ty_non, ty_str, ty_lst, ty_tup, ty_exV, it_lst, it_tup, mu_app, mu_ext, mt_app, mt_ext, mt_clr, mt_rev, mt_set, mu_clr, mu_rev, List.map_cons, List.map_nil, List.length_cons, List.length_nil, List.cons_append, List.nil_append, List.replicate, Nat.reduceSub, Nat.reduceAdd, ↓reduceIte, if_true, if_false, Bool.false_eq_true, decide_eq_true_eq, decide_true, decide_false, Bool.not_true, Bool.not_false, reduceCtorEq, ite_true, ite_false, Int.reduceLT, Int.reduceLE, Int.reducePow, Int.reduceMul, Int.reduceAdd, Int.reduceSub, Int.reduceToNat, Nat.reduceLT, Nat.reducePow, and_self, and_true, true_and, Int.reduceNeg, Int.reduceEq, szb1, szb2, szb3, szb0, szb4, szb5, szb6, szb7, szb8, szb9, szb10, szb11, szb12, szb13, szb14, szb15, szb16, szb17, szb18, szb19, szb20, szb21, szb22, szb23, szb24, szb25, szb26, szb27, szb28, szb29, szb30, szb31, szb32, szb33, szb34, szb35, szb36, szb37, szb38, szb39, r_cell p1, r_cell p2, r_cell p3, elo, ehi, esz, hlt, r_refused hlt, e1, ix0, ix1, oV_s, st, al, as]
    · have hno : overB lo hi = false := by simpa using hov
      have st := r_stretch (n := 10) (p := (lo, hi)) (S := []) hno
      have al := r_alikeO (n := 9) (p := (lo, hi)) (S := [])
      have as := r_asked (n := 8) (p := (lo, hi)) (q := o) (b := sz) (S := [])
      refine ⟨[some (.scr ns), some (encO (lo, hi)), some (.int (0 + i)), some (oV lo), some (oV hi), some (encO (lo, hi))], _, .inl ?_, rfl, _, _, _, _, _, rfl⟩
      have e1 : Val.tup [oV lo, oV hi] = encO (lo, hi) := rfl
      simp only at st
      cases lo with
      | none =>
        simp only [oV_n] at elo st e1
        simp (decide := true) only [↓e_v0, ↓e_v1, ↓e_v2, ↓e_v3, ↓e_v4, ↓e_v5, ↓e_v6, ↓e_v7, ↓e_v8, ↓e_v9, ↓e_v10, ↓e_v11, ↓e_v12, ↓e_v13, ↓e_v14, ↓e_v15, ↓e_v16, ↓e_v17, ↓e_v18, ↓e_v19, ↓e_v20, ↓e_v21, ↓e_v22, ↓e_v23, ↓e_v24, ↓e_v25, ↓e_v26, ↓e_v27, ↓e_v28, ↓e_v29, ↓e_k, ↓e_gl, ↓e_op2, ↓e_rep, ↓e_neg, ↓e_cmp, ↓e_ch, ↓e_bop, ↓e_nt, ↓e_ife, ↓e_tup, ↓e_lst, ↓e_ix, ↓e_sl, ↓e_fld, ↓e_call, ↓e_mk, ↓e_mth, ↓e_bi, ↓e_bm, ↓e_sortk, ↓e_isi, ↓e_comp, ↓e_d0, ↓e_rng, ↓e_zip, ↓e_rev, ↓es_n, ↓es_c, ↓eO_n, ↓eO_s, ↓eB_1, ↓eB_c, ↓q_n, ↓q_1, ↓q_c, ↓z_set, ↓z_unp, ↓z_ex, ↓z_ret, ↓z_retN, ↓z_ife, ↓z_for, ↓z_whil, ↓z_brk, ↓z_cnt, ↓z_pas, ↓z_rais, ↓z_mvs, ↓z_tr, ↓h_n, ↓h_c, ↓k2_, ↓j_op2_, ↓j_rep_, ↓j_neg_, ↓j_cmp_, ↓j_ch2_, ↓j_ch3_, ↓j_nt_, ↓j_tup_, ↓j_lst_, ↓j_ix_, ↓j_sl_, ↓j_sl2_, ↓j_sl3_, ↓j_mth_, ↓j_mth2_, ↓j_bi_, ↓j_bm_, ↓j_bm2_, ↓j_isi_, ↓j_lok_, ↓j_comp_, ↓j_rng_, ↓j_zip_, ↓j_rev_, ↓j_cons_, ↓k_es_, ↓z_setK_, ↓z_unpK_, ↓z_exK_, ↓z_forK_, ↓k_mu_, ↓z_mu0, ↓z_mu1, ↓z_mu2, ↓z_mu3, ↓z_mu4, ↓z_mu5, ↓z_mu6, ↓z_mu7, ↓z_mu8, ↓z_mu9, ↓z_mu10, ↓z_mu11, ↓z_mu12, ↓z_mu13, ↓z_mu14, ↓z_mu15, ↓z_mu16, ↓z_mu17, ↓z_mu18, ↓z_mu19, ↓z_mu20, ↓z_mu21, ↓z_mu22, ↓z_mu23, ↓z_mu24, ↓z_mu25, ↓z_mu26, ↓z_mu27, ↓z_mu28, ↓z_mu29, ty_int_int, ty_int_bool, ty_int_str, ty_int_list, ty_int_tuple, ty_int_dict, ty_bool_int, ty_bool_bool, ty_bool_str, ty_bool_list, ty_bool_tuple, ty_bool_dict, ty_str_int, ty_str_bool, ty_str_str, ty_str_list, ty_str_tuple, ty_str_dict, ty_list_int, ty_list_bool, ty_list_str, ty_list_list, ty_list_tuple, ty_list_dict, ty_tuple_int, ty_tuple_bool, ty_tuple_str, ty_tuple_list, ty_tuple_tuple, ty_tuple_dict, ty_dict_int, ty_dict_bool, ty_dict_str, ty_dict_list, ty_dict_tuple, ty_dict_dict, st_0, st_1, st_2, st_3, st_4, st_5, st_6, st_7, st_8, st_9, st_10, st_11, st_12, st_13, st_14, st_15, st_16, st_17, st_18, st_19, st_20, st_21, st_22, st_23, st_24, st_25, st_26, st_27, st_28, st_29, b_ok, b_exn, t_ok, t_exn, of_some, sq_nx, sq_ret, sq_exn, sq_brk, sq_cnt, obl_some, ob_ret, ob_nx, ob_exn, j_rep2_, j_ife_, z_ifeK_, chV_b, szt_t, compV_some, cpR_ok, cB_one, cB_many, cB_cd1, cdX_ok, lstO_some, zipV_l, revV_l, intO_i, bB_tt, bB_tf, bB_ft, bB_ff, bB_t, bB_f, unpV_t, nxO_s, forV_s, fB_one, fB_many, bm_n, bm_c, mvR_nx, mvR_ret, mvR_exn, dE_n, dE_c, trR_nx, trR_ret, trR_exn, caR_t, caR_f, unAs_nx, unAs_ret, aS_s, aS_n, muO_s, muK_t, ma_app, ma_ext, ma_clr, ma_rev, ma_set, md_app, md_ext, md_clr, md_rev, md_set, cn_i, cn_b, cn_n, cn_s, forL_n, compL_n, j_fld_, at_5, at_6, at_7, at_8, at_9, at_10, at_11, is_bb, bbtt, bbtf, bbft, bbff, beq_self_eq_true, mulOk_small, mulOk_small2, Bool.or_true, Bool.or_false, Bool.true_or, Bool.false_or, Bool.and_true, Bool.true_and, startE, eqV_int, eqV_str, op_add, op_sub, op_mul, op_fdiv, op_fdivN, op_mod, op_pow, op_addS, op_addL, de_non, de_bl, de_int, de_str, de_tup, de_lst, de_exc, de_scr, de_obj, cp_lt, cp_le, cp_gt, cp_ge, cp_eq, cp_ne, cp_isn, cp_isnt, cp_in, cp_nin, no_some, is_non, nb_non, nb_int, nb_bl, nb_tup, nb_lst, nb_str, eq_nn, eq_ni, eq_in, eq_bb, ix_lst, ix_tup, ix_scr, at_0, at_1, at_2, at_3, at_4, bi_lenL, bi_lenT, bi_lenC, bi_abs, bi_min2, bi_max2, bi_listL, bi_listT, ty_int, ty_bl, ty_non, ty_str, ty_lst, ty_tup, ty_exV, it_lst, it_tup, mu_app, mu_ext, mt_app, mt_ext, mt_clr, mt_rev, mt_set, mu_clr, mu_rev, List.map_cons, List.map_nil, List.length_cons, List.length_nil, List.cons_append, List.nil_append, List.replicate, Nat.reduceSub, Nat.reduceAdd, ↓reduceIte, if_true, if_false, Bool.false_eq_true, decide_eq_true_eq, decide_true, decide_false, Bool.not_true, Bool.not_false, reduceCtorEq, ite_true, ite_false, Int.reduceLT, Int.reduceLE, Int.reducePow, Int.reduceMul, Int.reduceAdd, Int.reduceSub, Int.reduceToNat, Nat.reduceLT, Nat.reducePow, and_self, and_true, true_and, Int.reduceNeg, Int.reduceEq, szb1, szb2, szb3, szb0, szb4, szb5, szb6, szb7, szb8, szb9, szb10, szb11, szb12, szb13, szb14, szb15, szb16, szb17, szb18, szb19, szb20, szb21, szb22, szb23, szb24, szb25, szb26, szb27, szb28, szb29, szb30, szb31, szb32, szb33, szb34, szb35, szb36, szb37, szb38, szb39, r_cell p1, r_cell p2, r_cell p3, elo, ehi, esz, oV_n, e1, ix0, ix1, st, al, as]
      | some x =>
        cases hi with
        | none =>
          simp only [oV_n, oV_s] at elo ehi st e1
          simp (decide := true) only [↓e_v0, ↓e_v1, ↓e_v2, ↓e_v3, ↓e_v4, ↓e_v5, ↓e_v6, ↓e_v7, ↓e_v8, ↓e_v9, ↓e_v10, ↓e_v11, ↓e_v12, ↓e_v13, ↓e_v14, ↓e_v15, ↓e_v16, ↓e_v17, ↓e_v18, ↓e_v19, ↓e_v20, ↓e_v21, ↓e_v22, ↓e_v23, ↓e_v24, ↓e_v25, ↓e_v26, ↓e_v27, ↓e_v28, ↓e_v29, ↓e_k, ↓e_gl, ↓e_op2, ↓e_rep, ↓e_neg, ↓e_cmp, ↓e_ch, ↓e_bop, ↓e_nt, ↓e_ife, ↓e_tup, ↓e_lst, ↓e_ix, ↓e_sl, ↓e_fld, ↓e_call, ↓e_mk, ↓e_mth, ↓e_bi, ↓e_bm, ↓e_sortk, ↓e_isi, ↓e_comp, ↓e_d0, ↓e_rng, ↓e_zip, ↓e_rev, ↓es_n, ↓es_c, ↓eO_n, ↓eO_s, ↓eB_1, ↓eB_c, ↓q_n, ↓q_1, ↓q_c, ↓z_set, ↓z_unp, ↓z_ex, ↓z_ret, ↓z_retN, ↓z_ife, ↓z_for, ↓z_whil, ↓z_brk, ↓z_cnt, ↓z_pas, ↓z_rais, ↓z_mvs, ↓z_tr, ↓h_n, ↓h_c, ↓k2_, ↓j_op2_, ↓j_rep_, ↓j_neg_, ↓j_cmp_, ↓j_ch2_, ↓j_ch3_, ↓j_nt_, ↓j_tup_, ↓j_lst_, ↓j_ix_, ↓j_sl_, ↓j_sl2_, ↓j_sl3_, ↓j_mth_, ↓j_mth2_, ↓j_bi_, ↓j_bm_, ↓j_bm2_, ↓j_isi_, ↓j_lok_, ↓j_comp_, ↓j_rng_, ↓j_zip_, ↓j_rev_, ↓j_cons_, ↓k_es_, ↓z_setK_, ↓z_unpK_, ↓z_exK_, ↓z_forK_, ↓k_mu_, ↓z_mu0, ↓z_mu1, ↓z_mu2, ↓z_mu3, ↓z_mu4, ↓z_mu5, ↓z_mu6, ↓z_mu7, ↓z_mu8, ↓z_mu9, ↓z_mu10, ↓z_mu11, ↓z_mu12, ↓z_mu13, ↓z_mu14, ↓z_mu15, ↓z_mu16, ↓z_mu17, ↓z_mu18, ↓z_mu19, ↓z_mu20, ↓z_mu21, ↓z_mu22, ↓z_mu23, ↓z_mu24, ↓z_mu25, ↓z_mu26, ↓z_mu27, ↓z_mu28, ↓z_mu29, ty_int_int, ty_int_bool, ty_int_str, ty_int_list, ty_int_tuple, ty_int_dict, ty_bool_int, ty_bool_bool, ty_bool_str, ty_bool_list, ty_bool_tuple, ty_bool_dict, ty_str_int, ty_str_bool, ty_str_str, ty_str_list, ty_str_tuple, ty_str_dict, ty_list_int, ty_list_bool, ty_list_str, ty_list_list, ty_list_tuple, ty_list_dict, ty_tuple_int, ty_tuple_bool, ty_tuple_str, ty_tuple_list, ty_tuple_tuple, ty_tuple_dict, ty_dict_int, ty_dict_bool, ty_dict_str, ty_dict_list, ty_dict_tuple, ty_dict_dict, st_0, st_1, st_2, st_3, st_4, st_5, st_6, st_7, st_8, st_9, st_10, st_11, st_12, st_13, st_14, st_15, st_16, st_17, st_18, st_19, st_20, st_21, st_22, st_23, st_24, st_25, st_26, st_27, st_28, st_29, b_ok, b_exn, t_ok, t_exn, of_some, sq_nx, sq_ret, sq_exn, sq_brk, sq_cnt, obl_some, ob_ret, ob_nx, ob_exn, j_rep2_, j_ife_, z_ifeK_, chV_b, szt_t, compV_some, cpR_ok, cB_one, cB_many, cB_cd1, cdX_ok, lstO_some, zipV_l, revV_l, intO_i, bB_tt, bB_tf, bB_ft, bB_ff, bB_t, bB_f, unpV_t, nxO_s, forV_s, fB_one, fB_many, bm_n, bm_c, mvR_nx, mvR_ret, mvR_exn, dE_n, dE_c, trR_nx, trR_ret, trR_exn, caR_t, caR_f, unAs_nx, unAs_ret, aS_s, aS_n, muO_s, muK_t, ma_app, ma_ext, ma_clr, ma_rev, ma_set, md_app, md_ext, md_clr, md_rev, md_set, cn_i, cn_b, cn_n, cn_s, forL_n, compL_n, j_fld_, at_5, at_6, at_7, at_8, at_9, at_10, at_11, is_bb, bbtt, bbtf, bbft, bbff, beq_self_eq_true, mulOk_small, mulOk_small2, Bool.or_true, Bool.or_false, Bool.true_or, Bool.false_or, Bool.and_true, Bool.true_and, startE, eqV_int, eqV_str, op_add, op_sub, op_mul, op_fdiv, op_fdivN, op_mod, op_pow, op_addS, op_addL, de_non, de_bl, de_int, de_str, de_tup, de_lst, de_exc, de_scr, de_obj, cp_lt, cp_le, cp_gt, cp_ge, cp_eq, cp_ne, cp_isn, cp_isnt, cp_in, cp_nin, no_some, is_non, nb_non, nb_int, nb_bl, nb_tup, nb_lst, nb_str, eq_nn, eq_ni, eq_in, eq_bb, ix_lst, ix_tup, ix_scr, at_0, at_1, at_2, at_3, at_4, bi_lenL, bi_lenT, bi_lenC, bi_abs, bi_min2, bi_max2, bi_listL, bi_listT, ty_int, ty_bl, ty_non, ty_str, ty_lst, ty_tup, ty_exV, it_lst, it_tup, mu_app, mu_ext, mt_app, mt_ext, mt_clr, mt_rev, mt_set, mu_clr, mu_rev, List.map_cons, List.map_nil, List.length_cons, List.length_nil, List.cons_append, List.nil_append, List.replicate, Nat.reduceSub, Nat.reduceAdd, ↓reduceIte, if_true, if_false, Bool.false_eq_true, decide_eq_true_eq, decide_true, decide_false, Bool.not_true, Bool.not_false, reduceCtorEq, ite_true, ite_false, Int.reduceLT, Int.reduceLE, Int.reducePow, Int.reduceMul, Int.reduceAdd, Int.reduceSub, Int.reduceToNat, Nat.reduceLT, Nat.reducePow, and_self, and_true, true_and, Int.reduceNeg, Int.reduceEq, szb1, szb2, szb3, szb0, szb4, szb5, szb6, szb7, szb8, szb9, szb10, szb11, szb12, szb13, szb14, szb15, szb16, szb17, szb18, szb19, szb20, szb21, szb22, szb23, szb24, szb25, szb26, szb27, szb28, szb29, szb30, szb31, szb32, szb33, szb34, szb35, szb36, szb37, szb38, szb39, r_cell p1, r_cell p2, r_cell p3, elo, ehi, esz, oV_n, oV_s, e1, ix0, ix1, st, al, as]
        | some y =>
          have hlt : ¬ y < x := of_decide_eq_false hno
          simp only [oV_n, oV_s] at elo ehi st e1
          simp (decide := true) only [↓e_v0, ↓e_v1, ↓e_v2, ↓e_v3, ↓e_v4, ↓e_v5, ↓e_v6, ↓e_v7, ↓e_v8, ↓e_v9, ↓e_v10, ↓e_v11, ↓e_v12, ↓e_v13, ↓e_v14, ↓e_v15, ↓e_v16, ↓e_v17, ↓e_v18, ↓e_v19, ↓e_v20, ↓e_v21, ↓e_v22, ↓e_v23, ↓e_v24, ↓e_v25, ↓e_v26, ↓e_v27, ↓e_v28, ↓e_v29, ↓e_k, ↓e_gl, ↓e_op2, ↓e_rep, ↓e_neg, ↓e_cmp, ↓e_ch, ↓e_bop, ↓e_nt, ↓e_ife, ↓e_tup, ↓e_lst, ↓e_ix, ↓e_sl, ↓e_fld, ↓e_call, ↓e_mk, ↓e_mth, ↓e_bi, ↓e_bm, ↓e_sortk, ↓e_isi, ↓e_comp, ↓e_d0, ↓e_rng, ↓e_zip, ↓e_rev, ↓es_n, ↓es_c, ↓eO_n, ↓eO_s, ↓eB_1, ↓eB_c, ↓q_n, ↓q_1, ↓q_c, ↓z_set, ↓z_unp, ↓z_ex, ↓z_ret, ↓z_retN, ↓z_ife, ↓z_for, ↓z_whil, ↓z_brk, ↓z_cnt, ↓z_pas, ↓z_rais, ↓z_mvs, ↓z_tr, ↓h_n, ↓h_c, ↓k2_, ↓j_op2_, ↓j_rep_, ↓j_neg_, ↓j_cmp_, ↓j_ch2_, ↓j_ch3_, ↓j_nt_, ↓j_tup_, ↓j_lst_, ↓j_ix_, ↓j_sl_, ↓j_sl2_, ↓j_sl3_, ↓j_mth_, ↓j_mth2_, ↓j_bi_, ↓j_bm_, ↓j_bm2_, ↓j_isi_, ↓j_lok_, ↓j_comp_, ↓j_rng_, ↓j_zip_, ↓j_rev_, ↓j_cons_, ↓k_es_, ↓z_setK_, ↓z_unpK_, ↓z_exK_, ↓z_forK_, ↓k_mu_, ↓z_mu0, ↓z_mu1, ↓z_mu2, ↓z_mu3, ↓z_mu4, ↓z_mu5, ↓z_mu6, ↓z_mu7, ↓z_mu8, ↓z_mu9, ↓z_mu10, ↓z_mu11, ↓z_mu12, ↓z_mu13, ↓z_mu14, ↓z_mu15, ↓z_mu16, ↓z_mu17, ↓z_mu18, ↓z_mu19, ↓z_mu20, ↓z_mu21, ↓z_mu22, ↓z_mu23, ↓z_mu24, ↓z_mu25, ↓z_mu26, ↓z_mu27, ↓z_mu28, ↓z_mu29, ty_int_int, ty_int_bool, ty_int_str, ty_int_list, ty_int_tuple, ty_int_dict, ty_bool_int, ty_bool_bool, ty_bool_str, ty_bool_list, ty_bool_tuple, ty_bool_dict, ty_str_int, ty_str_bool, ty_str_str, ty_str_list, ty_str_tuple, ty_str_dict, ty_list_int, ty_list_bool, ty_list_str, ty_list_list, ty_list_tuple, ty_list_dict, ty_tuple_int, ty_tuple_bool, ty_tuple_str, ty_tuple_list, ty_tuple_tuple, ty_tuple_dict, ty_dict_int, ty_dict_bool, ty_dict_str, ty_dict_list, ty_dict_tuple, ty_dict_dict, st_0, st_1, st_2, st_3, st_4, st_5, st_6, st_7, st_8, st_9, st_10, st_11, st_12, st_13, st_14, st_15, st_16, st_17, st_18, st_19, st_20, st_21, st_22, st_23, st_24, st_25, st_26, st_27, st_28, st_29, b_ok, b_exn, t_ok, t_exn, of_some, sq_nx, sq_ret, sq_exn, sq_brk, sq_cnt, obl_some, ob_ret, ob_nx, ob_exn, j_rep2_, j_ife_, z_ifeK_, chV_b, szt_t, compV_some, cpR_ok, cB_one, cB_many, cB_cd1, cdX_ok, lstO_some, zipV_l, revV_l, intO_i, bB_tt, bB_tf, bB_ft, bB_ff, bB_t, bB_f, unpV_t, nxO_s, forV_s, fB_one, fB_many, bm_n, bm_c, mvR_nx, mvR_ret, mvR_exn, dE_n, dE_c, trR_nx, trR_ret, trR_exn, caR_t, caR_f, unAs_nx, unAs_ret, aS_s, aS_n, muO_s, muK_t, ma_app, ma_ext, ma_clr, ma_rev, ma_set, md_app, md_ext, md_clr, md_rev, md_set, cn_i, cn_b, cn_n, cn_s, forL_n, compL_n, j_fld_, at_5, at_6, at_7, at_8, at_9, at_10, at_11, is_bb, bbtt, bbtf, bbft, bbff, beq_self_eq_true, mulOk_small, mulOk_small2, Bool.or_true, Bool.or_false, Bool.true_or, Bool.false_or, Bool.and_true, Bool.true_and, startE, eqV_int, eqV_str, op_add, op_sub, op_mul, op_fdiv, op_fdivN, op_mod, op_pow, op_addS, op_addL, de_non, de_bl, de_int, de_str, de_tup, de_lst, de_exc, de_scr, de_obj, cp_lt, cp_le, cp_gt, cp_ge, cp_eq, cp_ne, cp_isn, cp_isnt, cp_in, cp_nin, no_some, is_non, nb_non, nb_int, nb_bl, nb_tup, nb_lst, nb_str, eq_nn, eq_ni, eq_in, eq_bb, ix_lst, ix_tup, ix_scr, at_0, at_1, at_2, at_3, at_4, bi_lenL, bi_lenT, bi_lenC, bi_abs, bi_min2, bi_max2, bi_listL, bi_listT, ty_int, ty_bl, ty_non, ty_str, ty_lst, ty_tup, ty_exV, it_lst, it_tup, mu_app, mu_ext, mt_app, mt_ext, mt_clr, mt_rev, mt_set, mu_clr, mu_rev, List.map_cons, List.map_nil, List.length_cons, List.length_nil, List.cons_append, List.nil_append, List.replicate, Nat.reduceSub, Nat.reduceAdd, ↓reduceIte, if_true, if_false, Bool.false_eq_true, decide_eq_true_eq, decide_true, decide_false, Bool.not_true, Bool.not_false, reduceCtorEq, ite_true, ite_false, Int.reduceLT, Int.reduceLE, Int.reducePow, Int.reduceMul, Int.reduceAdd, Int.reduceSub, Int.reduceToNat, Nat.reduceLT, Nat.reducePow, and_self, and_true, true_and, Int.reduceNeg, Int.reduceEq, szb1, szb2, szb3, szb0, szb4, szb5, szb6, szb7, szb8, szb9, szb10, szb11, szb12, szb13, szb14, szb15, szb16, szb17, szb18, szb19, szb20, szb21, szb22, szb23, szb24, szb25, szb26, szb27, szb28, szb29, szb30, szb31, szb32, szb33, szb34, szb35, szb36, szb37, szb38, szb39, r_cell p1, r_cell p2, r_cell p3, elo, ehi, esz, hlt, oV_n, oV_s, e1, ix0, ix1, st, al, as]
  · exact ⟨rfl, (none, some 0), _, _, _, _, rfl⟩
  · rintro ρ1 S1 ⟨rfl, o, a, b, c, d, rfl⟩
    simp (decide := true) only [↓e_v0, ↓e_v1, ↓e_v2, ↓e_v3, ↓e_v4, ↓e_v5, ↓e_v6, ↓e_v7, ↓e_v8, ↓e_v9, ↓e_v10, ↓e_v11, ↓e_v12, ↓e_v13, ↓e_v14, ↓e_v15, ↓e_v16, ↓e_v17, ↓e_v18, ↓e_v19, ↓e_v20, ↓e_v21, ↓e_v22, ↓e_v23, ↓e_v24, ↓e_v25, ↓e_v26, ↓e_v27, ↓e_v28, ↓e_v29, ↓e_k, ↓e_gl, ↓e_op2, ↓e_rep, ↓e_neg, ↓e_cmp, ↓e_ch, ↓e_bop, ↓e_nt, ↓e_ife, ↓e_tup, ↓e_lst, ↓e_ix, ↓e_sl, ↓e_fld, ↓e_call, ↓e_mk, ↓e_mth, ↓e_bi, ↓e_bm, ↓e_sortk, ↓e_isi, ↓e_comp, ↓e_d0, ↓e_rng, ↓e_zip, ↓e_rev, ↓es_n, ↓es_c, ↓eO_n, ↓eO_s, ↓eB_1, ↓eB_c, ↓q_n, ↓q_1, ↓q_c, ↓z_set, ↓z_unp, ↓z_ex, ↓z_ret, ↓z_retN, ↓z_ife, ↓z_for, ↓z_whil, ↓z_brk, ↓z_cnt, ↓z_pas, ↓z_rais, ↓z_mvs, ↓z_tr, ↓h_n, ↓h_c, ↓k2_, ↓j_op2_, ↓j_rep_, ↓j_neg_, ↓j_cmp_, ↓j_ch2_, ↓j_ch3_, ↓j_nt_, ↓j_tup_, ↓j_lst_, ↓j_ix_, ↓j_sl_, ↓j_sl2_, ↓j_sl3_, ↓j_mth_, ↓j_mth2_, ↓j_bi_, ↓j_bm_, ↓j_bm2_, ↓j_isi_, ↓j_lok_, ↓j_comp_, ↓j_rng_, ↓j_zip_, ↓j_rev_, ↓j_cons_, ↓k_es_, ↓z_setK_, ↓z_unpK_, ↓z_exK_, ↓z_forK_, ↓k_mu_, ↓z_mu0, ↓z_mu1, ↓z_mu2, ↓z_mu3, ↓z_mu4, ↓z_mu5, ↓z_mu6, ↓z_mu7, ↓z_mu8, ↓z_mu9, ↓z_mu10, ↓z_mu11, ↓z_mu12, ↓z_mu13, ↓z_mu14, ↓z_mu15, ↓z_mu16, ↓z_mu17, ↓z_mu18, ↓z_mu19, ↓z_mu20, ↓z_mu21, ↓z_mu22, ↓z_mu23, ↓z_mu24, ↓z_mu25, ↓z_mu26, ↓z_mu27, ↓z_mu28, ↓z_mu29, ty_int_int, ty_int_bool, ty_int_str, ty_int_list, ty_int_tuple, ty_int_dict, ty_bool_int, ty_bool_bool, ty_bool_str, ty_bool_list, ty_bool_tuple, ty_bool_dict, ty_str_int, ty_str_bool, ty_str_str, ty_str_list, ty_str_tuple, ty_str_dict, ty_list_int, ty_list_bool, ty_list_str, ty_list_list, ty_list_tuple, ty_list_dict, ty_tuple_int, ty_tuple_bool, ty_tuple_str, ty_tuple_list, ty_tuple_tuple, ty_tuple_dict, ty_dict_int, ty_dict_bool, ty_dict_str, ty_dict_list, ty_dict_tuple, ty_dict_dict, st_0, st_1, st_2, st_3, st_4, st_5, st_6, st_7, st_8, st_9, st_10, st_11, st_12, st_13, st_14, st_15, st_16, st_17, st_18, st_19, st_20, st_21, st_22, st_23, st_24, st_25, st_26, st_27, st_28, st_29, b_ok, b_exn, t_ok, t_exn, of_some, sq_nx, sq_ret, sq_exn, sq_brk, sq_cnt, obl_some, ob_ret, ob_nx, ob_exn, j_rep2_, j_ife_, z_ifeK_, chV_b, szt_t, compV_some, cpR_ok, cB_one, cB_many, cB_cd1, cdX_ok, lstO_some, zipV_l, revV_l, intO_i, bB_tt, bB_tf, bB_ft, bB_ff, bB_t, bB_f, unpV_t, nxO_s, forV_s, fB_one, fB_many, bm_n, bm_c, mvR_nx, mvR_ret, mvR_exn, dE_n, dE_c, trR_nx, trR_ret, trR_exn, caR_t, caR_f, unAs_nx, unAs_ret, aS_s, aS_n, muO_s, muK_t, ma_app, ma_ext, ma_clr, ma_rev, ma_set, md_app, md_ext, md_clr, md_rev, md_set, cn_i, cn_b, cn_n, cn_s, forL_n, compL_n, j_fld_, at_5, at_6, at_7, at_8, at_9, at_10, at_11, is_bb, bbtt, bbtf, bbft, bbff, beq_self_eq_true, mulOk_small, mulOk_small2, Bool.or_true, Bool.or_false, Bool.true_or, Bool.false_or, Bool.and_true, Bool.true_and, startE, eqV_int, eqV_str, op_add, op_sub, op_mul, op_fdiv, op_fdivN, op_mod, op_pow, op_addS, op_addL, de_non, de_bl, de_int, de_str, de_tup, de_lst, de_exc, de_scr, de_obj, cp_lt, cp_le, cp_gt, cp_ge, cp_eq, cp_ne, cp_isn, cp_isnt, cp_in, cp_nin, no_some, is_non, nb_non, nb_int, nb_bl, nb_tup, nb_lst, nb_str, eq_nn, eq_ni, eq_in, eq_bb, ix_lst, ix_tup, ix_scr, at_0, at_1, at_2, at_3, at_4, bi_lenL, bi_lenT, bi_lenC, bi_abs, bi_min2, bi_max2, bi_listL, bi_listT, ty_int, ty_bl, ty_non, ty_str, ty_lst, ty_tup, ty_exV, it_lst, it_tup, mu_app, mu_ext, mt_app, mt_ext, mt_clr, mt_rev, mt_set, mu_clr, mu_rev, List.map_cons, List.map_nil, List.length_cons, List.length_nil, List.cons_append, List.nil_append, List.replicate, Nat.reduceSub, Nat.reduceAdd, ↓reduceIte, if_true, if_false, Bool.false_eq_true, decide_eq_true_eq, decide_true, decide_false, Bool.not_true, Bool.not_false, reduceCtorEq, ite_true, ite_false, Int.reduceLT, Int.reduceLE, Int.reducePow, Int.reduceMul, Int.reduceAdd, Int.reduceSub, Int.reduceToNat, Nat.reduceLT, Nat.reducePow, and_self, and_true, true_and, Int.reduceNeg, Int.reduceEq, szb1, szb2, szb3, szb0, szb4, szb5, szb6, szb7, szb8, szb9, szb10, szb11, szb12, szb13, szb14, szb15, szb16, szb17, szb18, szb19, szb20, szb21, szb22, szb23, szb24, szb25, szb26, szb27, szb28, szb29, szb30, szb31, szb32, szb33, szb34, szb35, szb36, szb37, szb38, szb39]
end Pv
end

section
set_option Elab.async false
set_option linter.all false
open PySem PySem.W PySem.Calls PyProof.Rows
set_option maxRecDepth 100000 in
set_option maxHeartbeats 0 in
theorem PySem.Challenge.cw_gaze_k04_stretches_hold_holds : PySem.Challenge.rw_gaze_k04_stretches_hold.Holds := by
  w_on; o_law
  refine HandSHeadRun.head_any (r := OpenLaw.row PySem.Challenge.rw_gaze_k04_stretches_hold) (q := view (OpenLaw.row PySem.Challenge.rw_gaze_k04_stretches_hold).prog [20]) (H := Pv.hkP) (ob := Pv.obP) (M := 2860) (loose := Pv.looseN) (d := HandSHeadRun.topDef (OpenLaw.row PySem.Challenge.rw_gaze_k04_stretches_hold).prog 20) (kwd := []) Pv.obP_eq
    (by kernel_rfl) (fun s => by kernel_rfl) Pv.run_top (by kernel_rfl) (by kernel_rfl) (by kernel_rfl) (by rfl) (by first | assumption | decide +kernel) (by decide +kernel) ⟨rfl, rfl, rfl, rfl, rfl, by decide +kernel⟩ ?hw ?hc
  case hw => w_witness2
  case hc =>
    refine Pv.walk_pv (l := PySem.Challenge.rw_gaze_k04_stretches_hold) (G := Pv.G) (F := Pv.F_law_4) (x := ⟨#[95, 108, 97, 119, 95, 115, 99, 114, 105, 112, 116]⟩) (free := Pv.freeN) (cons := Pv.consN) (wf := Pv.wfN) (lv := Pv.lvN) (lawId := Pv.lawId) (own := fun _ _ => false) rfl (by kernel_rfl) ⟨rfl, by decide, by decide⟩ rfl rfl rfl rfl (by kernel_rfl) rfl ?_ Pv.run_ok
    intro w mg h Y Gm
    obtain ⟨K, KX, c, b⟩ := Y
    refine ⟨K, Pv.caOf K Pv.clA, KX, Pv.mods_of KX Gm (fun _ => rfl) b, fun f F hF _ => ?_⟩
    exact Pv.defs_ok KX Gm c b (f, F) (Pv.look_mem hF)
end
