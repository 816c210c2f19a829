import PyProof.Rows.All
import Wide.All
import OpenK.AllK
import Wide.FinOn
import HandS.ForMost
import HandS.ForExc
import HandS.IsInst
import HandS.TupAny
import HandS.CallLocal
import HandS.CallSlots
import HandS.ExcField
import HandS.TryMany
import HandS.Deep
import HandS.Style
import HandS.Conv
import HandS.Text
import HandS.Iter
import KE.KExcSuper
import KE.KSuper
import HandS.ExcInit
import HandS.More
import PySem.Challenge.RW_loanwalls_k10_whole_fractions
set_option Elab.async false
set_option linter.all false
set_option maxRecDepth 100000
set_option maxHeartbeats 8000000
section
/-! Mini: values, a small syntax, and its value semantics (an interpreter). Core Lean alone. -/
namespace LW

/-- values: what a Python value is, read deep -/
inductive D where
  | non | bl (b : Bool) | int (i : Int) | str (s : List Nat)
  | tup (xs : List D) | lst (xs : List D) | dict (kvs : List (D × D))
  | obj (c : Nat) (fs : List (Nat × D)) | fn (f : Nat) | ro (xs : List D) | exc (c : Nat) (fs : List D)
  deriving Inhabited, Repr

inductive BOp | add | sub | mul | fdiv | mod | pow
  deriving DecidableEq, Repr
inductive COp | eq | ne | lt | le | gt | ge | isin | notin
  deriving DecidableEq, Repr
inductive Ty | int | bool | str | list | tuple | dict | cls (c : Nat)
  deriving DecidableEq, Repr
inductive Bi
  | abs | all | any | dictOf | intOf | len | list | max1 | max2 | min1 | min2 | repr | sorted | sortedSet | lenSet
  | str | sum1 | sum2 | tuple | listZip | listItems | listValues | count | index | get2 | join | split
  deriving DecidableEq, Repr
/-- how an argument is handed: shared, borrowed (a slot that is changed elsewhere), in and out -/
inductive Md | s | b | io
  deriving DecidableEq, Repr
/-- a target of stores -/
inductive Tg | v (i : Nat) | t (l : List Tg)
  deriving Repr
inductive Mm | append | extend | insert | pop | update
  deriving DecidableEq, Repr

mutual
inductive E where
  | non | bl (b : Bool) | int (i : Int) | str (s : List Nat)
  | var (i : Nat) | mv (i : Nat) | bor (i : Nat) | vi (i : Nat) | gl (x : Nat) | fnv (f : Nat)
  | bin (o : BOp) (a b : E) | neg (a : E) | not (a : E) | and (as : Es) | or (as : Es) | ite (c a b : E)
  | cmp (o : COp) (a b : E) | eqO (neg : Bool) (a b : E) | reprNe (a b : E) | cmp2 (o p : COp) (a b c : E) | isN (a : E) | notN (a : E)
  | isi (a : E) (ts : List Ty) | isiT (a : E) (ts : List Ty)
  | call (f : Nat) (as : As) | callv (i : Nat) (as : As) | meth (m : Nat) (as : As) | new (c : Nat) (as : As)
  | listRange (as : As) | bi (b : Bi) (as : As) | lenO (a : E) | fld (a : E) (f : Nat) | xf (i k : Nat) | idx (a i : E)
  | slL (a l : E) | slH (a h : E) | slLH (a l h : E) | rev (a : E)
  | lst (as : Es) | tup (as : Es) | dsp (ks vs : Es)
  | comp (e : E) (tg : Tg) (it : It) (cs : Es)
  | fstr (as : Es)
inductive Es where | nil | cons (e : E) (r : Es)
inductive As where | nil | cons (m : Md) (e : E) (r : As)
inductive It where | e (a : E) | range (as : As) | enum (a : E) | zip (a b : E) | items (a : E) | values (a : E)
end

/-- a place whose object is changed: a slot, an item of it, a field of it -/
inductive Pl | v (i : Nat) | ix (i : Nat) (e : E) | fd (i : Nat) (f : Nat)

mutual
inductive S where
  | set (i : Nat) (e : E) | asg (tg : Tg) (e : E) | par (is : List Nat) (es : Es)
  | aug (i : Nat) (o : BOp) (e : E)
  | setIx (p : Pl) (k e : E) | augIx (p : Pl) (o : BOp) (k e : E) | swpIx (i : Nat) (k1 k2 e1 e2 : E)
  | setFd (i : Nat) (f : Nat) (e : E) | augFd (i : Nat) (f : Nat) (o : BOp) (e : E)
  | mut (p : Pl) (m : Mm) (as : Es)
  | ex (e : E) | ret (e : E) | retN | ite (c : E) (a b : Ss) | for (tg : Tg) (it : It) (b : Ss) | whl (c : E) (b : Ss)
  | rais (c : Nat) (as : Es) | tr (b : Ss) (hs : Hs) | pass
inductive Ss where | nil | cons (s : S) (r : Ss)
inductive Hs where | nil | cons (c : Nat) (i : Option Nat) (b : Ss) (r : Hs)
end

abbrev Env := List (Option D)
/-- o: the first argument behind the call, where the def changes it -/
inductive CR where | ret (d : D) (o : Option D) | ex (c : Nat) (fs : List D) (o : Option D) | bad
  deriving Inhabited, Repr
inductive R (α : Type) where | ok (a : α) (r : Env) | ex (c : Nat) (fs : List D) (r : Env) | bad
  deriving Inhabited, Repr
inductive SR where | nx (r : Env) | ret (d : D) (r : Env) | ex (c : Nat) (fs : List D) (r : Env) | bad
  deriving Inhabited, Repr

def R.bind {α β : Type} : R α → (α → Env → R β) → R β
  | .ok a r, f => f a r
  | .ex c fs r, _ => .ex c fs r
  | .bad, _ => .bad
def R.sr {α : Type} : R α → (α → Env → SR) → SR
  | .ok a r, f => f a r
  | .ex c fs r, _ => .ex c fs r
  | .bad, _ => .bad
def SR.bind : SR → (Env → SR) → SR
  | .nx r, f => f r
  | .ret d r, _ => .ret d r
  | .ex c fs r, _ => .ex c fs r
  | .bad, _ => .bad
/-- nothing is raised here -/
def R.quiet {α : Type} : R α → R α
  | .ex _ _ _ => .bad
  | m => m
def R.of {α : Type} (o : Option α) (r : Env) : R α := match o with | some a => .ok a r | none => .bad

/-! ### operations on values -/
/-- the largest length of a list, a text -/
def LIM : Nat := 16777216
def b2i (b : Bool) : Int := if b then 1 else 0
mutual
def eqD : D → D → Bool
  | .non, .non => true
  | .bl a, .bl b => a == b
  | .bl a, .int j => b2i a == j
  | .int i, .bl b => i == b2i b
  | .int i, .int j => i == j
  | .str s, .str t => s == t
  | .tup xs, .tup ys => eqL xs ys
  | .lst xs, .lst ys => eqL xs ys
  | _, _ => false
def eqL : List D → List D → Bool
  | [], [] => true
  | x :: xs, y :: ys => eqD x y && eqL xs ys
  | _, _ => false
end
/-- data that == compares: None, bools, ints, texts, tuples and lists of such, to some depth -/
def plain : Nat → D → Bool
  | _, .non => true
  | _, .bl _ => true
  | _, .int _ => true
  | _, .str s => s.all (fun c => decide (c < 1114112))
  | n + 1, .tup xs => xs.all (plain n)
  | n + 1, .lst xs => xs.all (plain n)
  | _, _ => false
abbrev pl8 (d : D) : Bool := plain 8 d
mutual
/-- the same data: nothing but None, bools, ints, texts, tuples and lists -/
def sameD : D → D → Bool
  | .non, .non => true
  | .bl a, .bl b => a == b
  | .int i, .int j => i == j
  | .str s, .str t => s == t
  | .tup xs, .tup ys => sameL xs ys
  | .lst xs, .lst ys => sameL xs ys
  | _, _ => false
def sameL : List D → List D → Bool
  | [], [] => true
  | x :: xs, y :: ys => sameD x y && sameL xs ys
  | _, _ => false
end
mutual
/-- what repr may be asked of: small ints -/
def short : D → Bool
  | .int i => decide (i.natAbs < 1000000000000)
  | .tup xs => shorts xs
  | .lst xs => shorts xs
  | _ => true
def shorts : List D → Bool
  | [] => true
  | x :: r => short x && shorts r
end
mutual
def wt : D → Nat
  | .int _ => 41
  | .str s => s.length
  | .tup xs => wts xs
  | .lst xs => wts xs
  | _ => 0
def wts : List D → Nat
  | [] => 0
  | x :: r => wt x + 1 + wts r
end
def reprOk (d : D) : Bool := pl8 d && short d && decide (wt d ≤ 1048576)
/-- repr(x) != repr(y) where both are the same data -/
def reprNe (x y : D) : Option D := if reprOk x && sameD x y then some (.bl false) else none
def ltS : List Nat → List Nat → Bool
  | [], [] => false
  | [], _ :: _ => true
  | _ :: _, [] => false
  | a :: r, b :: t => if a < b then true else if a = b then ltS r t else false
mutual
/-- x < y where the model says it: ints, texts, tuples and lists of such -/
def ltD : D → D → Option Bool
  | .int i, .int j => some (decide (i < j))
  | .str s, .str t => some (ltS s t)
  | .tup xs, .tup ys => ltL xs ys
  | .lst xs, .lst ys => ltL xs ys
  | _, _ => none
def ltL : List D → List D → Option Bool
  | [], [] => some false
  | [], _ :: _ => some true
  | _ :: _, [] => some false
  | x :: xs, y :: ys => if eqD x y then ltL xs ys else ltD x y
end
/-- insert into a sorted list behind equal ones -/
def insD (lt : D → D → Option Bool) (x : D) : List D → Option (List D)
  | [] => some [x]
  | y :: r => match lt x y with
    | none => none
    | some true => some (x :: y :: r)
    | some false => (insD lt x r).map (y :: ·)
def sortFrom (lt : D → D → Option Bool) : List D → List D → Option (List D)
  | acc, [] => some acc
  | acc, x :: r => match insD lt x acc with | none => none | some a => sortFrom lt a r
def sortD (lt : D → D → Option Bool) (xs : List D) : Option (List D) := sortFrom lt [] xs
def dedup : List D → List D → List D
  | acc, [] => acc
  | acc, x :: r => if acc.any (eqD x) then dedup acc r else dedup (acc ++ [x]) r
def foldMin (lt : D → D → Option Bool) : D → List D → Option D
  | m, [] => some m
  | m, x :: r => match lt x m with | none => none | some true => foldMin lt x r | some false => foldMin lt m r
def foldMax (lt : D → D → Option Bool) : D → List D → Option D
  | m, [] => some m
  | m, x :: r => match lt m x with | none => none | some true => foldMax lt x r | some false => foldMax lt m r

def ixN (n : Nat) (i : Int) : Option Nat := if 0 ≤ i then (if i < n then some i.toNat else none) else if -(n : Int) ≤ i then some (i + n).toNat else none
def atI {α : Type} (xs : List α) (i : Int) : Option α := (ixN xs.length i).bind fun j => xs[j]?
def clampI (n : Nat) (i : Int) : Nat := if i < 0 then (i + n).toNat else min i.toNat n
def partI (n d : Nat) : Option Int → Nat
  | none => d
  | some v => clampI n v
def cut {α : Type} (xs : List α) (l h : Option Int) : List α := (xs.drop (partI xs.length 0 l)).take (partI xs.length xs.length h - partI xs.length 0 l)
def lookD (k : D) : List (D × D) → Option D
  | [] => none
  | (q, v) :: r => if eqD q k then some v else lookD k r
def putD (k v : D) : List (D × D) → List (D × D)
  | [] => [(k, v)]
  | (q, u) :: r => if eqD q k then (q, v) :: r else (q, u) :: putD k v r
def putF (f : Nat) (v : D) : List (Nat × D) → List (Nat × D)
  | [] => [(f, v)]
  | (q, u) :: r => if q = f then (q, v) :: r else (q, u) :: putF f v r
/-- what may be a key -/
def isKey : D → Bool
  | .tup xs => plain 7 (.tup xs)
  | .int _ => true
  | .str _ => true
  | _ => false
mutual
/-- nothing in it can be changed -/
def imm : D → Bool
  | .non => true | .bl _ => true | .int _ => true | .str _ => true | .fn _ => true
  | .tup xs => imms xs
  | _ => false
def imms : List D → Bool
  | [] => true
  | x :: r => imm x && imms r
end
def mutable : D → Bool
  | .lst _ => true | .dict _ => true | .obj _ _ => true | _ => false

def digitsN (n : Nat) : List Nat := (Nat.toDigits 10 n).map Char.toNat
def showI (i : Int) : List Nat := if i < 0 then 45 :: digitsN i.natAbs else digitsN i.natAbs
def commaJ (sep : List Nat) : List (List Nat) → List Nat
  | [] => []
  | [x] => x
  | x :: r => x ++ sep ++ commaJ sep r
mutual
def showD : D → Option (List Nat)
  | .non => some [78, 111, 110, 101]
  | .bl true => some [84, 114, 117, 101]
  | .bl false => some [70, 97, 108, 115, 101]
  | .int i => some (showI i)
  | .str s => if s.all (fun c => 32 ≤ c && c < 127 && c != 39 && c != 92) then some (39 :: s ++ [39]) else none
  | .tup xs => match showL xs with
    | none => none
    | some [x] => some (40 :: x ++ [44, 41])
    | some l => some (40 :: commaJ [44, 32] l ++ [41])
  | .lst xs => match showL xs with
    | none => none
    | some l => some (91 :: commaJ [44, 32] l ++ [93])
  | _ => none
def showL : List D → Option (List (List Nat))
  | [] => some []
  | x :: xs => match showD x, showL xs with | some a, some b => some (a :: b) | _, _ => none
end

def seqOf : D → Option (List D)
  | .lst xs => some xs
  | .tup xs => some xs
  | _ => none
def iterOf : D → Option (List D)
  | .lst xs => some xs
  | .tup xs => some xs
  | .str s => some (s.map fun c => .str [c])
  | .dict kvs => some (kvs.map (·.1))
  | _ => none
def intsOf : List D → Option (List Int)
  | [] => some []
  | .int i :: r => (intsOf r).map (i :: ·)
  | _ => none
def boolsOf : List D → Option (List Bool)
  | [] => some []
  | .bl i :: r => (boolsOf r).map (i :: ·)
  | _ => none
def strsOf : List D → Option (List (List Nat))
  | [] => some []
  | .str i :: r => (strsOf r).map (i :: ·)
  | _ => none
def listsOf : List D → Option (List (List D))
  | [] => some []
  | .lst i :: r => (listsOf r).map (i :: ·)
  | _ => none
def pairsOf : List D → Option (List (D × D))
  | [] => some []
  | .tup [k, v] :: r => if isKey k then (pairsOf r).map ((k, v) :: ·) else none
  | _ => none
def rangeL (a : Int) : Nat → Int → List D
  | 0, _ => []
  | n + 1, c => .int a :: rangeL (a + c) n c
def rangeN (a b c : Int) : Nat := if 0 < c then ((b - a + c - 1) / c).toNat else if c < 0 then ((a - b + (-c) - 1) / (-c)).toNat else 0
def BIG : Int := 4611686018427387904
/-- -BIG ≤ i < BIG; said so that the kernel never counts BIG down -/
def small : Int → Bool
  | .ofNat n => Nat.ble n 4611686018427387903
  | .negSucc n => Nat.ble n 4611686018427387903
theorem small_iff (i : Int) : small i = true ↔ (-BIG ≤ i ∧ i < BIG) := by
  cases i with
  | ofNat n =>
    show Nat.ble n 4611686018427387903 = true ↔ (-4611686018427387904 ≤ (n : Int) ∧ (n : Int) < 4611686018427387904)
    rw [Nat.ble_eq]; omega
  | negSucc n =>
    show Nat.ble n 4611686018427387903 = true ↔ (-4611686018427387904 ≤ Int.negSucc n ∧ Int.negSucc n < 4611686018427387904)
    rw [Nat.ble_eq, Int.negSucc_eq]; omega
def rangeD : List D → Option (List D)
  | [.int b] => if small b then some (rangeL 0 (rangeN 0 b 1) 1) else none
  | [.int a, .int b] => if small a && small b then some (rangeL a (rangeN a b 1) 1) else none
  | [.int a, .int b, .int c] => if small a && small b && c == -1 then some (rangeL a (rangeN a b c) c) else none
  | _ => none
/-- up by one alone -/
def rangeD2 : List D → Option (List D)
  | [.int b] => if small b then some (rangeL 0 b.toNat 1) else none
  | [.int a, .int b] => if small a && small b then some (rangeL a (b - a).toNat 1) else none
  | _ => none
def lim {α : Type} (xs : List α) : Bool := decide (xs.length ≤ LIM)
def mkL (xs : List D) : Option D := if lim xs then some (.lst xs) else none
def mkT (xs : List D) : Option D := if lim xs then some (.tup xs) else none
def mkS (s : List Nat) : Option D := if lim s then some (.str s) else none
def repeatL {α : Type} (xs : List α) : Nat → List α
  | 0 => []
  | n + 1 => xs ++ repeatL xs n
def M64 : Int := 18446744073709551616
def mulOk (i j : Int) : Bool := decide (-M64 < i ∧ i < M64) || decide (-M64 < j ∧ j < M64)
def divOk (j : Int) : Bool := decide (j ≠ 0 ∧ j.natAbs < 1073741824)
def binD : BOp → D → D → Option D
  | .add, .int i, .int j => some (.int (i + j))
  | .add, .str s, .str t => mkS (s ++ t)
  | .add, .lst s, .lst t => mkL (s ++ t)
  | .add, .tup s, .tup t => mkT (s ++ t)
  | .sub, .int i, .int j => some (.int (i - j))
  | .mul, .int i, .int j => if mulOk i j then some (.int (i * j)) else none
  | .mul, .lst s, .int j => if small j && decide (s.length * j.toNat ≤ LIM) then some (.lst (repeatL s j.toNat)) else none
  | .fdiv, .int i, .int j => if divOk j then some (.int (i.fdiv j)) else none
  | .mod, .int i, .int j => if j ≠ 0 then some (.int (i.fmod j)) else none
  | .pow, .int i, .int j => if decide (0 ≤ j ∧ j ≤ 1000000 ∧ i.natAbs < 18446744073709551616) then some (.int (i ^ j.toNat)) else none
  | _, _, _ => none
/-- x op= y, of ints -/
def augD : BOp → D → D → Option D
  | .add, .int i, .int j => some (.int (i + j))
  | .sub, .int i, .int j => some (.int (i - j))
  | _, _, _ => none
def subL : List Nat → List Nat → Bool
  | s, [] => s == []
  | s, c :: r => s.isPrefixOf (c :: r) || subL s r
def inD (x : D) : D → Option Bool
  | .lst xs => if pl8 x && xs.all pl8 then some (xs.any (eqD · x)) else none
  | .tup xs => if pl8 x && xs.all pl8 then some (xs.any (eqD · x)) else none
  | .dict kvs => if isKey x then some ((lookD x kvs).isSome) else none
  | _ => none
def cmpD : COp → D → D → Option Bool
  | .eq, a, b => if pl8 a && pl8 b then some (eqD a b) else none
  | .ne, a, b => if pl8 a && pl8 b then some (!eqD a b) else none
  | .lt, .int i, .int j => some (decide (i < j))
  | .gt, .int i, .int j => some (decide (j < i))
  | .le, .int i, .int j => some (decide (i ≤ j))
  | .ge, .int i, .int j => some (decide (j ≤ i))
  | .isin, a, b => inD a b
  | .notin, a, b => (inD a b).map (!·)
  | _, _, _ => none
def isNonD : D → Bool
  | .non => true
  | _ => false
def truth : D → Option Bool
  | .bl b => some b
  | _ => none
/-- the classes' order: c is d or below it -/
structure Prog where
  sub : Nat → Nat → Bool
  exc : Nat → Bool
  meth : Nat → Nat → Option Nat
  init : Nat → Nat
  eq : Nat → Option Nat
  lens : Nat → Option Nat
  xfs : Nat → List Nat
  gl : Nat → D
  io : Nat → Bool
  np : Nat → Nat
  nslots : Nat → Nat
  body : Nat → Ss
def isTy (P : Prog) : D → Ty → Bool
  | .int _, .int => true
  | .bl _, .int => true
  | .bl _, .bool => true
  | .str _, .str => true
  | .lst _, .list => true
  | .tup _, .tuple => true
  | .dict _, .dict => true
  | .obj c _, .cls k => P.sub c k
  | _, _ => false
/-- what may be asked for its class -/
def tyOk : D → Bool
  | .fn _ => false
  | .dict _ => false
  | .ro _ => false
  | .obj _ _ => false
  | .exc _ _ => false
  | _ => true
def tyPlain : Ty → Bool
  | .cls _ => false
  | _ => true
def isiD (P : Prog) (ts : List Ty) (x : D) : Option D := if tyOk x && ts.all tyPlain then some (.bl (ts.any (isTy P x))) else none
def idxD : D → D → Option D
  | .lst xs, .int i => if small i then atI xs i else none
  | .ro xs, .int i => if small i then atI xs i else none
  | .tup xs, .int i => if small i then atI xs i else none
  | .str s, .int i => if small i && lim s then (atI s i).map fun c => .str [c] else none
  | .dict kvs, k => if isKey k then lookD k kvs else none
  | _, _ => none
/-- a part of a slice that is told: a small int -/
def partOk : Option D → Option (Option Int)
  | none => some none
  | some (.int i) => if small i then some (some i) else none
  | _ => none
def slcD (a : D) (l h : Option D) : Option D := match partOk l, partOk h with
  | some l, some h => (match a with
    | .lst xs => some (.lst (cut xs l h))
    | .tup xs => some (.tup (cut xs l h))
    | .str xs => if lim xs then some (.str (cut xs l h)) else none
    | _ => none)
  | _, _ => none
def digitsOk (s : List Nat) : Bool := s.all (fun c => 48 ≤ c && c < 58) && s != [] && decide (s.length ≤ 640)
def numOf (s : List Nat) : Nat := s.foldl (fun n c => 10 * n + (c - 48)) 0
def splitL (sep : Nat) : List Nat → List Nat → List (List Nat)
  | cur, [] => [cur]
  | cur, c :: r => if c = sep then cur :: splitL sep [] r else splitL sep (cur ++ [c]) r
def idxOf (x : D) : List D → Nat → Option Nat
  | [], _ => none
  | y :: r, n => if eqD y x then some n else idxOf x r (n + 1)
def zipD : List D → List D → List D
  | x :: xs, y :: ys => .tup [x, y] :: zipD xs ys
  | _, _ => []
def enumD : Int → List D → List D
  | _, [] => []
  | i, x :: r => .tup [.int i, x] :: enumD (i + 1) r
def itemsD (kvs : List (D × D)) : List D := kvs.map fun p => .tup [p.1, p.2]
def mergeD : List (D × D) → List (D × D) → List (D × D)
  | acc, [] => acc
  | acc, (k, v) :: r => mergeD (putD k v acc) r
def sortable (xs : List D) : Option (List D) := sortD ltD xs
def maxI : Int → List Int → Int
  | m, [] => m
  | m, x :: r => maxI (if m < x then x else m) r
def minI : Int → List Int → Int
  | m, [] => m
  | m, x :: r => minI (if x < m then x else m) r
def sumI : List Int → Int
  | [] => 0
  | x :: r => x + sumI r
def sumFrom : List D → List (List D) → List D
  | acc, [] => acc
  | acc, x :: r => sumFrom (acc ++ x) r
def biD : Bi → List D → Option D
  | .abs, [.int i] => some (.int (if i < 0 then -i else i))
  | .all, [.lst xs] => (boolsOf xs).map fun bs => .bl (bs.all id)
  | .any, [.lst xs] => (boolsOf xs).map fun bs => .bl (bs.any id)
  | .dictOf, [.dict kvs] => some (.dict kvs)
  | .dictOf, [.lst ps] => (pairsOf ps).map fun l => .dict (mergeD [] l)
  | .dictOf, [.tup ps] => (pairsOf ps).map fun l => .dict (mergeD [] l)
  | .intOf, [.int i] => some (.int i)
  | .intOf, [.bl b] => some (.int (b2i b))
  | .len, [.lst xs] => some (.int xs.length)
  | .len, [.tup xs] => some (.int xs.length)
  | .len, [.ro xs] => some (.int xs.length)
  | .len, [.str xs] => if lim xs then some (.int xs.length) else none
  | .len, [.dict xs] => some (.int xs.length)
  | .list, [.lst xs] => some (.lst xs)
  | .list, [.tup xs] => some (.lst xs)
  | .list, [.dict kvs] => some (.lst (kvs.map (·.1)))
  | .tuple, [.lst xs] => some (.tup xs)
  | .tuple, [.tup xs] => some (.tup xs)
  | .tuple, [.dict kvs] => some (.tup (kvs.map (·.1)))
  | .max2, [.int i, .int j] => some (.int (if j > i then j else i))
  | .min2, [.int i, .int j] => some (.int (if j < i then j else i))
  | .max1, [.lst xs] => match intsOf xs with | some (x :: r) => some (.int (maxI x r)) | _ => none
  | .min1, [.lst xs] => match intsOf xs with | some (x :: r) => some (.int (minI x r)) | _ => none
  | .str, [.int i] => if decide (i.natAbs < 10 ^ 500) then some (.str (showI i)) else none
  | .str, [.str s] => some (.str s)
  | .str, [.non] => some (.str [78, 111, 110, 101])
  | .sorted, [d] => match iterOf d with | some xs => (sortable xs).map .lst | none => none
  | .sortedSet, [d] => match seqOf d with | some xs => if xs.all isKey then (sortable (dedup [] xs)).map .lst else none | none => none
  | .lenSet, [d] => match seqOf d with | some xs => if xs.all isKey then some (.int (dedup [] xs).length) else none | none => none
  | .sum1, [.lst xs] => (intsOf xs).map fun l => .int (sumI l)
  | .sum2, [.lst xs, .lst z] => match listsOf xs with | some l => mkL (sumFrom z l) | none => none
  | .listZip, [a, b] => match seqOf a, seqOf b with | some x, some y => some (.lst (zipD x y)) | _, _ => none
  | .listItems, [.dict kvs] => some (.lst (itemsD kvs))
  | .listValues, [.dict kvs] => some (.lst (kvs.map (·.2)))
  | .count, [d, x] => match seqOf d with | some xs => if pl8 x && xs.all pl8 then some (.int (xs.countP (eqD · x))) else none | none => none
  | .index, [.str s, .str [c]] => (idxOf (.str [c]) (s.map fun c => .str [c]) 0).map fun n => .int n
  | .index, [d, x] => match seqOf d with | some xs => if pl8 x && xs.all pl8 then (idxOf x xs 0).map fun n => .int n else none | none => none
  | .get2, [.dict kvs, k, x] => if isKey k then some ((lookD k kvs).getD x) else none
  | .join, [.str s, d] => match seqOf d with | some xs => (match strsOf xs with | some l => mkS (commaJ s l) | none => none) | none => none
  | .split, [.str s, .str [c]] => some (.lst ((splitL c [] s).map .str))
  | _, _ => none

/-! ### the interpreter -/
/-- an exception that a clause has named -/
def isX : D → Bool
  | .exc _ _ => true
  | _ => false
/-- a slot's value; a named exception is none -/
def rd (r : Env) (i : Nat) : Option D := match r[i]? with | some (some d) => if isX d then none else some d | _ => none
/-- the named exceptions are gone -/
def clr (r : Env) : Env := r.map fun o => match o with | some d => if isX d then none else some d | none => none
/-- a lent slot is read when the operation is done -/
def late (e : E) (d : D) (r : Env) : Option D := match e with
  | .bor i => rd r i
  | _ => some d
def getV (r : Env) (i : Nat) : R D := match rd r i with | some d => .ok d r | none => .bad
mutual
/-- the store of a value into a target -/
def stTg : Tg → D → Env → Option Env
  | .v i, d, r => some (r.set i (some d))
  | .t l, .tup xs, r => stTgs l xs r
  | .t _, _, _ => none
def stTgs : List Tg → List D → Env → Option Env
  | [], [], r => some r
  | t :: ts, d :: ds, r => match stTg t d r with | some r1 => stTgs ts ds r1 | none => none
  | _, _, _ => none
end
mutual
def tgIds : Tg → List Nat
  | .v i => [i]
  | .t l => tgsIds l
def tgsIds : List Tg → List Nat
  | [] => []
  | t :: r => tgIds t ++ tgsIds r
end
def wipeI (r : Env) : List Nat → Env
  | [] => r
  | i :: l => (wipeI r l).set i none
/-- the slots l as they stand in r0 -/
def back (r0 r : Env) : List Nat → Env
  | [] => r
  | i :: l => (back r0 r l).set i (rd r0 i)
def ioBack : As → Option D → Env → Option Env
  | .cons .io (.bor i) _, some d, r => some (r.set i (some d))
  | .cons .io _ _, _, _ => none
  | _, none, r => some r
  | _, some _, _ => none
def isIo : As → Bool
  | .cons .io _ _ => true
  | _ => false
/-- an object that is changed elsewhere is lent -/
def hasB : As → List D → Bool
  | .cons .b _ r, d :: ds => mutable d || hasB r ds
  | .cons _ _ r, _ :: ds => hasB r ds
  | _, _ => false
def ofCall (as : As) (ds : List D) (c : CR) (r : Env) : R D := match c with
  | .ret d o => if hasB as ds && (isIo as || !imm d) then .bad else match ioBack as o r with | some r1 => .ok d r1 | none => .bad
  | .ex k fs o => if hasB as ds && (isIo as || !imms fs) then .bad else match ioBack as o r with | some r1 => .ex k fs r1 | none => .bad
  | .bad => .bad
/-- a changed list that a comprehension walks is not to be had meanwhile -/
def lend (it : It) (r : Env) : Env := match it with
  | .e (.bor i) => r.set i none
  | _ => r
def unlend (it : It) (r0 r : Env) : Env := match it with
  | .e (.bor i) => r.set i (rd r0 i)
  | _ => r
/-- operands that are places are read at the end -/
def lateAs : As → List D → Env → Option (List D)
  | .cons _ e as, d :: ds, r => match late e d r, lateAs as ds r with | some x, some xs => some (x :: xs) | _, _ => none
  | _, _, _ => some []
/-- a comprehension's turns -/
def loopC (step : D → Env → R (Option D)) : List D → List D → Env → R (List D)
  | [], acc, r => .ok acc r
  | x :: xs, acc, r => (step x r).bind fun o r1 => match o with | some d => loopC step xs (acc ++ [d]) r1 | none => loopC step xs acc r1
def loopF (step : D → Env → SR) : List D → Env → SR
  | [], r => .nx r
  | x :: xs, r => (step x r).bind fun r1 => loopF step xs r1
def loopW (c : Env → R D) (b : Env → SR) : Nat → Env → SR
  | 0, _ => .bad
  | n + 1, r => (c r).sr fun d r1 => match truth d with | some true => (b r1).bind fun r2 => loopW c b n r2 | some false => .nx r1 | none => .bad

variable (P : Prog) (call : Nat → List D → CR) (wf : Nat)
mutual
def ev : E → Env → R D
  | .non, r => .ok .non r
  | .bl b, r => .ok (.bl b) r
  | .int i, r => .ok (.int i) r
  | .str s, r => .ok (.str s) r
  | .var i, r => getV r i
  | .mv i, r => match rd r i with | some d => .ok d (r.set i none) | none => .bad
  | .bor i, r => getV r i
  | .vi i, r => match rd r i with | some d => if mutable d then .bad else .ok d r | none => .bad
  | .gl x, r => .ok (P.gl x) r
  | .fnv f, r => .ok (.fn f) r
  | .bin o a b, r => (ev a r).bind fun x r1 => (ev b r1).bind fun y r2 => R.of ((late a x r2).bind fun x => (late b y r2).bind fun y => binD o x y) r2
  | .neg a, r => (ev a r).bind fun x r1 => match x with | .int i => .ok (.int (-i)) r1 | _ => .bad
  | .not a, r => (ev a r).bind fun x r1 => match truth x with | some b => .ok (.bl (!b)) r1 | none => .bad
  | .and as, r => evAnd as r
  | .or as, r => evOr as r
  | .ite c a b, r => (ev c r).bind fun x r1 => match truth x with | some true => ev a r1 | some false => ev b r1 | none => .bad
  | .cmp o a b, r => (ev a r).bind fun x0 r1 => (ev b r1).bind fun y0 r2 => match late a x0 r2, late b y0 r2 with
   | some x, some y => (match cmpD o x y with | some b => .ok (.bl b) r2 | none => .bad)
   | _, _ => .bad
  | .reprNe a b, r => (ev a r).bind fun x r1 => if reprOk x then (ev b r1).bind fun y r2 => R.of (reprNe x y) r2 else .bad
  | .eqO neg a b, r => (ev a r).bind fun x0 r1 => (ev b r1).bind fun y0 r2 => match late a x0 r2, late b y0 r2 with
   | some (.obj c fs), some y => (match P.eq c with | some f => (match call f [.obj c fs, y] with | .ret (.bl d) none => .ok (.bl (xor neg d)) r2 | _ => .bad) | none => .bad)
   | _, _ => .bad
  | .cmp2 o p a b c, r => (ev a r).bind fun x r1 => (ev b r1).bind fun y r2 => match cmpD o x y with
    | some true => (ev c r2).bind fun z r3 => (match cmpD p y z with | some b => .ok (.bl b) r3 | none => .bad)
    | some false => .ok (.bl false) r2
    | none => .bad
  | .isN a, r => (ev a r).bind fun x r1 => .ok (.bl (isNonD x)) r1
  | .notN a, r => (ev a r).bind fun x r1 => .ok (.bl (!isNonD x)) r1
  | .isi a ts, r => (ev a r).bind fun x r1 => R.of ((late a x r1).bind (isiD P ts)) r1
  | .isiT a ts, r => (ev a r).bind fun x r1 => R.of ((late a x r1).bind (isiD P ts)) r1
  | .call f as, r => (evAs as r).bind fun ds0 r1 => match lateAs as ds0 r1 with | none => .bad | some ds => if isIo as == P.io f then ofCall as ds (call f ds) r1 else .bad
  | .callv i as, r => match rd r i with
    | some (.fn f) => (evAs as r).bind fun ds0 r1 => match lateAs as ds0 r1 with | none => .bad | some ds => if isIo as == P.io f then ofCall as ds (call f ds) r1 else .bad
    | _ => .bad
  | .meth m as, r => (evAs as r).bind fun ds0 r1 => match lateAs as ds0 r1 with | none => .bad | some ds => match ds with
    | .obj c fs :: _ => (match P.meth c m with | some f => if isIo as == P.io f then ofCall as ds (call f ds) r1 else .bad | none => .bad)
    | _ => .bad
  | .new c as, r => (evAs as r).bind fun ds0 r1 => match lateAs as ds0 r1 with | none => .bad | some ds => match call (P.init c) (.obj c [] :: ds) with
    | .ret .non (some d) => .ok d r1
    | .ex k fs (some _) => .ex k fs r1
    | _ => .bad
  | .bi b as, r => (evAs as r).bind fun ds0 r1 => R.of ((lateAs as ds0 r1).bind (biD b)) r1
  | .lenO a, r => (ev a r).bind fun x0 r1 => match late a x0 r1 with
    | some (.obj c fs) => (match P.lens c with | some f => (match call f [.obj c fs] with | .ret d none => .ok d r1 | _ => .bad) | none => .bad)
    | _ => .bad
  | .xf i k, r => (match r[i]? with | some (some (.exc _ fs)) => R.of fs[k]? r | _ => .bad)
  | .fld a f, r => (ev a r).bind fun x r1 => match x with | .obj _ fs => R.of (fs.lookup f) r1 | _ => .bad
  | .idx a i, r => (ev a r).bind fun x r1 => (ev i r1).bind fun y r2 => R.of ((late a x r2).bind fun x => idxD x y) r2
  | .slL a l, r => (ev a r).bind fun x r1 => (ev l r1).bind fun y r2 => R.of ((late a x r2).bind fun x => slcD x (some y) none) r2
  | .slH a h, r => (ev a r).bind fun x r1 => (ev h r1).bind fun y r2 => R.of ((late a x r2).bind fun x => slcD x none (some y)) r2
  | .slLH a l h, r => (ev a r).bind fun x r1 => (ev l r1).bind fun y r2 => if (partOk (some y)).isSome then (ev h r2).bind fun z r3 => R.of ((late a x r3).bind fun x => slcD x (some y) (some z)) r3 else .bad
  | .rev a, r => (ev a r).bind fun x r1 => match x with | .lst xs => .ok (.lst xs.reverse) r1 | .tup xs => .ok (.tup xs.reverse) r1 | _ => .bad
  | .listRange as, r => (evAs as r).bind fun ds r1 => R.of ((rangeD2 ds).bind mkL) r1
  | .lst as, r => (evs as r).bind fun ds r1 => R.of (mkL ds) r1
  | .tup as, r => (evs as r).bind fun ds r1 => R.of (mkT ds) r1
  | .dsp ks vs, r => (evs ks r).bind fun kd r1 => (evs vs r1).bind fun vd r2 => if kd.all isKey then .ok (.dict (mergeD [] (kd.zip vd))) r2 else .bad
  | .comp e tg it cs, r => (evIt it r).bind fun xs r1 =>
      (R.quiet (loopC (fun x r2 => match stTg tg x (wipeI r2 (tgIds tg)) with
        | some r3 => (evConds cs r3).bind fun b r4 => if b then (ev e r4).bind fun d r5 => .ok (some d) r5 else .ok none r4
        | none => .bad) xs [] (lend it r1))).bind fun ds r6 => if lim ds then .ok (.lst ds) (back r1 (unlend it r1 r6) (tgIds tg)) else .bad
  | .fstr as, r => (evs as r).bind fun ds r1 => match strsOf (ds.map fun d => (biD .str [d]).getD .non) with | some l => R.of (mkS (commaJ [] l)) r1 | none => .bad
def evs : Es → Env → R (List D)
  | .nil, r => .ok [] r
  | .cons e es, r => (ev e r).bind fun x r1 => (evs es r1).bind fun xs r2 => .ok (x :: xs) r2
def evAs : As → Env → R (List D)
  | .nil, r => .ok [] r
  | .cons _ e es, r => (ev e r).bind fun x r1 => (evAs es r1).bind fun xs r2 => .ok (x :: xs) r2
def evAnd : Es → Env → R D
  | .nil, _ => .bad
  | .cons e es, r => (ev e r).bind fun x r1 => match es with
    | .nil => .ok x r1
    | .cons e2 es2 => match truth x with | some true => evAnd (.cons e2 es2) r1 | some false => .ok (.bl false) r1 | none => .bad
def evOr : Es → Env → R D
  | .nil, _ => .bad
  | .cons e es, r => (ev e r).bind fun x r1 => match es with
    | .nil => .ok x r1
    | .cons e2 es2 => match truth x with | some false => evOr (.cons e2 es2) r1 | some true => .ok (.bl true) r1 | none => .bad
def evConds : Es → Env → R Bool
  | .nil, r => .ok true r
  | .cons e es, r => (ev e r).bind fun x r1 => match truth x with | some true => evConds es r1 | some false => .ok false r1 | none => .bad
def evIt : It → Env → R (List D)
  | .e a, r => (ev a r).bind fun x r1 => R.of (iterOf x) r1
  | .range as, r => (evAs as r).bind fun ds r1 => R.of (rangeD ds) r1
  | .enum a, r => (ev a r).bind fun x r1 => match iterOf x with | some xs => .ok (enumD 0 xs) r1 | none => .bad
  | .zip a b, r => (ev a r).bind fun x r1 => (ev b r1).bind fun y r2 => match seqOf x, seqOf y with | some xs, some ys => .ok (zipD xs ys) r2 | _, _ => .bad
  | .items a, r => (ev a r).bind fun x r1 => match x with | .dict kvs => .ok (itemsD kvs) r1 | _ => .bad
  | .values a, r => (ev a r).bind fun x r1 => match x with | .dict kvs => .ok (kvs.map (·.2)) r1 | _ => .bad
end

/-- what stands at a place, and how it is put back -/
def atPl (p : Pl) (r : Env) : R (D × (D → Env → Option Env)) := match p with
  | .v i => (getV r i).bind fun d r1 => .ok (d, fun x r2 => some (r2.set i (some x))) r1
  | .ix i e => (ev P call e r).bind fun k r1 => (getV r1 i).bind fun d r2 => match d, k with
    | .lst xs, .int j => (match ixN xs.length j with
      | some n => (match xs[n]? with | some y => .ok (y, fun x r3 => some (r3.set i (some (.lst (xs.set n x))))) r2 | none => .bad)
      | none => .bad)
    | _, _ => .bad
  | .fd i f => (getV r i).bind fun d r1 => match d with
    | .obj c fs => (match fs.lookup f with | some y => .ok (y, fun x r2 => some (r2.set i (some (.obj c (putF f x fs))))) r1 | none => .bad)
    | _ => .bad
def putIx (d k x : D) : Option D := match d, k with
  | .lst xs, .int j => (ixN xs.length j).map fun n => .lst (xs.set n x)
  | .dict kvs, k => if isKey k then some (.dict (putD k x kvs)) else none
  | _, _ => none
def isLst : D → Bool
  | .lst _ => true
  | _ => false
def mutD : Mm → D → List D → Option (D × D)
  | .append, .lst xs, [x] => if lim (xs ++ [x]) then some (.lst (xs ++ [x]), .non) else none
  | .extend, .lst xs, [.lst ys] => if lim (xs ++ ys) then some (.lst (xs ++ ys), .non) else none
  | .insert, .lst xs, [.int i, x] => if small i && decide (0 ≤ i) && lim (xs ++ [x]) then some (.lst (xs.take i.toNat ++ [x] ++ xs.drop i.toNat), .non) else none
  | .update, .dict kvs, [.dict ls] => some (.dict (mergeD kvs ls), .non)
  | _, _, _ => none
mutual
def ex : S → Env → SR
  | .set i e, r => (ev P call e r).sr fun d r1 => .nx (r1.set i (some d))
  | .asg tg e, r => (ev P call e r).sr fun d r1 => match stTg tg d r1 with | some r2 => .nx r2 | none => .bad
  | .par is es, r => (evs P call es r).sr fun ds r1 => match stTgs (is.map .v) ds r1 with | some r2 => .nx r2 | none => .bad
  | .aug i o e, r => (getV r i).sr fun d r0 => (ev P call e r0).sr fun x r1 => match augD o d x with | some y => .nx (r1.set i (some y)) | none => .bad
  | .setIx (.v i) k e, r => (ev P call e r).sr fun x r1 => (getV r1 i).sr fun _ r2 => (ev P call k r2).sr fun kd r3 => (getV r3 i).sr fun d r4 => match putIx d kd x with
    | some y => .nx (r4.set i (some y))
    | none => .bad
  | .setIx p k e, r => (ev P call e r).sr fun x r1 => (atPl P call p r1).sr fun d r2 => (ev P call k r2).sr fun kd r3 => match putIx d.1 kd x with
    | some y => (match d.2 y r3 with | some r4 => .nx r4 | none => .bad)
    | none => .bad
  | .augIx (.v i) o k e, r => (getV r i).sr fun _ r2 => (ev P call k r2).sr fun kd r3 => (getV r3 i).sr fun d r4 => match idxD d kd with
    | some old => (ev P call e r4).sr fun x r5 => (match augD o old x with
      | some y => (getV r5 i).sr fun d2 r6 => (match putIx d2 kd y with | some z => .nx (r6.set i (some z)) | none => .bad)
      | none => .bad)
    | none => .bad
  | .augIx p o k e, r => (atPl P call p r).sr fun d r2 => (ev P call k r2).sr fun kd r3 => match idxD d.1 kd with
    | some old => (ev P call e r3).sr fun x r1 => (match augD o old x with
      | some y => (match putIx d.1 kd y with | some z => (match d.2 z r1 with | some r4 => .nx r4 | none => .bad) | none => .bad)
      | none => .bad)
    | none => .bad
  | .swpIx i k1 k2 e1 e2, r => (ev P call e1 r).sr fun x1 r1 => (ev P call e2 r1).sr fun x2 r2 => (getV r2 i).sr fun _ r2 => (ev P call k1 r2).sr fun a r3 => (getV r3 i).sr fun d r4 => match putIx d a x1 with
    | some y => (ev P call k2 (r4.set i (some y))).sr fun b r5 => (getV r5 i).sr fun d2 r6 => (match putIx d2 b x2 with | some z => .nx (r6.set i (some z)) | none => .bad)
    | none => .bad
  | .setFd i f e, r => (ev P call e r).sr fun x r1 => (getV r1 i).sr fun d r2 => match d with | .obj c fs => .nx (r2.set i (some (.obj c (putF f x fs)))) | _ => .bad
  | .augFd i f o e, r => (getV r i).sr fun d r1 => match d with
    | .obj c fs => (match fs.lookup f with
      | some old => (ev P call e r1).sr fun x r2 => (match augD o old x with | some y => .nx (r2.set i (some (.obj c (putF f y fs)))) | none => .bad)
      | none => .bad)
    | _ => .bad
  | .mut (.v i) m as, r => (getV r i).sr fun d0 r1 => if isLst d0 then (evs P call as r1).sr fun ds r2 => (getV r2 i).sr fun d r3 => match mutD m d ds with
    | some (y, _) => .nx (r3.set i (some y))
    | none => .bad
    else .bad
  | .mut p m as, r => (atPl P call p r).sr fun d r1 => (evs P call as r1).sr fun ds r2 => match mutD m d.1 ds with
    | some (y, _) => (match d.2 y r2 with | some r3 => .nx r3 | none => .bad)
    | none => .bad
  | .ex e, r => (ev P call e r).sr fun _ r1 => .nx r1
  | .ret e, r => (ev P call e r).sr fun d r1 => .ret d r1
  | .retN, r => .ret .non r
  | .ite c a b, r => (ev P call c r).sr fun x r1 => match truth x with | some true => exs a r1 | some false => exs b r1 | none => .bad
  | .for tg it b, r => (evIt P call it r).sr fun xs r1 => loopF (fun x r2 => match stTg tg x r2 with | some r3 => exs b r3 | none => .bad) xs r1
  | .whl c b, r => loopW (fun r => ev P call c r) (fun r => exs b r) wf r
  | .rais c as, r => (evs P call as r).sr fun ds r1 => .ex c ds r1
  | .tr b hs, r => match exs b r with
    | .ex c fs r1 => exh hs c fs r1
    | z => z
  | .pass, r => .nx r
def exs : Ss → Env → SR
  | .nil, r => .nx r
  | .cons s ss, r => (ex s r).bind fun r1 => exs ss r1
def exh : Hs → Nat → List D → Env → SR
  | .nil, c, fs, r => .ex c fs r
  | .cons k i b hs, c, fs, r => if !P.exc c then .bad else if P.sub c k then
      (match i with
      | some j => (match exs b ((clr r).set j (some (.exc c fs))) with
        | .nx r1 => .nx ((clr r1).set j none)
        | .ret d r1 => .ret d ((clr r1).set j none)
        | .ex _ _ _ => .bad
        | .bad => .bad)
      | none => (match exs b r with | .ex _ _ _ => .bad | z => z))
    else exh hs c fs r
end

/-- the first parameter at the end, where the def changes it -/
def outs (io : Bool) (r : Env) : Option (Option D) := if io then (match rd r 0 with | some d => some (some d) | none => none) else some none
def startE (n : Nat) (ds : List D) : Env := ds.map some ++ List.replicate (n - ds.length) none
def fin (io : Bool) : SR → CR
  | .nx r => match outs io r with | some o => .ret .non o | none => .bad
  | .ret d r => match outs io r with | some o => .ret d o | none => .bad
  | .ex c fs r => match outs io r with | some o => .ex c fs o | none => .bad
  | .bad => .bad
/-- f called, at most n calls deep -/
def sem : Nat → Nat → List D → CR
  | 0, _, _ => .bad
  | n + 1, f, ds => if ds.length = P.np f then fin (P.io f) (exs P (sem n) wf (P.body f) (startE (P.nslots f) ds)) else .bad
end LW
end

section
set_option Elab.async false
set_option maxRecDepth 100000
/-! Sound0: values over the abstract heap; who owns what; the state relation. -/
namespace LW
open PySem

/-- the geometry: where classes, defs and names stand -/
structure Geo where
  K : PySem.W.Frag
  ca : Nat → Addr
  fa : Nat → Addr
  fs : List Str
def Geo.fn (G : Geo) (i : Nat) : Str := G.fs.getD i ⟨#[]⟩
abbrev Hp := L2.Hp
abbrev V := L2.V
abbrev HO := L2.HO
abbrev St := L2.St
def flds (G : Geo) : List Nat → List V → List (Str × V)
  | f :: fs, v :: vs => (G.fn f, v) :: flds G fs vs
  | _, _ => []

mutual
/-- v is d, all that can be changed in it lies in S -/
inductive Rep (G : Geo) (S : Addr → Prop) (H : Hp) : D → V → Prop
  | non : Rep G S H .non .non
  | bl (b : Bool) : Rep G S H (.bl b) (.bl b)
  | int (i : Int) : Rep G S H (.int i) (.int i)
  | str (s : List Nat) : Rep G S H (.str s) (.str ⟨s.toArray⟩)
  | fn (f : Nat) : Rep G S H (.fn f) (.ref (G.fa f))
  | tup {a : Addr} {ds : List D} {vs : List V} (h : H a = some (.tup vs)) (r : Reps G S H ds vs) : Rep G S H (.tup ds) (.ref a)
  | lst {a : Addr} {ds : List D} {vs : List V} (s : S a) (h : H a = some (.lst vs)) (r : Reps G S H ds vs) : Rep G S H (.lst ds) (.ref a)
  | ro1 {a : Addr} {ds : List D} {vs : List V} (s : S a) (h : L2.Rd H a (.lst vs)) (r : Reps G S H ds vs) : Rep G S H (.ro ds) (.ref a)
  | ro2 {a : Addr} {ds : List D} {vs : List V} (o : Obj) (its : Array Value) (n : Nat) (h1 : G.K.lookup a = some o) (h2 : o.cls = .type "list") (h3 : o.dict = none) (h4 : o.data = .seq its n) (h5 : its.size ≤ sizeLine) (h6 : L2.Vals vs its.toList)
      (r : Reps G S H ds vs) : Rep G S H (.ro ds) (.ref a)
  | obj {a dx : Addr} {c : Nat} {fs : List (Nat × D)} {vs : List V} (s : S a) (h : H a = some (.ins (G.ca c) dx (flds G (fs.map (·.1)) vs))) (hf : ∀ p ∈ fs, p.1 < G.fs.length) (r : RepF G S H fs vs) : Rep G S H (.obj c fs) (.ref a)
inductive Reps (G : Geo) (S : Addr → Prop) (H : Hp) : List D → List V → Prop
  | nil : Reps G S H [] []
  | cons {d : D} {v : V} {ds : List D} {vs : List V} (h : Rep G S H d v) (r : Reps G S H ds vs) : Reps G S H (d :: ds) (v :: vs)
inductive RepF (G : Geo) (S : Addr → Prop) (H : Hp) : List (Nat × D) → List V → Prop
  | nil : RepF G S H [] []
  | cons {f : Nat} {d : D} {v : V} {ds : List (Nat × D)} {vs : List V} (h : Rep G S H d v) (r : RepF G S H ds vs) : RepF G S H ((f, d) :: ds) (v :: vs)
end
section
variable {G : Geo} {S S' : Addr → Prop} {H H' : Hp}
mutual
/-- what the description leans on stands as it stood -/
theorem Rep.mono : ∀ {d : D} {v : V}, Rep G S H d v → (∀ a, S a → S' a) → (∀ a o, S a → H a = some o → H' a = some o) → (∀ a xs, H a = some (.tup xs) → H' a = some (.tup xs)) → Rep G S' H' d v
  | _, _, .non, _, _, _ => .non
  | _, _, .bl b, _, _, _ => .bl b
  | _, _, .int i, _, _, _ => .int i
  | _, _, .str s, _, _, _ => .str s
  | _, _, .fn f, _, _, _ => .fn f
  | _, _, .tup h r, hs, hk, ht => .tup (ht _ _ h) (Reps.mono r hs hk ht)
  | _, _, .lst s h r, hs, hk, ht => .lst (hs _ s) (hk _ _ s h) (Reps.mono r hs hk ht)
  | _, _, .ro1 s h r, hs, hk, ht => .ro1 (hs _ s) (h.elim (fun z => .inl (hk _ _ s z)) fun ⟨o, z⟩ => .inr ⟨o, hk _ _ s z⟩) (Reps.mono r hs hk ht)
  | _, _, .ro2 o its n h1 h2 h3 h4 h5 h6 r, hs, hk, ht => .ro2 o its n h1 h2 h3 h4 h5 h6 (Reps.mono r hs hk ht)
  | _, _, .obj s h hf r, hs, hk, ht => .obj (hs _ s) (hk _ _ s h) hf (RepF.mono r hs hk ht)
theorem Reps.mono : ∀ {d : List D} {v : List V}, Reps G S H d v → (∀ a, S a → S' a) → (∀ a o, S a → H a = some o → H' a = some o) → (∀ a xs, H a = some (.tup xs) → H' a = some (.tup xs)) → Reps G S' H' d v
  | _, _, .nil, _, _, _ => .nil
  | _, _, .cons h r, hs, hk, ht => .cons (Rep.mono h hs hk ht) (Reps.mono r hs hk ht)
theorem RepF.mono : ∀ {d : List (Nat × D)} {v : List V}, RepF G S H d v → (∀ a, S a → S' a) → (∀ a o, S a → H a = some o → H' a = some o) → (∀ a xs, H a = some (.tup xs) → H' a = some (.tup xs)) → RepF G S' H' d v
  | _, _, .nil, _, _, _ => .nil
  | _, _, .cons h r, hs, hk, ht => .cons (Rep.mono h hs hk ht) (RepF.mono r hs hk ht)
end
theorem Reps.length {ds : List D} {vs : List V} (r : Reps G S H ds vs) : ds.length = vs.length := by
  induction ds generalizing vs with
  | nil => cases r; rfl
  | cons d ds ih => cases r with | cons h r => simp [ih r]
theorem Reps.get {ds : List D} {vs : List V} (r : Reps G S H ds vs) {i : Nat} {d : D} (h : ds[i]? = some d) : ∃ v, vs[i]? = some v ∧ Rep G S H d v := by
  induction ds generalizing vs i with
  | nil => simp at h
  | cons x ds ih =>
    cases r with
    | cons h1 r =>
      cases i with
      | zero => simp at h; subst h; exact ⟨_, rfl, h1⟩
      | succ i => simpa using ih r (i := i) (by simpa using h)
theorem Reps.getV {ds : List D} {vs : List V} (r : Reps G S H ds vs) {i : Nat} {v : V} (h : vs[i]? = some v) : ∃ d, ds[i]? = some d ∧ Rep G S H d v := by
  induction ds generalizing vs i with
  | nil => cases r; simp at h
  | cons x ds ih =>
    cases r with
    | cons h1 r =>
      cases i with
      | zero => simp at h; subst h; exact ⟨_, rfl, h1⟩
      | succ i => simpa using ih r (i := i) (by simpa using h)
theorem Reps.append {ds es : List D} {vs ws : List V} (r : Reps G S H ds vs) (q : Reps G S H es ws) : Reps G S H (ds ++ es) (vs ++ ws) := by
  induction ds generalizing vs with
  | nil => cases r; exact q
  | cons d ds ih => cases r with | cons h r => exact .cons h (ih r)
theorem Reps.take {ds : List D} {vs : List V} (r : Reps G S H ds vs) (n : Nat) : Reps G S H (ds.take n) (vs.take n) := by
  induction ds generalizing vs n with
  | nil => cases r; simp; exact .nil
  | cons d ds ih => cases r with | cons h r => cases n with
    | zero => exact .nil
    | succ n => exact .cons h (ih r n)
theorem Reps.drop {ds : List D} {vs : List V} (r : Reps G S H ds vs) (n : Nat) : Reps G S H (ds.drop n) (vs.drop n) := by
  induction ds generalizing vs n with
  | nil => cases r; simp; exact .nil
  | cons d ds ih => cases r with | cons h r => cases n with
    | zero => exact .cons h r
    | succ n => exact ih r n
theorem Reps.set {ds : List D} {vs : List V} (r : Reps G S H ds vs) (n : Nat) {d : D} {v : V} (q : Rep G S H d v) : Reps G S H (ds.set n d) (vs.set n v) := by
  induction ds generalizing vs n with
  | nil => cases r; exact .nil
  | cons d ds ih => cases r with | cons h r => cases n with
    | zero => exact .cons q r
    | succ n => exact .cons h (ih r n)
theorem Reps.reverse {ds : List D} {vs : List V} (r : Reps G S H ds vs) : Reps G S H ds.reverse vs.reverse := by
  induction ds generalizing vs with
  | nil => cases r; exact .nil
  | cons d ds ih => cases r with | cons h r => simp only [List.reverse_cons]; exact (ih r).append (.cons h .nil)
end

/-! ### owned values -/
/-- several, each with its own part of the addresses -/
def Ows (R : D → V → List Addr → Prop) : List D → List V → List Addr → Prop
  | [], vs, X => vs = [] ∧ X = []
  | d :: ds, vs, X => ∃ v ws Y Z, vs = v :: ws ∧ R d v Y ∧ Ows R ds ws Z ∧ X = Y ++ Z
def OwF (R : D → V → List Addr → Prop) : List (Nat × D) → List V → List Addr → Prop
  | [], vs, X => vs = [] ∧ X = []
  | d :: ds, vs, X => ∃ v ws Y Z, vs = v :: ws ∧ R d.2 v Y ∧ OwF R ds ws Z ∧ X = Y ++ Z
/-- v is d; its upper n levels are X, nobody else's -/
def Ow (G : Geo) (S : Addr → Prop) (H : Hp) : Nat → D → V → List Addr → Prop
  | 0, d, v, X => Rep G S H d v ∧ X = []
  | n + 1, .lst ds, v, X => ∃ a vs Y, v = .ref a ∧ H a = some (.lst vs) ∧ Ows (Ow G S H n) ds vs Y ∧ X = a :: Y
  | n + 1, .obj c fs, v, X => ∃ a dx vs Y, v = .ref a ∧ H a = some (.ins (G.ca c) dx (flds G (fs.map (·.1)) vs)) ∧ (∀ p ∈ fs, p.1 < G.fs.length) ∧ OwF (Ow G S H n) fs vs Y ∧ X = a :: Y
  | _ + 1, d, v, X => Rep G S H d v ∧ X = []
section
variable {G : Geo} {S S' : Addr → Prop} {H H' : Hp}
theorem Ows.mono {R R' : D → V → List Addr → Prop} : ∀ {ds : List D} {vs : List V} {X : List Addr}, Ows R ds vs X → (∀ d v Y, R d v Y → (∀ a ∈ Y, a ∈ X) → R' d v Y) → Ows R' ds vs X
  | [], _, _, h, _ => h
  | d :: ds, vs, X, ⟨v, ws, Y, Z, h1, h2, h3, h4⟩, k => ⟨v, ws, Y, Z, h1, k _ _ _ h2 (fun a ha => by rw [h4]; exact List.mem_append_left _ ha), Ows.mono h3 (fun d v Y' r hy => k d v Y' r fun a ha => by rw [h4]; exact List.mem_append_right _ (hy a ha)), h4⟩
theorem OwF.mono {R R' : D → V → List Addr → Prop} : ∀ {ds : List (Nat × D)} {vs : List V} {X : List Addr}, OwF R ds vs X → (∀ d v Y, R d v Y → (∀ a ∈ Y, a ∈ X) → R' d v Y) → OwF R' ds vs X
  | [], _, _, h, _ => h
  | d :: ds, vs, X, ⟨v, ws, Y, Z, h1, h2, h3, h4⟩, k => ⟨v, ws, Y, Z, h1, k _ _ _ h2 (fun a ha => by rw [h4]; exact List.mem_append_left _ ha), OwF.mono h3 (fun d v Y' r hy => k d v Y' r fun a ha => by rw [h4]; exact List.mem_append_right _ (hy a ha)), h4⟩
/-- an owned value stays where its own part and the shared part stay -/
theorem Ow.mono : ∀ {n : Nat} {d : D} {v : V} {X : List Addr}, Ow G S H n d v X → (∀ a, S a → S' a) → (∀ a o, S a → H a = some o → H' a = some o) → (∀ a xs, H a = some (.tup xs) → H' a = some (.tup xs)) →
    (∀ a o, a ∈ X → H a = some o → H' a = some o) → Ow G S' H' n d v X
  | 0, d, v, X, ⟨r, e⟩, hs, hk, ht, hx => ⟨r.mono hs hk ht, e⟩
  | n + 1, .lst ds, v, X, ⟨a, vs, Y, h1, h2, h3, h4⟩, hs, hk, ht, hx =>
    ⟨a, vs, Y, h1, hx a _ (by rw [h4]; exact List.mem_cons_self) h2, h3.mono fun d v Z r hz => Ow.mono r hs hk ht fun b o hb => hx b o (by rw [h4]; exact List.mem_cons_of_mem _ (hz b hb)), h4⟩
  | n + 1, .obj c fs, v, X, ⟨a, dx, vs, Y, h1, h2, h0, h3, h4⟩, hs, hk, ht, hx =>
    ⟨a, dx, vs, Y, h1, hx a _ (by rw [h4]; exact List.mem_cons_self) h2, h0, h3.mono fun d v Z r hz => Ow.mono r hs hk ht fun b o hb => hx b o (by rw [h4]; exact List.mem_cons_of_mem _ (hz b hb)), h4⟩
  | n + 1, .non, v, X, ⟨r, e⟩, hs, hk, ht, hx => ⟨r.mono hs hk ht, e⟩
  | n + 1, .bl _, v, X, ⟨r, e⟩, hs, hk, ht, hx => ⟨r.mono hs hk ht, e⟩
  | n + 1, .int _, v, X, ⟨r, e⟩, hs, hk, ht, hx => ⟨r.mono hs hk ht, e⟩
  | n + 1, .str _, v, X, ⟨r, e⟩, hs, hk, ht, hx => ⟨r.mono hs hk ht, e⟩
  | n + 1, .tup _, v, X, ⟨r, e⟩, hs, hk, ht, hx => ⟨r.mono hs hk ht, e⟩
  | n + 1, .dict _, v, X, ⟨r, e⟩, hs, hk, ht, hx => ⟨r.mono hs hk ht, e⟩
  | n + 1, .fn _, v, X, ⟨r, e⟩, hs, hk, ht, hx => ⟨r.mono hs hk ht, e⟩
  | n + 1, .ro _, v, X, ⟨r, e⟩, hs, hk, ht, hx => ⟨r.mono hs hk ht, e⟩
  | n + 1, .exc _ _, v, X, ⟨r, e⟩, hs, hk, ht, hx => ⟨r.mono hs hk ht, e⟩
theorem Ows.reps {R : D → V → List Addr → Prop} : ∀ {ds : List D} {vs : List V} {X : List Addr}, Ows R ds vs X → (∀ d v Y, R d v Y → (∀ a ∈ Y, a ∈ X) → Rep G S H d v) → Reps G S H ds vs
  | [], _, _, ⟨h, _⟩, _ => by subst h; exact .nil
  | d :: ds, vs, X, ⟨v, ws, Y, Z, h1, h2, h3, h4⟩, k => by
    subst h1
    exact .cons (k _ _ _ h2 fun a ha => by rw [h4]; exact List.mem_append_left _ ha) (Ows.reps h3 fun d v Y' r hy => k d v Y' r fun a ha => by rw [h4]; exact List.mem_append_right _ (hy a ha))
theorem OwF.reps {R : D → V → List Addr → Prop} : ∀ {ds : List (Nat × D)} {vs : List V} {X : List Addr}, OwF R ds vs X → (∀ d v Y, R d v Y → (∀ a ∈ Y, a ∈ X) → Rep G S H d v) → RepF G S H ds vs
  | [], _, _, ⟨h, _⟩, _ => by subst h; exact .nil
  | d :: ds, vs, X, ⟨v, ws, Y, Z, h1, h2, h3, h4⟩, k => by
    subst h1
    exact .cons (k _ _ _ h2 fun a ha => by rw [h4]; exact List.mem_append_left _ ha) (OwF.reps h3 fun d v Y' r hy => k d v Y' r fun a ha => by rw [h4]; exact List.mem_append_right _ (hy a ha))
/-- an owned value given to all -/
theorem Ow.freeze : ∀ {n : Nat} {d : D} {v : V} {X : List Addr}, Ow G S H n d v X → (∀ a, S a → S' a) → (∀ a ∈ X, S' a) → Rep G S' H d v
  | 0, d, v, X, ⟨r, _⟩, hs, hx => r.mono hs (fun _ _ _ h => h) fun _ _ h => h
  | n + 1, .lst ds, v, X, ⟨a, vs, Y, h1, h2, h3, h4⟩, hs, hx => by
    subst h1
    exact .lst (hx a (by rw [h4]; exact List.mem_cons_self)) h2 (h3.reps fun d v Z r hz => Ow.freeze r hs fun b hb => hx b (by rw [h4]; exact List.mem_cons_of_mem _ (hz b hb)))
  | n + 1, .obj c fs, v, X, ⟨a, dx, vs, Y, h1, h2, h0, h3, h4⟩, hs, hx => by
    subst h1
    exact .obj (hx a (by rw [h4]; exact List.mem_cons_self)) h2 h0 (h3.reps fun d v Z r hz => Ow.freeze r hs fun b hb => hx b (by rw [h4]; exact List.mem_cons_of_mem _ (hz b hb)))
  | n + 1, .non, v, X, ⟨r, _⟩, hs, hx => r.mono hs (fun _ _ _ h => h) fun _ _ h => h
  | n + 1, .bl _, v, X, ⟨r, _⟩, hs, hx => r.mono hs (fun _ _ _ h => h) fun _ _ h => h
  | n + 1, .int _, v, X, ⟨r, _⟩, hs, hx => r.mono hs (fun _ _ _ h => h) fun _ _ h => h
  | n + 1, .str _, v, X, ⟨r, _⟩, hs, hx => r.mono hs (fun _ _ _ h => h) fun _ _ h => h
  | n + 1, .tup _, v, X, ⟨r, _⟩, hs, hx => r.mono hs (fun _ _ _ h => h) fun _ _ h => h
  | n + 1, .dict _, v, X, ⟨r, _⟩, hs, hx => r.mono hs (fun _ _ _ h => h) fun _ _ h => h
  | n + 1, .fn _, v, X, ⟨r, _⟩, hs, hx => r.mono hs (fun _ _ _ h => h) fun _ _ h => h
  | n + 1, .ro _, v, X, ⟨r, _⟩, hs, hx => r.mono hs (fun _ _ _ h => h) fun _ _ h => h
  | n + 1, .exc _ _, v, X, ⟨r, _⟩, hs, hx => r.mono hs (fun _ _ _ h => h) fun _ _ h => h
end

/-! ### the state -/
abbrev Parts := List (List Addr)
def inW (Xs : Parts) (a : Addr) : Prop := ∃ X ∈ Xs, a ∈ X
/-- from one state to a later one: S, Xs, H, then S', Xs', H' -/
structure Step (S : Addr → Prop) (Xs : Parts) (H : Hp) (S' : Addr → Prop) (Xs' : Parts) (H' : Hp) : Prop where
  fr : ∀ a o, H a = some o → ¬ inW Xs a → H' a = some o
  dom : ∀ a, H' a = none → H a = none
  tup : ∀ a xs, H a = some (.tup xs) → H' a = some (.tup xs)
  sS : ∀ a, S a → S' a
  oS : ∀ a, S' a → S a ∨ inW Xs a ∨ H a = none
  oW : ∀ a, inW Xs' a → inW Xs a ∨ H a = none
theorem Step.refl {S : Addr → Prop} {Xs : Parts} {H : Hp} : Step S Xs H S Xs H := ⟨fun _ _ h _ => h, fun _ h => h, fun _ _ h => h, fun _ h => h, fun _ h => .inl h, fun _ h => .inl h⟩
theorem Step.trans {S S' S'' : Addr → Prop} {Xs Xs' Xs'' : Parts} {H H' H'' : Hp} (a : Step S Xs H S' Xs' H') (b : Step S' Xs' H' S'' Xs'' H'') : Step S Xs H S'' Xs'' H'' where
  fr := fun x o h n => b.fr x o (a.fr x o h n) fun w => (a.oW x w).elim n fun z => by rw [z] at h; cases h
  dom := fun x h => a.dom x (b.dom x h)
  tup := fun x xs h => b.tup x xs (a.tup x xs h)
  sS := fun x h => b.sS x (a.sS x h)
  oS := fun x h => by
    rcases b.oS x h with h | h | h
    · exact a.oS x h
    · rcases a.oW x h with h | h
      · exact .inr (.inl h)
      · exact .inr (.inr h)
    · exact .inr (.inr (a.dom x h))
  oW := fun x h => by
    rcases b.oW x h with h | h
    · exact a.oW x h
    · exact .inr (a.dom x h)
/-- how deep each slot owns; the exception that a clause has named: its object, its dict, its fields -/
structure Own where
  lv : List Nat
  xc : Option (Addr × Option Addr × List Nat)
def Own.getD (o : Own) (i d : Nat) : Nat := o.lv.getD i d
/-- the named exception in its slot -/
def XSl (G : Geo) (xc : Option (Addr × Option Addr × List Nat)) (H : Hp) (S : Addr → Prop) (fs : List D) (v : V) : Prop :=
  ∃ a dd ns vs, xc = some (a, dd, ns) ∧ v = .ref a ∧ (fs = [] ∨ ∃ d, dd = some d ∧ S d ∧ H d = some (.xd (flds G ns vs)) ∧ Reps G S H fs vs)
theorem XSl.mono {G : Geo} {xc : Option (Addr × Option Addr × List Nat)} {H H' : Hp} {S S' : Addr → Prop} {fs : List D} {v : V} (x : XSl G xc H S fs v) (hs : ∀ a, S a → S' a) (hk : ∀ a o, S a → H a = some o → H' a = some o) (ht : ∀ a xs, H a = some (.tup xs) → H' a = some (.tup xs)) : XSl G xc H' S' fs v := by
  obtain ⟨a, dd, ns, vs, h1, h2, h3⟩ := x
  exact ⟨a, dd, ns, vs, h1, h2, h3.imp id fun ⟨d, e, p, q, r⟩ => ⟨d, e, hs _ p, hk _ _ p q, r.mono hs hk ht⟩⟩
theorem rd_some {r : Env} {i : Nat} {d : D} (h : rd r i = some d) : r[i]? = some (some d) ∧ isX d = false := by
  unfold rd at h
  cases e : r[i]? with
  | none => rw [e] at h; cases h
  | some o =>
    cases o with
    | none => rw [e] at h; cases h
    | some x =>
      rw [e] at h
      cases hx : isX x with
      | true => simp [hx] at h
      | false => simp [hx] at h; subst h; exact ⟨rfl, hx⟩
theorem rd_lt {r : Env} {i : Nat} {d : D} (h : rd r i = some d) : i < r.length := by
  rcases Nat.lt_or_ge i r.length with z | z
  · exact z
  · have := (rd_some h).1
    rw [List.getElem?_eq_none z] at this; cases this
theorem rd_ne {r : Env} {i j : Nat} {o : Option D} (h : j ≠ i) : rd (r.set i o) j = rd r j := by
  unfold rd; rw [List.getElem?_set_ne (Ne.symm h)]
theorem rd_none {r : Env} {i : Nat} : rd (r.set i none) i = none := by
  unfold rd
  rw [List.getElem?_set]
  simp
theorem rd_self {r : Env} {i : Nat} {d e : D} (h : rd (r.set i (some d)) i = some e) : e = d := by
  have := (rd_some h).1
  rw [List.getElem?_set] at this
  simp at this
  exact this.2.symm
/-- the slots: their values, who owns what -/
structure StR (G : Geo) (own : Own) (r : Env) (σ : St) (H : Hp) (S : Addr → Prop) (Xs : Parts) : Prop where
  len : r.length = σ.length
  lenX : Xs.length = r.length
  slot : ∀ i d, rd r i = some d → ∃ v, σ[i]? = some (some v) ∧ Ow G S H (own.getD i 0) d v (Xs.getD i [])
  xsl : ∀ (i : Nat) (c : Nat) (fs : List D), r[i]? = some (some (D.exc c fs)) → ∃ v, σ[i]? = some (some v) ∧ XSl G own.xc H S fs v
  nod : (∀ Y ∈ Xs, Y.Nodup) ∧ Xs.Pairwise (fun Y Z => ∀ x ∈ Y, x ∉ Z)
  dis : ∀ a, S a → ¬ inW Xs a
  dom : ∀ a, S a → ∃ o, H a = some o
  domW : ∀ a, inW Xs a → ∃ o, H a = some o
theorem inW_iff {Xs : Parts} {a : Addr} : inW Xs a ↔ a ∈ Xs.flatten := by simp [inW, List.mem_flatten]
/-- a value in the air: X is its own part -/
structure Air (G : Geo) (n : Nat) (d : D) (v : V) (X : List Addr) (H : Hp) (S : Addr → Prop) (Xs : Parts) : Prop where
  ow : Ow G S H n d v X
  nod : X.Nodup
  disS : ∀ a ∈ X, ¬ S a
  disW : ∀ a ∈ X, ¬ inW Xs a
  dom : ∀ a ∈ X, ∃ o, H a = some o
theorem Rep.step {G : Geo} {S S' : Addr → Prop} {H H' : Hp} {Xs Xs' : Parts} {d : D} {v : V} (r : Rep G S H d v) (t : Step S Xs H S' Xs' H') (dis : ∀ a, S a → ¬ inW Xs a) : Rep G S' H' d v :=
  r.mono t.sS (fun a o s h => t.fr a o h (dis a s)) t.tup
theorem Reps.step {G : Geo} {S S' : Addr → Prop} {H H' : Hp} {Xs Xs' : Parts} {d : List D} {v : List V} (r : Reps G S H d v) (t : Step S Xs H S' Xs' H') (dis : ∀ a, S a → ¬ inW Xs a) : Reps G S' H' d v :=
  r.mono t.sS (fun a o s h => t.fr a o h (dis a s)) t.tup
/-- a value in the air stays over a step -/
theorem Air.step {G : Geo} {n : Nat} {S S' : Addr → Prop} {H H' : Hp} {Xs Xs' : Parts} {d : D} {v : V} {X : List Addr} (r : Air G n d v X H S Xs) (t : Step S Xs H S' Xs' H') (dis : ∀ a, S a → ¬ inW Xs a) : Air G n d v X H' S' Xs' where
  ow := r.ow.mono t.sS (fun a o s h => t.fr a o h (dis a s)) t.tup fun a o ha h => t.fr a o h (r.disW a ha)
  nod := r.nod
  disS := fun a ha hs => by
    obtain ⟨o, e⟩ := r.dom a ha
    rcases t.oS a hs with h | h | h
    · exact r.disS a ha h
    · exact r.disW a ha h
    · rw [e] at h; cases h
  disW := fun a ha hs => by
    obtain ⟨o, e⟩ := r.dom a ha
    rcases t.oW a hs with h | h
    · exact r.disW a ha h
    · rw [e] at h; cases h
  dom := fun a ha => by
    obtain ⟨o, e⟩ := r.dom a ha
    exact ⟨o, t.fr a o e (r.disW a ha)⟩
end LW
end

section
set_option Elab.async false
set_option maxRecDepth 100000
/-! Sound1: what is wanted behind a run of the interpreter; expressions. -/
namespace LW
open PySem
abbrev WX := L2.WX
/-- the exception's own dict, as the fields are kept -/
def ExcAt (G : Geo) (P : Prog) (H0 : Hp) (S : Addr → Prop) (Xs : Parts) (H : Hp) (c : Nat) (fs : List D) (dd : Option Addr) : Prop :=
  match fs with
  | [] => True
  | _ :: _ => ∃ d vs, dd = some d ∧ H d = some (.xd (flds G (P.xfs c) vs)) ∧ Reps G S H fs vs ∧ ¬ inW Xs d ∧ H0 d = none
theorem ExcAt.base {G : Geo} {P : Prog} {H0 H1 : Hp} {S0 S1 S : Addr → Prop} {Xs0 Xs1 Xs : Parts} {H : Hp} {c : Nat} {fs : List D} {dd : Option Addr} (x : ExcAt G P H1 S Xs H c fs dd) (t : Step S0 Xs0 H0 S1 Xs1 H1) : ExcAt G P H0 S Xs H c fs dd := by
  cases fs with
  | nil => exact x
  | cons d ds =>
    obtain ⟨d, vs, h1, h2, h3, h4, h5⟩ := x
    exact ⟨d, vs, h1, h2, h3, h4, t.dom _ h5⟩
/-- fresh, or given away by a slot -/
structure Fresh (X : List Addr) (H : Hp) (S : Addr → Prop) (Xs : Parts) : Prop where
  nod : X.Nodup
  disS : ∀ a ∈ X, ¬ S a
  disW : ∀ a ∈ X, ¬ inW Xs a
  dom : ∀ a ∈ X, ∃ o, H a = some o
theorem Fresh.nil {H : Hp} {S : Addr → Prop} {Xs : Parts} : Fresh [] H S Xs := ⟨List.nodup_nil, (fun _ h => by cases h), (fun _ h => by cases h), (fun _ h => by cases h)⟩
theorem Fresh.step {S S' : Addr → Prop} {H H' : Hp} {Xs Xs' : Parts} {X : List Addr} (r : Fresh X H S Xs) (t : Step S Xs H S' Xs' H') : Fresh X H' S' Xs' where
  nod := r.nod
  disS := fun a ha hs => by
    obtain ⟨o, e⟩ := r.dom a ha
    rcases t.oS a hs with h | h | h
    · exact r.disS a ha h
    · exact r.disW a ha h
    · rw [e] at h; cases h
  disW := fun a ha hs => by
    obtain ⟨o, e⟩ := r.dom a ha
    rcases t.oW a hs with h | h
    · exact r.disW a ha h
    · rw [e] at h; cases h
  dom := fun a ha => by
    obtain ⟨o, e⟩ := r.dom a ha
    exact ⟨o, t.fr a o e (r.disW a ha)⟩
theorem Ow.step {G : Geo} {n : Nat} {S S' : Addr → Prop} {H H' : Hp} {Xs Xs' : Parts} {d : D} {v : V} {X : List Addr} (r : Ow G S H n d v X) (f : Fresh X H S Xs) (t : Step S Xs H S' Xs' H') (dis : ∀ a, S a → ¬ inW Xs a) : Ow G S' H' n d v X :=
  r.mono t.sS (fun a o s h => t.fr a o h (dis a s)) t.tup fun a o ha h => t.fr a o h (f.disW a ha)
/-- what came: d is at v, X is its own part -/
abbrev Rel (α β : Type) := α → β → List Addr → Hp → (Addr → Prop) → Prop
def AirE (G : Geo) (n : Nat) : Rel D V := fun d v X H S => Ow G S H n d v X
def AirL (G : Geo) (n : Nat) : Rel (List D) (List V) := fun ds vs X H S => Ows (Ow G S H n) ds vs X
section
variable (G : Geo) (P : Prog) (own : Own)
/-- what is wanted behind a run -/
def Post {α β : Type} (A : Rel α β) (m : R α) (σ : St) (H : Hp) (S : Addr → Prop) (Xs : Parts) (Q : β → Hp → Prop) (W : WX) : Prop :=
  match m with
  | .ok d r' => ∀ v H' S' Xs' X, Step S Xs H S' Xs' H' → StR G own r' σ H' S' Xs' → A d v X H' S' → Fresh X H' S' Xs' → (∀ a ∈ X, inW Xs a ∨ H a = none) → Q v H'
  | .ex c fs r' => ∀ H' S' Xs' dd, Step S Xs H S' Xs' H' → StR G own r' σ H' S' Xs' → ExcAt G P H S' Xs' H' c fs dd → W (.ref (G.ca c)) dd σ H'
  | .bad => False
end
section
variable {G : Geo} {P : Prog} {own : Own} {α β γ δ : Type} {A : Rel α β} {B : Rel γ δ} {σ : St} {H : Hp} {S : Addr → Prop} {Xs : Parts} {W : WX}
/-- one run behind another -/
theorem Post.bind {m : R α} {f : α → Env → R γ} {Q : δ → Hp → Prop} {H0 : Hp} {S0 : Addr → Prop} {Xs0 : Parts} (h : Post G P own B (m.bind f) σ H0 S0 Xs0 Q W) (t0 : Step S0 Xs0 H0 S Xs H) :
    Post G P own A m σ H S Xs (fun v H1 => ∃ a r1 S1 Xs1 X1, m = .ok a r1 ∧ Step S Xs H S1 Xs1 H1 ∧ StR G own r1 σ H1 S1 Xs1 ∧ A a v X1 H1 S1 ∧ Fresh X1 H1 S1 Xs1 ∧ (∀ x ∈ X1, inW Xs x ∨ H x = none) ∧ Post G P own B (f a r1) σ H0 S0 Xs0 Q W) W := by
  cases m with
  | bad => exact h
  | ex c fs r => exact fun H2 S2 Xs2 dd t2 s2 x2 => h H2 S2 Xs2 dd (t0.trans t2) s2 (x2.base t0)
  | ok a r => exact fun v H1 S1 Xs1 X1 t1 s1 a1 f1 g1 => ⟨a, r, S1, Xs1, X1, rfl, t1, s1, a1, f1, g1, h⟩
theorem gback {X : List Addr} {H0 : Hp} {S0 : Addr → Prop} {Xs0 : Parts} (t0 : Step S0 Xs0 H0 S Xs H) (g : ∀ x ∈ X, inW Xs x ∨ H x = none) : ∀ x ∈ X, inW Xs0 x ∨ H0 x = none := fun x hx => (g x hx).elim (t0.oW x) fun z => .inr (t0.dom x z)
theorem Post.rebase {m : R α} {Q : β → Hp → Prop} {H0 : Hp} {S0 : Addr → Prop} {Xs0 : Parts} (h : Post G P own A m σ H0 S0 Xs0 Q W) (t0 : Step S0 Xs0 H0 S Xs H) : Post G P own A m σ H S Xs Q W := by
  cases m with
  | bad => exact h
  | ex c fs r => exact fun H2 S2 Xs2 dd t2 s2 x2 => h H2 S2 Xs2 dd (t0.trans t2) s2 (x2.base t0)
  | ok a r => exact fun v H1 S1 Xs1 X1 t1 s1 a1 f1 g1 => h v H1 S1 Xs1 X1 (t0.trans t1) s1 a1 f1 (gback t0 g1)
theorem Post.mono {m : R α} {Q Q' : β → Hp → Prop} (h : Post G P own A m σ H S Xs Q W) (k : ∀ v H', Q v H' → Q' v H') : Post G P own A m σ H S Xs Q' W := by
  cases m with
  | bad => exact h
  | ex c fs r => exact h
  | ok a r => exact fun v H' S' Xs' X a b c d e => k _ _ (h v H' S' Xs' X a b c d e)
end

/-! ### readings -/
section
variable (G : Geo) (P : Prog) (own : Own) (call : Nat → List D → CR)
def TR {α β : Type} (A : Rel α β) (m : Env → R α) (W : WX) : St → Hp → (β → Hp → Prop) → Prop := fun σ H Q => ∃ r S Xs, StR G own r σ H S Xs ∧ Post G P own A (m r) σ H S Xs Q W
abbrev TE (n : Nat) (e : E) (W : WX) : L2.TE := TR G P own (AirE G n) (ev P call e) W
abbrev TL (n : Nat) (es : Es) (W : WX) : L2.TA := TR G P own (AirL G n) (evs P call es) W
/-- a test's -/
def AirB : Rel D Bool := fun d b _ _ _ => d = .bl b
end
theorem pe_conseq {X : L2.Cx} {e : PySem.Expr} {t u : L2.TE} (h : L2.PE X e t) (k : ∀ σ H Q, u σ H Q → t σ H Q) : L2.PE X e u := ⟨fun pins s σ H Q I q => h.run pins s σ H Q I (k σ H Q q)⟩
theorem pa_conseq {X : L2.Cx} {e : List PySem.Expr} {t u : L2.TA} (h : L2.PA X e t) (k : ∀ σ H Q, u σ H Q → t σ H Q) : L2.PA X e u := ⟨fun pos pins s σ H Q I q => h.run pos pins s σ H Q I (k σ H Q q)⟩
theorem pt_conseq {X : L2.Cx} {e : PySem.Expr} {t u : L2.TT} (h : L2.PT X e t) (k : ∀ σ H Q, u σ H Q → t σ H Q) : L2.PT X e u := ⟨fun pins s σ H Q I q => h.run pins s σ H Q I (k σ H Q q)⟩
theorem pw_conseq {X : L2.Cx} {e : PySem.Expr} {t u : L2.TT} (h : L2.PW X e t) (k : ∀ σ H Q, u σ H Q → t σ H Q) : L2.PW X e u := ⟨fun wh pins s σ H Q I q => h.run wh pins s σ H Q I (k σ H Q q)⟩
theorem pss_conseq {X : L2.Cx} {e : List PySem.Stmt} {t u : L2.TS} (h : L2.PSs X e t) (k : ∀ D σ H, u D σ H → t D σ H) : L2.PSs X e u := ⟨fun pins s σ H D I q => h.run pins s σ H D I (k D σ H q)⟩
theorem ps_conseq {X : L2.Cx} {e : PySem.Stmt} {t u : L2.TS} (h : L2.PS X e t) (k : ∀ D σ H, u D σ H → t D σ H) : L2.PS X e u := ⟨fun pins s σ H D I q => h.run pins s σ H D I (k D σ H q)⟩

section
variable {G : Geo} {P : Prog} {own : Own} {call : Nat → List D → CR} {X : L2.Cx} {W : WX} {pos : Pos}
/-- a value that is in S, or flat: nothing of its own -/
theorem Post.ret {d : D} {r : Env} {σ : St} {H : Hp} {S : Addr → Prop} {Xs : Parts} {Q : V → Hp → Prop} {v : V} {n : Nat} {H0 : Hp} {S0 : Addr → Prop} {Xs0 : Parts} (h : Post G P own (AirE G n) (.ok d r) σ H0 S0 Xs0 Q W) (t0 : Step S0 Xs0 H0 S Xs H) (s : StR G own r σ H S Xs) (q : Ow G S H n d v []) : Q v H :=
  h v H S Xs [] t0 s q .nil (fun _ z => nomatch z)
/-- .. behind an alloc that is given to all -/
def addS (S : Addr → Prop) (p : Addr) : Addr → Prop := fun a => S a ∨ a = p
theorem upd_kept {H : Hp} {p a : Addr} {o u : L2.HO} (hp : H p = none) (e : H a = some u) : L2.upd H p o a = some u := by rw [L2.upd_ne (L2.ne_of_none e hp)]; exact e
theorem step_alloc {S : Addr → Prop} {Xs : Parts} {H : Hp} {p : Addr} {o : L2.HO} (hp : H p = none) : Step S Xs H S Xs (L2.upd H p o) where
  fr := fun a u e _ => by rw [L2.upd_ne (L2.ne_of_none e hp)]; exact e
  dom := fun a e => by
    by_cases h : a = p
    · subst h; exact hp
    · rw [L2.upd_ne h] at e; exact e
  tup := fun a u e => by rw [L2.upd_ne (L2.ne_of_none e hp)]; exact e
  sS := fun _ h => h
  oS := fun _ h => .inl h
  oW := fun _ h => .inl h
theorem step_addS {S : Addr → Prop} {Xs : Parts} {H : Hp} {p : Addr} {o : L2.HO} (hp : H p = none) : Step S Xs H (addS S p) Xs (L2.upd H p o) where
  fr := (step_alloc (S := S) hp).fr
  dom := (step_alloc (S := S) (Xs := Xs) hp).dom
  tup := (step_alloc (S := S) (Xs := Xs) hp).tup
  sS := fun _ h => .inl h
  oS := fun a h => h.elim .inl fun e => .inr (.inr (by rw [e]; exact hp))
  oW := fun _ h => .inl h
theorem StR.kept {r : Env} {σ : St} {H H' : Hp} {S S' : Addr → Prop} {Xs : Parts} (s : StR G own r σ H S Xs) (tS : ∀ a, S a → S' a) (tf : ∀ a o, S a → H a = some o → H' a = some o) (tt : ∀ a xs, H a = some (.tup xs) → H' a = some (.tup xs))
    (hw : ∀ a o, inW Xs a → H a = some o → H' a = some o) (hd : ∀ a, S' a → ¬ inW Xs a ∧ ∃ o, H' a = some o) : StR G own r σ H' S' Xs where
  len := s.len
  lenX := s.lenX
  slot := fun i d e => by
    obtain ⟨v, e1, o⟩ := s.slot i d e
    refine ⟨v, e1, o.mono tS tf tt fun a o ha h => hw a o ?_ h⟩
    refine ⟨Xs.getD i [], ?_, ha⟩
    by_cases hi : i < Xs.length
    · rw [List.getD_eq_getElem?_getD, List.getElem?_eq_getElem hi]; exact List.getElem_mem hi
    · rw [List.getD_eq_getElem?_getD, List.getElem?_eq_none (by omega)] at ha; simp at ha
  xsl := fun i c fs e => by
    obtain ⟨v, e1, x⟩ := s.xsl i c fs e
    exact ⟨v, e1, x.mono tS tf tt⟩
  nod := s.nod
  dis := fun a h => (hd a h).1
  dom := fun a h => (hd a h).2
  domW := fun a h => by
    obtain ⟨o, e⟩ := s.domW a h
    exact ⟨o, hw a o h e⟩
theorem StR.notW_new {r : Env} {σ : St} {H : Hp} {S : Addr → Prop} {Xs : Parts} (s : StR G own r σ H S Xs) {p : Addr} (hp : H p = none) : ¬ inW Xs p := fun h => by
  obtain ⟨o, e⟩ := s.domW p h
  rw [hp] at e; cases e
theorem StR.notS_new {r : Env} {σ : St} {H : Hp} {S : Addr → Prop} {Xs : Parts} (s : StR G own r σ H S Xs) {p : Addr} (hp : H p = none) : ¬ S p := fun h => by
  obtain ⟨o, e⟩ := s.dom p h
  rw [hp] at e; cases e
theorem StR.alloc {r : Env} {σ : St} {H : Hp} {S : Addr → Prop} {Xs : Parts} (s : StR G own r σ H S Xs) {p : Addr} {o : L2.HO} (hp : H p = none) : StR G own r σ (L2.upd H p o) S Xs :=
  s.kept (fun _ h => h) (fun a u _ e => upd_kept hp e) (fun a u e => upd_kept hp e) (fun a u h e => upd_kept hp e) fun a h => ⟨s.dis a h, by
    obtain ⟨u, e⟩ := s.dom a h
    exact ⟨u, by rw [L2.upd_ne (L2.ne_of_none e hp)]; exact e⟩⟩
theorem StR.addS {r : Env} {σ : St} {H : Hp} {S : Addr → Prop} {Xs : Parts} (s : StR G own r σ H S Xs) {p : Addr} {o : L2.HO} (hp : H p = none) : StR G own r σ (L2.upd H p o) (addS S p) Xs :=
  s.kept (fun _ h => .inl h) (fun a u _ e => upd_kept hp e) (fun a u e => upd_kept hp e) (fun a u h e => upd_kept hp e) fun a h => by
    rcases h with h | h
    · refine ⟨s.dis a h, ?_⟩
      obtain ⟨u, e⟩ := s.dom a h
      exact ⟨u, by rw [L2.upd_ne (L2.ne_of_none e hp)]; exact e⟩
    · rw [h]; exact ⟨s.notW_new hp, _, L2.upd_same⟩
/-- a new tuple -/
theorem Post.newT {ds : List D} {vs : List V} {r : Env} {σ : St} {H : Hp} {S : Addr → Prop} {Xs : Parts} {Q : V → Hp → Prop} {p : Addr} {n : Nat} {H0 : Hp} {S0 : Addr → Prop} {Xs0 : Parts} (h : Post G P own (AirE G n) (.ok (.tup ds) r) σ H0 S0 Xs0 Q W) (t0 : Step S0 Xs0 H0 S Xs H) (s : StR G own r σ H S Xs) (q : Reps G S H ds vs)
    (hp : H p = none) : Q (.ref p) (L2.upd H p (.tup vs)) := by
  have rep : Rep G S (L2.upd H p (.tup vs)) (.tup ds) (.ref p) := .tup L2.upd_same (q.mono (fun _ h => h) (fun a o _ e => by rw [L2.upd_ne (L2.ne_of_none e hp)]; exact e) fun a o e => by rw [L2.upd_ne (L2.ne_of_none e hp)]; exact e)
  refine h (.ref p) _ S Xs [] (t0.trans (step_alloc hp)) (s.alloc hp) ?_ .nil (fun _ z => nomatch z)
  cases n <;> exact ⟨rep, rfl⟩
/-- a new list, its items given to all: owned one deep -/
theorem Post.newL {ds : List D} {vs : List V} {r : Env} {σ : St} {H : Hp} {S : Addr → Prop} {Xs : Parts} {Q : V → Hp → Prop} {p : Addr} {H0 : Hp} {S0 : Addr → Prop} {Xs0 : Parts} (h : Post G P own (AirE G 1) (.ok (.lst ds) r) σ H0 S0 Xs0 Q W) (t0 : Step S0 Xs0 H0 S Xs H) (s : StR G own r σ H S Xs) (q : Reps G S H ds vs)
    (hp : H p = none) : Q (.ref p) (L2.upd H p (.lst vs)) := by
  have q' : Reps G S (L2.upd H p (.lst vs)) ds vs := q.mono (fun _ h => h) (fun a o _ e => by rw [L2.upd_ne (L2.ne_of_none e hp)]; exact e) fun a o e => by rw [L2.upd_ne (L2.ne_of_none e hp)]; exact e
  refine h (.ref p) _ S Xs [p] (t0.trans (step_alloc hp)) (s.alloc hp) ?_ ⟨by simp, fun a ha => ?_, fun a ha => ?_, fun a ha => ?_⟩ fun a ha => ?_
  · refine ⟨p, vs, [], rfl, L2.upd_same, ?_, rfl⟩
    generalize L2.upd H p (.lst vs) = H1 at q'
    clear h
    induction ds generalizing vs with
    | nil => cases q'; exact ⟨rfl, rfl⟩
    | cons d ds ih =>
      cases q with
      | cons q1 q2 =>
      cases q' with
      | cons h1 r1 => exact ⟨_, _, [], [], rfl, ⟨h1, rfl⟩, ih q2 r1, rfl⟩
  · rw [List.mem_singleton.mp ha]; exact s.notS_new hp
  · rw [List.mem_singleton.mp ha]; exact s.notW_new hp
  · rw [List.mem_singleton.mp ha]; exact ⟨_, L2.upd_same⟩
  · rw [List.mem_singleton.mp ha]; exact .inr (t0.dom _ hp)
/-- what is owned may be given to all -/
theorem Post.freeze {n : Nat} {m : R D} {σ : St} {H : Hp} {S : Addr → Prop} {Xs : Parts} {Q : V → Hp → Prop} (h : Post G P own (AirE G 0) m σ H S Xs Q W) : Post G P own (AirE G n) m σ H S Xs Q W := by
  cases m with
  | bad => exact h
  | ex c fs r => exact h
  | ok d r =>
    intro v H' S' Xs' X t s a f g
    have t' : Step S Xs H (fun x => S' x ∨ x ∈ X) Xs' H' := ⟨t.fr, t.dom, t.tup, fun x hx => .inl (t.sS x hx), fun x hx => hx.elim (t.oS x) fun z => (g x z).elim (fun y => .inr (.inl y)) fun y => .inr (.inr y), t.oW⟩
    refine h v H' (fun x => S' x ∨ x ∈ X) Xs' [] t' ?_ ⟨a.freeze (fun _ z => .inl z) (fun _ z => .inr z), rfl⟩ .nil (fun _ z => nomatch z)
    exact s.kept (fun _ z => .inl z) (fun _ _ _ z => z) (fun _ _ z => z) (fun _ _ _ z => z) fun x hx => hx.elim (fun z => ⟨s.dis x z, s.dom x z⟩) fun z => ⟨f.disW x z, f.dom x z⟩
end
end LW
end

section
set_option Elab.async false
set_option maxRecDepth 100000
/-! Sound2: operands, operators, displays, tests. -/
namespace LW
open PySem
section
variable {G : Geo} {P : Prog} {own : Own} {call : Nat → List D → CR} {X : L2.Cx} {W : WX} {pos : Pos}
/-! ### data that == reads -/
mutual
def pyD : D → PyData
  | .non => .none
  | .bl b => .bool b
  | .int i => .int i
  | .str s => .str ⟨s.toArray⟩
  | .tup xs => .tuple (pyL xs)
  | .lst xs => .list (pyL xs)
  | _ => .none
def pyL : List D → List PyData
  | [] => []
  | x :: r => pyD x :: pyL r
end
theorem str_beq (s t : List Nat) : ((⟨s.toArray⟩ : Str) == ⟨t.toArray⟩) = (s == t) := by
  by_cases h : s = t
  · subst h; simp
  · have h' : ¬ ((⟨s.toArray⟩ : Str) = ⟨t.toArray⟩) := fun e => h (by simpa using congrArg (fun z : Str => z.cps.toList) e)
    rw [beq_eq_false_iff_ne.mpr h', beq_eq_false_iff_ne.mpr h]
mutual
theorem pyD_eqv : ∀ (n m : Nat) (a b : D), plain n a = true → plain m b = true → PyData.eqv (pyD a) (pyD b) = eqD a b := by
  intro n m a b ha hb
  cases a <;> cases b <;> first
    | (simp [plain] at ha; done)
    | (simp [plain] at hb; done)
    | rfl
    | (simp only [pyD, PyData.eqv, eqD, b2i]; done)
    | (simp only [pyD, PyData.eqv, eqD]; exact str_beq _ _)
    | skip
  all_goals ((cases n <;> first | (simp [plain] at ha; done) | skip) <;> (cases m <;> first | (simp [plain] at hb; done) | skip) <;> (rename_i xs ys n m; simp only [plain] at ha hb; exact pyL_eqv n m xs ys ha hb))
theorem pyL_eqv : ∀ (n m : Nat) (a b : List D), a.all (plain n) = true → b.all (plain m) = true → PyData.eqvAll (pyL a) (pyL b) = eqL a b
  | _, _, [], [], _, _ => rfl
  | _, _, [], _ :: _, _, _ => rfl
  | _, _, _ :: _, [], _, _ => rfl
  | n, m, x :: xs, y :: ys, ha, hb => by
    simp only [List.all_cons, Bool.and_eq_true] at ha hb
    simp only [pyL, PyData.eqvAll, eqL]
    rw [pyD_eqv n m x y ha.1 hb.1, pyL_eqv n m xs ys ha.2 hb.2]
end

mutual
theorem plain_lay : ∀ (n : Nat) (d : D), plain n d = true → PyData.canLay0 (pyD d) = true ∧ PyData.depth (pyD d) ≤ n
  | n, .non, _ => ⟨rfl, Nat.zero_le _⟩
  | n, .bl _, _ => ⟨rfl, Nat.zero_le _⟩
  | n, .int _, _ => ⟨rfl, Nat.zero_le _⟩
  | n, .str s, h => ⟨by
      simp only [plain] at h
      simp only [pyD, PyData.canLay0, PyData.strOk]
      rw [← h]
      simp, Nat.zero_le _⟩
  | n + 1, .tup xs, h => by
    simp only [plain] at h
    have := plain_lays n xs h
    exact ⟨this.1, Nat.succ_le_succ this.2⟩
  | n + 1, .lst xs, h => by
    simp only [plain] at h
    have := plain_lays n xs h
    exact ⟨this.1, Nat.succ_le_succ this.2⟩
  | 0, .tup _, h => by simp [plain] at h
  | 0, .lst _, h => by simp [plain] at h
  | 0, .dict _, h => by simp [plain] at h
  | n + 1, .dict _, h => by simp [plain] at h
  | 0, .obj _ _, h => by simp [plain] at h
  | n + 1, .obj _ _, h => by simp [plain] at h
  | 0, .fn _, h => by simp [plain] at h
  | n + 1, .fn _, h => by simp [plain] at h
  | 0, .ro _, h => by simp [plain] at h
  | n + 1, .ro _, h => by simp [plain] at h
  | 0, .exc _ _, h => by simp [plain] at h
  | n + 1, .exc _ _, h => by simp [plain] at h
theorem plain_lays : ∀ (n : Nat) (d : List D), d.all (plain n) = true → PyData.canLayAll0 (pyL d) = true ∧ PyData.depthAll (pyL d) ≤ n
  | _, [], _ => ⟨rfl, Nat.zero_le _⟩
  | n, x :: xs, h => by
    simp only [List.all_cons, Bool.and_eq_true] at h
    have h1 := plain_lay n x h.1
    have h2 := plain_lays n xs h.2
    refine ⟨by simp only [pyL, PyData.canLayAll0, h1.1, h2.1, Bool.and_self], ?_⟩
    show max (PyData.depth (pyD x)) (PyData.depthAll (pyL xs)) ≤ n
    exact Nat.max_le.mpr ⟨h1.2, h2.2⟩
end
theorem plain_shaped {n : Nat} {d : D} (hn : n ≤ 64) (h : plain n d = true) : SeqAt.shaped (pyD d) = true := by
  obtain ⟨h1, h2⟩ := plain_lay n d h
  show (PyData.canLay0 (pyD d) && decide (PyData.depth (pyD d) ≤ 64)) = true
  rw [h1, decide_eq_true (Nat.le_trans h2 hn)]; rfl

/-- v is d; the list or the object itself may be somebody's own -/
inductive RepT (G : Geo) (S : Addr → Prop) (H : Hp) : D → V → Prop
  | sh {d : D} {v : V} (r : Rep G S H d v) : RepT G S H d v
  | lst {a : Addr} {ds : List D} {vs : List V} (h : H a = some (.lst vs)) (r : Reps G S H ds vs) : RepT G S H (.lst ds) (.ref a)
  | obj {a dx : Addr} {c : Nat} {fs : List (Nat × D)} {vs : List V} (h : H a = some (.ins (G.ca c) dx (flds G (fs.map (·.1)) vs))) (hf : ∀ p ∈ fs, p.1 < G.fs.length) (r : RepF G S H fs vs) : RepT G S H (.obj c fs) (.ref a)
section
variable {S : Addr → Prop} {H : Hp}
theorem ows0 {ds : List D} {vs : List V} {Y : List Addr} (h : Ows (Ow G S H 0) ds vs Y) : Reps G S H ds vs := h.reps fun d v Y r _ => r.1
theorem owf0 {ds : List (Nat × D)} {vs : List V} {Y : List Addr} (h : OwF (Ow G S H 0) ds vs Y) : RepF G S H ds vs := h.reps fun d v Y r _ => r.1
theorem Ow.t1 {d : D} {v : V} {Y : List Addr} (h : Ow G S H 1 d v Y) : RepT G S H d v := by
  cases d with
  | lst ds => obtain ⟨a, vs, Y, rfl, h2, h3, _⟩ := h; exact .lst h2 (ows0 h3)
  | obj c fs => obtain ⟨a, dx, vs, Y, rfl, h2, h0, h3, _⟩ := h; exact .obj h2 h0 (owf0 h3)
  | non => exact .sh h.1
  | bl b => exact .sh h.1
  | int i => exact .sh h.1
  | str s => exact .sh h.1
  | tup ds => exact .sh h.1
  | dict ds => exact .sh h.1
  | fn f => exact .sh h.1
  | ro ds => exact .sh h.1
  | exc c fs => exact .sh h.1
/-- a list that may be read -/
theorem RepT.lst_inv {ds : List D} {v : V} (h : RepT G S H (.lst ds) v) : ∃ a vs, v = .ref a ∧ H a = some (.lst vs) ∧ Reps G S H ds vs := by
  cases h with
  | sh r => cases r with | lst s h r => exact ⟨_, _, rfl, h, r⟩
  | lst h r => exact ⟨_, _, rfl, h, r⟩
theorem RepT.tup_inv {ds : List D} {v : V} (h : RepT G S H (.tup ds) v) : ∃ a vs, v = .ref a ∧ H a = some (.tup vs) ∧ Reps G S H ds vs := by
  cases h with
  | sh r => cases r with | tup h r => exact ⟨_, _, rfl, h, r⟩
theorem RepT.int_inv {i : Int} {v : V} (h : RepT G S H (.int i) v) : v = .int i := by cases h with | sh r => cases r; rfl
theorem RepT.bl_inv {i : Bool} {v : V} (h : RepT G S H (.bl i) v) : v = .bl i := by cases h with | sh r => cases r; rfl
theorem RepT.str_inv {s : List Nat} {v : V} (h : RepT G S H (.str s) v) : v = .str ⟨s.toArray⟩ := by cases h with | sh r => cases r; rfl
theorem RepT.non_inv {v : V} (h : RepT G S H .non v) : v = .non := by cases h with | sh r => cases r; rfl
theorem RepT.obj_inv {c : Nat} {fs : List (Nat × D)} {v : V} (h : RepT G S H (.obj c fs) v) : ∃ a dx vs, v = .ref a ∧ H a = some (.ins (G.ca c) dx (flds G (fs.map (·.1)) vs)) ∧ (∀ p ∈ fs, p.1 < G.fs.length) ∧ RepF G S H fs vs := by
  cases h with
  | sh r => cases r with | obj s h hf r => exact ⟨_, _, _, rfl, h, hf, r⟩
  | obj h hf r => exact ⟨_, _, _, rfl, h, hf, r⟩
theorem RepT.ro_inv {ds : List D} {v : V} (h : RepT G S H (.ro ds) v) : ∃ a vs, v = .ref a ∧ L2.SqL G.K H a vs ∧ Reps G S H ds vs := by
  cases h with
  | sh r => cases r with
    | ro1 s h r => exact ⟨_, _, rfl, .inl h, r⟩
    | ro2 o its n h1 h2 h3 h4 h5 h6 r => exact ⟨_, _, rfl, .inr ⟨o, its, n, h1, h2, h3, h4, h5, h6⟩, r⟩
mutual
theorem Rep.dp : ∀ (n : Nat) {d : D} {v : V}, Rep G S H d v → plain n d = true → L2.Dp G.K H v (pyD d)
  | _, _, _, .non, _ => .non
  | _, _, _, .bl b, _ => .bl b
  | _, _, _, .int i, _ => .int i
  | _, _, _, .str s, _ => .str _
  | 0, _, _, .tup h r, hp => by simp [plain] at hp
  | n + 1, _, _, .tup h r, hp => .tup (.of h) (Reps.dp n r (by simpa only [plain] using hp))
  | 0, _, _, .lst s h r, hp => by simp [plain] at hp
  | n + 1, _, _, .lst s h r, hp => .lst (.of h) (Reps.dp n r (by simpa only [plain] using hp))
  | 0, _, _, .fn f, hp => by simp [plain] at hp
  | n + 1, _, _, .fn f, hp => by simp [plain] at hp
  | 0, _, _, .ro1 _ _ _, hp => by simp [plain] at hp
  | n + 1, _, _, .ro1 _ _ _, hp => by simp [plain] at hp
  | 0, _, _, .ro2 _ _ _ _ _ _ _ _ _ _, hp => by simp [plain] at hp
  | n + 1, _, _, .ro2 _ _ _ _ _ _ _ _ _ _, hp => by simp [plain] at hp
  | 0, _, _, .obj _ _ _ _, hp => by simp [plain] at hp
  | n + 1, _, _, .obj _ _ _ _, hp => by simp [plain] at hp
theorem Reps.dp : ∀ (n : Nat) {d : List D} {v : List V}, Reps G S H d v → d.all (plain n) = true → L2.DpAll G.K H v (pyL d)
  | _, _, _, .nil, _ => .nil
  | n, _, _, .cons h r, hp => by
    simp only [List.all_cons, Bool.and_eq_true] at hp
    exact .cons (Rep.dp n h hp.1) (Reps.dp n r hp.2)
end
theorem RepT.dp {n : Nat} {d : D} {v : V} (h : RepT G S H d v) (hp : plain n d = true) : L2.Dp G.K H v (pyD d) := by
  cases h with
  | sh r => exact r.dp n hp
  | lst h r => cases n with
    | zero => simp [plain] at hp
    | succ n => exact .lst (.of h) (Reps.dp n r (by simpa only [plain] using hp))
  | obj h hf r => cases n <;> simp [plain] at hp
end

/-! ### operands -/
/-- what an operand gives: a lent slot's object, or a value -/
def AirO (e : E) (σ : St) : Rel D V := fun d v Y H S => Y = [] ∧ ((∃ i, e = .bor i ∧ σ[i]? = some (some v)) ∨ ((∀ i, e ≠ .bor i) ∧ Rep G S H d v))
variable (G P own call) in
abbrev TO (e : E) (W : WX) : L2.TE := fun σ H Q => TR G P own (AirO (G := G) e σ) (ev P call e) W σ H Q
theorem to_of {e : E} {p : PySem.Expr} (he : ∀ i, e ≠ .bor i) (h : L2.PE X p (TE G P own call 0 e W)) : L2.PE X p (TO G P own call e W) := by
  refine pe_conseq h fun σ H Q ⟨r, S, Xs, s, q⟩ => ⟨r, S, Xs, s, ?_⟩
  cases e1 : ev P call e r with
  | bad => rw [e1] at q; exact q
  | ex c fs r1 => rw [e1] at q; exact q
  | ok d r1 =>
    rw [e1] at q
    intro v H' S' Xs' Y t s' a f g
    exact q v H' S' Xs' Y t s' ⟨a.2, .inr ⟨he, a.1⟩⟩ f g
/-- read when the operation is done -/
theorem AirO.late {e : E} {σ : St} {d d' : D} {v : V} {Y : List Addr} {H H' : Hp} {S S' : Addr → Prop} {Xs Xs' : Parts} {r' : Env} (a : AirO (G := G) e σ d v Y H S) (dis : ∀ a, S a → ¬ inW Xs a) (t : Step S Xs H S' Xs' H') (s' : StR G own r' σ H' S' Xs')
    (ho : ∀ i, e = .bor i → own.getD i 0 ≤ 1) (h : late e d r' = some d') : RepT G S' H' d' v := by
  rcases a.2 with ⟨i, rfl, hv⟩ | ⟨hn, q⟩
  · have e1 : rd r' i = some d' := h
    · · obtain ⟨w, hw, o⟩ := s'.slot i d' e1
        rw [hv] at hw; cases hw
        have := ho i rfl
        rcases Nat.lt_or_ge (own.getD i 0) 1 with z | z
        · rw [show own.getD i 0 = 0 by omega] at o; exact .sh o.1
        · rw [show own.getD i 0 = 1 by omega] at o; exact o.t1
  · have : LW.late e d r' = some d := by
      cases e <;> first | rfl | exact absurd rfl (hn _)
    rw [this] at h; cases h
    exact .sh (q.step t dis)
end
end LW
end

section
set_option Elab.async false
set_option maxRecDepth 100000
/-! Sound3: constants, names, displays, operators. -/
namespace LW
open PySem
section
variable {G : Geo} {P : Prog} {own : Own} {call : Nat → List D → CR} {X : L2.Cx} {W : WX} {pos : Pos}
section
variable {S : Addr → Prop} {H : Hp}
def topFlat : D → Bool
  | .lst _ => false
  | .obj _ _ => false
  | _ => true
theorem Ow.flat {n : Nat} {d : D} {v : V} (h : Rep G S H d v) (hf : topFlat d = true) : Ow G S H n d v [] := by
  cases n with
  | zero => exact ⟨h, rfl⟩
  | succ n => cases d <;> first | exact ⟨h, rfl⟩ | (simp [topFlat] at hf; done)
theorem Ow.rep {n : Nat} {d : D} {v : V} {Y : List Addr} (h : Ow G S H n d v Y) (hf : topFlat d = true) : Rep G S H d v ∧ Y = [] := by
  cases n with
  | zero => exact h
  | succ n => cases d <;> first | exact h | (simp [topFlat] at hf; done)
theorem topFlat_of {d : D} (h : mutable d = false) : topFlat d = true := by cases d <;> first | rfl | (simp [mutable] at h; done)
end
/-! ### constants -/
theorem s_const {d : D} {v : V} {e : E} {p : PySem.Expr} {n : Nat} (he : ∀ r, ev P call e r = .ok d r) (hd : topFlat d = true) (hr : ∀ S H, Rep G S H d v) (h : L2.PE X p (L2.tC v)) : L2.PE X p (TE G P own call n e W) := by
  refine pe_conseq h fun σ H Q ⟨r, S, Xs, s, q⟩ => ?_
  rw [he] at q
  exact q.ret .refl s (.flat (hr S H) hd)
theorem s_int {n j : Nat} {i : Int} : L2.PE X (.Constant (.int i) j pos) (TE G P own call n (.int i) W) := s_const (fun _ => rfl) rfl (fun _ _ => .int i) L2.pe_int
theorem s_bl {n j : Nat} {i : Bool} : L2.PE X (.Constant (.bool i) j pos) (TE G P own call n (.bl i) W) := s_const (fun _ => rfl) rfl (fun _ _ => .bl i) L2.pe_bl
theorem s_non {n j : Nat} : L2.PE X (.Constant .none j pos) (TE G P own call n .non W) := s_const (fun _ => rfl) rfl (fun _ _ => .non) L2.pe_non
theorem s_str {n j : Nat} {s : List Nat} {x : Str} (e : x.cps.toList = s) : L2.PE X (.Constant (.str x) j pos) (TE G P own call n (.str s) W) := by
  have e' : x = ⟨s.toArray⟩ := by cases x; simp at e; simp [← e]
  subst e'
  exact s_const (fun _ => rfl) rfl (fun _ _ => .str s) L2.pe_str
/-! ### names -/
section
variable {i : Nat} {x : Str}
theorem s_var {n : Nat} (hN : X.N[i]? = some x) (hv : L2.Vis X.env.scope x) (hd : (x == ("__debug__" : Str)) = false) (hcd : (x == ("__classdict__" : Str)) = false) (ho : own.getD i 0 = 0) (hn : n = 0) : L2.PE X (.Name x pos) (TE G P own call n (.var i) W) := by
  subst hn
  refine pe_conseq (L2.pe_var hN hv hd hcd) fun σ H Q ⟨r, S, Xs, s, q⟩ => ?_
  simp only [ev, getV] at q
  cases e : rd r i with
  | none => rw [e] at q; exact q.elim
  | some d =>
      rw [e] at q
      obtain ⟨v, e1, o⟩ := s.slot i d e
      rw [ho] at o
      exact ⟨v, e1, q.ret .refl s ⟨o.1, rfl⟩⟩
theorem s_vi {n : Nat} (hN : X.N[i]? = some x) (hv : L2.Vis X.env.scope x) (hd : (x == ("__debug__" : Str)) = false) (hcd : (x == ("__classdict__" : Str)) = false) : L2.PE X (.Name x pos) (TE G P own call n (.vi i) W) := by
  refine pe_conseq (L2.pe_var hN hv hd hcd) fun σ H Q ⟨r, S, Xs, s, q⟩ => ?_
  simp only [ev] at q
  cases e : rd r i with
  | none => rw [e] at q; exact q.elim
  | some d =>
      rw [e] at q
      cases em : mutable d with
      | true => simp only [em, if_true] at q; exact q.elim
      | false =>
        simp only [em, Bool.false_eq_true, if_false] at q
        obtain ⟨v, e1, o⟩ := s.slot i d e
        exact ⟨v, e1, q.ret .refl s (.flat (o.rep (topFlat_of em)).1 (topFlat_of em))⟩
theorem s_bor (hN : X.N[i]? = some x) (hv : L2.Vis X.env.scope x) (hd : (x == ("__debug__" : Str)) = false) (hcd : (x == ("__classdict__" : Str)) = false) : L2.PE X (.Name x pos) (TO G P own call (.bor i) W) := by
  refine pe_conseq (L2.pe_var hN hv hd hcd) fun σ H Q ⟨r, S, Xs, s, q⟩ => ?_
  simp only [ev, getV] at q
  cases e : rd r i with
  | none => rw [e] at q; exact q.elim
  | some d =>
      rw [e] at q
      obtain ⟨v, e1, o⟩ := s.slot i d e
      exact ⟨v, e1, q v H S Xs [] .refl s ⟨rfl, .inl ⟨i, rfl, e1⟩⟩ .nil (fun _ z => nomatch z)⟩
/-- a slot gives its object away -/
theorem StR.give {r : Env} {σ : St} {H : Hp} {S : Addr → Prop} {Xs : Parts} (s : StR G own r σ H S Xs) {d : D} (e : rd r i = some d) : ∃ v, σ[i]? = some (some v) ∧ Ow G S H (own.getD i 0) d v (Xs.getD i []) ∧ StR G own (r.set i none) σ H S (Xs.set i []) ∧
    Fresh (Xs.getD i []) H S (Xs.set i []) ∧ Step S Xs H S (Xs.set i []) H ∧ ∀ a ∈ Xs.getD i [], inW Xs a := by
  obtain ⟨v, e1, o⟩ := s.slot i d e
  have hi : i < r.length := rd_lt e
  have hx : i < Xs.length := by rw [s.lenX]; exact hi
  have hg : Xs.getD i [] = Xs[i] := by rw [List.getD_eq_getElem?_getD, List.getElem?_eq_getElem hx]; rfl
  have inX : ∀ a ∈ Xs.getD i [], inW Xs a := fun a ha => ⟨Xs[i], List.getElem_mem hx, by rw [← hg]; exact ha⟩
  have sub : ∀ a, inW (Xs.set i []) a → inW Xs a := fun a ⟨Y, hY, ha⟩ => by
    rcases List.mem_or_eq_of_mem_set hY with h | h
    · exact ⟨Y, h, ha⟩
    · subst h; cases ha
  have apart : ∀ a ∈ Xs.getD i [], ¬ inW (Xs.set i []) a := fun a ha hw => by
    rw [hg] at ha
    obtain ⟨Y, hY, hb⟩ := hw
    obtain ⟨j, hj, hjY⟩ := List.mem_iff_getElem.mp hY
    have hj' : j < Xs.length := by simpa using hj
    rw [List.getElem_set] at hjY
    split at hjY
    · subst hjY; cases hb
    · rename_i hne
      have pw := s.nod.2
      rcases Nat.lt_or_gt_of_ne hne with h | h
      · have := List.pairwise_iff_getElem.mp pw i j hx hj' h
        exact this a ha (by rw [hjY]; exact hb)
      · have := List.pairwise_iff_getElem.mp pw j i hj' hx h
        exact this a (by rw [hjY]; exact hb) ha
  refine ⟨v, e1, o, ⟨by simpa using s.len, by simpa using s.lenX, fun j d' e' => ?_, fun j c fs z => ?_, ?_, fun a h w => s.dis a h (sub a w), s.dom, fun a w => s.domW a (sub a w)⟩, ⟨?_, fun a ha hs => s.dis a hs (inX a ha), apart, fun a ha => s.domW a (inX a ha)⟩,
    ⟨fun _ _ h _ => h, fun _ h => h, fun _ _ h => h, fun _ h => h, fun _ h => .inl h, fun a w => .inl (sub a w)⟩, inX⟩
  · by_cases hj : j = i
    · subst hj; rw [rd_none] at e'; cases e'
    · rw [rd_ne hj] at e'
      obtain ⟨w, h1, h2⟩ := s.slot j d' e'
      refine ⟨w, h1, ?_⟩
      rw [show (Xs.set i []).getD j [] = Xs.getD j [] by rw [List.getD_eq_getElem?_getD, List.getD_eq_getElem?_getD, List.getElem?_set_ne (Ne.symm hj)]]
      exact h2
  · by_cases hj : j = i
    · subst hj; rw [List.getElem?_set_self hi] at z; cases z
    · rw [List.getElem?_set_ne (Ne.symm hj)] at z; exact s.xsl j c fs z
  · have nd := s.nod
    refine ⟨fun Y hY => ?_, ?_⟩
    · rcases List.mem_or_eq_of_mem_set hY with h | h
      · exact nd.1 Y h
      · subst h; exact List.nodup_nil
    · rw [List.pairwise_iff_getElem]
      intro a b ha hb hab x hx1 hx2
      have ha' : a < Xs.length := by simpa using ha
      have hb' : b < Xs.length := by simpa using hb
      rw [List.getElem_set] at hx1 hx2
      split at hx1
      · cases hx1
      · split at hx2
        · cases hx2
        · exact List.pairwise_iff_getElem.mp nd.2 a b ha' hb' hab x hx1 hx2
  · rw [hg]
    exact s.nod.1 _ (List.getElem_mem hx)
theorem s_mv {n : Nat} (hN : X.N[i]? = some x) (hv : L2.Vis X.env.scope x) (hd : (x == ("__debug__" : Str)) = false) (hcd : (x == ("__classdict__" : Str)) = false) (ho : own.getD i 0 = n) : L2.PE X (.Name x pos) (TE G P own call n (.mv i) W) := by
  refine pe_conseq (L2.pe_var hN hv hd hcd) fun σ H Q ⟨r, S, Xs, s, q⟩ => ?_
  simp only [ev] at q
  cases e : rd r i with
  | none => rw [e] at q; exact q.elim
  | some d =>
      rw [e] at q
      obtain ⟨v, e1, o, s', f, t, g⟩ := s.give e
      subst ho
      exact ⟨v, e1, q v H S _ _ t s' o f fun a ha => .inl (g a ha)⟩
end
theorem s_freeze {n : Nat} {e : E} {p : PySem.Expr} (h : L2.PE X p (TE G P own call n e W)) : L2.PE X p (TE G P own call 0 e W) :=
  pe_conseq h fun σ H Q ⟨r, S, Xs, s, q⟩ => ⟨r, S, Xs, s, q.freeze⟩
/-- a value of the module -/
theorem s_gl {x : Str} {v : V} {u : Value} {d : D} {k n : Nat} (hg : L2.Gl X x) (hm : X.mg x = some u) (r : L2.RelV v u) (hd : (x == ("__debug__" : Str)) = false) (e : P.gl k = d) (hf : topFlat d = true) (hr : ∀ S H, Rep G S H d v) :
    L2.PE X (.Name x pos) (TE G P own call n (.gl k) W) := s_const (d := d) (fun _ => by simp only [ev, e]) hf hr (L2.pe_glob hg hm r hd)
theorem s_fnv {x : Str} {f n : Nat} (hg : L2.Gl X x) (hm : X.mg x = some (.ref (G.fa f))) (hd : (x == ("__debug__" : Str)) = false) : L2.PE X (.Name x pos) (TE G P own call n (.fnv f) W) :=
  s_const (d := .fn f) (v := .ref (G.fa f)) (fun _ => rfl) rfl (fun _ _ => .fn f) (L2.pe_glob hg hm rfl hd)

/-! ### lists of expressions -/
def isStar : PySem.Expr → Bool
  | .Starred _ _ => true
  | _ => false
theorem starEach_ok {e : PySem.Expr} {es : List PySem.Expr} {env : PySem.Env} (h : isStar e = false) : starEach (e :: es) env = (false, eval e env) :: starEach es env := by
  cases e <;> first | rfl | (simp [isStar] at h; done)
theorem s_nil {n : Nat} : L2.PA X [] (TL G P own call n .nil W) := by
  refine pa_conseq L2.pa_nil fun σ H Q ⟨r, S, Xs, s, q⟩ => ?_
  exact q [] H S Xs [] .refl s ⟨rfl, rfl⟩ .nil (fun _ z => nomatch z)
theorem Fresh.append {Y Z : List Addr} {H1 H2 : Hp} {S1 S2 : Addr → Prop} {Xs1 Xs2 : Parts} (f : Fresh Y H1 S1 Xs1) (t : Step S1 Xs1 H1 S2 Xs2 H2) (g : Fresh Z H2 S2 Xs2) (k : ∀ a ∈ Z, inW Xs1 a ∨ H1 a = none) : Fresh (Y ++ Z) H2 S2 Xs2 := by
  have f' := f.step t
  refine ⟨List.nodup_append.mpr ⟨f.nod, g.nod, fun a ha b hb e => ?_⟩, fun a ha => ?_, fun a ha => ?_, fun a ha => ?_⟩
  · subst e
    rcases k a hb with h | h
    · exact f.disW a ha h
    · obtain ⟨o, e⟩ := f.dom a ha
      rw [e] at h; cases h
  · exact (List.mem_append.mp ha).elim (f'.disS a) (g.disS a)
  · exact (List.mem_append.mp ha).elim (f'.disW a) (g.disW a)
  · exact (List.mem_append.mp ha).elim (f'.dom a) (g.dom a)
theorem s_cons {n : Nat} {e : E} {es : Es} {p : PySem.Expr} {ps : List PySem.Expr} (h1 : L2.PE X p (TE G P own call n e W)) (h2 : L2.PA X ps (TL G P own call n es W)) (hs : isStar p = false) : L2.PA X (p :: ps) (TL G P own call n (.cons e es) W) := by
  refine pa_conseq (L2.pa_cons h1 h2 (starEach_ok hs)) fun σ H Q ⟨r, S, Xs, s, q⟩ => ⟨r, S, Xs, s, ?_⟩
  simp only [evs] at q
  refine (q.bind .refl).mono fun v H1 ⟨d, r1, S1, Xs1, Y1, e1, t1, s1, a1, f1, g1, q1⟩ => ⟨r1, S1, Xs1, s1, ?_⟩
  refine (q1.bind (A := AirL G n) t1).mono fun vs H2 ⟨ds, r2, S2, Xs2, Y2, e2, t2, s2, a2, f2, g2, q2⟩ => ?_
  refine q2 (v :: vs) H2 S2 Xs2 (Y1 ++ Y2) (t1.trans t2) s2 ?_ (f1.append t2 f2 g2) fun a ha => ?_
  · exact ⟨v, vs, Y1, Y2, rfl, Ow.step a1 f1 t2 s1.dis, a2, rfl⟩
  · exact (List.mem_append.mp ha).elim (g1 a) (gback t1 g2 a)
end
end LW
end

section
set_option Elab.async false
set_option maxRecDepth 100000
set_option maxHeartbeats 1000000
/-! Sound4: displays, operators. -/
namespace LW
open PySem
section
variable {G : Geo} {P : Prog} {own : Own} {call : Nat → List D → CR} {X : L2.Cx} {W : WX} {pos : Pos}
theorem lim_le {α : Type} {xs : List α} (h : lim xs = true) : xs.length ≤ sizeLine := by
  rw [sizeLine_eq]; exact of_decide_eq_true h
theorem mkT_some {ds : List D} {d : D} (h : mkT ds = some d) : d = .tup ds ∧ lim ds = true := by
  unfold mkT at h
  split at h
  · cases h; exact ⟨rfl, by assumption⟩
  · cases h
theorem mkL_some {ds : List D} {d : D} (h : mkL ds = some d) : d = .lst ds ∧ lim ds = true := by
  unfold mkL at h
  split at h
  · cases h; exact ⟨rfl, by assumption⟩
  · cases h
theorem mkS_some {ds : List Nat} {d : D} (h : mkS ds = some d) : d = .str ds ∧ lim ds = true := by
  unfold mkS at h
  split at h
  · cases h; exact ⟨rfl, by assumption⟩
  · cases h
section
variable {S : Addr → Prop} {H : Hp}
theorem Ows.length {R : D → V → List Addr → Prop} : ∀ {ds : List D} {vs : List V} {Y : List Addr}, Ows R ds vs Y → ds.length = vs.length
  | [], _, _, ⟨h, _⟩ => by subst h; rfl
  | d :: ds, vs, Y, ⟨v, ws, Y1, Z, h1, h2, h3, h4⟩ => by subst h1; simp [Ows.length h3]
end
variable {α β : Type} {A : Rel α β} in
theorem Post.of {o : Option α} {r : Env} {σ : St} {H : Hp} {S : Addr → Prop} {Xs : Parts} {Q : β → Hp → Prop} (h : Post G P own A (R.of o r) σ H S Xs Q W) : ∃ d, o = some d ∧ Post G P own A (.ok d r) σ H S Xs Q W := by
  cases o with
  | none => exact h.elim
  | some d => exact ⟨d, rfl, h⟩
/-! ### displays -/
theorem s_tup {n k : Nat} {es : Es} {ps : List PySem.Expr} (h : L2.PA X ps (TL G P own call 0 es W)) : L2.PE X (.Tuple ps k pos) (TE G P own call n (.tup es) W) := by
  refine pe_conseq (L2.pe_tup h) fun σ H Q ⟨r, S, Xs, s, q⟩ => ⟨r, S, Xs, s, ?_⟩
  simp only [ev] at q
  refine (q.bind .refl).mono fun vs H1 ⟨ds, r1, S1, Xs1, Y1, e1, t1, s1, a1, f1, g1, q1⟩ => ?_
  obtain ⟨d, hd, q2⟩ := q1.of
  obtain ⟨rfl, hl⟩ := mkT_some hd
  have a2 := ows0 a1
  refine ⟨by rw [← a2.length]; exact lim_le hl, fun p hp => q2.newT t1 s1 a2 hp⟩
theorem s_lst {n : Nat} {es : Es} {ps : List PySem.Expr} (h : L2.PA X ps (TL G P own call n es W)) : L2.PE X (.List ps pos) (TE G P own call (n + 1) (.lst es) W) := by
  refine pe_conseq (L2.pe_lst h) fun σ H Q ⟨r, S, Xs, s, q⟩ => ⟨r, S, Xs, s, ?_⟩
  simp only [ev] at q
  refine (q.bind .refl).mono fun vs H1 ⟨ds, r1, S1, Xs1, Y1, e1, t1, s1, a1, f1, g1, q1⟩ => ?_
  obtain ⟨d, hd, q2⟩ := q1.of
  obtain ⟨rfl, hl⟩ := mkL_some hd
  refine ⟨by rw [← Ows.length a1]; exact lim_le hl, fun p hp => ?_⟩
  have hpY : p ∉ Y1 := fun hm => by
    obtain ⟨o, e⟩ := f1.dom p hm
    rw [hp] at e; cases e
  refine q2 (.ref p) _ S1 Xs1 (p :: Y1) (t1.trans (step_alloc hp)) (s1.alloc hp) ⟨p, vs, Y1, rfl, L2.upd_same, ?_, rfl⟩ ?_ fun a ha => ?_
  · exact a1.mono fun d v Z r hz => r.mono (fun _ h => h) (fun a o _ e => upd_kept hp e) (fun a o e => upd_kept hp e) fun a o _ e => upd_kept hp e
  · have f2 := f1.step (step_alloc (o := .lst vs) hp)
    exact ⟨List.nodup_cons.mpr ⟨hpY, f1.nod⟩, fun a ha => (List.mem_cons.mp ha).elim (fun e => by rw [e]; exact s1.notS_new hp) (f2.disS a), fun a ha => (List.mem_cons.mp ha).elim (fun e => by rw [e]; exact s1.notW_new hp) (f2.disW a),
      fun a ha => (List.mem_cons.mp ha).elim (fun e => by rw [e]; exact ⟨_, L2.upd_same⟩) (f2.dom a)⟩
  · rcases List.mem_cons.mp ha with e | h
    · rw [e]; exact .inr (t1.dom _ hp)
    · exact g1 a h

/-! ### operators -/
/-- what an operator's reading r asks is there -/
def OpOk (G : Geo) (P : Prog) (own : Own) (W : WX) (n : Nat) (f : D → D → Option D) (r : L2.R2) : Prop :=
  ∀ {d1 d2 d : D} {v1 v2 : V} {σ : St} {H H0 : Hp} {S S0 : Addr → Prop} {Xs Xs0 : Parts} {ρ : Env} {Q : V → Hp → Prop}, StR G own ρ σ H S Xs → Step S0 Xs0 H0 S Xs H → RepT G S H d1 v1 → RepT G S H d2 v2 → f d1 d2 = some d →
    Post G P own (AirE G n) (.ok d ρ) σ H0 S0 Xs0 Q W → r v1 v2 H Q
/-- an operand may be asked so -/
def opd (own : Own) : E → Bool
  | .bor i => decide (own.getD i 0 ≤ 1)
  | _ => true
theorem opd_ok {e : E} (h : opd own e = true) : ∀ i, e = .bor i → own.getD i 0 ≤ 1 := fun i he => by subst he; simpa [opd] using h
theorem late_bind {a b : E} {x y : D} {r : Env} {f : D → D → Option D} {d : D} (h : ((late a x r).bind fun x => (late b y r).bind fun y => f x y) = some d) : ∃ x' y', late a x r = some x' ∧ late b y r = some y' ∧ f x' y' = some d := by
  cases h1 : late a x r with
  | none => rw [h1] at h; cases h
  | some x' =>
    cases h2 : late b y r with
    | none => rw [h1, h2] at h; cases h
    | some y' => rw [h1, h2] at h; exact ⟨x', y', rfl, rfl, h⟩
theorem s_op2 {n : Nat} {a b : E} {pa pb : PySem.Expr} {r : L2.R2} {f : D → D → Option D} {m : Env → R D} {e : PySem.Expr} (he : L2.PE X e (L2.tOp r (TO G P own call a W) (TO G P own call b W)))
    (hm : ∀ ρ, m ρ = (ev P call a ρ).bind fun x r1 => (ev P call b r1).bind fun y r2 => R.of ((late a x r2).bind fun x => (late b y r2).bind fun y => f x y) r2)
    (hr : OpOk G P own W n f r) (oa : opd own a = true) (ob : opd own b = true) : L2.PE X e (TR G P own (AirE G n) m W) := by
  refine pe_conseq he fun σ H Q ⟨ρ, S, Xs, s, q⟩ => ⟨ρ, S, Xs, s, ?_⟩
  rw [hm] at q
  refine (q.bind .refl).mono fun v H1 ⟨d1, r1, S1, Xs1, Y1, e1, t1, s1, a1, f1, g1, q1⟩ => ⟨r1, S1, Xs1, s1, ?_⟩
  refine (q1.bind t1).mono fun w H2 ⟨d2, r2, S2, Xs2, Y2, e2, t2, s2, a2, f2, g2, q2⟩ => ?_
  obtain ⟨d, hd, q3⟩ := q2.of
  obtain ⟨x', y', h1, h2, h3⟩ := late_bind hd
  exact hr s2 (t1.trans t2) (a1.late s1.dis t2 s2 (opd_ok oa) h1) (a2.late s2.dis .refl s2 (opd_ok ob) h2) h3 q3
theorem s_bin {n : Nat} {a b : E} {pa pb : PySem.Expr} {o : BOp} {op : Operator} {r : L2.R2} (ho : L2.OpR X (binaryOp op) r) (hr : OpOk G P own W n (binD o) r) (ha : L2.PE X pa (TO G P own call a W)) (hb : L2.PE X pb (TO G P own call b W)) (oa : opd own a = true) (ob : opd own b = true) :
    L2.PE X (.BinOp pa op pb pos) (TE G P own call n (.bin o a b) W) := s_op2 (pa := pa) (pb := pb) (L2.pe_op ho ha hb) (fun _ => rfl) hr oa ob
section
variable {H H0 : Hp} {S S0 : Addr → Prop} {Xs Xs0 : Parts} {ρ : Env} {σ : St} {Q : V → Hp → Prop} {n : Nat}
theorem Post.int {i : Int} (h : Post G P own (AirE G n) (.ok (.int i) ρ) σ H0 S0 Xs0 Q W) (t : Step S0 Xs0 H0 S Xs H) (s : StR G own ρ σ H S Xs) : Q (.int i) H := h.ret t s (.flat (.int i) rfl)
theorem Post.bl {i : Bool} (h : Post G P own (AirE G n) (.ok (.bl i) ρ) σ H0 S0 Xs0 Q W) (t : Step S0 Xs0 H0 S Xs H) (s : StR G own ρ σ H S Xs) : Q (.bl i) H := h.ret t s (.flat (.bl i) rfl)
theorem Post.str {i : List Nat} (h : Post G P own (AirE G n) (.ok (.str i) ρ) σ H0 S0 Xs0 Q W) (t : Step S0 Xs0 H0 S Xs H) (s : StR G own ρ σ H S Xs) : Q (.str ⟨i.toArray⟩) H := h.ret t s (.flat (.str i) rfl)
theorem Post.rep0 {d : D} {v : V} (h : Post G P own (AirE G 0) (.ok d ρ) σ H0 S0 Xs0 Q W) (t : Step S0 Xs0 H0 S Xs H) (s : StR G own ρ σ H S Xs) (r : Rep G S H d v) : Q v H := h.ret t s ⟨r, rfl⟩
theorem Post.tup {d : List D} {v : V} (h : Post G P own (AirE G n) (.ok (.tup d) ρ) σ H0 S0 Xs0 Q W) (t : Step S0 Xs0 H0 S Xs H) (s : StR G own ρ σ H S Xs) (r : Rep G S H (.tup d) v) : Q v H := h.ret t s (.flat r rfl)
end
theorem str_app (s t : List Nat) : ((⟨s.toArray⟩ : Str) ++ ⟨t.toArray⟩) = ⟨(s ++ t).toArray⟩ := by
  show Str.append _ _ = _
  simp [Str.append]
abbrev rAddAll (K : PySem.W.Frag) : L2.R2 := fun x y H Q => (∃ i j, x = .int i ∧ y = .int j ∧ Q (.int (i + j)) H) ∨ (∃ i j, x = .str i ∧ y = .str j ∧ i.length + j.length ≤ sizeLine ∧ Q (.str (i ++ j)) H) ∨ L2.rCat x y H Q ∨ L2.rCatA K x y H Q
theorem op_addAll : L2.OpR X (binaryOp .Add) (rAddAll X.K) := L2.OpR.or L2.op_add (L2.OpR.or L2.op_add_str (L2.OpR.or L2.op_cat L2.op_catA))
theorem ok_add (hK : X.K = G.K) : OpOk G P own W 1 (binD .add) (rAddAll X.K) := by
  intro d1 d2 d v1 v2 σ H H0 S S0 Xs Xs0 ρ Q s t r1 r2 hd q
  cases d1 <;> cases d2 <;> simp only [binD] at hd <;> try (cases hd; done)
  · cases hd
    rw [r1.int_inv, r2.int_inv]
    exact .inl ⟨_, _, rfl, rfl, q.int t s⟩
  · obtain ⟨rfl, hl⟩ := mkS_some hd
    rw [r1.str_inv, r2.str_inv]
    refine .inr (.inl ⟨_, _, rfl, rfl, ?_, ?_⟩)
    · have := lim_le hl
      simpa [Str.length] using this
    · rw [str_app]; exact q.str t s
  · obtain ⟨rfl, hl⟩ := mkT_some hd
    obtain ⟨a, vs, rfl, ha, ra⟩ := r1.tup_inv
    obtain ⟨b, ws, rfl, hb, rb⟩ := r2.tup_inv
    have hl' := lim_le hl
    refine .inr (.inr (.inr ⟨a, b, vs, ws, rfl, rfl, .of ha, .of hb, ?_, fun e => ?_, fun e e' => ?_, fun e e' p hp => q.newT t s (ra.append rb) hp⟩))
    · rw [← ra.length, ← rb.length]; simpa using hl'
    · subst e
      cases ra
      exact q.tup t s (.tup hb rb)
    · subst e'
      cases rb
      rw [List.append_nil] at q
      exact q.tup t s (.tup ha ra)
  · obtain ⟨rfl, hl⟩ := mkL_some hd
    obtain ⟨a, vs, rfl, ha, ra⟩ := r1.lst_inv
    obtain ⟨b, ws, rfl, hb, rb⟩ := r2.lst_inv
    have hl' := lim_le hl
    refine .inr (.inr (.inl ⟨a, b, vs, ws, rfl, rfl, ha, hb, ?_, fun p hp => q.newL t s (ra.append rb) hp⟩))
    rw [← ra.length, ← rb.length]; simpa using hl'
/-- an operator of two ints -/
theorem ok_int2 {f : D → D → Option D} {C : Int → Int → Prop} {g : Int → Int → Int} (h1 : ∀ {d1 d2 d}, f d1 d2 = some d → ∃ i j, d1 = .int i ∧ d2 = .int j ∧ C i j ∧ d = .int (g i j)) {n : Nat} : OpOk G P own W n f (L2.rI C fun i j => .int (g i j)) := by
  intro d1 d2 d v1 v2 σ H H0 S S0 Xs Xs0 ρ Q s t r1 r2 hd q
  obtain ⟨i, j, rfl, rfl, c, rfl⟩ := h1 hd
  rw [r1.int_inv, r2.int_inv]
  exact ⟨_, _, rfl, rfl, c, q.int t s⟩
theorem ok_sub {n : Nat} : OpOk G P own W n (binD .sub) (L2.rI0 fun i j => .int (i - j)) := by
  intro d1 d2 d v1 v2 σ H H0 S S0 Xs Xs0 ρ Q s t r1 r2 hd q
  cases d1 <;> cases d2 <;> simp only [binD] at hd <;> try (cases hd; done)
  cases hd
  rw [r1.int_inv, r2.int_inv]
  exact ⟨_, _, rfl, rfl, q.int t s⟩
theorem ok_fdiv {n : Nat} : OpOk G P own W n (binD .fdiv) (L2.rI L2.CDivN fun i j => .int (i.fdiv j)) := ok_int2 (g := fun i j => i.fdiv j) fun {d1 d2 d} hd => by
  cases d1 <;> cases d2 <;> simp only [binD] at hd <;> try (cases hd; done)
  split at hd
  · rename_i h
    cases hd
    exact ⟨_, _, rfl, rfl, (by have h' := of_decide_eq_true h; exact h'), rfl⟩
  · cases hd
theorem ok_mod {n : Nat} : OpOk G P own W n (binD .mod) (L2.rI (fun _ j => j ≠ 0) fun i j => .int (i.fmod j)) := ok_int2 (g := fun i j => i.fmod j) fun {d1 d2 d} hd => by
  cases d1 <;> cases d2 <;> simp only [binD] at hd <;> try (cases hd; done)
  split at hd
  · rename_i h
    cases hd
    exact ⟨_, _, rfl, rfl, h, rfl⟩
  · cases hd
theorem ok_pow {n : Nat} : OpOk G P own W n (binD .pow) (L2.rI L2.CPow fun i j => .int (i ^ j.toNat)) := ok_int2 (g := fun i j => i ^ j.toNat) fun {d1 d2 d} hd => by
  cases d1 <;> cases d2 <;> simp only [binD] at hd <;> try (cases hd; done)
  split at hd
  · rename_i h
    cases hd
    exact ⟨_, _, rfl, rfl, (by have h' := of_decide_eq_true h; exact h'), rfl⟩
  · cases hd
theorem repeatL_eq {α : Type} (xs : List α) : ∀ n : Nat, repeatL xs n = (List.replicate n xs).flatten
  | 0 => rfl
  | n + 1 => by rw [List.replicate_succ, List.flatten_cons, ← repeatL_eq xs n]; rfl
theorem Reps.repeatL {S : Addr → Prop} {H : Hp} {ds : List D} {vs : List V} (r : Reps G S H ds vs) : ∀ n : Nat, Reps G S H (repeatL ds n) (repeatL vs n)
  | 0 => .nil
  | n + 1 => r.append (Reps.repeatL r n)
abbrev rMulAll : L2.R2 := fun x y H Q => L2.rI L2.CMul (fun i j => .int (i * j)) x y H Q ∨ L2.rRep x y H Q
theorem op_mulAll : L2.OpR X (binaryOp .Mult) rMulAll := L2.OpR.or L2.op_mul L2.op_rep
theorem ok_mul : OpOk G P own W 1 (binD .mul) rMulAll := by
  intro d1 d2 d v1 v2 σ H H0 S S0 Xs Xs0 ρ Q s t r1 r2 hd q
  cases d1 <;> cases d2 <;> simp only [binD] at hd <;> try (cases hd; done)
  · split at hd
    · rename_i h
      cases hd
      rw [r1.int_inv, r2.int_inv]
      refine .inl ⟨_, _, rfl, rfl, ?_, q.int t s⟩
      rcases Bool.or_eq_true_iff.mp h with h | h
      · exact .inl (of_decide_eq_true h)
      · exact .inr (of_decide_eq_true h)
    · cases hd
  · split at hd
    · rename_i h
      cases hd
      obtain ⟨a, vs, rfl, ha, ra⟩ := r1.lst_inv
      rw [r2.int_inv]
      obtain ⟨h1, h2⟩ := Bool.and_eq_true_iff.mp h
      have h1 := (small_iff _).1 h1
      have h2 := of_decide_eq_true h2
      unfold BIG at h1
      unfold LIM at h2
      refine .inr ⟨a, _, vs, rfl, rfl, ha, by omega, by omega, ?_, fun p hp => ?_⟩
      · rw [← ra.length, sizeLine_eq]; exact h2
      · rw [← repeatL_eq]
        exact q.newL t s (ra.repeatL _) hp
    · cases hd
end
end LW
end

section
set_option Elab.async false
set_option maxRecDepth 100000
set_option maxHeartbeats 1000000
/-! Sound5: comparisons, subscripts, tests. -/
namespace LW
open PySem
section
variable {G : Geo} {P : Prog} {own : Own} {call : Nat → List D → CR} {X : L2.Cx} {W : WX} {pos : Pos}
/-! ### comparisons -/
def cmpV (o : COp) (a b : D) : Option D := (cmpD o a b).map .bl
theorem map_bl {o : Option Bool} {d : D} (h : o.map D.bl = some d) : ∃ b, o = some b ∧ d = .bl b := by
  cases o with
  | none => cases h
  | some b => cases h; exact ⟨b, rfl, rfl⟩
theorem pyL_any {n m : Nat} {d : D} (hd : plain m d = true) : ∀ {ds : List D}, ds.all (plain n) = true → ((pyL ds).any fun z => PyData.eqv z (pyD d)) = ds.any (eqD · d)
  | [], _ => rfl
  | x :: xs, h => by
    simp only [List.all_cons, Bool.and_eq_true] at h
    simp only [pyL, List.any_cons]
    rw [pyD_eqv n m x d h.1 hd, pyL_any hd h.2]
theorem ok_eq {n : Nat} : OpOk G P own W n (cmpV .eq) (L2.rEqD G.K) := by
  intro d1 d2 d v1 v2 σ H H0 S S0 Xs Xs0 ρ Q s t r1 r2 hd q
  obtain ⟨b, hb, rfl⟩ := map_bl hd
  simp only [cmpD] at hb
  split at hb
  · rename_i hp
    cases hb
    obtain ⟨p1, p2⟩ := Bool.and_eq_true_iff.mp hp
    refine ⟨pyD d1, pyD d2, r1.dp p1, r2.dp p2, plain_shaped (by decide) p1, plain_shaped (by decide) p2, ?_⟩
    rw [pyD_eqv 8 8 _ _ p1 p2]
    exact q.bl t s
  · cases hb
theorem ok_ne {n : Nat} : OpOk G P own W n (cmpV .ne) (L2.rNeD G.K) := by
  intro d1 d2 d v1 v2 σ H H0 S S0 Xs Xs0 ρ Q s t r1 r2 hd q
  obtain ⟨b, hb, rfl⟩ := map_bl hd
  simp only [cmpD] at hb
  split at hb
  · rename_i hp
    cases hb
    obtain ⟨p1, p2⟩ := Bool.and_eq_true_iff.mp hp
    refine ⟨pyD d1, pyD d2, r1.dp p1, r2.dp p2, plain_shaped (by decide) p1, plain_shaped (by decide) p2, ?_⟩
    rw [pyD_eqv 8 8 _ _ p1 p2]
    exact q.bl t s
  · cases hb
theorem ok_icmp {n : Nat} {o : COp} {p : Int → Int → Bool} (h : ∀ {a b : D} {c : Bool}, cmpD o a b = some c → ∃ i j, a = .int i ∧ b = .int j ∧ c = p i j) : OpOk G P own W n (cmpV o) (L2.rI0 fun i j => .bl (p i j)) := by
  intro d1 d2 d v1 v2 σ H H0 S S0 Xs Xs0 ρ Q s t r1 r2 hd q
  obtain ⟨b, hb, rfl⟩ := map_bl hd
  obtain ⟨i, j, rfl, rfl, rfl⟩ := h hb
  rw [r1.int_inv, r2.int_inv]
  exact ⟨_, _, rfl, rfl, q.bl t s⟩
theorem ok_le {n : Nat} : OpOk G P own W n (cmpV .le) (L2.rI0 fun i j => .bl (decide (i ≤ j))) := ok_icmp (p := fun i j => decide (i ≤ j)) fun {a b c} h => by
  cases a <;> cases b <;> simp only [cmpD] at h <;> first | (cases h; done) | (cases h; exact ⟨_, _, rfl, rfl, rfl⟩)
theorem ok_ge {n : Nat} : OpOk G P own W n (cmpV .ge) (L2.rI0 fun i j => .bl (decide (j ≤ i))) := ok_icmp (p := fun i j => decide (j ≤ i)) fun {a b c} h => by
  cases a <;> cases b <;> simp only [cmpD] at h <;> first | (cases h; done) | (cases h; exact ⟨_, _, rfl, rfl, rfl⟩)
/-- < of ints alone (texts, tuples: told apart) -/
def ltI : D → D → Option D
  | .int i, .int j => some (.bl (decide (i < j)))
  | _, _ => none
def gtI : D → D → Option D
  | .int i, .int j => some (.bl (decide (j < i)))
  | _, _ => none
theorem ok_lt {n : Nat} : OpOk G P own W n ltI (L2.rI0 fun i j => .bl (decide (i < j))) := by
  intro d1 d2 d v1 v2 σ H H0 S S0 Xs Xs0 ρ Q s t r1 r2 hd q
  cases d1 <;> cases d2 <;> simp only [ltI] at hd <;> try (cases hd; done)
  cases hd
  rw [r1.int_inv, r2.int_inv]
  exact ⟨_, _, rfl, rfl, q.bl t s⟩
theorem ok_gt {n : Nat} : OpOk G P own W n gtI (L2.rI0 fun i j => .bl (decide (j < i))) := by
  intro d1 d2 d v1 v2 σ H H0 S S0 Xs Xs0 ρ Q s t r1 r2 hd q
  cases d1 <;> cases d2 <;> simp only [gtI] at hd <;> try (cases hd; done)
  cases hd
  rw [r1.int_inv, r2.int_inv]
  exact ⟨_, _, rfl, rfl, q.bl t s⟩
/-- x in ys -/
def rInDT (K : PySem.W.Frag) : L2.R2 := fun x y H Q => ∃ d ds, L2.Dp K H x d ∧ L2.Dp K H y (.tuple ds) ∧ SeqAt.shaped d = true ∧ SeqAt.shaped (.tuple ds) = true ∧ Q (.bl (ds.any fun z => PyData.eqv z d)) H
def rNotInDT (K : PySem.W.Frag) : L2.R2 := fun x y H Q => ∃ d ds, L2.Dp K H x d ∧ L2.Dp K H y (.tuple ds) ∧ SeqAt.shaped d = true ∧ SeqAt.shaped (.tuple ds) = true ∧ Q (.bl (!ds.any fun z => PyData.eqv z d)) H
theorem room_in_shapedT {A : Around} {d : PyData} {ds : List PyData} (h : SeqAt.shaped d = true) (hu : A.units + 65 < cLine) : A.units + 1 + min (PyData.depthAll ds) d.depth < cLine := by
  have h1 := SeqAt.depth_of_shaped h
  have h2 : min (PyData.depthAll ds) d.depth ≤ d.depth := Nat.min_le_right _ _
  omega
theorem op_inDT (hu : X.A.units + 65 < cLine) : L2.OpR X (compareOp .In) (rInDT X.K) := by
  intro pins s σ H x y v u Q I rx ry h
  obtain ⟨d, ds, hd, he, sd, se, q⟩ := h
  obtain ⟨as, r1⟩ := L2.Dp.reads I d x v hd rx
  obtain ⟨bs, r2⟩ := L2.Dp.reads I (.tuple ds) y u he ry
  exact SeqAt.in_tuple_reads r2 r1 (SeqAt.canLay_of_shaped se) (SeqAt.canLay_of_shaped sd) (room_in_shapedT sd hu) ⟨.bl _, H, I, rfl, q⟩
theorem op_notInDT (hu : X.A.units + 65 < cLine) : L2.OpR X (compareOp .NotIn) (rNotInDT X.K) := by
  intro pins s σ H x y v u Q I rx ry h
  obtain ⟨d, ds, hd, he, sd, se, q⟩ := h
  obtain ⟨as, r1⟩ := L2.Dp.reads I d x v hd rx
  obtain ⟨bs, r2⟩ := L2.Dp.reads I (.tuple ds) y u he ry
  exact SeqAt.notIn_tuple_reads r2 r1 (SeqAt.canLay_of_shaped se) (SeqAt.canLay_of_shaped sd) (room_in_shapedT sd hu) ⟨.bl _, H, I, rfl, q⟩
abbrev rInAll (K : PySem.W.Frag) : L2.R2 := fun x y H Q => L2.rInD K x y H Q ∨ rInDT K x y H Q
abbrev rNotInAll (K : PySem.W.Frag) : L2.R2 := fun x y H Q => L2.rNotInD K x y H Q ∨ rNotInDT K x y H Q
/-- in a list or a tuple -/
def inSeq (x : D) : D → Option D
  | .lst xs => (inD x (.lst xs)).map .bl
  | .tup xs => (inD x (.tup xs)).map .bl
  | _ => none
def notInSeq (x : D) : D → Option D
  | .lst xs => (inD x (.lst xs)).map fun b => .bl (!b)
  | .tup xs => (inD x (.tup xs)).map fun b => .bl (!b)
  | _ => none
theorem shaped_seq {ds : List D} (h : ds.all pl8 = true) : SeqAt.shaped (.list (pyL ds)) = true ∧ SeqAt.shaped (.tuple (pyL ds)) = true := by
  obtain ⟨h1, h2⟩ := plain_lays 8 ds h
  constructor
  · show (PyData.canLayAll0 (pyL ds) && decide (PyData.depthAll (pyL ds) + 1 ≤ 64)) = true
    rw [h1, decide_eq_true (by omega)]; rfl
  · show (PyData.canLayAll0 (pyL ds) && decide (PyData.depthAll (pyL ds) + 1 ≤ 64)) = true
    rw [h1, decide_eq_true (by omega)]; rfl
theorem ok_in {n : Nat} : OpOk G P own W n inSeq (rInAll G.K) := by
  intro d1 d2 d v1 v2 σ H H0 S S0 Xs Xs0 ρ Q s t r1 r2 hd q
  cases d2 <;> simp only [inSeq, inD] at hd <;> try (cases hd; done)
  · split at hd
    · rename_i hp
      cases hd
      obtain ⟨p1, p2⟩ := Bool.and_eq_true_iff.mp hp
      obtain ⟨a, vs, rfl, ha, ra⟩ := r2.tup_inv
      refine .inr ⟨pyD d1, pyL _, r1.dp p1, .tup (.of ha) (ra.dp 8 p2), plain_shaped (by decide) p1, (shaped_seq p2).2, ?_⟩
      rw [pyL_any p1 p2]
      exact q.bl t s
    · cases hd
  · split at hd
    · rename_i hp
      cases hd
      obtain ⟨p1, p2⟩ := Bool.and_eq_true_iff.mp hp
      obtain ⟨a, vs, rfl, ha, ra⟩ := r2.lst_inv
      refine .inl ⟨pyD d1, pyL _, r1.dp p1, .lst (.of ha) (ra.dp 8 p2), plain_shaped (by decide) p1, (shaped_seq p2).1, ?_⟩
      rw [pyL_any p1 p2]
      exact q.bl t s
    · cases hd
theorem ok_notin {n : Nat} : OpOk G P own W n notInSeq (rNotInAll G.K) := by
  intro d1 d2 d v1 v2 σ H H0 S S0 Xs Xs0 ρ Q s t r1 r2 hd q
  cases d2 <;> simp only [notInSeq, inD] at hd <;> try (cases hd; done)
  · split at hd
    · rename_i hp
      cases hd
      obtain ⟨p1, p2⟩ := Bool.and_eq_true_iff.mp hp
      obtain ⟨a, vs, rfl, ha, ra⟩ := r2.tup_inv
      refine .inr ⟨pyD d1, pyL _, r1.dp p1, .tup (.of ha) (ra.dp 8 p2), plain_shaped (by decide) p1, (shaped_seq p2).2, ?_⟩
      rw [pyL_any p1 p2]
      exact q.bl t s
    · cases hd
  · split at hd
    · rename_i hp
      cases hd
      obtain ⟨p1, p2⟩ := Bool.and_eq_true_iff.mp hp
      obtain ⟨a, vs, rfl, ha, ra⟩ := r2.lst_inv
      refine .inl ⟨pyD d1, pyL _, r1.dp p1, .lst (.of ha) (ra.dp 8 p2), plain_shaped (by decide) p1, (shaped_seq p2).1, ?_⟩
      rw [pyL_any p1 p2]
      exact q.bl t s
    · cases hd
/-! ### subscripts -/
/-- lists, tuples, texts -/
def idxS : D → D → Option D
  | .dict _, _ => none
  | a, b => idxD a b
theorem atI_eq {α : Type} (xs : List α) (i : Int) : LW.atI xs i = L2.atI xs i := rfl
theorem Reps.atI {S : Addr → Prop} {H : Hp} {ds : List D} {vs : List V} (r : Reps G S H ds vs) {i : Int} {d : D} (h : LW.atI ds i = some d) : ∃ v, L2.atI vs i = some v ∧ Rep G S H d v := by
  unfold LW.atI at h
  unfold L2.atI
  rw [← r.length]
  change ((LW.ixN ds.length i).bind fun j => ds[j]?) = some d at h
  show ∃ v, ((LW.ixN ds.length i).bind fun j => vs[j]?) = some v ∧ Rep G S H d v
  cases e : LW.ixN ds.length i with
  | none => rw [e] at h; cases h
  | some j => rw [e] at h; exact r.get h
theorem ok_idx (hK : X.K = G.K) : OpOk G P own W 0 idxS (L2.rIx X.K) := by
  intro d1 d2 d v1 v2 σ H H0 S S0 Xs Xs0 ρ Q s t r1 r2 hd q
  cases d1 <;> cases d2 <;> simp only [idxS, idxD] at hd <;> try (cases hd; done)
  · split at hd
    · rename_i z i hs
      cases e : LW.atI z i with
      | none => rw [e] at hd; cases hd
      | some c =>
        rw [e] at hd; cases hd
        rw [r1.str_inv, r2.int_inv]
        refine .inr (.inr ⟨_, _, c, rfl, rfl, ?_, e, q.str t s⟩)
        have := lim_le (Bool.and_eq_true_iff.mp hs).2
        simpa [Str.length] using this
    · cases hd
  · split at hd
    · obtain ⟨a, vs, rfl, ha, ra⟩ := r1.tup_inv
      rw [r2.int_inv]
      obtain ⟨v, h1, h2⟩ := ra.atI hd
      exact .inr (.inl ⟨a, vs, _, v, rfl, rfl, .of ha, h1, q.rep0 t s h2⟩)
    · cases hd
  · split at hd
    · obtain ⟨a, vs, rfl, ha, ra⟩ := r1.lst_inv
      rw [r2.int_inv]
      obtain ⟨v, h1, h2⟩ := ra.atI hd
      exact .inl ⟨a, vs, _, v, rfl, rfl, .of ha, h1, q.rep0 t s h2⟩
    · cases hd
  · split at hd
    · obtain ⟨a, vs, rfl, ha, ra⟩ := r1.ro_inv
      rw [r2.int_inv]
      obtain ⟨v, h1, h2⟩ := ra.atI hd
      rw [← hK] at ha
      exact .inl ⟨a, vs, _, v, rfl, rfl, ha, h1, q.rep0 t s h2⟩
    · cases hd
theorem s_idx {a b : E} {pa pb : PySem.Expr} {r : L2.R2} (hr : L2.IxR X r) (ok : OpOk G P own W 0 idxD r) (ha : L2.PE X pa (TO G P own call a W)) (hb : L2.PE X pb (TO G P own call b W)) (hp : L2.PlainIx pb) (oa : opd own a = true) (ob : opd own b = true) (hb' : ∀ x r, late b x r = some x) :
    L2.PE X (.Subscript pa pb pos) (TE G P own call 0 (.idx a b) W) := by
  refine s_op2 (pa := pa) (pb := pb) (f := idxD) (L2.pe_ix hr ha hb hp) (fun ρ => ?_) ok oa ob
  simp only [ev]
  congr 1
  funext x r1
  congr 1
  funext y r2
  congr 1
  cases late a x r2 with
  | none => rfl
  | some x' => simp only [Option.bind_some, hb']
end
end LW
end

section
set_option Elab.async false
set_option maxRecDepth 100000
set_option maxHeartbeats 1000000
/-! Sound6: tests, and, or, not, conditional expressions, slices. -/
namespace LW
open PySem
section
variable {G : Geo} {P : Prog} {own : Own} {call : Nat → List D → CR} {X : L2.Cx} {W : WX} {pos : Pos}
def tst (P : Prog) (call : Nat → List D → CR) (e : E) (r : Env) : R Bool := (ev P call e r).bind fun d r1 => match truth d with | some b => .ok b r1 | none => .bad
def tstM (m : Env → R D) (r : Env) : R Bool := (m r).bind fun d r1 => match truth d with | some b => .ok b r1 | none => .bad
def AirBo : Rel Bool Bool := fun b b' Y _ _ => b = b' ∧ Y = []
variable (G P own call) in
abbrev TT (e : E) (W : WX) : L2.TT := TR G P own AirBo (tst P call e) W
theorem truth_bl {d : D} {b : Bool} (h : truth d = some b) : d = .bl b := by cases d <;> first | (cases h; rfl) | (cases h; done)
section
variable {H H0 : Hp} {S S0 : Addr → Prop} {Xs Xs0 : Parts} {ρ : Env} {σ : St} {n : Nat}
theorem Post.bo {Q : Bool → Hp → Prop} {i : Bool} (h : Post G P own AirBo (.ok i ρ) σ H0 S0 Xs0 Q W) (t : Step S0 Xs0 H0 S Xs H) (s : StR G own ρ σ H S Xs) : Q i H := h i H S Xs [] t s ⟨rfl, rfl⟩ .nil (fun _ z => nomatch z)
end
/-- a test's run is the value's, then its truth -/
theorem tt_read {m : Env → R D} {σ : St} {H : Hp} {Q : Bool → Hp → Prop} (h : TR G P own AirBo (tstM m) W σ H Q) : TR G P own (AirE G 0) m W σ H (fun x H1 => ∃ c, x = .bl c ∧ Q c H1) := by
  obtain ⟨r, S, Xs, s, q⟩ := h
  refine ⟨r, S, Xs, s, ?_⟩
  refine (Post.bind (A := AirE G 0) (m := m r) q .refl).mono fun v H1 ⟨d, r1, S1, Xs1, Y1, e1, t1, s1, a1, f1, g1, q1⟩ => ?_
  cases e : truth d with
  | none => rw [e] at q1; exact q1.elim
  | some b =>
    rw [e] at q1
    have := truth_bl e
    subst this
    have hv : v = .bl b := by have := a1.1; cases this; rfl
    exact ⟨b, hv, q1.bo t1 s1⟩
/-- an expression whose test is its value's truth -/
def plainTest : PySem.Expr → Bool
  | .Name .. => true
  | .Call .. => true
  | .Attribute .. => true
  | .Subscript .. => true
  | .Constant .. => true
  | _ => false
theorem plainTest_ok {p : PySem.Expr} (h : plainTest p = true) {env : PySem.Env} : ∀ whole, isTrue p env whole = (do let v ← whole; standAt p.pos; holding [v] (truthy v)) := by
  cases p <;> first | (simp [plainTest] at h; done) | (intro _; rfl)
theorem tt_val {e : E} {p : PySem.Expr} (h : L2.PE X p (TE G P own call 0 e W)) (hp : plainTest p = true) : L2.PT X p (TT G P own call e W) :=
  pt_conseq (L2.pt_val h (plainTest_ok hp)) fun σ H Q q => tt_read q
/-- .. a comparison's -/
theorem op2_read {n : Nat} {a b : E} {r : L2.R2} {f : D → D → Option D} {m : Env → R D}
    (hm : ∀ ρ, m ρ = (ev P call a ρ).bind fun x r1 => (ev P call b r1).bind fun y r2 => R.of ((late a x r2).bind fun x => (late b y r2).bind fun y => f x y) r2)
    (hr : OpOk G P own W n f r) (oa : opd own a = true) (ob : opd own b = true) {σ : St} {H : Hp} {Q : V → Hp → Prop} (h : TR G P own (AirE G n) m W σ H Q) : L2.tOp r (TO G P own call a W) (TO G P own call b W) σ H Q := by
  obtain ⟨ρ, S, Xs, s, q⟩ := h
  refine ⟨ρ, S, Xs, s, ?_⟩
  rw [hm] at q
  refine (q.bind .refl).mono fun v H1 ⟨d1, r1, S1, Xs1, Y1, e1, t1, s1, a1, f1, g1, q1⟩ => ⟨r1, S1, Xs1, s1, ?_⟩
  refine (q1.bind t1).mono fun w H2 ⟨d2, r2, S2, Xs2, Y2, e2, t2, s2, a2, f2, g2, q2⟩ => ?_
  obtain ⟨d, hd, q3⟩ := q2.of
  obtain ⟨x', y', h1, h2, h3⟩ := late_bind hd
  exact hr s2 (t1.trans t2) (a1.late s1.dis t2 s2 (opd_ok oa) h1) (a2.late s2.dis .refl s2 (opd_ok ob) h2) h3 q3
/-- a comparison that is no own ==: the general rule; fits f to cmpD by hm -/
theorem s_cmpg {n : Nat} {a b : E} {pa pb : PySem.Expr} {op : CmpOp} {r : L2.R2} {f : D → D → Option D} {o : COp} (ho : L2.OpR X (compareOp op) r) (ha : L2.PE X pa (TO G P own call a W)) (hb : L2.PE X pb (TO G P own call b W))
    (hm : ∀ ρ, ev P call (.cmp o a b) ρ = (ev P call a ρ).bind fun x r1 => (ev P call b r1).bind fun y r2 => R.of ((late a x r2).bind fun x => (late b y r2).bind fun y => f x y) r2)
    (hr : OpOk G P own W n f r) (oa : opd own a = true) (ob : opd own b = true) (hk : behindInMarks op pb = false) : L2.PE X (.Compare pa [op] [pb] pos) (TE G P own call n (.cmp o a b) W) :=
  pe_conseq (L2.pe_cmpR ho ha hb hk) fun σ H Q q => op2_read hm hr oa ob q
theorem t_cmpg {a b : E} {pa pb : PySem.Expr} {op : CmpOp} {r : L2.R2} {f : D → D → Option D} {o : COp} (ho : L2.OpR X (compareOp op) r) (ha : L2.PE X pa (TO G P own call a W)) (hb : L2.PE X pb (TO G P own call b W))
    (hm : ∀ ρ, ev P call (.cmp o a b) ρ = (ev P call a ρ).bind fun x r1 => (ev P call b r1).bind fun y r2 => R.of ((late a x r2).bind fun x => (late b y r2).bind fun y => f x y) r2)
    (hr : OpOk G P own W 0 f r) (oa : opd own a = true) (ob : opd own b = true) (hk : behindInMarks op pb = false) : L2.PT X (.Compare pa [op] [pb] pos) (TT G P own call (.cmp o a b) W) :=
  pt_conseq (L2.pt_cmpR ho ha hb hk) fun σ H Q q => op2_read hm hr oa ob (tt_read (m := ev P call (.cmp o a b)) q)
/-! ### is None -/
theorem Rep.non_iff {S : Addr → Prop} {H : Hp} {d : D} {v : V} (r : Rep G S H d v) : isNonD d = decide (v = .non) := by
  cases r <;> first | rfl | exact (decide_eq_false (by intro h; cases h)).symm
theorem isN_read {a : E} {neg : Bool} {m : Env → R D} {k : V → V} (hm : ∀ r, m r = (ev P call a r).bind fun x r1 => .ok (.bl (xor neg (isNonD x))) r1)
    {σ : St} {H : Hp} {Q : V → Hp → Prop} {n : Nat} (h : TR G P own (AirE G n) m W σ H Q) : TE G P own call 0 a W σ H fun x H1 => Q (.bl (xor neg (decide (x = .non)))) H1 := by
  obtain ⟨r, S, Xs, s, q⟩ := h
  refine ⟨r, S, Xs, s, ?_⟩
  rw [hm] at q
  refine (q.bind (A := AirE G 0) .refl).mono fun v H1 ⟨d, r1, S1, Xs1, Y1, e1, t1, s1, a1, f1, g1, q1⟩ => ?_
  rw [a1.1.non_iff] at q1
  exact q1.bl t1 s1
theorem isN_m {a : E} : ∀ r, ev P call (.isN a) r = (ev P call a r).bind fun x r1 => .ok (.bl (xor false (isNonD x))) r1 := fun r => by
  simp only [ev, Bool.false_xor]
theorem notN_m {a : E} : ∀ r, ev P call (.notN a) r = (ev P call a r).bind fun x r1 => .ok (.bl (xor true (isNonD x))) r1 := fun r => by
  simp only [ev, Bool.true_xor]
theorem s_isN {n j : Nat} {a : E} {pa : PySem.Expr} {pos' : Pos} (ha : L2.PE X pa (TE G P own call 0 a W)) : L2.PE X (.Compare pa [.Is] [.Constant .none j pos'] pos) (TE G P own call n (.isN a) W) :=
  pe_conseq (L2.pe_cmp (L2.pc_isN ha) rfl) fun σ H Q q => by
    have := isN_read (k := id) isN_m q
    simp only [Bool.false_xor] at this; exact this
theorem s_notN {n j : Nat} {a : E} {pa : PySem.Expr} {pos' : Pos} (ha : L2.PE X pa (TE G P own call 0 a W)) : L2.PE X (.Compare pa [.IsNot] [.Constant .none j pos'] pos) (TE G P own call n (.notN a) W) :=
  pe_conseq (L2.pe_cmp (L2.pc_notN ha) rfl) fun σ H Q q => by
    have := isN_read (k := id) notN_m q
    simp only [Bool.true_xor] at this; exact this
theorem t_isN {j : Nat} {a : E} {pa : PySem.Expr} {pos' : Pos} (ha : L2.PE X pa (TE G P own call 0 a W)) : L2.PT X (.Compare pa [.Is] [.Constant .none j pos'] pos) (TT G P own call (.isN a) W) :=
  pt_conseq (L2.pt_cmp (L2.pc_isN ha) rfl) fun σ H Q q => by
    have := isN_read (k := id) isN_m (tt_read (m := ev P call (.isN a)) q)
    simp only [Bool.false_xor] at this; exact this
theorem t_notN {j : Nat} {a : E} {pa : PySem.Expr} {pos' : Pos} (ha : L2.PE X pa (TE G P own call 0 a W)) : L2.PT X (.Compare pa [.IsNot] [.Constant .none j pos'] pos) (TT G P own call (.notN a) W) :=
  pt_conseq (L2.pt_cmp (L2.pc_notN ha) rfl) fun σ H Q q => by
    have := isN_read (k := id) notN_m (tt_read (m := ev P call (.notN a)) q)
    simp only [Bool.true_xor] at this; exact this
/-! ### not, -, and, or, a if c else b -/
theorem s_neg {n : Nat} {a : E} {pa : PySem.Expr} (ha : L2.PE X pa (TE G P own call 0 a W)) : L2.PE X (.UnaryOp .USub pa pos) (TE G P own call n (.neg a) W) := by
  refine pe_conseq (L2.pe_un L2.un_neg ha) fun σ H Q ⟨r, S, Xs, s, q⟩ => ⟨r, S, Xs, s, ?_⟩
  simp only [ev] at q
  refine (q.bind (A := AirE G 0) .refl).mono fun v H1 ⟨d, r1, S1, Xs1, Y1, e1, t1, s1, a1, f1, g1, q1⟩ => ?_
  cases d <;> try (exact q1.elim)
  have hv := a1.1
  cases hv
  exact ⟨_, rfl, q1.int t1 s1⟩
theorem s_not {n : Nat} {a : E} {pa : PySem.Expr} (ha : L2.PE X pa (TE G P own call 0 a W)) : L2.PE X (.UnaryOp .Not pa pos) (TE G P own call n (.not a) W) := by
  refine pe_conseq (L2.pe_not ha) fun σ H Q ⟨r, S, Xs, s, q⟩ => ⟨r, S, Xs, s, ?_⟩
  simp only [ev] at q
  refine (q.bind (A := AirE G 0) .refl).mono fun v H1 ⟨d, r1, S1, Xs1, Y1, e1, t1, s1, a1, f1, g1, q1⟩ => ?_
  cases e : truth d with
  | none => rw [e] at q1; exact q1.elim
  | some b =>
    rw [e] at q1
    have := truth_bl e
    subst this
    have hv := a1.1
    cases hv
    exact ⟨_, rfl, q1.bl t1 s1⟩
theorem t_not {a : E} {pa : PySem.Expr} (ha : L2.PT X pa (TT G P own call a W)) : L2.PT X (.UnaryOp .Not pa pos) (TT G P own call (.not a) W) := by
  refine pt_conseq (L2.pt_not ha) fun σ H Q ⟨r, S, Xs, s, q⟩ => ⟨r, S, Xs, s, ?_⟩
  have q' : Post G P own AirBo ((tst P call a r).bind fun b r1 => .ok (!b) r1) σ H S Xs Q W := by
    have e : tst P call (.not a) r = (tst P call a r).bind fun b r1 => .ok (!b) r1 := by
      simp only [tst, ev]
      cases ev P call a r with
      | bad => rfl
      | ex c fs r1 => rfl
      | ok d r1 =>
        simp only [R.bind]
        cases truth d with
        | none => rfl
        | some b => rfl
    rw [← e]; exact q
  refine (q'.bind (A := AirBo) .refl).mono fun b H1 ⟨d, r1, S1, Xs1, Y1, e1, t1, s1, a1, f1, g1, q1⟩ => ?_
  have := a1.1
  subst this
  exact q1.bo t1 s1
abbrev TAnd (G : Geo) (P : Prog) (own : Own) (call : Nat → List D → CR) (as : Es) (W : WX) : L2.TE := TR G P own (AirE G 0) (evAnd P call as) W
abbrev TOr (G : Geo) (P : Prog) (own : Own) (call : Nat → List D → CR) (as : Es) (W : WX) : L2.TE := TR G P own (AirE G 0) (evOr P call as) W
abbrev TTAnd (G : Geo) (P : Prog) (own : Own) (call : Nat → List D → CR) (as : Es) (W : WX) : L2.TT := TR G P own AirBo (tstM (evAnd P call as)) W
abbrev TTOr (G : Geo) (P : Prog) (own : Own) (call : Nat → List D → CR) (as : Es) (W : WX) : L2.TT := TR G P own AirBo (tstM (evOr P call as)) W
theorem bind_ok {α : Type} (m : R α) : (m.bind fun x r1 => .ok x r1) = m := by cases m <;> rfl
theorem s_and1 {a : E} {pa : PySem.Expr} (ha : L2.PE X pa (TE G P own call 0 a W)) : L2.PE X (.BoolOp .And [pa] pos) (TAnd G P own call (.cons a .nil) W) := by
  refine pe_conseq (L2.pe_one ha) fun σ H Q ⟨r, S, Xs, s, q⟩ => ⟨r, S, Xs, s, ?_⟩
  have e : evAnd P call (.cons a .nil) r = ev P call a r := by simp only [evAnd]; exact bind_ok _
  rw [← e]; exact q
theorem s_or1 {a : E} {pa : PySem.Expr} (ha : L2.PE X pa (TE G P own call 0 a W)) : L2.PE X (.BoolOp .Or [pa] pos) (TOr G P own call (.cons a .nil) W) := by
  refine pe_conseq (L2.pe_one ha) fun σ H Q ⟨r, S, Xs, s, q⟩ => ⟨r, S, Xs, s, ?_⟩
  have e : evOr P call (.cons a .nil) r = ev P call a r := by simp only [evOr]; exact bind_ok _
  rw [← e]; exact q
theorem s_andC {a b : E} {es : Es} {pa pb : PySem.Expr} {ps : List PySem.Expr} (ha : L2.PE X pa (TE G P own call 0 a W)) (hb : L2.PE X (.BoolOp .And (pb :: ps) pos) (TAnd G P own call (.cons b es) W)) : L2.PE X (.BoolOp .And (pa :: pb :: ps) pos) (TAnd G P own call (.cons a (.cons b es)) W) := by
  refine pe_conseq (L2.pe_and ha hb) fun σ H Q ⟨r, S, Xs, s, q⟩ => ⟨r, S, Xs, s, ?_⟩
  rw [evAnd] at q
  refine (q.bind (A := AirE G 0) .refl).mono fun v H1 ⟨d, r1, S1, Xs1, Y1, e1, t1, s1, a1, f1, g1, q1⟩ => ?_
  cases e : truth d with
  | none => simp only [e] at q1; exact q1.elim
  | some c =>
    simp only [e] at q1
    have := truth_bl e
    subst this
    have hv := a1.1
    cases hv
    refine ⟨_, rfl, ?_⟩
    cases c with
    | true => exact ⟨r1, S1, Xs1, s1, q1.rebase t1⟩
    | false => exact q1.bl t1 s1
theorem s_orC {a b : E} {es : Es} {pa pb : PySem.Expr} {ps : List PySem.Expr} (ha : L2.PE X pa (TE G P own call 0 a W)) (hb : L2.PE X (.BoolOp .Or (pb :: ps) pos) (TOr G P own call (.cons b es) W)) : L2.PE X (.BoolOp .Or (pa :: pb :: ps) pos) (TOr G P own call (.cons a (.cons b es)) W) := by
  refine pe_conseq (L2.pe_or ha hb) fun σ H Q ⟨r, S, Xs, s, q⟩ => ⟨r, S, Xs, s, ?_⟩
  rw [evOr] at q
  refine (q.bind (A := AirE G 0) .refl).mono fun v H1 ⟨d, r1, S1, Xs1, Y1, e1, t1, s1, a1, f1, g1, q1⟩ => ?_
  cases e : truth d with
  | none => simp only [e] at q1; exact q1.elim
  | some c =>
    simp only [e] at q1
    have := truth_bl e
    subst this
    have hv := a1.1
    cases hv
    refine ⟨_, rfl, ?_⟩
    cases c with
    | false => exact ⟨r1, S1, Xs1, s1, q1.rebase t1⟩
    | true => exact q1.bl t1 s1
theorem s_and {n : Nat} {as : Es} {p : PySem.Expr} (h : L2.PE X p (TAnd G P own call as W)) : L2.PE X p (TE G P own call 0 (.and as) W) := pe_conseq h fun σ H Q ⟨r, S, Xs, s, q⟩ => ⟨r, S, Xs, s, by simp only [ev] at q; exact q⟩
theorem s_or {n : Nat} {as : Es} {p : PySem.Expr} (h : L2.PE X p (TOr G P own call as W)) : L2.PE X p (TE G P own call 0 (.or as) W) := pe_conseq h fun σ H Q ⟨r, S, Xs, s, q⟩ => ⟨r, S, Xs, s, by simp only [ev] at q; exact q⟩
theorem t_and1 {a : E} {pa : PySem.Expr} (ha : L2.PT X pa (TT G P own call a W)) : L2.PW X (.BoolOp .And [pa] pos) (TTAnd G P own call (.cons a .nil) W) := by
  refine pw_conseq (L2.pw_and1 ha) fun σ H Q ⟨r, S, Xs, s, q⟩ => ⟨r, S, Xs, s, ?_⟩
  have e : evAnd P call (.cons a .nil) r = ev P call a r := by simp only [evAnd]; exact bind_ok _
  simp only [tstM, e] at q; exact q
theorem t_or1 {a : E} {pa : PySem.Expr} (ha : L2.PT X pa (TT G P own call a W)) : L2.PW X (.BoolOp .Or [pa] pos) (TTOr G P own call (.cons a .nil) W) := by
  refine pw_conseq (L2.pw_or1 ha) fun σ H Q ⟨r, S, Xs, s, q⟩ => ⟨r, S, Xs, s, ?_⟩
  have e : evOr P call (.cons a .nil) r = ev P call a r := by simp only [evOr]; exact bind_ok _
  simp only [tstM, e] at q; exact q
theorem t_andC {a b : E} {es : Es} {pa pb : PySem.Expr} {ps : List PySem.Expr} (ha : L2.PT X pa (TT G P own call a W)) (hb : L2.PW X (.BoolOp .And (pb :: ps) pos) (TTAnd G P own call (.cons b es) W)) : L2.PW X (.BoolOp .And (pa :: pb :: ps) pos) (TTAnd G P own call (.cons a (.cons b es)) W) := by
  refine pw_conseq (L2.pw_and ha hb) fun σ H Q ⟨r, S, Xs, s, q⟩ => ⟨r, S, Xs, s, ?_⟩
  have q' : Post G P own AirBo ((tst P call a r).bind fun c r1 => if c then tstM (evAnd P call (.cons b es)) r1 else .ok false r1) σ H S Xs Q W := by
    have e : tstM (evAnd P call (.cons a (.cons b es))) r = (tst P call a r).bind fun c r1 => if c then tstM (evAnd P call (.cons b es)) r1 else .ok false r1 := by
      simp only [tstM, tst]
      rw [evAnd]
      cases ev P call a r with
      | bad => rfl
      | ex c fs r1 => rfl
      | ok d r1 =>
        simp only [R.bind]
        cases truth d with
        | none => rfl
        | some c => cases c <;> rfl
    rw [← e]; exact q
  refine (q'.bind (A := AirBo) .refl).mono fun b H1 ⟨d, r1, S1, Xs1, Y1, e1, t1, s1, a1, f1, g1, q1⟩ => ?_
  have := a1.1
  subst this
  cases d with
  | true => exact ⟨r1, S1, Xs1, s1, q1.rebase t1⟩
  | false => exact q1.bo t1 s1
theorem t_orC {a b : E} {es : Es} {pa pb : PySem.Expr} {ps : List PySem.Expr} (ha : L2.PT X pa (TT G P own call a W)) (hb : L2.PW X (.BoolOp .Or (pb :: ps) pos) (TTOr G P own call (.cons b es) W)) : L2.PW X (.BoolOp .Or (pa :: pb :: ps) pos) (TTOr G P own call (.cons a (.cons b es)) W) := by
  refine pw_conseq (L2.pw_or ha hb) fun σ H Q ⟨r, S, Xs, s, q⟩ => ⟨r, S, Xs, s, ?_⟩
  have q' : Post G P own AirBo ((tst P call a r).bind fun c r1 => if c then .ok true r1 else tstM (evOr P call (.cons b es)) r1) σ H S Xs Q W := by
    have e : tstM (evOr P call (.cons a (.cons b es))) r = (tst P call a r).bind fun c r1 => if c then .ok true r1 else tstM (evOr P call (.cons b es)) r1 := by
      simp only [tstM, tst]
      rw [evOr]
      cases ev P call a r with
      | bad => rfl
      | ex c fs r1 => rfl
      | ok d r1 =>
        simp only [R.bind]
        cases truth d with
        | none => rfl
        | some c => cases c <;> rfl
    rw [← e]; exact q
  refine (q'.bind (A := AirBo) .refl).mono fun b H1 ⟨d, r1, S1, Xs1, Y1, e1, t1, s1, a1, f1, g1, q1⟩ => ?_
  have := a1.1
  subst this
  cases d with
  | false => exact ⟨r1, S1, Xs1, s1, q1.rebase t1⟩
  | true => exact q1.bo t1 s1
theorem t_and {as : Es} {p : PySem.Expr} (h : L2.PW X p (TTAnd G P own call as W)) : L2.PT X p (TT G P own call (.and as) W) := pt_conseq h.pt fun σ H Q ⟨r, S, Xs, s, q⟩ => ⟨r, S, Xs, s, by simp only [tst, ev] at q; exact q⟩
theorem t_or {as : Es} {p : PySem.Expr} (h : L2.PW X p (TTOr G P own call as W)) : L2.PT X p (TT G P own call (.or as) W) := pt_conseq h.pt fun σ H Q ⟨r, S, Xs, s, q⟩ => ⟨r, S, Xs, s, by simp only [tst, ev] at q; exact q⟩
theorem s_ite {n : Nat} {c a b : E} {pc pa pb : PySem.Expr} (hc : L2.PT X pc (TT G P own call c W)) (ha : L2.PE X pa (TE G P own call n a W)) (hb : L2.PE X pb (TE G P own call n b W)) : L2.PE X (.IfExp pc pa pb pos) (TE G P own call n (.ite c a b) W) := by
  refine pe_conseq (L2.pe_ifExp hc ha hb) fun σ H Q ⟨r, S, Xs, s, q⟩ => ⟨r, S, Xs, s, ?_⟩
  have q' : Post G P own (AirE G n) ((tst P call c r).bind fun k r1 => if k then ev P call a r1 else ev P call b r1) σ H S Xs Q W := by
    have e : ev P call (.ite c a b) r = (tst P call c r).bind fun k r1 => if k then ev P call a r1 else ev P call b r1 := by
      simp only [tst, ev]
      cases ev P call c r with
      | bad => rfl
      | ex c fs r1 => rfl
      | ok d r1 =>
        simp only [R.bind]
        cases truth d with
        | none => rfl
        | some c => cases c <;> rfl
    rw [← e]; exact q
  refine (q'.bind (A := AirBo) .refl).mono fun b H1 ⟨d, r1, S1, Xs1, Y1, e1, t1, s1, a1, f1, g1, q1⟩ => ?_
  have := a1.1
  subst this
  cases d with
  | true => exact ⟨r1, S1, Xs1, s1, q1.rebase t1⟩
  | false => exact ⟨r1, S1, Xs1, s1, q1.rebase t1⟩
end
end LW
end

section
set_option Elab.async false
set_option maxRecDepth 100000
set_option maxHeartbeats 1000000
/-! Sound7: arguments, calls of built-ins. -/
namespace LW
open PySem
section
variable {G : Geo} {P : Prog} {own : Own} {call : Nat → List D → CR} {X : L2.Cx} {W : WX} {pos : Pos}
/-! ### arguments -/
def OsR (G : Geo) (σ : St) : As → List D → List V → Hp → (Addr → Prop) → Prop
  | .nil, ds, vs, _, _ => ds = [] ∧ vs = []
  | .cons _ e as, ds, vs, H, S => ∃ d ds' v vs', ds = d :: ds' ∧ vs = v :: vs' ∧ AirO (G := G) e σ d v [] H S ∧ OsR G σ as ds' vs' H S
def AirA (G : Geo) (as : As) (σ : St) : Rel (List D) (List V) := fun ds vs Y H S => Y = [] ∧ OsR G σ as ds vs H S
variable (G P own call) in
abbrev TA (as : As) (W : WX) : L2.TA := fun σ H Q => TR G P own (AirA G as σ) (evAs P call as) W σ H Q
theorem AirO.step {e : E} {σ : St} {d : D} {v : V} {H H' : Hp} {S S' : Addr → Prop} {Xs Xs' : Parts} (a : AirO (G := G) e σ d v [] H S) (t : Step S Xs H S' Xs' H') (dis : ∀ a, S a → ¬ inW Xs a) : AirO (G := G) e σ d v [] H' S' := by
  refine ⟨rfl, ?_⟩
  rcases a.2 with ⟨i, h⟩ | ⟨hn, q⟩
  · exact .inl ⟨i, h⟩
  · exact .inr ⟨hn, q.step t dis⟩
theorem a_nil : L2.PA X [] (TA G P own call .nil W) := by
  refine pa_conseq L2.pa_nil fun σ H Q ⟨r, S, Xs, s, q⟩ => ?_
  exact q [] H S Xs [] .refl s ⟨rfl, rfl, rfl⟩ .nil (fun _ z => nomatch z)
theorem a_cons {m : Md} {e : E} {as : As} {p : PySem.Expr} {ps : List PySem.Expr} (h1 : L2.PE X p (TO G P own call e W)) (h2 : L2.PA X ps (TA G P own call as W)) (hs : isStar p = false) : L2.PA X (p :: ps) (TA G P own call (.cons m e as) W) := by
  refine pa_conseq (L2.pa_cons h1 h2 (starEach_ok hs)) fun σ H Q ⟨r, S, Xs, s, q⟩ => ⟨r, S, Xs, s, ?_⟩
  simp only [evAs] at q
  refine (q.bind .refl).mono fun v H1 ⟨d, r1, S1, Xs1, Y1, e1, t1, s1, a1, f1, g1, q1⟩ => ⟨r1, S1, Xs1, s1, ?_⟩
  refine (q1.bind t1).mono fun vs H2 ⟨ds, r2, S2, Xs2, Y2, e2, t2, s2, a2, f2, g2, q2⟩ => ?_
  have h0 : Y1 = [] := a1.1
  subst h0
  have h0 : Y2 = [] := a2.1
  subst h0
  exact q2 (v :: vs) H2 S2 Xs2 [] (t1.trans t2) s2 ⟨rfl, d, ds, v, vs, rfl, rfl, AirO.step a1 t2 s1.dis, a2.2⟩ .nil (fun _ z => nomatch z)
inductive RepTs (G : Geo) (S : Addr → Prop) (H : Hp) : List D → List V → Prop
  | nil : RepTs G S H [] []
  | cons {d : D} {v : V} {ds : List D} {vs : List V} (h : RepT G S H d v) (r : RepTs G S H ds vs) : RepTs G S H (d :: ds) (v :: vs)
def opds (own : Own) : As → Bool
  | .nil => true
  | .cons _ e as => opd own e && opds own as
theorem OsR.late {σ : St} {H : Hp} {S : Addr → Prop} {Xs : Parts} {r : Env} (s : StR G own r σ H S Xs) : ∀ {as : As} {ds ds' : List D} {vs : List V}, OsR G σ as ds vs H S → opds own as = true → lateAs as ds r = some ds' → RepTs G S H ds' vs
  | .nil, ds, ds', vs, ⟨h1, h2⟩, _, h => by
    subst h1; subst h2
    simp only [lateAs] at h
    cases h; exact .nil
  | .cons m e as, ds, ds', vs, ⟨d, dr, v, vr, h1, h2, a, h3⟩, ho, h => by
    subst h1; subst h2
    simp only [lateAs] at h
    simp only [opds, Bool.and_eq_true] at ho
    cases e1 : LW.late e d r with
    | none => rw [e1] at h; cases h
    | some x =>
      cases e2 : lateAs as dr r with
      | none => rw [e1, e2] at h; cases h
      | some xs =>
        rw [e1, e2] at h; cases h
        exact .cons (AirO.late a s.dis .refl s (opd_ok ho.1) e1) (OsR.late s h3 ho.2 e2)
/-! ### calls of built-ins -/
def CbOk (G : Geo) (P : Prog) (own : Own) (W : WX) (n : Nat) (f : List D → Option D) (r : List V → Hp → L2.VK → Prop) : Prop :=
  ∀ {ds : List D} {d : D} {vs : List V} {σ : St} {H H0 : Hp} {S S0 : Addr → Prop} {Xs Xs0 : Parts} {ρ : Env} {Q : V → Hp → Prop}, StR G own ρ σ H S Xs → Step S0 Xs0 H0 S Xs H → RepTs G S H ds vs → f ds = some d →
    Post G P own (AirE G n) (.ok d ρ) σ H0 S0 Xs0 Q W → r vs H Q
theorem bi_read {n : Nat} {b : Bi} {as : As} {r : List V → Hp → L2.VK → Prop} (ok : CbOk G P own W n (biD b) r) (ho : opds own as = true) {σ : St} {H : Hp} {Q : V → Hp → Prop} (h : TE G P own call n (.bi b as) W σ H Q) : L2.tCB r (TA G P own call as W) σ H Q := by
  obtain ⟨ρ, S, Xs, s, q⟩ := h
  refine ⟨ρ, S, Xs, s, ?_⟩
  simp only [ev] at q
  refine (q.bind .refl).mono fun vs H1 ⟨ds, r1, S1, Xs1, Y1, e1, t1, s1, a1, f1, g1, q1⟩ => ?_
  obtain ⟨d, hd, q2⟩ := q1.of
  cases el : lateAs as ds r1 with
  | none => rw [el] at hd; cases hd
  | some ds' =>
    rw [el] at hd
    exact ok s1 t1 (OsR.late s1 a1.2 ho el) hd q2
theorem any_false : ∀ {es : List PySem.Expr} {env : PySem.Env} {pos : Pos}, es.all (fun e => !isStar e) = true → ((backTo pos (starEach es env)).any (·.1)) = false
  | [], _, _, _ => rfl
  | e :: es, env, pos, h => by
    simp only [List.all_cons, Bool.and_eq_true, Bool.not_eq_true'] at h
    rw [starEach_ok h.1]
    have ih := any_false (env := env) (pos := pos) h.2
    simp only [backTo, List.map_cons, List.any_cons, Bool.false_or] at ih ⊢
    exact ih
theorem s_biB {n : Nat} {b : Bi} {as : As} {p : PySem.Expr} {ps : List PySem.Expr} {x : Str} {id : String} {pf : Pos} {r : List V → Hp → L2.VK → Prop} (hc : L2.CallR X (.builtin id) r) (ok : CbOk G P own W n (biD b) r) (hg : L2.Gl X x) (hm : X.mg x = none)
    (hv : bootBuiltins x = some (.builtin id)) (ha : L2.PA X (p :: ps) (TA G P own call as W)) (hn : x ≠ "__name__") (hd : (x == ("__debug__" : Str)) = false) (ho : opds own as = true) (hs : isStar p = false) (hs2 : ps.all (fun e => !isStar e) = true) :
    L2.PE X (.Call (.Name x pf) (p :: ps) [] pos) (TE G P own call n (.bi b as) W) :=
  pe_conseq (L2.pe_callB hc hg hm hv ha hn hd (starEach_ok hs) (any_false hs2)) fun σ H Q q => bi_read ok ho q
theorem s_biT {n : Nat} {b : Bi} {as : As} {p : PySem.Expr} {ps : List PySem.Expr} {x : Str} {T : String} {pf : Pos} {r : List V → Hp → L2.VK → Prop} (hc : L2.CallR X (.type T) r) (ok : CbOk G P own W n (biD b) r) (hg : L2.Gl X x) (hm : X.mg x = none)
    (hv : bootBuiltins x = some (.type T)) (ha : L2.PA X (p :: ps) (TA G P own call as W)) (hn : x ≠ "__name__") (hd : (x == ("__debug__" : Str)) = false) (ho : opds own as = true) (hs : isStar p = false) (hs2 : ps.all (fun e => !isStar e) = true) :
    L2.PE X (.Call (.Name x pf) (p :: ps) [] pos) (TE G P own call n (.bi b as) W) :=
  pe_conseq (L2.pe_callTy hc hg hm hv ha hn hd (starEach_ok hs) (any_false hs2)) fun σ H Q q => bi_read ok ho q
end
end LW
end

section
set_option Elab.async false
set_option maxRecDepth 100000
set_option maxHeartbeats 1000000
/-! Sound8: what a def promises; calls of own defs. -/
namespace LW
open PySem
section
variable (G : Geo) (P : Prog) (ret : Nat → Nat)
/-- the arguments: the first one's object is the callee's own, if it is io -/
def ArgR (io : Bool) (ds : List D) (vs : List V) (H : Hp) (S : Addr → Prop) (Y : List Addr) : Prop :=
  if io = true then ∃ d ds' v vs', ds = d :: ds' ∧ vs = v :: vs' ∧ Ow G S H 1 d v Y ∧ Reps G S H ds' vs' else Reps G S H ds vs ∧ Y = []
/-- what came out by the first argument -/
def OutR (io : Bool) (o : Option D) (vs : List V) (H : Hp) (S : Addr → Prop) (Y : List Addr) : Prop :=
  if io = true then ∃ d v, o = some d ∧ vs[0]? = some v ∧ Ow G S H 1 d v Y else o = none ∧ Y = []
/-- what is wanted behind a call -/
def PostC (f : Nat) (c : CR) (vs : List V) (H : Hp) (S : Addr → Prop) (Y0 : List Addr) (Q : L2.VK) (E : L2.XK) : Prop :=
  match c with
  | .ret d o => ∀ v H' S' Y0' Y, Step S [Y0] H S' [Y0'] H' → OutR G (P.io f) o vs H' S' Y0' → Fresh Y0' H' S' [] → Ow G S' H' (ret f) d v Y → Fresh Y H' S' [Y0'] → (∀ a ∈ Y, inW [Y0] a ∨ H a = none) → (∀ a, S' a → ∃ u, H' a = some u) → Q v H'
  | .ex c fs o => ∀ H' S' Y0' dd, Step S [Y0] H S' [Y0'] H' → OutR G (P.io f) o vs H' S' Y0' → Fresh Y0' H' S' [] → ExcAt G P H S' [Y0'] H' c fs dd → (∀ a, S' a → ∃ u, H' a = some u) → E (.ref (G.ca c)) dd H'
  | .bad => False
def spF (call : Nat → List D → CR) (f : Nat) : L2.Sp := fun vs H Q E => ∃ ds S Y0, vs.length = P.np f ∧ ArgR G (P.io f) ds vs H S Y0 ∧ Fresh Y0 H S [] ∧ (∀ a, S a → ∃ u, H a = some u) ∧ PostC G P ret f (call f ds) vs H S Y0 Q E
end
section
variable {G : Geo} {P : Prog} {own : Own} {call : Nat → List D → CR} {X : L2.Cx} {W : WX} {pos : Pos} {ret : Nat → Nat}
/-- an io argument stands first, a lent slot that owns one level; no shared argument is a lent slot -/
def noIo : As → Bool
  | .nil => true
  | .cons .io _ _ => false
  | .cons .s (.bor _) _ => false
  | .cons _ _ as => noIo as
def ioArgs (own : Own) : As → Bool
  | .cons .io (.bor i) as => decide (own.getD i 0 = 1) && noIo as
  | .cons .io _ _ => false
  | as => noIo as
mutual
theorem Rep.ofImm {S S' : Addr → Prop} {H : Hp} : ∀ {d : D} {v : V}, Rep G S H d v → imm d = true → Rep G S' H d v
  | _, _, .non, _ => .non
  | _, _, .bl b, _ => .bl b
  | _, _, .int i, _ => .int i
  | _, _, .str s, _ => .str s
  | _, _, .fn f, _ => .fn f
  | _, _, .tup h r, hi => .tup h (Reps.ofImm r (by simpa only [imm] using hi))
  | _, _, .lst s h r, hi => by simp [imm] at hi
  | _, _, .ro1 s h r, hi => by simp [imm] at hi
  | _, _, .ro2 _ _ _ _ _ _ _ _ _ _, hi => by simp [imm] at hi
  | _, _, .obj s h hf r, hi => by simp [imm] at hi
theorem Reps.ofImm {S S' : Addr → Prop} {H : Hp} : ∀ {d : List D} {v : List V}, Reps G S H d v → imms d = true → Reps G S' H d v
  | _, _, .nil, _ => .nil
  | _, _, .cons h r, hi => by
    simp only [imms, Bool.and_eq_true] at hi
    exact .cons (Rep.ofImm h hi.1) (Reps.ofImm r hi.2)
end
theorem imm_flat {d : D} (h : imm d = true) : topFlat d = true := by cases d <;> first | rfl | (simp [imm] at h; done)
theorem imm_mut {d : D} (h : mutable d = false) : topFlat d = true := topFlat_of h
section
variable {σ : St} {H : Hp} {S : Addr → Prop} {Xs : Parts} {r : Env}
/-- shared and lent arguments that are nobody's own objects -/
theorem args_shared (s : StR G own r σ H S Xs) : ∀ {as : As} {ds ds' : List D} {vs : List V}, OsR G σ as ds vs H S → noIo as = true → lateAs as ds r = some ds' → hasB as ds' = false → Reps G S H ds' vs
  | .nil, ds, ds', vs, ⟨h1, h2⟩, _, h, _ => by
    subst h1; subst h2
    simp only [lateAs] at h
    cases h; exact .nil
  | .cons m e as, ds, ds', vs, ⟨d, dr, v, vr, h1, h2, a, h3⟩, ho, h, hb => by
    subst h1; subst h2
    simp only [lateAs] at h
    cases e1 : LW.late e d r with
    | none => rw [e1] at h; cases h
    | some x =>
      cases e2 : lateAs as dr r with
      | none => rw [e1, e2] at h; cases h
      | some xs =>
        rw [e1, e2] at h; cases h
        have hno : noIo as = true := by
          cases m with
          | io => simp [noIo] at ho
          | b => simpa [noIo] using ho
          | s => cases e <;> first | (simpa [noIo] using ho) | (simp [noIo] at ho; done)
        have hb2 : hasB as xs = false := by
          cases m <;> simp only [hasB, Bool.or_eq_false_iff] at hb
          · exact hb
          · exact hb.2
          · exact hb
        refine .cons ?_ (args_shared s h3 hno e2 hb2)
        rcases a.2 with ⟨i, rfl, hv⟩ | ⟨hn, q⟩
        · have hm : mutable x = false := by
            cases m with
            | io => simp [noIo] at ho
            | s => simp [noIo] at ho
            | b => simp only [hasB, Bool.or_eq_false_iff] at hb; exact hb.1
          have e3 : rd r i = some x := e1
          · · obtain ⟨w, hw, o⟩ := s.slot i x e3
              rw [hv] at hw; cases hw
              exact (o.rep (topFlat_of hm)).1
        · have : LW.late e d r = some d := by
            cases e <;> first | rfl | exact absurd rfl (hn _)
          rw [this] at e1; cases e1
          exact q
/-- .. all of them, where everything is shared for the while of the call -/
theorem args_lent (s : StR G own r σ H S Xs) : ∀ {as : As} {ds ds' : List D} {vs : List V}, OsR G σ as ds vs H S → lateAs as ds r = some ds' → Reps G (fun a => S a ∨ inW Xs a) H ds' vs
  | .nil, ds, ds', vs, ⟨h1, h2⟩, h => by
    subst h1; subst h2
    simp only [lateAs] at h
    cases h; exact .nil
  | .cons m e as, ds, ds', vs, ⟨d, dr, v, vr, h1, h2, a, h3⟩, h => by
    subst h1; subst h2
    simp only [lateAs] at h
    cases e1 : LW.late e d r with
    | none => rw [e1] at h; cases h
    | some x =>
      cases e2 : lateAs as dr r with
      | none => rw [e1, e2] at h; cases h
      | some xs =>
        rw [e1, e2] at h; cases h
        refine .cons ?_ (args_lent s h3 e2)
        rcases a.2 with ⟨i, rfl, hv⟩ | ⟨hn, q⟩
        · have e3 : rd r i = some x := e1
          · · obtain ⟨v', e1, o, s', f, t, g⟩ := s.give e3
              rw [hv] at e1; cases e1
              exact o.freeze (fun _ z => .inl z) fun b hb => .inr (g b hb)
        · have : LW.late e d r = some d := by
            cases e <;> first | rfl | exact absurd rfl (hn _)
          rw [this] at e1; cases e1
          exact q.mono (fun _ z => .inl z) (fun _ _ _ z => z) fun _ _ z => z
end
/-- the states on both sides of a call -/
structure Called (G : Geo) (P : Prog) (own : Own) (f : Nat) (as : As) (ds : List D) (vs : List V) (r : Env) (σ : St) (H : Hp) (S : Addr → Prop) (Xs : Parts) (Sc : Addr → Prop) (Y0 : List Addr) : Prop where
  arg : ArgR G (P.io f) ds vs H Sc Y0
  fresh : Fresh Y0 H Sc []
  dom : ∀ a, Sc a → ∃ u, H a = some u
  /-- back -/
  back : ∀ {H' : Hp} {S' : Addr → Prop} {Y0' : List Addr} {o : Option D} {r' : Env}, Step Sc [Y0] H S' [Y0'] H' → OutR G (P.io f) o vs H' S' Y0' → Fresh Y0' H' S' [] → (∀ a, S' a → ∃ u, H' a = some u) → ioBack as o r = some r' →
    ∃ S2 Xs2, Step S Xs H S2 Xs2 H' ∧ StR G own r' σ H' S2 Xs2 ∧ (∀ n d v Y, Ow G S' H' n d v Y → Fresh Y H' S' [Y0'] → (∀ a ∈ Y, inW [Y0] a ∨ H a = none) → (hasB as ds && !imm d) = false → Ow G S2 H' n d v Y ∧ Fresh Y H' S2 Xs2 ∧ ∀ a ∈ Y, inW Xs a ∨ H a = none) ∧
      (∀ c fs dd, ExcAt G P H S' [Y0'] H' c fs dd → (hasB as ds && !imms fs) = false → ExcAt G P H S2 Xs2 H' c fs dd)
/-- nothing is lent, nothing io -/
theorem called0 {f : Nat} {as : As} {ds ds' : List D} {vs : List V} {r : Env} {σ : St} {H : Hp} {S : Addr → Prop} {Xs : Parts} (s : StR G own r σ H S Xs) (ho : OsR G σ as ds vs H S) (hn : noIo as = true) (hl : lateAs as ds r = some ds') (hb : hasB as ds' = false)
    (hio : P.io f = false) (hib : ∀ o r', ioBack as o r = some r' → o = none ∧ r' = r) : Called G P own f as ds' vs r σ H S Xs S [] where
  arg := by
    unfold ArgR
    rw [hio, if_neg (by decide)]
    exact ⟨args_shared s ho hn hl hb, rfl⟩
  fresh := .nil
  dom := s.dom
  back := fun {H' S' Y0' o r'} t out f0 dm ib => by
    obtain ⟨_, rfl⟩ := hib _ _ ib
    unfold OutR at out
    rw [hio, if_neg (by decide)] at out
    obtain ⟨_, rfl⟩ := out
    have t1 : ∀ a u, H a = some u → H' a = some u := fun a u e => t.fr a u e (by rintro ⟨Y, hY, ha⟩; rw [List.mem_singleton.mp hY] at ha; cases ha)
    have nw : ∀ a, ¬ inW ([[]] : Parts) a := by rintro a ⟨Y, hY, ha⟩; rw [List.mem_singleton.mp hY] at ha; cases ha
    have new : ∀ a, S' a → S a ∨ H a = none := fun a h => (t.oS a h).elim .inl fun z => z.elim (fun z => (nw a z).elim) .inr
    refine ⟨S', Xs, ⟨fun a u e _ => t1 a u e, t.dom, t.tup, t.sS, fun a h => (new a h).elim .inl fun z => .inr (.inr z), fun a h => .inl h⟩, ?_, fun n d v Y o fY g _ => ⟨o, ?_, fun a ha => (g a ha).elim (fun z => (nw a z).elim) .inr⟩, fun c fs dd x _ => ?_⟩
    · exact s.kept t.sS (fun a u _ e => t1 a u e) (fun a u e => t1 a _ e) (fun a u _ e => t1 a u e) fun a h => ⟨fun w => (new a h).elim (fun z => s.dis a z w) fun z => s.notW_new z w, dm a h⟩
    · exact ⟨fY.nod, fY.disS, fun a ha w => (g a ha).elim (fun z => (nw a z).elim) fun z => s.notW_new z w, fY.dom⟩
    · cases fs with
      | nil => exact x
      | cons a b =>
        obtain ⟨d, ws, h1, h2, h3, h4, h5⟩ := x
        exact ⟨d, ws, h1, h2, h3, s.notW_new h5, h5⟩
/-- something is lent -/
theorem calledB {f : Nat} {as : As} {ds ds' : List D} {vs : List V} {r : Env} {σ : St} {H : Hp} {S : Addr → Prop} {Xs : Parts} (s : StR G own r σ H S Xs) (ho : OsR G σ as ds vs H S) (hl : lateAs as ds r = some ds') (hb : hasB as ds' = true)
    (hio : P.io f = false) (hib : ∀ o r', ioBack as o r = some r' → o = none ∧ r' = r) : Called G P own f as ds' vs r σ H S Xs (fun a => S a ∨ inW Xs a) [] where
  arg := by
    unfold ArgR
    rw [hio, if_neg (by decide)]
    exact ⟨args_lent s ho hl, rfl⟩
  fresh := .nil
  dom := fun a h => h.elim (s.dom a) (s.domW a)
  back := fun {H' S' Y0' o r'} t out f0 dm ib => by
    obtain ⟨_, rfl⟩ := hib _ _ ib
    unfold OutR at out
    rw [hio, if_neg (by decide)] at out
    obtain ⟨_, rfl⟩ := out
    have nw : ∀ a, ¬ inW ([[]] : Parts) a := by rintro a ⟨Y, hY, ha⟩; rw [List.mem_singleton.mp hY] at ha; cases ha
    have t1 : ∀ a u, H a = some u → H' a = some u := fun a u e => t.fr a u e (nw a)
    refine ⟨S, Xs, ⟨fun a u e _ => t1 a u e, t.dom, t.tup, fun _ h => h, fun a h => .inl h, fun a h => .inl h⟩, ?_, fun n d v Y o fY g hi => ?_, fun c fs dd x hi => ?_⟩
    · exact s.kept (fun _ h => h) (fun a u _ e => t1 a u e) (fun a u e => t1 a _ e) (fun a u _ e => t1 a u e) fun a h => ⟨s.dis a h, by
        obtain ⟨u, e⟩ := s.dom a h
        exact ⟨u, t1 a u e⟩⟩
    · rw [hb, Bool.true_and, Bool.not_eq_false'] at hi
      obtain ⟨q, rfl⟩ := o.rep (imm_flat hi)
      exact ⟨.flat (q.ofImm hi) (imm_flat hi), .nil, fun _ z => nomatch z⟩
    · rw [hb, Bool.true_and, Bool.not_eq_false'] at hi
      cases fs with
      | nil => exact x
      | cons a b =>
        obtain ⟨d, ws, h1, h2, h3, h4, h5⟩ := x
        exact ⟨d, ws, h1, h2, h3.ofImm hi, s.notW_new h5, h5⟩

/-- the first argument is io -/
theorem calledI {f i : Nat} {as : As} {ds ds' : List D} {vs : List V} {r : Env} {σ : St} {H : Hp} {S : Addr → Prop} {Xs : Parts} (s : StR G own r σ H S Xs) (ho : OsR G σ (.cons .io (.bor i) as) ds vs H S) (hn : noIo as = true) (hown : own.getD i 0 = 1)
    (hl : lateAs (.cons .io (.bor i) as) ds r = some ds') (hb : hasB (.cons .io (.bor i) as) ds' = false) (hio : P.io f = true) : Called G P own f (.cons .io (.bor i) as) ds' vs r σ H S Xs S (Xs.getD i []) := by
  obtain ⟨d, dr, v, vr, rfl, rfl, a, h3⟩ := ho
  simp only [lateAs, LW.late] at hl
  cases e1 : rd r i with
  | none => rw [e1] at hl; cases hl
  | some x =>
      rw [e1] at hl
      cases e2 : lateAs as dr r with
      | none => rw [e2] at hl; cases hl
      | some xs =>
        rw [e2] at hl; cases hl
        have hb2 : hasB as xs = false := by simpa only [hasB] using hb
        have hv : σ[i]? = some (some v) := by
          rcases a.2 with ⟨j, hj, hv⟩ | ⟨hn', q⟩
          · cases hj; exact hv
          · exact absurd rfl (hn' i)
        have q := args_shared s h3 hn e2 hb2
        obtain ⟨v', e1', o, s', fr, t0, gin⟩ := s.give e1
        rw [hv] at e1'; cases e1'
        rw [hown] at o
        have hi : i < r.length := rd_lt e1
        have hx : i < Xs.length := by rw [s.lenX]; exact hi
        refine ⟨?_, ⟨fr.nod, fr.disS, (fun a _ => by rintro ⟨_, h, _⟩; cases h), fr.dom⟩, s.dom, ?_⟩
        · unfold ArgR
          rw [hio, if_pos rfl]
          exact ⟨x, xs, v, vr, rfl, rfl, o, q⟩
        · intro H' S' Y0' oo r' t out f0 dm ib
          unfold OutR at out
          rw [hio, if_pos rfl] at out
          obtain ⟨d2, v2, rfl, hv2, o2⟩ := out
          simp at hv2
          subst hv2
          simp only [ioBack] at ib
          cases ib
          have w0 : ∀ a, inW [Xs.getD i []] a → a ∈ Xs.getD i [] := by rintro a ⟨Y, hY, ha⟩; rw [List.mem_singleton.mp hY] at ha; exact ha
          have w1 : ∀ a, inW (Xs.set i []) a → inW Xs a := fun a ⟨Y, hY, ha⟩ => by
            rcases List.mem_or_eq_of_mem_set hY with h | h
            · exact ⟨Y, h, ha⟩
            · subst h; cases ha
          have fr1 : ∀ a u, H a = some u → a ∉ Xs.getD i [] → H' a = some u := fun a u e n => t.fr a u e fun z => n (w0 a z)
          have y0 : ∀ a ∈ Y0', a ∈ Xs.getD i [] ∨ H a = none := fun a ha => (t.oW a ⟨Y0', by simp, ha⟩).elim (fun z => .inl (w0 a z)) .inr
          have s1 : ∀ a, S' a → S a ∨ a ∈ Xs.getD i [] ∨ H a = none := fun a h => (t.oS a h).elim .inl fun z => z.elim (fun z => .inr (.inl (w0 a z))) fun z => .inr (.inr z)
          have w2 : ∀ a, inW (Xs.set i Y0') a → a ∈ Y0' ∨ inW (Xs.set i []) a := fun a ⟨Y, hY, ha⟩ => by
            obtain ⟨j, hj, hjY⟩ := List.mem_iff_getElem.mp hY
            have hj' : j < Xs.length := by simpa using hj
            rw [List.getElem_set] at hjY
            split at hjY
            · subst hjY; exact .inl ha
            · rename_i hne
              exact .inr ⟨Y, List.mem_iff_getElem.mpr ⟨j, by simpa using hj', by rw [List.getElem_set, if_neg hne]; exact hjY⟩, ha⟩
          -- what the other slots own is none of the callee's
          have ap : ∀ a, inW (Xs.set i []) a → ¬ S' a ∧ a ∉ Y0' ∧ a ∉ Xs.getD i [] := fun a w => by
            have n1 : a ∉ Xs.getD i [] := fun z => fr.disW a z w
            refine ⟨fun z => ?_, fun z => ?_, n1⟩
            · rcases s1 a z with h | h | h
              · exact s.dis a h (w1 a w)
              · exact n1 h
              · exact s.notW_new h (w1 a w)
            · rcases y0 a z with h | h
              · exact n1 h
              · exact s.notW_new h (w1 a w)
          refine ⟨S', Xs.set i Y0', ?_, ?_, fun n d v Y o fY g _ => ⟨o, ?_, fun a ha => ?_⟩, fun c fs dd x _ => ?_⟩
          · refine ⟨fun a u e n => fr1 a u e fun z => n (gin a z), t.dom, t.tup, t.sS, fun a h => ?_, fun a h => ?_⟩
            · rcases s1 a h with h | h | h
              · exact .inl h
              · exact .inr (.inl (gin a h))
              · exact .inr (.inr h)
            · rcases w2 a h with h | h
              · exact (y0 a h).elim (fun z => .inl (gin a z)) .inr
              · exact .inl (w1 a h)
          · refine ⟨by simpa using s.len, by simpa using s.lenX, fun j d' e' => ?_, fun j c fs z => ?_, ⟨fun Y hY => ?_, ?_⟩, fun a h w => ?_, dm, fun a w => ?_⟩
            · by_cases hj : j = i
              · subst hj
                obtain rfl := rd_self e'
                refine ⟨v, hv, ?_⟩
                rw [hown, show (Xs.set j Y0').getD j [] = Y0' by rw [List.getD_eq_getElem?_getD, List.getElem?_set_self hx]; rfl]
                exact o2
              · rw [rd_ne hj] at e'
                obtain ⟨w, h1, h2⟩ := s.slot j d' e'
                refine ⟨w, h1, ?_⟩
                rw [show (Xs.set i Y0').getD j [] = Xs.getD j [] by rw [List.getD_eq_getElem?_getD, List.getD_eq_getElem?_getD, List.getElem?_set_ne (Ne.symm hj)]]
                have hin : ∀ a ∈ Xs.getD j [], inW (Xs.set i []) a := fun a ha => by
                  have hjx : j < Xs.length := by
                    rcases Nat.lt_or_ge j Xs.length with h | h
                    · exact h
                    · rw [List.getD_eq_getElem?_getD, List.getElem?_eq_none h] at ha; cases ha
                  refine ⟨Xs.getD j [], ?_, ha⟩
                  rw [List.getD_eq_getElem?_getD, List.getElem?_eq_getElem hjx]
                  exact List.mem_iff_getElem.mpr ⟨j, by simpa using hjx, by rw [List.getElem_set, if_neg (Ne.symm hj)]; rfl⟩
                exact h2.mono t.sS (fun a u sa e => fr1 a u e fun z => s.dis a sa (gin a z)) t.tup fun a u ha e => fr1 a u e (ap a (hin a ha)).2.2
            · by_cases hj : j = i
              · subst hj
                rw [List.getElem?_set_self hi] at z
                cases z
                cases o2.1
              · rw [List.getElem?_set_ne (Ne.symm hj)] at z
                obtain ⟨v', e1, x⟩ := s.xsl j c fs z
                exact ⟨v', e1, x.mono t.sS (fun a u sa e => fr1 a u e fun z => s.dis a sa (gin a z)) t.tup⟩
            · rcases List.mem_or_eq_of_mem_set hY with h | h
              · exact s.nod.1 Y h
              · subst h; exact f0.nod
            · rw [List.pairwise_iff_getElem]
              intro j k hj hk hjk x hx1 hx2
              have hj' : j < Xs.length := by simpa using hj
              have hk' : k < Xs.length := by simpa using hk
              have inn : ∀ (l : Nat) (hl : l < Xs.length), i ≠ l → x ∈ Xs[l] → inW (Xs.set i []) x := fun l hl hne hm => ⟨Xs[l], List.mem_iff_getElem.mpr ⟨l, by simpa using hl, by rw [List.getElem_set, if_neg hne]⟩, hm⟩
              rw [List.getElem_set] at hx1 hx2
              split at hx1
              · rename_i h1
                split at hx2
                · omega
                · rename_i h2
                  exact (ap x (inn k hk' h2 hx2)).2.1 hx1
              · rename_i h1
                split at hx2
                · exact (ap x (inn j hj' h1 hx1)).2.1 hx2
                · exact List.pairwise_iff_getElem.mp s.nod.2 j k hj' hk' hjk x hx1 hx2
            · rcases w2 a w with z | z
              · exact f0.disS a z h
              · exact (ap a z).1 h
            · rcases w2 a w with z | z
              · exact f0.dom a z
              · obtain ⟨u, e⟩ := s.domW a (w1 a z)
                exact ⟨u, fr1 a u e (ap a z).2.2⟩
          · refine ⟨fY.nod, fY.disS, fun a ha w => ?_, fY.dom⟩
            rcases w2 a w with z | z
            · exact fY.disW a ha ⟨Y0', by simp, z⟩
            · rcases g a ha with y | y
              · exact (ap a z).2.2 (w0 a y)
              · exact s.notW_new y (w1 a z)
          · exact (g a ha).elim (fun z => .inl (gin a (w0 a z))) .inr
          · cases fs with
            | nil => exact x
            | cons a b =>
              obtain ⟨d, ws, h1, h2, h3, h4, h5⟩ := x
              exact ⟨d, ws, h1, h2, h3, fun w => (w2 d w).elim (fun z => h4 ⟨Y0', by simp, z⟩) fun z => s.notW_new h5 (w1 d z), h5⟩
end
end LW
end

section
set_option Elab.async false
set_option maxRecDepth 100000
set_option maxHeartbeats 1000000
/-! Fns: a def's promise where no guarded built-in runs around (for repr of tuples and lists); its calls; the law's call. -/
namespace LW
open PySem PySem.Spec PyProof.Rows
abbrev Quiet (A : Around) : Prop := A.guards = some []
/-- as the kit's promise of a def, but only below quiet surroundings -/
structure FnG (prog : Program) (w : World) (K : PySem.W.Frag) (mg : Str → Option Value) (base : Heap) (k : Nat) (f : Addr) (fd : FuncData) (ps : List Str) (sp : L2.Sp) : Prop where
  size : ∀ {vs H Q E}, sp vs H Q E → vs.length = ps.length
  go : ∀ {A : Around} {below : List PySem.Env} {s : Shared} {H : Hp} {args : Args} {us : List Value} {vs : List V} {Q : L2.VK} {E : L2.XK}, L2.Room k A → Quiet A → L2.Env0 prog w K mg base A below s H → BindsTo s fd args (ps.zip us) → L2.Vals vs us → sp vs H Q E →
    codeAny (model prog w) A (.call (.ref f) args) (L2.CR (L2.CX prog w) below prog w H s Q E) s
section
variable {prog : Program} {w : World} {K : PySem.W.Frag} {mg : Str → Option Value} {base : Heap}
theorem FnG.mono {j k : Nat} {f : Addr} {fd : FuncData} {ps : List Str} {sp : L2.Sp} (F : FnG prog w K mg base j f fd ps sp) (h : j ≤ k) : FnG prog w K mg base k f fd ps sp := ⟨F.size, fun r q e b v p => F.go (r.mono h) q e b v p⟩
/-- by its body -/
theorem FnG.of {x qual : Str} {st : PySem.Stmt} {f : Addr} {fd : FuncData} {N ps : List Str} {k : Nat} {sp : L2.Sp} (F : L2.Fun K x qual st f fd) (sc : L2.FnScope N ps (L2.defScope st)) (size : ∀ {vs H Q E}, sp vs H Q E → vs.length = ps.length)
    (body : ∀ (cdv : Value) (A : Around) (below : List PySem.Env) (s : Shared) (H : Hp) (vs : List V) (Q : L2.VK) (E : L2.XK), L2.Room k (A.deeper (envOfC qual (L2.defScope st) s.heap.objs.size f cdv)) → Quiet A → sp vs H Q E →
      ∃ t, L2.PSs (L2.cxOf (L2.CX prog w) prog w K mg base N qual (L2.defScope st) f cdv A below s H E) (L2.defBody st) t ∧ t { nx := fun _ H' => Q .non H', rt := Q } (L2.start N vs) H) : FnG prog w K mg base (k + 1) f fd ps sp := by
  obtain ⟨oc, od, kV, doc, pm, an, cdv, ct, osl, rfl, lk, hcd⟩ := F.ex
  refine ⟨size, fun {A below s H args us vs Q E} room quiet e0 binds vals wish => ?_⟩
  have n1 := size wish
  have keep : ∀ b o, base.get? b = some o → s.heap.get? b = some o := fun b o z => (e0.bs b o z).1
  have inK : K.In s.heap := e0.mod.kin.keeps keep
  refine codeAny_call_function room.depth (inK _ _ lk) rfl sc.co sc.gen rfl (PySem.W.codeRec_of inK hcd) (binds _ _ _ _ ?_)
  refine wpAny_newFunctionEnv_cells sc.kind (fun ⟨n, v⟩ hy => (sc.par n (List.of_mem_zip hy).1).elim .inl fun q => .inr ⟨q, PySem.W.cellsFrom_some _ _ _ (.inl q)⟩) fun env he s1 x => ?_
  subst he
  refine ⟨(e0.mod.nolimit.keeps keep).keeps x.toInCall.keep, codeAny_func ?_⟩
  obtain ⟨t, ht, hq⟩ := body cdv A below s H vs Q E (room.deeper _) quiet wish
  refine wpAny_mono (ht.run [] s1 (L2.start N vs) H _ (L2.inv_start sc room.hd e0 n1 vals x) hq) (fun fl s' z => ?_) fun _ _ z => z
  cases fl with
  | ret u => obtain ⟨v, σ', H', J, rv, q⟩ := z; exact ⟨v, H', J.os, J.bare, J.base, J.hok, rv, q⟩
  | next => obtain ⟨σ', H', J, q⟩ := z; exact ⟨.non, H', J.os, J.bare, J.base, J.hok, rfl, q⟩
  | brk => obtain ⟨_, _, _, q⟩ := z; exact q.elim
  | cont => obtain ⟨_, _, _, q⟩ := z; exact q.elim
end
/-! ### calls -/
section
variable {X : L2.Cx} {k : Nat} {f : Addr} {fd : FuncData} {ps : List Str} {sp : L2.Sp} {W : WX}
theorem FnG.run {pins : List (Addr × Obj)} {σ : St} {H : Hp} {s : Shared} {Q : L2.VK} {us : List Value} {vs : List V} (F : FnG X.prog X.w X.K X.mg X.base k f fd ps sp) (room : L2.Room k X.A) (quiet : Quiet X.A) (binds : L2.Binds X.K fd ps [])
    (ps' : L2.PassesAt (L2.CX X.prog X.w) X σ (L2.WE W σ)) (I : L2.Inv X pins σ H s) (r : L2.Vals vs us) (h : sp vs H Q (L2.WE W σ)) : wpAny (model X.prog X.w) X.A (call (.ref f) us) (L2.EP X pins σ Q) X.xe s := by
  have n1 : us.length = ps.length := by rw [← r.length]; exact F.size h
  have b := binds s us I.kIn (by rw [List.append_nil]; exact n1)
  rw [List.append_nil] at b
  refine wpAny_call (codeAny_mono (F.go room quiet I.env0 b r h) fun z s' hz => ?_)
  match z, hz with
  | .error e, hz => exact ps' pins H s e s' I hz
  | .ok (.ret u), hz => exact I.after hz
theorem pe_callG {x : Str} {p pos : Pos} {e : PySem.Expr} {es : List PySem.Expr} {t : L2.TA} (F : FnG X.prog X.w X.K X.mg X.base k f fd ps sp) (room : L2.Room k X.A) (quiet : Quiet X.A) (hg : L2.Gl X x) (hm : X.mg x = some (.ref f)) (hk : PySem.W.keepIn X.K (.ref f) = true) (binds : L2.Binds X.K fd ps [])
    (pass : ∀ σ, L2.PassesAt (L2.CX X.prog X.w) X σ (L2.WE W σ)) (ha : L2.PA X (e :: es) t) (hd : (x == ("__debug__" : Str)) = false) (he : starEach (e :: es) X.env = (false, eval e X.env) :: starEach es X.env) (hpl : (backTo pos (starEach es X.env)).any (·.1) = false) :
    L2.PE X (.Call (.Name x p) (e :: es) [] pos) (L2.tCallS sp (L2.WE W) t) :=
  ⟨fun pins s σ H Q I h => wpAny_Call_Name_kw (L2.ld_glob I hg hm (PySem.W.callWith_K (h₀ := X.base) I.ok.mod.kin hk (L2.thn (ha.run pos pins s σ H _ I h) fun us s1 ⟨vs, H1, I1, r, q⟩ => ⟨I1.kIn, F.run room quiet binds (pass σ) I1 r q⟩) he hpl) hd)⟩
theorem pe_callG0 {x : Str} {p pos : Pos} (F : FnG X.prog X.w X.K X.mg X.base k f fd ps sp) (room : L2.Room k X.A) (quiet : Quiet X.A) (hg : L2.Gl X x) (hm : X.mg x = some (.ref f)) (hk : PySem.W.keepIn X.K (.ref f) = true) (binds : L2.Binds X.K fd ps [])
    (pass : ∀ σ, L2.PassesAt (L2.CX X.prog X.w) X σ (L2.WE W σ)) (hd : (x == ("__debug__" : Str)) = false) : L2.PE X (.Call (.Name x p) [] [] pos) (fun σ H Q => sp [] H Q (L2.WE W σ)) :=
  ⟨fun pins s σ H Q I h => wpAny_Call_Name_kw (L2.ld_glob I hg hm (PySem.W.callWith_K0 I.kIn hk (F.run (us := []) room quiet binds (pass σ) I .nil h)) hd)⟩
end
/-! ### the law's own call -/
/-- the heap as the law sees it: the script alone, unless the module holds it -/
noncomputable def entry (K : PySem.W.Frag) (a : Addr) (o : Obj) (xs : List V) : Hp := fun b => if b = a ∧ K.lookup a = none then some (.frz o (.lst xs)) else none
theorem law_callG {prog : Program} {w : World} {K : PySem.W.Frag} {mg mb : Str → Option Value} {k : Nat} {fa a : Addr} {fd : FuncData} {x : Str} {sp : L2.Sp} {s : Shared} {vs : List Value} {ns : List Int}
    (inK : K.In s.heap) (gl : s.heap.Ns mainGlobals mg) (bl : s.heap.Ns builtinsNs mb) (blOk : ∀ y : Str, y ≠ "__name__" → mb y = bootBuiltins y) (lim : s.heap.NoLimit) (gens : s.gens = #[])
    (script : s.heap.get? a = some { cls := .type "list", data := .seq vs.toArray }) (allI : IntsAre vs ns) (small : ns.length ≤ sizeLine) (room : L2.Room k callerA)
    (F : ∀ base : Heap, K.In base → base.Ns mainGlobals mg → FnG prog w K mg base k fa fd [x] sp) (binds : ∀ (s : Shared) (u : Value), BindsTo s fd ⟨[u], []⟩ [(x, u)])
    (wish : ∀ H : Hp, L2.SqL K H a (ns.map L2.V.int) → sp [.ref a] H (fun v _ => v = .bl true) fun _ _ _ => False) :
    codeAny (model prog w) callerA (.call (.ref fa) ⟨[.ref a], []⟩) (fun r s' => r = .ok (.ret (.bool true)) ∧ OldK s.heap s'.heap ∧ s'.os = s.os ∧ AllBare s'.gens) s := by
  have vals := L2.vals_ints allI
  have same := allI.length
  -- what is tracked: the script, or nothing
  let H := entry K a { cls := .type "list", data := .seq vs.toArray } (ns.map L2.V.int)
  have at_a : ∀ b u, H b = some u → b = a ∧ K.lookup a = none ∧ u = .frz { cls := .type "list", data := .seq vs.toArray } (.lst (ns.map L2.V.int)) := fun b u z => by
    have z : (if b = a ∧ K.lookup a = none then some _ else none) = some u := z
    split at z
    · rename_i c; cases z; exact ⟨c.1, c.2, rfl⟩
    · cases z
  have okH : L2.HOk prog w H s.heap := fun b u z => by
    obtain ⟨rfl, _, rfl⟩ := at_a b u z
    exact ⟨script, by rw [List.length_map]; exact small, vs, _, vals, script⟩
  have seq : L2.SqL K H a (ns.map L2.V.int) := by
    cases c : K.lookup a with
    | none => exact .inl (.inr ⟨_, if_pos ⟨rfl, c⟩⟩)
    | some o =>
      have z := inK a o c
      rw [script] at z; cases z
      exact .inr ⟨_, vs.toArray, _, c, rfl, rfl, rfl, by rw [List.size_toArray, same]; exact small, by simpa using vals⟩
  have away : ∀ {b : Addr} {o : Obj} {es : Array DictEntry} {ep : Nat}, s.heap.get? b = some o → o.data = .dict es ep → H b = none := fun {b o es ep} z y => by
    cases q : H b with
    | none => rfl
    | some u =>
      obtain ⟨rfl, _, _⟩ := at_a b u q
      rw [script] at z; cases z; cases y
  have ns' : ∀ {b : Addr} {m : Str → Option Value}, s.heap.Ns b m → (L2.hidT s.heap H).Ns b m := fun {b m} ⟨o, es, ep, z, y, r⟩ => ⟨o, es, ep, L2.hidT_get z (away z y), y, r⟩
  have inB : K.In (L2.hidT s.heap H) := fun b o z => L2.hidT_get (inK b o z) (by
    cases q : H b with
    | none => rfl
    | some u =>
      obtain ⟨rfl, y, _⟩ := at_a b u q
      rw [y] at z; cases z)
  have e0 : L2.Env0 prog w K mg (L2.hidT s.heap H) callerA [] s H :=
    ⟨rfl, ⟨inB, ns' gl, ⟨mb, ns' bl, blOk⟩, (let ⟨mc, p, q⟩ := lim; ⟨mc, ns' p, q⟩)⟩, fun b o z => L2.of_hidT z, Nat.le_of_eq (L2.hidT_size _ _), trivial, fun b z => (List.not_mem_nil z).elim, okH, .of_eq gens⟩
  refine codeAny_mono ((F _ inB (ns' gl)).go (us := [.ref a]) (vs := [.ref a]) room rfl e0 (binds s (.ref a)) (.cons rfl .nil) (wish H seq)) fun r s' z => ?_
  match r, z with
  | .error e, z =>
    obtain ⟨_, _, _, _, _, _, _, _, _, _, _, _, y⟩ := z
    exact y.elim
  | .ok (.ret u), ⟨v, H', os, bare, un, ok', rel, (yes : v = .bl true)⟩ =>
    subst yes
    obtain rfl : u = Value.bool true := rel
    refine ⟨rfl, OldK.of_keep fun b o z => ?_, os, bare⟩
    cases q : H b with
    | none => exact un.keep b o z q (fun y => (List.not_mem_nil y).elim) (fun y => (List.not_mem_nil y).elim)
    | some u =>
      obtain ⟨_, _, rfl⟩ := at_a b u q
      obtain ⟨y1, _⟩ := okH b _ q
      obtain ⟨y2, _⟩ := ok' b _ (un.frzs b _ _ q)
      rw [z] at y1; cases y1
      exact y2
theorem walk_ofG {l : PySem.W.OpenLaw} {n k : Nat} {q : Program} {loose : List Str} {XP : (Str → Option Value) → Heap → Prop} {YP : World → Heap → Prop} {d : DefRec} {K : Params → PySem.W.Frag} {sp : World → L2.Sp} {x : Str}
    (most : l.most = some n) (small : n ≤ sizeLine) (plainD : d.params.defaults = []) (room : L2.Room k callerA) (inK : ∀ (w : World) (h : Heap), YP w h → (K w.params).In h)
    (F : ∀ (w : World) (mg : Str → Option Value) (fa : Addr) (h : Heap), (K w.params).In h → h.Ns mainGlobals mg → mg d.name = some (.ref fa) →
      ∃ fd : FuncData, (∀ (s : Shared) (u : Value), BindsTo s fd ⟨[u], []⟩ [(x, u)]) ∧ ∀ base : Heap, (K w.params).In base → base.Ns mainGlobals mg → FnG l.prog w (K w.params) mg base k fa fd [x] (sp w))
    (wish : ∀ (w : World) (H : Hp) (a : Addr) (ns : List Int), ns.length ≤ n → L2.SqL (K w.params) H a (ns.map L2.V.int) → sp w [.ref a] H (fun v _ => v = .bl true) fun _ _ _ => False) :
    PySem.W.WalkO q loose XP YP l.row.toRowW d [] (fun f vs => PySem.call f vs) :=
  Att.attach_call most plainD fun w s₀ s mg mb fa o pm cd doc a vs ns G Y ho hd hcd hmg script allI hlen gens =>
    let ⟨fd, hb, hF⟩ := F w mg fa _ (inK w _ Y) G.T.g hmg
    law_callG (inK w _ Y) G.T.g G.T.b G.T.builtins G.T.nolimit gens script allI (Nat.le_trans hlen small) room hF hb fun H hS => wish w H a ns hlen hS
end LW
end

section
set_option Elab.async false
set_option maxRecDepth 100000
set_option maxHeartbeats 1000000
/-! Sound9: calls of own defs, methods, classes. -/
namespace LW
open PySem
section
variable {G : Geo} {P : Prog} {own : Own} {call : Nat → List D → CR} {X : L2.Cx} {W : WX} {pos : Pos} {ret : Nat → Nat}
/-- what is asked of a call is there -/
theorem call_read {n f : Nat} {as : As} {ds ds' : List D} {vs : List V} {σ : St} {H H0 : Hp} {S S0 : Addr → Prop} {Xs Xs0 : Parts} {r : Env} {Q : V → Hp → Prop} (s : StR G own r σ H S Xs) (t : Step S0 Xs0 H0 S Xs H) (ho : OsR G σ as ds vs H S) (hl : lateAs as ds r = some ds')
    (hi : isIo as = P.io f) (ha : ioArgs own as = true) (hn : n = ret f) (hlen : vs.length = P.np f) (q : Post G P own (AirE G n) (ofCall as ds' (call f ds') r) σ H0 S0 Xs0 Q W) : spF G P ret call f vs H Q (fun c d H' => W c d σ H') := by
  subst hn
  -- the two sides
  have key : hasB as ds' = true ∧ isIo as = true ∨ ∃ Sc Y0, Called G P own f as ds' vs r σ H S Xs Sc Y0 := by
    cases as with
    | nil => exact .inr ⟨_, _, called0 s ho rfl hl rfl (by rw [← hi]; rfl) (fun o r' h => by cases o <;> simp [ioBack] at h; exact ⟨rfl, h.symm⟩)⟩
    | cons m e as =>
      cases m with
      | io =>
        cases e <;> try (simp [ioArgs] at ha; done)
        rename_i i
        simp only [ioArgs, Bool.and_eq_true, decide_eq_true_eq] at ha
        cases hb : hasB (.cons .io (.bor i) as) ds' with
        | true => exact .inl ⟨rfl, rfl⟩
        | false => exact .inr ⟨_, _, calledI s ho ha.2 ha.1 hl hb (by rw [← hi]; rfl)⟩
      | s =>
        have hib : ∀ o r', ioBack (.cons .s e as) o r = some r' → o = none ∧ r' = r := fun o r' h => by cases o <;> simp [ioBack] at h; exact ⟨rfl, h.symm⟩
        have hf : P.io f = false := by rw [← hi]; rfl
        have ha' : noIo (.cons .s e as) = true := by simpa only [ioArgs] using ha
        cases hb : hasB (.cons .s e as) ds' with
        | true => exact .inr ⟨_, _, calledB s ho hl hb hf hib⟩
        | false => exact .inr ⟨_, _, called0 s ho ha' hl hb hf hib⟩
      | b =>
        have hib : ∀ o r', ioBack (.cons .b e as) o r = some r' → o = none ∧ r' = r := fun o r' h => by cases o <;> simp [ioBack] at h; exact ⟨rfl, h.symm⟩
        have hf : P.io f = false := by rw [← hi]; rfl
        have ha' : noIo (.cons .b e as) = true := by simpa only [ioArgs] using ha
        cases hb : hasB (.cons .b e as) ds' with
        | true => exact .inr ⟨_, _, calledB s ho hl hb hf hib⟩
        | false => exact .inr ⟨_, _, called0 s ho ha' hl hb hf hib⟩
  rcases key with ⟨hb, hio⟩ | ⟨Sc, Y0, C⟩
  · exfalso
    unfold ofCall at q
    cases e : call f ds' with
    | bad => rw [e] at q; exact q
    | ret d o => rw [e] at q; simp only [hb, hio, Bool.true_or, Bool.and_self, if_true] at q; exact q
    | ex c fs o => rw [e] at q; simp only [hb, hio, Bool.true_or, Bool.and_self, if_true] at q; exact q
  · refine ⟨ds', Sc, Y0, hlen, C.arg, C.fresh, C.dom, ?_⟩
    unfold ofCall at q
    cases e : call f ds' with
    | bad => rw [e] at q; exact q
    | ret d o =>
      rw [e] at q
      intro v H' S' Y0' Y t1 out f0 ow fY g dm
      cases hh : (hasB as ds' && (isIo as || !imm d)) with
      | true => simp only [hh, if_true] at q; exact q.elim
      | false =>
        simp only [hh, Bool.false_eq_true, if_false] at q
        cases ib : ioBack as o r with
        | none => rw [ib] at q; exact q.elim
        | some r' =>
          rw [ib] at q
          obtain ⟨S2, Xs2, t2, s2, k1, k2⟩ := C.back t1 out f0 dm ib
          have hh' : (hasB as ds' && !imm d) = false := by
            cases hb : hasB as ds' with
            | false => rfl
            | true => rw [hb] at hh; simp only [Bool.true_and, Bool.or_eq_false_iff] at hh; rw [hh.2]; rfl
          obtain ⟨ow2, fY2, g2⟩ := k1 _ _ _ _ ow fY g hh'
          exact q v H' S2 Xs2 Y (t.trans t2) s2 ow2 fY2 (gback t g2)
    | ex c fs o =>
      rw [e] at q
      intro H' S' Y0' dd t1 out f0 xa dm
      cases hh : (hasB as ds' && (isIo as || !imms fs)) with
      | true => simp only [hh, if_true] at q; exact q.elim
      | false =>
        simp only [hh, Bool.false_eq_true, if_false] at q
        cases ib : ioBack as o r with
        | none => rw [ib] at q; exact q.elim
        | some r' =>
          rw [ib] at q
          obtain ⟨S2, Xs2, t2, s2, k1, k2⟩ := C.back t1 out f0 dm ib
          have hh' : (hasB as ds' && !imms fs) = false := by
            cases hb : hasB as ds' with
            | false => rfl
            | true => rw [hb] at hh; simp only [Bool.true_and, Bool.or_eq_false_iff] at hh; rw [hh.2]; rfl
          exact q H' S2 Xs2 dd (t.trans t2) s2 ((k2 _ _ _ xa hh').base t)
/-- how many arguments -/
def nAs : As → Nat
  | .nil => 0
  | .cons _ _ as => nAs as + 1
theorem OsR.len {σ : St} {H : Hp} {S : Addr → Prop} : ∀ {as : As} {ds : List D} {vs : List V}, OsR G σ as ds vs H S → vs.length = nAs as
  | .nil, _, _, ⟨_, h⟩ => by subst h; rfl
  | .cons _ _ as, _, _, ⟨_, _, _, _, _, h, _, h3⟩ => by subst h; simp [nAs, OsR.len h3]
theorem s_call {k f n : Nat} {fd : FuncData} {ps : List Str} {as : As} {p : PySem.Expr} {es : List PySem.Expr} {x : Str} {pf : Pos} (F : FnG X.prog X.w X.K X.mg X.base k (G.fa f) fd ps (spF G P ret call f)) (hr : L2.Room k X.A) (quiet : Quiet X.A)
    (hg : L2.Gl X x) (hm : X.mg x = some (.ref (G.fa f))) (hk : PySem.W.keepIn X.K (.ref (G.fa f)) = true) (hb : L2.Binds X.K fd ps []) (hp : ∀ σ, L2.PassesAt (L2.CX X.prog X.w) X σ (L2.WE W σ)) (ha : L2.PA X (p :: es) (TA G P own call as W))
    (hd : (x == ("__debug__" : Str)) = false) (hs : isStar p = false) (hs2 : es.all (fun e => !isStar e) = true) (hio : ioArgs own as = true) (hn : n = ret f) (hlen : nAs as = P.np f) : L2.PE X (.Call (.Name x pf) (p :: es) [] pos) (TE G P own call n (.call f as) W) := by
  refine pe_conseq (pe_callG F hr quiet hg hm hk hb hp ha hd (starEach_ok hs) (any_false hs2)) fun σ H Q ⟨r, S, Xs, s, q⟩ => ⟨r, S, Xs, s, ?_⟩
  simp only [ev] at q
  refine (q.bind .refl).mono fun vs H1 ⟨ds, r1, S1, Xs1, Y1, e1, t1, s1, a1, f1, g1, q1⟩ => ?_
  cases hl : lateAs as ds r1 with
  | none => simp only [hl] at q1; exact q1.elim
  | some ds' =>
    simp only [hl] at q1
    cases hi : (isIo as == P.io f) with
    | false => simp only [hi, Bool.false_eq_true, if_false] at q1; exact q1.elim
    | true =>
      simp only [hi, if_true] at q1
      exact call_read s1 t1 a1.2 hl (beq_iff_eq.mp hi) hio hn (by rw [OsR.len a1.2, hlen]) q1
theorem s_call0 {k f n : Nat} {fd : FuncData} {ps : List Str} {x : Str} {pf : Pos} (F : FnG X.prog X.w X.K X.mg X.base k (G.fa f) fd ps (spF G P ret call f)) (hr : L2.Room k X.A) (quiet : Quiet X.A)
    (hg : L2.Gl X x) (hm : X.mg x = some (.ref (G.fa f))) (hk : PySem.W.keepIn X.K (.ref (G.fa f)) = true) (hb : L2.Binds X.K fd ps []) (hp : ∀ σ, L2.PassesAt (L2.CX X.prog X.w) X σ (L2.WE W σ))
    (hd : (x == ("__debug__" : Str)) = false) (hn : n = ret f) (hlen : 0 = P.np f) : L2.PE X (.Call (.Name x pf) [] [] pos) (TE G P own call n (.call f .nil) W) := by
  refine pe_conseq (pe_callG0 F hr quiet hg hm hk hb hp hd) fun σ H Q ⟨r, S, Xs, sr, q⟩ => ?_
  simp only [ev, evAs, R.bind, lateAs] at q
  cases hi : (isIo As.nil == P.io f) with
  | false => simp only [hi, Bool.false_eq_true, if_false] at q; exact q.elim
  | true =>
    simp only [hi, if_true] at q
    exact call_read (as := .nil) (ds := []) (ds' := []) sr .refl ⟨rfl, rfl⟩ (by simp only [lateAs]) (beq_iff_eq.mp hi) rfl hn hlen q
end
end LW
end

section
set_option Elab.async false
set_option maxRecDepth 100000
set_option maxHeartbeats 1000000
/-! Sound10: statements. -/
namespace LW
open PySem
/-- the first parameter is never stored anew -/
def Fixed (fx : Option V) (σ : St) : Prop := ∀ v, fx = some v → σ[0]? = some (some v)
section
variable (G : Geo) (P : Prog) (own : Own) (rt : Nat) (fx : Option V)
/-- what is wanted behind a statement's run -/
def PostS (m : SR) (H : Hp) (S : Addr → Prop) (Xs : Parts) (D : L2.Ends) (W : WX) : Prop :=
  match m with
  | .nx r' => ∀ σ' H' S' Xs', Step S Xs H S' Xs' H' → StR G own r' σ' H' S' Xs' → Fixed fx σ' → D.nx σ' H'
  | .ret d r' => ∀ v σ' H' S' Xs' Y, Step S Xs H S' Xs' H' → StR G own r' σ' H' S' Xs' → Fixed fx σ' → Ow G S' H' rt d v Y → Fresh Y H' S' Xs' → (∀ a ∈ Y, inW Xs a ∨ H a = none) → D.rt v H'
  | .ex c fs r' => ∀ σ' H' S' Xs' dd, Step S Xs H S' Xs' H' → StR G own r' σ' H' S' Xs' → Fixed fx σ' → ExcAt G P H S' Xs' H' c fs dd → W (.ref (G.ca c)) dd σ' H'
  | .bad => False
def TS (m : Env → SR) (W : WX) : L2.TS := fun D σ H => ∃ r S Xs, StR G own r σ H S Xs ∧ Fixed fx σ ∧ PostS G P own rt fx (m r) H S Xs D W
end
section
variable {G : Geo} {P : Prog} {own : Own} {rt : Nat} {fx : Option V} {call : Nat → List D → CR} {wf : Nat} {X : L2.Cx} {W : WX} {pos : Pos} {ret : Nat → Nat}
section
variable {H : Hp} {S : Addr → Prop} {Xs : Parts} {D : L2.Ends} {m : SR} {f : Env → SR}
theorem PostS.rebase {H0 : Hp} {S0 : Addr → Prop} {Xs0 : Parts} (h : PostS G P own rt fx m H0 S0 Xs0 D W) (t0 : Step S0 Xs0 H0 S Xs H) : PostS G P own rt fx m H S Xs D W := by
  cases m with
  | bad => exact h
  | nx r => exact fun σ' H' S' Xs' t s x => h σ' H' S' Xs' (t0.trans t) s x
  | ret d r => exact fun v σ' H' S' Xs' Y t s x o fr g => h v σ' H' S' Xs' Y (t0.trans t) s x o fr (gback t0 g)
  | ex c fs r => exact fun σ' H' S' Xs' dd t s x e => h σ' H' S' Xs' dd (t0.trans t) s x (e.base t0)
theorem PostS.bind (h : PostS G P own rt fx (m.bind f) H S Xs D W) : PostS G P own rt fx m H S Xs { D with nx := fun σ' H' => ∃ r' S' Xs', StR G own r' σ' H' S' Xs' ∧ Fixed fx σ' ∧ PostS G P own rt fx (f r') H' S' Xs' D W } W := by
  cases m with
  | bad => exact h
  | nx r =>
    intro σ' H' S' Xs' t s x
    exact ⟨r, S', Xs', s, x, PostS.rebase (show PostS G P own rt fx (f r) H S Xs D W from h) t⟩
  | ret d r => exact h
  | ex c fs r => exact h
/-- an expression ahead of the rest -/
theorem PostS.sr {α β : Type} {A : Rel α β} {m : R α} {f : α → Env → SR} {σ : St} (hx : Fixed fx σ) {H0 : Hp} {S0 : Addr → Prop} {Xs0 : Parts} (h : PostS G P own rt fx (m.sr f) H0 S0 Xs0 D W) (t0 : Step S0 Xs0 H0 S Xs H) :
    Post G P own A m σ H S Xs (fun v H1 => ∃ a r1 S1 Xs1 X1, Step S Xs H S1 Xs1 H1 ∧ StR G own r1 σ H1 S1 Xs1 ∧ A a v X1 H1 S1 ∧ Fresh X1 H1 S1 Xs1 ∧ (∀ x ∈ X1, inW Xs x ∨ H x = none) ∧ PostS G P own rt fx (f a r1) H0 S0 Xs0 D W) W := by
  cases m with
  | bad => exact h
  | ex c fs r => exact fun H2 S2 Xs2 dd t2 s2 x2 => h σ H2 S2 Xs2 dd (t0.trans t2) s2 hx (x2.base t0)
  | ok a r => exact fun v H1 S1 Xs1 X1 t1 s1 a1 f1 g1 => ⟨a, r, S1, Xs1, X1, t1, s1, a1, f1, g1, h⟩
end
theorem Ow.noexc {n : Nat} {c : Nat} {fs : List D} {v : V} {Y : List Addr} {S : Addr → Prop} {H : Hp} (o : Ow G S H n (.exc c fs) v Y) : False := by
  cases n <;> cases o.1
/-- a store -/
theorem StR.store {r : Env} {σ : St} {H : Hp} {S : Addr → Prop} {Xs : Parts} (s : StR G own r σ H S Xs) {i : Nat} {d : D} {v : V} {Y : List Addr} (o : Ow G S H (own.getD i 0) d v Y) (f : Fresh Y H S Xs) :
    StR G own (r.set i (some d)) (σ.set i (some v)) H S (Xs.set i Y) ∧ ∀ {H0 : Hp} {S0 : Addr → Prop} {Xs0 : Parts}, Step S0 Xs0 H0 S Xs H → (∀ a ∈ Y, inW Xs0 a ∨ H0 a = none) → Step S0 Xs0 H0 S (Xs.set i Y) H := by
  have sub : ∀ a, inW (Xs.set i Y) a → inW Xs a ∨ a ∈ Y := fun a ⟨Z, hZ, ha⟩ => by
    rcases List.mem_or_eq_of_mem_set hZ with h | h
    · exact .inl ⟨Z, h, ha⟩
    · subst h; exact .inr ha
  refine ⟨⟨by simpa using s.len, by simpa using s.lenX, fun j d' e' => ?_, fun j c fs z => ?_, ⟨fun Z hZ => ?_, ?_⟩, fun a h w => ?_, s.dom, fun a w => ?_⟩, fun {H0 S0 Xs0} t g => ⟨t.fr, t.dom, t.tup, t.sS, t.oS, fun a w => ?_⟩⟩
  · by_cases hj : j = i
    · subst hj
      have hi : j < r.length := by simpa using rd_lt e'
      obtain rfl := rd_self e'
      refine ⟨v, by rw [List.getElem?_set_self (by rw [← s.len]; exact hi)], ?_⟩
      rw [show (Xs.set j Y).getD j [] = Y by rw [List.getD_eq_getElem?_getD, List.getElem?_set_self (by rw [s.lenX]; exact hi)]; rfl]
      exact o
    · rw [rd_ne hj] at e'
      obtain ⟨w, h1, h2⟩ := s.slot j d' e'
      refine ⟨w, by rw [List.getElem?_set_ne (Ne.symm hj)]; exact h1, ?_⟩
      rw [show (Xs.set i Y).getD j [] = Xs.getD j [] by rw [List.getD_eq_getElem?_getD, List.getD_eq_getElem?_getD, List.getElem?_set_ne (Ne.symm hj)]]
      exact h2
  · by_cases hj : j = i
    · subst hj
      rw [List.getElem?_set] at z
      simp at z
      obtain ⟨_, rfl⟩ := z
      exact (Ow.noexc o).elim
    · rw [List.getElem?_set_ne (Ne.symm hj)] at z
      obtain ⟨w, h1, h2⟩ := s.xsl j c fs z
      exact ⟨w, by rw [List.getElem?_set_ne (Ne.symm hj)]; exact h1, h2⟩
  · rcases List.mem_or_eq_of_mem_set hZ with h | h
    · exact s.nod.1 Z h
    · subst h; exact f.nod
  · rw [List.pairwise_iff_getElem]
    intro j k hj hk hjk x hx1 hx2
    have hj' : j < Xs.length := by simpa using hj
    have hk' : k < Xs.length := by simpa using hk
    rw [List.getElem_set] at hx1 hx2
    split at hx1
    · rename_i h1
      split at hx2
      · omega
      · exact f.disW x hx1 ⟨_, List.getElem_mem hk', hx2⟩
    · split at hx2
      · exact f.disW x hx2 ⟨_, List.getElem_mem hj', hx1⟩
      · exact List.pairwise_iff_getElem.mp s.nod.2 j k hj' hk' hjk x hx1 hx2
  · rcases sub a w with z | z
    · exact s.dis a h z
    · exact f.disS a z h
  · rcases sub a w with z | z
    · exact s.domW a z
    · exact f.dom a z
  · rcases sub a w with z | z
    · exact t.oW a z
    · exact g a z
theorem Fixed.set {σ : St} (h : Fixed fx σ) {i : Nat} {v : Option V} (hi : fx = none ∨ i ≠ 0) : Fixed fx (σ.set i v) := fun u e => by
  rcases hi with hi | hi
  · rw [hi] at e; cases e
  · rw [List.getElem?_set_ne hi]; exact h u e
/-! ### blocks -/
abbrev TSs (G : Geo) (P : Prog) (own : Own) (rt : Nat) (fx : Option V) (call : Nat → List D → CR) (wf : Nat) (ss : Ss) (W : WX) : L2.TS := TS G P own rt fx (exs P call wf ss) W
abbrev TS1 (G : Geo) (P : Prog) (own : Own) (rt : Nat) (fx : Option V) (call : Nat → List D → CR) (wf : Nat) (s : LW.S) (W : WX) : L2.TS := TS G P own rt fx (ex P call wf s) W
theorem ss_nil : L2.PSs X [] (TSs G P own rt fx call wf .nil W) := by
  refine pss_conseq L2.pss_nil fun D σ H ⟨r, S, Xs, s, x, q⟩ => ?_
  exact q σ H S Xs .refl s x
theorem ss_cons {s : LW.S} {ss : Ss} {p : PySem.Stmt} {ps : List PySem.Stmt} (h1 : L2.PS X p (TS1 G P own rt fx call wf s W)) (h2 : L2.PSs X ps (TSs G P own rt fx call wf ss W)) : L2.PSs X (p :: ps) (TSs G P own rt fx call wf (.cons s ss) W) := by
  refine pss_conseq (L2.pss_cons h1 h2) fun D σ H ⟨r, S, Xs, sr, x, q⟩ => ⟨r, S, Xs, sr, x, ?_⟩
  simp only [exs] at q
  exact q.bind
/-! ### small statements -/
theorem x_pass : L2.PS X (.Pass pos) (TS1 G P own rt fx call wf .pass W) := by
  refine ps_conseq L2.ps_pass fun D σ H ⟨r, S, Xs, s, x, q⟩ => ?_
  exact q σ H S Xs .refl s x
theorem x_set {i n : Nat} {x : Str} {e : E} {p : PySem.Expr} {pos' : Pos} (hN : X.N.Nodup) (hi : X.N[i]? = some x) (hl : L2.Loc X.env.scope x) (he : L2.PE X p (TE G P own call n e W)) (hs : swapsWith p (some (.Name x pos')) pos.line X.env = pure false)
    (hf : X.fn x = true ∨ X.env.scope.names.lookup x = some .local) (hn : n = own.getD i 0) (h0 : fx = none ∨ i ≠ 0) : L2.PS X (.Assign [.Name x pos'] p pos) (TS1 G P own rt fx call wf (.set i e) W) := by
  subst hn
  refine ps_conseq (L2.ps_set hN hi hl he hs hf) fun D σ H ⟨r, S, Xs, s, fxs, q⟩ => ⟨r, S, Xs, s, ?_⟩
  simp only [ex] at q
  refine (q.sr fxs .refl).mono fun v H1 ⟨d, r1, S1, Xs1, Y1, t1, s1, a1, f1, g1, q1⟩ => ?_
  obtain ⟨s2, k⟩ := s1.store a1 f1
  exact q1 _ H1 S1 _ (k t1 g1) s2 (fxs.set h0)
theorem x_ex {e : E} {p : PySem.Expr} (he : L2.PE X p (TE G P own call 0 e W)) (hs : swapsWith p none pos.line X.env = pure false) : L2.PS X (.Expr p pos) (TS1 G P own rt fx call wf (.ex e) W) := by
  refine ps_conseq (L2.ps_expr he hs) fun D σ H ⟨r, S, Xs, s, fxs, q⟩ => ⟨r, S, Xs, s, ?_⟩
  simp only [ex] at q
  refine (q.sr (A := AirE G 0) fxs .refl).mono fun v H1 ⟨d, r1, S1, Xs1, Y1, t1, s1, a1, f1, g1, q1⟩ => ?_
  exact q1 σ H1 S1 Xs1 t1 s1 fxs
theorem x_ret {e : E} {p : PySem.Expr} (he : L2.PE X p (TE G P own call rt e W)) : L2.PS X (.Return (some p) pos) (TS1 G P own rt fx call wf (.ret e) W) := by
  refine ps_conseq (L2.ps_ret he) fun D σ H ⟨r, S, Xs, s, fxs, q⟩ => ⟨r, S, Xs, s, ?_⟩
  simp only [ex] at q
  refine (q.sr (A := AirE G rt) fxs .refl).mono fun v H1 ⟨d, r1, S1, Xs1, Y1, t1, s1, a1, f1, g1, q1⟩ => ?_
  exact q1 v σ H1 S1 Xs1 Y1 t1 s1 fxs a1 f1 g1
theorem x_retN : L2.PS X (.Return none pos) (TS1 G P own rt fx call wf .retN W) := by
  refine ps_conseq L2.ps_retN fun D σ H ⟨r, S, Xs, s, fxs, q⟩ => ?_
  exact q .non σ H S Xs [] .refl s fxs (.flat .non rfl) .nil (fun _ z => nomatch z)
theorem x_ite {c : E} {a b : Ss} {pc : PySem.Expr} {pa pb : List PySem.Stmt} (hc : L2.PT X pc (TT G P own call c W)) (ha : L2.PSs X pa (TSs G P own rt fx call wf a W)) (hb : L2.PSs X pb (TSs G P own rt fx call wf b W)) : L2.PS X (.If pc pa pb pos) (TS1 G P own rt fx call wf (.ite c a b) W) := by
  refine ps_conseq (L2.ps_if hc ha hb) fun D σ H ⟨r, S, Xs, s, fxs, q⟩ => ⟨r, S, Xs, s, ?_⟩
  have q' : PostS G P own rt fx ((tst P call c r).sr fun k r1 => if k then exs P call wf a r1 else exs P call wf b r1) H S Xs D W := by
    have e : ex P call wf (.ite c a b) r = (tst P call c r).sr fun k r1 => if k then exs P call wf a r1 else exs P call wf b r1 := by
      simp only [tst, ex]
      cases ev P call c r with
      | bad => rfl
      | ex c fs r1 => rfl
      | ok d r1 =>
        simp only [R.bind, R.sr]
        cases truth d with
        | none => rfl
        | some c => cases c <;> rfl
    rw [← e]; exact q
  refine (q'.sr (A := AirBo) fxs .refl).mono fun b H1 ⟨d, r1, S1, Xs1, Y1, t1, s1, a1, f1, g1, q1⟩ => ?_
  have := a1.1
  subst this
  cases d with
  | true => exact ⟨r1, S1, Xs1, s1, fxs, q1.rebase t1⟩
  | false => exact ⟨r1, S1, Xs1, s1, fxs, q1.rebase t1⟩
theorem x_whl {c : E} {b : Ss} {pc : PySem.Expr} {pb : List PySem.Stmt} (hp : PassesOwn (model X.prog X.w) X.A X.env X.xe) (hc : L2.PT X pc (TT G P own call c W)) (hb : L2.PSs X pb (TSs G P own rt fx call wf b W)) : L2.PS X (.While pc pb [] pos) (TS1 G P own rt fx call wf (.whl c b) W) := by
  refine ps_conseq (L2.ps_while hp hc hb) fun D σ H ⟨r, S, Xs, s, fxs, q⟩ => ?_
  simp only [ex] at q
  refine ⟨fun m σ H => ∃ r S Xs, StR G own r σ H S Xs ∧ Fixed fx σ ∧ PostS G P own rt fx (loopW (fun r => ev P call c r) (fun r => exs P call wf b r) m r) H S Xs D W, ⟨wf, r, S, Xs, s, fxs, q⟩, fun m σ H ⟨r, S, Xs, s, fxs, q⟩ => ⟨r, S, Xs, s, ?_⟩⟩
  cases m with
  | zero => exact q.elim
  | succ m =>
    simp only [loopW] at q
    have q' : PostS G P own rt fx ((tst P call c r).sr fun k r1 => if k then (exs P call wf b r1).bind (fun r2 => loopW (fun r => ev P call c r) (fun r => exs P call wf b r) m r2) else .nx r1) H S Xs D W := by
      have e : ((ev P call c r).sr fun d r1 => match truth d with | some true => (exs P call wf b r1).bind fun r2 => loopW (fun r => ev P call c r) (fun r => exs P call wf b r) m r2 | some false => .nx r1 | none => .bad) =
          (tst P call c r).sr fun k r1 => if k then (exs P call wf b r1).bind (fun r2 => loopW (fun r => ev P call c r) (fun r => exs P call wf b r) m r2) else .nx r1 := by
        simp only [tst]
        cases ev P call c r with
        | bad => rfl
        | ex c fs r1 => rfl
        | ok d r1 =>
          simp only [R.bind, R.sr]
          cases truth d with
          | none => rfl
          | some c => cases c <;> rfl
      rw [← e]; exact q
    refine (q'.sr (A := AirBo) fxs .refl).mono fun k H1 ⟨d, r1, S1, Xs1, Y1, t1, s1, a1, f1, g1, q1⟩ => ?_
    have := a1.1
    subst this
    cases d with
    | false => exact q1 σ H1 S1 Xs1 t1 s1 fxs
    | true =>
      simp only [if_true] at q1 ⊢
      refine ⟨fun σ' H' => ∃ r S Xs, StR G own r σ' H' S Xs ∧ Fixed fx σ' ∧ PostS G P own rt fx (loopW (fun r => ev P call c r) (fun r => exs P call wf b r) m r) H' S Xs D W, fun σ' H' h => ⟨m, Nat.lt_succ_self m, h⟩, r1, S1, Xs1, s1, fxs, ?_⟩
      have q2 := (q1.rebase t1).bind
      revert q2
      cases exs P call wf b r1 with
      | bad => exact fun q => q
      | nx r2 => exact fun q => q
      | ret d r2 => exact fun q => q
      | ex c fs r2 => exact fun q => q
end
end LW
end

section
set_option Elab.async false
set_option maxRecDepth 100000
set_option maxHeartbeats 1000000
/-! Sound11: targets, what is walked, for. -/
namespace LW
open PySem
section
variable {G : Geo} {P : Prog} {own : Own} {rt : Nat} {fx : Option V} {call : Nat → List D → CR} {wf : Nat} {X : L2.Cx} {W : WX} {pos : Pos} {ret : Nat → Nat}
/-! ### targets -/
def TGr (G : Geo) (own : Own) (tg : Tg) : L2.TG := fun v σ H Q => ∃ d r S Xs r', StR G own r σ H S Xs ∧ Rep G S H d v ∧ stTg tg d r = some r' ∧
  ∀ σ' Xs', StR G own r' σ' H S Xs' → Step S Xs H S Xs' H → σ'.length = σ.length → (∀ j, j ∉ tgIds tg → σ'[j]? = σ[j]?) → Q σ' H
def TGsr (G : Geo) (own : Own) (tgs : List Tg) : L2.TGs := fun vs σ H Q => ∃ ds r S Xs r', StR G own r σ H S Xs ∧ Reps G S H ds vs ∧ stTgs tgs ds r = some r' ∧
  ∀ σ' Xs', StR G own r' σ' H S Xs' → Step S Xs H S Xs' H → σ'.length = σ.length → (∀ j, j ∉ tgsIds tgs → σ'[j]? = σ[j]?) → Q σ' H
theorem pg_conseq {e : PySem.Expr} {t u : L2.TG} (h : L2.PG X e t) (k : ∀ v σ H Q, u v σ H Q → t v σ H Q) : L2.PG X e u := ⟨fun pins s σ H v w Q I r q => h.run pins s σ H v w Q I r (k v σ H Q q)⟩
theorem pgs_conseq {e : List PySem.Expr} {t u : L2.TGs} (h : L2.PGs X e t) (k : ∀ v σ H Q, u v σ H Q → t v σ H Q) : L2.PGs X e u := ⟨fun pins s σ H v w Q I r q => h.run pins s σ H v w Q I r (k v σ H Q q)⟩
theorem g_name {i : Nat} {x : Str} (hN : X.N.Nodup) (hi : X.N[i]? = some x) (hx : L2.Loc X.env.scope x) (hf : X.fn x = true ∨ X.env.scope.names.lookup x = some .local) (ho : own.getD i 0 = 0) : L2.PG X (.Name x pos) (TGr G own (.v i)) := by
  refine pg_conseq (L2.pg_name hN hi hx hf) fun v σ H Q ⟨d, r, S, Xs, r', s, rep, e, k⟩ => ?_
  simp only [stTg] at e
  cases e
  obtain ⟨s2, k2⟩ := s.store (i := i) (Y := []) (by rw [ho]; exact ⟨rep, rfl⟩) .nil
  refine k _ _ s2 (k2 .refl fun _ z => nomatch z) (by simp) fun j hj => ?_
  simp only [tgIds, List.mem_singleton] at hj
  rw [List.getElem?_set_ne (Ne.symm hj)]
theorem g_nil : L2.PGs X [] (TGsr G own []) := by
  refine pgs_conseq L2.pgs_nil fun vs σ H Q ⟨ds, r, S, Xs, r', s, rep, e, k⟩ => ?_
  cases ds with
  | nil =>
    cases rep
    simp only [stTgs] at e
    cases e
    exact ⟨rfl, k σ Xs s .refl rfl fun _ _ => rfl⟩
  | cons d ds => simp only [stTgs] at e; cases e
theorem assignEach_ok {e : PySem.Expr} {es : List PySem.Expr} {env : PySem.Env} (h : isStar e = false) : assignEach (e :: es) env = (false, assign e env) :: assignEach es env := by
  cases e <;> first | rfl | (simp [isStar] at h; done)
theorem g_cons {t : Tg} {ts : List Tg} {p : PySem.Expr} {ps : List PySem.Expr} (h1 : L2.PG X p (TGr G own t)) (h2 : L2.PGs X ps (TGsr G own ts)) (hs : isStar p = false) : L2.PGs X (p :: ps) (TGsr G own (t :: ts)) := by
  refine pgs_conseq (L2.pgs_cons h1 h2 (by rw [assignEach_ok hs]; rfl)) fun vs σ H Q ⟨ds, r, S, Xs, r', s, rep, e, k⟩ => ?_
  cases ds with
  | nil => simp only [stTgs] at e; cases e
  | cons d ds =>
    simp only [stTgs] at e
    cases rep with
    | cons q qs =>
      cases e1 : stTg t d r with
      | none => rw [e1] at e; cases e
      | some r1 =>
        rw [e1] at e
        refine ⟨_, _, rfl, d, r, S, Xs, r1, s, q, e1, fun σ1 Xs1 s1 t1 l1 k1 => ⟨ds, r1, S, Xs1, r', s1, qs, e, fun σ2 Xs2 s2 t2 l2 k2 => ?_⟩⟩
        refine k σ2 Xs2 s2 (t1.trans t2) (l2.trans l1) fun j hj => ?_
        simp only [tgsIds, List.mem_append, not_or] at hj
        rw [k2 j hj.2, k1 j hj.1]
theorem assignEach_len : ∀ {es : List PySem.Expr} {env : PySem.Env}, es.all (fun e => !isStar e) = true → (assignEach es env).length = es.length ∧ (assignEach es env).findIdx? (·.1) = none
  | [], _, _ => ⟨rfl, rfl⟩
  | e :: es, env, h => by
    simp only [List.all_cons, Bool.and_eq_true, Bool.not_eq_true'] at h
    obtain ⟨h1, h2⟩ := assignEach_len (env := env) h.2
    rw [assignEach_ok h.1]
    refine ⟨by simp [h1], ?_⟩
    rw [List.findIdx?_cons]
    simp [h2]
theorem stTgs_len : ∀ {ts : List Tg} {ds : List D} {r r' : Env}, stTgs ts ds r = some r' → ds.length = ts.length
  | [], [], _, _, _ => rfl
  | [], _ :: _, _, _, h => by simp only [stTgs] at h; cases h
  | _ :: _, [], _, _, h => by simp only [stTgs] at h; cases h
  | t :: ts, d :: ds, r, r', h => by
    simp only [stTgs] at h
    cases e1 : stTg t d r with
    | none => rw [e1] at h; cases h
    | some r1 => rw [e1] at h; simp [stTgs_len h]
theorem g_tup {ts : List Tg} {ps : List PySem.Expr} {k : Nat} (hc : X.calm = true) (h : L2.PGs X ps (TGsr G own ts)) (hs : ps.all (fun e => !isStar e) = true) (hl : ps.length = ts.length) : L2.PG X (.Tuple ps k pos) (TGr G own (.t ts)) := by
  obtain ⟨l1, l2⟩ := assignEach_len (env := X.env) hs
  refine pg_conseq (L2.pg_tup (n := ts.length) hc h (by rw [l1, hl]) l2) fun v σ H Q ⟨d, r, S, Xs, r', s, rep, e, k⟩ => ?_
  cases d <;> simp only [stTg] at e <;> try (cases e; done)
  cases rep with
  | tup ha ra =>
    refine ⟨_, _, rfl, .of ha, by rw [← ra.length, stTgs_len e], _, r, S, Xs, r', s, ra, e, fun σ' Xs' s' t' l' k' => k σ' Xs' s' t' l' fun j hj => k' j (by simpa only [tgIds] using hj)⟩

/-! ### what is walked -/
/-- the iterator J gives the items xs, from the state (S0, Xs0, H0) on -/
structure ItOk (G : Geo) (J : L2.It) (xs : List D) (S0 : Addr → Prop) (Xs0 : Parts) (H0 : Hp) : Prop where
  item : ∀ {S : Addr → Prop} {Xs : Parts} {H : Hp}, Step S0 Xs0 H0 S Xs H → (∀ a, S a → ¬ inW Xs a) → ∀ i d, xs[i]? = some d → J.go i H ∧ ∀ x H', J.yld i H x H' → Step S Xs H S Xs H' ∧ (∀ a o, H a = some o → H' a = some o) ∧ Rep G S H' d x
  stop : ∀ {S : Addr → Prop} {Xs : Parts} {H : Hp}, Step S0 Xs0 H0 S Xs H → J.stop xs.length H
/-- the parts without what is lent to a walk -/
def lendX (it : It) (Xs : Parts) : Parts := match it with
  | .e (.bor i) => Xs.set i []
  | _ => Xs
variable (G P own call) in
/-- a walk's beginning -/
def TIr (it : It) (W : WX) : L2.TI := fun σ H R => ∃ r S Xs, StR G own r σ H S Xs ∧ match evIt P call it r with
  | .ok xs r' => ∀ J H' S' Xs', Step S Xs H S' Xs' H' → StR G own r' σ H' S' Xs' → ItOk G J xs S' (lendX it Xs') H' → R J H'
  | .ex c fs r' => ∀ H' S' Xs' dd, Step S Xs H S' Xs' H' → StR G own r' σ H' S' Xs' → ExcAt G P H S' Xs' H' c fs dd → W (.ref (G.ca c)) dd σ H'
  | .bad => False
theorem pi_conseq {tg e : PySem.Expr} {t u : L2.TI} (h : L2.PI X tg e t) (k : ∀ σ H R, u σ H R → t σ H R) : L2.PI X tg e u := ⟨fun pins s σ H R I q => h.run pins s σ H R I (k σ H R q)⟩
/-- a list that nobody changes meanwhile -/
theorem itOk_list {xs : List D} {vs : List V} {a : Addr} {S : Addr → Prop} {Xs : Parts} {H : Hp} (h : H a = some (.lst vs)) (hw : ¬ inW Xs a) (r : Reps G S H xs vs) (dis : ∀ a, S a → ¬ inW Xs a) : ItOk G (L2.Itl G.K a) xs S Xs H where
  item := fun {S' Xs' H'} t dis' i d e => by
    have h' := t.fr a _ h hw
    obtain ⟨v, e1, q⟩ := r.get e
    have q' := q.step t dis
    refine ⟨⟨vs, v, .of h', e1⟩, fun x H2 y => ?_⟩
    obtain ⟨rfl, y⟩ := y
    have := y vs (.of h')
    rw [e1] at this
    cases this
    exact ⟨.refl, fun _ _ z => z, q'⟩
  stop := fun {S' Xs' H'} t => ⟨vs, .of (t.fr a _ h hw), by rw [r.length]; exact Nat.le_refl _⟩
theorem itOk_tup {xs : List D} {vs : List V} {a : Addr} {S : Addr → Prop} {Xs : Parts} {H : Hp} (h : H a = some (.tup vs)) (r : Reps G S H xs vs) (dis : ∀ a, S a → ¬ inW Xs a) : ItOk G (L2.Itt G.K a) xs S Xs H where
  item := fun {S' Xs' H'} t dis' i d e => by
    have h' := t.tup a _ h
    obtain ⟨v, e1, q⟩ := r.get e
    have q' := q.step t dis
    refine ⟨⟨vs, v, .of h', e1⟩, fun x H2 y => ?_⟩
    obtain ⟨rfl, y⟩ := y
    have := y vs (.of h')
    rw [e1] at this
    cases this
    exact ⟨.refl, fun _ _ z => z, q'⟩
  stop := fun {S' Xs' H'} t => ⟨vs, .of (t.tup a _ h), by rw [r.length]; exact Nat.le_refl _⟩
theorem itOk_str {s : List Nat} {S : Addr → Prop} {Xs : Parts} {H : Hp} : ItOk G (L2.Its ⟨s.toArray⟩) (s.map fun c => .str [c]) S Xs H where
  item := fun {S' Xs' H'} t dis' i d e => by
    rw [List.getElem?_map] at e
    cases e1 : s[i]? with
    | none => rw [e1] at e; cases e
    | some c =>
      rw [e1] at e; cases e
      have hi : i < s.length := by
        rcases Nat.lt_or_ge i s.length with h | h
        · exact h
        · rw [List.getElem?_eq_none h] at e1; cases e1
      refine ⟨by show i < s.toArray.size; simpa using hi, fun x H2 y => ?_⟩
      obtain ⟨rfl, c', h1, rfl⟩ := y
      have : c' = c := by
        have h1 : s[i]? = some c' := by simpa using h1
        rw [e1] at h1; cases h1; rfl
      subst this
      exact ⟨.refl, fun _ _ z => z, .str [c']⟩
  stop := fun {S' Xs' H'} t => by show s.toArray.size ≤ (s.map _).length; simp
theorem rangeL_get : ∀ (n : Nat) (a c : Int) (i : Nat), i < n → (rangeL a n c)[i]? = some (.int (a + i * c))
  | n + 1, a, c, 0, _ => by simp [rangeL]
  | n + 1, a, c, i + 1, h => by
    simp only [rangeL, List.getElem?_cons_succ]
    rw [rangeL_get n (a + c) c i (by omega)]
    congr 2
    push_cast
    rw [Int.add_mul]
    omega
theorem rangeL_len : ∀ (n : Nat) (a c : Int), (rangeL a n c).length = n
  | 0, _, _ => rfl
  | n + 1, a, c => by simp [rangeL, rangeL_len n]
theorem itOk_range {lo : Int} {n : Nat} {S : Addr → Prop} {Xs : Parts} {H : Hp} : ItOk G (L2.Itr lo n) (rangeL lo n 1) S Xs H where
  item := fun {S' Xs' H'} t dis' i d e => by
    have hi : i < n := by
      rcases Nat.lt_or_ge i n with h | h
      · exact h
      · rw [List.getElem?_eq_none (by rw [rangeL_len]; exact h)] at e; cases e
    rw [rangeL_get n lo 1 i hi] at e
    cases e
    refine ⟨hi, fun x H2 y => ?_⟩
    obtain ⟨rfl, rfl⟩ := y
    rw [Int.mul_one]
    exact ⟨.refl, fun _ _ z => z, .int _⟩
  stop := fun {S' Xs' H'} t => by show n ≤ _; rw [rangeL_len]; exact Nat.le_refl _
theorem itOk_rangeC {lo c : Int} {n : Nat} {S : Addr → Prop} {Xs : Parts} {H : Hp} : ItOk G (L2.Itc lo c n) (rangeL lo n c) S Xs H where
  item := fun {S' Xs' H'} t dis' i d e => by
    have hi : i < n := by
      rcases Nat.lt_or_ge i n with h | h
      · exact h
      · rw [List.getElem?_eq_none (by rw [rangeL_len]; exact h)] at e; cases e
    rw [rangeL_get n lo c i hi] at e
    cases e
    refine ⟨hi, fun x H2 y => ?_⟩
    obtain ⟨rfl, rfl⟩ := y
    exact ⟨.refl, fun _ _ z => z, .int _⟩
  stop := fun {S' Xs' H'} t => by show n ≤ _; rw [rangeL_len]; exact Nat.le_refl _
/-! ### for -/
theorem loopF_cons (step : D → Env → SR) (x : D) (xs : List D) (r : Env) : loopF step (x :: xs) r = (step x r).bind fun r1 => loopF step xs r1 := rfl
theorem x_for {tg : Tg} {it : It} {b : Ss} {pt pi : PySem.Expr} {pb : List PySem.Stmt} (hp : PassesOwn (model X.prog X.w) X.A X.env X.xe) (hc : X.calm = true) (hi : L2.PI X pt pi (TIr G P own call it W)) (hg : L2.PG X pt (TGr G own tg)) (hb : L2.PSs X pb (TSs G P own rt fx call wf b W))
    (hs : ∀ x, foldedSetIterable pi X.env x = pure x) (h0 : fx = none ∨ 0 ∉ tgIds tg) (hit : ∀ i, it ≠ .e (.bor i)) : L2.PS X (.For pt pi pb [] pos) (TS1 G P own rt fx call wf (.for tg it b) W) := by
  refine ps_conseq (L2.ps_for hp hc hi hg hb hs) fun D σ H ⟨r, S, Xs, s, fxs, q⟩ => ⟨r, S, Xs, s, ?_⟩
  simp only [ex] at q
  cases ei : evIt P call it r with
  | bad => rw [ei] at q; exact q
  | ex c fs r1 => rw [ei] at q; exact fun H' S' Xs' dd t s' x => q σ H' S' Xs' dd t s' fxs x
  | ok xs r1 =>
    rw [ei] at q
    intro J H1 S1 Xs1 t1 s1 ok
    have hlx : lendX it Xs1 = Xs1 := by unfold lendX; split <;> first | rfl | exact absurd rfl (hit _)
    rw [hlx] at ok
    change PostS G P own rt fx (loopF (fun x r2 => match stTg tg x r2 with | some r3 => exs P call wf b r3 | none => .bad) xs r1) H S Xs D W at q
    generalize hstep : (fun x r2 => match stTg tg x r2 with | some r3 => exs P call wf b r3 | none => SR.bad) = step at q
    refine ⟨fun i m σ H => m = xs.length - i ∧ i ≤ xs.length ∧ ∃ r S Xs, StR G own r σ H S Xs ∧ Fixed fx σ ∧ Step S1 Xs1 H1 S Xs H ∧ PostS G P own rt fx (loopF step (xs.drop i) r) H S Xs D W, ⟨xs.length, rfl, Nat.zero_le _, r1, S1, Xs1, s1, fxs, .refl, q.rebase t1⟩, ?_⟩
    rintro i m σ2 H2 ⟨rfl, hi, r2, S2, Xs2, s2, fx2, t2, q2⟩
    rcases Nat.lt_or_ge i xs.length with hlt | hge
    · obtain ⟨go, yl⟩ := ok.item t2 s2.dis i xs[i] (by rw [List.getElem?_eq_getElem hlt])
      refine .inr ⟨go, fun σ' H' => xs.length - (i + 1) = xs.length - (i + 1) ∧ i + 1 ≤ xs.length ∧ ∃ r S Xs, StR G own r σ' H' S Xs ∧ Fixed fx σ' ∧ Step S1 Xs1 H1 S Xs H' ∧ PostS G P own rt fx (loopF step (xs.drop (i + 1)) r) H' S Xs D W, fun σ' H' h => ⟨xs.length - (i + 1), by omega, h⟩, fun x H3 y => ?_⟩
      obtain ⟨t3, k3, rep⟩ := yl x H3 y
      have s3 : StR G own r2 σ2 H3 S2 Xs2 := s2.kept (fun _ h => h) (fun a o _ e => k3 a o e) (fun a o e => k3 a _ e) (fun a o _ e => k3 a o e) fun a h => ⟨s2.dis a h, by
        obtain ⟨o, e⟩ := s2.dom a h
        exact ⟨o, k3 a o e⟩⟩
      rw [List.drop_eq_getElem_cons hlt, loopF_cons] at q2
      cases e4 : stTg tg xs[i] r2 with
      | none => rw [← hstep] at q2; simp only [e4] at q2; exact q2.elim
      | some r4 =>
        refine ⟨xs[i], r2, S2, Xs2, r4, s3, rep, e4, fun σ4 Xs4 s4 t4 l4 k4 => ?_⟩
        have fx4 : Fixed fx σ4 := fun v e => by
          rcases h0 with h0 | h0
          · rw [h0] at e; cases e
          · rw [k4 0 h0]; exact fx2 v e
        have e5 : step xs[i] r2 = exs P call wf b r4 := by rw [← hstep]; simp only [e4]
        rw [e5] at q2
        refine ⟨r4, S2, Xs4, s4, fx4, ?_⟩
        have q3 := q2.rebase (t3.trans t4)
        have t5 := (t2.trans t3).trans t4
        revert q3
        cases exs P call wf b r4 with
        | bad => exact fun q => q
        | ret d r5 => exact fun q => q
        | ex c fs r5 => exact fun q => q
        | nx r5 =>
          intro q3 σ' H' S' Xs' t6 s6 fx6
          exact ⟨rfl, hlt, r5, S', Xs', s6, fx6, t5.trans t6, PostS.rebase (show PostS G P own rt fx (loopF step (xs.drop (i + 1)) r5) H3 S2 Xs4 D W from q3) t6⟩
    · have e : i = xs.length := by omega
      subst e
      rw [List.drop_length] at q2
      exact .inl ⟨ok.stop t2, q2 σ2 H2 S2 Xs2 .refl s2 fx2⟩
end
end LW
end

section
set_option Elab.async false
set_option maxRecDepth 100000
set_option maxHeartbeats 1000000
/-! Sound12: comprehensions; sources of walks. -/
namespace LW
open PySem
section
variable {G : Geo} {P : Prog} {own : Own} {rt : Nat} {fx : Option V} {call : Nat → List D → CR} {wf : Nat} {X : L2.Cx} {W : WX} {pos : Pos} {ret : Nat → Nat}
section
variable {r : Env} {σ : St} {H : Hp} {S : Addr → Prop} {Xs : Parts}
/-- a slot is forgotten -/
theorem StR.forget (s : StR G own r σ H S Xs) (i : Nat) (x : Option V) : StR G own (r.set i none) (σ.set i x) H S Xs := by
  refine ⟨by simpa using s.len, by simpa using s.lenX, fun j d e => ?_, fun j c fs e => ?_, s.nod, s.dis, s.dom, s.domW⟩
  · by_cases hj : j = i
    · subst hj
      rw [rd_none] at e; cases e
    · rw [rd_ne hj] at e
      rw [List.getElem?_set_ne (Ne.symm hj)]
      exact s.slot j d e
  · by_cases hj : j = i
    · subst hj
      rw [List.getElem?_set] at e
      simp at e
    · rw [List.getElem?_set_ne (Ne.symm hj)] at e ⊢
      exact s.xsl j c fs e
theorem StR.wipe (s : StR G own r σ H S Xs) : ∀ l : List Nat, StR G own (wipeI r l) (L2.wipe σ l) H S Xs
  | [] => s
  | i :: l => (StR.wipe s l).forget i none
end
/-- the slots l as they stand in σ0 -/
def unw (σ0 σ : St) : List Nat → St
  | [] => σ
  | i :: l => (unw σ0 σ l).set i ((σ0[i]?).getD none)
theorem unw_len (σ0 σ : St) : ∀ l : List Nat, (unw σ0 σ l).length = σ.length
  | [] => rfl
  | i :: l => by simp [unw, unw_len σ0 σ l]
theorem unw_get (σ0 σ : St) (hl : σ0.length = σ.length) : ∀ (l : List Nat) (j : Nat), (unw σ0 σ l)[j]? = if j ∈ l then σ0[j]? else σ[j]?
  | [], j => by simp [unw]
  | i :: l, j => by
    rw [unw]
    by_cases hj : j = i
    · subst hj
      rw [if_pos List.mem_cons_self]
      rcases Nat.lt_or_ge j σ0.length with h | h
      · rw [List.getElem?_set_self (by rw [unw_len, ← hl]; exact h), List.getElem?_eq_getElem h]
        rfl
      · rw [List.getElem?_eq_none h, List.getElem?_eq_none (by simp [unw_len]; omega)]
    · rw [List.getElem?_set_ne (Ne.symm hj), unw_get σ0 σ hl l j]
      simp [hj]
theorem wipe_get (σ : St) : ∀ (l : List Nat) (j : Nat), j ∉ l → (L2.wipe σ l)[j]? = σ[j]?
  | [], j, _ => rfl
  | i :: l, j, h => by
    simp only [List.mem_cons, not_or] at h
    rw [L2.wipe, List.getElem?_set_ne (Ne.symm h.1), wipe_get σ l j h.2]
theorem unw_wipe (σ : St) (l : List Nat) : unw σ (L2.wipe σ l) l = σ := by
  apply List.ext_getElem?
  intro j
  rw [unw_get σ _ (by rw [L2.wipe_length])]
  split
  · rfl
  · rename_i h; exact wipe_get σ l j h
/-- the slots that a block had for itself are given back -/
theorem StR.back {r0 r : Env} {σ0 σ : St} {H0 H : Hp} {S0 S : Addr → Prop} {Xs0 Xs : Parts} (s0 : StR G own r0 σ0 H0 S0 Xs0) (s : StR G own r σ H S Xs) {Xsm : Parts} (t : Step S0 Xsm H0 S Xs H) (dis : ∀ a, S0 a → ¬ inW Xsm a) : ∀ l : List Nat, (∀ i ∈ l, own.getD i 0 = 0) →
    ∃ Xs', StR G own (LW.back r0 r l) (unw σ0 σ l) H S Xs' ∧ ∀ {H1 : Hp} {S1 : Addr → Prop} {Xs1 : Parts}, Step S1 Xs1 H1 S Xs H → Step S1 Xs1 H1 S Xs' H
  | [], _ => ⟨Xs, s, fun h => h⟩
  | i :: l, ho => by
    obtain ⟨Xs', s', k⟩ := StR.back s0 s t dis l fun j hj => ho j (List.mem_cons_of_mem _ hj)
    rw [LW.back, unw]
    cases e : rd r0 i with
    | none => exact ⟨Xs', s'.forget i _, k⟩
    | some d =>
      obtain ⟨v, hv, o⟩ := s0.slot i d e
      rw [ho i List.mem_cons_self] at o
      have o' := o.1.step t dis
      rw [hv]
      obtain ⟨s2, k2⟩ := s'.store (i := i) (d := d) (v := v) (Y := []) (by rw [ho i List.mem_cons_self]; exact ⟨o', rfl⟩) .nil
      exact ⟨_, s2, fun h => k2 (k h) fun _ z => nomatch z⟩
theorem back_len (r0 r : Env) : ∀ l : List Nat, (LW.back r0 r l).length = r.length
  | [] => rfl
  | i :: l => by simp [LW.back, back_len r0 r l]
theorem back_get (r0 r : Env) : ∀ (l : List Nat) (j : Nat), (LW.back r0 r l)[j]? = if j ∈ l then (if j < r.length then some (rd r0 j) else none) else r[j]?
  | [], j => by simp [LW.back]
  | i :: l, j => by
    rw [LW.back]
    by_cases hj : i = j
    · subst hj
      rw [List.getElem?_set]
      simp [back_len]
    · rw [List.getElem?_set_ne hj, back_get r0 r l j]
      simp [Ne.symm hj]
theorem wipeI_len (r : Env) : ∀ l : List Nat, (wipeI r l).length = r.length
  | [] => rfl
  | i :: l => by simp [wipeI, wipeI_len r l]
theorem wipeI_get (r : Env) : ∀ (l : List Nat) (j : Nat), j ∉ l → (wipeI r l)[j]? = r[j]?
  | [], j, _ => rfl
  | i :: l, j, h => by
    simp only [List.mem_cons, not_or] at h
    rw [wipeI, List.getElem?_set_ne (Ne.symm h.1), wipeI_get r l j h.2]
theorem back_wipe (r0 r : Env) (l : List Nat) : LW.back r0 (wipeI r l) l = LW.back r0 r l := by
  apply List.ext_getElem?
  intro j
  rw [back_get, back_get, wipeI_len]
  split
  · rfl
  · rename_i h; exact wipeI_get r l j h
theorem Reps.ows {S : Addr → Prop} {H : Hp} : ∀ {ds : List D} {vs : List V}, Reps G S H ds vs → Ows (Ow G S H 0) ds vs []
  | _, _, .nil => ⟨rfl, rfl⟩
  | _, _, .cons h r => ⟨_, _, [], [], rfl, ⟨h, rfl⟩, Reps.ows r, rfl⟩
/-! ### a comprehension -/
theorem loopC_len (step : D → Env → R (Option D)) : ∀ (xs acc : List D) (r : Env) (ds : List D) (r' : Env), loopC step xs acc r = .ok ds r' → acc.length ≤ ds.length
  | [], acc, r, ds, r', h => by simp only [loopC] at h; cases h; exact Nat.le_refl _
  | x :: xs, acc, r, ds, r', h => by
    simp only [loopC] at h
    cases e : step x r with
    | bad => rw [e] at h; cases h
    | ex c fs r1 => rw [e] at h; cases h
    | ok o r1 =>
      rw [e] at h
      cases o with
      | none => exact loopC_len step xs acc r1 ds r' h
      | some d =>
        have := loopC_len step xs (acc ++ [d]) r1 ds r' h
        simp at this
        omega
def stepC (P : Prog) (call : Nat → List D → CR) (e : E) (tg : Tg) (cs : Es) : D → Env → R (Option D) := fun x r2 => match stTg tg x (wipeI r2 (tgIds tg)) with
  | some r3 => (evConds P call cs r3).bind fun b r4 => if b then (ev P call e r4).bind fun d r5 => .ok (some d) r5 else .ok none r4
  | none => .bad
def TCs (G : Geo) (P : Prog) (own : Own) (call : Nat → List D → CR) (cs : Es) (W : WX) : L2.TT := TR G P own AirBo (evConds P call cs) W
theorem pts_conseq {e : List PySem.Expr} {t u : L2.TT} (h : L2.PTs X e t) (k : ∀ σ H Q, u σ H Q → t σ H Q) : L2.PTs X e u := ⟨fun pins s σ H Q I q => h.run pins s σ H Q I (k σ H Q q)⟩
theorem c_nil : L2.PTs X [] (TCs G P own call .nil W) := by
  refine pts_conseq L2.pts_nil fun σ H Q ⟨r, S, Xs, s, q⟩ => ?_
  simp only [evConds] at q
  exact q.bo .refl s
theorem c_one {e : E} {p : PySem.Expr} (h : L2.PT X p (TT G P own call e W)) : L2.PTs X [p] (TCs G P own call (.cons e .nil) W) := by
  refine pts_conseq (L2.pts_one h) fun σ H Q ⟨r, S, Xs, s, q⟩ => ⟨r, S, Xs, s, ?_⟩
  have e1 : evConds P call (.cons e .nil) r = tst P call e r := by
    simp only [evConds, tst]
    cases ev P call e r with
    | bad => rfl
    | ex c fs r1 => rfl
    | ok d r1 =>
      simp only [R.bind]
      cases truth d with
      | none => rfl
      | some c => cases c <;> rfl
  rw [e1] at q
  exact q
/-- quiet: nothing is raised -/
abbrev W0 : WX := fun _ _ _ _ => False
theorem Post.quiet {α β : Type} {A : Rel α β} {m : R α} {σ : St} {H : Hp} {S : Addr → Prop} {Xs : Parts} {Q : β → Hp → Prop} {γ δ : Type} {B : Rel γ δ} {f : α → Env → R γ} {Qq : δ → Hp → Prop} {σ0 : St} {H0 : Hp} {S0 : Addr → Prop} {Xs0 : Parts}
    (h : Post G P own B ((R.quiet m).bind f) σ0 H0 S0 Xs0 Qq W) (k : ∀ a r v H' S' Xs' X', m = .ok a r → Step S Xs H S' Xs' H' → StR G own r σ H' S' Xs' → A a v X' H' S' → Fresh X' H' S' Xs' → (∀ x ∈ X', inW Xs x ∨ H x = none) → Q v H') : Post G P own A m σ H S Xs Q W0 := by
  cases m with
  | bad => exact h
  | ex c fs r => exact h.elim
  | ok a r => exact fun v H' S' Xs' X' t s x f g => k a r v H' S' Xs' X' rfl t s x f g
theorem loopC_cons (step : D → Env → R (Option D)) (x : D) (xs acc : List D) (r : Env) : loopC step (x :: xs) acc r = (step x r).bind fun o r1 => match o with | some d => loopC step xs (acc ++ [d]) r1 | none => loopC step xs acc r1 := rfl
theorem quiet_bind {α β : Type} (m : R α) (f : α → Env → R β) : R.quiet (m.bind f) = (R.quiet m).bind fun a r => R.quiet (f a r) := by cases m <;> rfl
theorem bind_assoc {α β γ : Type} (m : R α) (f : α → Env → R β) (g : β → Env → R γ) : (m.bind f).bind g = m.bind fun a r => (f a r).bind g := by cases m <;> rfl
/-- the places of a target's names, as a block's own -/
theorem s_comp {e : E} {tg : Tg} {it : It} {cs : Es} {pe pt pi : PySem.Expr} {pcs : List PySem.Expr} {scope : Scope} {ow : List (Str × Nat)} (hc : X.calm = true) (hN : X.N.Nodup) (hi : L2.PI X pt pi (TIr G P own call it W)) (hit : ∀ i, it = .e (.bor i) → i ∉ tgIds tg) (ok : L2.BlkOk X.N X.env.scope scope ow) (how : ow.map (·.2) = tgIds tg)
    (hg : ∀ (s : Shared) (H : Hp) (C : Addr) (cl : List (Str × Addr)) (fp : List Addr), L2.PG (X.blk s H scope (compEnvC scope cl C X.env) fp) pt (TGr G own tg))
    (ht : ∀ (s : Shared) (H : Hp) (C : Addr) (cl : List (Str × Addr)) (fp : List Addr), L2.PTs (X.blk s H scope (compEnvC scope cl C X.env) fp) pcs (TCs G P own call cs W0))
    (he : ∀ (s : Shared) (H : Hp) (C : Addr) (cl : List (Str × Addr)) (fp : List Addr), L2.PE (X.blk s H scope (compEnvC scope cl C X.env) fp) pe (TE G P own call 0 e W0))
    (hs : ∀ x, foldedSetIterable pi X.env x = pure x) (ho : ∀ i ∈ tgIds tg, own.getD i 0 = 0) : L2.PE X (.ListComp pe [⟨pt, pi, pcs, 0⟩] scope pos) (TE G P own call 1 (.comp e tg it cs) W) := by
  refine pe_conseq (L2.pe_lc hc hN hi ok hg ht he hs) fun σ H Q ⟨r, S, Xs, s, q⟩ => ⟨r, S, Xs, s, ?_⟩
  rw [how]
  simp only [ev] at q
  cases ei : evIt P call it r with
  | bad => rw [ei] at q; exact q
  | ex c fs r1 => rw [ei] at q; exact q
  | ok xs r1 =>
    rw [ei] at q
    intro J H1 S1 Xs1 t1 s1 ok1 Dl hD
    change Post G P own (AirE G 1) ((R.quiet (loopC (stepC P call e tg cs) xs [] (lend it r1))).bind fun ds r6 => if lim ds then .ok (.lst ds) (back r1 (unlend it r1 r6) (tgIds tg)) else .bad) σ H S Xs Q W at q
    generalize hfin : (fun (ds : List D) (r6 : Env) => if lim ds then R.ok (D.lst ds) (back r1 (unlend it r1 r6) (tgIds tg)) else .bad) = fin at q
    -- what is lent stands apart meanwhile
    obtain ⟨sl, tl, lent⟩ : StR G own (lend it r1) σ H1 S1 (lendX it Xs1) ∧ Step S1 Xs1 H1 S1 (lendX it Xs1) H1 ∧
        ∀ {H2 : Hp} {S2 : Addr → Prop} {Xs2 Xs' : Parts} {r2 : Env}, Step S1 (lendX it Xs1) H1 S2 Xs2 H2 → Step S1 (lendX it Xs1) H1 S2 Xs' H2 → StR G own (back r1 r2 (tgIds tg)) σ H2 S2 Xs' →
          ∃ Xs'', StR G own (back r1 (unlend it r1 r2) (tgIds tg)) σ H2 S2 Xs'' ∧ Step S1 Xs1 H1 S2 Xs'' H2 ∧ ∀ a, H1 a = none → ¬ inW Xs' a → ¬ inW Xs'' a := by
      have triv : lend it r1 = r1 → lendX it Xs1 = Xs1 → (∀ r0 r, unlend it r0 r = r) → StR G own (lend it r1) σ H1 S1 (lendX it Xs1) ∧ Step S1 Xs1 H1 S1 (lendX it Xs1) H1 ∧
        ∀ {H2 : Hp} {S2 : Addr → Prop} {Xs2 Xs' : Parts} {r2 : Env}, Step S1 (lendX it Xs1) H1 S2 Xs2 H2 → Step S1 (lendX it Xs1) H1 S2 Xs' H2 → StR G own (back r1 r2 (tgIds tg)) σ H2 S2 Xs' →
          ∃ Xs'', StR G own (back r1 (unlend it r1 r2) (tgIds tg)) σ H2 S2 Xs'' ∧ Step S1 Xs1 H1 S2 Xs'' H2 ∧ ∀ a, H1 a = none → ¬ inW Xs' a → ¬ inW Xs'' a := fun e1 e2 e3 => by
        rw [e1, e2]
        refine ⟨s1, .refl, fun {H2 S2 Xs2 Xs' r2} t t' s => ⟨Xs', ?_, t', fun a _ h => h⟩⟩
        rw [e3]; exact s
      by_cases hb : ∃ i, it = .e (.bor i)
      · obtain ⟨i, rfl⟩ := hb
        have hni := hit i rfl
        have e1 : ∃ d, rd r1 i = some d := by
          simp only [evIt, ev, getV] at ei
          cases e2 : rd r i with
          | none => rw [e2] at ei; cases ei
          | some d =>
              rw [e2] at ei
              simp only [R.bind, R.of] at ei
              cases e3 : iterOf d with
              | none => rw [e3] at ei; cases ei
              | some ys => rw [e3] at ei; cases ei; exact ⟨d, e2⟩
        obtain ⟨d, e1⟩ := e1
        obtain ⟨v, hv, o, s', f, t, g⟩ := s1.give e1
        refine ⟨s', t, fun {H2 S2 Xs2 Xs' r2} t2 t2' s2 => ?_⟩
        have eb : back r1 (unlend (.e (.bor i)) r1 r2) (tgIds tg) = (back r1 r2 (tgIds tg)).set i (some d) := by
          apply List.ext_getElem?
          intro j
          show (back r1 (r2.set i (rd r1 i)) (tgIds tg))[j]? = _
          rw [e1, back_get, List.length_set]
          by_cases hj : i = j
          · subst hj
            rw [if_neg hni, List.getElem?_set]
            simp [back_len, List.getElem?_set]
          · rw [List.getElem?_set_ne hj, List.getElem?_set_ne hj, back_get]
        have o2 := Ow.step o f t2' s'.dis
        have f2 := f.step t2'
        obtain ⟨s3, k3⟩ := s2.store (i := i) (d := d) (v := v) o2 f2
        have es : σ.set i (some v) = σ := by
          apply List.ext_getElem?
          intro j
          by_cases hj : i = j
          · subst hj
            rw [List.getElem?_set]
            rw [if_pos rfl]
            rcases Nat.lt_or_ge i σ.length with h | h
            · rw [if_pos h, hv]
            · rw [List.getElem?_eq_none h] at hv; cases hv
          · rw [List.getElem?_set_ne hj]
        rw [es] at s3
        refine ⟨_, by rw [eb]; exact s3, k3 (t.trans t2') fun a ha => .inl (g a ha), fun a hn hw hw2 => ?_⟩
        obtain ⟨Y, hY, ha⟩ := hw2
        rcases List.mem_or_eq_of_mem_set hY with h | h
        · exact hw ⟨Y, h, ha⟩
        · subst h
          obtain ⟨u, e⟩ := s1.domW a (g a ha)
          rw [hn] at e; cases e
      · refine triv ?_ ?_ ?_
        · unfold lend; split <;> first | rfl | exact absurd ⟨_, rfl⟩ hb
        · unfold lendX; split <;> first | rfl | exact absurd ⟨_, rfl⟩ hb
        · intro r0 r; unfold unlend; split <;> first | rfl | exact absurd ⟨_, rfl⟩ hb
    generalize lend it r1 = r1l at q sl
    generalize lendX it Xs1 = Xl at ok1 sl tl lent
    -- the state of a turn
    let I : Nat → Nat → Hp → Prop := fun i m H' => m = xs.length - i ∧ i ≤ xs.length ∧ ∃ r' S' Xs' acc vs, StR G own (wipeI r' (tgIds tg)) (L2.wipe σ (tgIds tg)) H' S' Xs' ∧ Step S1 Xl H1 S' Xs' H' ∧ H' Dl = some (.lst vs) ∧ Reps G S' H' acc vs ∧ ¬ S' Dl ∧ ¬ inW Xs' Dl ∧
      Post G P own (AirE G 1) ((R.quiet (loopC (stepC P call e tg cs) (xs.drop i) acc r')).bind fin) σ H S Xs Q W
    have lens : r1.length = σ.length := s1.len
    refine ⟨I, ⟨xs.length, rfl, Nat.zero_le _, r1l, S1, Xl, [], [], (sl.wipe _).alloc hD, step_alloc hD, L2.upd_same, .nil, sl.notS_new hD, sl.notW_new hD, q⟩, ?_⟩
    rintro i m H2 ⟨rfl, hi2, r2, S2, Xs2, acc, vs, s2, t2, hD2, ra2, nS2, nW2, q2⟩
    rcases Nat.lt_or_ge i xs.length with hlt | hge
    · obtain ⟨go, yl⟩ := ok1.item t2 s2.dis i xs[i] (by rw [List.getElem?_eq_getElem hlt])
      refine .inr ⟨go, I (i + 1) (xs.length - (i + 1)), fun H' h => ⟨xs.length - (i + 1), by omega, h⟩, fun x H3 y => ?_⟩
      obtain ⟨t3, k3, rep⟩ := yl x H3 y
      have s3 : StR G own (wipeI r2 (tgIds tg)) (L2.wipe σ (tgIds tg)) H3 S2 Xs2 := s2.kept (fun _ h => h) (fun a o _ e => k3 a o e) (fun a o e => k3 a _ e) (fun a o _ e => k3 a o e) fun a h => ⟨s2.dis a h, by
        obtain ⟨o, e⟩ := s2.dom a h
        exact ⟨o, k3 a o e⟩⟩
      rw [List.drop_eq_getElem_cons hlt, loopC_cons, quiet_bind, bind_assoc] at q2
      cases e4 : stTg tg xs[i] (wipeI r2 (tgIds tg)) with
      | none => simp only [stepC, e4] at q2; exact q2.elim
      | some r4 =>
        refine ⟨xs[i], _, S2, Xs2, r4, s3, rep, e4, fun σ4 Xs4 s4 t4 l4 k4 => ?_⟩
        have hw : L2.wipe σ4 (tgIds tg) = L2.wipe σ (tgIds tg) := by
          apply List.ext_getElem?
          intro j
          by_cases hj : j ∈ tgIds tg
          · have nn : ∀ (τ : St) (l : List Nat), j ∈ l → (L2.wipe τ l)[j]? = if j < τ.length then some none else none := by
              intro τ l
              induction l with
              | nil => intro h; cases h
              | cons a l ih =>
                intro h
                rw [L2.wipe]
                by_cases ha : a = j
                · subst ha
                  rw [List.getElem?_set]
                  simp [L2.wipe_length]
                · rw [List.getElem?_set_ne ha]
                  exact ih ((List.mem_cons.mp h).resolve_left (Ne.symm ha))
            rw [nn σ4 _ hj, nn σ _ hj, l4, L2.wipe_length]
          · rw [wipe_get σ4 _ j hj, wipe_get σ _ j hj, k4 j hj, wipe_get σ _ j hj]
        refine ⟨hw, r4, S2, Xs4, s4, ?_⟩
        simp only [stepC, e4] at q2
        have t34 := t3.trans t4
        have D4 : ∀ {H' S' Xs'}, Step S2 Xs4 H3 S' Xs' H' → H' Dl = some (.lst vs) ∧ Reps G S' H' acc vs ∧ ¬ S' Dl ∧ ¬ inW Xs' Dl := fun {H' S' Xs'} t => by
          have t' := t34.trans t
          have hx : H2 Dl ≠ none := by rw [hD2]; intro z; cases z
          exact ⟨t'.fr Dl _ hD2 nW2, ra2.step t' s2.dis, fun z => (t'.oS Dl z).elim nS2 fun z => z.elim nW2 hx, fun z => (t'.oW Dl z).elim nW2 hx⟩
        have q3 : Post G P own (AirE G 1) ((R.quiet (evConds P call cs r4)).bind fun b r5 => if b then (R.quiet (ev P call e r5)).bind fun d r6 => (R.quiet (loopC (stepC P call e tg cs) (xs.drop (i + 1)) (acc ++ [d]) r6)).bind fin
            else (R.quiet (loopC (stepC P call e tg cs) (xs.drop (i + 1)) acc r5)).bind fin) σ H S Xs Q W := by
          revert q2
          cases evConds P call cs r4 with
          | bad => exact fun z => z
          | ex c fs r5 => exact fun z => z
          | ok b r5 =>
            cases b with
            | false => exact fun z => z
            | true =>
              intro z
              show Post G P own (AirE G 1) ((R.quiet (ev P call e r5)).bind _) σ H S Xs Q W
              revert z
              show Post G P own (AirE G 1) ((R.quiet ((ev P call e r5).bind fun d r6 => R.ok (some d) r6)).bind _) σ H S Xs Q W → _
              cases ev P call e r5 with
              | bad => exact fun z => z
              | ex c fs r6 => exact fun z => z
              | ok d r6 => exact fun z => z
        refine Post.quiet (A := AirBo) (S := S2) (Xs := Xs4) (H := H3) (σ := σ4) q3 fun b r5 b' H5 S5 Xs5 X5 e5 t5 s5 a5 f5 g5 => ?_
        have a5 := a5.1
        subst a5
        rw [e5] at q3
        cases b with
        | false =>
          simp only [Bool.false_eq_true, if_false]
          obtain ⟨d1, d2, d3, d4⟩ := D4 t5
          refine ⟨rfl, hlt, r5, S5, Xs5, acc, vs, by rw [← hw]; exact s5.wipe _, ((t2.trans t34).trans t5), d1, d2, d3, d4, q3⟩
        | true =>
          simp only [if_true]
          have q4 : Post G P own (AirE G 1) ((R.quiet (ev P call e r5)).bind fun d r6 => (R.quiet (loopC (stepC P call e tg cs) (xs.drop (i + 1)) (acc ++ [d]) r6)).bind fin) σ H S Xs Q W := q3
          refine ⟨r5, S5, Xs5, s5, Post.quiet (A := AirE G 0) (S := S5) (Xs := Xs5) (H := H5) (σ := σ4) q4 fun d r6 v H6 S6 Xs6 X6 e6 t6 s6 a6 f6 g6 => ?_⟩
          rw [e6] at q4
          have q5 : Post G P own (AirE G 1) ((R.quiet (loopC (stepC P call e tg cs) (xs.drop (i + 1)) (acc ++ [d]) r6)).bind fin) σ H S Xs Q W := q4
          obtain ⟨d1, d2, d3, d4⟩ := D4 (t5.trans t6)
          have tw : ∀ a, a ≠ Dl → L2.upd H6 Dl (.lst (vs ++ [v])) a = H6 a := fun a h => L2.upd_ne h
          have kS : ∀ a o, S6 a → H6 a = some o → L2.upd H6 Dl (.lst (vs ++ [v])) a = some o := fun a o sa e => by rw [tw a (fun z => d3 (by rw [← z]; exact sa))]; exact e
          have kT : ∀ a ys, H6 a = some (.tup ys) → L2.upd H6 Dl (.lst (vs ++ [v])) a = some (.tup ys) := fun a ys e => by rw [tw a (fun z => by rw [z, d1] at e; cases e)]; exact e
          have kW : ∀ a o, inW Xs6 a → H6 a = some o → L2.upd H6 Dl (.lst (vs ++ [v])) a = some o := fun a o wa e => by rw [tw a (fun z => d4 (by rw [← z]; exact wa))]; exact e
          refine ⟨vs, d1, ?_, rfl, hlt, r6, S6, Xs6, acc ++ [d], vs ++ [v], ?_, ?_, L2.upd_same, ?_, d3, d4, q5⟩
          · have q6 := q5
            cases el : loopC (stepC P call e tg cs) (xs.drop (i + 1)) (acc ++ [d]) r6 with
            | bad => rw [el] at q6; exact q6.elim
            | ex c fs r7 => rw [el] at q6; exact q6.elim
            | ok ds r7 =>
              rw [el, ← hfin] at q6
              have h1 := loopC_len _ _ _ _ _ _ el
              have q7 : Post G P own (AirE G 1) (if lim ds then R.ok (D.lst ds) (back r1 (unlend it r1 r7) (tgIds tg)) else .bad) σ H S Xs Q W := q6
              cases hlm : lim ds with
              | false => simp only [hlm, Bool.false_eq_true, if_false] at q7; exact q7.elim
              | true =>
                have h2 := lim_le hlm
                have h3 := d2.length
                simp at h1
                omega
          · rw [← hw]
            exact (s6.wipe _).kept (fun _ h => h) kS kT kW fun a h => ⟨s6.dis a h, by
              obtain ⟨o, e⟩ := s6.dom a h
              exact ⟨o, kS a o h e⟩⟩
          · have t7 := (t2.trans t34).trans (t5.trans t6)
            refine ⟨fun a o e n => ?_, fun a e => ?_, fun a ys e => kT a ys (t7.tup a ys e), t7.sS, t7.oS, t7.oW⟩
            · rw [tw a (fun z => by rw [z, hD] at e; cases e)]; exact t7.fr a o e n
            · by_cases hz : a = Dl
              · rw [hz]; exact hD
              · rw [tw a hz] at e; exact t7.dom a e
          · exact (d2.mono (fun _ h => h) kS kT).append (.cons (a6.1.mono (fun _ h => h) kS kT) .nil)
    · have e0 : i = xs.length := by omega
      subst e0
      rw [List.drop_length] at q2
      refine .inl ⟨ok1.stop t2, ?_⟩
      have q3 : Post G P own (AirE G 1) (fin acc r2) σ H S Xs Q W := q2
      rw [← hfin] at q3
      cases hlm : lim acc with
      | false => simp only [hlm, Bool.false_eq_true, if_false] at q3; exact q3.elim
      | true =>
        simp only [hlm, if_true] at q3
        obtain ⟨Xs', s', k'⟩ := StR.back s1 s2 t2 sl.dis (tgIds tg) ho
        have eb := back_wipe r1 r2 (tgIds tg)
        rw [eb, unw_wipe] at s'
        have nW' : ¬ inW Xs' Dl := fun w => by
          have := (k' (Step.refl (S := S2) (Xs := Xs2) (H := H2))).oW Dl w
          rcases this with h | h
          · exact nW2 h
          · rw [hD2] at h; cases h
        obtain ⟨Xs'', s'', t'', n''⟩ := lent t2 (k' t2) s'
        refine q3 (.ref Dl) H2 S2 Xs'' [Dl] (t1.trans t'') s'' ⟨Dl, vs, [], rfl, hD2, ra2.ows, rfl⟩ ⟨by simp, fun a ha => by rw [List.mem_singleton.mp ha]; exact nS2, fun a ha => by rw [List.mem_singleton.mp ha]; exact n'' _ hD nW', fun a ha => by rw [List.mem_singleton.mp ha]; exact ⟨_, hD2⟩⟩ fun a ha => by
          rw [List.mem_singleton.mp ha]
          exact .inr (t1.dom _ hD)
end
end LW
end

section
set_option Elab.async false
set_option maxRecDepth 100000
set_option maxHeartbeats 1000000
/-! Sound13: the built-in functions' values. -/
namespace LW
open PySem
section
variable {G : Geo} {P : Prog} {own : Own} {W : WX}
section
variable {S : Addr → Prop} {H : Hp}
theorem RepTs.one {d : D} {vs : List V} (h : RepTs G S H [d] vs) : ∃ v, vs = [v] ∧ RepT G S H d v := by
  cases h with | cons h r => cases r; exact ⟨_, rfl, h⟩
theorem RepTs.two {d e : D} {vs : List V} (h : RepTs G S H [d, e] vs) : ∃ v w, vs = [v, w] ∧ RepT G S H d v ∧ RepT G S H e w := by
  cases h with | cons h r => cases r with | cons h2 r => cases r; exact ⟨_, _, rfl, h, h2⟩
theorem Reps.ints {ds : List D} {vs : List V} {ns : List Int} (r : Reps G S H ds vs) (h : intsOf ds = some ns) : vs = ns.map L2.V.int := by
  induction ds generalizing vs ns with
  | nil => cases r; cases h; rfl
  | cons d ds ih =>
    cases r with
    | cons h1 r =>
      cases d <;> try (cases h; done)
      rename_i i
      simp only [intsOf] at h
      cases e : intsOf ds with
      | none => rw [e] at h; cases h
      | some l =>
        rw [e] at h; cases h
        cases h1
        rw [ih r e]; rfl
theorem Reps.bools {ds : List D} {vs : List V} {ns : List Bool} (r : Reps G S H ds vs) (h : boolsOf ds = some ns) : vs = ns.map L2.V.bl := by
  induction ds generalizing vs ns with
  | nil => cases r; cases h; rfl
  | cons d ds ih =>
    cases r with
    | cons h1 r =>
      cases d <;> try (cases h; done)
      rename_i i
      simp only [boolsOf] at h
      cases e : boolsOf ds with
      | none => rw [e] at h; cases h
      | some l =>
        rw [e] at h; cases h
        cases h1
        rw [ih r e]; rfl
end
theorem maxI_spec : ∀ (l : List Int) (m : Int), (maxI m l = m ∨ maxI m l ∈ l) ∧ m ≤ maxI m l ∧ ∀ y ∈ l, y ≤ maxI m l
  | [], m => ⟨.inl rfl, Int.le_refl _, fun _ h => nomatch h⟩
  | x :: r, m => by
    obtain ⟨h1, h2, h3⟩ := maxI_spec r (if m < x then x else m)
    simp only [maxI]
    refine ⟨?_, ?_, fun y hy => ?_⟩
    · rcases h1 with h | h
      · rw [h]; split
        · exact .inr List.mem_cons_self
        · exact .inl rfl
      · exact .inr (List.mem_cons_of_mem _ h)
    · refine Int.le_trans ?_ h2
      split <;> omega
    · rcases List.mem_cons.mp hy with h | h
      · subst h
        refine Int.le_trans ?_ h2
        split <;> omega
      · exact h3 y h
theorem minI_spec : ∀ (l : List Int) (m : Int), (minI m l = m ∨ minI m l ∈ l) ∧ minI m l ≤ m ∧ ∀ y ∈ l, minI m l ≤ y
  | [], m => ⟨.inl rfl, Int.le_refl _, fun _ h => nomatch h⟩
  | x :: r, m => by
    obtain ⟨h1, h2, h3⟩ := minI_spec r (if x < m then x else m)
    simp only [minI]
    refine ⟨?_, ?_, fun y hy => ?_⟩
    · rcases h1 with h | h
      · rw [h]; split
        · exact .inr List.mem_cons_self
        · exact .inl rfl
      · exact .inr (List.mem_cons_of_mem _ h)
    · refine Int.le_trans h2 ?_
      split <;> omega
    · rcases List.mem_cons.mp hy with h | h
      · subst h
        refine Int.le_trans h2 ?_
        split <;> omega
      · exact h3 y h
theorem max_uniq {x : Int} {r : List Int} {m : Int} (h1 : m ∈ x :: r) (h2 : ∀ y ∈ x :: r, y ≤ m) : m = maxI x r := by
  obtain ⟨a, b, c⟩ := maxI_spec r x
  have h3 : maxI x r ∈ x :: r := a.elim (fun h => by rw [h]; exact List.mem_cons_self) (List.mem_cons_of_mem _)
  have h4 := h2 _ h3
  have h5 : m ≤ maxI x r := (List.mem_cons.mp h1).elim (fun h => by rw [h]; exact b) (c m)
  omega
theorem min_uniq {x : Int} {r : List Int} {m : Int} (h1 : m ∈ x :: r) (h2 : ∀ y ∈ x :: r, m ≤ y) : m = minI x r := by
  obtain ⟨a, b, c⟩ := minI_spec r x
  have h3 : minI x r ∈ x :: r := a.elim (fun h => by rw [h]; exact List.mem_cons_self) (List.mem_cons_of_mem _)
  have h4 := h2 _ h3
  have h5 : minI x r ≤ m := (List.mem_cons.mp h1).elim (fun h => by rw [h]; exact b) (c m)
  omega
theorem sumI_eq : ∀ l : List Int, sumI l = l.sum
  | [] => rfl
  | x :: r => by rw [sumI, List.sum_cons, sumI_eq r]
/-! ### the rules -/
theorem cb_abs {n : Nat} : CbOk G P own W n (biD .abs) (fun xs H Q => ∃ i, xs = [.int i] ∧ Q (.int (if i < 0 then -i else i)) H) := by
  intro ds d vs σ H H0 S S0 Xs Xs0 ρ Q s t r hd q
  rcases ds with _ | ⟨d1, _ | ⟨d2, ds⟩⟩ <;> try (cases hd; done)
  · obtain ⟨v, rfl, r1⟩ := r.one
    cases d1 <;> simp only [biD] at hd <;> try (cases hd; done)
    cases hd
    rw [r1.int_inv]
    exact ⟨_, rfl, q.int t s⟩
  · cases d1 <;> simp [biD] at hd
theorem cb_int {n : Nat} : CbOk G P own W n (biD .intOf) (fun xs H Q => (∃ i, xs = [.int i] ∧ Q (.int i) H) ∨ ∃ k, xs = [.bl k] ∧ Q (.int (if k then 1 else 0)) H) := by
  intro ds d vs σ H H0 S S0 Xs Xs0 ρ Q s t r hd q
  rcases ds with _ | ⟨d1, _ | ⟨d2, ds⟩⟩ <;> try (cases hd; done)
  · obtain ⟨v, rfl, r1⟩ := r.one
    cases d1 <;> simp only [biD] at hd <;> try (cases hd; done)
    · cases hd
      rw [r1.bl_inv]
      refine .inr ⟨_, rfl, ?_⟩
      exact q.int t s
    · cases hd
      rw [r1.int_inv]
      exact .inl ⟨_, rfl, q.int t s⟩
  · cases d1 <;> simp [biD] at hd
theorem cb_len {n : Nat} {K : PySem.W.Frag} (hK : K = G.K) : CbOk G P own W n (biD .len) (fun xs H Q => ∃ x n, xs = [x] ∧ L2.LenV K x H n ∧ Q (.int n) H) := by
  intro ds d vs σ H H0 S S0 Xs Xs0 ρ Q s t r hd q
  rcases ds with _ | ⟨d1, _ | ⟨d2, ds⟩⟩ <;> try (cases hd; done)
  · obtain ⟨v, rfl, r1⟩ := r.one
    cases d1 <;> simp only [biD] at hd <;> try (cases hd; done)
    · split at hd
      · rename_i hl
        cases hd
        rw [r1.str_inv]
        refine ⟨_, _, rfl, ⟨?_, rfl⟩, ?_⟩
        · have := lim_le hl
          simpa [Str.length] using this
        · have := q.int t s
          simpa [Str.length] using this
      · cases hd
    · cases hd
      obtain ⟨a, vs, rfl, ha, ra⟩ := r1.tup_inv
      refine ⟨_, vs.length, rfl, .inr ⟨vs, .inl (.inl ha), rfl⟩, ?_⟩
      rw [← ra.length]; exact q.int t s
    · cases hd
      obtain ⟨a, vs, rfl, ha, ra⟩ := r1.lst_inv
      refine ⟨_, vs.length, rfl, .inl ⟨vs, .inl (.inl ha), rfl⟩, ?_⟩
      rw [← ra.length]; exact q.int t s
    · cases r1 with | sh r => cases r
    · cases hd
      obtain ⟨a, vs, rfl, ha, ra⟩ := r1.ro_inv
      rw [← hK] at ha
      refine ⟨_, vs.length, rfl, .inl ⟨vs, ha, rfl⟩, ?_⟩
      rw [← ra.length]; exact q.int t s
  · cases d1 <;> simp [biD] at hd
theorem cb_list (K : PySem.W.Frag) : CbOk G P own W 1 (biD .list) (fun xs H Q => ∃ p ys, xs = [.ref p] ∧ (L2.SqL K H p ys ∨ L2.SqT K H p ys) ∧ ∀ l, H l = none → Q (.ref l) (L2.upd H l (.lst ys))) := by
  intro ds d vs σ H H0 S S0 Xs Xs0 ρ Q s t r hd q
  rcases ds with _ | ⟨d1, _ | ⟨d2, ds⟩⟩ <;> try (cases hd; done)
  · obtain ⟨v, rfl, r1⟩ := r.one
    cases d1 <;> simp only [biD] at hd <;> try (cases hd; done)
    · cases hd
      obtain ⟨a, vs, rfl, ha, ra⟩ := r1.tup_inv
      exact ⟨a, vs, rfl, .inr (.inl (.inl ha)), fun p hp => q.newL t s ra hp⟩
    · cases hd
      obtain ⟨a, vs, rfl, ha, ra⟩ := r1.lst_inv
      exact ⟨a, vs, rfl, .inl (.inl (.inl ha)), fun p hp => q.newL t s ra hp⟩
    · cases r1 with | sh r => cases r
  · cases d1 <;> simp [biD] at hd
theorem cb_tuple {n : Nat} (K : PySem.W.Frag) : CbOk G P own W n (biD .tuple) (fun xs H Q => ∃ p ys, xs = [.ref p] ∧ ((L2.SqL K H p ys ∧ ∀ l, H l = none → Q (.ref l) (L2.upd H l (.tup ys))) ∨ (L2.SqT K H p ys ∧ Q (.ref p) H))) := by
  intro ds d vs σ H H0 S S0 Xs Xs0 ρ Q s t r hd q
  rcases ds with _ | ⟨d1, _ | ⟨d2, ds⟩⟩ <;> try (cases hd; done)
  · obtain ⟨v, rfl, r1⟩ := r.one
    cases d1 <;> simp only [biD] at hd <;> try (cases hd; done)
    · cases hd
      obtain ⟨a, vs, rfl, ha, ra⟩ := r1.tup_inv
      exact ⟨a, vs, rfl, .inr ⟨.inl (.inl ha), q.tup t s (.tup ha ra)⟩⟩
    · cases hd
      obtain ⟨a, vs, rfl, ha, ra⟩ := r1.lst_inv
      exact ⟨a, vs, rfl, .inl ⟨.inl (.inl ha), fun p hp => q.newT t s ra hp⟩⟩
    · cases r1 with | sh r => cases r
  · cases d1 <;> simp [biD] at hd
theorem cb_max {n : Nat} (K : PySem.W.Frag) : CbOk G P own W n (biD .max1) (L2.rMax K) := by
  intro ds d vs σ H H0 S S0 Xs Xs0 ρ Q s t r hd q
  rcases ds with _ | ⟨d1, _ | ⟨d2, ds⟩⟩ <;> try (cases hd; done)
  · obtain ⟨v, rfl, r1⟩ := r.one
    cases d1 <;> simp only [biD] at hd <;> try (cases hd; done)
    rename_i xs
    split at hd
    · rename_i x l e
      cases hd
      obtain ⟨a, vs, rfl, ha, ra⟩ := r1.lst_inv
      rw [ra.ints e] at ha
      refine ⟨a, _, rfl, .inl (.inl ha), by simp, fun m h1 h2 => ?_⟩
      rw [max_uniq h1 h2]
      exact q.int t s
    · cases hd
  · cases d1 <;> simp [biD] at hd
theorem cb_min {n : Nat} (K : PySem.W.Frag) : CbOk G P own W n (biD .min1) (L2.rMin K) := by
  intro ds d vs σ H H0 S S0 Xs Xs0 ρ Q s t r hd q
  rcases ds with _ | ⟨d1, _ | ⟨d2, ds⟩⟩ <;> try (cases hd; done)
  · obtain ⟨v, rfl, r1⟩ := r.one
    cases d1 <;> simp only [biD] at hd <;> try (cases hd; done)
    rename_i xs
    split at hd
    · rename_i x l e
      cases hd
      obtain ⟨a, vs, rfl, ha, ra⟩ := r1.lst_inv
      rw [ra.ints e] at ha
      refine ⟨a, _, rfl, .inl (.inl ha), by simp, fun m h1 h2 => ?_⟩
      rw [min_uniq h1 h2]
      exact q.int t s
    · cases hd
  · cases d1 <;> simp [biD] at hd
theorem cb_sum {n : Nat} (K : PySem.W.Frag) : CbOk G P own W n (biD .sum1) (L2.rSum K) := by
  intro ds d vs σ H H0 S S0 Xs Xs0 ρ Q s t r hd q
  rcases ds with _ | ⟨d1, _ | ⟨d2, ds⟩⟩ <;> try (cases hd; done)
  · obtain ⟨v, rfl, r1⟩ := r.one
    cases d1 <;> simp only [biD] at hd <;> try (cases hd; done)
    rename_i xs
    cases e : intsOf xs with
    | none => rw [e] at hd; cases hd
    | some l =>
      rw [e] at hd; cases hd
      obtain ⟨a, vs, rfl, ha, ra⟩ := r1.lst_inv
      rw [ra.ints e] at ha
      refine ⟨a, _, rfl, .inl (.inl ha), ?_⟩
      rw [← sumI_eq]
      exact q.int t s
  · cases d1 <;> simp [biD] at hd
theorem cb_any {n : Nat} (K : PySem.W.Frag) : CbOk G P own W n (biD .any) (L2.rAny K) := by
  intro ds d vs σ H H0 S S0 Xs Xs0 ρ Q s t r hd q
  rcases ds with _ | ⟨d1, _ | ⟨d2, ds⟩⟩ <;> try (cases hd; done)
  · obtain ⟨v, rfl, r1⟩ := r.one
    cases d1 <;> simp only [biD] at hd <;> try (cases hd; done)
    rename_i xs
    cases e : boolsOf xs with
    | none => rw [e] at hd; cases hd
    | some l =>
      rw [e] at hd; cases hd
      obtain ⟨a, vs, rfl, ha, ra⟩ := r1.lst_inv
      rw [ra.bools e] at ha
      exact ⟨a, _, rfl, .inl (.inl ha), q.bl t s⟩
  · cases d1 <;> simp [biD] at hd
theorem cb_all {n : Nat} (K : PySem.W.Frag) : CbOk G P own W n (biD .all) (L2.rAll K) := by
  intro ds d vs σ H H0 S S0 Xs Xs0 ρ Q s t r hd q
  rcases ds with _ | ⟨d1, _ | ⟨d2, ds⟩⟩ <;> try (cases hd; done)
  · obtain ⟨v, rfl, r1⟩ := r.one
    cases d1 <;> simp only [biD] at hd <;> try (cases hd; done)
    rename_i xs
    cases e : boolsOf xs with
    | none => rw [e] at hd; cases hd
    | some l =>
      rw [e] at hd; cases hd
      obtain ⟨a, vs, rfl, ha, ra⟩ := r1.lst_inv
      rw [ra.bools e] at ha
      exact ⟨a, _, rfl, .inl (.inl ha), q.bl t s⟩
  · cases d1 <;> simp [biD] at hd
theorem cb_max2 {n : Nat} : CbOk G P own W n (biD .max2) (fun xs H Q => ∃ i j, xs = [.int i, .int j] ∧ Q (.int (if j > i then j else i)) H) := by
  intro ds d vs σ H H0 S S0 Xs Xs0 ρ Q s t r hd q
  rcases ds with _ | ⟨d1, _ | ⟨d2, _ | ⟨d3, ds⟩⟩⟩ <;> try (cases hd; done)
  · cases d1 <;> simp [biD] at hd
  · obtain ⟨v, w, rfl, r1, r2⟩ := r.two
    cases d1 <;> cases d2 <;> simp only [biD] at hd <;> try (cases hd; done)
    cases hd
    rw [r1.int_inv, r2.int_inv]
    exact ⟨_, _, rfl, q.int t s⟩
  · cases d1 <;> cases d2 <;> simp [biD] at hd
theorem cb_min2 {n : Nat} : CbOk G P own W n (biD .min2) (fun xs H Q => ∃ i j, xs = [.int i, .int j] ∧ Q (.int (if j < i then j else i)) H) := by
  intro ds d vs σ H H0 S S0 Xs Xs0 ρ Q s t r hd q
  rcases ds with _ | ⟨d1, _ | ⟨d2, _ | ⟨d3, ds⟩⟩⟩ <;> try (cases hd; done)
  · cases d1 <;> simp [biD] at hd
  · obtain ⟨v, w, rfl, r1, r2⟩ := r.two
    cases d1 <;> cases d2 <;> simp only [biD] at hd <;> try (cases hd; done)
    cases hd
    rw [r1.int_inv, r2.int_inv]
    exact ⟨_, _, rfl, q.int t s⟩
  · cases d1 <;> cases d2 <;> simp [biD] at hd
end
end LW
end

section
set_option Elab.async false
set_option maxRecDepth 100000
set_option maxHeartbeats 1000000
/-! Sound14: slices, isinstance, list(range(..)). -/
namespace LW
open PySem
section
variable {G : Geo} {P : Prog} {own : Own} {call : Nat → List D → CR} {X : L2.Cx} {W : WX} {pos : Pos}
/-! ### slices -/
theorem Reps.cut {S : Addr → Prop} {H : Hp} {ds : List D} {vs : List V} (r : Reps G S H ds vs) (l h : Option Int) : Reps G S H (cut ds l h) (L2.cutV vs l h) := by
  have e : L2.cutV vs l h = (vs.drop (partI ds.length 0 l)).take (partI ds.length ds.length h - partI ds.length 0 l) := by
    rw [r.length]; rfl
  rw [e]
  exact (r.drop _).take _
abbrev rSlAll (K : PySem.W.Frag) : V → Option Int → Option Int → Hp → L2.VK → Prop := fun x l h H Q => L2.rSlL K x l h H Q ∨ L2.rSlA K x l h H Q ∨ L2.rSlS x l h H Q
theorem sl_all : L2.SlR X (rSlAll X.K) := .or L2.sl_list (.or L2.sl_tupA L2.sl_str)
def slP (a : D) (l h : Option Int) : Option D := match a with
  | .lst xs => some (.lst (cut xs l h))
  | .tup xs => some (.tup (cut xs l h))
  | .str xs => if lim xs then some (.str (cut xs l h)) else none
  | _ => none
theorem sl_ok {d d' : D} {l h : Option Int} {v : V} {σ : St} {H H0 : Hp} {S S0 : Addr → Prop} {Xs Xs0 : Parts} {ρ : Env} {Q : V → Hp → Prop} (K : PySem.W.Frag) (s : StR G own ρ σ H S Xs) (t : Step S0 Xs0 H0 S Xs H) (r : RepT G S H d v) (hd : slP d l h = some d')
    (q : Post G P own (AirE G 1) (.ok d' ρ) σ H0 S0 Xs0 Q W) : rSlAll K v l h H Q := by
  cases d <;> simp only [slP] at hd <;> try (cases hd; done)
  · split at hd
    · rename_i xs hl
      cases hd
      rw [r.str_inv]
      refine .inr (.inr ⟨_, rfl, ?_, ?_⟩)
      · have := lim_le hl
        simpa [Str.length] using this
      · have e : L2.cutS ⟨xs.toArray⟩ l h = ⟨(cut xs l h).toArray⟩ := by
          show (⟨((xs.toArray.toList.drop _).take _).toArray⟩ : Str) = _
          rfl
        rw [e]
        exact q.str t s
    · cases hd
  · rename_i xs
    cases hd
    obtain ⟨a, vs, rfl, ha, ra⟩ := r.tup_inv
    have rc := ra.cut l h
    refine .inr (.inl ⟨a, vs, rfl, .inl (.inl ha), fun ⟨z1, z2⟩ => ?_, fun _ p hp => q.newT t s rc hp⟩)
    have e : L2.cutV vs l h = vs := by
      unfold L2.cutV
      rw [z1, z2]
      simp
    rw [e] at rc
    exact q.tup t s (.tup ha rc)
  · rename_i xs
    cases hd
    obtain ⟨a, vs, rfl, ha, ra⟩ := r.lst_inv
    exact .inl ⟨a, vs, rfl, .inl (.inl ha), fun p hp => q.newL t s (ra.cut l h) hp⟩
theorem slcD_some {a d : D} {l h : Option D} (e : slcD a l h = some d) : ∃ lo hi, partOk l = some lo ∧ partOk h = some hi ∧ slP a lo hi = some d := by
  unfold slcD at e
  cases h1 : partOk l with
  | none => rw [h1] at e; cases e
  | some lo =>
    cases h2 : partOk h with
    | none => rw [h1, h2] at e; cases e
    | some hi =>
      rw [h1, h2] at e
      refine ⟨lo, hi, rfl, rfl, ?_⟩
      cases a <;> simpa only [slP] using e
theorem partOk_int {d : D} {lo : Option Int} (h : partOk (some d) = some lo) : ∃ i, d = .int i ∧ lo = some i := by
  cases d <;> simp only [partOk] at h <;> try (cases h; done)
  split at h
  · cases h; exact ⟨_, rfl, rfl⟩
  · cases h
/-- a part's value -/
theorem part_post {e : E} {r : Env} {σ : St} {H H0 : Hp} {S S0 : Addr → Prop} {Xs Xs0 : Parts} {Q : V → Hp → Prop} {f : D → Env → R D}
    {K : Option Int → Hp → Prop} (s : StR G own r σ H S Xs) (t : Step S0 Xs0 H0 S Xs H) (q : Post G P own (AirE G 1) ((ev P call e r).bind f) σ H0 S0 Xs0 Q W)
    (k : ∀ d r1 H1 S1 Xs1, Step S Xs H S1 Xs1 H1 → StR G own r1 σ H1 S1 Xs1 → Post G P own (AirE G 1) (f d r1) σ H0 S0 Xs0 Q W → ∃ i, d = .int i ∧ K (some i) H1) : L2.tPart (TE G P own call 0 e W) σ H K := by
  refine ⟨r, S, Xs, s, ?_⟩
  refine (q.bind (A := AirE G 0) t).mono fun v H1 ⟨d, r1, S1, Xs1, Y1, e1, t1, s1, a1, f1, g1, q1⟩ => ?_
  obtain ⟨i, rfl, z⟩ := k d r1 H1 S1 Xs1 t1 s1 q1
  have := a1.1
  cases this
  exact ⟨i, rfl, z⟩
theorem s_slL {a l : E} {pa pl : PySem.Expr} {p2 : Pos} (ha : L2.PE X pa (TO G P own call a W)) (hl : L2.PE X pl (TE G P own call 0 l W)) (oa : opd own a = true) : L2.PE X (.Subscript pa (.Slice (some pl) none none p2) pos) (TE G P own call 1 (.slL a l) W) := by
  refine pe_conseq (L2.pe_slice sl_all ha (L2.po_some hl) L2.po_none) fun σ H Q ⟨r, S, Xs, s, q⟩ => ⟨r, S, Xs, s, ?_⟩
  simp only [ev] at q
  refine (q.bind .refl).mono fun v H1 ⟨d, r1, S1, Xs1, Y1, e1, t1, s1, a1, f1, g1, q1⟩ => ?_
  refine part_post s1 t1 q1 fun y r2 H2 S2 Xs2 t2 s2 q2 => ?_
  obtain ⟨d', hd, q3⟩ := q2.of
  cases hl : late a d r2 with
  | none => rw [hl] at hd; cases hd
  | some x =>
    rw [hl] at hd
    obtain ⟨lo, hi, h1, h2, h3⟩ := slcD_some hd
    obtain ⟨i, rfl, rfl⟩ := partOk_int h1
    cases h2
    exact ⟨i, rfl, sl_ok X.K s2 (t1.trans t2) (a1.late s1.dis t2 s2 (opd_ok oa) hl) h3 q3⟩
theorem s_slH {a l : E} {pa pl : PySem.Expr} {p2 : Pos} (ha : L2.PE X pa (TO G P own call a W)) (hl : L2.PE X pl (TE G P own call 0 l W)) (oa : opd own a = true) : L2.PE X (.Subscript pa (.Slice none (some pl) none p2) pos) (TE G P own call 1 (.slH a l) W) := by
  refine pe_conseq (L2.pe_slice sl_all ha L2.po_none (L2.po_some hl)) fun σ H Q ⟨r, S, Xs, s, q⟩ => ⟨r, S, Xs, s, ?_⟩
  simp only [ev] at q
  refine (q.bind .refl).mono fun v H1 ⟨d, r1, S1, Xs1, Y1, e1, t1, s1, a1, f1, g1, q1⟩ => ?_
  show L2.tPart (TE G P own call 0 l W) σ H1 fun u H3 => rSlAll X.K v none u H3 Q
  refine part_post s1 t1 q1 fun y r2 H2 S2 Xs2 t2 s2 q2 => ?_
  obtain ⟨d', hd, q3⟩ := q2.of
  cases hl : late a d r2 with
  | none => rw [hl] at hd; cases hd
  | some x =>
    rw [hl] at hd
    obtain ⟨lo, hi, h1, h2, h3⟩ := slcD_some hd
    obtain ⟨i, rfl, rfl⟩ := partOk_int h2
    cases h1
    exact ⟨i, rfl, sl_ok X.K s2 (t1.trans t2) (a1.late s1.dis t2 s2 (opd_ok oa) hl) h3 q3⟩
theorem s_slLH {a l h : E} {pa pl ph : PySem.Expr} {p2 : Pos} (ha : L2.PE X pa (TO G P own call a W)) (hl : L2.PE X pl (TE G P own call 0 l W)) (hh : L2.PE X ph (TE G P own call 0 h W)) (oa : opd own a = true) : L2.PE X (.Subscript pa (.Slice (some pl) (some ph) none p2) pos) (TE G P own call 1 (.slLH a l h) W) := by
  refine pe_conseq (L2.pe_slice sl_all ha (L2.po_some hl) (L2.po_some hh)) fun σ H Q ⟨r, S, Xs, s, q⟩ => ⟨r, S, Xs, s, ?_⟩
  simp only [ev] at q
  refine (q.bind .refl).mono fun v H1 ⟨d, r1, S1, Xs1, Y1, e1, t1, s1, a1, f1, g1, q1⟩ => ?_
  refine part_post s1 t1 q1 fun y r2 H2 S2 Xs2 t2 s2 q2 => ?_
  cases hp : partOk (some y) with
  | none => simp only [hp] at q2; exact q2.elim
  | some lo =>
    simp only [hp, Option.isSome_some, if_true] at q2
    obtain ⟨i, rfl, rfl⟩ := partOk_int hp
    refine ⟨i, rfl, part_post s2 (t1.trans t2) q2 fun z r3 H3 S3 Xs3 t3 s3 q3 => ?_⟩
    obtain ⟨d', hd, q4⟩ := q3.of
    cases hl : late a d r3 with
    | none => rw [hl] at hd; cases hd
    | some x =>
      rw [hl] at hd
      obtain ⟨lo, hi, h1, h2, h3⟩ := slcD_some hd
      obtain ⟨j, rfl, rfl⟩ := partOk_int h2
      rw [hp] at h1
      cases h1
      exact ⟨j, rfl, sl_ok X.K s3 ((t1.trans t2).trans t3) (a1.late s1.dis (t2.trans t3) s3 (opd_ok oa) hl) h3 q4⟩
/-! ### isinstance -/
/-- a data value's type -/
def tyOf : D → String
  | .non => "NoneType"
  | .bl _ => "bool"
  | .int _ => "int"
  | .str _ => "str"
  | .tup _ => "tuple"
  | .lst _ => "list"
  | _ => ""
def tyName : Ty → String
  | .int => "int"
  | .bool => "bool"
  | .str => "str"
  | .list => "list"
  | .tuple => "tuple"
  | .dict => "dict"
  | .cls _ => ""
theorem tyx_of {d : D} {v : V} {S : Addr → Prop} {H : Hp} (r : Rep G S H d v) (h : tyOk d = true) : L2.TyX X.K H v (.type (tyOf d)) := by
  cases r <;> first | (simp [tyOk] at h; done) | skip
  · exact .base .non
  · exact .base (.bl _)
  · exact .base (.int _)
  · exact .base (.str _)
  · rename_i h1 _; exact .base (.tup h1)
  · rename_i h1 _; exact .base (.lst h1)
theorem kit_plain (d : D) (t : Ty) (h : tyOk d = true) (ht : tyPlain t = true) : L2.kitB (tyOf d) (tyName t) = some (isTy P d t) := by
  cases d <;> cases t <;> first | (simp [tyOk] at h; done) | (simp [tyPlain] at ht; done) | (simp only [isTy, tyOf, tyName]; decide +kernel)
end
end LW
end

section
set_option Elab.async false
set_option maxRecDepth 100000
set_option maxHeartbeats 1000000
/-! Sound15: isinstance, list(range(..)). -/
namespace LW
open PySem
section
variable {G : Geo} {P : Prog} {own : Own} {call : Nat → List D → CR} {X : L2.Cx} {W : WX} {pos : Pos}
def tyStr : Ty → Str
  | .int => "int"
  | .bool => "bool"
  | .str => "str"
  | .list => "list"
  | .tuple => "tuple"
  | .dict => "dict"
  | .cls _ => ""
theorem boot_ty {t : Ty} (h : tyPlain t = true) : bootBuiltins (tyStr t) = some (.type (tyName t)) := by
  cases t with
  | int => exact PyProof.Rows.boot_int
  | bool => exact PyProof.Rows.boot_bool
  | str => exact PyProof.Rows.boot_str
  | list => exact PyProof.Rows.boot_list
  | tuple => exact PyProof.Rows.boot_tuple
  | dict => exact PyProof.Rows.boot_dict
  | cls c => simp [tyPlain] at h
theorem ty_names {t : Ty} (h : tyPlain t = true) : tyStr t ≠ "__name__" ∧ (tyStr t == ("__debug__" : Str)) = false := by
  cases t <;> first | (simp [tyPlain] at h; done) | (constructor <;> decide)
theorem pe_ty {t : Ty} (h : tyPlain t = true) (hg : L2.Gl X (tyStr t)) (hm : X.mg (tyStr t) = none) : L2.PE X (.Name (tyStr t) pos) (L2.tC (.ty (tyName t))) :=
  L2.pe_bltn hg hm (boot_ty h) rfl (ty_names h).1 (ty_names h).2
/-- the names of types -/
inductive TysOk (X : L2.Cx) : List PySem.Expr → List Ty → Prop
  | nil : TysOk X [] []
  | cons {t : Ty} {pos : Pos} {ps : List PySem.Expr} {ts : List Ty} (h : tyPlain t = true) (hg : L2.Gl X (tyStr t)) (hm : X.mg (tyStr t) = none) (r : TysOk X ps ts) : TysOk X (.Name (tyStr t) pos :: ps) (t :: ts)
theorem pa_tys : ∀ {ps : List PySem.Expr} {ts : List Ty}, TysOk X ps ts → L2.PA X ps (fun σ H Q => Q (ts.map fun t => L2.V.ty (tyName t)) H)
  | _, _, .nil => L2.pa_nil
  | _, _, .cons h hg hm r => L2.pa_cons (pe_ty h hg hm) (pa_tys r)
theorem cls_all : ∀ ts : List Ty, Paired L2.ClsV (ts.map fun t => L2.V.ty (tyName t)) (ts.map fun t => Value.type (tyName t))
  | [] => .nil
  | t :: ts => .cons (.ty _) (cls_all ts)
theorem kit_all {d : D} (h : tyOk d = true) : ∀ ts : List Ty, ts.all tyPlain = true → PySem.W.kitAny X.K (.type (tyOf d)) (ts.map fun t => Value.type (tyName t)) = some (ts.any (isTy P d))
  | [], _ => rfl
  | t :: ts, ht => by
    simp only [List.all_cons, Bool.and_eq_true] at ht
    have h1 := L2.kit_ty (K := X.K) (kit_plain (P := P) d t h ht.1)
    simp only [List.map_cons, List.any_cons]
    refine L2.kitAny_cons h1 (fun e => ?_) fun e => by rw [e]; rfl
    rw [e, Bool.false_or]
    exact kit_all h ts ht.2
theorem tyx_t {d : D} {v : V} {S : Addr → Prop} {H : Hp} (r : RepT G S H d v) (h : tyOk d = true) : L2.TyX X.K H v (.type (tyOf d)) := by
  cases r with
  | sh r => exact tyx_of r h
  | lst h1 r => exact .base (.lst h1)
  | obj h1 hf r => simp [tyOk] at h
theorem isiD_some {ts : List Ty} {x d : D} (h : isiD P ts x = some d) : tyOk x = true ∧ ts.all tyPlain = true ∧ d = .bl (ts.any (isTy P x)) := by
  unfold isiD at h
  split at h
  · rename_i c
    cases h
    obtain ⟨a, b⟩ := Bool.and_eq_true_iff.mp c
    exact ⟨a, b, rfl⟩
  · cases h
theorem s_isi {n : Nat} {a : E} {t : Ty} {pa : PySem.Expr} {pf p2 : Pos} (hg : L2.Gl X "isinstance") (hm : X.mg "isinstance" = none) (ha : L2.PE X pa (TO G P own call a W)) (hs : isStar pa = false) (oa : opd own a = true) (ht : tyPlain t = true) (hg2 : L2.Gl X (tyStr t)) (hm2 : X.mg (tyStr t) = none) :
    L2.PE X (.Call (.Name "isinstance" pf) [pa, .Name (tyStr t) p2] [] pos) (TE G P own call n (.isi a [t]) W) := by
  refine pe_conseq (L2.pe_callB L2.call_isi hg hm PyProof.Rows.boot_isinstance (L2.pa_cons ha (L2.pa_cons (pe_ty ht hg2 hm2) L2.pa_nil) (starEach_ok hs)) (he := starEach_ok hs)) fun σ H Q ⟨r, S, Xs, s, q⟩ => ⟨r, S, Xs, s, ?_⟩
  simp only [ev] at q
  refine (q.bind .refl).mono fun v H1 ⟨d, r1, S1, Xs1, Y1, e1, t1, s1, a1, f1, g1, q1⟩ => ?_
  obtain ⟨d', hd, q2⟩ := q1.of
  cases hl : late a d r1 with
  | none => rw [hl] at hd; cases hd
  | some x =>
    rw [hl] at hd
    obtain ⟨h1, h2, rfl⟩ := isiD_some hd
    refine ⟨v, .ty (tyName t), .type (tyOf x), .type (tyName t), isTy P x t, rfl, .ty _, tyx_t (a1.late s1.dis .refl s1 (opd_ok oa) hl) h1, L2.kit_ty (kit_plain (P := P) x t h1 ht), ?_⟩
    have := q2.bl t1 s1
    simpa using this
theorem s_isiT {n k : Nat} {a : E} {ts : List Ty} {pa : PySem.Expr} {ps : List PySem.Expr} {pf p2 : Pos} (hg : L2.Gl X "isinstance") (hm : X.mg "isinstance" = none) (ha : L2.PE X pa (TO G P own call a W)) (hs : isStar pa = false) (oa : opd own a = true) (ht : TysOk X ps ts) (hl : ts.length ≤ 100) :
    L2.PE X (.Call (.Name "isinstance" pf) [pa, .Tuple ps k p2] [] pos) (TE G P own call n (.isiT a ts) W) := by
  refine pe_conseq (L2.pe_callB L2.call_isiT hg hm PyProof.Rows.boot_isinstance (L2.pa_cons ha (L2.pa_cons (L2.pe_tup (pa_tys ht)) L2.pa_nil) (starEach_ok hs)) (he := starEach_ok hs)) fun σ H Q ⟨r, S, Xs, s, q⟩ => ⟨r, S, Xs, s, ?_⟩
  simp only [ev] at q
  refine (q.bind .refl).mono fun v H1 ⟨d, r1, S1, Xs1, Y1, e1, t1, s1, a1, f1, g1, q1⟩ => ?_
  obtain ⟨d', hd, q2⟩ := q1.of
  cases hl : late a d r1 with
  | none => rw [hl] at hd; cases hd
  | some x =>
    rw [hl] at hd
    obtain ⟨h1, h2, rfl⟩ := isiD_some hd
    refine ⟨by rw [List.length_map, sizeLine_eq]; omega, fun p hp => ?_⟩
    have s2 := s1.alloc (o := .tup (ts.map fun t => L2.V.ty (tyName t))) hp
    have t2 : Step S1 Xs1 H1 S1 Xs1 _ := step_alloc (o := .tup (ts.map fun t => L2.V.ty (tyName t))) hp
    refine ⟨v, p, _, .type (tyOf x), _, _, rfl, L2.upd_same, cls_all ts, tyx_t (a1.late s1.dis t2 s2 (opd_ok oa) hl) h1, kit_all (P := P) h1 ts h2, q2.bl (t1.trans t2) s2⟩
/-! ### list(range(..)) -/
theorem ok_bind {α β : Type} (a : α) (r : Env) (f : α → Env → R β) : (R.ok a r).bind f = f a r := rfl
theorem Reps.range {S : Addr → Prop} {H : Hp} : ∀ (n : Nat) (a : Int), Reps G S H (rangeL a n 1) ((List.range n).map fun i => L2.V.int (a + (i : Nat)))
  | 0, _ => .nil
  | n + 1, a => by
    rw [List.range_succ_eq_map, List.map_cons, List.map_map]
    simp only [rangeL]
    have ih := Reps.range (S := S) (H := H) n (a + 1)
    refine .cons (by simpa using Rep.int a) ?_
    have e : ((fun i : Nat => L2.V.int (a + (i : Nat))) ∘ Nat.succ) = fun i : Nat => L2.V.int (a + 1 + (i : Nat)) := by
      funext i
      show L2.V.int _ = L2.V.int _
      congr 1
      push_cast
      omega
    rw [e]
    exact ih
theorem rg_ok {a b : Int} (h1 : small a = true) (h2 : small b = true) (hl : lim (rangeL a (b - a).toNat 1) = true) : L2.RgOk a b := by
  have h1 := (small_iff _).1 h1
  have h2 := (small_iff _).1 h2
  have h3 := of_decide_eq_true hl
  rw [rangeL_len] at h3
  unfold BIG at h1 h2
  unfold LIM at h3
  exact ⟨by omega, by omega, by omega, by omega, by omega⟩
theorem s_lr1 {a : E} {m : Md} {pa : PySem.Expr} {p1 p2 p3 : Pos} (hc : X.calm = true) (hgl : L2.Gl X "list") (hml : X.mg "list" = none) (hgr : L2.Gl X "range") (hmr : X.mg "range" = none) (ha : L2.PE X pa (TE G P own call 0 a W)) (hs : isStar pa = false) (hb : ∀ i, a ≠ .bor i) :
    L2.PE X (.Call (.Name "list" p1) [.Call (.Name "range" p2) [pa] [] p3] [] pos) (TE G P own call 1 (.listRange (.cons m a .nil)) W) := by
  refine pe_conseq (L2.pe_listRg hc hgl hml (L2.prg_1 hgr hmr ha (starEach_ok hs))) fun σ H Q ⟨r, S, Xs, s, q⟩ => ⟨r, S, Xs, s, ?_⟩
  simp only [ev, evAs, bind_assoc, ok_bind] at q
  refine (q.bind (A := AirE G 0) .refl).mono fun v H1 ⟨d, r1, S1, Xs1, Y1, e1, t1, s1, a1, f1, g1, q1⟩ => ?_
  obtain ⟨d', hd, q2⟩ := q1.of
  cases d <;> simp only [rangeD2] at hd <;> try (cases hd; done)
  rename_i i
  have := a1.1
  cases this
  cases hsm : small i with
  | false => rw [hsm] at hd; cases hd
  | true =>
    rw [hsm] at hd
    obtain ⟨rfl, hl⟩ := mkL_some hd
    refine ⟨i, rfl, rg_ok (by decide) hsm (by rw [Int.sub_zero]; exact hl), fun p hp => ?_⟩
    refine q2.newL t1 s1 ?_ hp
    have := Reps.range (G := G) (S := S1) (H := H1) i.toNat 0
    rw [L2.rgV, Int.sub_zero]
    exact this
theorem rangeD2_two {d d2 : D} {x : D} (h : (rangeD2 [d, d2]).bind mkL = some x) : ∃ i j, d = .int i ∧ d2 = .int j ∧ (small i && small j) = true ∧ mkL (rangeL i (j - i).toNat 1) = some x := by
  cases d <;> cases d2 <;> simp only [rangeD2] at h <;> try (cases h; done)
  split at h
  · exact ⟨_, _, rfl, rfl, by assumption, h⟩
  · cases h
theorem s_lr2 {a b : E} {m m' : Md} {pa pb : PySem.Expr} {p1 p2 p3 : Pos} (hc : X.calm = true) (hgl : L2.Gl X "list") (hml : X.mg "list" = none) (hgr : L2.Gl X "range") (hmr : X.mg "range" = none) (ha : L2.PE X pa (TE G P own call 0 a W)) (hs : isStar pa = false) (hb : L2.PE X pb (TE G P own call 0 b W)) (hs2 : isStar pb = false) :
    L2.PE X (.Call (.Name "list" p1) [.Call (.Name "range" p2) [pa, pb] [] p3] [] pos) (TE G P own call 1 (.listRange (.cons m a (.cons m' b .nil))) W) := by
  refine pe_conseq (L2.pe_listRg hc hgl hml (L2.prg_2 hgr hmr ha hb (starEach_ok hs) (starEach_ok hs2) (any_false (by simp [hs2])))) fun σ H Q ⟨r, S, Xs, s, q⟩ => ⟨r, S, Xs, s, ?_⟩
  simp only [ev, evAs, bind_assoc, ok_bind] at q
  refine (q.bind (A := AirE G 0) .refl).mono fun v H1 ⟨d, r1, S1, Xs1, Y1, e1, t1, s1, a1, f1, g1, q1⟩ => ⟨r1, S1, Xs1, s1, ?_⟩
  refine (q1.bind (A := AirE G 0) t1).mono fun w H2 ⟨d2, r2, S2, Xs2, Y2, e2, t2, s2, a2, f2, g2, q2⟩ => ?_
  obtain ⟨d', hd, q3⟩ := q2.of
  obtain ⟨i, j, rfl, rfl, hsm, hd⟩ := rangeD2_two hd
  · have := a1.1
    cases this
    have := a2.1
    cases this
    obtain ⟨rfl, hl⟩ := mkL_some hd
    obtain ⟨z1, z2⟩ := Bool.and_eq_true_iff.mp hsm
    refine ⟨i, j, rfl, rfl, rg_ok z1 z2 hl, fun p hp => ?_⟩
    refine q3.newL (t1.trans t2) s2 ?_ hp
    exact Reps.range (G := G) (S := S2) (H := H2) (j - i).toNat i
end
end LW
end

section
set_option Elab.async false
set_option maxRecDepth 100000
set_option maxHeartbeats 1000000
/-! Sound16: sources of walks. -/
namespace LW
open PySem PySem.Spec PyProof.Rows
section
variable {G : Geo} {P : Prog} {own : Own} {call : Nat → List D → CR} {X : L2.Cx} {W : WX} {pos : Pos}
/-- a list, a tuple, a text -/
def iSeq (K : PySem.W.Frag) (te : L2.TE) : L2.TI := fun σ H R => te σ H fun x H1 =>
  (∃ a, x = .ref a ∧ (∃ xs, L2.SqL K H1 a xs) ∧ R (L2.Itl K a) H1) ∨ (∃ a, x = .ref a ∧ (∃ xs, L2.SqT K H1 a xs) ∧ R (L2.Itt K a) H1) ∨ ∃ z, x = .str z ∧ R (L2.Its z) H1
theorem pi_seq {tg e : PySem.Expr} {te : L2.TE} (he : L2.PE X e te) : L2.PI X tg e (iSeq X.K te) := by
  refine ⟨fun pins s σ H R I h => L2.thn (he.run pins s σ H _ I h) fun v s1 ⟨x, H1, I1, r1, q⟩ => ?_⟩
  have own1 : ∀ b ∈ [s1.heap.objs.size], L2.FpOk X pins H1 b := fun b hb => by
    rw [List.mem_singleton.mp hb]
    exact I1.fpOk (Nat.le_refl _) (I1.hok.fresh (Nat.le_refl _))
  rcases q with ⟨a, rfl, ⟨xs, hx⟩, q⟩ | ⟨a, rfl, ⟨xs, hx⟩, q⟩ | ⟨z, rfl, q⟩
  · cases r1
    obtain ⟨its, _, p, _⟩ := I1.list hx
    exact wpAny_pyIter_list p.isList ⟨_, [s1.heap.objs.size], _, _, H1, rfl, I1.kept (t' := s1.toks) fun b o z => Heap.get?_push_of_some _ z, L2.turn_list a _, ⟨_, Heap.get?_push_size _ rfl, rfl, rfl⟩, own1, q⟩
  · cases r1
    obtain ⟨its, _, p, _⟩ := I1.tuple hx
    exact wpAny_pyIter_tuple (show s1.heap.IsTuple a its.toArray from p) ⟨_, [s1.heap.objs.size], _, _, H1, rfl, I1.kept (t' := s1.toks) fun b o z => Heap.get?_push_of_some _ z, L2.turn_tuple a _, ⟨_, Heap.get?_push_size _ rfl, rfl, rfl⟩, own1, q⟩
  · obtain ⟨t, rfl⟩ := r1
    cases ha : z.cps.all (· < 128)
    · exact wpAny_pyIter_wide ha (L2.pi_one (tk := s1.toks) I1 _ (L2.turn_str _ z t "str_iterator" (.inr rfl)) ⟨_, Heap.get?_push_size _ rfl, rfl, rfl⟩ q)
    · exact wpAny_pyIter_ascii ha (L2.pi_one (tk := s1.toks) I1 _ (L2.turn_str _ z t "str_ascii_iterator" (.inl rfl)) ⟨_, Heap.get?_push_size _ rfl, rfl, rfl⟩ q)
/-- read at once, an operand is what came -/
theorem late_now {e : E} {r r1 : Env} {d : D} (h : ev P call e r = .ok d r1) : late e d r1 = some d := by
  cases e <;> try rfl
  rename_i i
  simp only [ev, getV] at h
  cases e1 : rd r i with
  | none => rw [e1] at h; cases h
  | some x => rw [e1] at h; cases h; simp only [late, e1]
/-- a walked operand, without what is lent -/
theorem walked {e : E} {σ : St} {H : Hp} {S : Addr → Prop} {Xs : Parts} {r1 : Env} {d : D} {v : V} {Y : List Addr} (s : StR G own r1 σ H S Xs) (a : AirO (G := G) e σ d v Y H S) (ho : opd own e = true) (hl : late e d r1 = some d) :
    (∀ b, S b → ¬ inW (lendX (.e e) Xs) b) ∧ ∀ p, v = .ref p → (∃ xs, d = .lst xs) → ¬ inW (lendX (.e e) Xs) p := by
  rcases a.2 with ⟨i, rfl, hv⟩ | ⟨hn, q⟩
  · have e1 : rd r1 i = some d := hl
    · · obtain ⟨w, hw, o, s', f, t, g⟩ := s.give e1
        rw [hv] at hw; cases hw
        refine ⟨s'.dis, fun p hp ⟨xs, hx⟩ => ?_⟩
        subst hp; subst hx
        have h1 := opd_ok ho i rfl
        rcases Nat.lt_or_ge (own.getD i 0) 1 with z | z
        · rw [show own.getD i 0 = 0 by omega] at o
          have o := o.1
          cases o with | lst sa _ _ => exact s'.dis p sa
        · rw [show own.getD i 0 = 1 by omega] at o
          obtain ⟨b, vs, Z, hb, _, _, hZ⟩ := o
          cases hb
          exact f.disW p (by rw [hZ]; exact List.mem_cons_self)
  · have hx : lendX (.e e) Xs = Xs := by unfold lendX; split <;> first | rfl | (rename_i h; cases h; exact absurd rfl (hn _))
    rw [hx]
    refine ⟨s.dis, fun p hp ⟨xs, hx⟩ => ?_⟩
    subst hp; subst hx
    cases q with | lst sa _ _ => exact s.dis p sa
theorem i_seq {e : E} {pe pt : PySem.Expr} (hK : X.K = G.K) (he : L2.PE X pe (TO G P own call e W)) (ho : opd own e = true) : L2.PI X pt pe (TIr G P own call (.e e) W) := by
  refine pi_conseq (pi_seq he) fun σ H R ⟨r, S, Xs, s, q⟩ => ⟨r, S, Xs, s, ?_⟩
  simp only [evIt] at q
  cases e1 : ev P call e r with
  | bad => rw [e1] at q; exact q
  | ex c fs r1 => rw [e1] at q; exact q
  | ok d r1 =>
    rw [e1] at q
    intro v H1 S1 Xs1 Y1 t1 s1 a1 f1 g1
    have hl := late_now e1
    have rt : RepT G S1 H1 d v := a1.late s1.dis .refl s1 (opd_ok ho) hl
    obtain ⟨w1, w2⟩ := walked s1 a1 ho hl
    simp only [LW.R.bind] at q
    cases d <;> simp only [iterOf, LW.R.of] at q <;> try exact q.elim
    · rename_i z
      rw [rt.str_inv]
      exact .inr (.inr ⟨_, rfl, q _ H1 S1 Xs1 t1 s1 itOk_str⟩)
    · obtain ⟨a, vs, rfl, ha, ra⟩ := rt.tup_inv
      refine .inr (.inl ⟨a, rfl, ⟨vs, .inl (.inl ha)⟩, q _ H1 S1 Xs1 t1 s1 ?_⟩)
      rw [hK]
      exact itOk_tup ha ra w1
    · obtain ⟨a, vs, rfl, ha, ra⟩ := rt.lst_inv
      refine .inl ⟨a, rfl, ⟨vs, .inl (.inl ha)⟩, q _ H1 S1 Xs1 t1 s1 ?_⟩
      rw [hK]
      exact itOk_list ha (w2 a rfl ⟨_, rfl⟩) ra w1
    · cases rt with | sh r => cases r
/-! ### ranges -/
theorem rangeN_one (a b : Int) : rangeN a b 1 = (b - a).toNat := by
  unfold rangeN
  rw [if_pos (by decide)]
  congr 1
  rw [Int.ediv_one]
  omega
theorem rangeN_neg (a b : Int) : rangeN a b (-1) = (a - b).toNat := by
  unfold rangeN
  rw [if_neg (by decide), if_pos (by decide)]
  congr 1
  have : (-(-1) : Int) = 1 := by decide
  rw [this, Int.ediv_one]
  omega
theorem small_bd {i : Int} (h : small i = true) : -(2 ^ 62) ≤ i ∧ i < 2 ^ 62 := by
  have := (small_iff _).1 h
  unfold BIG at this
  omega
theorem rangeD_two {d d2 : D} {r : Env} {xs : List D} (h : rangeD [d, d2] = some xs) : ∃ i j, d = .int i ∧ d2 = .int j ∧ (small i && small j) = true ∧ xs = rangeL i (rangeN i j 1) 1 := by
  cases d <;> cases d2 <;> simp only [rangeD] at h <;> try (cases h; done)
  split at h
  · cases h; exact ⟨_, _, rfl, rfl, by assumption, rfl⟩
  · cases h
theorem rangeD_three {d d2 d3 : D} {r : Env} {xs : List D} (h : rangeD [d, d2, d3] = some xs) : ∃ i j c, d = .int i ∧ d2 = .int j ∧ d3 = .int c ∧ (small i && small j && c == -1) = true ∧ xs = rangeL i (rangeN i j c) c := by
  cases d <;> cases d2 <;> cases d3 <;> simp only [rangeD] at h <;> try (cases h; done)
  split at h
  · cases h; exact ⟨_, _, _, rfl, rfl, rfl, by assumption, rfl⟩
  · cases h
/-- a list of plain arguments: what TIr's run asks is asked of each -/
theorem ti_bind {it : It} {a : E} {r : Env} {σ : St} {H : Hp} {S : Addr → Prop} {Xs : Parts} {Z : L2.It → Hp → Prop} {f : D → Env → R (List D)} {K : V → Hp → Prop} {H0 : Hp} {S0 : Addr → Prop} {Xs0 : Parts} (t0 : Step S0 Xs0 H0 S Xs H)
    (q : match (ev P call a r).bind f with
      | .ok xs r' => ∀ J H' S' Xs', Step S0 Xs0 H0 S' Xs' H' → StR G own r' σ H' S' Xs' → ItOk G J xs S' (lendX it Xs') H' → Z J H'
      | .ex c fs r' => ∀ H' S' Xs' dd, Step S0 Xs0 H0 S' Xs' H' → StR G own r' σ H' S' Xs' → ExcAt G P H0 S' Xs' H' c fs dd → W (.ref (G.ca c)) dd σ H'
      | .bad => False)
    (s : StR G own r σ H S Xs)
    (k : ∀ d r1 v H1 S1 Xs1, Step S Xs H S1 Xs1 H1 → StR G own r1 σ H1 S1 Xs1 → Rep G S1 H1 d v → (match f d r1 with
      | .ok xs r' => ∀ J H' S' Xs', Step S0 Xs0 H0 S' Xs' H' → StR G own r' σ H' S' Xs' → ItOk G J xs S' (lendX it Xs') H' → Z J H'
      | .ex c fs r' => ∀ H' S' Xs' dd, Step S0 Xs0 H0 S' Xs' H' → StR G own r' σ H' S' Xs' → ExcAt G P H0 S' Xs' H' c fs dd → W (.ref (G.ca c)) dd σ H'
      | .bad => False) → K v H1) : TE G P own call 0 a W σ H K := by
  refine ⟨r, S, Xs, s, ?_⟩
  cases e1 : ev P call a r with
  | bad => rw [e1] at q; exact q
  | ex c fs r1 => rw [e1] at q; exact fun H' S' Xs' dd t' s' x => q H' S' Xs' dd (t0.trans t') s' (x.base t0)
  | ok d r1 =>
    rw [e1] at q
    exact fun v H1 S1 Xs1 Y t1 s1 a1 f1 g1 => k d r1 v H1 S1 Xs1 t1 s1 a1.1 q
theorem i_rg1 {a : E} {m : Md} {pa pt : PySem.Expr} {p2 : Pos} (hg : L2.Gl X "range") (hm : X.mg "range" = none) (ha : L2.PE X pa (TE G P own call 0 a W)) (hs : isStar pa = false) : L2.PI X pt (.Call (.Name "range" p2) [pa] [] pos) (TIr G P own call (.range (.cons m a .nil)) W) := by
  refine pi_conseq (L2.pi_range1 hg hm (L2.pa_cons ha L2.pa_nil (starEach_ok hs)) (starEach_ok hs)) fun σ H R ⟨r, S, Xs, s, q⟩ => ?_
  simp only [evIt, evAs, bind_assoc, ok_bind] at q
  refine ti_bind .refl q s fun d r1 v H1 S1 Xs1 t1 s1 rep q1 => ?_
  show ∃ j : Int, [v] = [.int j] ∧ _
  cases d <;> simp only [rangeD, LW.R.of] at q1 <;> try exact q1.elim
  rename_i j
  cases rep
  cases hsm : small j with
  | false => rw [hsm] at q1; exact q1.elim
  | true =>
    rw [hsm] at q1
    obtain ⟨z1, z2⟩ := small_bd hsm
    refine ⟨j, rfl, z1, z2, q1 _ H1 S1 Xs1 t1 s1 ?_⟩
    rw [rangeN_one, Int.sub_zero]
    exact itOk_range
theorem i_rg2 {a b : E} {m m' : Md} {pa pb pt : PySem.Expr} {p2 : Pos} (hg : L2.Gl X "range") (hm : X.mg "range" = none) (ha : L2.PE X pa (TE G P own call 0 a W)) (hs : isStar pa = false) (hb : L2.PE X pb (TE G P own call 0 b W)) (hs2 : isStar pb = false) :
    L2.PI X pt (.Call (.Name "range" p2) [pa, pb] [] pos) (TIr G P own call (.range (.cons m a (.cons m' b .nil))) W) := by
  refine pi_conseq (L2.pi_range2 hg hm (L2.pa_cons ha (L2.pa_cons hb L2.pa_nil (starEach_ok hs2)) (starEach_ok hs)) (by rw [starEach_ok hs, starEach_ok hs2]; rfl) (starEach_ok hs2)) fun σ H R ⟨r, S, Xs, s, q⟩ => ?_
  simp only [evIt, evAs, bind_assoc, ok_bind] at q
  refine ti_bind .refl q s fun d r1 v H1 S1 Xs1 t1 s1 rep q1 => ?_
  refine ti_bind t1 q1 s1 fun d2 r2 v2 H2 S2 Xs2 t2 s2 rep2 q2 => ?_
  show ∃ i j : Int, [v, v2] = [.int i, .int j] ∧ _
  cases hd : rangeD [d, d2] with
  | none => rw [hd] at q2; exact q2.elim
  | some xs =>
    rw [hd] at q2
    obtain ⟨i, j, rfl, rfl, hsm, rfl⟩ := rangeD_two (r := r2) hd
    cases rep
    cases rep2
    obtain ⟨y1, y2⟩ := Bool.and_eq_true_iff.mp hsm
    obtain ⟨z1, z2⟩ := small_bd y1
    obtain ⟨z3, z4⟩ := small_bd y2
    refine ⟨i, j, rfl, ⟨z1, z2, z3, z4⟩, q2 _ H2 S2 Xs2 (t1.trans t2) s2 ?_⟩
    rw [rangeN_one]
    exact itOk_range
theorem i_rg3 {a b c : E} {m m' m'' : Md} {pa pb pc pt : PySem.Expr} {p2 : Pos} (hg : L2.Gl X "range") (hm : X.mg "range" = none) (ha : L2.PE X pa (TE G P own call 0 a W)) (hs : isStar pa = false) (hb : L2.PE X pb (TE G P own call 0 b W)) (hs2 : isStar pb = false) (hc : L2.PE X pc (TE G P own call 0 c W)) (hs3 : isStar pc = false) :
    L2.PI X pt (.Call (.Name "range" p2) [pa, pb, pc] [] pos) (TIr G P own call (.range (.cons m a (.cons m' b (.cons m'' c .nil)))) W) := by
  refine pi_conseq (L2.pi_range3 hg hm (L2.pa_cons ha (L2.pa_cons hb (L2.pa_cons hc L2.pa_nil (starEach_ok hs3)) (starEach_ok hs2)) (starEach_ok hs)) (starEach_ok hs) (any_false (by simp [hs2, hs3]))) fun σ H R ⟨r, S, Xs, s, q⟩ => ?_
  simp only [evIt, evAs, bind_assoc, ok_bind] at q
  refine ti_bind .refl q s fun d r1 v H1 S1 Xs1 t1 s1 rep q1 => ?_
  refine ti_bind t1 q1 s1 fun d2 r2 v2 H2 S2 Xs2 t2 s2 rep2 q2 => ?_
  refine ti_bind (t1.trans t2) q2 s2 fun d3 r3 v3 H3 S3 Xs3 t3 s3 rep3 q3 => ?_
  show ∃ (i j c : Int) (n : Nat), [v, v2, v3] = [.int i, .int j, .int c] ∧ _
  cases hd : rangeD [d, d2, d3] with
  | none => rw [hd] at q3; exact q3.elim
  | some xs =>
    rw [hd] at q3
    obtain ⟨i, j, c, rfl, rfl, rfl, hsm, rfl⟩ := rangeD_three (r := r3) hd
    cases rep
    cases rep2
    cases rep3
    obtain ⟨y12, y3⟩ := Bool.and_eq_true_iff.mp hsm
    obtain ⟨y1, y2⟩ := Bool.and_eq_true_iff.mp y12
    obtain ⟨z1, z2⟩ := small_bd y1
    obtain ⟨z3, z4⟩ := small_bd y2
    have hc : c = -1 := by simpa using y3
    subst hc
    refine ⟨i, j, -1, (i - j).toNat, rfl, .neg z1 z2 z3 z4, q3 _ H3 S3 Xs3 ((t1.trans t2).trans t3) s3 ?_⟩
    rw [rangeN_neg]
    exact itOk_rangeC
end
end LW
end

section
set_option Elab.async false
set_option maxRecDepth 100000
set_option maxHeartbeats 1000000
/-! Sound17: more statements. -/
namespace LW
open PySem
section
variable {G : Geo} {P : Prog} {own : Own} {rt : Nat} {fx : Option V} {call : Nat → List D → CR} {wf : Nat} {X : L2.Cx} {W : WX} {pos : Pos}
/-! ### a list that a slot owns is changed -/
theorem Xs_in {i : Nat} {Xs : Parts} {a : Addr} (h : a ∈ Xs.getD i []) : inW Xs a := by
  rcases Nat.lt_or_ge i Xs.length with hi | hi
  · exact ⟨Xs.getD i [], by rw [List.getD_eq_getElem?_getD, List.getElem?_eq_getElem hi]; exact List.getElem_mem hi, h⟩
  · rw [List.getD_eq_getElem?_getD, List.getElem?_eq_none hi] at h; cases h
theorem Xs_apart {i j : Nat} {Xs : Parts} {a : Addr} (pw : Xs.Pairwise (fun Y Z => ∀ x ∈ Y, x ∉ Z)) (h : a ∈ Xs.getD i []) (h2 : a ∈ Xs.getD j []) : i = j := by
  have lt : ∀ {k : Nat}, a ∈ Xs.getD k [] → ∃ hk : k < Xs.length, a ∈ Xs[k] := fun {k} z => by
    rcases Nat.lt_or_ge k Xs.length with hk | hk
    · exact ⟨hk, by rw [List.getD_eq_getElem?_getD, List.getElem?_eq_getElem hk] at z; exact z⟩
    · rw [List.getD_eq_getElem?_getD, List.getElem?_eq_none hk] at z; cases z
  obtain ⟨hi, h⟩ := lt h
  obtain ⟨hj, h2⟩ := lt h2
  rcases Nat.lt_trichotomy i j with z | z | z
  · exact absurd h2 (List.pairwise_iff_getElem.mp pw i j hi hj z a h)
  · exact z
  · exact absurd h (List.pairwise_iff_getElem.mp pw j i hj hi z a h2)
theorem StR.mutL {r : Env} {σ : St} {H : Hp} {S : Addr → Prop} {Xs : Parts} (s : StR G own r σ H S Xs) {i : Nat} {ds : List D} (e : rd r i = some (.lst ds)) (ho : own.getD i 0 = 1) : ∃ a vs, σ[i]? = some (some (.ref a)) ∧ H a = some (.lst vs) ∧ Reps G S H ds vs ∧
    ∀ ds' vs', Reps G S H ds' vs' → StR G own (r.set i (some (.lst ds'))) σ (L2.upd H a (.lst vs')) S Xs ∧ Step S Xs H S Xs (L2.upd H a (.lst vs')) := by
  obtain ⟨v, hv, o⟩ := s.slot i _ e
  rw [ho] at o
  obtain ⟨a, vs, Y, rfl, ha, hs, hX⟩ := o
  have rs := ows0 hs
  have hY : Y = [] := by
    clear hX ha rs e
    induction ds generalizing vs Y with
    | nil => exact hs.2
    | cons d ds ih =>
      obtain ⟨v, ws, Y1, Z, _, h2, h3, h4⟩ := hs
      rw [h4, h2.2, ih _ _ h3]; rfl
  subst hY
  have hin : a ∈ Xs.getD i [] := by rw [hX]; exact List.mem_cons_self
  have aW : inW Xs a := Xs_in hin
  have aS : ¬ S a := fun z => s.dis a z aW
  refine ⟨a, vs, hv, ha, rs, fun ds' vs' r' => ?_⟩
  have ne : ∀ b, b ≠ a → L2.upd H a (.lst vs') b = H b := fun b h => L2.upd_ne h
  have kS : ∀ b u, S b → H b = some u → L2.upd H a (.lst vs') b = some u := fun b u sb z => by rw [ne b (fun y => aS (by rw [← y]; exact sb))]; exact z
  have kT : ∀ b xs, H b = some (.tup xs) → L2.upd H a (.lst vs') b = some (.tup xs) := fun b xs z => by rw [ne b (fun y => by rw [y, ha] at z; cases z)]; exact z
  have r2 : Reps G S (L2.upd H a (.lst vs')) ds' vs' := r'.mono (fun _ h => h) kS kT
  have dom : ∀ b, (∃ u, H b = some u) → ∃ u, L2.upd H a (.lst vs') b = some u := fun b ⟨u, z⟩ => by
    by_cases h : b = a
    · rw [h]; exact ⟨_, L2.upd_same⟩
    · exact ⟨u, by rw [ne b h]; exact z⟩
  have hi : i < r.length := rd_lt e
  refine ⟨⟨by simpa using s.len, by simpa using s.lenX, fun j d z => ?_, fun j c fs z => ?_, s.nod, s.dis, fun b h => dom b (s.dom b h), fun b h => dom b (s.domW b h)⟩, ⟨fun b u z n => ?_, fun b z => ?_, kT, fun _ h => h, fun _ h => .inl h, fun _ h => .inl h⟩⟩
  · by_cases hj : j = i
    · subst hj
      obtain rfl := rd_self z
      refine ⟨_, hv, ?_⟩
      rw [ho]
      exact ⟨a, vs', [], rfl, L2.upd_same, r2.ows, hX⟩
    · rw [rd_ne hj] at z
      obtain ⟨w, h1, h2⟩ := s.slot j d z
      refine ⟨w, h1, h2.mono (fun _ h => h) kS kT fun b u hb z => ?_⟩
      rw [ne b (fun y => hj (Xs_apart s.nod.2 (by rw [← y]; exact hb) hin))]
      exact z
  · by_cases hj : j = i
    · subst hj
      rw [List.getElem?_set_self hi] at z
      cases z
    · rw [List.getElem?_set_ne (Ne.symm hj)] at z
      obtain ⟨w, h1, h2⟩ := s.xsl j c fs z
      exact ⟨w, h1, h2.mono (fun _ h => h) kS kT⟩
  · rw [ne b (fun y => n (by rw [y]; exact aW))]; exact z
  · by_cases h : b = a
    · rw [h, L2.upd_same] at z; cases z
    · rw [ne b h] at z; exact z
theorem getV_cases (r : Env) (i : Nat) : getV r i = .bad ∨ ∃ d, rd r i = some d ∧ getV r i = .ok d r := by
  unfold getV
  cases rd r i with
  | none => exact .inl rfl
  | some d => exact .inr ⟨d, rfl, rfl⟩
theorem ok_sr {α : Type} (a : α) (r : Env) (f : α → Env → SR) : (R.ok a r).sr f = f a r := rfl
/-! ### stores by unpacking -/
theorem x_asg {tg : Tg} {e : E} {pt pe : PySem.Expr} (he : L2.PE X pe (TE G P own call 0 e W)) (hg : L2.PG X pt (TGr G own tg)) (hs : swapsWithSole [pt] pe pos.line X.env = pure false) (hw : swappedStores [pt] pe X.env = pure none) (h1 : isStar pt = false) (h0 : fx = none ∨ 0 ∉ tgIds tg) :
    L2.PS X (.Assign [pt] pe pos) (TS1 G P own rt fx call wf (.asg tg e) W) := by
  refine ps_conseq (L2.ps_asg he hg hs hw (by rw [assignEach_ok h1]; rfl)) fun D σ H ⟨r, S, Xs, s, fxs, q⟩ => ⟨r, S, Xs, s, ?_⟩
  simp only [ex] at q
  refine (q.sr (A := AirE G 0) fxs .refl).mono fun v H1 ⟨d, r1, S1, Xs1, Y1, t1, s1, a1, f1, g1, q1⟩ => ?_
  cases e1 : stTg tg d r1 with
  | none => simp only [e1] at q1; exact q1.elim
  | some r2 =>
    simp only [e1] at q1
    refine ⟨d, r1, S1, Xs1, r2, s1, a1.1, e1, fun σ' Xs' s' t' l' k' => ?_⟩
    refine q1 σ' H1 S1 Xs' (t1.trans t') s' fun v e => ?_
    rcases h0 with h0 | h0
    · rw [h0] at e; cases e
    · rw [k' 0 h0]; exact fxs v e
/-! ### x[k] = e -/
theorem x_setIx {i : Nat} {k e : E} {pk pe : PySem.Expr} {x : Str} {p1 p2 : Pos} (hx : L2.PE X (.Name x p1) (TO G P own call (.bor i) W)) (hk : L2.PE X pk (TE G P own call 0 k W)) (he : L2.PE X pe (TE G P own call 0 e W)) (ho : own.getD i 0 = 1)
    (hs : swapsWithSole [.Subscript (.Name x p1) pk p2] pe pos.line X.env = pure false) (ha : ∀ v, assign (.Subscript (.Name x p1) pk p2) X.env v = (do
      let ov ← holding [v] (eval (.Name x p1) X.env)
      let iv ← holding [v, ov] (eval pk X.env)
      standAt p2
      holding [v, ov, iv] (setItem ov iv v)
      release [v, ov, iv] [])) : L2.PS X (.Assign [.Subscript (.Name x p1) pk p2] pe pos) (TS1 G P own rt fx call wf (.setIx (.v i) k e) W) := by
  refine ps_conseq (L2.ps_asg he (L2.pg_sub hx hk L2.set_list ha) hs) fun D σ H ⟨r, S, Xs, s, fxs, q⟩ => ⟨r, S, Xs, s, ?_⟩
  simp only [ex] at q
  refine (q.sr (A := AirE G 0) fxs .refl).mono fun v H1 ⟨d, r1, S1, Xs1, Y1, t1, s1, a1, f1, g1, q1⟩ => ?_
  show TO G P own call (.bor i) W σ H1 fun o H2 => TE G P own call 0 k W σ H2 fun j H3 => L2.rSetL o j v H3 fun H4 => D.nx σ H4
  refine ⟨r1, S1, Xs1, s1, ?_⟩
  have q1' : PostS G P own rt fx ((ev P call (.bor i) r1).sr fun _ r2 => (ev P call k r2).sr fun kd r3 => (getV r3 i).sr fun d1 r4 => match putIx d1 kd d with | some y => .nx (r4.set i (some y)) | none => .bad) H S Xs D W := by
    simp only [ev]; exact q1
  refine (PostS.sr (A := AirO (G := G) (.bor i) σ) fxs q1' t1).mono fun o H2 ⟨d2, r2, S2, Xs2, Y2, t2, s2, a2, f2, g2, q2⟩ => ⟨r2, S2, Xs2, s2, ?_⟩
  refine (PostS.sr (A := AirE G 0) fxs q2 (t1.trans t2)).mono fun j H3 ⟨kd, r3, S3, Xs3, Y3, t3, s3, a3, f3, g3, q3⟩ => ?_
  rcases getV_cases r3 i with hb | ⟨d3, h3, hg⟩
  · rw [hb] at q3; exact q3.elim
  · rw [hg, ok_sr] at q3
    obtain ⟨_, ho2⟩ := a2
    have hoσ : σ[i]? = some (some o) := by
      rcases ho2 with ⟨i', hi', hv⟩ | ⟨hn, _⟩
      · cases hi'; exact hv
      · exact absurd rfl (hn i)
    cases d3 <;> cases kd <;> simp only [putIx] at q3 <;> first | exact q3.elim | (obtain ⟨_, _, o⟩ := s3.slot i _ h3; rw [ho] at o; cases o.1; done) | skip
    rename_i ds j3
    obtain ⟨a, vs, hv, ha, ra, chg⟩ := s3.mutL h3 ho
    rw [hoσ] at hv; cases hv
    have rj := a3.1
    cases rj
    cases hn : ixN ds.length j3 with
    | none => rw [hn] at q3; exact q3.elim
    | some n =>
      rw [hn] at q3
      have rv := a1.1.step (t2.trans t3) s1.dis
      obtain ⟨s4, t4⟩   := chg _ _ (ra.set n rv)
      refine ⟨a, vs, j3, n, rfl, rfl, ha, by rw [← ra.length]; exact hn, ?_⟩
      exact q3 σ _ S3 Xs3 (((t1.trans t2).trans t3).trans t4) s4 fxs
/-! ### x.append(e), x.extend(e), x.insert(i, e) -/
theorem ows_reps0 {S : Addr → Prop} {H : Hp} {ds : List D} {vs : List V} {Y : List Addr} (h : AirL G 0 ds vs Y H S) : Reps G S H ds vs := ows0 h
theorem few_ok : ∀ {es : List PySem.Expr} {env : PySem.Env} {p : Pos}, es.all (fun e => !isStar e) = true → ((backTo p (starEach es env)).all fun x => !x.1) = true
  | [], _, _, _ => rfl
  | e :: es, env, p, h => by
    simp only [List.all_cons, Bool.and_eq_true, Bool.not_eq_true'] at h
    rw [starEach_ok h.1]
    have ih := few_ok (env := env) (p := p) h.2
    simp only [backTo, List.map_cons, List.all_cons, Bool.not_false, Bool.true_and] at ih ⊢
    exact ih
/-- a method of a list that a slot owns -/
theorem x_mut {i : Nat} {m : Mm} {as : Es} {x name : Str} {id : String} {pe : PySem.Expr} {pes : List PySem.Expr} {p1 p2 p3 : Pos} {rr : V → List V → Hp → L2.VK → Prop} (slot : Slot "list" name id) (hty : typeOf (.builtin id) = pure (.type "method_descriptor")) (hm : L2.MtR X id rr)
    (hx : L2.PE X (.Name x p1) (TO G P own call (.bor i) W)) (has : L2.PA X (pe :: pes) (TL G P own call 0 as W)) (ho : own.getD i 0 = 1)
    (ok : ∀ {ds es : List D} {y z : D} {vs ws : List V} {a : Addr} {H : Hp} {S : Addr → Prop} {Q : L2.VK}, mutD m (.lst ds) es = some (y, z) → H a = some (.lst vs) → Reps G S H ds vs → Reps G S H es ws →
      ∃ ds', y = .lst ds' ∧ ((∀ vs', Reps G S H ds' vs' → Q .non (L2.upd H a (.lst vs'))) → rr (.ref a) ws H Q))
    (hline : (p2.endLine == p3.line) = true) (hs : (pe :: pes).all (fun e => !isStar e) = true) (hlen : (pe :: pes).length < 30) :
    L2.PS X (.Expr (.Call (.Attribute (.Name x p1) name p2) (pe :: pes) [] p3) pos) (TS1 G P own rt fx call wf (.mut (.v i) m as) W) := by
  have hs' := hs
  simp only [List.all_cons, Bool.and_eq_true, Bool.not_eq_true'] at hs
  have hfew : ((backTo p3 (starEach (pe :: pes) X.env)).all (fun x => !x.1) && (backToKw p3 (keywordEach [] X.env)).all (fun x => x.1.isSome) && decide ((pe :: pes).length + ([] : List Keyword).length + (if ([] : List Keyword).isEmpty then 0 else 1) < 30)) = true := by
    rw [few_ok hs']
    have : decide ((pe :: pes).length + ([] : List Keyword).length + (if ([] : List Keyword).isEmpty then 0 else 1) < 30) = true := decide_eq_true (by simpa using hlen)
    rw [this]; rfl
  refine ps_conseq (L2.ps_expr (L2.pe_bm PySem.F.plainAttrs_list slot hty hm hx has rfl hfew hline (starEach_ok hs.1) (any_false hs.2)) rfl) fun D σ H ⟨r, S, Xs, s, fxs, q⟩ => ⟨r, S, Xs, s, ?_⟩
  simp only [ex] at q
  simp only [ev]
  rcases getV_cases r i with hb | ⟨d0, h0, hg⟩
  · rw [hb] at q; exact q.elim
  · rw [hg, ok_sr] at q
    rw [hg]
    intro o H1 S1 Xs1 Y1 t1 s1 a1 f1 g1
    cases hl : isLst d0 with
    | false => rw [hl] at q; exact q.elim
    | true =>
      cases d0 <;> simp only [isLst] at hl <;> try (cases hl; done)
      rename_i ds0
      simp only [isLst, if_true] at q
      obtain ⟨a0, vs0, hv0, ha0, _, _⟩ := s1.mutL h0 ho
      have hoσ : σ[i]? = some (some o) := by
        rcases a1.2 with ⟨i', hi', hv⟩ | ⟨hn, _⟩
        · cases hi'; exact hv
        · exact absurd rfl (hn i)
      rw [hoσ] at hv0; cases hv0
      refine ⟨.inl ⟨rfl, vs0, .inl (.inl ha0)⟩, r, S1, Xs1, s1, ?_⟩
      refine (PostS.sr (A := AirL G 0) fxs q t1).mono fun ws H2 ⟨es, r2, S2, Xs2, Y2, t2, s2, a2, f2, g2, q2⟩ => ?_
      rcases getV_cases r2 i with hb2 | ⟨d2, h2, hg2⟩
      · rw [hb2] at q2; exact q2.elim
      · rw [hg2, ok_sr] at q2
        cases hm2 : mutD m d2 es with
        | none => rw [hm2] at q2; exact q2.elim
        | some yz =>
          obtain ⟨y, z⟩ := yz
          rw [hm2] at q2
          obtain ⟨w2, hw2, o2⟩ := s2.slot i d2 h2
          rw [hoσ] at hw2; cases hw2
          rw [ho] at o2
          cases d2 <;> try (cases m <;> simp only [mutD] at hm2 <;> first | (cases hm2; done) | (cases o2.1; done))
          rename_i ds
          obtain ⟨a, vs, hv, ha, ra, chg⟩ := s2.mutL h2 ho
          rw [hoσ] at hv; cases hv
          obtain ⟨ds', rfl, k⟩ := ok (Q := fun _ H' => D.nx σ H') hm2 ha ra (ows0 a2)
          refine k fun vs' rv => ?_
          obtain ⟨s4, t4⟩ := chg ds' vs' rv
          exact q2 σ _ S2 Xs2 ((t1.trans t2).trans t4) s4 fxs
theorem mut_append {ds es : List D} {y z : D} {vs ws : List V} {a : Addr} {H : Hp} {S : Addr → Prop} {Q : L2.VK} (h : mutD .append (.lst ds) es = some (y, z)) (ha : H a = some (.lst vs)) (r : Reps G S H ds vs) (re : Reps G S H es ws) :
    ∃ ds', y = .lst ds' ∧ ((∀ vs', Reps G S H ds' vs' → Q .non (L2.upd H a (.lst vs'))) → L2.rAppend (.ref a) ws H Q) := by
  rcases es with _ | ⟨e1, _ | ⟨e2, es⟩⟩ <;> simp only [mutD] at h <;> try (cases h; done)
  split at h
  · rename_i hl
    cases h
    cases re with
    | cons h1 r1 =>
      cases r1
      refine ⟨_, rfl, fun k => ⟨a, vs, _, rfl, rfl, ha, ?_, k _ (r.append (.cons h1 .nil))⟩⟩
      have := lim_le hl
      rw [← r.length]
      simp at this
      omega
  · cases h
theorem mut_extend {ds es : List D} {y z : D} {vs ws : List V} {a : Addr} {H : Hp} {S : Addr → Prop} {Q : L2.VK} (h : mutD .extend (.lst ds) es = some (y, z)) (ha : H a = some (.lst vs)) (r : Reps G S H ds vs) (re : Reps G S H es ws) :
    ∃ ds', y = .lst ds' ∧ ((∀ vs', Reps G S H ds' vs' → Q .non (L2.upd H a (.lst vs'))) → L2.rExtend (.ref a) ws H Q) := by
  rcases es with _ | ⟨e1, _ | ⟨e2, es⟩⟩ <;> try (cases h; done)
  rotate_left
  · cases e1 <;> simp [mutD] at h
  cases e1 <;> simp only [mutD] at h <;> try (cases h; done)
  split at h
  · rename_i hl
    cases h
    cases re with
    | cons h1 r1 =>
      cases r1
      cases h1 with
      | lst sb hb rb =>
        refine ⟨_, rfl, fun k => ⟨a, _, vs, _, rfl, rfl, ha, hb, ?_, k _ (r.append rb)⟩⟩
        have := lim_le hl
        rw [← r.length, ← rb.length]
        simpa using this
  · cases h
theorem mut_insert {ds es : List D} {y z : D} {vs ws : List V} {a : Addr} {H : Hp} {S : Addr → Prop} {Q : L2.VK} (h : mutD .insert (.lst ds) es = some (y, z)) (ha : H a = some (.lst vs)) (r : Reps G S H ds vs) (re : Reps G S H es ws) :
    ∃ ds', y = .lst ds' ∧ ((∀ vs', Reps G S H ds' vs' → Q .non (L2.upd H a (.lst vs'))) → ∃ (l : Addr) (xs : List V) (i : Int) (y : V), (L2.V.ref a) = .ref l ∧ ws = [.int i, y] ∧ H l = some (.lst xs) ∧ xs.length < sizeLine ∧ 0 ≤ i ∧ i < 2 ^ 63 ∧ Q .non (L2.upd H l (.lst (xs.take i.toNat ++ [y] ++ xs.drop i.toNat)))) := by
  rcases es with _ | ⟨e1, _ | ⟨e2, _ | ⟨e3, es⟩⟩⟩ <;> try (cases h; done)
  · cases e1 <;> simp [mutD] at h
  · cases e1 <;> simp only [mutD] at h <;> try (cases h; done)
    rename_i i
    split at h
    · rename_i hl
      cases h
      obtain ⟨h12, h3⟩ := Bool.and_eq_true_iff.mp hl
      obtain ⟨h1, h2⟩ := Bool.and_eq_true_iff.mp h12
      have h2 := of_decide_eq_true h2
      have h1 := (small_bd h1).2
      cases re with
      | cons g1 r1 =>
        cases r1 with
        | cons g2 r2 =>
          cases r2
          cases g1
          refine ⟨_, rfl, fun k => ⟨a, vs, i, _, rfl, rfl, ha, ?_, h2, by omega, k _ (((r.take _).append (.cons g2 .nil)).append (r.drop _))⟩⟩
          have := lim_le h3
          rw [← r.length]
          simp at this
          omega
    · cases h
  · cases e1 <;> simp [mutD] at h
end
end LW
end

section
set_option Elab.async false
set_option maxRecDepth 100000
set_option maxHeartbeats 1000000
/-! Sound18: a, b = x, y. -/
namespace LW
open PySem
section
variable {G : Geo} {P : Prog} {own : Own} {rt : Nat} {fx : Option V} {call : Nat → List D → CR} {wf : Nat} {X : L2.Cx} {W : WX} {pos : Pos}
/-- several, each owned as deep as its slot wants -/
def OwN (R : Nat → D → V → List Addr → Prop) : List Nat → List D → List V → List Addr → Prop
  | _, [], vs, Y => vs = [] ∧ Y = []
  | n :: ns, d :: ds, vs, Y => ∃ v ws Y1 Z, vs = v :: ws ∧ R n d v Y1 ∧ OwN R ns ds ws Z ∧ Y = Y1 ++ Z
  | [], _ :: _, _, _ => False
def AirN (G : Geo) (ns : List Nat) : Rel (List D) (List V) := fun ds vs Y H S => OwN (Ow G S H) ns ds vs Y
variable (G P own call) in
abbrev TN (ns : List Nat) (es : Es) (W : WX) : L2.TA := TR G P own (AirN G ns) (evs P call es) W
theorem n_nil {ns : List Nat} : L2.PA X [] (TN G P own call ns .nil W) := by
  refine pa_conseq L2.pa_nil fun σ H Q ⟨r, S, Xs, s, q⟩ => ?_
  exact q [] H S Xs [] .refl s (by cases ns <;> exact ⟨rfl, rfl⟩) .nil (fun _ z => nomatch z)
theorem n_cons {n : Nat} {ns : List Nat} {e : E} {es : Es} {p : PySem.Expr} {ps : List PySem.Expr} (h1 : L2.PE X p (TE G P own call n e W)) (h2 : L2.PA X ps (TN G P own call ns es W)) (hs : isStar p = false) : L2.PA X (p :: ps) (TN G P own call (n :: ns) (.cons e es) W) := by
  refine pa_conseq (L2.pa_cons h1 h2 (starEach_ok hs)) fun σ H Q ⟨r, S, Xs, s, q⟩ => ⟨r, S, Xs, s, ?_⟩
  simp only [evs] at q
  refine (q.bind .refl).mono fun v H1 ⟨d, r1, S1, Xs1, Y1, e1, t1, s1, a1, f1, g1, q1⟩ => ⟨r1, S1, Xs1, s1, ?_⟩
  refine (q1.bind (A := AirN G ns) t1).mono fun vs H2 ⟨ds, r2, S2, Xs2, Y2, e2, t2, s2, a2, f2, g2, q2⟩ => ?_
  refine q2 (v :: vs) H2 S2 Xs2 (Y1 ++ Y2) (t1.trans t2) s2 ?_ (f1.append t2 f2 g2) fun a ha => ?_
  · exact ⟨v, vs, Y1, Y2, rfl, Ow.step a1 f1 t2 s1.dis, a2, rfl⟩
  · exact (List.mem_append.mp ha).elim (g1 a) (gback t1 g2 a)
/-- the stores -/
def setAll : St → List Nat → List V → St
  | σ, i :: is, v :: vs => setAll (σ.set i (some v)) is vs
  | σ, _, _ => σ
theorem fresh_split {Y Z : List Addr} {H : Hp} {S : Addr → Prop} {Xs : Parts} (f : Fresh (Y ++ Z) H S Xs) (i : Nat) : Fresh Y H S Xs ∧ Fresh Z H S (Xs.set i Y) := by
  obtain ⟨n1, n2, n3⟩ := List.nodup_append.mp f.nod
  refine ⟨⟨n1, fun a h => f.disS a (List.mem_append_left _ h), fun a h => f.disW a (List.mem_append_left _ h), fun a h => f.dom a (List.mem_append_left _ h)⟩,
    ⟨n2, fun a h => f.disS a (List.mem_append_right _ h), fun a h ⟨W, hW, ha⟩ => ?_, fun a h => f.dom a (List.mem_append_right _ h)⟩⟩
  rcases List.mem_or_eq_of_mem_set hW with z | z
  · exact f.disW a (List.mem_append_right _ h) ⟨W, z, ha⟩
  · subst z; exact n3 a ha a h rfl
theorem store_all : ∀ {is : List Nat} {ds : List D} {vs : List V} {Y : List Addr} {r r' : Env} {σ : St} {H : Hp} {S : Addr → Prop} {Xs : Parts}, StR G own r σ H S Xs → OwN (Ow G S H) (is.map fun i => own.getD i 0) ds vs Y → Fresh Y H S Xs → stTgs (is.map .v) ds r = some r' →
    ∃ Xs', StR G own r' (setAll σ is vs) H S Xs' ∧ (∀ {H0 : Hp} {S0 : Addr → Prop} {Xs0 : Parts}, Step S0 Xs0 H0 S Xs H → (∀ a ∈ Y, inW Xs0 a ∨ H0 a = none) → Step S0 Xs0 H0 S Xs' H) ∧ vs.length = is.length
  | [], [], vs, Y, r, r', σ, H, S, Xs, s, o, f, e => by
    obtain ⟨rfl, rfl⟩ := o
    simp only [List.map_nil, stTgs] at e
    cases e
    exact ⟨Xs, s, fun t _ => t, rfl⟩
  | [], _ :: _, _, _, _, _, _, _, _, _, _, _, _, e => by simp only [List.map_nil, stTgs] at e; cases e
  | _ :: _, [], _, _, _, _, _, _, _, _, _, _, _, e => by simp only [List.map_cons, stTgs] at e; cases e
  | i :: is, d :: ds, vs, Y, r, r', σ, H, S, Xs, s, o, f, e => by
    obtain ⟨v, ws, Y1, Z, rfl, o1, o2, rfl⟩ := o
    simp only [List.map_cons, stTgs, stTg] at e
    obtain ⟨f1, f2⟩ := fresh_split f i
    obtain ⟨s1, k1⟩ := s.store o1 f1
    obtain ⟨Xs', s2, k2, l2⟩ := store_all (is := is) s1 o2 f2 e
    exact ⟨Xs', s2, fun t g => k2 (k1 t fun a h => g a (List.mem_append_left _ h)) fun a h => g a (List.mem_append_right _ h), by simp [l2]⟩
theorem fixed_all : ∀ {is : List Nat} {vs : List V} {σ : St}, Fixed fx σ → (fx = none ∨ 0 ∉ is) → Fixed fx (setAll σ is vs)
  | [], _, _, h, _ => h
  | i :: is, [], _, h, _ => h
  | i :: is, v :: vs, σ, h, h0 => by
    refine fixed_all (is := is) (h.set (h0.imp id fun z y => z (by simp [← y]))) (h0.imp id fun z y => z (List.mem_cons_of_mem _ y))
/-- the value's stores, swapped -/
theorem par_read {is : List Nat} {es : Es} {D : L2.Ends} {σ : St} {H : Hp} (h0 : fx = none ∨ 0 ∉ is) (h : TS1 G P own rt fx call wf (.par is es) W D σ H) : TN G P own call (is.map fun i => own.getD i 0) es W σ H fun vs H1 => vs.length = is.length ∧ D.nx (setAll σ is vs) H1 := by
  obtain ⟨r, S, Xs, s, fxs, q⟩ := h
  refine ⟨r, S, Xs, s, ?_⟩
  simp only [ex] at q
  refine (q.sr (A := AirN G _) fxs .refl).mono fun vs H1 ⟨ds, r1, S1, Xs1, Y1, t1, s1, a1, f1, g1, q1⟩ => ?_
  cases e1 : stTgs (is.map .v) ds r1 with
  | none => simp only [e1] at q1; exact q1.elim
  | some r2 =>
    simp only [e1] at q1
    obtain ⟨Xs', s2, k, hl⟩ := store_all s1 a1 f1 e1
    exact ⟨hl, q1 _ H1 S1 Xs' (k t1 g1) s2 (fixed_all fxs h0)⟩
theorem x_par2 {i j : Nat} {es : Es} {x y : Str} {a b : PySem.Expr} {px py pt : Pos} {kt k2 : Nat} {pt2 : Pos} (hc : X.calm = true) (hN : X.N.Nodup) (hi : X.N[i]? = some x) (hj : X.N[j]? = some y) (hij : i ≠ j) (hx : X.env.scope.names.lookup x = some .local) (hy : X.env.scope.names.lookup y = some .local)
    (ha : L2.PA X [a, b] (TN G P own call [own.getD i 0, own.getD j 0] es W)) (hw : swappedStores [.Tuple [.Name x px, .Name y py] kt pt] (.Tuple [a, b] k2 pt2) X.env = pure (some [x, y])) (h0 : fx = none ∨ 0 ∉ [i, j]) :
    L2.PS X (.Assign [.Tuple [.Name x px, .Name y py] kt pt] (.Tuple [a, b] k2 pt2) pos) (TS1 G P own rt fx call wf (.par [i, j] es) W) := by
  refine ps_conseq (L2.ps_par hc hN hi hj hij hx hy ha hw) fun D σ H h => ?_
  have q := par_read h0 h
  obtain ⟨r, S, Xs, s, q⟩ := q
  refine ⟨r, S, Xs, s, q.mono fun vs H1 ⟨hl, k⟩ => ?_⟩
  rcases vs with _ | ⟨v, _ | ⟨w, _ | ⟨u, vs⟩⟩⟩ <;> simp at hl
  exact ⟨v, w, rfl, k⟩
theorem x_par3 {i j l : Nat} {es : Es} {x y z : Str} {a b c : PySem.Expr} {px py pz pt : Pos} {kt k2 : Nat} {pt2 : Pos} (hc : X.calm = true) (hN : X.N.Nodup) (hi : X.N[i]? = some x) (hj : X.N[j]? = some y) (hl : X.N[l]? = some z) (hij : i ≠ j) (hil : i ≠ l) (hjl : j ≠ l)
    (hx : X.env.scope.names.lookup x = some .local) (hy : X.env.scope.names.lookup y = some .local) (hz : X.env.scope.names.lookup z = some .local)
    (ha : L2.PA X [a, b, c] (TN G P own call [own.getD i 0, own.getD j 0, own.getD l 0] es W)) (hw : swappedStores [.Tuple [.Name x px, .Name y py, .Name z pz] kt pt] (.Tuple [a, b, c] k2 pt2) X.env = pure (some [x, y, z])) (h0 : fx = none ∨ 0 ∉ [i, j, l]) :
    L2.PS X (.Assign [.Tuple [.Name x px, .Name y py, .Name z pz] kt pt] (.Tuple [a, b, c] k2 pt2) pos) (TS1 G P own rt fx call wf (.par [i, j, l] es) W) := by
  refine ps_conseq (L2.ps_par3 hc hN hi hj hl hij hil hjl hx hy hz ha hw) fun D σ H h => ?_
  have q := par_read h0 h
  obtain ⟨r, S, Xs, s, q⟩ := q
  refine ⟨r, S, Xs, s, q.mono fun vs H1 ⟨hl, k⟩ => ?_⟩
  rcases vs with _ | ⟨v, _ | ⟨w, _ | ⟨u, _ | ⟨u2, vs⟩⟩⟩⟩ <;> simp at hl
  exact ⟨v, w, u, rfl, k⟩
/-! ### name += e, of ints -/
theorem x_aug {i : Nat} {o : BOp} {op : Operator} {x : Str} {e : E} {pe : PySem.Expr} {p1 : Pos} {f : Int → Int → Int} (hN : X.N.Nodup) (hi : X.N[i]? = some x) (hl : L2.Loc X.env.scope x) (he : L2.PE X pe (TE G P own call 0 e W)) (hp : L2.PIp X op (L2.ipI f)) (hf : X.fn x = true ∨ X.env.scope.names.lookup x = some .local)
    (hd : ∀ {a b c : D}, augD o a b = some c → ∃ m n, a = .int m ∧ b = .int n ∧ c = .int (f m n)) (h0 : fx = none ∨ i ≠ 0) : L2.PS X (.AugAssign (.Name x p1) op pe pos) (TS1 G P own rt fx call wf (.aug i o e) W) := by
  refine ps_conseq (L2.ps_aug hN hi hl he hp hf) fun D σ H ⟨r, S, Xs, s, fxs, q⟩ => ?_
  simp only [ex] at q
  rcases getV_cases r i with hb | ⟨d0, h0', hg⟩
  · rw [hb] at q; exact q.elim
  · rw [hg, ok_sr] at q
    obtain ⟨v, hv, o1⟩ := s.slot i d0 h0'
    refine ⟨v, hv, r, S, Xs, s, ?_⟩
    refine (q.sr (A := AirE G 0) fxs .refl).mono fun w H1 ⟨d, r1, S1, Xs1, Y1, t1, s1, a1, f1, g1, q1⟩ => ?_
    cases hm : augD o d0 d with
    | none => rw [hm] at q1; exact q1.elim
    | some c =>
      rw [hm] at q1
      obtain ⟨m, n, rfl, rfl, rfl⟩ := hd hm
      have o2 := (o1.rep rfl).1
      cases o2
      have a2 := a1.1
      cases a2
      refine ⟨m, n, rfl, rfl, ?_⟩
      obtain ⟨s2, k⟩ := s1.store (i := i) (d := .int (f m n)) (v := .int (f m n)) (Y := []) (.flat (.int _) rfl) .nil
      exact q1 _ H1 S1 _ (k t1 fun _ z => nomatch z) s2 (fxs.set h0)
theorem aug_add {a b c : D} (h : augD .add a b = some c) : ∃ m n, a = .int m ∧ b = .int n ∧ c = .int (m + n) := by
  cases a <;> cases b <;> simp only [augD] at h <;> try (cases h; done)
  cases h; exact ⟨_, _, rfl, rfl, rfl⟩
theorem aug_sub {a b c : D} (h : augD .sub a b = some c) : ∃ m n, a = .int m ∧ b = .int n ∧ c = .int (m - n) := by
  cases a <;> cases b <;> simp only [augD] at h <;> try (cases h; done)
  cases h; exact ⟨_, _, rfl, rfl, rfl⟩
end
end LW
end

section
set_option Elab.async false
set_option maxRecDepth 100000
set_option maxHeartbeats 1000000
/-! Sound19: try with any clauses, named or not. -/
namespace LW
open PySem PySem.Spec PyProof.Rows
abbrev Suite := Addr → Value → Option Addr → L2.TS
abbrev Clause := Value × Option Nat × Suite
/-- the named exception's slot is emptied at each end -/
def endsGone (i : Nat) (D : L2.Ends) : L2.Ends := { nx := fun τ B => D.nx (τ.set i none) B, rt := D.rt, bk := fun τ B => D.bk (τ.set i none) B, ct := fun τ B => D.ct (τ.set i none) B }
def wCl (K : PySem.W.Frag) (Wout : WX) (D : L2.Ends) : List Clause → WX
  | [] => Wout
  | (c, some i, ts) :: r => fun cls d σ H => ∃ b, PySem.W.exmOne K cls c = some b ∧ (b = true → ∀ a, H a = none → ts a cls d (endsGone i D) (σ.set i (some (.ref a))) H) ∧ (b = false → wCl K Wout D r cls d σ H)
  | (c, none, ts) :: r => fun cls d σ H => ∃ b, PySem.W.exmOne K cls c = some b ∧ (b = true → ∀ a, H a = none → ts a cls d D σ H) ∧ (b = false → wCl K Wout D r cls d σ H)
/-- the clauses as they are written; named ones name a local slot -/
inductive ClOk (X : L2.Cx) : List ExceptHandler → List Clause → Prop
  | nil : ClOk X [] []
  | bare {x : Str} {c : Value} {ts : Suite} {st : PySem.Stmt} {sts : List PySem.Stmt} {p1 p2 : Pos} {hs : List ExceptHandler} {l : List Clause} (nm : L2.Names X x c)
      (run : ∀ (a : Addr) (oe : Obj) (cls : Value) (d : Option Addr) (pn : List (Addr × Obj)), L2.Zc cls d oe → (∃ vs, oe.data = .fields vs) → L2.PSs (X.suite a ((a, oe) :: pn)) (st :: sts) (ts a cls d)) (r : ClOk X hs l) :
      ClOk X (.ExceptHandler (some (.Name x p1)) none (st :: sts) p2 :: hs) ((c, none, ts) :: l)
  | named {x n : Str} {c : Value} {i : Nat} {ts : Suite} {st : PySem.Stmt} {sts : List PySem.Stmt} {p1 p2 : Pos} {hs : List ExceptHandler} {l : List Clause} (nm : L2.Names X x c) (hi : X.N[i]? = some n) (hl : X.env.kindOf n = some .local)
      (run : ∀ (a : Addr) (oe : Obj) (cls : Value) (d : Option Addr) (pn : List (Addr × Obj)), L2.Zc cls d oe → (∃ vs, oe.data = .fields vs) → L2.PSs (X.suite a ((a, oe) :: pn)) (st :: sts) (ts a cls d)) (r : ClOk X hs l) :
      ClOk X (.ExceptHandler (some (.Name x p1)) (some n) (st :: sts) p2 :: hs) ((c, some i, ts) :: l)
section
variable {X : L2.Cx} {body : List PySem.Stmt} {hd : ExceptHandler} {hds : List ExceptHandler} {l : List Clause} {pos : Pos} {tb : WX → L2.TS} {Wout : WX}
/-- a caught exception, ahead of the clauses -/
structure Caught (X : L2.Cx) (pins : List (Addr × Obj)) (σ : St) (H : Hp) (a : Addr) (cls : Value) (d : Option Addr) (B : Heap) (s : Shared) : Prop where
  inv : L2.Inv X pins σ H s
  fly : HandSPX.FlyingZ B X.stack a (L2.Zc cls d) s.heap
  noH : H a = none
  noL : a ≠ X.env.locals
  noF : a ∉ X.fs
theorem Caught.suite {pins : List (Addr × Obj)} {σ : St} {H : Hp} {a : Addr} {cls : Value} {d : Option Addr} {B : Heap} {s : Shared} (c : Caught X pins σ H a cls d B s) : ∃ oe vs, s.heap.get? a = some oe ∧ L2.Zc cls d oe ∧ oe.data = .fields vs ∧ L2.Inv (X.suite a ((a, oe) :: (X.pn ++ pins))) [] σ H s := by
  obtain ⟨oe, vs, e1, e2, e3⟩ := c.fly.there
  exact ⟨oe, vs, e1, e2, e3, c.inv.suite e1 e3 c.noH c.noL c.noF⟩
theorem Caught.test {pins : List (Addr × Obj)} {σ : St} {H : Hp} {a : Addr} {cls : Value} {d : Option Addr} {B : Heap} {s : Shared} (k : Caught X pins σ H a cls d B s) {x : Str} {c : Value} {p : Pos} {b : Bool} (nm : L2.Names X x c) (eb : PySem.W.exmOne X.K cls c = some b) {Q : Bool → Shared → Prop} {E : Value → Shared → Prop} (q : Q b s) :
    wpAny (model X.prog X.w) (X.A.mark (some (.ref a))) (eval (.Name x p) X.env) (fun v s1 => wpAny (model X.prog X.w) (X.A.mark (some (.ref a))) (excMatches (.ref a) v) Q E s1) E s := by
  obtain ⟨oe, vs, e1, e2, _, J⟩ := k.suite
  have ty : PySem.W.Looks (model X.prog X.w) s.heap (typeOf (.ref a)) cls := fun A Q E s k q => wpAny_typeOf_ref (k _ _ e1) (by rw [e2.1]; exact q)
  have fit : wpAny (model X.prog X.w) (X.A.mark (some (.ref a))) (excMatches (.ref a) c) Q E s := (PySem.W.exm_one (M := model X.prog X.w) k.inv.kIn ty eb).here q
  obtain ⟨hg, dbg, hm | ⟨hm, hv, hn⟩⟩ := nm
  · exact L2.ld_glob J hg hm fit dbg
  · exact L2.ld_blt J hg hm hv fit hn dbg
/-- the clauses' tests and suites, one after the other -/
theorem clauses {pins : List (Addr × Obj)} {σ : St} {H : Hp} {a : Addr} {cls : Value} {d : Option Addr} {B : Heap} {s : Shared} {D : L2.Ends} (ok : X.Ok) (hN : X.N.Nodup) (k : Caught X pins σ H a cls d B s)
    (again : ∀ h', B.StaysIn h' → s.heap.UpToSlots h' → L2.Inv X pins σ H { s with heap := h' })
    (out : Wout cls d σ H → wpAny (model X.prog X.w) X.A (PySem.passOn "try.no-clause-matches" (.ref a) X.env : Sem Flow) (L2.SP X pins D) X.xe s) :
    ∀ {hs : List ExceptHandler} {l : List Clause}, ClOk X hs l → wCl X.K Wout D l cls d σ H → wpAny (model X.prog X.w) X.A (handleBy (.ref a) X.env hs) (L2.SP X pins D) X.xe s
  | _, _, .nil, w => wpAny_handleBy_nil (out w)
  | _, _, .bare nm run r, ⟨b, eb, yes, no⟩ => by
    refine wpAny_handleBy_cons (codeAny_handlers_test (k.test nm eb ?_)) fun z => nomatch z
    cases b with
    | false => exact clauses ok hN k again out r (no rfl)
    | true =>
      refine codeAny_handlers_suite (HandSPX.lands_againZ k.fly fun h2 f2 u2 => ?_)
      have k2 : Caught X pins σ H a cls d B { s with heap := h2 } := ⟨again h2 f2.1 u2, f2, k.noH, k.noL, k.noF⟩
      obtain ⟨oe, vs, _, e2, e3, J⟩ := k2.suite
      refine wpAny_mono ((run a oe cls d _ e2 ⟨vs, e3⟩).run [] _ σ H D J (yes rfl a k.noH)) (fun fl s3 z => ?_) fun _ _ z => z.elim
      match fl, z with
      | .next, ⟨τ, B', J', q⟩ => exact ⟨τ, B', J'.unsuite ok, q⟩
      | .brk, ⟨τ, B', J', q⟩ => exact ⟨τ, B', J'.unsuite ok, q⟩
      | .cont, ⟨τ, B', J', q⟩ => exact ⟨τ, B', J'.unsuite ok, q⟩
      | .ret u, ⟨v, τ, B', J', rv, q⟩ => exact ⟨v, τ, B', J'.unsuite ok, rv, q⟩
  | _, _, .named (n := n) (p2 := p2) nm hi hl run r, ⟨b, eb, yes, no⟩ => by
    refine wpAny_handleBy_cons (codeAny_handlers_test (k.test nm eb ?_)) fun z => nomatch z
    cases b with
    | false => exact clauses ok hN k again out r (no rfl)
    | true =>
      refine codeAny_handlers_suite_as (HandSPX.lands_againZ k.fly fun h2 f2 u2 => ?_)
      have k2 : Caught X pins σ H a cls d B { s with heap := h2 } := ⟨again h2 f2.1 u2, f2, k.noH, k.noL, k.noF⟩
      obtain ⟨oe, vs, _, e2, e3, J⟩ := k2.suite
      refine L2.store_ok (X := X.suite a ((a, oe) :: (X.pn ++ pins))) (v := .ref a) J hN hi (.inl hl) rfl (fun s2 J2 => ?_) (.inr hl)
      refine wpAny_mono ((run a oe cls d _ e2 ⟨vs, e3⟩).run [] s2 _ H _ J2 (yes rfl a k.noH)) (fun fl s3 z => ?_) fun _ _ z => z.elim
      match fl, z with
      | .next, ⟨τ, B', J', q⟩ => exact L2.gone_ok (J'.unsuite ok) hN hi hl fun s4 J4 => ⟨_, _, J4, q⟩
      | .brk, ⟨τ, B', J', q⟩ => exact L2.gone_ok (J'.unsuite ok) hN hi hl fun s4 J4 => ⟨_, _, J4, q⟩
      | .cont, ⟨τ, B', J', q⟩ => exact L2.gone_ok (J'.unsuite ok) hN hi hl fun s4 J4 => ⟨_, _, J4, q⟩
      | .ret u, ⟨v, τ, B', J', rv, q⟩ => exact L2.gone_ok (J'.unsuite ok) hN hi hl fun s4 J4 => ⟨v, _, _, J4, rv, q⟩
theorem ps_tryG (top : X.stack = X.env :: X.outer) (fr : X.env.frame = some X.env.locals) (hN : X.N.Nodup) (tk : L2.Takes X Wout)
    (hb : ∀ (W : WX) (pn : List (Addr × Obj)) (xe : Value → Shared → Prop), L2.Takes (X.tr pn xe) W → PassesOwn (model X.prog X.w) X.A X.env xe → L2.PSs (X.tr pn xe) body (tb W)) (cl : ClOk X (hd :: hds) l) :
    L2.PS X (.Try body (hd :: hds) [] [] pos) (fun D σ H => tb (wCl X.K Wout D l) D σ H) := by
  refine ⟨fun pins s σ H D I h => ?_⟩
  have ok := I.ok
  have frs : X.A.frames = some (X.env :: X.outer) := ok.frames.trans (congrArg some top)
  refine wpAny_Try_except (wpAny_mono ((hb (wCl X.K Wout D l) (X.pn ++ pins) _ (fun u s' xx => ?_) PassesOwn.looking).run [] s σ H D (I.toTry _) h) (fun fl s1 z => ?_) fun _ _ z => z)
  · obtain ⟨a, B, sI, pins', τ, H', cls, d, rfl, J', nb, up, sky, na, os, bare, w⟩ := xx
    have J : L2.Inv X pins τ H' sI := J'.ofTry ok
    refine L2.Sky.land L2.Zc.steady frs fr (by rw [← top]; exact sky) fun h2 f2 u2 => ?_
    have fly : HandSPX.FlyingZ B X.stack a (L2.Zc cls d) h2 := by rw [top]; exact f2
    obtain ⟨oe, vs, e1, _, e3⟩ := f2.there
    have apart : a ∉ L2.frs (X.env :: X.outer) := fun hm => by
      obtain ⟨_, o, e, hnf⟩ := f2.2.2.1.mem hm
      rw [e1] at e; cases e
      exact hnf _ e3
    have k : Caught X pins τ H' a cls d B { s' with heap := h2 } := ⟨J.landed nb f2.1 (up.trans u2) os bare, fly, na, fun z => apart (List.mem_filterMap.mpr ⟨X.env, List.mem_cons_self, by rw [fr, z]⟩), fun hm => by
      obtain ⟨e, he, q⟩ := List.mem_filterMap.mp hm
      exact apart (List.mem_filterMap.mpr ⟨e, List.mem_cons_of_mem _ he, q⟩)⟩
    refine clauses ok hN k (fun h3 st u3 => J.landed nb st ((up.trans u2).trans u3) os bare) (fun w' => ?_) cl w
    obtain ⟨_, _, _, oe', vs', T, oT, ts', he, hz, hd', h1, hr⟩ := id f2
    unfold PySem.passOn
    refine wpAny_bind (wpAny_field he hd' h1 ?_)
    rw [if_neg (show ¬ ((Value.ref T == Value.none) = true) from by simp)]
    have fin : wpAny (model X.prog X.w) X.A (setFlight (.ref a) X.env.frame) (fun _ s4 => wpAny (model X.prog X.w) X.A (throw (.ref a) : Sem Flow) (L2.SP X pins D) X.xe s4) X.xe { s' with heap := h2 } := by
      rw [fr]
      refine HandSPX.setFlight_upZ f2 fun h3 held u3 => wpAny_throw (tk _ _ ⟨a, B, sI, pins, τ, H', cls, d, rfl, J, nb, (up.trans u2).trans u3, .inr (.inr ?_), na, os, bare, w'⟩)
      rw [top]; exact held
    first
      | exact wpAny_bind (wpAny_pure (wpAny_bind fin))
      | exact wpAny_bind fin
  · match fl, z with
    | .next, ⟨τ, H', J', q⟩ => exact wpAny_execs_nil ⟨τ, H', J'.ofTry ok, q⟩
    | .brk, ⟨τ, H', J', q⟩ => exact ⟨τ, H', J'.ofTry ok, q⟩
    | .cont, ⟨τ, H', J', q⟩ => exact ⟨τ, H', J'.ofTry ok, q⟩
    | .ret u, ⟨v, τ, H', J', rv, q⟩ => exact ⟨v, τ, H', J'.ofTry ok, rv, q⟩
end
end LW
end

section
set_option Elab.async false
set_option maxRecDepth 100000
set_option maxHeartbeats 1000000
/-! Sound20: try; a named exception's fields. -/
namespace LW
open PySem
section
variable {G : Geo} {P : Prog} {own own' : Own} {rt : Nat} {fx : Option V} {call : Nat → List D → CR} {wf : Nat} {X : L2.Cx} {W : WX} {pos : Pos}
def ownX (own : Own) (a : Addr) (d : Option Addr) (ns : List Nat) : Own := { own with xc := some (a, d, ns) }
theorem clr_get (r : Env) (i : Nat) : (clr r)[i]? = (r[i]?).map fun o => match o with | some d => if isX d then none else some d | none => none := by
  unfold clr; rw [List.getElem?_map] <;> rfl
theorem rd_clr (r : Env) (i : Nat) : rd (clr r) i = rd r i := by
  unfold rd
  rw [clr_get]
  cases r[i]? with
  | none => rfl
  | some o => cases o with
    | none => rfl
    | some d =>
      cases h : isX d with
      | true => simp [h]
      | false => simp [h]
theorem clr_noX (r : Env) (i c : Nat) (fs : List D) : (clr r)[i]? ≠ some (some (.exc c fs)) := by
  rw [clr_get]
  cases r[i]? with
  | none => simp
  | some o => cases o with
    | none => simp
    | some d =>
      cases h : isX d with
      | true => simp [h]
      | false =>
        simp [h]
        intro e; subst e
        simp [isX] at h
theorem StR.clr {r : Env} {σ : St} {H : Hp} {S : Addr → Prop} {Xs : Parts} (s : StR G own r σ H S Xs) (hl : own'.lv = own.lv) : StR G own' (LW.clr r) σ H S Xs := by
  refine ⟨by simpa [LW.clr] using s.len, by simpa [LW.clr] using s.lenX, fun i d e => ?_, fun i c fs e => absurd e (clr_noX r i c fs), s.nod, s.dis, s.dom, s.domW⟩
  rw [rd_clr] at e
  have : own'.getD i 0 = own.getD i 0 := by unfold Own.getD; rw [hl]
  rw [this]
  exact s.slot i d e
/-- into a suite -/
theorem StR.enter {r : Env} {σ : St} {H : Hp} {S : Addr → Prop} {Xs : Parts} (s : StR G own r σ H S Xs) (j : Nat) (a : Addr) (dd : Option Addr) (ns : List Nat) (c : Nat) (fs : List D) (x : XSl G (some (a, dd, ns)) H S fs (.ref a)) :
    StR G (ownX own a dd ns) ((LW.clr r).set j (some (.exc c fs))) (σ.set j (some (.ref a))) H S Xs := by
  have s1 : StR G (ownX own a dd ns) (LW.clr r) σ H S Xs := s.clr rfl
  refine ⟨by simpa using s1.len, by simpa using s1.lenX, fun i d e => ?_, fun i c' fs' e => ?_, s1.nod, s1.dis, s1.dom, s1.domW⟩
  · by_cases hi : i = j
    · subst hi
      have := (rd_some e).2
      have e2 := rd_self e
      subst e2
      simp [isX] at this
    · rw [rd_ne hi] at e
      rw [List.getElem?_set_ne (Ne.symm hi)]
      exact s1.slot i d e
  · by_cases hi : i = j
    · subst hi
      rw [List.getElem?_set] at e
      simp at e
      obtain ⟨hlt, rfl, rfl⟩ := e
      refine ⟨.ref a, ?_, x⟩
      rw [List.getElem?_set_self]
      rw [← s1.len]; exact hlt
    · rw [List.getElem?_set_ne (Ne.symm hi)] at e
      exact absurd e (clr_noX r i c' fs')
theorem pss_ex {α : Type} {p : List PySem.Stmt} {q : α → Prop} {t : α → L2.TS} (h : ∀ c, q c → L2.PSs X p (t c)) : L2.PSs X p (fun D σ H => ∃ c, q c ∧ t c D σ H) := ⟨fun pins s σ H D I ⟨c, hc, z⟩ => (h c hc).run pins s σ H D I z⟩
variable (G P own rt fx call wf) in
/-- a suite's reading -/
def suT (k : Nat) (j : Option Nat) (b : Ss) : Suite := fun a cls d => match j with
  | some _ => fun D σ H => ∃ c, (cls = .ref (G.ca c) ∧ P.exc c = true ∧ P.sub c k = true) ∧ TSs G P (ownX own a d (P.xfs c)) rt fx call wf b W0 D σ H
  | none => TSs G P own rt fx call wf b W0
variable (G P own rt fx call wf) in
/-- the clauses -/
def clsT (cv : Nat → Value) : Hs → List Clause
  | .nil => []
  | .cons k j b r => (cv k, j, suT G P own rt fx call wf k j b) :: clsT cv r
/-- the named slots are none that must stay -/
def hsFree : Hs → Bool
  | .nil => true
  | .cons _ (some j) _ r => (j != 0) && hsFree r
  | .cons _ none _ r => hsFree r
def hsExc (P : Prog) : Hs → Bool
  | .nil => true
  | .cons k _ _ r => P.exc k && hsExc P r
theorem exh_read {cv : Nat → Value} {K : PySem.W.Frag} (hx : ∀ c k, P.exc c = true → P.exc k = true → PySem.W.exmOne K (.ref (G.ca c)) (cv k) = some (P.sub c k)) {En : L2.Ends} {H : Hp} {S : Addr → Prop} {Xs : Parts} {c : Nat} {fs : List D} {r1 : Env} {σ' : St} {H' : Hp} {S' : Addr → Prop} {Xs' : Parts} {dd : Option Addr}
    (t : Step S Xs H S' Xs' H') (s : StR G own r1 σ' H' S' Xs') (fxs : Fixed fx σ') (x : ExcAt G P H S' Xs' H' c fs dd) :
    ∀ {hs : Hs}, hsExc P hs = true → (fx = none ∨ hsFree hs = true) → PostS G P own rt fx (exh P call wf hs c fs r1) H S Xs En W → wCl K W En (clsT G P own rt fx call wf cv hs) (.ref (G.ca c)) dd σ' H'
  | .nil, _, _, q => by
    simp only [exh] at q
    exact q σ' H' S' Xs' dd t s fxs x
  | .cons k j b hs, hke, hf, q => by
    simp only [hsExc, Bool.and_eq_true] at hke
    simp only [exh] at q
    cases he : P.exc c with
    | false => simp [he] at q; exact q.elim
    | true =>
      simp only [he, Bool.not_true, Bool.false_eq_true, if_false] at q
      cases hsub : P.sub c k with
      | false =>
        simp only [hsub, Bool.false_eq_true, if_false] at q
        have ih := exh_read hx t s fxs x (hs := hs) hke.2 (hf.imp id fun z => by cases j <;> simp [hsFree] at z; exact z; exact z.2) q
        cases j <;> exact ⟨false, by rw [hx c k he hke.1, hsub], (fun z => nomatch z), fun _ => ih⟩
      | true =>
        simp only [hsub, if_true] at q
        cases j with
        | none =>
          refine ⟨true, by rw [hx c k he hke.1, hsub], fun _ a na => ?_, fun z => nomatch z⟩
          simp only at q
          refine ⟨r1, S', Xs', s, fxs, ?_⟩
          have q' : PostS G P own rt fx (match exs P call wf b r1 with | .ex _ _ _ => .bad | z => z) H' S' Xs' En W := q.rebase t
          revert q'
          cases exs P call wf b r1 with
          | bad => exact fun z => z
          | nx r2 => exact fun z => z
          | ret d r2 => exact fun z => z
          | ex c' fs' r2 => exact fun z => z.elim
        | some j =>
          refine ⟨true, by rw [hx c k he hke.1, hsub], fun _ a na => ?_, fun z => nomatch z⟩
          simp only at q
          have hj : fx = none ∨ j ≠ 0 := hf.imp id fun z => by simp [hsFree] at z; exact z.1
          -- the dict's address is shared from here on
          obtain ⟨S2, t2, s2, xs⟩ : ∃ S2, Step S Xs H S2 Xs' H' ∧ StR G own r1 σ' H' S2 Xs' ∧ XSl G (some (a, dd, P.xfs c)) H' S2 fs (.ref a) := by
            cases fs with
            | nil => exact ⟨S', t, s, a, dd, P.xfs c, [], rfl, rfl, .inl rfl⟩
            | cons f fs =>
              obtain ⟨d, vs, rfl, h2, h3, h4, h5⟩ := x
              refine ⟨addS S' d, ⟨t.fr, t.dom, t.tup, fun b z => .inl (t.sS b z), fun b z => z.elim (t.oS b) fun e => .inr (.inr (by rw [e]; exact h5)), t.oW⟩, ?_, a, some d, P.xfs c, vs, rfl, rfl, .inr ⟨d, rfl, .inr rfl, h2, h3.mono (fun _ z => .inl z) (fun _ _ _ z => z) fun _ _ z => z⟩⟩
              exact s.kept (fun _ z => .inl z) (fun _ _ _ z => z) (fun _ _ z => z) (fun _ _ _ z => z) fun b z => z.elim (fun z => ⟨s.dis b z, s.dom b z⟩) fun e => by subst e; exact ⟨h4, _, h2⟩
          refine ⟨c, ⟨rfl, he, hsub⟩, _, S2, Xs', s2.enter j a dd (P.xfs c) c fs xs, fxs.set hj, ?_⟩
          have q' := PostS.rebase q t2
          have back : ∀ {r2 : Env} {τ : St} {B : Hp} {S3 : Addr → Prop} {Xs3 : Parts}, StR G (ownX own a dd (P.xfs c)) r2 τ B S3 Xs3 → StR G own ((clr r2).set j none) (τ.set j none) B S3 Xs3 := fun s3 => (s3.clr (own' := own) rfl).forget j none
          revert q'
          cases exs P call wf b ((clr r1).set j (some (.exc c fs))) with
          | bad => exact fun z => z
          | nx r2 => exact fun z τ B S3 Xs3 t3 s3 f3 => z _ B S3 Xs3 t3 (back s3) (f3.set hj)
          | ret d r2 => exact fun z v τ B S3 Xs3 Y t3 s3 f3 o fr g => z v _ B S3 Xs3 Y t3 (back s3) (f3.set hj) o fr g
          | ex c' fs' r2 => exact fun z => z.elim
theorem x_try {b : Ss} {hs : Hs} {pb : List PySem.Stmt} {hd : ExceptHandler} {hds : List ExceptHandler} {cv : Nat → Value} (top : X.stack = X.env :: X.outer) (fr : X.env.frame = some X.env.locals) (hN : X.N.Nodup) (tk : L2.Takes X W)
    (hx : ∀ c k, P.exc c = true → P.exc k = true → PySem.W.exmOne X.K (.ref (G.ca c)) (cv k) = some (P.sub c k)) (hke : hsExc P hs = true) (hf : fx = none ∨ hsFree hs = true)
    (hb : ∀ (W' : WX) (pn : List (Addr × Obj)) (xe : Value → Shared → Prop), L2.Takes (X.tr pn xe) W' → PassesOwn (model X.prog X.w) X.A X.env xe → L2.PSs (X.tr pn xe) pb (TSs G P own rt fx call wf b W'))
    (cl : ClOk X (hd :: hds) (clsT G P own rt fx call wf cv hs)) : L2.PS X (.Try pb (hd :: hds) [] [] pos) (TS1 G P own rt fx call wf (.tr b hs) W) := by
  refine ps_conseq (ps_tryG top fr hN tk hb cl) fun D σ H ⟨r, S, Xs, s, fxs, q⟩ => ⟨r, S, Xs, s, fxs, ?_⟩
  simp only [ex] at q
  revert q
  cases exs P call wf b r with
  | bad => exact fun z => z
  | nx r2 => exact fun z => z
  | ret d r2 => exact fun z => z
  | ex c fs r1 => exact fun z σ' H' S' Xs' dd t s' f' x => exh_read hx t s' f' x hke hf z
/-! ### e.f in a suite -/
theorem flds_lookup {G : Geo} : ∀ {ns : List Nat} {vs : List V} {k f : Nat} {v : V}, ns[k]? = some f → vs[k]? = some v → (∀ i g, i < k → ns[i]? = some g → G.fn g ≠ G.fn f) → (flds G ns vs).lookup (G.fn f) = some v
  | [], _, _, _, _, h, _, _ => by simp at h
  | _ :: _, [], _, _, _, _, h, _ => by simp at h
  | n :: ns, w :: vs, 0, f, v, h1, h2, _ => by
    simp at h1 h2; subst h1; subst h2
    simp [flds]
  | n :: ns, w :: vs, k + 1, f, v, h1, h2, h3 => by
    have hne : G.fn n ≠ G.fn f := h3 0 n (Nat.zero_lt_succ _) rfl
    rw [flds, List.lookup_cons]
    have : (G.fn f == G.fn n) = false := by simpa using Ne.symm hne
    rw [this]
    exact flds_lookup (ns := ns) (by simpa using h1) (by simpa using h2) fun i g hi hg => h3 (i + 1) g (Nat.succ_lt_succ hi) (by simpa using hg)
theorem pe_nameX {j : Nat} {x : Str} {X : L2.Cx} {p : Pos} (hN : X.N[j]? = some x) (hv : L2.Vis X.env.scope x) (hd : (x == ("__debug__" : Str)) = false) (hcd : (x == ("__classdict__" : Str)) = false) : L2.PE X (.Name x p) (L2.tVar j) := L2.pe_var hN hv hd hcd
theorem s_xf {n j k f c : Nat} {a : Addr} {oe : Obj} {d : Option Addr} {pn : List (Addr × Obj)} {x : Str} {p1 : Pos} (T : L2.XfC X.K (G.ca c)) (hno : PySem.W.findIn X.K (.ref (G.ca c)) (G.fn f) = some none) (hz : L2.Zc (.ref (G.ca c)) d oe) (hf : ∃ vs, oe.data = .fields vs) (hxc : own.xc = some (a, d, P.xfs c))
    (hN : X.N[j]? = some x) (hv : L2.Vis X.env.scope x) (hd : (x == ("__debug__" : Str)) = false) (hcd : (x == ("__classdict__" : Str)) = false) (hk : (P.xfs c)[k]? = some f) (hu : ∀ i g, i < k → (P.xfs c)[i]? = some g → G.fn g ≠ G.fn f) (hn : n = 0) :
    L2.PE (X.suite a ((a, oe) :: pn)) (.Attribute (.Name x p1) (G.fn f) pos) (TE G P own call n (.xf j k) W) := by
  subst hn
  refine pe_conseq (L2.pe_xf (X := X) T hno hz hf (pe_nameX (X := X.suite a ((a, oe) :: pn)) hN hv hd hcd) rfl) fun σ H Q ⟨r, S, Xs, s, q⟩ => ?_
  simp only [ev] at q
  split at q
  · rename_i c' fs e
    obtain ⟨v, hv, a', dd, ns, vs, h1, h2, h3⟩ := s.xsl j c' fs e
    rw [hxc] at h1
    cases h1
    obtain ⟨y, hy, q2⟩ := q.of
    refine ⟨v, hv, h2, rfl, ?_⟩
    rcases h3 with h3 | ⟨d0, h0, h4, h5, h6⟩
    · subst h3; simp at hy
    · obtain ⟨w, hw, rw'⟩ := h6.get hy
      exact ⟨d0, _, w, h0, h5, flds_lookup hk hw hu, q2.rep0 .refl s rw'⟩
  · exact q.elim
end
end LW
end

section
set_option Elab.async false
set_option maxRecDepth 100000
set_option maxHeartbeats 2000000
/-! XInit: an own exception class whose __init__ says super().__init__(x ..) and keeps its arguments. -/
namespace LW
open PySem PySem.Spec PyProof.Rows PySem.W
/-- what is asked of such a class: C its object, fI its __init__, st the def's text -/
structure XDef (K : Frag) (prog : Program) (C fI : Addr) (qual : Str) (st : PySem.Stmt) : Prop where
  ox : L2.OexC K C
  iC : findIn K (.ref C) "__init__" = some (some (.ref fI))
  tI : typeIn K (.ref fI) = some (.type "function")
  fn : ∃ (oc kV doc pm ct ccl cl : Value) (od an ccd cld : Option Addr) (osl ccs csl : Array (Option Value)) (cda cc : Addr) (vs : Array Value) (file : Str) (tf : Tok),
    K.lookup fI = some ⟨oc, od, .func (ksFn "__init__" qual (L2.defArgs st) (L2.defBody st) (L2.defScope st) .none kV doc pm an (.ref cda) ct cc), osl⟩ ∧ codeIn K (.ref cda) qual = true ∧
      K.lookup cda = some ⟨ccl, ccd, .fields vs, ccs⟩ ∧ vs[2]? = some (.str file tf) ∧ ((prog.main.file : Str) == file) = true ∧ K.lookup cc = some ⟨cl, cld, .cell (some (.ref C)), csl⟩
  sup : ks_superIn K C C "__init__" = some (some (.builtin "ValueError.__init__"))
  sv : subIn K (.ref C) (.type "ValueError") = some true
  op : nsIn K cStatics "thirdparty.any" = some none
  noSuper : nsIn K mainGlobals "super" = some none
  top : (prog.main.scope.names.lookup ("super" : Str)).isSome = false
section
variable {prog : Program} {w : World} {A : Around} {E : Value → Shared → Prop} {s : Shared} {K : Frag} {C fI : Addr} {qual : Str} {st : PySem.Stmt}
/-- the bound ValueError.__init__ called -/
theorem call_mw {x u : Addr} {t0 : Addr} {dv : Option Addr} {rest : List Value} {Q : Value → Shared → Prop} (T : L2.OexC K C) (KX : K.In s.heap) (hx : s.heap.get? x = some (excObj C t0 dv .none)) (hu : s.heap.get? u = some (kxs_mw "ValueError.__init__" x)) (hz : rest.length ≤ sizeLine)
    (h : ∀ t1 h', (∀ b o, b ≠ x → s.heap.get? b = some o → h'.get? b = some o) → h'.get? x = some (excObj C t1 dv .none) → Q .none { s with heap := h' }) : wpAny (model prog w) A (call (.ref u) rest) Q E s := by
  obtain ⟨nm, q, N, bs, bm, sn, sub, ab, col, dd, k0, k1, k2, k3, k5, hC, hbm⟩ := T.cls
  have hC' := KX _ _ hC
  obtain ⟨hh, g, d, tk, os⟩ := s
  refine wpAny_call (codeAny_of_tree ?_)
  show wpAny _ A.in1 (callAny (.ref u) ⟨rest, []⟩) _ _ _
  simp only [callAny]
  refine wpAny_bind (wpAny_load hu ?_)
  simp only [kxs_mw, show (Value.type "method-wrapper" == Value.type "method" || Value.type "method-wrapper" == Value.type "builtin_function_or_method" || Value.type "method-wrapper" == Value.type "method-wrapper") = true by decide, if_true]
  refine KFB.if_so (by decide) ?_
  refine wpAny_bind (check_bound_init F.excBase_ValueError.toExcCallFacts hC' hx rfl ?_)
  refine wpAny_bind (wpAny_pure (wpAny_pure ?_))
  refine ⟨plainId_quiet F.excBase_ValueError.init.plain _, codeAny_builtin F.excBase_ValueError.initEntry ?_⟩
  exact exc_init_tree (cls := .ref C) (t0 := t0) (dv := dv) (c2 := .none) (c3 := .none) (b4 := .bool false) hx hz fun h' k e _ => h _ h' k e
theorem boot_super : bootBuiltins "super" = some (.type "super") := by decide +kernel
/-- super() in __init__, and the method of it -/
theorem super_expr {x cda cc L t0 : Addr} {scope : Scope} {body : List PySem.Stmt} {m mg mb : Str → Option Value} {ar : Arg} {fd : FuncData} {oc ccl cl : Value} {od ccd cld : Option Addr} {osl ccs csl : Array (Option Value)} {vs : Array Value} {file : Str} {tf : Tok} {p0 p1 p2 p3 : Pos} {args : PySem.Expr} {argr : List PySem.Expr} {us : List Value} {Q : Value → Shared → Prop}
    (T : L2.OexC K C) (KX : K.In s.heap) (gl : s.heap.Ns mainGlobals mg) (hm : mg "super" = none) (bl : s.heap.Ns builtinsNs mb) (hmb : mb "super" = bootBuiltins "super")
    (lk : K.lookup fI = some ⟨oc, od, .func fd, osl⟩) (hp : (fd.params.posonlyargs ++ fd.params.args).head? = some ar) (lc : K.lookup cda = some ⟨ccl, ccd, .fields vs, ccs⟩) (hvs : vs[2]? = some (.str file tf)) (hfile : ((prog.main.file : Str) == file) = true)
    (lcc : K.lookup cc = some ⟨cl, cld, .cell (some (.ref C)), csl⟩) (sup : ks_superIn K C C "__init__" = some (some (.builtin "ValueError.__init__"))) (sv : subIn K (.ref C) (.type "ValueError") = some true) (op : nsIn K cStatics "thirdparty.any" = some none)
    (top : (prog.main.scope.names.lookup ("super" : Str)).isSome = false) (self1 : mroIn K C (.ref C) = some true)
    (hk : scope.kind = .function) (hks : scope.names.lookup ("super" : Str) = some .globalImplicit) (hkc : scope.names.lookup ("__class__" : Str) = some .free) (hka : scope.names.lookup ar.arg = some .local)
    (hns : s.heap.Ns L m) (hv : m ar.arg = some (.ref x)) (hx : s.heap.get? x = some (excObj C t0 none .none)) (hLx : L ≠ x) (hz : us.length ≤ sizeLine)
    (hargs : ∀ (s' : Shared) (Q' : List Value → Shared → Prop), s'.heap.Ns L m → Q' us s' → wpAny (model prog w) A (spliced (backTo p3 (starEach (args :: argr) (ksEnv qual scope L fI (.ref cda) cc)))) Q' E s')
    (he : starEach (args :: argr) (ksEnv qual scope L fI (.ref cda) cc) = (false, eval args (ksEnv qual scope L fI (.ref cda) cc)) :: starEach argr (ksEnv qual scope L fI (.ref cda) cc)) (hplain : (backTo p3 (starEach argr (ksEnv qual scope L fI (.ref cda) cc))).any (·.1) = false)
    {pl : Sem Bool} (hev : eval (.Call (.Attribute (.Call (.Name "super" p0) [] [] p1) "__init__" p2) (args :: argr) [] p3) (ksEnv qual scope L fI (.ref cda) cc) = (do
      let ov ← attributeBase (.Call (.Name "super" p0) [] [] p1) "__init__" (ksEnv qual scope L fI (.ref cda) cc) (eval (.Call (.Name "super" p0) [] [] p1) (ksEnv qual scope L fI (.ref cda) cc))
      standAt p2.atName
      let (f, first) ← holding [ov] (getMethod ov "__init__" pl)
      callWith p3 f first (backTo p3 (starEach (args :: argr) (ksEnv qual scope L fI (.ref cda) cc))) []))
    (h : ∀ t1 h' tk, (∀ b o, b ≠ x → s.heap.get? b = some o → h'.get? b = some o) → h'.get? x = some (excObj C t1 none .none) → Q .none { s with heap := h', toks := tk }) :
    _root_.PySem.wpAt (model prog w) A (.func body (ksEnv qual scope L fI (.ref cda) cc)) (eval (.Call (.Attribute (.Call (.Name "super" p0) [] [] p1) "__init__" p2) (args :: argr) [] p3) (ksEnv qual scope L fI (.ref cda) cc)) Q E s := by
  obtain ⟨nm, q, N, bs, bm, sn', sub, ab, col, dd, k0, k1, k2, k3, k5, hC, hbm⟩ := T.cls
  have hC' := KX _ _ hC
  have I : InstAt s.heap x (excObj C t0 none .none) C none := ⟨hx, rfl, rfl, trivial⟩
  refine ks_wpAt_MethodCall ?_ hev
  refine ks_wpAt_super_base (env := ksEnv qual scope L fI (.ref cda) cc) hks hkc (by decide) rfl (KX _ _ lk) rfl hp rfl (KX _ _ lc) rfl hvs hfile top ?_
  refine ks_loadName_global hk hks (Calls.loadGlobal_builtin (env := ksEnv qual scope L fI (.ref cda) cc) gl hm bl (hmb.trans boot_super) ⟨rfl, ?_⟩)
  refine wpAny_loadName_free hk hkc rfl ⟨_, KX _ _ lcc, rfl⟩ ?_
  refine wpAny_loadName_local hk hka hns hv ?_
  obtain ⟨hh, g, d, tk, os⟩ := s
  refine ks_wpAny_isType_cls hC' rfl ⟨rfl, ?_⟩
  refine ks_wpAny_call_super hC' rfl hx rfl (fun c z => nomatch z) (looks_mroIn KX self1) fun h1 e1 kp1 => ?_
  have X1 : K.In h1 := KX.keeps kp1
  have I1 : InstAt h1 x (excObj C t0 none .none) C none := ⟨kp1 _ _ hx, rfl, rfl, trivial⟩
  have hI : Looks (model prog w) h1 (isInstance (.ref x) (.type "ValueError")) true := I1.type.andThen (looks_subIn X1 sv)
  unfold ks_superIn at sup
  cases hc : clsIn K C with
  | none => rw [hc] at sup; cases sup
  | some cd =>
    rw [hc] at sup
    refine kxs_getMethod kxs_ValueError e1 (looks_opaque X1 op) (l₀ := cd.mro) (fun A Q E s k q => wpAny_bind ((looks_clsIn X1 hc) A _ E s k (wpAny_pure q))) rfl X1 sup hI (ks_ne X1 I1 hc) (by decide) ?_
    have kp2 : ∀ b o, hh.get? b = some o → (h1.push (kxs_mw "ValueError.__init__" x)).get? b = some o := fun b o z => Heap.get?_push_of_some _ (kp1 b o z)
    have hu : (h1.push (kxs_mw "ValueError.__init__" x)).get? h1.objs.size = some (kxs_mw "ValueError.__init__" x) := Heap.get?_push_at rfl rfl
    have hsp := hargs ⟨h1.push (kxs_mw "ValueError.__init__" x), g, d, tk + 1, os⟩ (fun vs s1 => KxsAt "ValueError.__init__" h1.objs.size x s1.heap ∧ wpAny (model prog w) A (call (.ref h1.objs.size) ([] ++ vs)) Q E s1) (hns.keeps kp2) ⟨hu, ?_⟩
    · rw [he] at hsp ⊢
      refine kxs_callWith (i := "ValueError.__init__") (x := x) (by show (false || (backTo p3 (starEach argr _)).any (·.1)) = false; rw [hplain]; rfl) (Calls.evalArgs_plain hsp)
    · refine call_mw T (KX.keeps kp2) (kp2 _ _ hx) hu hz fun t1 h' k e => h t1 h' _ (fun b o hb ho => k b o hb (kp2 b o ho)) e
/-- one kept argument -/
structure XBody1 (st : PySem.Stmt) (sn x f : Str) : Prop where
  body : ∃ p0 p1 p2 p3 p4 p5 p6 p7 p8 p9, L2.defBody st = [.Expr (.Call (.Attribute (.Call (.Name "super" p0) [] [] p1) "__init__" p2) [.Name x p3] [] p4) p5, .Assign [.Attribute (.Name sn p6) f p7] (.Name x p8) p9] ∧
    ∀ env : PySem.Env, ∃ pl : Sem Bool, eval (.Call (.Attribute (.Call (.Name "super" p0) [] [] p1) "__init__" p2) [.Name x p3] [] p4) env = (do
      let ov ← attributeBase (.Call (.Name "super" p0) [] [] p1) "__init__" env (eval (.Call (.Name "super" p0) [] [] p1) env)
      standAt p2.atName
      let (f, first) ← holding [ov] (getMethod ov "__init__" pl)
      callWith p4 f first (backTo p4 (starEach [.Name x p3] env)) [])
  par : ∃ a b, (L2.defArgs st).posonlyargs ++ (L2.defArgs st).args = [a, b] ∧ a.arg = sn ∧ b.arg = x
  cells : ∀ y ∈ (L2.defScope st).names, y.2 ≠ .cell
  co : (L2.defScope st).isCoroutine = false
  gen : (L2.defScope st).isGenerator = false
  kind : (L2.defScope st).kind = .function
  lsup : (L2.defScope st).names.lookup ("super" : Str) = some .globalImplicit
  lcls : (L2.defScope st).names.lookup ("__class__" : Str) = some .free
  lsn : (L2.defScope st).names.lookup sn = some .local
  lx : (L2.defScope st).names.lookup x = some .local
  ne : sn ≠ x
  d1 : (sn == ("__debug__" : Str)) = false
  d2 : (x == ("__debug__" : Str)) = false
theorem mro_self {cd : ClassData} {C : Addr} {K : Frag} (hcd : clsIn K C = some cd) {bm : List Value} (hm : cd.mro = .ref C :: bm) : mroIn K C (.ref C) = some true := by
  unfold mroIn
  rw [hcd, Option.bind_some, hm, if_neg (show ¬ (List.isEmpty (Value.ref C :: bm) = true) from Bool.false_ne_true)]
  simp
theorem XDef.run1 (T : XDef K prog C fI qual st) {sn x f : Str} (B : XBody1 st sn x f) {mg mb : Str → Option Value} {e t0 : Addr} {u : Value} {R : Result → Shared → Prop} (KX : K.In s.heap) (gl : s.heap.Ns mainGlobals mg) (bl : s.heap.Ns builtinsNs mb) (hmb : mb "super" = bootBuiltins "super") (lim : s.heap.NoLimit)
    (room : A.depth < recursionLimit) (he : s.heap.get? e = some (excObj C t0 none .none)) (hKe : K.lookup e = none) (hno : findIn K (.ref C) f = some none)
    (bind : ∀ (kV doc pm cdv ct : Value) (an : Option Addr) (cc : Addr), BindsTo s (ksFn "__init__" qual (L2.defArgs st) (L2.defBody st) (L2.defScope st) .none kV doc pm an cdv ct cc) ⟨[.ref e, u], []⟩ [(sn, .ref e), (x, u)])
    (h : ∀ h' tk dx t1, (∀ b o, b ≠ e → s.heap.get? b = some o → h'.get? b = some o) → s.heap.objs.size ≤ dx → dx ≠ e → h'.get? e = some (excObj C t1 (some dx) .none) → h'.Ns1 dx (fun y => if y = f then some u else none) → R (.ok (.ret .none)) { s with heap := h', toks := tk }) :
    codeAny (model prog w) A (.call (.ref fI) ⟨[.ref e, u], []⟩) R s := by
  obtain ⟨oc, kV, doc, pm, ct, ccl, cl, od, an, ccd, cld, osl, ccs, csl, cda, cc, vs, file, tf, lk, hcd, lc, hvs, hfile, lcc⟩ := T.fn
  obtain ⟨p0, p1, p2, p3, p4, p5, p6, p7, p8, p9, hb, hev⟩ := B.body
  obtain ⟨aa, ab, hpar, ea, eb⟩ := B.par
  obtain ⟨nm, q, N, bs, bm, sn', sub, abs, col, dd, k0, k1, k2, k3, k5, hC, hbm⟩ := T.ox.cls
  have hcl : clsIn K C = some { name := nm, bases := bs, mro := .ref C :: bm, ns := N, qualname := q, hasDict := true, slotNames := sn', subclasses := sub, abstract := abs, collection := col, hasDel := false } := by unfold clsIn; rw [hC] <;> rfl
  refine ks_codeAny_call_defAt (fd := ksFn "__init__" qual (L2.defArgs st) (L2.defBody st) (L2.defScope st) .none kV doc pm an (.ref cda) ct cc) (body := L2.defBody st) (binds := [(sn, .ref e), (x, u)]) room (KX _ _ lk) rfl lim (codeRec_of KX hcd) rfl (bind _ _ _ _ _ _ _) B.cells
    (fun y hy => ?_) (fun h0 hns kp => ?_) B.co B.gen B.kind
  · rcases List.mem_cons.mp hy with z | z
    · subst z; exact B.lsn
    · rw [List.mem_singleton.mp z]; exact B.lx
  show _root_.PySem.wpAt (model prog w) (A.deeper (ksEnv qual (L2.defScope st) s.heap.objs.size fI (.ref cda) cc)) (.func (L2.defBody st) (ksEnv qual (L2.defScope st) s.heap.objs.size fI (.ref cda) cc)) (execs (L2.defBody st) (ksEnv qual (L2.defScope st) s.heap.objs.size fI (.ref cda) cc)) _ _ _
  generalize hL : s.heap.objs.size = L at *
  have m1 : (fun y => List.lookup y [(sn, Value.ref e), (x, u)].reverse) sn = some (.ref e) := by
    show List.lookup sn [(x, u), (sn, .ref e)] = _
    rw [List.lookup_cons, show (sn == x) = false from by simpa using B.ne]
    simp
  have m2 : (fun y => List.lookup y [(sn, Value.ref e), (x, u)].reverse) x = some u := by
    show List.lookup x [(x, u), (sn, .ref e)] = _
    simp
  generalize (fun y => List.lookup y [(sn, Value.ref e), (x, u)].reverse) = m at hns m1 m2
  have lt : e < L := by rw [← hL]; exact Heap.lt_size he
  have hLe : L ≠ e := Nat.ne_of_gt lt
  have ldx : ∀ {A : Around} {E : Value → Shared → Prop} {s' : Shared} {p : Pos} {Q : Value → Shared → Prop}, s'.heap.Ns L m → Q u s' → wpAny (model prog w) A (eval (.Name x p) (ksEnv qual (L2.defScope st) L fI (.ref cda) cc)) Q E s' := fun hn hq => wpAny_Name (wpAny_loadName_local B.kind B.lx hn m2 hq) B.d2
  have lds : ∀ {A : Around} {E : Value → Shared → Prop} {s' : Shared} {p : Pos} {Q : Value → Shared → Prop}, s'.heap.Ns L m → Q (.ref e) s' → wpAny (model prog w) A (eval (.Name sn p) (ksEnv qual (L2.defScope st) L fI (.ref cda) cc)) Q E s' := fun hn hq => wpAny_Name (wpAny_loadName_local B.kind B.lsn hn m1 hq) B.d1
  rw [hb]
  refine ks_wpAt_execs_cons (ks_wpAt_Expr_any ?_ (by unfold interactive; rw [show (ksEnv qual (L2.defScope st) L fI (.ref cda) cc).scope.kind = .function from B.kind]; rfl))
  obtain ⟨pl, hev⟩ := hev (ksEnv qual (L2.defScope st) L fI (.ref cda) cc)
  refine super_expr (args := .Name x p3) (argr := []) (us := [u]) (m := m) (ar := aa) T.ox (KX.keeps kp) (gl.keeps kp) (mg_none_of KX gl T.noSuper) (bl.keeps kp) hmb lk (by show ((L2.defArgs st).posonlyargs ++ (L2.defArgs st).args).head? = some aa; rw [hpar]; rfl) lc hvs hfile lcc T.sup T.sv T.op T.top (mro_self hcl rfl) B.kind B.lsup B.lcls (by rw [ea]; exact B.lsn) hns (by rw [ea]; exact m1)
    (kp _ _ he) hLe (by rw [sizeLine_eq]; show 1 ≤ 16777216; decide) (fun s' Q' hn hq => ?_) rfl rfl hev fun t1 h1 tk1 k1 e1 => ?_
  · exact Calls.spliced_cons (ldx hn (Calls.spliced_nil hq))
  · have hn1 : h1.Ns L m := hns.at fun o z => k1 _ _ hLe z
    refine ks_wpAt_execs_cons (ks_wpAt_Assign_Attr (wpAt_of_wpAny (ldx hn1 (lds hn1 ?_))))
    have X1 : K.In h1 := fun b o z => k1 _ _ (fun y => by rw [y, hKe] at z; cases z) (kp _ _ (KX _ _ z))
    refine set_plain X1 (ox := excObj C t1 none .none) (od := none) ⟨e1, rfl, rfl, trivial⟩ T.ox.sa ?_
    refine HandSPX.exc_osa X1 e1 hcl (show HandSPX.refsVE (.ref C :: bm) = true from hbm) rfl hno fun h2 tk2 dx k2 hd hne e2 hn2 => ?_
    refine wpAt_of_wpAny (wpAny_execs_nil ?_)
    have sz : L ≤ h1.objs.size := by
      obtain ⟨oL, _, _, z, _⟩ := hn1
      exact Nat.le_of_lt (Heap.lt_size z)
    exact h h2 _ dx t1 (fun b o hb z => k2 b o hb (k1 b o hb (kp b o z))) (Nat.le_trans sz hd) hne e2 hn2
end
section
variable {X : L2.Cx} {W : WX}
/-- the heap behind the making, without the exception: its dict stands tracked -/
theorem made {pins : List (Addr × Obj)} {σ : St} {H1 : Hp} {Q : L2.XK} {s1 : Shared} {h2 : Heap} {tk : Nat} {C dx t1 : Addr} {fs : List (Str × V)} {m : Str → Option Value} (I1 : L2.Inv X pins σ H1 s1) (T : L2.OexC X.K C) {e : Addr} (hsz : s1.heap.objs.size ≤ e) (k : ∀ b o, s1.heap.get? b = some o → h2.get? b = some o)
    (hd : s1.heap.objs.size ≤ dx) (hne : dx ≠ e) (e2 : h2.get? e = some (excObj C t1 (some dx) .none)) (hn : h2.Ns1 dx m) (rel : ∀ f, L2.RelO (fs.lookup f) (m f)) (q : ∀ d, H1 d = none → Q (.ref C) (some d) (L2.upd H1 d (.xd fs))) : L2.MkP X pins σ Q (.ref e) { s1 with heap := h2, toks := tk } := by
  obtain ⟨Gh, g1, g2⟩ := L2.restrict h2 fun b => decide (b ≠ e)
  have gk : ∀ b, b ≠ e → Gh.get? b = h2.get? b := fun b hb => g1 b (decide_eq_true hb)
  have ge : Gh.get? e = none := g2 e (by simp)
  have kG : ∀ b o, s1.heap.get? b = some o → Gh.get? b = some o := fun b o z => by
    rw [gk b (Nat.ne_of_lt (Nat.lt_of_lt_of_le (Heap.lt_size z) hsz))]; exact k b o z
  have J : L2.Inv X pins σ (L2.upd H1 dx (.xd fs)) { s1 with heap := Gh, toks := tk } := I1.laid kG hd ⟨m, hn.at fun o z => (gk dx hne).trans z, rel⟩
  refine ⟨e, _, _, { s1 with heap := Gh, toks := tk }, _, .ref C, some dx, rfl, J, fun b o z => ?_, ge, e2, ⟨rfl, rfl⟩, rfl, rfl, ?_, rfl, I1.bare, L2.raises_own T.exC T.tyC, q dx (I1.hok.fresh hd)⟩
  · by_cases hb : b = e
    · rw [hb, ge] at z; cases z
    · exact (gk b hb).symm.trans z
  · rw [L2.upd_ne (Ne.symm hne)]; exact I1.hok.fresh hsz
theorem pmk_x1 {C fI : Addr} {qual : Str} {st : PySem.Stmt} {sn x f nm : Str} {k : Nat} {p pos : Pos} {a : PySem.Expr} {ta : L2.TE} (T : XDef X.K X.prog C fI qual st) (B : XBody1 st sn x f) (room : L2.Room (k + 1) X.A) (hno : findIn X.K (.ref C) f = some none)
    (bind : ∀ (s : Shared) (v u : Value) (kV doc pm cdv ct : Value) (an : Option Addr) (cc : Addr), BindsTo s (ksFn "__init__" qual (L2.defArgs st) (L2.defBody st) (L2.defScope st) .none kV doc pm an cdv ct cc) ⟨[v, u], []⟩ [(sn, v), (x, u)])
    (hg : L2.Gl X nm) (hm : X.mg nm = some (.ref C)) (hd : (nm == ("__debug__" : Str)) = false) (ha : L2.PE X a ta) (hs : isStar a = false) :
    L2.PMk X (.Call (.Name nm p) [a] [] pos) (fun σ H Q => ta σ H fun v H1 => ∀ d, H1 d = none → Q (.ref C) (some d) (L2.upd H1 d (.xd [(f, v)]))) := by
  intro pins s σ H Q I h
  obtain ⟨nm', q, N, bs, bm, sn', sub, abs, col, dd, k0, k1, k2, k3, k5, hC, hbm⟩ := T.ox.cls
  refine wpAny_Call_Name_kw (L2.ld_glob I hg hm ?_ hd)
  refine callWith_K (h₀ := X.base) I.ok.mod.kin T.ox.kC (L2.thn ((L2.pa_cons ha L2.pa_nil (starEach_ok hs)).run pos pins s σ H (fun vs H1 => match vs with | [v] => ∀ d, H1 d = none → Q (.ref C) (some d) (L2.upd H1 d (.xd [(f, v)])) | _ => False) I h) fun us s1 ⟨vs, H1, I1, r1, q1⟩ => ⟨I1.kIn, ?_⟩) (starEach_ok hs) rfl
  rcases vs with _ | ⟨v, _ | ⟨v2, vs⟩⟩ <;> try exact q1.elim
  obtain ⟨u, rfl, ru⟩ := L2.Vals.one r1
  show wpAny _ _ (call (.ref C) [u]) _ _ _
  obtain ⟨hp, g, dr, tk, os⟩ := s1
  have kin := I1.kIn
  obtain ⟨mb, hb1, hb2⟩ := I1.mod.blt
  have kk : ∀ b o, hp.get? b = some o → ((hp.push (kdv_tup [u])).push (HandSPX.excO C hp.objs.size)).get? b = some o := fun b o e => Heap.get?_push_of_some _ (Heap.get?_push_of_some _ e)
  have hget : ((hp.push (kdv_tup [u])).push (HandSPX.excO C hp.objs.size)).get? (hp.objs.size + 1) = some (HandSPX.excO C hp.objs.size) := by heap_get
  have sz2 : ((hp.push (kdv_tup [u])).push (HandSPX.excO C hp.objs.size)).objs.size = hp.objs.size + 2 := by rw [Heap.size_push, Heap.size_push]
  have r2 := room.make C [u] []
  refine wpAny_call (HandSPX.call_own F.excBase_ValueError (fun Y => HandSPX.refsVE_contains Y bm hbm) (kin _ _ hC) (looks_findIn kin T.iC) (fun self => bind_fn kin self T.tI) (by rw [sizeLine_eq]; show 1 ≤ 16777216; decide) ?_)
  refine T.run1 B (s := ⟨(hp.push (kdv_tup [u])).push (HandSPX.excO C hp.objs.size), g, dr, tk, os⟩) (mg := X.mg) (mb := mb) (Frag.In.keeps kin kk) ((I1.mod.glob.keeps I1.bk).keeps kk) ((hb1.keeps I1.bk).keeps kk) (hb2 _ (by decide)) (I1.nolimit.keeps kk) r2.depth hget ?_ hno (fun _ _ _ _ _ _ _ => bind _ _ _ _ _ _ _ _ _ _) fun h2 tk2 dx t1 k2 hsz hne e2 hn => ?_
  · cases z : X.K.lookup (hp.objs.size + 1) with
    | none => rfl
    | some o =>
      have z2 : hp.objs.size + 1 < hp.objs.size := Heap.lt_size (kin _ _ z)
      omega
  · rw [sz2] at hsz
    refine ⟨rfl, made I1 T.ox (Nat.le_succ _) (fun b o z => k2 b o (Nat.ne_of_lt (Nat.lt_succ_of_lt (Heap.lt_size z))) (kk b o z)) (by show hp.objs.size ≤ dx; omega) hne e2 hn (fun g => L2.relO_put (fs := []) (mA := fun _ => none) ru (fun _ => True.intro) g) q1⟩
end
end LW
end

section
set_option Elab.async false
set_option maxRecDepth 100000
set_option maxHeartbeats 1000000
/-! Sound21: raise; repr. -/
namespace LW
open PySem PySem.Spec PyProof.Rows
section
variable {G : Geo} {P : Prog} {own : Own} {rt : Nat} {fx : Option V} {call : Nat → List D → CR} {wf : Nat} {X : L2.Cx} {W : WX} {pos : Pos}
theorem x_rais1 {c fid k : Nat} {fI : Addr} {qual : Str} {st : PySem.Stmt} {sn x nm : Str} {p p2 : Pos} {a : E} {pa : PySem.Expr} (hc : X.calm = true) (tk : L2.Takes X W) (T : XDef X.K X.prog (G.ca c) fI qual st) (B : XBody1 st sn x (G.fn fid)) (room : L2.Room (k + 1) X.A)
    (hno : PySem.W.findIn X.K (.ref (G.ca c)) (G.fn fid) = some none) (hxf : P.xfs c = [fid])
    (bind : ∀ (s : Shared) (v u : Value) (kV doc pm cdv ct : Value) (an : Option Addr) (cc : Addr), BindsTo s (PySem.W.ksFn "__init__" qual (L2.defArgs st) (L2.defBody st) (L2.defScope st) .none kV doc pm an cdv ct cc) ⟨[v, u], []⟩ [(sn, v), (x, u)])
    (hg : L2.Gl X nm) (hm : X.mg nm = some (.ref (G.ca c))) (hd : (nm == ("__debug__" : Str)) = false) (ha : L2.PE X pa (TE G P own call 0 a W)) (hs : isStar pa = false) :
    L2.PS X (.Raise (some (.Call (.Name nm p) [pa] [] p2)) none pos) (TS1 G P own rt fx call wf (.rais c (.cons a .nil)) W) := by
  refine ps_conseq (L2.ps_raise hc tk (pmk_x1 T B room hno bind hg hm hd ha hs)) fun D σ H ⟨r, S, Xs, s, fxs, q⟩ => ⟨r, S, Xs, s, ?_⟩
  simp only [ex, evs] at q
  have q' : PostS G P own rt fx ((ev P call a r).sr fun d r1 => .ex c [d] r1) H S Xs D W := by
    revert q
    cases ev P call a r with
    | bad => exact fun z => z
    | ex c' fs r1 => exact fun z => z
    | ok d r1 => exact fun z => z
  refine (q'.sr (A := AirE G 0) fxs .refl).mono fun v H1 ⟨d, r1, S1, Xs1, Y1, t1, s1, a1, f1, g1, q1⟩ dx hdx => ?_
  have t2 : Step S1 Xs1 H1 S1 Xs1 (L2.upd H1 dx (.xd [(G.fn fid, v)])) := step_alloc hdx
  refine q1 σ _ S1 Xs1 (some dx) (t1.trans t2) (s1.alloc hdx) fxs ⟨dx, [v], rfl, ?_, .cons (a1.1.step t2 s1.dis) .nil, s1.notW_new hdx, t1.dom _ hdx⟩
  rw [L2.upd_same, hxf]
  rfl
/-! ### repr(x) != repr(y) -/
mutual
theorem sameD_eq : ∀ (x y : D), sameD x y = true → x = y := by
  intro x y h
  cases x <;> cases y <;> simp only [sameD] at h <;> first | rfl | (cases h; done) | (simp at h; subst h; rfl) | skip
  all_goals (congr 1; exact sameL_eq _ _ h)
theorem sameL_eq : ∀ (x y : List D), sameL x y = true → x = y
  | [], [], _ => rfl
  | [], _ :: _, h => by simp [sameL] at h
  | _ :: _, [], h => by simp [sameL] at h
  | x :: xs, y :: ys, h => by
    simp only [sameL, Bool.and_eq_true] at h
    rw [sameD_eq x y h.1, sameL_eq xs ys h.2]
end
theorem log12 {i : Int} (h : i.natAbs < 1000000000000) : i.natAbs.log2 < 40 := by
  rcases Nat.eq_zero_or_pos i.natAbs with z | z
  · rw [z]; decide
  · exact (Nat.log2_lt (by omega)).mpr (Nat.lt_of_lt_of_le h (by decide))
mutual
theorem short_ok : ∀ (n : Nat) (d : D), plain n d = true → short d = true → PyData.showable (pyD d) = true ∧ PyData.intsShort 13 (pyD d) = true ∧ PyData.weight (pyD d) ≤ wt d
  | _, .non, _, _ => ⟨rfl, rfl, Nat.le_refl _⟩
  | _, .bl _, _, _ => ⟨rfl, rfl, Nat.le_refl _⟩
  | _, .int i, _, h => by
    simp only [short, decide_eq_true_eq] at h
    have h2 := log12 h
    refine ⟨?_, ?_, ?_⟩
    · simp only [pyD, PyData.showable]; exact decide_eq_true (by omega)
    · simp only [pyD, PyData.intsShort]; exact decide_eq_true (PyData.shown_int_le h)
    · simp only [pyD, PyData.weight, wt]; split <;> omega
  | _, .str s, _, _ => ⟨rfl, rfl, by simp [pyD, PyData.weight, wt]⟩
  | n + 1, .tup xs, hp, h => by
    simp only [plain] at hp
    simp only [short] at h
    obtain ⟨a, b, c⟩ := shorts_ok n xs hp h
    exact ⟨by simpa only [pyD, PyData.showable] using a, by simpa only [pyD, PyData.intsShort] using b, by simpa only [pyD, PyData.weight, wt] using c⟩
  | n + 1, .lst xs, hp, h => by
    simp only [plain] at hp
    simp only [short] at h
    obtain ⟨a, b, c⟩ := shorts_ok n xs hp h
    exact ⟨by simpa only [pyD, PyData.showable] using a, by simpa only [pyD, PyData.intsShort] using b, by simpa only [pyD, PyData.weight, wt] using c⟩
  | 0, .tup _, h, _ => by simp [plain] at h
  | 0, .lst _, h, _ => by simp [plain] at h
  | 0, .dict _, h, _ => by simp [plain] at h
  | _ + 1, .dict _, h, _ => by simp [plain] at h
  | 0, .obj _ _, h, _ => by simp [plain] at h
  | _ + 1, .obj _ _, h, _ => by simp [plain] at h
  | 0, .fn _, h, _ => by simp [plain] at h
  | _ + 1, .fn _, h, _ => by simp [plain] at h
  | 0, .ro _, h, _ => by simp [plain] at h
  | _ + 1, .ro _, h, _ => by simp [plain] at h
  | 0, .exc _ _, h, _ => by simp [plain] at h
  | _ + 1, .exc _ _, h, _ => by simp [plain] at h
theorem shorts_ok : ∀ (n : Nat) (d : List D), d.all (plain n) = true → shorts d = true → PyData.showableAll (pyL d) = true ∧ PyData.intsShortAll 13 (pyL d) = true ∧ PyData.weightAll (pyL d) ≤ wts d
  | _, [], _, _ => ⟨rfl, rfl, Nat.le_refl _⟩
  | n, x :: xs, hp, h => by
    simp only [List.all_cons, Bool.and_eq_true] at hp
    simp only [shorts, Bool.and_eq_true] at h
    obtain ⟨a, b, c⟩ := short_ok n x hp.1 h.1
    obtain ⟨a', b', c'⟩ := shorts_ok n xs hp.2 h.2
    refine ⟨by simp only [pyL, PyData.showableAll, a, a', Bool.and_self], by simp only [pyL, PyData.intsShortAll, b, b', Bool.and_self], ?_⟩
    simp only [pyL, PyData.weightAll, wts]
    omega
end
/-- repr of data -/
def rRepr (K : PySem.W.Frag) : List V → Hp → L2.VK → Prop := fun xs H Q => ∃ v d, xs = [v] ∧ L2.Dp K H v d ∧ PyData.layable0 d = true ∧ PyData.showable d = true ∧ PyData.intsShort 13 d = true ∧ Q (.str d.shown) H
theorem call_repr (quiet : Quiet X.A) (hu : X.A.units + 65 < cLine) : L2.CallR X (.builtin "repr") (rRepr X.K) := by
  intro pins s σ H xs us Q I rv h
  obtain ⟨v, d, rfl, dp, hl, hs, hi, q⟩ := h
  obtain ⟨u, rfl, ru⟩ := L2.Vals.one rv
  obtain ⟨as, rd⟩ := L2.Dp.reads I d v u dp ru
  have hz : d.shown.length ≤ sizeLine := by
    have := PyData.shown_le_of_layable0 hl hi
    rw [sizeLine_eq]; omega
  have dep := PyData.depth_le_of_layable hl
  have hnd := PyData.noDict_hsm (as := as) (PyData.hasDict_of_layable hl)
  have done : ∀ h' t tk, (∀ b o, s.heap.get? b = some o → h'.get? b = some o) → L2.EP X pins σ Q (.str d.shown t) { s with heap := h', toks := tk } := fun h' t tk k => ⟨.str d.shown, H, I.kept k, ⟨t, rfl⟩, q⟩
  cases rd with
  | none => exact P.repr_of_none (by have := done s.heap s.toks (s.toks + 1) fun _ _ z => z; simpa only [PyData.shown] using this)
  | bool b => exact P.repr_of_bool (by have := done s.heap s.toks (s.toks + 1) fun _ _ z => z; simpa only [PyData.shown] using this)
  | int i t => exact P.repr_of_int (by simpa [PyData.showable] using hs) (by have := done s.heap s.toks (s.toks + 1) fun _ _ z => z; simpa only [PyData.shown] using this)
  | str x t => exact P.repr_of_str (by have := done s.heap s.toks (s.toks + 1) fun _ _ z => z; simpa only [PyData.shown] using this) (by simpa only [PyData.shown] using hz)
  | list h1 h2 h3 h4 => exact repr_of_reads' (.list h1 h2 h3 h4) hs hnd quiet (by omega) (fun _ _ z => z) (fun h' t tk k => done h' t tk k) hz
  | tuple h1 h2 h3 h4 => exact repr_of_reads' (.tuple h1 h2 h3 h4) hs hnd quiet (by omega) (fun _ _ z => z) (fun h' t tk k => done h' t tk k) hz
  | dict h1 h2 h3 h4 h5 => exact repr_of_reads' (.dict h1 h2 h3 h4 h5) hs hnd quiet (by omega) (fun _ _ z => z) (fun h' t tk k => done h' t tk k) hz
theorem reprOk_dp {K : PySem.W.Frag} (hK : K = G.K) {S : Addr → Prop} {H : Hp} {x : D} {v : V} (r : RepT G S H x v) (h : reprOk x = true) : L2.Dp K H v (pyD x) ∧ PyData.layable0 (pyD x) = true ∧ PyData.showable (pyD x) = true ∧ PyData.intsShort 13 (pyD x) = true := by
  unfold reprOk at h
  simp only [Bool.and_eq_true, decide_eq_true_eq] at h
  obtain ⟨⟨h1, h2⟩, h3⟩ := h
  obtain ⟨a, b, c⟩ := short_ok 8 x h1 h2
  obtain ⟨l1, l2⟩ := plain_lay 8 x h1
  refine ⟨by rw [hK]; exact r.dp h1, ?_, a, b⟩
  show (PyData.canLay0 (pyD x) && decide (PyData.depth (pyD x) ≤ 64) && decide (PyData.weight (pyD x) ≤ 2 ^ 20)) = true
  rw [l1, decide_eq_true (show PyData.depth (pyD x) ≤ 64 by omega), decide_eq_true (show PyData.weight (pyD x) ≤ 2 ^ 20 by omega)]
  rfl
theorem reprNe_read {a b : E} {K : PySem.W.Frag} (hK : K = G.K) (oa : opd own a = true) (ob : opd own b = true) {σ : St} {H : Hp} {Q : V → Hp → Prop} {n : Nat} (h : TE G P own call n (.reprNe a b) W σ H Q) :
    L2.tOp L2.rNe (L2.tCB (rRepr K) (L2.tCons (TO G P own call a W) L2.tNil)) (L2.tCB (rRepr K) (L2.tCons (TO G P own call b W) L2.tNil)) σ H Q := by
  obtain ⟨r, S, Xs, s, q⟩ := h
  refine ⟨r, S, Xs, s, ?_⟩
  simp only [ev] at q
  refine (q.bind .refl).mono fun v H1 ⟨x, r1, S1, Xs1, Y1, e1, t1, s1, a1, f1, g1, q1⟩ => ?_
  cases hx : reprOk x with
  | false => simp [hx] at q1; exact q1.elim
  | true =>
    simp only [hx, if_true] at q1
    have rx : RepT G S1 H1 x v := a1.late s1.dis .refl s1 (opd_ok oa) (late_now e1)
    obtain ⟨d1, d2, d3, d4⟩ := reprOk_dp hK rx hx
    refine ⟨v, pyD x, rfl, d1, d2, d3, d4, ?_⟩
    refine ⟨r1, S1, Xs1, s1, (q1.bind t1).mono fun w H2 ⟨y, r2, S2, Xs2, Y2, e2, t2, s2, a2, f2, g2, q2⟩ => ?_⟩
    obtain ⟨d, hd, q3⟩ := q2.of
    unfold reprNe at hd
    rw [hx, Bool.true_and] at hd
    split at hd
    · rename_i hsame
      cases hd
      have := sameD_eq _ _ hsame
      subst this
      have ry : RepT G S2 H2 x w := a2.late s2.dis .refl s2 (opd_ok ob) (late_now e2)
      obtain ⟨c1, c2, c3, c4⟩ := reprOk_dp hK ry hx
      refine ⟨w, pyD x, rfl, c1, c2, c3, c4, rfl, ?_⟩
      rw [decide_eq_true rfl]
      exact q3.bl (t1.trans t2) s2
    · cases hd
theorem pe_reprs {a b : PySem.Expr} {ta tb : L2.TE} {p1 p2 p3 p4 : Pos} (quiet : Quiet X.A) (hu : X.A.units + 65 < cLine) (hg : L2.Gl X "repr") (hm : X.mg "repr" = none) (ha : L2.PE X a ta) (hb : L2.PE X b tb) (sa : isStar a = false) (sb : isStar b = false) :
    L2.PE X (.Call (.Name "repr" p1) [a] [] p2) (L2.tCB (rRepr X.K) (L2.tCons ta L2.tNil)) := L2.pe_callB (call_repr quiet hu) hg hm PyProof.Rows.boot_repr (L2.pa_cons ha L2.pa_nil (starEach_ok sa)) (he := starEach_ok sa)
theorem s_reprNe {n : Nat} {a b : E} {pa pb : PySem.Expr} {p1 p2 p3 p4 : Pos} (hK : X.K = G.K) (quiet : Quiet X.A) (hu : X.A.units + 65 < cLine) (hg : L2.Gl X "repr") (hm : X.mg "repr" = none) (ha : L2.PE X pa (TO G P own call a W)) (hb : L2.PE X pb (TO G P own call b W)) (sa : isStar pa = false) (sb : isStar pb = false) (oa : opd own a = true) (ob : opd own b = true) :
    L2.PE X (.Compare (.Call (.Name "repr" p1) [pa] [] p2) [.NotEq] [.Call (.Name "repr" p3) [pb] [] p4] pos) (TE G P own call n (.reprNe a b) W) :=
  pe_conseq (L2.pe_cmpR L2.op_ne (pe_reprs (p3 := p1) (p4 := p1) quiet hu hg hm ha ha sa sa) (pe_reprs (p3 := p1) (p4 := p1) quiet hu hg hm hb hb sb sb) rfl) fun σ H Q q => reprNe_read hK oa ob q
theorem t_reprNe {a b : E} {pa pb : PySem.Expr} {p1 p2 p3 p4 : Pos} (hK : X.K = G.K) (quiet : Quiet X.A) (hu : X.A.units + 65 < cLine) (hg : L2.Gl X "repr") (hm : X.mg "repr" = none) (ha : L2.PE X pa (TO G P own call a W)) (hb : L2.PE X pb (TO G P own call b W)) (sa : isStar pa = false) (sb : isStar pb = false) (oa : opd own a = true) (ob : opd own b = true) :
    L2.PT X (.Compare (.Call (.Name "repr" p1) [pa] [] p2) [.NotEq] [.Call (.Name "repr" p3) [pb] [] p4] pos) (TT G P own call (.reprNe a b) W) :=
  pt_conseq (L2.pt_cmpR L2.op_ne (pe_reprs (p3 := p1) (p4 := p1) quiet hu hg hm ha ha sa sa) (pe_reprs (p3 := p1) (p4 := p1) quiet hu hg hm hb hb sb sb) rfl) fun σ H Q q => reprNe_read hK oa ob (tt_read (m := ev P call (.reprNe a b)) q)
end
end LW
end

section
set_option Elab.async false
set_option maxRecDepth 100000
set_option maxHeartbeats 1000000
/-! Sound22: a def's promise from its body. -/
namespace LW
open PySem PySem.Spec PyProof.Rows
section
variable {G : Geo} {P : Prog} {own : Own} {rt : Nat} {fx : Option V} {call : Nat → List D → CR} {wf : Nat} {W : WX} {ret : Nat → Nat}
/-- the slots' parts at a def's entry -/
def parts0 (n : Nat) (io : Bool) (Y0 : List Addr) : Parts := match n with
  | 0 => []
  | n + 1 => (if io then Y0 else []) :: List.replicate n []
theorem inW_parts0 {n : Nat} {io : Bool} {Y0 : List Addr} (hn : 0 < n) (a : Addr) : inW (parts0 n io Y0) a ↔ (io = true ∧ a ∈ Y0) := by
  cases n with
  | zero => omega
  | succ n =>
    constructor
    · rintro ⟨Y, hY, ha⟩
      rcases List.mem_cons.mp hY with z | z
      · subst z
        cases io with
        | true => exact ⟨rfl, ha⟩
        | false => cases ha
      · rw [List.eq_of_mem_replicate z] at ha; cases ha
    · rintro ⟨rfl, ha⟩
      exact ⟨Y0, List.mem_cons_self, ha⟩
theorem parts0_len {n : Nat} {io : Bool} {Y0 : List Addr} : (parts0 n io Y0).length = n := by
  cases n <;> simp [parts0]
theorem parts0_get {n : Nat} {io : Bool} {Y0 : List Addr} (i : Nat) : (parts0 n io Y0).getD i [] = if i = 0 ∧ 0 < n ∧ io = true then Y0 else [] := by
  cases n with
  | zero => simp [parts0]
  | succ n =>
    cases i with
    | zero => cases io <;> simp [parts0]
    | succ i =>
      simp [parts0, List.getElem?_replicate]
      split <;> rfl
theorem startE_get {n : Nat} {ds : List D} {i : Nat} {d : D} (h : rd (startE n ds) i = some d) : ds[i]? = some d := by
  have h1 := (rd_some h).1
  unfold startE at h1
  rcases Nat.lt_or_ge i ds.length with hi | hi
  · rw [List.getElem?_append_left (by simpa using hi), List.getElem?_map] at h1
    cases e : ds[i]? with
    | none => rw [e] at h1; cases h1
    | some x => rw [e] at h1; cases h1; rfl
  · rw [List.getElem?_append_right (by simpa using hi), List.getElem?_replicate] at h1
    split at h1 <;> cases h1
theorem noexc_rep {c : Nat} {fs : List D} {v : V} {S : Addr → Prop} {H : Hp} (o : Rep G S H (.exc c fs) v) : False := by cases o
/-- the state at a def's entry -/
theorem entry_str {N : List Str} {f : Nat} {ds : List D} {vs : List V} {H : Hp} {S : Addr → Prop} {Y0 : List Addr} (hN : N.length = P.nslots f) (hvs : vs.length = P.np f) (hnp : P.np f ≤ P.nslots f) (hio : P.io f = true → own.getD 0 0 = 1 ∧ 0 < P.np f) (hlv : ∀ i, i < P.np f → (i ≠ 0 ∨ P.io f = false) → own.getD i 0 = 0) (hx : own.xc = none)
    (a : ArgR G (P.io f) ds vs H S Y0) (fr : Fresh Y0 H S []) (dom : ∀ a, S a → ∃ u, H a = some u) : StR G own (startE (P.nslots f) ds) (L2.start N vs) H S (parts0 (P.nslots f) (P.io f) Y0) := by
  have hds : ds.length = vs.length := by
    unfold ArgR at a
    split at a
    · obtain ⟨d, ds', v, vs', rfl, rfl, _, r⟩ := a
      simp [r.length]
    · exact a.1.length
  have lenr : (startE (P.nslots f) ds).length = P.nslots f := by
    unfold startE
    simp [hds, hvs]
    omega
  have lens : (L2.start N vs).length = P.nslots f := by
    unfold L2.start
    simp [hvs, hN]
    omega
  have inw : ∀ b, inW (parts0 (P.nslots f) (P.io f) Y0) b → b ∈ Y0 := fun b hb => by
    rcases Nat.eq_zero_or_pos (P.nslots f) with z | z
    · rw [z] at hb
      obtain ⟨_, hY, _⟩ := hb
      cases hY
    · exact ((inW_parts0 z b).mp hb).2
  have gets : ∀ (i : Nat) (v : V), vs[i]? = some v → (L2.start N vs)[i]? = some (some v) := fun i v h => by
    unfold L2.start
    have hi : i < vs.length := by
      rcases Nat.lt_or_ge i vs.length with h1 | h1
      · exact h1
      · rw [List.getElem?_eq_none h1] at h; cases h
    rw [List.getElem?_append_left (by simpa using hi), List.getElem?_map, h]; rfl
  refine ⟨by rw [lenr, lens], by rw [parts0_len, lenr], fun i d e => ?_, fun i c fs e => ?_, ⟨fun Y hY => ?_, ?_⟩, fun b hb w => fr.disS b (inw b w) hb, dom, fun b w => fr.dom b (inw b w)⟩
  · have hd := startE_get e
    have hi : i < P.np f := by
      rw [← hvs, ← hds]
      rcases Nat.lt_or_ge i ds.length with h1 | h1
      · exact h1
      · rw [List.getElem?_eq_none h1] at hd; cases hd
    unfold ArgR at a
    rw [parts0_get]
    split at a
    · rename_i hio'
      obtain ⟨d0, ds', v0, vs', rfl, rfl, o, r⟩ := a
      cases i with
      | zero =>
        simp at hd; subst hd
        refine ⟨v0, gets 0 v0 rfl, ?_⟩
        rw [if_pos ⟨rfl, by omega, hio'⟩, (hio hio').1]
        exact o
      | succ i =>
        obtain ⟨v, hv, rv⟩ := r.get (i := i) (by simpa using hd)
        refine ⟨v, gets (i + 1) v (by simpa using hv), ?_⟩
        rw [if_neg (by simp), hlv (i + 1) hi (.inl (by simp))]
        exact ⟨rv, rfl⟩
    · rename_i hio'
      obtain ⟨r, rfl⟩ := a
      obtain ⟨v, hv, rv⟩ := r.get hd
      refine ⟨v, gets i v hv, ?_⟩
      rw [hlv i hi (.inr (by simpa using hio'))]
      refine ⟨rv, ?_⟩
      split <;> rfl
  · exfalso
    have h1 := e
    unfold startE at h1
    rcases Nat.lt_or_ge i ds.length with hi | hi
    · rw [List.getElem?_append_left (by simpa using hi), List.getElem?_map] at h1
      cases e2 : ds[i]? with
      | none => rw [e2] at h1; cases h1
      | some x =>
        rw [e2] at h1; cases h1
        unfold ArgR at a
        split at a
        · obtain ⟨d0, ds', v0, vs', rfl, rfl, o, r⟩ := a
          cases i with
          | zero => simp at e2; subst e2; exact o.noexc
          | succ i =>
            obtain ⟨v, _, rv⟩ := r.get (i := i) (by simpa using e2)
            exact noexc_rep rv
        · obtain ⟨v, _, rv⟩ := a.1.get e2
          exact noexc_rep rv
    · rw [List.getElem?_append_right (by simpa using hi), List.getElem?_replicate] at h1
      split at h1 <;> cases h1
  · revert hY
    cases e : P.nslots f with
    | zero => intro h; cases h
    | succ n =>
      intro hY
      rcases List.mem_cons.mp hY with z | z
      · subst z; split
        · exact fr.nod
        · exact List.nodup_nil
      · rw [List.eq_of_mem_replicate z]; exact List.nodup_nil
  · cases e : P.nslots f with
    | zero => exact List.Pairwise.nil
    | succ n =>
      refine List.pairwise_cons.mpr ⟨fun Z hZ x _ hx => ?_, ?_⟩
      · rw [List.eq_of_mem_replicate hZ] at hx; cases hx
      · rw [List.pairwise_replicate]
        exact .inr fun x hx => by cases hx
/-- the exits -/
theorem exit_post {f : Nat} {vs : List V} {m : SR} {H : Hp} {S : Addr → Prop} {Y0 : List Addr} {Q : L2.VK} {E : L2.XK} (hn : P.io f = true → 0 < P.nslots f) (hY : P.io f = false → Y0 = []) (hio : P.io f = true → own.getD 0 0 = 1 ∧ fx = vs[0]? ∧ ∃ v, vs[0]? = some v) (h0 : 0 < P.nslots f ∨ P.io f = false)
    (q : PostC G P ret f (fin (P.io f) m) vs H S Y0 Q E) : PostS G P own (ret f) fx m H S (parts0 (P.nslots f) (P.io f) Y0) { nx := fun _ H' => Q .non H', rt := Q } (fun c d _ H' => E c d H') := by
  -- the io part of the state
  have step : ∀ {H' : Hp} {S' : Addr → Prop} {Xs' : Parts}, Step S (parts0 (P.nslots f) (P.io f) Y0) H S' Xs' H' → Step S [Y0] H S' [if P.io f then Xs'.getD 0 [] else []] H' := fun {H' S' Xs'} t => by
    have w0 : ∀ a, inW (parts0 (P.nslots f) (P.io f) Y0) a → inW [Y0] a := fun a w => by
      rcases Nat.eq_zero_or_pos (P.nslots f) with z | z
      · rw [z] at w
        obtain ⟨_, hh, _⟩ := w
        cases hh
      · exact ⟨Y0, by simp, ((inW_parts0 z a).mp w).2⟩
    refine ⟨fun a o h n => t.fr a o h fun w => n (w0 a w), t.dom, t.tup, t.sS, fun a h => (t.oS a h).imp id fun z => z.imp (w0 a) id, fun a w => ?_⟩
    obtain ⟨Y, hh, ha⟩ := w
    rw [List.mem_singleton.mp hh] at ha
    split at ha
    · exact (t.oW a (Xs_in ha)).imp (w0 a) id
    · cases ha
  have fresh : ∀ {r' : Env} {σ' : St} {H' : Hp} {S' : Addr → Prop} {Xs' : Parts}, StR G own r' σ' H' S' Xs' → Fresh (if P.io f then Xs'.getD 0 [] else []) H' S' [] := fun {r' σ' H' S' Xs'} s => by
    split
    · refine ⟨?_, fun a ha z => s.dis a z (Xs_in ha), (fun a _ => by rintro ⟨_, hh, _⟩; cases hh), fun a ha => s.domW a (Xs_in ha)⟩
      rcases Nat.lt_or_ge 0 Xs'.length with h | h
      · rw [List.getD_eq_getElem?_getD, List.getElem?_eq_getElem h]
        exact s.nod.1 _ (List.getElem_mem h)
      · rw [List.getD_eq_getElem?_getD, List.getElem?_eq_none h]; exact List.nodup_nil
    · exact .nil
  have sub : ∀ {Xs' : Parts} {a : Addr}, inW [if P.io f then Xs'.getD 0 [] else []] a → inW Xs' a := fun {Xs' a} ⟨Y, hh, ha⟩ => by
    rw [List.mem_singleton.mp hh] at ha
    split at ha
    · exact Xs_in ha
    · cases ha
  have out : ∀ {r' : Env} {σ' : St} {H' : Hp} {S' : Addr → Prop} {Xs' : Parts} {o : Option D}, StR G own r' σ' H' S' Xs' → Fixed fx σ' → outs (P.io f) r' = some o → OutR G (P.io f) o vs H' S' (if P.io f then Xs'.getD 0 [] else []) := fun {r' σ' H' S' Xs' o} s fxs e => by
    unfold outs at e
    unfold OutR
    cases hb : P.io f with
    | false => rw [hb] at e; simp at e; simp [e.symm]
    | true =>
      rw [hb] at e
      simp only [if_true] at e ⊢
      cases h1 : rd r' 0 with
      | none => rw [h1] at e; cases e
      | some d =>
        rw [h1] at e; cases e
        obtain ⟨v, hv, ow⟩ := s.slot 0 d h1
        obtain ⟨h2, h3, v0, hv0⟩ := hio hb
        rw [h2] at ow
        have := fxs v0 (by rw [h3]; exact hv0)
        rw [hv] at this; cases this
        exact ⟨d, v, rfl, hv0, ow⟩
  cases m with
  | bad => exact q
  | nx r' =>
    intro σ' H' S' Xs' t s fxs
    simp only [fin] at q
    cases e : outs (P.io f) r' with
    | none => rw [e] at q; exact q.elim
    | some o =>
      rw [e] at q
      exact q .non H' S' _ [] (step t) (out s fxs e) (fresh s) (.flat .non rfl) .nil (fun _ z => nomatch z) s.dom
  | ret d r' =>
    intro v σ' H' S' Xs' Y t s fxs ow fY g
    simp only [fin] at q
    cases e : outs (P.io f) r' with
    | none => rw [e] at q; exact q.elim
    | some o =>
      rw [e] at q
      refine q v H' S' _ Y (step t) (out s fxs e) (fresh s) ow ⟨fY.nod, fY.disS, fun a ha w => fY.disW a ha (sub w), fY.dom⟩ (fun a ha => ?_) s.dom
      refine (g a ha).imp (fun w => ?_) id
      rcases Nat.eq_zero_or_pos (P.nslots f) with z | z
      · rw [z] at w
        obtain ⟨_, hh, _⟩ := w
        cases hh
      · exact ⟨Y0, by simp, ((inW_parts0 z a).mp w).2⟩
  | ex c fs r' =>
    intro σ' H' S' Xs' dd t s fxs x
    simp only [fin] at q
    cases e : outs (P.io f) r' with
    | none => rw [e] at q; exact q.elim
    | some o =>
      rw [e] at q
      refine q H' S' _ dd (step t) (out s fxs e) (fresh s) ?_ s.dom
      cases fs with
      | nil => exact x
      | cons a b =>
        obtain ⟨d, ws, h1, h2, h3, h4, h5⟩ := x
        exact ⟨d, ws, h1, h2, h3, fun w => h4 (sub w), h5⟩
/-- what a def's own data must say -/
structure DefOk (P : Prog) (own : Own) (N ps : List Str) (f : Nat) : Prop where
  nN : N.length = P.nslots f
  np : ps.length = P.np f
  le : P.np f ≤ P.nslots f
  pos : 0 < P.nslots f ∨ P.io f = false
  io : P.io f = true → own.getD 0 0 = 1 ∧ 0 < P.np f
  lv : ∀ i, i < P.np f → (i ≠ 0 ∨ P.io f = false) → own.getD i 0 = 0
  xc : own.xc = none
theorem fnG_body {prog : Program} {w : World} {K : PySem.W.Frag} {mg : Str → Option Value} {base : Heap} {x qual : Str} {st : PySem.Stmt} {f k n : Nat} {fd : FuncData} {N ps : List Str} (F : L2.Fun K x qual st (G.fa f) fd) (sc : L2.FnScope N ps (L2.defScope st)) (d : DefOk P own N ps f)
    (body : ∀ (cdv : Value) (A : Around) (below : List PySem.Env) (s : Shared) (H : Hp) (fx : Option V) (E : L2.XK), L2.Room k (A.deeper (envOfC qual (L2.defScope st) s.heap.objs.size (G.fa f) cdv)) → Quiet A → (fx = none ∨ P.io f = true) →
      L2.PSs (L2.cxOf (L2.CX prog w) prog w K mg base N qual (L2.defScope st) (G.fa f) cdv A below s H E) (L2.defBody st) (TSs G P own (ret f) fx (sem P wf n) wf (P.body f) (fun c d _ H' => E c d H'))) : FnG prog w K mg base (k + 1) (G.fa f) fd ps (spF G P ret (sem P wf (n + 1)) f) := by
  refine FnG.of F sc (fun {vs H Q E} ⟨ds, S, Y0, h, _⟩ => by rw [d.np, h]) fun cdv A below s H vs Q E room quiet ⟨ds, S, Y0, hvs, a, fr, dom, q⟩ => ?_
  have hds : ds.length = P.np f := by
    rw [← hvs]
    unfold ArgR at a
    split at a
    · obtain ⟨d, ds', v, vs', rfl, rfl, _, r⟩ := a
      simp [r.length]
    · exact a.1.length
  simp only [sem, hds, if_true] at q
  let fx : Option V := if P.io f then vs[0]? else none
  have hio0 : P.io f = true → ∃ v, vs[0]? = some v := fun h => by
    have := (d.io h).2
    cases vs with
    | nil => simp at hvs; omega
    | cons v vs => exact ⟨v, rfl⟩
  refine ⟨_, body cdv A below s H fx E room quiet (by cases h : P.io f <;> simp [fx, h]), ?_⟩
  refine ⟨startE (P.nslots f) ds, S, parts0 (P.nslots f) (P.io f) Y0, entry_str d.nN hvs d.le d.io d.lv d.xc a fr dom, fun v hv => ?_, ?_⟩
  · have hv : (if P.io f then vs[0]? else none) = some v := hv
    split at hv
    · cases vs with
      | nil => cases hv
      | cons v0 vs => simp at hv; subst hv; rfl
    · cases hv
  · refine exit_post (own := own) (fx := fx) (fun h => Nat.lt_of_lt_of_le (d.io h).2 d.le) (fun h => ?_) (fun h => ⟨(d.io h).1, by simp [fx, h], hio0 h⟩) d.pos q
    unfold ArgR at a
    rw [h, if_neg (by decide)] at a
    exact a.2
end
end LW
end

section
set_option Elab.async false
set_option maxRecDepth 100000
set_option maxHeartbeats 1000000
/-! Chk0: what the checker asks; small facts about the text's forms. -/
namespace LW
open PySem
/-- what the checker knows of the place -/
structure Ctx where
  N : List Str
  sc : Scope
  lv : List Nat
  xk : Option (Nat × Nat)
  calm : Bool
  fnAll : Bool
  hot : Bool
  io : Bool
  rt : Nat
/-- .. of the program -/
structure Tab where
  P : Prog
  fname : List Str
  cname : List Str
  fs : List Str
  ret : List Nat
  ncls : Nat
def Tab.rt (T : Tab) (f : Nat) : Nat := T.ret.getD f 0
def bnames : List Str := ["abs", "all", "any", "bool", "dict", "enumerate", "int", "isinstance", "len", "list", "max", "min", "range", "repr", "set", "sorted", "str", "sum", "tuple", "zip"]
def vis (c : Ctx) (x : Str) : Bool := match c.sc.names.lookup x with | some .local => true | some .cell => true | some .free => true | _ => false
def locB (c : Ctx) (x : Str) : Bool := match c.sc.names.lookup x with | some .local => true | some .cell => c.fnAll | _ => false
def glB (c : Ctx) (x : Str) : Bool := c.sc.names.lookup x == some .globalImplicit
def nameOk (c : Ctx) (i : Nat) (x : Str) : Bool := c.N[i]? == some x && (vis c x && (!(x == ("__debug__" : Str)) && !(x == ("__classdict__" : Str))))
def borOk (c : Ctx) (i : Nat) (p : PySem.Expr) : Bool := match p with | .Name x _ => nameOk c i x && decide (c.lv.getD i 0 ≤ 1) | _ => false
/-- what is asked of the context -/
structure Fits (T : Tab) (G : Geo) (call : Nat → List D → CR) (k : Nat) (own : Own) (W : WX) (c : Ctx) (X : L2.Cx) : Prop where
  N : X.N = c.N
  nd : c.N.Nodup
  sc : X.env.scope = c.sc
  K : X.K = G.K
  lv : own.lv = c.lv
  calm : c.calm = true → X.calm = true
  fn : c.fnAll = true → ∀ x, X.fn x = true
  mg0 : ∀ x ∈ bnames, X.mg x = none
  room : c.hot = false → L2.Room k X.A
  quiet : Quiet X.A
  units : X.A.units + 100 < cLine
  pass : c.hot = false → ∀ σ, L2.PassesAt (L2.CX X.prog X.w) X σ (L2.WE W σ)
  defs : ∀ f x, T.fname[f]? = some x → ∃ fd ps, FnG X.prog X.w X.K X.mg X.base k (G.fa f) fd ps (spF G T.P T.rt call f) ∧ L2.Binds X.K fd ps [] ∧ X.mg x = some (.ref (G.fa f)) ∧ PySem.W.keepIn X.K (.ref (G.fa f)) = true
  fs : G.fs = T.fs
  xk : ∀ j kc, c.xk = some (j, kc) → ∃ cc a oe d pn X0, X = L2.Cx.suite X0 a ((a, oe) :: pn) ∧ L2.Zc (.ref (G.ca cc)) d oe ∧ (∃ vs, oe.data = .fields vs) ∧ own.xc = some (a, d, T.P.xfs cc) ∧ T.P.exc cc = true ∧ T.P.sub cc kc = true ∧ cc < T.ncls ∧ L2.XfC X.K (G.ca cc) ∧ ∀ f ∈ T.P.xfs cc, PySem.W.findIn X.K (.ref (G.ca cc)) (G.fn f) = some none
section
variable {T : Tab} {G : Geo} {call : Nat → List D → CR} {k : Nat} {own : Own} {W : WX} {c : Ctx} {X : L2.Cx}
theorem Fits.lvl (F : Fits T G call k own W c X) (i : Nat) : own.getD i 0 = c.lv.getD i 0 := by unfold Own.getD; rw [F.lv]
theorem Fits.gl (F : Fits T G call k own W c X) {x : Str} (h : glB c x = true) : L2.Gl X x := by
  show X.env.scope.names.lookup x = _
  rw [F.sc]
  exact beq_iff_eq.mp h
theorem Fits.vis (F : Fits T G call k own W c X) {x : Str} (h : vis c x = true) : L2.Vis X.env.scope x := by
  unfold L2.Vis
  rw [F.sc]
  unfold LW.vis at h
  split at h
  · exact .inl (by assumption)
  · exact .inr (.inl (by assumption))
  · exact .inr (.inr (by assumption))
  · cases h
theorem Fits.loc (F : Fits T G call k own W c X) {x : Str} (h : locB c x = true) : L2.Loc X.env.scope x ∧ (X.fn x = true ∨ X.env.scope.names.lookup x = some .local) := by
  unfold L2.Loc
  rw [F.sc]
  unfold locB at h
  split at h
  · rename_i e; exact ⟨.inl e, .inr e⟩
  · rename_i e; exact ⟨.inr e, .inl (F.fn h x)⟩
  · cases h
theorem Fits.name (F : Fits T G call k own W c X) {x : Str} {i : Nat} (h : nameOk c i x = true) : X.N[i]? = some x ∧ L2.Vis X.env.scope x ∧ (x == ("__debug__" : Str)) = false ∧ (x == ("__classdict__" : Str)) = false := by
  unfold nameOk at h
  simp only [Bool.and_eq_true, Bool.not_eq_true'] at h
  exact ⟨by rw [F.N]; exact beq_iff_eq.mp h.1, F.vis h.2.1, h.2.2.1, h.2.2.2⟩
theorem Fits.bor (F : Fits T G call k own W c X) {P : Prog} {i : Nat} {p : PySem.Expr} (h : borOk c i p = true) : L2.PE X p (TO G P own call (.bor i) W) ∧ opd own (.bor i) = true := by
  unfold borOk at h
  split at h
  · simp only [Bool.and_eq_true] at h
    obtain ⟨h1, h2⟩ := h
    obtain ⟨a, b, d, e⟩ := F.name h1
    refine ⟨s_bor a b d e, ?_⟩
    simp only [opd, F.lvl]
    exact h2
  · cases h
theorem Fits.bn (F : Fits T G call k own W c X) {x : Str} (h : bnames.contains x = true) : X.mg x = none := F.mg0 x (List.contains_iff_mem.mp h)
end
/-! ### forms -/
def plainIxB : PySem.Expr → Bool
  | .Slice .. => false
  | _ => true
theorem plainIx_ok {p : PySem.Expr} (h : plainIxB p = true) : L2.PlainIx p := by
  cases p <;> first | (intro o i; rfl) | (simp [plainIxB] at h; done)
def noSet : PySem.Expr → Bool
  | .Set .. => false
  | _ => true
theorem noSet_fold {p : PySem.Expr} {env : PySem.Env} (h : noSet p = true) : ∀ x, foldedSetIterable p env x = pure x := by
  cases p <;> first | (intro x; rfl) | (simp [noSet] at h; done)
theorem noSet_mark {p : PySem.Expr} {op : CmpOp} (h : noSet p = true) : behindInMarks op p = false := by
  cases p <;> first | rfl | (simp [noSet] at h; done)
def noCompB : PySem.Expr → Bool
  | .ListComp .. => false
  | .SetComp .. => false
  | .DictComp .. => false
  | _ => true
theorem noComp_swap {p : PySem.Expr} {t : Option PySem.Expr} {l : Nat} {env : PySem.Env} (h : noCompB p = true) : swapsWith p t l env = pure false := by
  cases p <;> first | rfl | (simp [noCompB] at h; done)
end LW
end

section
set_option Elab.async false
set_option maxRecDepth 100000
set_option maxHeartbeats 4000000
/-! Chk1: the checker of expressions. -/
namespace LW
open PySem
def pt (t : Bool) (p : PySem.Expr) : Bool := !t || plainTest p
def starOk (ps : List PySem.Expr) : Bool := ps.all fun e => !isStar e
/-- which operators fit, at which level -/
def binOk (o : BOp) (op : Operator) (n : Nat) : Bool := match o, op with
  | .add, .Add => decide (n ≤ 1)
  | .sub, .Sub => true
  | .mul, .Mult => decide (n ≤ 1)
  | .fdiv, .FloorDiv => true
  | .mod, .Mod => true
  | .pow, .Pow => true
  | _, _ => false
def cmpOk (o : COp) (op : CmpOp) : Bool := match o, op with
  | .eq, .Eq => true
  | .ne, .NotEq => true
  | .lt, .Lt => true
  | .le, .LtE => true
  | .gt, .Gt => true
  | .ge, .GtE => true
  | .isin, .In => true
  | .notin, .NotIn => true
  | _, _ => false
def biName : Bi → Option Str
  | .abs => some "abs"
  | .all => some "all"
  | .any => some "any"
  | .intOf => some "int"
  | .len => some "len"
  | .list => some "list"
  | .tuple => some "tuple"
  | .max1 => some "max"
  | .min1 => some "min"
  | .max2 => some "max"
  | .min2 => some "min"
  | .sum1 => some "sum"
  | _ => none
def biLv (b : Bi) (n : Nat) : Bool := match b with
  | .list => decide (n ≤ 1)
  | _ => true
def biCalm : Bi → Bool
  | .all => true
  | .any => true
  | .max1 => true
  | .min1 => true
  | .max2 => true
  | .min2 => true
  | .sum1 => true
  | _ => false
def tysB (c : Ctx) : List PySem.Expr → List Ty → Bool
  | [], [] => true
  | p :: ps, t :: ts => (match p with | .Name x _ => x == tyStr t && (tyPlain t && (glB c x && bnames.contains x)) | _ => false) && tysB c ps ts
  | _, _ => false
def chkO (f : PySem.Expr → Bool) (a : E) (c : Ctx) (p : PySem.Expr) : Bool := match a with
  | .bor i => borOk c i p
  | _ => f p
def notBor : E → Bool
  | .bor _ => false
  | _ => true
mutual
def chkTg : Tg → Ctx → PySem.Expr → Bool
  | .v i, c, p => match p with | .Name x _ => c.N[i]? == some x && (locB c x && c.lv.getD i 0 == 0) | _ => false
  | .t l, c, p => match p with | .Tuple ps _ _ => c.calm && (chkTgs l c ps && (starOk ps && ps.length == l.length)) | _ => false
def chkTgs : List Tg → Ctx → List PySem.Expr → Bool
  | [], _, ps => ps.isEmpty
  | t :: ts, c, ps => match ps with | p :: ps => chkTg t c p && (chkTgs ts c ps && !isStar p) | [] => false
end
/-- the scope of a block within -/
def relS (sc out : Scope) : Scope := { sc with names := sc.names.map fun (n, k) => if (k == .free && out.kind == .function && out.names.lookup n == some .cell) then (n, .cell) else (n, k) }
def blkCtx (c : Ctx) (sc : Scope) : Ctx := { c with sc := relS sc c.sc, xk := none, fnAll := false }
def ownOf (c : Ctx) (ids : List Nat) : List (Str × Nat) := ids.map fun i => (c.N.getD i ⟨#[]⟩, i)
def blkB (c : Ctx) (sc : Scope) (ids : List Nat) : Bool :=
  decide (sc.kind = .function) && (sc.names.all (fun y => sc.names.lookup y.1 == some y.2) && ((ownOf c ids).all (fun p => c.N[p.2]? == some p.1) &&
    (sc.names.all (fun y => y.2 != .free || (c.sc.names.lookup y.1 == some .cell || c.sc.names.lookup y.1 == some .free)) && sc.names.all (fun y => !(y.2 == .local || y.2 == .cell) || (((ownOf c ids).map (·.1)).contains y.1 || !c.N.contains y.1)))))
variable (T : Tab)
mutual
def chkE : E → Bool → Ctx → Nat → PySem.Expr → Bool
  | .non, t, _, _, p => pt t p && (match p with | .Constant .none _ _ => true | _ => false)
  | .bl b, t, _, _, p => pt t p && (match p with | .Constant (.bool b') _ _ => b == b' | _ => false)
  | .int i, t, _, _, p => pt t p && (match p with | .Constant (.int i') _ _ => i == i' | _ => false)
  | .str s, t, _, _, p => pt t p && (match p with | .Constant (.str x) _ _ => x.cps.toList == s | _ => false)
  | .var i, t, c, n, p => pt t p && (match p with | .Name x _ => n == 0 && (nameOk c i x && c.lv.getD i 0 == 0) | _ => false)
  | .vi i, t, c, _, p => pt t p && (match p with | .Name x _ => nameOk c i x | _ => false)
  | .mv i, t, c, n, p => pt t p && (match p with | .Name x _ => nameOk c i x && c.lv.getD i 0 == n | _ => false)
  | .bin o a b, t, c, n, p => pt t p && (match p with | .BinOp pa op pb _ => binOk o op n && (chkO (chkE a false c 0) a c pa && chkO (chkE b false c 0) b c pb) | _ => false)
  | .neg a, t, c, _, p => pt t p && (match p with | .UnaryOp op pa _ => (match op with | .USub => chkE a false c 0 pa | _ => false) | _ => false)
  | .not a, t, c, _, p => match p with | .UnaryOp op pa _ => (match op with | .Not => chkE a t c 0 pa | _ => false) | _ => false
  | .and as, t, c, n, p => n == 0 && (match p with | .BoolOp op ps _ => (match op with | .And => chkB as t c ps | _ => false) | _ => false)
  | .or as, t, c, n, p => n == 0 && (match p with | .BoolOp op ps _ => (match op with | .Or => chkB as t c ps | _ => false) | _ => false)
  | .ite cc a b, t, c, n, p => !t && (match p with | .IfExp pc pa pb _ => chkE cc true c 0 pc && (chkE a false c n pa && chkE b false c n pb) | _ => false)
  | .cmp o a b, _, c, _, p => match p with | .Compare pa [op] [pb] _ => cmpOk o op && (noSet pb && (chkO (chkE a false c 0) a c pa && chkO (chkE b false c 0) b c pb)) | _ => false
  | .reprNe a b, _, c, _, p => match p with
    | .Compare (.Call (.Name x _) [pa] [] _) [.NotEq] [.Call (.Name y _) [pb] [] _] _ => x == ("repr" : Str) && (y == ("repr" : Str) && (glB c "repr" && (!isStar pa && (!isStar pb && (chkO (chkE a false c 0) a c pa && chkO (chkE b false c 0) b c pb)))))
    | _ => false
  | .isN a, _, c, _, p => match p with | .Compare pa [.Is] [.Constant .none _ _] _ => chkE a false c 0 pa | _ => false
  | .notN a, _, c, _, p => match p with | .Compare pa [.IsNot] [.Constant .none _ _] _ => chkE a false c 0 pa | _ => false
  | .isi a ts, t, c, _, p => pt t p && (match p with
    | .Call (.Name f _) [pa, .Name x _] [] _ => f == ("isinstance" : Str) && (glB c "isinstance" && (!isStar pa && (chkO (chkE a false c 0) a c pa && (match ts with | [ty] => x == tyStr ty && (tyPlain ty && (glB c x && bnames.contains x)) | _ => false))))
    | _ => false)
  | .isiT a ts, t, c, _, p => pt t p && (match p with
    | .Call (.Name f _) [pa, .Tuple ps _ _] [] _ => f == ("isinstance" : Str) && (glB c "isinstance" && (!isStar pa && (chkO (chkE a false c 0) a c pa && (tysB c ps ts && decide (ts.length ≤ 100)))))
    | _ => false)
  | .call f as, t, c, n, p => pt t p && (match p with
    | .Call (.Name x _) ps [] _ => !c.hot && (T.fname[f]? == some x && (glB c x && (!(x == ("__debug__" : Str)) && (n == T.rt f && (nAs as == T.P.np f && (starOk ps && (chkAs as c ps && ioArgs ⟨c.lv, none⟩ as)))))))
    | _ => false)
  | .listRange as, t, c, n, p => pt t p && (decide (n ≤ 1) && (c.calm && (match p with
    | .Call (.Name x _) [.Call (.Name y _) ps [] _] [] _ => x == ("list" : Str) && (y == ("range" : Str) && (glB c "list" && (glB c "range" && (starOk ps && (chkV as c ps && (nAs as == 1 || nAs as == 2))))))
    | _ => false)))
  | .bi b as, t, c, n, p => pt t p && (biLv b n && ((!biCalm b || c.calm) && (match p with
    | .Call (.Name x _) (pa :: ps) [] _ => biName b == some x && (glB c x && (starOk (pa :: ps) && chkAs as c (pa :: ps)))
    | _ => false)))
  | .xf j i, t, c, n, p => pt t p && (n == 0 && (match p with
    | .Attribute (.Name x _) f _ => (match c.xk with
      | some (j', kc) => j == j' && (nameOk c j x && (List.range T.ncls).all fun cc => !(T.P.exc cc && T.P.sub cc kc) || (match (T.P.xfs cc)[i]? with | some g => T.fs[g]? == some f && ((List.range i).all fun i' => match (T.P.xfs cc)[i']? with | some g' => !(T.fs.getD g' ⟨#[]⟩ == f) | none => true) | none => false))
      | none => false)
    | _ => false))
  | .idx a i, t, c, n, p => pt t p && (n == 0 && (match p with | .Subscript pa pi _ => plainIxB pi && (notBor i && (chkO (chkE a false c 0) a c pa && chkE i false c 0 pi)) | _ => false))
  | .slL a l, t, c, n, p => pt t p && (decide (n ≤ 1) && (match p with | .Subscript pa (.Slice (some pl) none none _) _ => chkO (chkE a false c 0) a c pa && chkE l false c 0 pl | _ => false))
  | .slH a h, t, c, n, p => pt t p && (decide (n ≤ 1) && (match p with | .Subscript pa (.Slice none (some ph) none _) _ => chkO (chkE a false c 0) a c pa && chkE h false c 0 ph | _ => false))
  | .slLH a l h, t, c, n, p => pt t p && (decide (n ≤ 1) && (match p with | .Subscript pa (.Slice (some pl) (some ph) none _) _ => chkO (chkE a false c 0) a c pa && (chkE l false c 0 pl && chkE h false c 0 ph) | _ => false))
  | .lst as, t, c, n, p => pt t p && (match p with | .List ps _ => starOk ps && chkEs as c (n - 1) ps | _ => false)
  | .tup as, t, c, _, p => pt t p && (match p with | .Tuple ps _ _ => starOk ps && chkEs as c 0 ps | _ => false)
  | .comp e tg it cs, t, c, n, p => pt t p && (decide (n ≤ 1) && (c.calm && (match p with
    | .ListComp pe [⟨ptg, pit, pcs, 0⟩] sc _ => chkI it c pit && ((match it with | .e (.bor i) => !(tgIds tg).contains i | _ => true) && (blkB c sc (tgIds tg) && (chkTg tg (blkCtx c sc) ptg && (chkC cs (blkCtx c sc) pcs && (chkE e false (blkCtx c sc) 0 pe && (noSet pit && (tgIds tg).all fun i => c.lv.getD i 0 == 0))))))
    | _ => false)))
  | _, _, _, _, _ => false
def chkEs : Es → Ctx → Nat → List PySem.Expr → Bool
  | .nil, _, _, ps => ps.isEmpty
  | .cons e es, c, n, ps => match ps with | p :: ps => chkE e false c n p && chkEs es c n ps | [] => false
/-- and, or -/
def chkB : Es → Bool → Ctx → List PySem.Expr → Bool
  | .nil, _, _, _ => false
  | .cons e es, t, c, ps => match ps with
    | [] => false
    | p :: ps => chkE e t c 0 p && (match es, ps with | .nil, [] => true | .cons _ _, _ :: _ => chkB es t c ps | _, _ => false)
def chkAs : As → Ctx → List PySem.Expr → Bool
  | .nil, _, ps => ps.isEmpty
  | .cons _ e es, c, ps => match ps with | p :: ps => chkO (chkE e false c 0) e c p && chkAs es c ps | [] => false
/-- arguments that are values -/
def chkV : As → Ctx → List PySem.Expr → Bool
  | .nil, _, ps => ps.isEmpty
  | .cons _ e es, c, ps => match ps with | p :: ps => notBor e && (chkE e false c 0 p && chkV es c ps) | [] => false
def chkC : Es → Ctx → List PySem.Expr → Bool
  | .nil, _, ps => ps.isEmpty
  | .cons e es, c, ps => match ps, es with | [p], .nil => chkE e true c 0 p | _, _ => false
def chkI : It → Ctx → PySem.Expr → Bool
  | .e a, c, p => chkO (chkE a false c 0) a c p
  | .range as, c, p => match p with | .Call (.Name x _) ps [] _ => x == ("range" : Str) && (glB c "range" && (starOk ps && (chkV as c ps && (nAs as == 1 || (nAs as == 2 || nAs as == 3))))) | _ => false
  | _, _, _ => false
end
end LW
end

section
set_option Elab.async false
set_option maxRecDepth 100000
set_option maxHeartbeats 4000000
/-! Chk2: the checker of expressions is right. -/
namespace LW
open PySem
section
variable {T : Tab} {G : Geo} {call : Nat → List D → CR} {k : Nat}
theorem both {own : Own} {W : WX} {X : L2.Cx} {t : Bool} {n : Nat} {e : E} {p : PySem.Expr} (hp : pt t p = true) (h : L2.PE X p (TE G T.P own call n e W)) : (t = false → L2.PE X p (TE G T.P own call n e W)) ∧ (t = true → n = 0 → L2.PT X p (TT G T.P own call e W)) :=
  ⟨fun _ => h, fun ht hn => by
    subst ht; subst hn
    exact tt_val h (by simpa [pt] using hp)⟩
theorem frz {own : Own} {W : WX} {X : L2.Cx} {n : Nat} {e : E} {p : PySem.Expr} (hn : n ≤ 1) (h : L2.PE X p (TE G T.P own call 1 e W)) : L2.PE X p (TE G T.P own call n e W) := by
  rcases Nat.lt_or_ge n 1 with z | z
  · rw [show n = 0 by omega]; exact s_freeze h
  · rw [show n = 1 by omega]; exact h
theorem okO {own : Own} {W : WX} {c : Ctx} {X : L2.Cx} (F : Fits T G call k own W c X) {a : E} {p : PySem.Expr} {f : PySem.Expr → Bool} (h : chkO f a c p = true) (ok : f p = true → L2.PE X p (TE G T.P own call 0 a W)) : L2.PE X p (TO G T.P own call a W) ∧ opd own a = true := by
  cases a <;> first
    | exact F.bor h
    | exact ⟨to_of (fun i z => nomatch z) (ok h), rfl⟩
theorem ioArgs_lv (own : Own) (as : As) : ioArgs own as = ioArgs ⟨own.lv, none⟩ as := by
  cases as with
  | nil => rfl
  | cons m e as => cases m <;> cases e <;> rfl
theorem star_all {ps : List PySem.Expr} (h : starOk ps = true) : ps.all (fun e => !isStar e) = true := h
theorem star_cons {p : PySem.Expr} {ps : List PySem.Expr} (h : starOk (p :: ps) = true) : isStar p = false ∧ starOk ps = true := by
  simp only [starOk, List.all_cons, Bool.and_eq_true, Bool.not_eq_true'] at h
  exact h
theorem okTys {own : Own} {W : WX} {c : Ctx} {X : L2.Cx} (F : Fits T G call k own W c X) : ∀ {ps : List PySem.Expr} {ts : List Ty}, tysB c ps ts = true → TysOk X ps ts
  | [], [], _ => .nil
  | [], _ :: _, h => by simp [tysB] at h
  | _ :: _, [], h => by simp [tysB] at h
  | p :: ps, t :: ts, h => by
    simp only [tysB, Bool.and_eq_true] at h
    obtain ⟨h1, h2⟩ := h
    split at h1
    · simp only [Bool.and_eq_true] at h1
      obtain ⟨e, a, b, d⟩ := h1
      have e := beq_iff_eq.mp e
      subst e
      exact .cons a (F.gl b) (F.bn d) (okTys F h2)
    · cases h1
mutual
theorem okTg {own : Own} {W : WX} {c : Ctx} {X : L2.Cx} (F : Fits T G call k own W c X) : ∀ (tg : Tg) {p : PySem.Expr}, chkTg tg c p = true → L2.PG X p (TGr G own tg)
  | .v i, p, h => by
    simp only [chkTg] at h
    split at h
    · simp only [Bool.and_eq_true] at h
      obtain ⟨h1, h2, h3⟩ := h
      obtain ⟨a, b⟩ := F.loc h2
      exact g_name (by rw [F.N]; exact F.nd) (by rw [F.N]; exact beq_iff_eq.mp h1) a b (by rw [F.lvl]; exact beq_iff_eq.mp h3)
    · cases h
  | .t l, p, h => by
    simp only [chkTg] at h
    split at h
    · simp only [Bool.and_eq_true] at h
      obtain ⟨h1, h2, h3, h4⟩ := h
      exact g_tup (F.calm h1) (okTgs F l h2) h3 (beq_iff_eq.mp h4)
    · cases h
theorem okTgs {own : Own} {W : WX} {c : Ctx} {X : L2.Cx} (F : Fits T G call k own W c X) : ∀ (tg : List Tg) {p : List PySem.Expr}, chkTgs tg c p = true → L2.PGs X p (TGsr G own tg)
  | [], p, h => by
    simp only [chkTgs, List.isEmpty_iff] at h
    subst h
    exact g_nil
  | t :: ts, p, h => by
    simp only [chkTgs] at h
    split at h
    · simp only [Bool.and_eq_true, Bool.not_eq_true'] at h
      exact g_cons (okTg F t h.1) (okTgs F ts h.2.1) h.2.2
    · cases h
end
/-! ### operators -/
theorem hm_eq {P : Prog} {o : COp} {a b : E} : ∀ ρ, ev P call (.cmp o a b) ρ = (ev P call a ρ).bind fun x r1 => (ev P call b r1).bind fun y r2 => R.of ((late a x r2).bind fun x => (late b y r2).bind fun y => cmpV o x y) r2 := fun ρ => by
  simp only [ev]
  congr 1
  funext x r1
  congr 1
  funext y r2
  cases late a x r2 with
  | none => rfl
  | some x' => cases late b y r2 with
    | none => rfl
    | some y' =>
      simp only [Option.bind_some, cmpV]
      cases cmpD o x' y' <;> rfl
theorem OpOk.imp {P : Prog} {own : Own} {W : WX} {n : Nat} {f g : D → D → Option D} {r : L2.R2} (h : OpOk G P own W n g r) (k : ∀ {d1 d2 d : D} {v1 v2 : V} {S : Addr → Prop} {H : Hp}, RepT G S H d1 v1 → RepT G S H d2 v2 → f d1 d2 = some d → g d1 d2 = some d) : OpOk G P own W n f r := by
  intro d1 d2 d v1 v2 σ H H0 S S0 Xs Xs0 ρ Q s t r1 r2 hd q
  exact h s t r1 r2 (k r1 r2 hd) q
theorem nodict {S : Addr → Prop} {H : Hp} {kvs : List (D × D)} {v : V} (r : RepT G S H (.dict kvs) v) : False := by
  cases r with | sh r => cases r
theorem ok_lt2 {P : Prog} {own : Own} {W : WX} {n : Nat} : OpOk G P own W n (cmpV .lt) (L2.rI0 fun i j => .bl (decide (i < j))) := ok_icmp (p := fun i j => decide (i < j)) fun {a b c} h => by
  cases a <;> cases b <;> simp only [cmpD] at h <;> first | (cases h; done) | (cases h; exact ⟨_, _, rfl, rfl, rfl⟩)
theorem ok_gt2 {P : Prog} {own : Own} {W : WX} {n : Nat} : OpOk G P own W n (cmpV .gt) (L2.rI0 fun i j => .bl (decide (j < i))) := ok_icmp (p := fun i j => decide (j < i)) fun {a b c} h => by
  cases a <;> cases b <;> simp only [cmpD] at h <;> first | (cases h; done) | (cases h; exact ⟨_, _, rfl, rfl, rfl⟩)
theorem ok_in2 {P : Prog} {own : Own} {W : WX} {n : Nat} : OpOk G P own W n (cmpV .isin) (rInAll G.K) := ok_in.imp fun {d1 d2 d v1 v2 S H} _ r2 h => by
  cases d2 <;> first | exact h | exact (nodict r2).elim | (simp [cmpV, cmpD, inD] at h; done)
theorem ok_notin2 {P : Prog} {own : Own} {W : WX} {n : Nat} : OpOk G P own W n (cmpV .notin) (rNotInAll G.K) := ok_notin.imp fun {d1 d2 d v1 v2 S H} _ r2 h => by
  cases d2 <;> first | exact (nodict r2).elim | (simp [cmpV, cmpD, inD] at h; done) | skip
  all_goals
    simp only [cmpV, cmpD, notInSeq] at h ⊢
    rw [← h]
    cases inD d1 _ <;> rfl
theorem ok_idx2 {P : Prog} {own : Own} {W : WX} {X : L2.Cx} (hK : X.K = G.K) : OpOk G P own W 0 idxD (L2.rIx X.K) := OpOk.imp (ok_idx hK) fun {d1 d2 d v1 v2 S H} r1 _ h => by
  cases d1 <;> first | exact h | exact (nodict r1).elim
theorem late_notBor {e : E} (h : notBor e = true) : ∀ x r, late e x r = some x := fun x r => by
  cases e <;> first | rfl | (simp [notBor] at h; done)
theorem notBor_ne {e : E} (h : notBor e = true) : ∀ i, e ≠ .bor i := fun i z => by subst z; simp [notBor] at h
theorem opd_notBor {own : Own} {e : E} (h : notBor e = true) : opd own e = true := by cases e <;> first | rfl | (simp [notBor] at h; done)
theorem blk_ok {c : Ctx} {X : L2.Cx} {own : Own} {W : WX} (F : Fits T G call k own W c X) {sc : Scope} {ids : List Nat} (h : blkB c sc ids = true) : L2.BlkOk X.N X.env.scope sc (ownOf c ids) := by
  unfold blkB at h
  simp only [Bool.and_eq_true, decide_eq_true_eq, List.all_eq_true] at h
  obtain ⟨h1, h2, h3, h4, h5⟩ := h
  refine ⟨h1, fun y hy => beq_iff_eq.mp (h2 y hy), fun p hp => by rw [F.N]; exact beq_iff_eq.mp (h3 p hp), fun y hy e => ?_, fun y hy e => ?_⟩
  · have := h4 y hy
    rw [e] at this
    simp only [bne_self_eq_false, Bool.false_or, Bool.or_eq_true] at this
    rw [F.sc]
    exact this.imp beq_iff_eq.mp beq_iff_eq.mp
  · have := h5 y hy
    have h6 : (y.2 == NameKind.local || y.2 == NameKind.cell) = true := by
      rcases e with e | e <;> rw [e] <;> rfl
    rw [h6] at this
    simp only [Bool.not_true, Bool.false_or, Bool.or_eq_true, Bool.not_eq_true'] at this
    rw [F.N]
    rcases this with z | z
    · exact .inl (List.contains_iff_mem.mp z)
    · refine .inr fun m => ?_
      rw [List.contains_iff_mem.mpr m] at z
      cases z
theorem own_ids (c : Ctx) (ids : List Nat) : (ownOf c ids).map (·.2) = ids := by
  unfold ownOf
  rw [List.map_map]
  exact List.map_id ids
theorem blk_fits {c : Ctx} {X : L2.Cx} {own : Own} {W : WX} (F : Fits T G call k own W c X) {sc : Scope} {s : Shared} {H : Hp} {C : Addr} {cl : List (Str × Addr)} {fp : List Addr} : Fits T G call k own W0 (blkCtx c sc) (X.blk s H sc (compEnvC sc cl C X.env) fp) where
  N := F.N
  nd := F.nd
  sc := by
    show relabel sc X.env = relS sc c.sc
    rw [← F.sc]
    rfl
  K := F.K
  lv := F.lv
  calm := F.calm
  fn := fun h => by cases h
  mg0 := F.mg0
  room := F.room
  quiet := F.quiet
  units := F.units
  pass := fun _ σ pins H s e s' _ c => by
    obtain ⟨_, _, _, _, _, _, _, _, _, _, _, _, z⟩ := c
    exact z.elim
  defs := F.defs
  fs := F.fs
  xk := fun _ _ h => by cases h
/-! ### the built-in functions -/
theorem okBi {own : Own} {W : WX} {c : Ctx} {X : L2.Cx} (F : Fits T G call k own W c X) {b : Bi} {as : As} {n : Nat} {x : Str} {p : PySem.Expr} {ps : List PySem.Expr} {pf pos : Pos} (hn : biName b = some x) (hl : biLv b n = true) (hcalm : (!biCalm b || c.calm) = true) (hg : glB c x = true) (hs : starOk (p :: ps) = true)
    (ha : L2.PA X (p :: ps) (TA G T.P own call as W)) (ho : opds own as = true) : L2.PE X (.Call (.Name x pf) (p :: ps) [] pos) (TE G T.P own call n (.bi b as) W) := by
  obtain ⟨s1, s2⟩ := star_cons hs
  have gl := F.gl hg
  have cm : biCalm b = true → X.calm = true := fun z => F.calm (by rw [z] at hcalm; simpa using hcalm)
  have hm : bnames.contains x = true → X.mg x = none := F.bn
  cases b <;> simp only [biName] at hn <;> first | (cases hn; done) | skip
  · cases hn; exact s_biB L2.call_abs cb_abs gl (hm (by decide)) PyProof.Rows.boot_abs ha (by decide) (by decide) ho s1 s2
  · cases hn; exact s_biB (L2.cr_all (cm rfl)) (cb_all X.K) gl (hm (by decide)) PyProof.Rows.boot_all ha (by decide) (by decide) ho s1 s2
  · cases hn; exact s_biB (L2.cr_any (cm rfl)) (cb_any X.K) gl (hm (by decide)) PyProof.Rows.boot_any ha (by decide) (by decide) ho s1 s2
  · cases hn; exact s_biT L2.call_int1 cb_int gl (hm (by decide)) PyProof.Rows.boot_int ha (by decide) (by decide) ho s1 s2
  · cases hn; exact s_biB L2.call_len (cb_len F.K) gl (hm (by decide)) PySem.boot_len ha (by decide) (by decide) ho s1 s2
  · cases hn; exact frz (by simpa [biLv] using hl) (s_biT L2.call_list_of (cb_list X.K) gl (hm (by decide)) PyProof.Rows.boot_list ha (by decide) (by decide) ho s1 s2)
  · cases hn; exact s_biB (L2.cr_max (cm rfl)) (cb_max X.K) gl (hm (by decide)) PyProof.Rows.boot_max ha (by decide) (by decide) ho s1 s2
  · cases hn; exact s_biB (L2.call_max2 (cm rfl)) cb_max2 gl (hm (by decide)) PyProof.Rows.boot_max ha (by decide) (by decide) ho s1 s2
  · cases hn; exact s_biB (L2.cr_min (cm rfl)) (cb_min X.K) gl (hm (by decide)) PyProof.Rows.boot_min ha (by decide) (by decide) ho s1 s2
  · cases hn; exact s_biB (L2.call_min2 (cm rfl)) cb_min2 gl (hm (by decide)) PyProof.Rows.boot_min ha (by decide) (by decide) ho s1 s2
  · cases hn; exact s_biB (L2.cr_sum (cm rfl)) (cb_sum X.K) gl (hm (by decide)) PyProof.Rows.boot_sum ha (by decide) (by decide) ho s1 s2
  · cases hn; exact s_biT L2.call_tuple_of (cb_tuple X.K) gl (hm (by decide)) PyProof.Rows.boot_tuple ha (by decide) (by decide) ho s1 s2
theorem okBin {own : Own} {W : WX} {c : Ctx} {X : L2.Cx} (F : Fits T G call k own W c X) {o : BOp} {op : Operator} {n : Nat} {a b : E} {pa pb : PySem.Expr} {pos : Pos} (h : binOk o op n = true) (ha : L2.PE X pa (TO G T.P own call a W)) (hb : L2.PE X pb (TO G T.P own call b W)) (oa : opd own a = true) (ob : opd own b = true) :
    L2.PE X (.BinOp pa op pb pos) (TE G T.P own call n (.bin o a b) W) := by
  unfold binOk at h
  split at h
  · exact frz (of_decide_eq_true h) (s_bin op_addAll (ok_add F.K) ha hb oa ob)
  · exact s_bin L2.op_sub ok_sub ha hb oa ob
  · exact frz (of_decide_eq_true h) (s_bin op_mulAll ok_mul ha hb oa ob)
  · exact s_bin L2.op_fdivN ok_fdiv ha hb oa ob
  · exact s_bin L2.op_modN ok_mod ha hb oa ob
  · exact s_bin L2.op_pow ok_pow ha hb oa ob
  · cases h
theorem okCmp {own : Own} {W : WX} {c : Ctx} {X : L2.Cx} (F : Fits T G call k own W c X) {o : COp} {op : CmpOp} {n : Nat} {a b : E} {pa pb : PySem.Expr} {pos : Pos} (h : cmpOk o op = true) (ha : L2.PE X pa (TO G T.P own call a W)) (hb : L2.PE X pb (TO G T.P own call b W)) (oa : opd own a = true) (ob : opd own b = true) (hs : noSet pb = true) :
    L2.PE X (.Compare pa [op] [pb] pos) (TE G T.P own call n (.cmp o a b) W) ∧ L2.PT X (.Compare pa [op] [pb] pos) (TT G T.P own call (.cmp o a b) W) := by
  have hu := F.units
  have hK := F.K
  have mk := noSet_mark (op := op) hs
  unfold cmpOk at h
  split at h
  · exact ⟨s_cmpg (L2.op_eqD (by omega)) ha hb hm_eq (by rw [hK]; exact ok_eq) oa ob mk, t_cmpg (L2.op_eqD (by omega)) ha hb hm_eq (by rw [hK]; exact ok_eq) oa ob mk⟩
  · exact ⟨s_cmpg (L2.op_neD (by omega)) ha hb hm_eq (by rw [hK]; exact ok_ne) oa ob mk, t_cmpg (L2.op_neD (by omega)) ha hb hm_eq (by rw [hK]; exact ok_ne) oa ob mk⟩
  · exact ⟨s_cmpg L2.op_lt ha hb hm_eq ok_lt2 oa ob mk, t_cmpg L2.op_lt ha hb hm_eq ok_lt2 oa ob mk⟩
  · exact ⟨s_cmpg L2.op_le ha hb hm_eq ok_le oa ob mk, t_cmpg L2.op_le ha hb hm_eq ok_le oa ob mk⟩
  · exact ⟨s_cmpg L2.op_gt ha hb hm_eq ok_gt2 oa ob mk, t_cmpg L2.op_gt ha hb hm_eq ok_gt2 oa ob mk⟩
  · exact ⟨s_cmpg L2.op_ge ha hb hm_eq ok_ge oa ob mk, t_cmpg L2.op_ge ha hb hm_eq ok_ge oa ob mk⟩
  · exact ⟨s_cmpg (L2.OpR.or (L2.op_inD (by omega)) (op_inDT (by omega))) ha hb hm_eq (by rw [hK]; exact ok_in2) oa ob mk, t_cmpg (L2.OpR.or (L2.op_inD (by omega)) (op_inDT (by omega))) ha hb hm_eq (by rw [hK]; exact ok_in2) oa ob mk⟩
  · exact ⟨s_cmpg (L2.OpR.or (L2.op_notInD (by omega)) (op_notInDT (by omega))) ha hb hm_eq (by rw [hK]; exact ok_notin2) oa ob mk, t_cmpg (L2.OpR.or (L2.op_notInD (by omega)) (op_notInDT (by omega))) ha hb hm_eq (by rw [hK]; exact ok_notin2) oa ob mk⟩
  · cases h
end
end LW
end

section
set_option Elab.async false
set_option maxRecDepth 100000
set_option maxHeartbeats 8000000
/-! Chk3: the checker of expressions is right: the induction. -/
namespace LW
open PySem
section
variable {T : Tab} {G : Geo} {call : Nat → List D → CR} {k : Nat}
inductive OkVs (T : Tab) (G : Geo) (call : Nat → List D → CR) (own : Own) (W : WX) (X : L2.Cx) : As → List PySem.Expr → Prop
  | nil : OkVs T G call own W X .nil []
  | cons {m : Md} {e : E} {as : As} {p : PySem.Expr} {ps : List PySem.Expr} (h : L2.PE X p (TE G T.P own call 0 e W)) (b : notBor e = true) (r : OkVs T G call own W X as ps) : OkVs T G call own W X (.cons m e as) (p :: ps)
abbrev OkE (T : Tab) (G : Geo) (call : Nat → List D → CR) (own : Own) (W : WX) (X : L2.Cx) (t : Bool) (n : Nat) (e : E) (p : PySem.Expr) : Prop := (t = false → L2.PE X p (TE G T.P own call n e W)) ∧ (t = true → n = 0 → L2.PT X p (TT G T.P own call e W))
mutual
theorem okE : ∀ (e : E) {t : Bool} {c : Ctx} {n : Nat} {p : PySem.Expr} {own : Own} {W : WX} {X : L2.Cx}, chkE T e t c n p = true → Fits T G call k own W c X → OkE T G call own W X t n e p
  | .non, t, c, n, p, own, W, X, h, F => by
    simp only [chkE, Bool.and_eq_true] at h; obtain ⟨hp, h⟩ := h; split at h
    · exact both hp s_non
    · cases h
  | .bl b, t, c, n, p, own, W, X, h, F => by
    simp only [chkE, Bool.and_eq_true] at h; obtain ⟨hp, h⟩ := h; split at h
    · obtain rfl := beq_iff_eq.mp h; exact both hp s_bl
    · cases h
  | .int i, t, c, n, p, own, W, X, h, F => by
    simp only [chkE, Bool.and_eq_true] at h; obtain ⟨hp, h⟩ := h; split at h
    · obtain rfl := beq_iff_eq.mp h; exact both hp s_int
    · cases h
  | .str s, t, c, n, p, own, W, X, h, F => by
    simp only [chkE, Bool.and_eq_true] at h; obtain ⟨hp, h⟩ := h; split at h
    · exact both hp (s_str (beq_iff_eq.mp h))
    · cases h
  | .var i, t, c, n, p, own, W, X, h, F => by
    simp only [chkE, Bool.and_eq_true] at h; obtain ⟨hp, h⟩ := h; split at h
    · simp only [Bool.and_eq_true] at h
      obtain ⟨h1, h2, h3⟩ := h
      obtain ⟨a, b, d, e⟩ := F.name h2
      exact both hp (s_var a b d e (by rw [F.lvl]; exact beq_iff_eq.mp h3) (beq_iff_eq.mp h1))
    · cases h
  | .vi i, t, c, n, p, own, W, X, h, F => by
    simp only [chkE, Bool.and_eq_true] at h; obtain ⟨hp, h⟩ := h; split at h
    · obtain ⟨a, b, d, e⟩ := F.name h
      exact both hp (s_vi a b d e)
    · cases h
  | .mv i, t, c, n, p, own, W, X, h, F => by
    simp only [chkE, Bool.and_eq_true] at h; obtain ⟨hp, h⟩ := h; split at h
    · simp only [Bool.and_eq_true] at h
      obtain ⟨h2, h3⟩ := h
      obtain ⟨a, b, d, e⟩ := F.name h2
      exact both hp (s_mv a b d e (by rw [F.lvl]; exact beq_iff_eq.mp h3))
    · cases h
  | .bin o a b, t, c, n, p, own, W, X, h, F => by
    simp only [chkE, Bool.and_eq_true] at h; obtain ⟨hp, h⟩ := h; split at h
    · simp only [Bool.and_eq_true] at h
      obtain ⟨h1, h2, h3⟩ := h
      obtain ⟨a1, a2⟩ := okO F h2 fun z => (okE a z F).1 rfl
      obtain ⟨b1, b2⟩ := okO F h3 fun z => (okE b z F).1 rfl
      exact both hp (okBin F h1 a1 b1 a2 b2)
    · cases h
  | .neg a, t, c, n, p, own, W, X, h, F => by
    simp only [chkE, Bool.and_eq_true] at h; obtain ⟨hp, h⟩ := h; split at h
    · split at h
      · exact both hp (s_neg ((okE a h F).1 rfl))
      · cases h
    · cases h
  | .not a, t, c, n, p, own, W, X, h, F => by
    simp only [chkE] at h; split at h
    · split at h
      · have ih := okE a h F
        exact ⟨fun ht => s_not (ih.1 ht), fun ht _ => t_not (ih.2 ht rfl)⟩
      · cases h
    · cases h
  | .and as, t, c, n, p, own, W, X, h, F => by
    simp only [chkE, Bool.and_eq_true] at h; obtain ⟨hn, h⟩ := h; split at h
    · split at h
      · have ih := okB as h F
        exact ⟨fun ht => by rw [beq_iff_eq.mp hn]; exact s_and (n := 0) ((ih _).1 ht).1, fun ht _ => t_and ((ih _).2 ht).1⟩
      · cases h
    · cases h
  | .or as, t, c, n, p, own, W, X, h, F => by
    simp only [chkE, Bool.and_eq_true] at h; obtain ⟨hn, h⟩ := h; split at h
    · split at h
      · have ih := okB as h F
        exact ⟨fun ht => by rw [beq_iff_eq.mp hn]; exact s_or (n := 0) ((ih _).1 ht).2, fun ht _ => t_or ((ih _).2 ht).2⟩
      · cases h
    · cases h
  | .ite cc a b, t, c, n, p, own, W, X, h, F => by
    simp only [chkE, Bool.and_eq_true, Bool.not_eq_true'] at h; obtain ⟨hp, h⟩ := h; split at h
    · simp only [Bool.and_eq_true] at h
      obtain ⟨h1, h2, h3⟩ := h
      subst hp
      exact ⟨fun _ => s_ite ((okE cc h1 F).2 rfl rfl) ((okE a h2 F).1 rfl) ((okE b h3 F).1 rfl), fun z => nomatch z⟩
    · cases h
  | .cmp o a b, t, c, n, p, own, W, X, h, F => by
    simp only [chkE] at h; split at h
    · simp only [Bool.and_eq_true] at h
      obtain ⟨h1, h2, h3, h4⟩ := h
      obtain ⟨a1, a2⟩ := okO F h3 fun z => (okE a z F).1 rfl
      obtain ⟨b1, b2⟩ := okO F h4 fun z => (okE b z F).1 rfl
      obtain ⟨x, y⟩ := okCmp (n := n) F h1 a1 b1 a2 b2 h2
      exact ⟨fun _ => x, fun _ _ => y⟩
    · cases h
  | .reprNe a b, t, c, n, p, own, W, X, h, F => by
    simp only [chkE] at h; split at h
    · simp only [Bool.and_eq_true, Bool.not_eq_true'] at h
      obtain ⟨h1, h2, h3, h4, h5, h6, h7⟩ := h
      obtain rfl := beq_iff_eq.mp h1
      obtain rfl := beq_iff_eq.mp h2
      obtain ⟨a1, a2⟩ := okO F h6 fun z => (okE a z F).1 rfl
      obtain ⟨b1, b2⟩ := okO F h7 fun z => (okE b z F).1 rfl
      have hu := F.units
      exact ⟨fun _ => s_reprNe F.K F.quiet (by omega) (F.gl h3) (F.bn (by decide)) a1 b1 h4 h5 a2 b2, fun _ _ => t_reprNe F.K F.quiet (by omega) (F.gl h3) (F.bn (by decide)) a1 b1 h4 h5 a2 b2⟩
    · cases h
  | .isN a, t, c, n, p, own, W, X, h, F => by
    simp only [chkE] at h; split at h
    · have ih := (okE a h F).1 rfl
      exact ⟨fun _ => s_isN ih, fun _ _ => t_isN ih⟩
    · cases h
  | .notN a, t, c, n, p, own, W, X, h, F => by
    simp only [chkE] at h; split at h
    · have ih := (okE a h F).1 rfl
      exact ⟨fun _ => s_notN ih, fun _ _ => t_notN ih⟩
    · cases h
  | .isi a ts, t, c, n, p, own, W, X, h, F => by
    simp only [chkE, Bool.and_eq_true] at h; obtain ⟨hp, h⟩ := h; split at h
    · simp only [Bool.and_eq_true, Bool.not_eq_true'] at h
      obtain ⟨h1, h2, h3, h4, h5⟩ := h
      obtain rfl := beq_iff_eq.mp h1
      obtain ⟨a1, a2⟩ := okO F h4 fun z => (okE a z F).1 rfl
      split at h5
      · simp only [Bool.and_eq_true] at h5
        obtain ⟨h6, h7, h8, h9⟩ := h5
        obtain rfl := beq_iff_eq.mp h6
        exact both hp (s_isi (F.gl h2) (F.bn (by decide)) a1 h3 a2 h7 (F.gl h8) (F.bn h9))
      · cases h5
    · cases h
  | .isiT a ts, t, c, n, p, own, W, X, h, F => by
    simp only [chkE, Bool.and_eq_true] at h; obtain ⟨hp, h⟩ := h; split at h
    · simp only [Bool.and_eq_true, Bool.not_eq_true', decide_eq_true_eq] at h
      obtain ⟨h1, h2, h3, h4, h5, h6⟩ := h
      obtain rfl := beq_iff_eq.mp h1
      obtain ⟨a1, a2⟩ := okO F h4 fun z => (okE a z F).1 rfl
      exact both hp (s_isiT (F.gl h2) (F.bn (by decide)) a1 h3 a2 (okTys F h5) h6)
    · cases h
  | .call f as, t, c, n, p, own, W, X, h, F => by
    simp only [chkE, Bool.and_eq_true] at h; obtain ⟨hp, h⟩ := h; split at h
    · simp only [Bool.and_eq_true, Bool.not_eq_true'] at h
      obtain ⟨h0, h1, h2, h3, h4, h5, h6, h7, h8⟩ := h
      obtain ⟨a1, a2⟩ := okAs as h7 F h6
      obtain ⟨fd, prs, D1, D2, D3, D4⟩ := F.defs f _ (beq_iff_eq.mp h1)
      rename_i x _ ps _
      have hio : ioArgs own as = true := by rw [ioArgs_lv, F.lv]; exact h8
      cases ps with
      | nil =>
        cases as with
        | nil => exact both hp (s_call0 D1 (F.room h0) F.quiet (F.gl h2) D3 D4 D2 (F.pass h0) h3 (beq_iff_eq.mp h4) (beq_iff_eq.mp h5))
        | cons m e as => simp [chkAs] at h7
      | cons q ps =>
        obtain ⟨s1, s2⟩ := star_cons h6
        exact both hp (s_call D1 (F.room h0) F.quiet (F.gl h2) D3 D4 D2 (F.pass h0) a1 h3 s1 s2 hio (beq_iff_eq.mp h4) (beq_iff_eq.mp h5))
    · cases h
  | .listRange as, t, c, n, p, own, W, X, h, F => by
    simp only [chkE, Bool.and_eq_true, decide_eq_true_eq] at h; obtain ⟨hp, hn, hc, h⟩ := h; split at h
    · simp only [Bool.and_eq_true] at h
      obtain ⟨h1, h2, h3, h4, h5, h6, h7⟩ := h
      obtain rfl := beq_iff_eq.mp h1
      obtain rfl := beq_iff_eq.mp h2
      have ih := okV as h6 F
      cases ih with
      | nil => simp [nAs] at h7
      | cons i1 b1 r =>
        cases r with
        | nil => exact both hp (frz hn (s_lr1 (F.calm hc) (F.gl h3) (F.bn (by decide)) (F.gl h4) (F.bn (by decide)) i1 (star_cons h5).1 (notBor_ne b1)))
        | cons i2 b2 r2 =>
          cases r2 with
          | nil => exact both hp (frz hn (s_lr2 (F.calm hc) (F.gl h3) (F.bn (by decide)) (F.gl h4) (F.bn (by decide)) i1 (star_cons h5).1 i2 (star_cons (star_cons h5).2).1))
          | cons i3 b3 r3 => simp [nAs] at h7
    · cases h
  | .bi b as, t, c, n, p, own, W, X, h, F => by
    simp only [chkE, Bool.and_eq_true] at h; obtain ⟨hp, hn, hc, h⟩ := h; split at h
    · simp only [Bool.and_eq_true] at h
      obtain ⟨h1, h2, h3, h4⟩ := h
      obtain ⟨a1, a2⟩ := okAs as h4 F h3
      exact both hp (okBi F (beq_iff_eq.mp h1) hn hc h2 h3 a1 a2)
    · cases h
  | .xf j i, t, c, n, p, own, W, X, h, F => by
    simp only [chkE, Bool.and_eq_true] at h; obtain ⟨hp, hn, h⟩ := h; split at h
    · rename_i x px f pf
      split at h
      · rename_i j' kc hxk
        simp only [Bool.and_eq_true, List.all_eq_true, List.mem_range] at h
        obtain ⟨h1, h2, h3⟩ := h
        obtain rfl := beq_iff_eq.mp h1
        obtain ⟨cc, a, oe, d, pn, X0, rfl, hz, hf, hx, he, hs, hlt, xfc, hno⟩ := F.xk _ _ hxk
        have h4 := h3 cc hlt
        rw [he, hs] at h4
        simp only [Bool.and_self, Bool.not_true, Bool.false_or] at h4
        split at h4
        · rename_i g hg
          simp only [Bool.and_eq_true, List.all_eq_true, List.mem_range] at h4
          obtain ⟨h5, h6⟩ := h4
          have fn_of : ∀ g : Nat, G.fn g = T.fs.getD g ⟨#[]⟩ := fun g => by unfold Geo.fn; rw [F.fs]
          obtain ⟨x1, x2, x3, x4⟩ := F.name h2
          have ef : T.fs.getD g ⟨#[]⟩ = f := by rw [List.getD_eq_getElem?_getD, beq_iff_eq.mp h5]; rfl
          have eg : f = G.fn g := by rw [fn_of, ef]
          subst eg
          rw [beq_iff_eq.mp hn]
          refine both (n := 0) hp (s_xf (n := 0) (f := g) (c := cc) xfc (hno g (List.mem_of_getElem? hg)) hz hf hx x1 x2 x3 x4 hg (fun i' g' hi hg' => ?_) rfl)
          have := h6 i' hi
          rw [hg'] at this
          simp only [Bool.not_eq_true'] at this
          rw [fn_of]
          simpa using this
        · cases h4
      · cases h
    · cases h
  | .idx a i, t, c, n, p, own, W, X, h, F => by
    simp only [chkE, Bool.and_eq_true] at h; obtain ⟨hp, hn, h⟩ := h; split at h
    · simp only [Bool.and_eq_true] at h
      obtain ⟨h1, h2, h3, h4⟩ := h
      obtain ⟨a1, a2⟩ := okO F h3 fun z => (okE a z F).1 rfl
      have i1 := to_of (notBor_ne h2) ((okE i h4 F).1 rfl)
      rw [beq_iff_eq.mp hn]
      exact both (n := 0) hp (s_idx L2.ix_seq (ok_idx2 F.K) a1 i1 (plainIx_ok h1) a2 (opd_notBor h2) (late_notBor h2))
    · cases h
  | .slL a l, t, c, n, p, own, W, X, h, F => by
    simp only [chkE, Bool.and_eq_true, decide_eq_true_eq] at h; obtain ⟨hp, hn, h⟩ := h; split at h
    · simp only [Bool.and_eq_true] at h
      obtain ⟨a1, a2⟩ := okO F h.1 fun z => (okE a z F).1 rfl
      exact both hp (frz hn (s_slL a1 ((okE l h.2 F).1 rfl) a2))
    · cases h
  | .slH a l, t, c, n, p, own, W, X, h, F => by
    simp only [chkE, Bool.and_eq_true, decide_eq_true_eq] at h; obtain ⟨hp, hn, h⟩ := h; split at h
    · simp only [Bool.and_eq_true] at h
      obtain ⟨a1, a2⟩ := okO F h.1 fun z => (okE a z F).1 rfl
      exact both hp (frz hn (s_slH a1 ((okE l h.2 F).1 rfl) a2))
    · cases h
  | .slLH a l u, t, c, n, p, own, W, X, h, F => by
    simp only [chkE, Bool.and_eq_true, decide_eq_true_eq] at h; obtain ⟨hp, hn, h⟩ := h; split at h
    · simp only [Bool.and_eq_true] at h
      obtain ⟨a1, a2⟩ := okO F h.1 fun z => (okE a z F).1 rfl
      exact both hp (frz hn (s_slLH a1 ((okE l h.2.1 F).1 rfl) ((okE u h.2.2 F).1 rfl) a2))
    · cases h
  | .lst as, t, c, n, p, own, W, X, h, F => by
    simp only [chkE, Bool.and_eq_true] at h; obtain ⟨hp, h⟩ := h; split at h
    · simp only [Bool.and_eq_true] at h
      have ih := okEs as h.2 F h.1
      cases n with
      | zero => exact both hp (s_freeze (n := 1) (s_lst ih))
      | succ n => exact both hp (s_lst ih)
    · cases h
  | .tup as, t, c, n, p, own, W, X, h, F => by
    simp only [chkE, Bool.and_eq_true] at h; obtain ⟨hp, h⟩ := h; split at h
    · simp only [Bool.and_eq_true] at h
      exact both hp (s_tup (okEs as h.2 F h.1))
    · cases h
  | .comp e tg it cs, t, c, n, p, own, W, X, h, F => by
    simp only [chkE, Bool.and_eq_true, decide_eq_true_eq] at h; obtain ⟨hp, hn, hc, h⟩ := h; split at h
    · simp only [Bool.and_eq_true, List.all_eq_true] at h
      obtain ⟨h1, h2, h3, h4, h5, h6, h7, h8⟩ := h
      refine both hp (frz hn (s_comp (F.calm hc) (by rw [F.N]; exact F.nd) (okI it h1 F) (fun i z hm => ?_) (blk_ok F h3) (own_ids c _) (fun s H C cl fp => okTg (blk_fits F) tg h4) (fun s H C cl fp => okC cs h5 (blk_fits F)) (fun s H C cl fp => (okE e h6 (blk_fits F)).1 rfl) (noSet_fold h7) fun i hi => by rw [F.lvl]; exact beq_iff_eq.mp (h8 i hi)))
      subst z
      simp only [Bool.not_eq_true'] at h2
      rw [List.contains_iff_mem.mpr hm] at h2
      cases h2
    · cases h
  | .gl _, _, _, _, _, _, _, _, h, _ => by simp [chkE] at h
  | .fnv _, _, _, _, _, _, _, _, h, _ => by simp [chkE] at h
  | .bor _, _, _, _, _, _, _, _, h, _ => by simp [chkE] at h
  | .eqO _ _ _, _, _, _, _, _, _, _, h, _ => by simp [chkE] at h
  | .cmp2 _ _ _ _ _, _, _, _, _, _, _, _, h, _ => by simp [chkE] at h
  | .callv _ _, _, _, _, _, _, _, _, h, _ => by simp [chkE] at h
  | .meth _ _, _, _, _, _, _, _, _, h, _ => by simp [chkE] at h
  | .new _ _, _, _, _, _, _, _, _, h, _ => by simp [chkE] at h
  | .lenO _, _, _, _, _, _, _, _, h, _ => by simp [chkE] at h
  | .fld _ _, _, _, _, _, _, _, _, h, _ => by simp [chkE] at h
  | .rev _, _, _, _, _, _, _, _, h, _ => by simp [chkE] at h
  | .dsp _ _, _, _, _, _, _, _, _, h, _ => by simp [chkE] at h
  | .fstr _, _, _, _, _, _, _, _, h, _ => by simp [chkE] at h
theorem okEs : ∀ (es : Es) {c : Ctx} {n : Nat} {ps : List PySem.Expr} {own : Own} {W : WX} {X : L2.Cx}, chkEs T es c n ps = true → Fits T G call k own W c X → starOk ps = true → L2.PA X ps (TL G T.P own call n es W)
  | .nil, c, n, ps, own, W, X, h, F, hs => by
    simp only [chkEs, List.isEmpty_iff] at h
    subst h; exact s_nil
  | .cons e es, c, n, ps, own, W, X, h, F, hs => by
    simp only [chkEs] at h; split at h
    · simp only [Bool.and_eq_true] at h
      obtain ⟨s1, s2⟩ := star_cons hs
      exact s_cons ((okE e h.1 F).1 rfl) (okEs es h.2 F s2) s1
    · cases h
theorem okB : ∀ (es : Es) {t : Bool} {c : Ctx} {ps : List PySem.Expr} {own : Own} {W : WX} {X : L2.Cx}, chkB T es t c ps = true → Fits T G call k own W c X → ∀ pos,
    (t = false → L2.PE X (.BoolOp .And ps pos) (TAnd G T.P own call es W) ∧ L2.PE X (.BoolOp .Or ps pos) (TOr G T.P own call es W)) ∧ (t = true → L2.PW X (.BoolOp .And ps pos) (TTAnd G T.P own call es W) ∧ L2.PW X (.BoolOp .Or ps pos) (TTOr G T.P own call es W))
  | .nil, t, c, ps, own, W, X, h, F, pos => by simp [chkB] at h
  | .cons e .nil, t, c, ps, own, W, X, h, F, pos => by
    simp only [chkB] at h; split at h
    · cases h
    · simp only [Bool.and_eq_true] at h
      obtain ⟨h1, h2⟩ := h
      have ih := okE e h1 F
      rename_i p0 ps0
      cases ps0 with
      | nil => exact ⟨fun ht => ⟨s_and1 (ih.1 ht), s_or1 (ih.1 ht)⟩, fun ht => ⟨t_and1 (ih.2 ht rfl), t_or1 (ih.2 ht rfl)⟩⟩
      | cons q qs => cases h2
  | .cons e (.cons e2 es), t, c, ps, own, W, X, h, F, pos => by
    simp only [chkB] at h; split at h
    · cases h
    · simp only [Bool.and_eq_true] at h
      obtain ⟨h1, h2⟩ := h
      have ih := okE e h1 F
      rename_i p0 ps0
      cases ps0 with
      | nil => cases h2
      | cons q qs =>
        have h3 : chkB T (.cons e2 es) t c (q :: qs) = true := by simp only [chkB]; exact h2
        have ih2 := okB (.cons e2 es) h3 F pos
        exact ⟨fun ht => ⟨s_andC (ih.1 ht) (ih2.1 ht).1, s_orC (ih.1 ht) (ih2.1 ht).2⟩, fun ht => ⟨t_andC (ih.2 ht rfl) (ih2.2 ht).1, t_orC (ih.2 ht rfl) (ih2.2 ht).2⟩⟩
theorem okAs : ∀ (as : As) {c : Ctx} {ps : List PySem.Expr} {own : Own} {W : WX} {X : L2.Cx}, chkAs T as c ps = true → Fits T G call k own W c X → starOk ps = true → L2.PA X ps (TA G T.P own call as W) ∧ opds own as = true
  | .nil, c, ps, own, W, X, h, F, hs => by
    simp only [chkAs, List.isEmpty_iff] at h
    subst h; exact ⟨a_nil, rfl⟩
  | .cons m e es, c, ps, own, W, X, h, F, hs => by
    simp only [chkAs] at h; split at h
    · simp only [Bool.and_eq_true] at h
      obtain ⟨s1, s2⟩ := star_cons hs
      obtain ⟨a1, a2⟩ := okO F h.1 fun z => (okE e z F).1 rfl
      obtain ⟨i1, i2⟩ := okAs es h.2 F s2
      exact ⟨a_cons a1 i1 s1, by simp only [opds, a2, i2, Bool.and_self]⟩
    · cases h
theorem okV : ∀ (as : As) {c : Ctx} {ps : List PySem.Expr} {own : Own} {W : WX} {X : L2.Cx}, chkV T as c ps = true → Fits T G call k own W c X → OkVs T G call own W X as ps
  | .nil, c, ps, own, W, X, h, F => by
    simp only [chkV, List.isEmpty_iff] at h
    subst h; exact .nil
  | .cons m e es, c, ps, own, W, X, h, F => by
    simp only [chkV] at h; split at h
    · simp only [Bool.and_eq_true] at h
      exact .cons ((okE e h.2.1 F).1 rfl) h.1 (okV es h.2.2 F)
    · cases h
theorem okC : ∀ (cs : Es) {c : Ctx} {ps : List PySem.Expr} {own : Own} {W : WX} {X : L2.Cx}, chkC T cs c ps = true → Fits T G call k own W c X → L2.PTs X ps (TCs G T.P own call cs W)
  | .nil, c, ps, own, W, X, h, F => by
    simp only [chkC, List.isEmpty_iff] at h
    subst h; exact c_nil
  | .cons e es, c, ps, own, W, X, h, F => by
    simp only [chkC] at h; split at h
    · exact c_one ((okE e h F).2 rfl rfl)
    · cases h
theorem okI : ∀ (it : It) {c : Ctx} {p : PySem.Expr} {ptg : PySem.Expr} {own : Own} {W : WX} {X : L2.Cx}, chkI T it c p = true → Fits T G call k own W c X → L2.PI X ptg p (TIr G T.P own call it W)
  | .e a, c, p, ptg, own, W, X, h, F => by
    simp only [chkI] at h
    obtain ⟨a1, a2⟩ := okO F h fun z => (okE a z F).1 rfl
    exact i_seq F.K a1 a2
  | .range as, c, p, ptg, own, W, X, h, F => by
    simp only [chkI] at h; split at h
    · simp only [Bool.and_eq_true] at h
      obtain ⟨h1, h2, h3, h4, h5⟩ := h
      obtain rfl := beq_iff_eq.mp h1
      have ih := okV as h4 F
      cases ih with
      | nil => simp [nAs] at h5
      | cons i1 b1 r =>
        cases r with
        | nil => exact i_rg1 (F.gl h2) (F.bn (by decide)) i1 (star_cons h3).1
        | cons i2 b2 r2 =>
          cases r2 with
          | nil => exact i_rg2 (F.gl h2) (F.bn (by decide)) i1 (star_cons h3).1 i2 (star_cons (star_cons h3).2).1
          | cons i3 b3 r3 =>
            cases r3 with
            | nil => exact i_rg3 (F.gl h2) (F.bn (by decide)) i1 (star_cons h3).1 i2 (star_cons (star_cons h3).2).1 i3 (star_cons (star_cons (star_cons h3).2).2).1
            | cons i4 b4 r4 => simp [nAs] at h5
    · cases h
  | .enum _, _, _, _, _, _, _, h, _ => by simp [chkI] at h
  | .zip _ _, _, _, _, _, _, _, h, _ => by simp [chkI] at h
  | .items _, _, _, _, _, _, _, h, _ => by simp [chkI] at h
  | .values _, _, _, _, _, _, _, h, _ => by simp [chkI] at h
end
end
end LW
end

section
set_option Elab.async false
set_option maxRecDepth 100000
set_option maxHeartbeats 4000000
/-! Chk4: forms of assignments. -/
namespace LW
open PySem
def locName (sc : Scope) : PySem.Expr → Bool
  | .Name x _ => sc.names.lookup x == some .local
  | _ => false
/-- plain stores, one after the other -/
def swapNone (sc : Scope) (ts : List PySem.Expr) : Bool := !(ts.length == 2 || ts.length == 3) || ts.any fun t => !locName sc t
def nmF (env : PySem.Env) (line : Nat) : PySem.Expr → Option Str
  | .Name id pos => if env.kindOf id == some .local && pos.line == line then some id else none
  | _ => none
theorem filter_short (sc : Scope) (env : PySem.Env) (he : env.scope = sc) (line : Nat) : ∀ (ts : List PySem.Expr), (ts.any fun t => !locName sc t) = true → (ts.filterMap (nmF env line)).length < ts.length
  | [], h => by simp at h
  | t :: ts, h => by
    have le : ∀ l : List PySem.Expr, (l.filterMap (nmF env line)).length ≤ l.length := fun l => List.length_filterMap_le _ _
    simp only [List.any_cons, Bool.or_eq_true, Bool.not_eq_true'] at h
    rcases h with h | h
    · have hn : nmF env line t = none := by
        cases t <;> try rfl
        rename_i x p
        simp only [locName] at h
        have : env.kindOf x = sc.names.lookup x := by rw [← he]; rfl
        simp only [nmF, this, h, Bool.false_and]
        rfl
      rw [List.filterMap_cons_none hn]
      have := le ts
      simp only [List.length_cons]
      omega
    · have ih := filter_short sc env he line ts h
      simp only [List.filterMap_cons, List.length_cons]
      split
      · omega
      · simp only [List.length_cons]; omega
theorem swap_none {sc : Scope} {env : PySem.Env} (he : env.scope = sc) {ts vs : List PySem.Expr} {k1 k2 : Nat} {p1 p2 : Pos} (h : swapNone sc ts = true) : swappedStores [.Tuple ts k1 p1] (.Tuple vs k2 p2) env = pure none := by
  unfold swappedStores
  simp only []
  unfold swapNone at h
  simp only [Bool.or_eq_true] at h
  split
  · rfl
  · rename_i h1
    rcases h with h | h
    · simp only [Bool.or_eq_true, not_or] at h1
      exact absurd h h1.1.1
    · split
      · rfl
      · split
        · rfl
        · rename_i h3
          have := filter_short sc env he ((ts.head?.map (·.pos.line)).getD 0) ts h
          simp only [Bool.or_eq_true, not_or, bne_iff_ne, ne_eq, Decidable.not_not] at h3
          have h5 : (ts.filterMap (nmF env ((ts.head?.map (·.pos.line)).getD 0))).length = ts.length := by
            refine Eq.trans (congrArg (fun f => (List.filterMap f ts).length) ?_) h3.1
            funext t
            cases t <;> rfl
          omega
theorem swap_noTup {env : PySem.Env} {t v : PySem.Expr} (h : (match v with | .Tuple .. => false | _ => true) = true) : swappedStores [t] v env = pure none := by
  unfold swappedStores
  cases v <;> first | (cases h; done) | (cases t <;> rfl)
/-- a, b = x, y of local names, stored from the right -/
def parOk (sc : Scope) (x y : Str) (px py : Pos) (a b : PySem.Expr) : Bool :=
  decide (sc.kind = .function) && (sc.names.lookup x == some .local && (sc.names.lookup y == some .local && (!(x == y) && (px.line == py.line && (!isStar a && (!isStar b && (!([a, b].all (foldedForSure 8)) && !([a, b].all (constantsAlone 8)))))))))
theorem swap_par2 {sc : Scope} {env : PySem.Env} (he : env.scope = sc) {x y : Str} {px py : Pos} {a b : PySem.Expr} {k1 k2 : Nat} {p1 p2 : Pos} (h : parOk sc x y px py a b = true) : swappedStores [.Tuple [.Name x px, .Name y py] k1 p1] (.Tuple [a, b] k2 p2) env = pure (some [x, y]) := by
  unfold parOk at h
  simp only [Bool.and_eq_true, Bool.not_eq_true', decide_eq_true_eq] at h
  obtain ⟨h0, h1, h2, h3, h4, h5, h6, h7, h8⟩ := h
  have kx : env.kindOf x = some .local := by show env.scope.names.lookup x = _; rw [he]; exact beq_iff_eq.mp h1
  have ky : env.kindOf y = some .local := by show env.scope.names.lookup y = _; rw [he]; exact beq_iff_eq.mp h2
  have hb : env.blockKind = .function := by unfold Env.blockKind; rw [he, h0]; rfl
  have hsa : (match a with | .Starred .. => true | _ => false) = false := by cases a <;> first | rfl | (simp [isStar] at h5; done)
  have hsb : (match b with | .Starred .. => true | _ => false) = false := by cases b <;> first | rfl | (simp [isStar] at h6; done)
  have hl : (px.line == px.line) = true := by simp
  have hl2 : (py.line == px.line) = true := by rw [beq_iff_eq.mp h4]; simp
  unfold swappedStores
  simp only [List.any_cons, List.any_nil, hsa, hsb, hb, List.head?_cons, Option.map_some, Option.getD_some, List.filterMap_cons, List.filterMap_nil, kx, ky, PySem.Expr.pos, hl, hl2, h7, h8, List.length_cons, List.length_nil, beq_self_eq_true, Bool.and_self, if_true, Bool.or_false, Bool.false_eq_true, if_false, bne_self_eq_false, Bool.or_self, Bool.not_true]
  have hd : ([x, y] : List Str).eraseDups = [x, y] := by
    have : (y == x) = false := by
      rw [beq_eq_false_iff_ne] at h3 ⊢
      exact Ne.symm h3
    simp [List.eraseDups_cons, this]
  rw [hd]
  simp
  intro hz
  exfalso
  rcases hz with z | z
  · cases a <;> first | (cases z; done) | (simp [isStar] at h5; done)
  · cases b <;> first | (cases z; done) | (simp [isStar] at h6; done)
end LW
end

section
set_option Elab.async false
set_option maxRecDepth 100000
set_option maxHeartbeats 8000000
/-! Chk5: the checker of statements. -/
namespace LW
open PySem
def mutName : Mm → Option Str
  | .append => some "append"
  | .extend => some "extend"
  | .insert => some "insert"
  | _ => none
def augOk (o : BOp) (op : Operator) : Bool := match o, op with
  | .add, .Add => true
  | .sub, .Sub => true
  | _, _ => false
def suiteCtx (c : Ctx) (xk : Option (Nat × Nat)) : Ctx := { c with calm := false, hot := true, xk := xk }
def ioN (c : Ctx) (is : List Nat) : Bool := !c.io || !is.contains 0
def isBorIt : It → Bool
  | .e (.bor _) => true
  | _ => false
variable (T : Tab)
def chkN : Es → Ctx → List Nat → List PySem.Expr → Bool
  | .nil, _, ns, ps => ps.isEmpty
  | .cons e es, c, ns, ps => match ns, ps with | n :: ns, p :: ps => chkE T e false c n p && chkN es c ns ps | _, _ => false
mutual
def chkS : LW.S → Ctx → PySem.Stmt → Bool
  | .set i e, c, p => match p with | .Assign [.Name x _] pe _ => c.N[i]? == some x && (locB c x && (noCompB pe && (chkE T e false c (c.lv.getD i 0) pe && ioN c [i]))) | _ => false
  | .asg tg e, c, p => match p with
    | .Assign [ptg] pe _ => !isStar ptg && (chkTg tg c ptg && (noCompB pe && (chkE T e false c 0 pe && (ioN c (tgIds tg) && (match pe with | .Tuple _ _ _ => (match ptg with | .Tuple ts _ _ => swapNone c.sc ts | _ => false) | _ => true)))))
    | _ => false
  | .par is es, c, p => match is with
    | [i, j] => (match p with
      | .Assign [.Tuple [.Name x px, .Name y py] _ _] (.Tuple [a, b] _ _) _ => c.calm && (c.N[i]? == some x && (c.N[j]? == some y && (i != j && (parOk c.sc x y px py a b && (ioN c [i, j] && chkN T es c [c.lv.getD i 0, c.lv.getD j 0] [a, b])))))
      | _ => false)
    | _ => false
  | .setIx pl kk e, c, p => match pl with
    | .v i => (match p with
      | .Assign [.Subscript (.Name x p1) pk _] pe _ => borOk c i (.Name x p1) && (c.lv.getD i 0 == 1 && (plainIxB pk && (noCompB pe && (chkE T kk false c 0 pk && chkE T e false c 0 pe))))
      | _ => false)
    | _ => false
  | .mut pl m as, c, p => match pl with
    | .v i => (match p with
      | .Expr (.Call (.Attribute (.Name x p1) name p2) (pe :: pes) [] p3) _ => mutName m == some name && (borOk c i (.Name x p1) && (c.lv.getD i 0 == 1 && (starOk (pe :: pes) && (decide ((pe :: pes).length < 30) && (p2.endLine == p3.line && chkEs T as c 0 (pe :: pes))))))
      | _ => false)
    | _ => false
  | .aug i o e, c, p => match p with | .AugAssign (.Name x _) op pe _ => c.N[i]? == some x && (locB c x && (augOk o op && (chkE T e false c 0 pe && ioN c [i]))) | _ => false
  | .ex e, c, p => match p with | .Expr pe _ => noCompB pe && chkE T e false c 0 pe | _ => false
  | .ret e, c, p => match p with | .Return (some pe) _ => chkE T e false c c.rt pe | _ => false
  | .retN, _, p => match p with | .Return none _ => true | _ => false
  | .ite cc a b, c, p => match p with | .If pc pa pb _ => chkE T cc true c 0 pc && (chkSs a c pa && chkSs b c pb) | _ => false
  | .for tg it b, c, p => match p with | .For ptg pit pb [] _ => c.calm && (!c.hot && (!isBorIt it && (chkI T it c pit && (chkTg tg c ptg && (chkSs b c pb && (noSet pit && ioN c (tgIds tg))))))) | _ => false
  | .whl cc b, c, p => match p with | .While pc pb [] _ => !c.hot && (chkE T cc true c 0 pc && chkSs b c pb) | _ => false
  | .rais ec as, c, p => match as with
    | .cons a .nil => (match p with
      | .Raise (some (.Call (.Name nm _) [pa] [] _)) none _ => c.calm && (!c.hot && (T.P.exc ec && (T.cname[ec]? == some nm && (glB c nm && (!(nm == ("__debug__" : Str)) && (!isStar pa && (chkE T a false c 0 pa && (T.P.xfs ec).length == 1)))))))
      | _ => false)
    | _ => false
  | .tr b hs, c, p => match p with
    | .Try pb hds [] [] _ => !c.hot && (!hds.isEmpty && (chkSs b c pb && (chkH hs c hds && ((!c.io || hsFree hs) && hsExc T.P hs))))
    | _ => false
  | .pass, _, p => match p with | .Pass _ => true | _ => false
  | _, _, _ => false
def chkSs : Ss → Ctx → List PySem.Stmt → Bool
  | .nil, _, ps => ps.isEmpty
  | .cons s ss, c, ps => match ps with | p :: ps => chkS s c p && chkSs ss c ps | [] => false
def chkH : Hs → Ctx → List ExceptHandler → Bool
  | .nil, _, hs => hs.isEmpty
  | .cons kk j b r, c, hs => match hs with
    | .ExceptHandler (some (.Name x _)) nm (st :: sts) _ :: hs => T.P.exc kk && (T.cname[kk]? == some x && (glB c x && (!(x == ("__debug__" : Str)) && (chkH r c hs && (match j with
      | none => (match nm with | none => chkSs b (suiteCtx c none) (st :: sts) | some _ => false)
      | some j => (match nm with | some n => c.N[j]? == some n && (c.sc.names.lookup n == some .local && chkSs b (suiteCtx c (some (j, kk))) (st :: sts)) | none => false))))))
    | _ => false
end
end LW
end

section
set_option Elab.async false
set_option maxRecDepth 100000
set_option maxHeartbeats 8000000
/-! Chk6: the checker of statements is right. -/
namespace LW
open PySem PySem.Spec PyProof.Rows
/-- what statements ask beyond -/
structure FitsS (T : Tab) (G : Geo) (call : Nat → List D → CR) (k : Nat) (own : Own) (W : WX) (c : Ctx) (X : L2.Cx) (fx : Option V) : Prop where
  e : Fits T G call k own W c X
  top : X.stack = X.env :: X.outer
  fr : X.env.frame = some X.env.locals
  tk : c.hot = false → L2.Takes X W
  pown : c.hot = false → PassesOwn (model X.prog X.w) X.A X.env X.xe
  fx : fx = none ∨ c.io = true
  room1 : c.hot = false → ∃ k', L2.Room (k' + 1) X.A
  xcs : ∀ cc, T.P.exc cc = true → cc < T.ncls ∧ L2.XfC X.K (G.ca cc) ∧ (∀ f ∈ T.P.xfs cc, PySem.W.findIn X.K (.ref (G.ca cc)) (G.fn f) = some none) ∧ ∀ nm, T.cname[cc]? = some nm → X.mg nm = some (.ref (G.ca cc))
  rais : ∀ cc fid, T.P.exc cc = true → T.P.xfs cc = [fid] → ∃ fI qual st sn x, XDef X.K X.prog (G.ca cc) fI qual st ∧ XBody1 st sn x (G.fn fid) ∧
    ∀ (s : Shared) (v u : Value) (kV doc pm cdv ct : Value) (an : Option Addr) (ccl : Addr), BindsTo s (PySem.W.ksFn "__init__" qual (L2.defArgs st) (L2.defBody st) (L2.defScope st) .none kV doc pm an cdv ct ccl) ⟨[v, u], []⟩ [(sn, v), (x, u)]
  exm : ∀ a b, T.P.exc a = true → T.P.exc b = true → PySem.W.exmOne X.K (.ref (G.ca a)) (.ref (G.ca b)) = some (T.P.sub a b)
section
variable {T : Tab} {G : Geo} {call : Nat → List D → CR} {k wf : Nat}
theorem FitsS.io {own : Own} {W : WX} {c : Ctx} {X : L2.Cx} {fx : Option V} (F : FitsS T G call k own W c X fx) {is : List Nat} (h : ioN c is = true) : fx = none ∨ 0 ∉ is := by
  unfold ioN at h
  rcases F.fx with z | z
  · exact .inl z
  · rw [z] at h
    refine .inr fun m => ?_
    simp only [Bool.not_true, Bool.false_or, Bool.not_eq_true'] at h
    rw [List.contains_iff_mem.mpr m] at h
    cases h
theorem FitsS.io1 {own : Own} {W : WX} {c : Ctx} {X : L2.Cx} {fx : Option V} (F : FitsS T G call k own W c X fx) {i : Nat} (h : ioN c [i] = true) : fx = none ∨ i ≠ 0 := (F.io h).imp id fun z y => z (by simp [y])
theorem okN {own : Own} {W : WX} {X : L2.Cx} {c : Ctx} (F : Fits T G call k own W c X) : ∀ {es : Es} {ns : List Nat} {ps : List PySem.Expr}, chkN T es c ns ps = true → starOk ps = true → L2.PA X ps (TN G T.P own call ns es W)
  | .nil, ns, ps, h, hs => by
    simp only [chkN, List.isEmpty_iff] at h
    subst h; exact n_nil
  | .cons e es, ns, ps, h, hs => by
    simp only [chkN] at h; split at h
    · simp only [Bool.and_eq_true] at h
      obtain ⟨s1, s2⟩ := star_cons hs
      exact n_cons ((okE e h.1 F).1 rfl) (okN F h.2 s2) s1
    · cases h
theorem star_two {a b : PySem.Expr} (h1 : isStar a = false) (h2 : isStar b = false) : starOk [a, b] = true := by simp only [starOk, List.all_cons, List.all_nil, h1, h2]; rfl
theorem assign_sub {o pk : PySem.Expr} {p : Pos} {env : PySem.Env} (h : plainIxB pk = true) : ∀ v, assign (.Subscript o pk p) env v = (do
      let ov ← holding [v] (eval o env)
      let iv ← holding [v, ov] (eval pk env)
      standAt p
      holding [v, ov, iv] (setItem ov iv v)
      release [v, ov, iv] []) := by
  cases pk <;> first | (intro v; rfl) | (simp [plainIxB] at h; done)
/-- into a try's body -/
theorem FitsS.tr {own : Own} {W W' : WX} {c : Ctx} {X : L2.Cx} {fx : Option V} (F : FitsS T G call k own W c X fx) (hot : c.hot = false) (xk : c.xk = none) {pn : List (Addr × Obj)} {xe : Value → Shared → Prop} (tk : L2.Takes (X.tr pn xe) W') (po : PassesOwn (model X.prog X.w) X.A X.env xe) : FitsS T G call k own W' c (X.tr pn xe) fx where
  e := { N := F.e.N, nd := F.e.nd, sc := F.e.sc, K := F.e.K, lv := F.e.lv, calm := F.e.calm, fn := F.e.fn, mg0 := F.e.mg0, room := F.e.room, quiet := F.e.quiet, units := F.e.units, pass := fun _ σ => L2.passAt tk σ, defs := F.e.defs, fs := F.e.fs, xk := fun j kc h => by rw [xk] at h; cases h }
  top := F.top
  fr := F.fr
  tk := fun _ => tk
  pown := fun _ => po
  fx := F.fx
  room1 := F.room1
  xcs := F.xcs
  rais := F.rais
  exm := F.exm
/-- into a suite -/
theorem FitsS.su {own : Own} {W : WX} {c : Ctx} {X : L2.Cx} {fx : Option V} (F : FitsS T G call k own W c X fx) {a : Addr} {pn : List (Addr × Obj)} : FitsS T G call k own W0 (suiteCtx c none) (X.suite a pn) fx where
  e := { N := F.e.N, nd := F.e.nd, sc := F.e.sc, K := F.e.K, lv := F.e.lv, calm := (fun h => by cases h), fn := F.e.fn, mg0 := F.e.mg0, room := (fun h => by cases h), quiet := F.e.quiet, units := F.e.units, pass := (fun h => by cases h), defs := F.e.defs, fs := F.e.fs, xk := (fun j kc h => by cases h) }
  top := F.top
  fr := F.fr
  tk := fun h => by cases h
  pown := fun h => by cases h
  fx := F.fx
  room1 := fun h => by cases h
  xcs := F.xcs
  rais := F.rais
  exm := F.exm
theorem FitsS.suX {own : Own} {W : WX} {c : Ctx} {X : L2.Cx} {fx : Option V} (F : FitsS T G call k own W c X fx) {a : Addr} {oe : Obj} {d : Option Addr} {pn : List (Addr × Obj)} {j kk cc : Nat} (hz : L2.Zc (.ref (G.ca cc)) d oe) (hf : ∃ vs, oe.data = .fields vs) (he : T.P.exc cc = true) (hs : T.P.sub cc kk = true) :
    FitsS T G call k (ownX own a d (T.P.xfs cc)) W0 (suiteCtx c (some (j, kk))) (X.suite a ((a, oe) :: pn)) fx where
  e := { N := F.e.N, nd := F.e.nd, sc := F.e.sc, K := F.e.K, lv := F.e.lv, calm := (fun h => by cases h), fn := F.e.fn, mg0 := F.e.mg0, room := (fun h => by cases h), quiet := F.e.quiet, units := F.e.units, pass := (fun h => by cases h), defs := F.e.defs, fs := F.e.fs,
         xk := fun j' kc h => by
          cases h
          obtain ⟨h1, h2, h3, _⟩ := F.xcs cc he
          exact ⟨cc, a, oe, d, pn, X, rfl, hz, hf, rfl, he, hs, h1, h2, h3⟩ }
  top := F.top
  fr := F.fr
  tk := fun h => by cases h
  pown := fun h => by cases h
  fx := F.fx
  room1 := fun h => by cases h
  xcs := F.xcs
  rais := F.rais
  exm := F.exm
mutual
theorem okS : ∀ (s : LW.S) {c : Ctx} {p : PySem.Stmt} {own : Own} {W : WX} {X : L2.Cx} {fx : Option V}, chkS T s c p = true → FitsS T G call k own W c X fx → c.xk = none ∨ c.hot = true → L2.PS X p (TS1 G T.P own c.rt fx call wf s W)
  | .set i e, c, p, own, W, X, fx, h, F, xk => by
    simp only [chkS] at h; split at h
    · simp only [Bool.and_eq_true] at h
      obtain ⟨h1, h2, h3, h4, h5⟩ := h
      obtain ⟨l1, l2⟩ := F.e.loc h2
      exact x_set (by rw [F.e.N]; exact F.e.nd) (by rw [F.e.N]; exact beq_iff_eq.mp h1) l1 ((okE e h4 F.e).1 rfl) (noComp_swap h3) l2 (F.e.lvl i).symm (F.io1 h5)
    · cases h
  | .asg tg e, c, p, own, W, X, fx, h, F, xk => by
    simp only [chkS] at h; split at h
    · rename_i ptg pe pos
      simp only [Bool.and_eq_true, Bool.not_eq_true'] at h
      obtain ⟨h1, h2, h3, h4, h5, h6⟩ := h
      refine x_asg ((okE e h4 F.e).1 rfl) (okTg F.e tg h2) (noComp_swap h3) ?_ h1 (F.io h5)
      split at h6
      · split at h6
        · exact swap_none F.e.sc h6
        · cases h6
      · rename_i hne
        refine swap_noTup ?_
        cases pe <;> first | rfl | exact absurd rfl (hne _ _ _)
    · cases h
  | .par is es, c, p, own, W, X, fx, h, F, xk => by
    simp only [chkS] at h; split at h
    · split at h
      · simp only [Bool.and_eq_true] at h
        obtain ⟨h1, h2, h3, h4, h5, h6, h7⟩ := h
        have hp := h5
        unfold parOk at hp
        simp only [Bool.and_eq_true, Bool.not_eq_true', decide_eq_true_eq] at hp
        obtain ⟨p0, p1, p2, p3, p4, p5, p6, p7, p8⟩ := hp
        have ha := okN F.e h7 (star_two p5 p6)
        rw [← F.e.lvl, ← F.e.lvl] at ha
        exact x_par2 (F.e.calm h1) (by rw [F.e.N]; exact F.e.nd) (by rw [F.e.N]; exact beq_iff_eq.mp h2) (by rw [F.e.N]; exact beq_iff_eq.mp h3) (by simpa using h4) (by rw [F.e.sc]; exact beq_iff_eq.mp p1) (by rw [F.e.sc]; exact beq_iff_eq.mp p2) ha (swap_par2 F.e.sc h5) (F.io h6)
      · cases h
    · cases h
  | .setIx pl kk e, c, p, own, W, X, fx, h, F, xk => by
    simp only [chkS] at h; split at h
    · split at h
      · simp only [Bool.and_eq_true] at h
        obtain ⟨h1, h2, h3, h4, h5, h6⟩ := h
        refine x_setIx (F.e.bor h1).1 ((okE kk h5 F.e).1 rfl) ((okE e h6 F.e).1 rfl) (by rw [F.e.lvl]; exact beq_iff_eq.mp h2) (by unfold swapsWithSole; exact noComp_swap h4) (assign_sub h3)
      · cases h
    · cases h
  | .mut pl m as, c, p, own, W, X, fx, h, F, xk => by
    simp only [chkS] at h; split at h
    · split at h
      · simp only [Bool.and_eq_true, decide_eq_true_eq] at h
        obtain ⟨h1, h2, h3, h4, h5, h6, h7⟩ := h
        have has := okEs as h7 F.e h4
        have ho : own.getD _ 0 = 1 := (F.e.lvl _).trans (beq_iff_eq.mp h3)
        have hx := (F.e.bor (P := T.P) (call := call) h2).1
        cases m <;> simp only [mutName] at h1 <;> try (cases h1; done)
        · obtain rfl := Option.some.inj (beq_iff_eq.mp h1)
          exact x_mut PySem.F.slot_list_append PySem.F.type_list_append L2.mt_append hx has ho mut_append h6 h4 h5
        · obtain rfl := Option.some.inj (beq_iff_eq.mp h1)
          exact x_mut PySem.F.slot_list_extend PySem.F.type_list_extend L2.mt_extend hx has ho mut_extend h6 h4 h5
        · obtain rfl := Option.some.inj (beq_iff_eq.mp h1)
          exact x_mut PySem.F.slot_list_insert PySem.F.type_list_insert L2.mt_insert hx has ho mut_insert h6 h4 h5
      · cases h
    · cases h
  | .aug i o e, c, p, own, W, X, fx, h, F, xk => by
    simp only [chkS] at h; split at h
    · simp only [Bool.and_eq_true] at h
      obtain ⟨h1, h2, h3, h4, h5⟩ := h
      obtain ⟨l1, l2⟩ := F.e.loc h2
      unfold augOk at h3
      split at h3
      · exact x_aug (by rw [F.e.N]; exact F.e.nd) (by rw [F.e.N]; exact beq_iff_eq.mp h1) l1 ((okE e h4 F.e).1 rfl) L2.ip_add l2 aug_add (F.io1 h5)
      · exact x_aug (by rw [F.e.N]; exact F.e.nd) (by rw [F.e.N]; exact beq_iff_eq.mp h1) l1 ((okE e h4 F.e).1 rfl) L2.ip_sub l2 aug_sub (F.io1 h5)
      · cases h3
    · cases h
  | .ex e, c, p, own, W, X, fx, h, F, xk => by
    simp only [chkS] at h; split at h
    · simp only [Bool.and_eq_true] at h
      exact x_ex ((okE e h.2 F.e).1 rfl) (noComp_swap h.1)
    · cases h
  | .ret e, c, p, own, W, X, fx, h, F, xk => by
    simp only [chkS] at h; split at h
    · exact x_ret ((okE e h F.e).1 rfl)
    · cases h
  | .retN, c, p, own, W, X, fx, h, F, xk => by
    simp only [chkS] at h; split at h
    · exact x_retN
    · cases h
  | .ite cc a b, c, p, own, W, X, fx, h, F, xk => by
    simp only [chkS] at h; split at h
    · simp only [Bool.and_eq_true] at h
      exact x_ite ((okE cc h.1 F.e).2 rfl rfl) (okSs a h.2.1 F xk) (okSs b h.2.2 F xk)
    · cases h
  | .for tg it b, c, p, own, W, X, fx, h, F, xk => by
    simp only [chkS] at h; split at h
    · simp only [Bool.and_eq_true, Bool.not_eq_true'] at h
      obtain ⟨h1, h2, h3, h4, h5, h6, h7, h8⟩ := h
      exact x_for (F.pown h2) (F.e.calm h1) (okI it h4 F.e) (okTg F.e tg h5) (okSs b h6 F xk) (noSet_fold h7) (F.io h8) fun i z => by subst z; simp [isBorIt] at h3
    · cases h
  | .whl cc b, c, p, own, W, X, fx, h, F, xk => by
    simp only [chkS] at h; split at h
    · simp only [Bool.and_eq_true, Bool.not_eq_true'] at h
      obtain ⟨h1, h2, h3⟩ := h
      exact x_whl (F.pown h1) ((okE cc h2 F.e).2 rfl rfl) (okSs b h3 F xk)
    · cases h
  | .rais ec as, c, p, own, W, X, fx, h, F, xk => by
    simp only [chkS] at h; split at h
    · split at h
      · simp only [Bool.and_eq_true, Bool.not_eq_true'] at h
        obtain ⟨h1, h2, h3, h4, h5, h6, h7, h8, h9⟩ := h
        obtain ⟨fid, hx⟩ : ∃ fid, T.P.xfs ec = [fid] := by
          have := beq_iff_eq.mp h9
          cases e : T.P.xfs ec with
          | nil => rw [e] at this; cases this
          | cons a l => cases l with
            | nil => exact ⟨a, rfl⟩
            | cons b l => rw [e] at this; simp at this
        obtain ⟨fI, qual, st, sn, x, D, B, bind⟩ := F.rais ec fid h3 hx
        obtain ⟨_, _, x3, x4⟩ := F.xcs ec h3
        obtain ⟨k', room⟩ := F.room1 h2
        exact x_rais1 (F.e.calm h1) (F.tk h2) D B room (x3 fid (by rw [hx]; simp)) hx bind (F.e.gl h5) (x4 _ (beq_iff_eq.mp h4)) h6 ((okE _ h8 F.e).1 rfl) h7
      · cases h
    · cases h
  | .tr b hs, c, p, own, W, X, fx, h, F, xk => by
    simp only [chkS] at h; split at h
    · simp only [Bool.and_eq_true, Bool.not_eq_true'] at h
      obtain ⟨h1, h2, h3, h4, h5, h6⟩ := h
      have xk0 : c.xk = none := xk.resolve_right (by rw [h1]; exact Bool.false_ne_true)
      have cl := okH hs (W := W) h4 F xk0
      rename_i pb hds pos
      cases hds with
      | nil => simp at h2
      | cons hd hds =>
        exact x_try (cv := fun k => .ref (G.ca k)) F.top F.fr (by rw [F.e.N]; exact F.e.nd) (F.tk h1) F.exm h6 (F.fx.imp id fun z => by rw [z] at h5; simpa using h5) (fun W' pn xe tk po => okSs b h3 (F.tr h1 xk0 tk po) xk) cl
    · cases h
  | .pass, c, p, own, W, X, fx, h, F, xk => by
    simp only [chkS] at h; split at h
    · exact x_pass
    · cases h
  | .augIx _ _ _ _, _, _, _, _, _, _, h, _, _ => by simp [chkS] at h
  | .swpIx _ _ _ _ _, _, _, _, _, _, _, h, _, _ => by simp [chkS] at h
  | .setFd _ _ _, _, _, _, _, _, _, h, _, _ => by simp [chkS] at h
  | .augFd _ _ _ _, _, _, _, _, _, _, h, _, _ => by simp [chkS] at h
theorem okSs : ∀ (ss : Ss) {c : Ctx} {ps : List PySem.Stmt} {own : Own} {W : WX} {X : L2.Cx} {fx : Option V}, chkSs T ss c ps = true → FitsS T G call k own W c X fx → c.xk = none ∨ c.hot = true → L2.PSs X ps (TSs G T.P own c.rt fx call wf ss W)
  | .nil, c, ps, own, W, X, fx, h, F, xk => by
    simp only [chkSs, List.isEmpty_iff] at h
    subst h; exact ss_nil
  | .cons s ss, c, ps, own, W, X, fx, h, F, xk => by
    simp only [chkSs] at h; split at h
    · simp only [Bool.and_eq_true] at h
      exact ss_cons (okS s h.1 F xk) (okSs ss h.2 F xk)
    · cases h
theorem okH : ∀ (hs : Hs) {c : Ctx} {ps : List ExceptHandler} {own : Own} {W : WX} {X : L2.Cx} {fx : Option V}, chkH T hs c ps = true → FitsS T G call k own W c X fx → c.xk = none → ClOk X ps (clsT G T.P own c.rt fx call wf (fun k => .ref (G.ca k)) hs)
  | .nil, c, ps, own, W, X, fx, h, F, xk => by
    simp only [chkH, List.isEmpty_iff] at h
    subst h; exact .nil
  | .cons kk j b r, c, ps, own, W, X, fx, h, F, xk => by
    simp only [chkH] at h; split at h
    · simp only [Bool.and_eq_true, Bool.not_eq_true'] at h
      obtain ⟨h1, h2, h3, h4, h5, h6⟩ := h
      have ih := okH r (W := W) h5 F xk
      have nm : L2.Names X _ (.ref (G.ca kk)) := ⟨F.e.gl h3, h4, .inl ((F.xcs kk h1).2.2.2 _ (beq_iff_eq.mp h2))⟩
      split at h6
      · split at h6
        · exact .bare nm (fun a oe cls d pn hz hf => okSs (c := suiteCtx c none) b h6 F.su (.inr rfl)) ih
        · cases h6
      · split at h6
        · simp only [Bool.and_eq_true] at h6
          obtain ⟨g1, g2, g3⟩ := h6
          refine .named nm (by rw [F.e.N]; exact beq_iff_eq.mp g1) (by show X.env.scope.names.lookup _ = _; rw [F.e.sc]; exact beq_iff_eq.mp g2) (fun a oe cls d pn hz hf => ?_) ih
          refine pss_ex fun cc ⟨e1, e2, e3⟩ => ?_
          subst e1
          exact okSs (c := suiteCtx c (some (_, kk))) b g3 (F.suX hz hf e2 e3) (.inr rfl)
        · cases h6
    · cases h
end
end
end LW
end

section
set_option Elab.async false
set_option maxRecDepth 100000
set_option maxHeartbeats 8000000
/-! End: a whole program's defs, by the depth of calls; the law. -/
namespace LW
open PySem PySem.Spec PyProof.Rows
/-- a program's text, def by def -/
structure Txt where
  T : Tab
  st : Nat → PySem.Stmt
  qual : Nat → Str
  N : Nat → List Str
  ps : Nat → List Str
  lv : Nat → List Nat
def Txt.ctx (X : Txt) (f : Nat) : LW.Ctx := ⟨X.N f, L2.defScope (X.st f), X.lv f, none, true, true, false, X.T.P.io f, X.T.rt f⟩
def Txt.own (X : Txt) (f : Nat) : Own := ⟨X.lv f, none⟩
/-- what the checker has found -/
structure Txt.Ok (X : Txt) : Prop where
  sc : ∀ f x, X.T.fname[f]? = some x → L2.FnScope (X.N f) (X.ps f) (L2.defScope (X.st f))
  d : ∀ f x, X.T.fname[f]? = some x → DefOk X.T.P (X.own f) (X.N f) (X.ps f) f
  chk : ∀ f x, X.T.fname[f]? = some x → chkSs X.T (X.T.P.body f) (X.ctx f) (L2.defBody (X.st f)) = true
/-- what the module's top has made -/
structure Wld (X : Txt) (prog : Program) (K : PySem.W.Frag) (mg : Str → Option Value) (G : Geo) : Prop where
  hK : K = G.K
  fs : G.fs = X.T.fs
  mg0 : ∀ x ∈ bnames, mg x = none
  fn : ∀ f x, X.T.fname[f]? = some x → ∃ fd, L2.Fun K x (X.qual f) (X.st f) (G.fa f) fd ∧ L2.Binds K fd (X.ps f) [] ∧ mg x = some (.ref (G.fa f))
  xcs : ∀ cc, X.T.P.exc cc = true → cc < X.T.ncls ∧ L2.XfC K (G.ca cc) ∧ (∀ f ∈ X.T.P.xfs cc, PySem.W.findIn K (.ref (G.ca cc)) (G.fn f) = some none) ∧ ∀ nm, X.T.cname[cc]? = some nm → mg nm = some (.ref (G.ca cc))
  rais : ∀ cc fid, X.T.P.exc cc = true → X.T.P.xfs cc = [fid] → ∃ fI qual st sn x, XDef K prog (G.ca cc) fI qual st ∧ XBody1 st sn x (G.fn fid) ∧
    ∀ (s : Shared) (v u : Value) (kV doc pm cdv ct : Value) (an : Option Addr) (ccl : Addr), BindsTo s (PySem.W.ksFn "__init__" qual (L2.defArgs st) (L2.defBody st) (L2.defScope st) .none kV doc pm an cdv ct ccl) ⟨[v, u], []⟩ [(sn, v), (x, u)]
  exm : ∀ a b, X.T.P.exc a = true → X.T.P.exc b = true → PySem.W.exmOne K (.ref (G.ca a)) (.ref (G.ca b)) = some (X.T.P.sub a b)
section
variable {X : Txt} {prog : Program} {w : World} {K : PySem.W.Frag} {mg : Str → Option Value} {base : Heap} {G : Geo} {wf : Nat}
theorem all_defs (ok : X.Ok) (Wd : Wld X prog K mg G) : ∀ (n f : Nat) (x : Str), X.T.fname[f]? = some x → ∃ fd, FnG prog w K mg base (n + 1) (G.fa f) fd (X.ps f) (spF G X.T.P X.T.rt (sem X.T.P wf n) f) ∧ L2.Fun K x (X.qual f) (X.st f) (G.fa f) fd ∧ L2.Binds K fd (X.ps f) [] ∧ mg x = some (.ref (G.fa f))
  | 0, f, x, hf => by
    obtain ⟨fd, F, B, M⟩ := Wd.fn f x hf
    refine ⟨fd, ⟨fun {vs H Q E} ⟨ds, S, Y0, h, _⟩ => by rw [(ok.d f x hf).np, h], fun {A below s H args us vs Q E} _ _ _ _ _ z => ?_⟩, F, B, M⟩
    obtain ⟨ds, S, Y0, _, _, _, _, q⟩ := z
    exact q.elim
  | n + 1, f, x, hf => by
    obtain ⟨fd, F, B, M⟩ := Wd.fn f x hf
    refine ⟨fd, fnG_body F (ok.sc f x hf) (ok.d f x hf) fun cdv A below s H fx E room quiet hfx => ?_, F, B, M⟩
    have tk : L2.Takes (L2.cxOf (L2.CX prog w) prog w K mg base (X.N f) (X.qual f) (L2.defScope (X.st f)) (G.fa f) cdv A below s H E) (fun c d _ H' => E c d H') := L2.takes_of rfl rfl rfl rfl
    have hu := room.un
    refine okSs (k := n + 1) (c := X.ctx f) (own := X.own f) _ (ok.chk f x hf) ⟨⟨rfl, (ok.sc f x hf).nd, rfl, Wd.hK, rfl, fun _ => rfl, fun _ _ => rfl, Wd.mg0, fun _ => room, quiet, ?_, fun _ σ => L2.passAt tk σ, fun g y hy => ?_, Wd.fs, fun _ _ h => nomatch h⟩, rfl, rfl, fun _ => tk, fun _ => L2.passes_of rfl, hfx, fun _ => ⟨n, room⟩, Wd.xcs, Wd.rais, Wd.exm⟩ (.inl rfl)
    · show (A.deeper _).units + 100 < cLine
      omega
    · obtain ⟨fd', i1, i2, i3, i4⟩ := all_defs ok Wd n g y hy
      exact ⟨fd', X.ps g, i1, i3, i4, i2.kp⟩
/-- a list of ints that is read -/
theorem reps_ints {S : Addr → Prop} {H : Hp} : ∀ ns : List Int, Reps G S H (ns.map D.int) (ns.map L2.V.int)
  | [] => .nil
  | n :: ns => .cons (.int n) (reps_ints ns)
/-- the law's wish -/
theorem law_wish (hK : K = G.K) {n f : Nat} (np : X.T.P.np f = 1) (io : X.T.P.io f = false) (ret : X.T.rt f = 0) {H : Hp} {a : Addr} {ns : List Int} (hS : L2.SqL K H a (ns.map L2.V.int)) (law : sem X.T.P wf n f [.ro (ns.map D.int)] = .ret (.bl true) none) :
    spF G X.T.P X.T.rt (sem X.T.P wf n) f [.ref a] H (fun v _ => v = .bl true) fun _ _ _ => False := by
  refine ⟨[.ro (ns.map D.int)], fun b => ∃ o, H b = some o, [], by rw [np]; rfl, ?_, .nil, fun b h => h, ?_⟩
  · unfold ArgR
    rw [io, if_neg (by decide)]
    refine ⟨.cons ?_ .nil, rfl⟩
    rcases hS with h | ⟨o, its, m, h1, h2, h3, h4, h5, h6⟩
    · exact .ro1 (h.elim (fun z => ⟨_, z⟩) fun ⟨o, z⟩ => ⟨_, z⟩) h (reps_ints ns)
    · exact .ro2 o its m (by rw [← hK]; exact h1) h2 h3 h4 h5 h6 (reps_ints ns)
  · rw [law]
    intro v H' S' Y0' Y t out f0 ow fY g dm
    rw [ret] at ow
    have := ow.1
    cases this
    rfl
/-- the law's own promise, without the addresses -/
def spLaw (K : PySem.W.Frag) : L2.Sp := fun vs H Q _ => ∃ (a : Addr) (ns : List Int), vs = [.ref a] ∧ L2.SqL K H a (ns.map L2.V.int) ∧ ns.length ≤ 63 ∧ ∀ H', Q (.bl true) H'
theorem law_imp (hK : K = G.K) {n f k : Nat} {fd : FuncData} {x : Str} (F : FnG prog w K mg base k (G.fa f) fd [x] (spF G X.T.P X.T.rt (sem X.T.P wf n) f)) (np : X.T.P.np f = 1) (io : X.T.P.io f = false) (ret : X.T.rt f = 0)
    (law : ∀ ns : List Int, ns.length ≤ 63 → sem X.T.P wf n f [.ro (ns.map D.int)] = .ret (.bl true) none) : FnG prog w K mg base k (G.fa f) fd [x] (spLaw K) := by
  refine ⟨fun {vs H Q E} ⟨a, ns, e, _⟩ => by rw [e]; rfl, fun {A below s H args us vs Q E} r q e0 b v ⟨a, ns, e, hS, hl, k⟩ => ?_⟩
  subst e
  refine F.go r q e0 b v ?_
  refine ⟨[.ro (ns.map D.int)], fun b => ∃ o, H b = some o, [], by rw [np]; rfl, ?_, .nil, fun b h => h, ?_⟩
  · unfold ArgR
    rw [io, if_neg (by decide)]
    refine ⟨.cons ?_ .nil, rfl⟩
    rcases hS with h | ⟨o, its, m, h1, h2, h3, h4, h5, h6⟩
    · exact .ro1 (h.elim (fun z => ⟨_, z⟩) fun ⟨o, z⟩ => ⟨_, z⟩) h (reps_ints ns)
    · exact .ro2 o its m (by rw [← hK]; exact h1) h2 h3 h4 h5 h6 (reps_ints ns)
  · rw [law ns hl]
    intro v H' S' Y0' Y t out f0 ow fY g dm
    rw [ret] at ow
    have := ow.1
    cases this
    exact k H'
end
theorem walk {l : PySem.W.OpenLaw} {k : Nat} {q : Program} {loose : List Str} {XP : (Str → Option Value) → Heap → Prop} {YP : World → Heap → Prop} {d : DefRec} {K : Params → PySem.W.Frag} (hn : l.most = some 63) (hdf : d.params.defaults = []) (room : L2.Room k callerA) (hY : ∀ (w : World) (h : Heap), YP w h → (K w.params).In h)
    (F : ∀ (w : World) (mg : Str → Option Value) (fa : Addr) (h : Heap), (K w.params).In h → h.Ns mainGlobals mg → mg d.name = some (.ref fa) →
      ∃ fd : FuncData, (∀ (s : Shared) (u : Value), BindsTo s fd ⟨[u], []⟩ [("script", u)]) ∧ ∀ base : Heap, (K w.params).In base → base.Ns mainGlobals mg → FnG l.prog w (K w.params) mg base k fa fd ["script"] (spLaw (K w.params))) :
    PySem.W.WalkO q loose XP YP l.row.toRowW d [] (fun f vs => PySem.call f vs) :=
  walk_ofG (n := 63) (sp := fun w => spLaw (K w.params)) hn (by decide) hdf room hY F fun w H a ns hl hS => ⟨a, ns, rfl, hS, hl, fun _ => rfl⟩
/-- __init__ behind the own class is the base's -/
theorem sup_of {K : PySem.W.Frag} {C C3 : Addr} {cd cd3 : ClassData} {v : Value} (h4 : PySem.W.clsIn K C = some cd) (hm : cd.mro = .ref C :: cd3.mro) (h3 : PySem.W.clsIn K C3 = some cd3) (hf : PySem.W.findIn K (.ref C3) "__init__" = some (some v)) : PySem.W.ks_superIn K C C "__init__" = some (some v) := by
  unfold PySem.W.ks_superIn
  rw [h4, Option.bind_some, hm]
  have : ((Value.ref C :: cd3.mro).dropWhile (· != .ref C)).drop 1 = cd3.mro := by simp [List.dropWhile_cons]
  rw [this]
  unfold PySem.W.findIn at hf
  unfold PySem.W.clsIn at h3
  split at h3
  · rename_i e
    cases h3
    simp only [e] at hf
    exact hf
  · cases h3
theorem cls_of {K : PySem.W.Frag} {C N : Addr} {nm qn : Str} {bs bm su : List Value} {sn : List Str} {hd ab : Bool} {co : Option Bool} {dd : Option Addr} {x0 x1 x2 x3 x5 : Option Value} {nw : String} (h : K.lookup C = some (excClassObj nm qn C N bs bm hd sn su ab co dd x0 x1 x2 x3 x5 nw)) :
    PySem.W.clsIn K C = some { name := nm, bases := bs, mro := .ref C :: bm, ns := N, qualname := qn, hasDict := hd, slotNames := sn, subclasses := su, abstract := ab, collection := co, hasDel := false } := by
  unfold PySem.W.clsIn
  rw [h] <;> rfl
theorem exm_of {K : PySem.W.Frag} {A B : Addr} {b : Bool} (h1 : PySem.W.subIn K (.ref B) (.type "BaseException") = some true) (h2 : PySem.W.isClsIn K B = true) (h3 : PySem.W.typeIn K (.ref B) = some (.type "type")) (h4 : PySem.W.subIn K (.ref A) (.ref B) = some b) : PySem.W.exmOne K (.ref A) (.ref B) = some b := by
  have h2' : (PySem.W.clsIn K B).isSome = true := h2
  unfold PySem.W.exmOne
  rw [if_pos (by rw [h1]; rfl)]
  unfold PySem.W.kitCls
  simp only []
  rw [if_pos (by rw [h2', h3]; rfl)]
  exact h4
end LW
end

section
set_option maxRecDepth 100000
namespace K10
open LW
-- 0: is_whole(value); slots value; changed {}; io []
def b_is_whole : Ss := (.cons (.ret (.and (.cons (.isi (.var 0) [.int]) (.cons (.not (.isi (.var 0) [.bool])) .nil)))) .nil)
-- 1: is_row(value); slots value; changed {}; io []
def b_is_row : Ss := (.cons (.ret (.isiT (.var 0) [.list, .tuple])) .nil)
-- 2: reduced(top, bottom); slots top bottom one other; changed {}; io []
def b_reduced : Ss := (.cons (.par [2, 3] (.cons (.bi .abs (.cons .s (.var 0) .nil)) (.cons (.var 1) .nil))) (.cons (.whl (.cmp .gt (.var 3) (.int 0)) (.cons (.par [2, 3] (.cons (.var 3) (.cons (.bin .mod (.var 2) (.var 3)) .nil))) .nil)) (.cons (.ret (.ite (.cmp .gt (.var 2) (.int 0)) (.tup (.cons (.bin .fdiv (.var 0) (.var 2)) (.cons (.bin .fdiv (.var 1) (.var 2)) .nil))) (.tup (.cons (.int 0) (.cons (.int 1) .nil))))) .nil)))
-- 3: is_fraction(value); slots value; changed {}; io []
def b_is_fraction : Ss := (.cons (.ite (.or (.cons (.not (.call 1 (.cons .s (.var 0) .nil))) (.cons (.cmp .ne (.bi .len (.cons .s (.var 0) .nil)) (.int 2)) (.cons (.not (.call 0 (.cons .s (.idx (.var 0) (.int 0)) .nil))) (.cons (.not (.call 0 (.cons .s (.idx (.var 0) (.int 1)) .nil))) (.cons (.cmp .lt (.idx (.var 0) (.int 1)) (.int 1)) .nil)))))) (.cons (.ret (.bl false)) .nil) .nil) (.cons (.ret (.cmp .eq (.call 2 (.cons .s (.idx (.var 0) (.int 0)) (.cons .s (.idx (.var 0) (.int 1)) .nil))) (.tup (.cons (.idx (.var 0) (.int 0)) (.cons (.idx (.var 0) (.int 1)) .nil))))) .nil))
-- 4: want_fraction(value); slots value; changed {}; io []
def b_want_fraction : Ss := (.cons (.ite (.not (.call 3 (.cons .s (.var 0) .nil))) (.cons (.rais 4 (.cons (.var 0) .nil)) .nil) .nil) (.cons (.ret (.bi .tuple (.cons .s (.var 0) .nil))) .nil))
-- 5: plus(one, other); slots one other; changed {}; io []
def b_plus : Ss := (.cons (.ret (.call 2 (.cons .s (.bin .add (.bin .mul (.idx (.var 0) (.int 0)) (.idx (.var 1) (.int 1))) (.bin .mul (.idx (.var 1) (.int 0)) (.idx (.var 0) (.int 1)))) (.cons .s (.bin .mul (.idx (.var 0) (.int 1)) (.idx (.var 1) (.int 1))) .nil)))) .nil)
-- 6: minus(one, other); slots one other; changed {}; io []
def b_minus : Ss := (.cons (.ret (.call 2 (.cons .s (.bin .sub (.bin .mul (.idx (.var 0) (.int 0)) (.idx (.var 1) (.int 1))) (.bin .mul (.idx (.var 1) (.int 0)) (.idx (.var 0) (.int 1)))) (.cons .s (.bin .mul (.idx (.var 0) (.int 1)) (.idx (.var 1) (.int 1))) .nil)))) .nil)
-- 7: times(one, other); slots one other; changed {}; io []
def b_times : Ss := (.cons (.ret (.call 2 (.cons .s (.bin .mul (.idx (.var 0) (.int 0)) (.idx (.var 1) (.int 0))) (.cons .s (.bin .mul (.idx (.var 0) (.int 1)) (.idx (.var 1) (.int 1))) .nil)))) .nil)
-- 8: over(one, other); slots one other; changed {}; io []
def b_over : Ss := (.cons (.ret (.call 2 (.cons .s (.bin .mul (.idx (.var 0) (.int 0)) (.idx (.var 1) (.int 1))) (.cons .s (.bin .mul (.idx (.var 0) (.int 1)) (.idx (.var 1) (.int 0))) .nil)))) .nil)
-- 9: is_less(one, other); slots one other; changed {}; io []
def b_is_less : Ss := (.cons (.ret (.cmp .lt (.bin .mul (.idx (.var 0) (.int 0)) (.idx (.var 1) (.int 1))) (.bin .mul (.idx (.var 1) (.int 0)) (.idx (.var 0) (.int 1))))) .nil)
-- 10: floor_of(one); slots one; changed {}; io []
def b_floor_of : Ss := (.cons (.ret (.bin .fdiv (.idx (.var 0) (.int 0)) (.idx (.var 0) (.int 1)))) .nil)
-- 11: ceiling_of(one); slots one; changed {}; io []
def b_ceiling_of : Ss := (.cons (.ret (.neg (.bin .fdiv (.neg (.idx (.var 0) (.int 0))) (.idx (.var 0) (.int 1))))) .nil)
-- 12: nearest(one); slots one; changed {}; io []
def b_nearest : Ss := (.cons (.ret (.bin .fdiv (.bin .add (.bin .mul (.int 2) (.idx (.var 0) (.int 0))) (.idx (.var 0) (.int 1))) (.bin .mul (.int 2) (.idx (.var 0) (.int 1))))) .nil)
-- 13: total(rows); slots rows found one; changed {}; io []
def b_total : Ss := (.cons (.set 1 (.tup (.cons (.int 0) (.cons (.int 1) .nil)))) (.cons (.for (.v 2) (.e (.var 0)) (.cons (.set 1 (.call 5 (.cons .s (.var 1) (.cons .s (.var 2) .nil)))) .nil)) (.cons (.ret (.var 1)) .nil)))
-- 14: median(rows); slots rows row one place other first second; changed {'row': 1}; io []
def b_median : Ss := (.cons (.set 1 (.lst (.cons (.idx (.var 0) (.int 0)) .nil))) (.cons (.for (.v 2) (.e (.slL (.var 0) (.int 1))) (.cons (.set 3 (.bi .len (.cons .s (.comp (.var 4) (.v 4) (.e (.bor 1)) (.cons (.not (.call 9 (.cons .s (.var 2) (.cons .s (.var 4) .nil)))) .nil)) .nil))) (.cons (.mut (.v 1) .insert (.cons (.var 3) (.cons (.var 2) .nil))) .nil))) (.cons (.par [5, 6] (.cons (.idx (.bor 1) (.bin .fdiv (.bin .sub (.bi .len (.cons .b (.bor 1) .nil)) (.int 1)) (.int 2))) (.cons (.idx (.bor 1) (.bin .fdiv (.bi .len (.cons .b (.bor 1) .nil)) (.int 2))) .nil))) (.cons (.ret (.call 7 (.cons .s (.call 5 (.cons .s (.var 5) (.cons .s (.var 6) .nil))) (.cons .s (.tup (.cons (.int 1) (.cons (.int 2) .nil))) .nil)))) .nil))))
-- 15: _law_taken(row, many); slots row many found cell; changed {'row': 1}; io ['row']
def b__law_taken : Ss := (.cons (.ite (.cmp .gt (.idx (.bor 0) (.int 3)) (.int 0)) (.cons (.set 2 (.bin .mod (.bi .intOf (.cons .s (.idx (.bor 0) (.int 3)) .nil)) (.var 1))) (.cons (.setIx (.v 0) (.int 3) (.bin .fdiv (.idx (.bor 0) (.int 3)) (.var 1))) (.cons (.ret (.var 2)) .nil))) .nil) (.cons (.setIx (.v 0) (.int 1) (.bin .add (.idx (.bor 0) (.int 1)) (.int 1))) (.cons (.ite (.cmp .gt (.idx (.bor 0) (.int 1)) (.bi .len (.cons .s (.idx (.bor 0) (.int 0)) .nil))) (.cons (.setIx (.v 0) (.int 2) (.bin .mod (.bi .intOf (.cons .s (.bin .add (.bin .mul (.idx (.bor 0) (.int 2)) (.int 48271)) (.int 11)) .nil)) (.int 2147483647))) (.cons (.ret (.bin .mod (.bi .intOf (.cons .s (.bin .fdiv (.idx (.bor 0) (.int 2)) (.int 7)) .nil)) (.var 1))) .nil)) .nil) (.cons (.set 3 (.idx (.idx (.bor 0) (.int 0)) (.bin .sub (.idx (.bor 0) (.int 1)) (.int 1)))) (.cons (.setIx (.v 0) (.int 2) (.bin .mod (.bi .intOf (.cons .s (.bin .add (.bin .add (.bin .mul (.idx (.bor 0) (.int 2)) (.int 48271)) (.var 3)) (.int 11)) .nil)) (.int 2147483647))) (.cons (.ite (.cmp .ge (.var 3) (.bin .pow (.int 10) (.int 18))) (.cons (.setIx (.v 0) (.int 3) (.bin .fdiv (.var 3) (.var 1))) .nil) .nil) (.cons (.ret (.bin .mod (.bi .intOf (.cons .s (.var 3) .nil)) (.var 1))) .nil)))))))
-- 16: _law_alike(found, due); slots found due k; changed {}; io []
def b__law_alike : Ss := (.cons (.ite (.isiT (.var 1) [.tuple, .list]) (.cons (.ite (.or (.cons (.not (.isiT (.var 0) [.tuple, .list])) (.cons (.cmp .ne (.isi (.var 0) [.list]) (.isi (.var 1) [.list])) .nil))) (.cons (.ret (.bl false)) .nil) .nil) (.cons (.ite (.cmp .ne (.bi .len (.cons .s (.var 0) .nil)) (.bi .len (.cons .s (.var 1) .nil))) (.cons (.ret (.bl false)) .nil) .nil) (.cons (.ret (.cmp .eq (.comp (.var 2) (.v 2) (.range (.cons .s (.bi .len (.cons .s (.var 1) .nil)) .nil)) (.cons (.not (.call 16 (.cons .s (.idx (.var 0) (.var 2)) (.cons .s (.idx (.var 1) (.var 2)) .nil)))) .nil)) (.lst .nil))) .nil))) .nil) (.cons (.ite (.or (.cons (.isN (.var 1)) (.cons (.isi (.var 1) [.str]) .nil))) (.cons (.ret (.and (.cons (.cmp .eq (.var 0) (.var 1)) (.cons (.cmp .eq (.isi (.var 0) [.str]) (.isi (.var 1) [.str])) .nil)))) .nil) .nil) (.cons (.ret (.and (.cons (.isi (.var 0) [.int]) (.cons (.cmp .eq (.isi (.var 0) [.bool]) (.isi (.var 1) [.bool])) (.cons (.cmp .eq (.var 0) (.var 1)) .nil))))) .nil)))
-- 17: _law_truth(found, due); slots found due; changed {}; io []
def b__law_truth : Ss := (.cons (.ret (.and (.cons (.isi (.var 0) [.bool]) (.cons (.cmp .eq (.var 0) (.var 1)) .nil)))) .nil)
-- 18: _law_low(top, bottom); slots top bottom here one; changed {}; io []
def b__law_low : Ss := (.cons (.set 2 (.int 1)) (.cons (.for (.v 3) (.range (.cons .s (.int 1) (.cons .s (.bin .add (.bi .intOf (.cons .s (.var 1) .nil)) (.int 1)) .nil))) (.cons (.ite (.and (.cons (.cmp .eq (.bin .mod (.bi .intOf (.cons .s (.var 0) .nil)) (.var 3)) (.int 0)) (.cons (.cmp .eq (.bin .mod (.bi .intOf (.cons .s (.var 1) .nil)) (.var 3)) (.int 0)) .nil))) (.cons (.set 2 (.var 3)) .nil) .nil) .nil)) (.cons (.ret (.tup (.cons (.bin .fdiv (.bi .intOf (.cons .s (.var 0) .nil)) (.var 2)) (.cons (.bin .fdiv (.bi .intOf (.cons .s (.var 1) .nil)) (.var 2)) .nil)))) .nil)))
-- 19: law(script); slots script row a b c d one other wholes below above k best rows whole part middle value e; changed {'row': 1}; io []
def b_law : Ss := (.cons (.set 1 (.lst (.cons (.var 0) (.cons (.int 0) (.cons (.int 61) (.cons (.int 0) .nil)))))) (.cons (.asg (.t [(.v 2), (.v 3), (.v 4), (.v 5)]) (.tup (.cons (.bin .sub (.call 15 (.cons .io (.bor 1) (.cons .s (.int 121) .nil))) (.int 60)) (.cons (.bin .add (.int 1) (.call 15 (.cons .io (.bor 1) (.cons .s (.int 60) .nil)))) (.cons (.bin .sub (.call 15 (.cons .io (.bor 1) (.cons .s (.int 121) .nil))) (.int 60)) (.cons (.bin .add (.int 1) (.call 15 (.cons .io (.bor 1) (.cons .s (.int 60) .nil)))) .nil)))))) (.cons (.par [6, 7] (.cons (.call 2 (.cons .s (.var 2) (.cons .s (.var 3) .nil))) (.cons (.call 2 (.cons .s (.var 4) (.cons .s (.var 5) .nil))) .nil))) (.cons (.ite (.or (.cons (.not (.call 16 (.cons .s (.tup (.cons (.var 6) (.cons (.var 7) .nil))) (.cons .s (.tup (.cons (.call 18 (.cons .s (.var 2) (.cons .s (.var 3) .nil))) (.cons (.call 18 (.cons .s (.var 4) (.cons .s (.var 5) .nil))) .nil))) .nil)))) (.cons (.not (.call 3 (.cons .s (.var 6) .nil))) (.cons (.call 3 (.cons .s (.tup (.cons (.bin .mul (.var 2) (.int 2)) (.cons (.bin .mul (.var 3) (.int 2)) .nil))) .nil)) .nil)))) (.cons (.ret (.bl false)) .nil) .nil) (.cons (.ite (.not (.call 16 (.cons .s (.tup (.cons (.call 5 (.cons .s (.var 6) (.cons .s (.var 7) .nil))) (.cons (.call 6 (.cons .s (.var 6) (.cons .s (.var 7) .nil))) (.cons (.call 7 (.cons .s (.var 6) (.cons .s (.var 7) .nil))) .nil)))) (.cons .s (.tup (.cons (.call 18 (.cons .s (.bin .add (.bin .mul (.var 2) (.var 5)) (.bin .mul (.var 4) (.var 3))) (.cons .s (.bin .mul (.var 3) (.var 5)) .nil))) (.cons (.call 18 (.cons .s (.bin .sub (.bin .mul (.var 2) (.var 5)) (.bin .mul (.var 4) (.var 3))) (.cons .s (.bin .mul (.var 3) (.var 5)) .nil))) (.cons (.call 18 (.cons .s (.bin .mul (.var 2) (.var 4)) (.cons .s (.bin .mul (.var 3) (.var 5)) .nil))) .nil)))) .nil)))) (.cons (.ret (.bl false)) .nil) .nil) (.cons (.ite (.or (.cons (.and (.cons (.cmp .gt (.var 4) (.int 0)) (.cons (.not (.call 16 (.cons .s (.call 8 (.cons .s (.var 6) (.cons .s (.var 7) .nil))) (.cons .s (.call 18 (.cons .s (.bin .mul (.var 2) (.var 5)) (.cons .s (.bin .mul (.var 3) (.var 4)) .nil))) .nil)))) .nil))) (.cons (.not (.call 17 (.cons .s (.call 9 (.cons .s (.var 6) (.cons .s (.var 7) .nil))) (.cons .s (.cmp .lt (.bin .mul (.var 2) (.var 5)) (.bin .mul (.var 4) (.var 3))) .nil)))) .nil))) (.cons (.ret (.bl false)) .nil) .nil) (.cons (.set 8 (.listRange (.cons .s (.neg (.int 61)) (.cons .s (.int 62) .nil)))) (.cons (.par [9, 10] (.cons (.bi .max1 (.cons .s (.comp (.var 11) (.v 11) (.e (.var 8)) (.cons (.cmp .le (.bin .mul (.var 11) (.var 3)) (.var 2)) .nil)) .nil)) (.cons (.bi .min1 (.cons .s (.comp (.var 11) (.v 11) (.e (.var 8)) (.cons (.cmp .ge (.bin .mul (.var 11) (.var 3)) (.var 2)) .nil)) .nil)) .nil))) (.cons (.set 12 (.bi .max1 (.cons .s (.comp (.var 11) (.v 11) (.e (.var 8)) (.cons (.cmp .le (.bin .mul (.bin .sub (.bin .mul (.int 2) (.var 11)) (.int 1)) (.var 3)) (.bin .mul (.int 2) (.var 2))) .nil)) .nil))) (.cons (.ite (.not (.call 16 (.cons .s (.tup (.cons (.call 10 (.cons .s (.var 6) .nil)) (.cons (.call 11 (.cons .s (.var 6) .nil)) (.cons (.call 12 (.cons .s (.var 6) .nil)) .nil)))) (.cons .s (.tup (.cons (.var 9) (.cons (.var 10) (.cons (.var 12) .nil)))) .nil)))) (.cons (.ret (.bl false)) .nil) .nil) (.cons (.par [13, 14] (.cons (.bin .add (.lst (.cons (.var 6) (.cons (.var 7) .nil))) (.comp (.call 2 (.cons .s (.bin .sub (.call 15 (.cons .io (.bor 1) (.cons .s (.int 40) .nil))) (.int 20)) (.cons .s (.bin .add (.int 1) (.call 15 (.cons .io (.bor 1) (.cons .s (.int 6) .nil)))) .nil))) (.v 11) (.range (.cons .s (.call 15 (.cons .io (.bor 1) (.cons .s (.int 5) .nil))) .nil)) .nil)) (.cons (.tup (.cons (.int 0) (.cons (.int 1) .nil))) .nil))) (.cons (.for (.v 15) (.e (.var 13)) (.cons (.set 14 (.call 18 (.cons .s (.bin .add (.bin .mul (.idx (.var 14) (.int 0)) (.idx (.var 15) (.int 1))) (.bin .mul (.idx (.var 15) (.int 0)) (.idx (.var 14) (.int 1)))) (.cons .s (.bin .mul (.idx (.var 14) (.int 1)) (.idx (.var 15) (.int 1))) .nil)))) .nil)) (.cons (.ite (.not (.call 16 (.cons .s (.call 13 (.cons .s (.var 13) .nil)) (.cons .s (.var 14) .nil)))) (.cons (.ret (.bl false)) .nil) .nil) (.cons (.set 16 (.call 14 (.cons .s (.var 13) .nil))) (.cons (.set 9 (.bi .len (.cons .s (.comp (.int 1) (.v 15) (.e (.var 13)) (.cons (.cmp .lt (.bin .mul (.idx (.var 15) (.int 0)) (.idx (.var 16) (.int 1))) (.bin .mul (.idx (.var 16) (.int 0)) (.idx (.var 15) (.int 1)))) .nil)) .nil))) (.cons (.set 10 (.bi .len (.cons .s (.comp (.int 1) (.v 15) (.e (.var 13)) (.cons (.cmp .gt (.bin .mul (.idx (.var 15) (.int 0)) (.idx (.var 16) (.int 1))) (.bin .mul (.idx (.var 16) (.int 0)) (.idx (.var 15) (.int 1)))) .nil)) .nil))) (.cons (.ite (.or (.cons (.cmp .gt (.bin .mul (.int 2) (.var 9)) (.bi .len (.cons .s (.var 13) .nil))) (.cons (.cmp .gt (.bin .mul (.int 2) (.var 10)) (.bi .len (.cons .s (.var 13) .nil))) (.cons (.and (.cons (.cmp .eq (.bin .mod (.bi .len (.cons .s (.var 13) .nil)) (.int 2)) (.int 1)) (.cons (.cmp .notin (.var 16) (.var 13)) .nil))) .nil)))) (.cons (.ret (.bl false)) .nil) .nil) (.cons (.for (.v 17) (.e (.lst (.cons .non (.cons (.tup (.cons (.int 1) (.cons (.int 0) .nil))) (.cons (.tup (.cons (.int 2) (.cons (.int 4) .nil))) (.cons (.tup (.cons (.int 0) (.cons (.int 2) .nil))) (.cons (.tup (.cons (.int 1) .nil)) (.cons (.tup (.cons (.bl true) (.cons (.int 2) .nil))) (.cons (.lst (.cons (.int 1) (.cons (.int 2) (.cons (.int 3) .nil)))) (.cons (.int 5) (.cons (.tup (.cons (.int 1) (.cons (.neg (.int 1)) .nil))) .nil))))))))))) (.cons (.ite (.call 3 (.cons .s (.var 17) .nil)) (.cons (.ret (.bl false)) .nil) .nil) (.cons (.tr (.cons (.ex (.call 4 (.cons .s (.var 17) .nil))) (.cons (.ret (.bl false)) .nil)) (.cons 4 (some 18) (.cons (.ite (.reprNe (.xf 18 0) (.var 17)) (.cons (.ret (.bl false)) .nil) .nil) .nil) .nil)) .nil))) (.cons (.ret (.call 16 (.cons .s (.call 4 (.cons .s (.bi .list (.cons .s (.var 6) .nil)) .nil)) (.cons .s (.var 6) .nil)))) .nil)))))))))))))))))))
def t_sub : Nat → Nat → Bool
  | 0, 0 => true
  | 1, 1 => true
  | 2, 2 => true
  | 3, 0 => true
  | 3, 3 => true
  | 4, 0 => true
  | 4, 3 => true
  | 4, 4 => true
  | _, _ => false
def t_meth : Nat → Nat → Option Nat
  | _, _ => none
def t_exc : Nat → Bool
  | 3 => true
  | 4 => true
  | _ => false
def t_init : Nat → Nat
  | _ => 9999
def t_eq : Nat → Option Nat
  | _ => none
def t_len : Nat → Option Nat
  | _ => none
def t_xfs : Nat → List Nat
  | 0 => []
  | 1 => []
  | 2 => []
  | 3 => []
  | 4 => [0]
  | _ => []
def t_gl : Nat → D
  | _ => .non
def t_io : Nat → Bool
  | 15 => true
  | _ => false
def t_np : Nat → Nat
  | 0 => 1
  | 1 => 1
  | 2 => 2
  | 3 => 1
  | 4 => 1
  | 5 => 2
  | 6 => 2
  | 7 => 2
  | 8 => 2
  | 9 => 2
  | 10 => 1
  | 11 => 1
  | 12 => 1
  | 13 => 1
  | 14 => 1
  | 15 => 2
  | 16 => 2
  | 17 => 2
  | 18 => 2
  | 19 => 1
  | _ => 0
def t_ns : Nat → Nat
  | 0 => 1
  | 1 => 1
  | 2 => 4
  | 3 => 1
  | 4 => 1
  | 5 => 2
  | 6 => 2
  | 7 => 2
  | 8 => 2
  | 9 => 2
  | 10 => 1
  | 11 => 1
  | 12 => 1
  | 13 => 3
  | 14 => 7
  | 15 => 4
  | 16 => 3
  | 17 => 2
  | 18 => 4
  | 19 => 19
  | _ => 0
def t_body : Nat → Ss
  | 0 => b_is_whole
  | 1 => b_is_row
  | 2 => b_reduced
  | 3 => b_is_fraction
  | 4 => b_want_fraction
  | 5 => b_plus
  | 6 => b_minus
  | 7 => b_times
  | 8 => b_over
  | 9 => b_is_less
  | 10 => b_floor_of
  | 11 => b_ceiling_of
  | 12 => b_nearest
  | 13 => b_total
  | 14 => b_median
  | 15 => b__law_taken
  | 16 => b__law_alike
  | 17 => b__law_truth
  | 18 => b__law_low
  | 19 => b_law
  | _ => .nil
def prog : Prog := ⟨t_sub, t_exc, t_meth, t_init, t_eq, t_len, t_xfs, t_gl, t_io, t_np, t_ns, t_body⟩
-- tables
def fnames : List String := ["is_whole", "is_row", "reduced", "is_fraction", "want_fraction", "plus", "minus", "times", "over", "is_less", "floor_of", "ceiling_of", "nearest", "total", "median", "_law_taken", "_law_alike", "_law_truth", "_law_low", "law"]
def cnames : List String := ["ValueError", "LookupError", "RuntimeError", "ShowError", "BadNumber"]
def fields : List String := ["value"]
def slotNames : List (List String) := [["value"], ["value"], ["top", "bottom", "one", "other"], ["value"], ["value"], ["one", "other"], ["one", "other"], ["one", "other"], ["one", "other"], ["one", "other"], ["one"], ["one"], ["one"], ["rows", "found", "one"], ["rows", "row", "one", "place", "other", "first", "second"], ["row", "many", "found", "cell"], ["found", "due", "k"], ["found", "due"], ["top", "bottom", "here", "one"], ["script", "row", "a", "b", "c", "d", "one", "other", "wholes", "below", "above", "k", "best", "rows", "whole", "part", "middle", "value", "e"]]
def levels : List (List Nat) := [[0], [0], [0, 0, 0, 0], [0], [0], [0, 0], [0, 0], [0, 0], [0, 0], [0, 0], [0], [0], [0], [0, 0, 0], [0, 1, 0, 0, 0, 0, 0], [1, 0, 0, 0], [0, 0, 0], [0, 0], [0, 0, 0, 0], [0, 1, 0, 0, 0, 0, 0, 0, 0, 0, 0, 0, 0, 0, 0, 0, 0, 0, 0]]
def lawId : Nat := 19
end K10
end

section
set_option maxRecDepth 100000
/-! Pure0: how the interpreter computes (lemmas for the pure laws) -/
namespace LW
theorem idx2_0 (x y : D) : idxD (.tup [x, y]) (.int 0) = some x := rfl
theorem idx2_1 (x y : D) : idxD (.tup [x, y]) (.int 1) = some y := rfl
theorem sem_one (P : Prog) (w n f : Nat) (ds : List D) (h : ds.length = P.np f) :
    sem P w (n + 1) f ds = fin (P.io f) (exs P (sem P w n) w (P.body f) (startE (P.nslots f) ds)) := by
  show (if _ then _ else _) = _; rw [if_pos h]
theorem bok {α β : Type} (a : α) (r : Env) (f : α → Env → R β) : R.bind (.ok a r) f = f a r := rfl
theorem sok {α : Type} (a : α) (r : Env) (f : α → Env → SR) : R.sr (.ok a r) f = f a r := rfl
theorem ofS {α : Type} (a : α) (r : Env) : R.of (some a) r = .ok a r := rfl
theorem nxB (r : Env) (f : Env → SR) : SR.bind (.nx r) f = f r := rfl
theorem reB (d : D) (r : Env) (f : Env → SR) : SR.bind (.ret d r) f = .ret d r := rfl
theorem exB (c : Nat) (fs : List D) (r : Env) (f : Env → SR) : SR.bind (.ex c fs r) f = .ex c fs r := rfl
theorem quS {α : Type} (a : α) (r : Env) : R.quiet (.ok a r) = .ok a r := rfl
theorem rdS (x : Option D) (r : Env) (n : Nat) : rd (x :: r) (n + 1) = rd r n := by simp only [rd, List.getElem?_cons_succ]
theorem rdI (i : Int) (r : Env) : rd (some (.int i) :: r) 0 = some (.int i) := rfl
theorem rdB (i : Bool) (r : Env) : rd (some (.bl i) :: r) 0 = some (.bl i) := rfl
theorem rdT (i : List D) (r : Env) : rd (some (.tup i) :: r) 0 = some (.tup i) := rfl
theorem rdL (i : List D) (r : Env) : rd (some (.lst i) :: r) 0 = some (.lst i) := rfl
theorem rdR (i : List D) (r : Env) : rd (some (.ro i) :: r) 0 = some (.ro i) := rfl
theorem rdN (r : Env) : rd (some .non :: r) 0 = some .non := rfl
theorem gvS (r : Env) (i : Nat) (d : D) (h : rd r i = some d) : getV r i = .ok d r := by simp only [getV, h]
theorem liftO {α β : Type} (d : α) (f : α → Option β) : (some d).bind f = f d := rfl
theorem finR (d : D) (r : Env) : fin false (.ret d r) = .ret d none := rfl
theorem finE (c : Nat) (fs : List D) (r : Env) : fin false (.ex c fs r) = .ex c fs none := rfl
theorem addI (i j : Int) : binD .add (.int i) (.int j) = some (.int (i + j)) := rfl
theorem subI (i j : Int) : binD .sub (.int i) (.int j) = some (.int (i - j)) := rfl
theorem mulI (i j : Int) (h : mulOk i j = true) : binD .mul (.int i) (.int j) = some (.int (i * j)) := by show (if _ then _ else _) = _; rw [if_pos h]
theorem fdvI (i j : Int) (h : divOk j = true) : binD .fdiv (.int i) (.int j) = some (.int (i.fdiv j)) := by show (if _ then _ else _) = _; rw [if_pos h]
theorem modI (i j : Int) (h : j ≠ 0) : binD .mod (.int i) (.int j) = some (.int (i.fmod j)) := by show (if _ then _ else _) = _; rw [if_pos h]
theorem ltII (i j : Int) : cmpD .lt (.int i) (.int j) = some (decide (i < j)) := rfl
theorem gtII (i j : Int) : cmpD .gt (.int i) (.int j) = some (decide (j < i)) := rfl
theorem leI (i j : Int) : cmpD .le (.int i) (.int j) = some (decide (i ≤ j)) := rfl
theorem geI (i j : Int) : cmpD .ge (.int i) (.int j) = some (decide (j ≤ i)) := rfl
theorem eqI (i j : Int) : cmpD .eq (.int i) (.int j) = some (i == j) := rfl
theorem neI (i j : Int) : cmpD .ne (.int i) (.int j) = some (!(i == j)) := rfl
theorem trB (b : Bool) : truth (.bl b) = some b := rfl
theorem exs_nil (P : Prog) (c : Nat → List D → CR) (w : Nat) (r : Env) : exs P c w .nil r = .nx r := by simp only [exs]
theorem exs_cons (P : Prog) (c : Nat → List D → CR) (w : Nat) (s : S) (ss : Ss) (r : Env) : exs P c w (.cons s ss) r = (ex P c w s r).bind fun r1 => exs P c w ss r1 := by simp only [exs]
theorem ex_whl (P : Prog) (call : Nat → List D → CR) (w : Nat) (c : E) (b : Ss) (r : Env) : ex P call w (.whl c b) r = loopW (fun r => ev P call c r) (fun r => exs P call w b r) w r := by simp only [ex]
theorem loopW_t (c : Env → R D) (b : Env → SR) (n : Nat) (r r1 r2 : Env) (h : c r = .ok (.bl true) r1) (h2 : b r1 = .nx r2) : loopW c b (n + 1) r = loopW c b n r2 := by
  show R.sr (c r) _ = _
  rw [h, sok]
  show SR.bind (b r1) _ = _
  rw [h2, nxB]
theorem loopW_f (c : Env → R D) (b : Env → SR) (n : Nat) (r r1 : Env) (h : c r = .ok (.bl false) r1) : loopW c b (n + 1) r = .nx r1 := by
  show R.sr (c r) _ = _
  rw [h, sok]
  rfl
theorem absI (i : Int) : biD .abs [.int i] = some (.int i.natAbs) := by
  show some (D.int (if i < 0 then -i else i)) = _
  split <;> congr 2 <;> omega
theorem fmodN (x y : Nat) : Int.fmod (x : Int) (y : Int) = ((x % y : Nat) : Int) := by
  rw [Int.fmod_eq_emod_of_nonneg _ (Int.natCast_nonneg y)]; simp
def stepF (P : Prog) (call : Nat → List D → CR) (w : Nat) (tg : Tg) (b : Ss) (x : D) (r : Env) : SR := match stTg tg x r with | some r1 => exs P call w b r1 | none => .bad
theorem ex_for (P : Prog) (call : Nat → List D → CR) (w : Nat) (tg : Tg) (it : It) (b : Ss) (r : Env) : ex P call w (.for tg it b) r =
    (evIt P call it r).sr fun xs r1 => loopF (stepF P call w tg b) xs r1 := by simp only [ex]; rfl
theorem stepF_v (P : Prog) (call : Nat → List D → CR) (w i : Nat) (b : Ss) (x : D) (r : Env) : stepF P call w (.v i) b x r = exs P call w b (r.set i (some x)) := by simp only [stepF, stTg]
theorem loopF_c (step : D → Env → SR) (x : D) (xs : List D) (r r1 : Env) (h : step x r = .nx r1) : loopF step (x :: xs) r = loopF step xs r1 := by
  show SR.bind (step x r) _ = _
  rw [h, nxB]
theorem intI (i : Int) : biD .intOf [.int i] = some (.int i) := rfl
def stpC (P : Prog) (call : Nat → List D → CR) (tg : Tg) (e : E) (cs : Es) (x : D) (r2 : Env) : R (Option D) := match stTg tg x (wipeI r2 (tgIds tg)) with
        | some r3 => (evConds P call cs r3).bind fun b r4 => if b then (ev P call e r4).bind fun d r5 => .ok (some d) r5 else .ok none r4
        | none => .bad
theorem ev_comp (P : Prog) (call : Nat → List D → CR) (e : E) (tg : Tg) (it : It) (cs : Es) (r : Env) : ev P call (.comp e tg it cs) r =
    (evIt P call it r).bind fun xs r1 => (R.quiet (loopC (stpC P call tg e cs) xs [] (lend it r1))).bind fun ds r6 => if lim ds then .ok (.lst ds) (back r1 (unlend it r1 r6) (tgIds tg)) else .bad := by simp only [ev]; rfl
theorem stpC_v (P : Prog) (call : Nat → List D → CR) (i : Nat) (e : E) (cs : Es) (x : D) (r2 : Env) : stpC P call (.v i) e cs x r2 =
    (evConds P call cs ((r2.set i none).set i (some x))).bind fun b r4 => if b then (ev P call e r4).bind fun d r5 => .ok (some d) r5 else .ok none r4 := by simp only [stpC, stTg, tgIds, wipeI]
theorem loopC_n (step : D → Env → R (Option D)) (x : D) (xs acc : List D) (r r1 : Env) (h : step x r = .ok none r1) : loopC step (x :: xs) acc r = loopC step xs acc r1 := by
  show R.bind (step x r) _ = _
  rw [h, bok]
theorem loopC_s (step : D → Env → R (Option D)) (x d : D) (xs acc : List D) (r r1 : Env) (h : step x r = .ok (some d) r1) : loopC step (x :: xs) acc r = loopC step xs (acc ++ [d]) r1 := by
  show R.bind (step x r) _ = _
  rw [h, bok]
theorem ixNN (n k : Nat) (h : k < n) : ixN n (k : Int) = some k := by
  simp only [ixN]
  rw [if_pos (by omega), if_pos (by omega)]; simp
theorem idxTN (xs : List D) (k : Nat) (d : D) (h : xs[k]? = some d) (hs : xs.length ≤ LIM) : idxD (.tup xs) (.int k) = some d := by
  have hk : k < xs.length := by rcases Nat.lt_or_ge k xs.length with h' | h'; exact h'; rw [List.getElem?_eq_none h'] at h; exact absurd h (by simp)
  have h1 : small (k : Int) = true := by
    have a : -BIG ≤ (k : Int) := by show -4611686018427387904 ≤ _; omega
    have b : (k : Int) < BIG := by have : LIM = 16777216 := rfl; show _ < 4611686018427387904; omega
    exact (small_iff _).2 ⟨a, b⟩
  show (if small (k : Int) then atI xs k else none) = _
  rw [if_pos h1, atI, ixNN _ _ hk]; exact h
end LW
end

section
set_option maxRecDepth 100000
/-! Pure1: the helpers that all laws share -/
namespace LW
theorem finT (d x : D) (r : Env) (h : rd r 0 = some x) : fin true (.ret d r) = .ret d (some x) := by
  simp only [fin, outs, if_true, h]
theorem rdZ (r : Env) : rd (none :: r) 0 = none := rfl
theorem parC (i : Nat) (is : List Nat) (d : D) (ds : List D) (r : Env) : stTgs (List.map Tg.v (i :: is)) (d :: ds) r = stTgs (List.map Tg.v is) ds (r.set i (some d)) := by simp only [List.map, stTgs, stTg]
theorem parN (r : Env) : stTgs (List.map Tg.v []) [] r = some r := by simp only [List.map, stTgs]
theorem stV (i : Nat) (d : D) (r : Env) : stTg (.v i) d r = some (r.set i (some d)) := by simp only [stTg]
theorem stT (l : List Tg) (xs : List D) (r : Env) : stTg (.t l) (.tup xs) r = stTgs l xs r := by simp only [stTg]
theorem stsN (r : Env) : stTgs [] [] r = some r := by simp only [stTgs]
theorem stsV (i : Nat) (ts : List Tg) (d : D) (ds : List D) (r : Env) : stTgs (.v i :: ts) (d :: ds) r = stTgs ts ds (r.set i (some d)) := by simp only [stTgs, stTg]
theorem stsT (l ts : List Tg) (xs ds : List D) (r : Env) : stTgs (.t l :: ts) (.tup xs :: ds) r = (stTgs l xs r).bind fun r1 => stTgs ts ds r1 := by
  simp only [stTgs, stTg]; cases stTgs l xs r <;> rfl
theorem exS {α : Type} (c : Nat) (fs : List D) (r : Env) (f : α → Env → SR) : R.sr (.ex c fs r) f = .ex c fs r := rfl
theorem exR {α β : Type} (c : Nat) (fs : List D) (r : Env) (f : α → Env → R β) : R.bind (.ex c fs r) f = .ex c fs r := rfl
theorem ex_tr (P : Prog) (call : Nat → List D → CR) (w : Nat) (b : Ss) (hs : Hs) (r r1 : Env) (c : Nat) (fs : List D) (h : exs P call w b r = .ex c fs r1) : ex P call w (.tr b hs) r = exh P call w hs c fs r1 := by
  simp only [ex, h]
theorem ex_tr_nx (P : Prog) (call : Nat → List D → CR) (w : Nat) (b : Ss) (hs : Hs) (r r1 : Env) (h : exs P call w b r = .nx r1) : ex P call w (.tr b hs) r = .nx r1 := by
  simp only [ex, h]
theorem exh_as (P : Prog) (call : Nat → List D → CR) (w : Nat) (k j : Nat) (b : Ss) (hs : Hs) (c : Nat) (fs : List D) (r r1 : Env) (h1 : P.exc c = true) (h2 : P.sub c k = true) (h : exs P call w b ((clr r).set j (some (.exc c fs))) = .nx r1) :
    exh P call w (.cons k (some j) b hs) c fs r = .nx ((clr r1).set j none) := by
  simp only [exh, h1, h2, h, Bool.not_true, Bool.false_eq_true, if_false, if_true]
theorem exh_skip (P : Prog) (call : Nat → List D → CR) (w : Nat) (k : Nat) (j : Option Nat) (b : Ss) (hs : Hs) (c : Nat) (fs : List D) (r : Env) (h1 : P.exc c = true) (h2 : P.sub c k = false) :
    exh P call w (.cons k j b hs) c fs r = exh P call w hs c fs r := by
  simp only [exh, h1, h2, Bool.not_true, Bool.false_eq_true, if_false]
theorem opR (f : D → Option D) (d : D) : Option.map f (some d) = some (f d) := rfl
abbrev row4 (ns : List Int) (p s r : Int) : D := .lst [.ro (ns.map .int), .int p, .int s, .int r]
def b_taken : Ss := (.cons (.ite (.cmp .gt (.idx (.bor 0) (.int 3)) (.int 0)) (.cons (.set 2 (.bin .mod (.bi .intOf (.cons .s (.idx (.bor 0) (.int 3)) .nil)) (.var 1))) (.cons (.setIx (.v 0) (.int 3) (.bin .fdiv (.idx (.bor 0) (.int 3)) (.var 1))) (.cons (.ret (.var 2)) .nil))) .nil) (.cons (.setIx (.v 0) (.int 1) (.bin .add (.idx (.bor 0) (.int 1)) (.int 1))) (.cons (.ite (.cmp .gt (.idx (.bor 0) (.int 1)) (.bi .len (.cons .s (.idx (.bor 0) (.int 0)) .nil))) (.cons (.setIx (.v 0) (.int 2) (.bin .mod (.bi .intOf (.cons .s (.bin .add (.bin .mul (.idx (.bor 0) (.int 2)) (.int 48271)) (.int 11)) .nil)) (.int 2147483647))) (.cons (.ret (.bin .mod (.bi .intOf (.cons .s (.bin .fdiv (.idx (.bor 0) (.int 2)) (.int 7)) .nil)) (.var 1))) .nil)) .nil) (.cons (.set 3 (.idx (.idx (.bor 0) (.int 0)) (.bin .sub (.idx (.bor 0) (.int 1)) (.int 1)))) (.cons (.setIx (.v 0) (.int 2) (.bin .mod (.bi .intOf (.cons .s (.bin .add (.bin .add (.bin .mul (.idx (.bor 0) (.int 2)) (.int 48271)) (.var 3)) (.int 11)) .nil)) (.int 2147483647))) (.cons (.ite (.cmp .ge (.var 3) (.bin .pow (.int 10) (.int 18))) (.cons (.setIx (.v 0) (.int 3) (.bin .fdiv (.var 3) (.var 1))) .nil) .nil) (.cons (.ret (.bin .mod (.bi .intOf (.cons .s (.var 3) .nil)) (.var 1))) .nil)))))))
theorem l4_0 (a b c d : D) : idxD (.lst [a, b, c, d]) (.int 0) = some a := rfl
theorem l4_1 (a b c d : D) : idxD (.lst [a, b, c, d]) (.int 1) = some b := rfl
theorem l4_2 (a b c d : D) : idxD (.lst [a, b, c, d]) (.int 2) = some c := rfl
theorem l4_3 (a b c d : D) : idxD (.lst [a, b, c, d]) (.int 3) = some d := rfl
theorem p4_1 (a b c d x : D) : putIx (.lst [a, b, c, d]) (.int 1) x = some (.lst [a, x, c, d]) := rfl
theorem p4_2 (a b c d x : D) : putIx (.lst [a, b, c, d]) (.int 2) x = some (.lst [a, b, x, d]) := rfl
theorem p4_3 (a b c d x : D) : putIx (.lst [a, b, c, d]) (.int 3) x = some (.lst [a, b, c, x]) := rfl
theorem lenRo (xs : List D) : biD .len [.ro xs] = some (.int xs.length) := rfl
theorem lenL (xs : List D) : biD .len [.lst xs] = some (.int xs.length) := rfl
theorem lenT (xs : List D) : biD .len [.tup xs] = some (.int xs.length) := rfl
theorem powI1018 : binD .pow (.int 10) (.int 18) = some (.int 1000000000000000000) := rfl
theorem smallI (i : Int) (h : -1000000000000 < i) (h2 : i < 1000000000000) : small i = true := by
  have a : -BIG ≤ i := by show -4611686018427387904 ≤ i; omega
  have b : i < BIG := by show i < 4611686018427387904; omega
  exact (small_iff _).2 ⟨a, b⟩
theorem idxRoI (ns : List Int) (i : Int) (h : 0 ≤ i) (h1 : i < ns.length) (h2 : ns.length ≤ 63) : ∃ c, idxD (.ro (ns.map .int)) (.int i) = some (.int c) := by
  have hs : small i = true := smallI i (by omega) (by omega)
  refine ⟨ns[i.toNat]'(by omega), ?_⟩
  show (if small i then atI _ i else none) = _
  rw [if_pos hs, atI]
  have : ixN (ns.map D.int).length i = some i.toNat := by
    simp only [ixN, List.length_map]; rw [if_pos h, if_pos h1]
  rw [this]
  show (ns.map D.int)[i.toNat]? = _
  rw [List.getElem?_map, List.getElem?_eq_getElem (by omega)]; rfl
theorem mul48 (s : Int) : mulOk s 48271 = true := by
  have h : decide (-M64 < (48271 : Int) ∧ (48271 : Int) < M64) = true := by decide
  simp only [mulOk, h, Bool.or_true]
theorem taken_ok (P : Prog) (f : Nat) (hb : P.body f = b_taken) (hio : P.io f = true) (hnp : P.np f = 2) (hns : P.nslots f = 4) (w n : Nat) (ns : List Int) (p s r m : Int)
    (hp : 0 ≤ p) (hm : 0 < m) (hm2 : m.natAbs < 1073741824) (hl : ns.length ≤ 63) :
    ∃ v p' s' r', 0 ≤ v ∧ v < m ∧ 0 ≤ p' ∧ sem P w (n + 1) f [row4 ns p s r, .int m] = .ret (.int v) (some (row4 ns p' s' r')) := by
  have hm0 : m ≠ 0 := by omega
  have hd : divOk m = true := by simp only [divOk, decide_eq_true_eq]; omega
  have hd7 : divOk 7 = true := by decide
  have hM : (2147483647 : Int) ≠ 0 := by decide
  have v1 : ∀ x : Int, 0 ≤ x.fmod m := fun x => Int.fmod_nonneg_of_pos _ hm
  have v2 : ∀ x : Int, x.fmod m < m := fun x => Int.fmod_lt_of_pos _ hm
  suffices h : ∃ x p' s' r', 0 ≤ p' ∧ sem P w (n + 1) f [row4 ns p s r, .int m] = .ret (.int (Int.fmod x m)) (some (row4 ns p' s' r')) by
    obtain ⟨x, p', s', r', h1, h2⟩ := h
    exact ⟨_, p', s', r', v1 x, v2 x, h1, h2⟩
  by_cases hr : 0 < r
  · refine ⟨r, p, s, r.fdiv m, hp, ?_⟩
    rw [sem_one _ _ _ _ _ (by rw [hnp]; rfl), hb, hio, hns]
    rw [show startE 4 [row4 ns p s r, .int m] = [some (row4 ns p s r), some (.int m), none, none] from rfl]
    have e1 : decide (0 < r) = true := decide_eq_true hr
    simp -implicitDefEqProofs only [↓ev_comp, stpC_v, stepF_v, List.set, evConds, ev, evs, evAs, lateAs, evAnd, evOr, evIt, exs, ↓ex_for, ↓ex_whl, ex, getV, rdS, rdI, rdB, rdT, rdL, rdR, rdN, rdZ, bok, sok, ofS, nxB, reB, exB, exS, exR, late, liftO, isIo, ofCall, hasB, ioBack, Bool.false_and, Bool.false_eq_true, if_false, beq_self_eq_true, if_true, ite_true, trB, Bool.not_true, Bool.not_false, finR, finE, finT, opR, idx2_0, idx2_1, addI, subI, ltII, gtII, leI, geI, eqI, neI, intI, lend, unlend, back, tgIds, parC, parN, stV, stT, stsN, stsV, stsT, b_taken, l4_3, p4_3, e1, modI _ _ hm0, fdvI _ _ hd]
    rw [finT]; simp -implicitDefEqProofs only [↓ev_comp, stpC_v, stepF_v, List.set, evConds, ev, evs, evAs, lateAs, evAnd, evOr, evIt, exs, ↓ex_for, ↓ex_whl, ex, getV, rdS, rdI, rdB, rdT, rdL, rdR, rdN, rdZ, bok, sok, ofS, nxB, reB, exB, exS, exR, late, liftO, isIo, ofCall, hasB, ioBack, Bool.false_and, Bool.false_eq_true, if_false, beq_self_eq_true, if_true, ite_true, trB, Bool.not_true, Bool.not_false, finR, finE, finT, opR, idx2_0, idx2_1, addI, subI, ltII, gtII, leI, geI, eqI, neI, intI, lend, unlend, back, tgIds, parC, parN, stV, stT, stsN, stsV, stsT]
  · have e1 : decide (0 < r) = false := decide_eq_false hr
    by_cases hq : (ns.length : Int) < p + 1
    · have e2 : decide (((ns.map D.int).length : Int) < p + 1) = true := by rw [List.length_map]; exact decide_eq_true hq
      refine ⟨((s * 48271 + 11).fmod 2147483647).fdiv 7, p + 1, (s * 48271 + 11).fmod 2147483647, r, by omega, ?_⟩
      · rw [sem_one _ _ _ _ _ (by rw [hnp]; rfl), hb, hio, hns]
        rw [show startE 4 [row4 ns p s r, .int m] = [some (row4 ns p s r), some (.int m), none, none] from rfl]
        simp -implicitDefEqProofs only [↓ev_comp, stpC_v, stepF_v, List.set, evConds, ev, evs, evAs, lateAs, evAnd, evOr, evIt, exs, ↓ex_for, ↓ex_whl, ex, getV, rdS, rdI, rdB, rdT, rdL, rdR, rdN, rdZ, bok, sok, ofS, nxB, reB, exB, exS, exR, late, liftO, isIo, ofCall, hasB, ioBack, Bool.false_and, Bool.false_eq_true, if_false, beq_self_eq_true, if_true, ite_true, trB, Bool.not_true, Bool.not_false, finR, finE, finT, opR, idx2_0, idx2_1, addI, subI, ltII, gtII, leI, geI, eqI, neI, intI, lend, unlend, back, tgIds, parC, parN, stV, stT, stsN, stsV, stsT, b_taken, l4_3, l4_1, l4_0, l4_2, p4_1, p4_2, lenRo, e1, e2, modI _ _ hm0, modI _ _ hM, fdvI _ _ hd7, mulI _ _ (mul48 _)]
        rw [finT]; simp -implicitDefEqProofs only [↓ev_comp, stpC_v, stepF_v, List.set, evConds, ev, evs, evAs, lateAs, evAnd, evOr, evIt, exs, ↓ex_for, ↓ex_whl, ex, getV, rdS, rdI, rdB, rdT, rdL, rdR, rdN, rdZ, bok, sok, ofS, nxB, reB, exB, exS, exR, late, liftO, isIo, ofCall, hasB, ioBack, Bool.false_and, Bool.false_eq_true, if_false, beq_self_eq_true, if_true, ite_true, trB, Bool.not_true, Bool.not_false, finR, finE, finT, opR, idx2_0, idx2_1, addI, subI, ltII, gtII, leI, geI, eqI, neI, intI, lend, unlend, back, tgIds, parC, parN, stV, stT, stsN, stsV, stsT]
    · have e2 : decide (((ns.map D.int).length : Int) < p + 1) = false := by rw [List.length_map]; exact decide_eq_false hq
      obtain ⟨c, hc⟩ := idxRoI ns (p + 1 - 1) (by omega) (by omega) hl
      by_cases hbig : 1000000000000000000 ≤ c
      · have e3 : decide (1000000000000000000 ≤ c) = true := decide_eq_true hbig
        refine ⟨c, p + 1, (s * 48271 + c + 11).fmod 2147483647, c.fdiv m, by omega, ?_⟩
        · rw [sem_one _ _ _ _ _ (by rw [hnp]; rfl), hb, hio, hns]
          rw [show startE 4 [row4 ns p s r, .int m] = [some (row4 ns p s r), some (.int m), none, none] from rfl]
          simp -implicitDefEqProofs only [↓ev_comp, stpC_v, stepF_v, List.set, evConds, ev, evs, evAs, lateAs, evAnd, evOr, evIt, exs, ↓ex_for, ↓ex_whl, ex, getV, rdS, rdI, rdB, rdT, rdL, rdR, rdN, rdZ, bok, sok, ofS, nxB, reB, exB, exS, exR, late, liftO, isIo, ofCall, hasB, ioBack, Bool.false_and, Bool.false_eq_true, if_false, beq_self_eq_true, if_true, ite_true, trB, Bool.not_true, Bool.not_false, finR, finE, finT, opR, idx2_0, idx2_1, addI, subI, ltII, gtII, leI, geI, eqI, neI, intI, lend, unlend, back, tgIds, parC, parN, stV, stT, stsN, stsV, stsT, b_taken, l4_3, l4_1, l4_0, l4_2, p4_1, p4_2, p4_3, lenRo, e1, e2, e3, hc, powI1018, modI _ _ hm0, modI _ _ hM, fdvI _ _ hd, mulI _ _ (mul48 _)]
          rw [finT]; simp -implicitDefEqProofs only [↓ev_comp, stpC_v, stepF_v, List.set, evConds, ev, evs, evAs, lateAs, evAnd, evOr, evIt, exs, ↓ex_for, ↓ex_whl, ex, getV, rdS, rdI, rdB, rdT, rdL, rdR, rdN, rdZ, bok, sok, ofS, nxB, reB, exB, exS, exR, late, liftO, isIo, ofCall, hasB, ioBack, Bool.false_and, Bool.false_eq_true, if_false, beq_self_eq_true, if_true, ite_true, trB, Bool.not_true, Bool.not_false, finR, finE, finT, opR, idx2_0, idx2_1, addI, subI, ltII, gtII, leI, geI, eqI, neI, intI, lend, unlend, back, tgIds, parC, parN, stV, stT, stsN, stsV, stsT]
      · have e3 : decide (1000000000000000000 ≤ c) = false := decide_eq_false hbig
        refine ⟨c, p + 1, (s * 48271 + c + 11).fmod 2147483647, r, by omega, ?_⟩
        · rw [sem_one _ _ _ _ _ (by rw [hnp]; rfl), hb, hio, hns]
          rw [show startE 4 [row4 ns p s r, .int m] = [some (row4 ns p s r), some (.int m), none, none] from rfl]
          simp -implicitDefEqProofs only [↓ev_comp, stpC_v, stepF_v, List.set, evConds, ev, evs, evAs, lateAs, evAnd, evOr, evIt, exs, ↓ex_for, ↓ex_whl, ex, getV, rdS, rdI, rdB, rdT, rdL, rdR, rdN, rdZ, bok, sok, ofS, nxB, reB, exB, exS, exR, late, liftO, isIo, ofCall, hasB, ioBack, Bool.false_and, Bool.false_eq_true, if_false, beq_self_eq_true, if_true, ite_true, trB, Bool.not_true, Bool.not_false, finR, finE, finT, opR, idx2_0, idx2_1, addI, subI, ltII, gtII, leI, geI, eqI, neI, intI, lend, unlend, back, tgIds, parC, parN, stV, stT, stsN, stsV, stsT, b_taken, l4_3, l4_1, l4_0, l4_2, p4_1, p4_2, p4_3, lenRo, e1, e2, e3, hc, powI1018, modI _ _ hm0, modI _ _ hM, fdvI _ _ hd, mulI _ _ (mul48 _)]
          rw [finT]; simp -implicitDefEqProofs only [↓ev_comp, stpC_v, stepF_v, List.set, evConds, ev, evs, evAs, lateAs, evAnd, evOr, evIt, exs, ↓ex_for, ↓ex_whl, ex, getV, rdS, rdI, rdB, rdT, rdL, rdR, rdN, rdZ, bok, sok, ofS, nxB, reB, exB, exS, exR, late, liftO, isIo, ofCall, hasB, ioBack, Bool.false_and, Bool.false_eq_true, if_false, beq_self_eq_true, if_true, ite_true, trB, Bool.not_true, Bool.not_false, finR, finE, finT, opR, idx2_0, idx2_1, addI, subI, ltII, gtII, leI, geI, eqI, neI, intI, lend, unlend, back, tgIds, parC, parN, stV, stT, stsN, stsV, stsT]
end LW
end

section
set_option maxRecDepth 100000
/-! Pure2: _law_alike, _law_truth for equal data -/
namespace LW
def b_alike (f : Nat) : Ss := (.cons (.ite (.isiT (.var 1) [.tuple, .list]) (.cons (.ite (.or (.cons (.not (.isiT (.var 0) [.tuple, .list])) (.cons (.cmp .ne (.isi (.var 0) [.list]) (.isi (.var 1) [.list])) .nil))) (.cons (.ret (.bl false)) .nil) .nil) (.cons (.ite (.cmp .ne (.bi .len (.cons .s (.var 0) .nil)) (.bi .len (.cons .s (.var 1) .nil))) (.cons (.ret (.bl false)) .nil) .nil) (.cons (.ret (.cmp .eq (.comp (.var 2) (.v 2) (.range (.cons .s (.bi .len (.cons .s (.var 1) .nil)) .nil)) (.cons (.not (.call f (.cons .s (.idx (.var 0) (.var 2)) (.cons .s (.idx (.var 1) (.var 2)) .nil)))) .nil)) (.lst .nil))) .nil))) .nil) (.cons (.ite (.or (.cons (.isN (.var 1)) (.cons (.isi (.var 1) [.str]) .nil))) (.cons (.ret (.and (.cons (.cmp .eq (.var 0) (.var 1)) (.cons (.cmp .eq (.isi (.var 0) [.str]) (.isi (.var 1) [.str])) .nil)))) .nil) .nil) (.cons (.ret (.and (.cons (.isi (.var 0) [.int]) (.cons (.cmp .eq (.isi (.var 0) [.bool]) (.isi (.var 1) [.bool])) (.cons (.cmp .eq (.var 0) (.var 1)) .nil))))) .nil)))
def b_truth : Ss := (.cons (.ret (.and (.cons (.isi (.var 0) [.bool]) (.cons (.cmp .eq (.var 0) (.var 1)) .nil)))) .nil)
structure Is (P : Prog) (f : Nat) (b : Ss) (io : Bool) (np ns : Nat) : Prop where
  hb : P.body f = b
  hio : P.io f = io
  hnp : P.np f = np
  hns : P.nslots f = ns
theorem Is.sem {P : Prog} {f : Nat} {b : Ss} {io : Bool} {np ns : Nat} (h : Is P f b io np ns) (w n : Nat) (ds : List D) (hl : ds.length = np) :
    sem P w (n + 1) f ds = fin io (exs P (LW.sem P w n) w b (startE ns ds)) := by
  rw [sem_one _ _ _ _ _ (by rw [h.hnp]; exact hl), h.hb, h.hio, h.hns]
def good : Nat → D → Bool
  | _, .non => true
  | _, .bl _ => true
  | _, .int _ => true
  | _, .str s => s.all (fun c => decide (c < 1114112))
  | n + 1, .tup xs => decide (xs.length < 1000000000000) && xs.all (good n)
  | n + 1, .lst xs => decide (xs.length < 1000000000000) && xs.all (good n)
  | _, _ => false
theorem idxTL (xs : List D) (k : Nat) (d : D) (h : xs[k]? = some d) (hs : xs.length < 1000000000000) : idxD (.tup xs) (.int k) = some d := by
  have hk : k < xs.length := by rcases Nat.lt_or_ge k xs.length with h' | h'; exact h'; rw [List.getElem?_eq_none h'] at h; exact absurd h (by simp)
  show (if small (k : Int) then atI xs k else none) = _
  rw [if_pos (smallI _ (by omega) (by omega)), atI, ixNN _ _ hk]; exact h
theorem idxLL (xs : List D) (k : Nat) (d : D) (h : xs[k]? = some d) (hs : xs.length < 1000000000000) : idxD (.lst xs) (.int k) = some d := by
  have hk : k < xs.length := by rcases Nat.lt_or_ge k xs.length with h' | h'; exact h'; rw [List.getElem?_eq_none h'] at h; exact absurd h (by simp)
  show (if small (k : Int) then atI xs k else none) = _
  rw [if_pos (smallI _ (by omega) (by omega)), atI, ixNN _ _ hk]; exact h
theorem range1 (m : Nat) (h : m < 1000000000000) : rangeD [.int (m : Int)] = some (rangeL (0 : Nat) m 1) := by
  have hs : small (m : Int) = true := smallI _ (by omega) (by omega)
  simp only [rangeD, hs, if_true, rangeN]
  rw [if_pos (by decide), show (((m : Int) - 0 + 1 - 1) / 1).toNat = m from by omega]; rfl
theorem isiTL (P : Prog) (l : List D) : isiD P [.tuple, .list] (.tup l) = some (.bl true) := rfl
theorem isiTL2 (P : Prog) (l : List D) : isiD P [.tuple, .list] (.lst l) = some (.bl true) := rfl
theorem isiL (P : Prog) (l : List D) : isiD P [.list] (.tup l) = some (.bl false) := rfl
theorem isiL2 (P : Prog) (l : List D) : isiD P [.list] (.lst l) = some (.bl true) := rfl
theorem neB (a : Bool) : cmpD .ne (.bl a) (.bl a) = some false := by cases a <;> rfl
theorem eqB (a : Bool) : cmpD .eq (.bl a) (.bl a) = some true := by cases a <;> rfl
theorem eqNil : cmpD .eq (.lst []) (.lst []) = some true := rfl
theorem mkLnil : mkL [] = some (.lst []) := rfl
theorem limnil : lim ([] : List D) = true := rfl
/-- the comprehension over the places: nothing is left -/
theorem alike_loop (P : Prog) (call : Nat → List D → CR) (f : Nat) (hio : P.io f = false) (a b : D) (ha : rd [some a] 0 = some a) (hb : rd [some b] 0 = some b) (xs : List D)
    (h1 : ∀ (k : Nat) (x : D), xs[k]? = some x → idxD a (.int k) = some x) (h2 : ∀ (k : Nat) (x : D), xs[k]? = some x → idxD b (.int k) = some x)
    (h : ∀ x ∈ xs, call f [x, x] = .ret (.bl true) none) :
    ∀ (m s : Nat) (z : Option D), s + m = xs.length → ∃ z', loopC (stpC P call (.v 2) (.var 2) (.cons (.not (.call f (.cons .s (.idx (.var 0) (.var 2)) (.cons .s (.idx (.var 1) (.var 2)) .nil)))) .nil))
      (rangeL s m 1) [] [some a, some b, z] = .ok [] [some a, some b, z'] := by
  intro m
  induction m with
  | zero => intro s z _; exact ⟨z, rfl⟩
  | succ m ih =>
    intro s z hsm
    obtain ⟨z', hz⟩ := ih (s + 1) (some (.int s)) (by omega)
    refine ⟨z', ?_⟩
    show loopC _ (.int s :: rangeL ((s : Int) + 1) m 1) _ _ = _
    rw [show ((s : Int) + 1) = ((s + 1 : Nat) : Int) from by omega]
    have hxs : s < xs.length := by omega
    have hx := List.getElem?_eq_getElem hxs
    have ra : ∀ r, rd (some a :: r) 0 = some a := fun r => ha
    have rb : ∀ r, rd (some b :: r) 0 = some b := fun r => hb
    have hc := h _ (List.getElem_mem hxs)
    rw [loopC_n (r1 := [some a, some b, some (.int s)]), hz]
    simp -implicitDefEqProofs only [↓ev_comp, stpC_v, stepF_v, List.set, evConds, ev, evs, evAs, lateAs, evAnd, evOr, evIt, exs, ↓ex_for, ↓ex_whl, ex, getV, rdS, rdI, rdB, rdT, rdL, rdR, rdN, rdZ, bok, sok, ofS, nxB, reB, exB, exS, exR, late, liftO, isIo, ofCall, hasB, ioBack, Bool.false_and, Bool.false_eq_true, if_false, beq_self_eq_true, if_true, ite_true, trB, Bool.not_true, Bool.not_false, finR, finE, finT, opR, idx2_0, idx2_1, addI, subI, ltII, gtII, leI, geI, eqI, neI, intI, lend, unlend, back, tgIds, parC, parN, stV, stT, stsN, stsV, stsT, ra, rb, h1 _ _ hx, h2 _ _ hx, hc, hio]
theorem alike_good (P : Prog) (f : Nat) (F : Is P f (b_alike f) false 2 3) (w : Nat) : ∀ (k n : Nat) (d : D), good k d = true → sem P w (n + 1 + k) f [d, d] = .ret (.bl true) none := by
  intro k
  have simple : ∀ (n : Nat) (d : D), isiD P [.tuple, .list] d = some (.bl false) → (∀ r, rd (some d :: r) 0 = some d) → cmpD .eq d d = some true → (isNonD d = false → ∃ x y, isiD P [.str] d = some (.bl x) ∧ (x = false → isiD P [.int] d = some (.bl true) ∧ isiD P [.bool] d = some (.bl y))) → (isNonD d = true → isiD P [.str] d = some (.bl false)) → sem P w (n + 1) f [d, d] = .ret (.bl true) none := by
    intro n d e1 e2 e3 e4 e5
    rw [F.sem _ _ _ rfl]
    rw [show startE 3 [d, d] = [some d, some d, none] from rfl]
    cases hn : isNonD d with
    | true =>
      simp -implicitDefEqProofs only [↓ev_comp, stpC_v, stepF_v, List.set, evConds, ev, evs, evAs, lateAs, evAnd, evOr, evIt, exs, ↓ex_for, ↓ex_whl, ex, getV, rdS, rdI, rdB, rdT, rdL, rdR, rdN, rdZ, bok, sok, ofS, nxB, reB, exB, exS, exR, late, liftO, isIo, ofCall, hasB, ioBack, Bool.false_and, Bool.false_eq_true, if_false, beq_self_eq_true, if_true, ite_true, trB, Bool.not_true, Bool.not_false, finR, finE, finT, opR, idx2_0, idx2_1, addI, subI, ltII, gtII, leI, geI, eqI, neI, intI, lend, unlend, back, tgIds, parC, parN, stV, stT, stsN, stsV, stsT, b_alike, e1, e2, e3, hn, e5 hn, eqB]
    | false =>
      obtain ⟨x, y, e6, e7⟩ := e4 hn
      cases x with
      | true => simp -implicitDefEqProofs only [↓ev_comp, stpC_v, stepF_v, List.set, evConds, ev, evs, evAs, lateAs, evAnd, evOr, evIt, exs, ↓ex_for, ↓ex_whl, ex, getV, rdS, rdI, rdB, rdT, rdL, rdR, rdN, rdZ, bok, sok, ofS, nxB, reB, exB, exS, exR, late, liftO, isIo, ofCall, hasB, ioBack, Bool.false_and, Bool.false_eq_true, if_false, beq_self_eq_true, if_true, ite_true, trB, Bool.not_true, Bool.not_false, finR, finE, finT, opR, idx2_0, idx2_1, addI, subI, ltII, gtII, leI, geI, eqI, neI, intI, lend, unlend, back, tgIds, parC, parN, stV, stT, stsN, stsV, stsT, b_alike, e1, e2, e3, hn, e6, eqB]
      | false =>
        obtain ⟨e8, e9⟩ := e7 rfl
        simp -implicitDefEqProofs only [↓ev_comp, stpC_v, stepF_v, List.set, evConds, ev, evs, evAs, lateAs, evAnd, evOr, evIt, exs, ↓ex_for, ↓ex_whl, ex, getV, rdS, rdI, rdB, rdT, rdL, rdR, rdN, rdZ, bok, sok, ofS, nxB, reB, exB, exS, exR, late, liftO, isIo, ofCall, hasB, ioBack, Bool.false_and, Bool.false_eq_true, if_false, beq_self_eq_true, if_true, ite_true, trB, Bool.not_true, Bool.not_false, finR, finE, finT, opR, idx2_0, idx2_1, addI, subI, ltII, gtII, leI, geI, eqI, neI, intI, lend, unlend, back, tgIds, parC, parN, stV, stT, stsN, stsV, stsT, b_alike, e1, e2, e3, hn, e6, e8, e9, eqB]
  have flat : ∀ (n : Nat) (d : D), good 0 d = true → sem P w (n + 1) f [d, d] = .ret (.bl true) none := by
    intro n d hg
    cases d with
    | non => exact simple n _ rfl (fun _ => rfl) rfl (fun h => absurd h (by decide)) (fun _ => rfl)
    | bl b => exact simple n _ rfl (fun _ => rfl) (eqB b) (fun _ => ⟨false, true, rfl, fun _ => ⟨rfl, rfl⟩⟩) (fun h => absurd h Bool.false_ne_true)
    | int b => exact simple n _ rfl (fun _ => rfl) (by rw [eqI, beq_self_eq_true]) (fun _ => ⟨false, false, rfl, fun _ => ⟨rfl, rfl⟩⟩) (fun h => absurd h Bool.false_ne_true)
    | str s =>
      have hp : pl8 (.str s) = true := hg
      exact simple n _ rfl (fun _ => rfl) (by simp only [cmpD, hp, Bool.and_self, if_true, eqD, beq_self_eq_true]) (fun _ => ⟨true, false, rfl, fun h => absurd h (by decide)⟩) (fun h => absurd h Bool.false_ne_true)
    | tup _ => cases hg
    | lst _ => cases hg
    | dict _ => cases hg
    | obj _ _ => cases hg
    | fn _ => cases hg
    | ro _ => cases hg
    | exc _ _ => cases hg
  induction k with
  | zero => exact fun n d => flat n d
  | succ k ih =>
    intro n d hg
    cases d with
    | tup xs =>
      simp only [good, Bool.and_eq_true, decide_eq_true_eq, List.all_eq_true] at hg
      obtain ⟨hl, ha⟩ := hg
      rw [show n + 1 + (k + 1) = (n + 1 + k) + 1 from rfl, F.sem _ _ _ rfl]
      rw [show startE 3 [.tup xs, .tup xs] = [some (.tup xs), some (.tup xs), none] from rfl]
      obtain ⟨z, hz⟩ := alike_loop P (LW.sem P w (n + 1 + k)) f F.hio (.tup xs) (.tup xs) rfl rfl xs (fun _ _ h => idxTL _ _ _ h hl) (fun _ _ h => idxTL _ _ _ h hl) (fun x hx => ih n x (ha x hx)) xs.length 0 none (by omega)
      simp -implicitDefEqProofs only [↓ev_comp, stpC_v, stepF_v, List.set, evConds, ev, evs, evAs, lateAs, evAnd, evOr, evIt, exs, ↓ex_for, ↓ex_whl, ex, getV, rdS, rdI, rdB, rdT, rdL, rdR, rdN, rdZ, bok, sok, ofS, nxB, reB, exB, exS, exR, late, liftO, isIo, ofCall, hasB, ioBack, Bool.false_and, Bool.false_eq_true, if_false, beq_self_eq_true, if_true, ite_true, trB, Bool.not_true, Bool.not_false, finR, finE, finT, opR, idx2_0, idx2_1, addI, subI, ltII, gtII, leI, geI, eqI, neI, intI, lend, unlend, back, tgIds, parC, parN, stV, stT, stsN, stsV, stsT, b_alike, isiTL, isiL, neB, lenT, range1 _ hl, hz, quS, limnil, mkLnil, eqNil]
    | lst xs =>
      simp only [good, Bool.and_eq_true, decide_eq_true_eq, List.all_eq_true] at hg
      obtain ⟨hl, ha⟩ := hg
      rw [show n + 1 + (k + 1) = (n + 1 + k) + 1 from rfl, F.sem _ _ _ rfl]
      rw [show startE 3 [.lst xs, .lst xs] = [some (.lst xs), some (.lst xs), none] from rfl]
      obtain ⟨z, hz⟩ := alike_loop P (LW.sem P w (n + 1 + k)) f F.hio (.lst xs) (.lst xs) rfl rfl xs (fun _ _ h => idxLL _ _ _ h hl) (fun _ _ h => idxLL _ _ _ h hl) (fun x hx => ih n x (ha x hx)) xs.length 0 none (by omega)
      simp -implicitDefEqProofs only [↓ev_comp, stpC_v, stepF_v, List.set, evConds, ev, evs, evAs, lateAs, evAnd, evOr, evIt, exs, ↓ex_for, ↓ex_whl, ex, getV, rdS, rdI, rdB, rdT, rdL, rdR, rdN, rdZ, bok, sok, ofS, nxB, reB, exB, exS, exR, late, liftO, isIo, ofCall, hasB, ioBack, Bool.false_and, Bool.false_eq_true, if_false, beq_self_eq_true, if_true, ite_true, trB, Bool.not_true, Bool.not_false, finR, finE, finT, opR, idx2_0, idx2_1, addI, subI, ltII, gtII, leI, geI, eqI, neI, intI, lend, unlend, back, tgIds, parC, parN, stV, stT, stsN, stsV, stsT, b_alike, isiTL2, isiL2, neB, lenL, range1 _ hl, hz, quS, limnil, mkLnil, eqNil]
    | str s => exact flat _ _ hg
    | non => exact flat _ _ rfl
    | bl _ => exact flat _ _ rfl
    | int _ => exact flat _ _ rfl
    | dict _ => cases hg
    | obj _ _ => cases hg
    | fn _ => cases hg
    | ro _ => cases hg
    | exc _ _ => cases hg
theorem isiB (P : Prog) (b : Bool) : isiD P [.bool] (.bl b) = some (.bl true) := rfl
theorem truth_ok (P : Prog) (f : Nat) (F : Is P f b_truth false 2 2) (w n : Nat) (b : Bool) : sem P w (n + 1) f [.bl b, .bl b] = .ret (.bl true) none := by
  rw [F.sem _ _ _ rfl]
  rw [show startE 2 [.bl b, .bl b] = [some (.bl b), some (.bl b)] from rfl]
  simp -implicitDefEqProofs only [↓ev_comp, stpC_v, stepF_v, List.set, evConds, ev, evs, evAs, lateAs, evAnd, evOr, evIt, exs, ↓ex_for, ↓ex_whl, ex, getV, rdS, rdI, rdB, rdT, rdL, rdR, rdN, rdZ, bok, sok, ofS, nxB, reB, exB, exS, exR, late, liftO, isIo, ofCall, hasB, ioBack, Bool.false_and, Bool.false_eq_true, if_false, beq_self_eq_true, if_true, ite_true, trB, Bool.not_true, Bool.not_false, finR, finE, finT, opR, idx2_0, idx2_1, addI, subI, ltII, gtII, leI, geI, eqI, neI, intI, lend, unlend, back, tgIds, parC, parN, stV, stT, stsN, stsV, stsT, b_truth, isiB, eqB]
end LW
end

section
set_option maxRecDepth 100000
/-! Pure3: loops with an invariant; max, min of ints -/
namespace LW
theorem loopC_inv {α : Type} (step : D → Env → R (Option D)) (Inv : Env → Prop) (em : α → D) (f : α → Option D) : ∀ (xs : List α) (acc : List D) (r : Env), Inv r →
    (∀ x ∈ xs, ∀ r, Inv r → ∃ r', Inv r' ∧ step (em x) r = .ok (f x) r') → ∃ r', Inv r' ∧ loopC step (xs.map em) acc r = .ok (acc ++ xs.filterMap f) r'
  | [], acc, r, hI, _ => ⟨r, hI, by simp [loopC]⟩
  | x :: xs, acc, r, hI, h => by
    obtain ⟨r1, hI1, h1⟩ := h x (List.mem_cons_self ..) r hI
    cases hf : f x with
    | none =>
      obtain ⟨r2, hI2, h2⟩ := loopC_inv step Inv em f xs acc r1 hI1 (fun y hy => h y (List.mem_cons_of_mem _ hy))
      refine ⟨r2, hI2, ?_⟩
      rw [List.map_cons, loopC_n _ _ _ _ _ _ (by rw [h1, hf]), h2, List.filterMap_cons_none hf]
    | some d =>
      obtain ⟨r2, hI2, h2⟩ := loopC_inv step Inv em f xs (acc ++ [d]) r1 hI1 (fun y hy => h y (List.mem_cons_of_mem _ hy))
      refine ⟨r2, hI2, ?_⟩
      rw [List.map_cons, loopC_s _ _ _ _ _ _ _ (by rw [h1, hf]), h2, List.filterMap_cons_some hf, List.append_assoc]; rfl
/-- every turn gives one value with a property, in a state that stays right -/
theorem loopC_rel {α : Type} (step : D → Env → R (Option D)) (Inv : Env → Prop) (Q : α → Prop) (em : α → D) : ∀ (xs : List D) (acc : List D) (r : Env), Inv r →
    (∀ x ∈ xs, ∀ r, Inv r → ∃ r' y, Inv r' ∧ Q y ∧ step x r = .ok (some (em y)) r') → ∃ (r' : Env) (ys : List α), Inv r' ∧ (∀ y ∈ ys, Q y) ∧ ys.length = xs.length ∧ loopC step xs acc r = .ok (acc ++ ys.map em) r'
  | [], acc, r, hI, _ => ⟨r, [], hI, (fun _ h => nomatch h), rfl, by simp [loopC]⟩
  | x :: xs, acc, r, hI, h => by
    obtain ⟨r1, y, hI1, hq, h1⟩ := h x (List.mem_cons_self ..) r hI
    obtain ⟨r2, ys, hI2, hqs, hl, h2⟩ := loopC_rel step Inv Q em xs (acc ++ [em y]) r1 hI1 (fun y hy => h y (List.mem_cons_of_mem _ hy))
    refine ⟨r2, y :: ys, hI2, ?_, by simp [hl], ?_⟩
    · intro z hz
      rcases List.mem_cons.1 hz with e | e
      · rw [e]; exact hq
      · exact hqs z e
    · rw [loopC_s _ _ _ _ _ _ _ h1, h2, List.append_assoc]; rfl
/-- a for loop whose state follows a fold -/
theorem loopF_fold {α σ : Type} (step : D → Env → SR) (Inv : σ → Env → Prop) (em : α → D) (g : σ → α → σ) : ∀ (xs : List α) (s : σ) (r : Env), Inv s r →
    (∀ x ∈ xs, ∀ s r, Inv s r → ∃ r', Inv (g s x) r' ∧ step (em x) r = .nx r') → ∃ r', Inv (xs.foldl g s) r' ∧ loopF step (xs.map em) r = .nx r'
  | [], s, r, hI, _ => ⟨r, hI, rfl⟩
  | x :: xs, s, r, hI, h => by
    obtain ⟨r1, hI1, h1⟩ := h x (List.mem_cons_self ..) s r hI
    obtain ⟨r2, hI2, h2⟩ := loopF_fold step Inv em g xs (g s x) r1 hI1 (fun y hy => h y (List.mem_cons_of_mem _ hy))
    exact ⟨r2, hI2, by rw [List.map_cons, loopF_c _ _ _ _ _ h1, h2]⟩
theorem intsOf_map : ∀ xs : List Int, intsOf (xs.map .int) = some xs
  | [] => rfl
  | x :: xs => by show Option.map _ (intsOf (xs.map .int)) = _; rw [intsOf_map xs]; rfl
theorem maxI_sp : ∀ (xs : List Int) (m : Int), (maxI m xs = m ∨ maxI m xs ∈ xs) ∧ m ≤ maxI m xs ∧ ∀ y ∈ xs, y ≤ maxI m xs
  | [], m => ⟨.inl rfl, Int.le_refl _, (fun _ h => nomatch h)⟩
  | x :: xs, m => by
    show (maxI (if m < x then x else m) xs = m ∨ maxI (if m < x then x else m) xs ∈ x :: xs) ∧ m ≤ maxI (if m < x then x else m) xs ∧ ∀ y ∈ x :: xs, y ≤ maxI (if m < x then x else m) xs
    obtain ⟨h1, h2, h3⟩ := maxI_sp xs (if m < x then x else m)
    generalize hk : maxI (if m < x then x else m) xs = k at *
    refine ⟨?_, ?_, ?_⟩
    · rcases h1 with h | h
      · by_cases hm : m < x
        · rw [if_pos hm] at h; right; rw [h]; exact List.mem_cons_self ..
        · rw [if_neg hm] at h; exact .inl h
      · right; exact List.mem_cons_of_mem _ h
    · split at h2 <;> omega
    · intro y hy
      rcases List.mem_cons.1 hy with e | e
      · subst e; split at h2 <;> omega
      · exact h3 y e
theorem minI_sp : ∀ (xs : List Int) (m : Int), (minI m xs = m ∨ minI m xs ∈ xs) ∧ minI m xs ≤ m ∧ ∀ y ∈ xs, minI m xs ≤ y
  | [], m => ⟨.inl rfl, Int.le_refl _, (fun _ h => nomatch h)⟩
  | x :: xs, m => by
    show (minI (if x < m then x else m) xs = m ∨ minI (if x < m then x else m) xs ∈ x :: xs) ∧ minI (if x < m then x else m) xs ≤ m ∧ ∀ y ∈ x :: xs, minI (if x < m then x else m) xs ≤ y
    obtain ⟨h1, h2, h3⟩ := minI_sp xs (if x < m then x else m)
    generalize hk : minI (if x < m then x else m) xs = k at *
    refine ⟨?_, ?_, ?_⟩
    · rcases h1 with h | h
      · by_cases hm : x < m
        · rw [if_pos hm] at h; right; rw [h]; exact List.mem_cons_self ..
        · rw [if_neg hm] at h; exact .inl h
      · right; exact List.mem_cons_of_mem _ h
    · split at h2 <;> omega
    · intro y hy
      rcases List.mem_cons.1 hy with e | e
      · subst e; split at h2 <;> omega
      · exact h3 y e
theorem max1_ok (xs : List Int) (v : Int) (hv : v ∈ xs) (hm : ∀ y ∈ xs, y ≤ v) : biD .max1 [.lst (xs.map .int)] = some (.int v) := by
  cases xs with
  | nil => cases hv
  | cons x r =>
    simp only [biD, intsOf_map]
    obtain ⟨h1, h2, h3⟩ := maxI_sp r x
    have : maxI x r ≤ v := by
      rcases h1 with h | h
      · rw [h]; exact hm x (List.mem_cons_self ..)
      · exact hm _ (List.mem_cons_of_mem _ h)
    have : v ≤ maxI x r := by
      rcases List.mem_cons.1 hv with e | e
      · rw [e]; exact h2
      · exact h3 v e
    rw [show maxI x r = v from by omega]
theorem min1_ok (xs : List Int) (v : Int) (hv : v ∈ xs) (hm : ∀ y ∈ xs, v ≤ y) : biD .min1 [.lst (xs.map .int)] = some (.int v) := by
  cases xs with
  | nil => cases hv
  | cons x r =>
    simp only [biD, intsOf_map]
    obtain ⟨h1, h2, h3⟩ := minI_sp r x
    have : v ≤ minI x r := by
      rcases h1 with h | h
      · rw [h]; exact hm x (List.mem_cons_self ..)
      · exact hm _ (List.mem_cons_of_mem _ h)
    have : minI x r ≤ v := by
      rcases List.mem_cons.1 hv with e | e
      · rw [e]; exact h2
      · exact h3 v e
    rw [show minI x r = v from by omega]
/-- a..b-1 as a list of ints -/
def upI (a : Int) : Nat → List Int
  | 0 => []
  | n + 1 => a :: upI (a + 1) n
theorem rangeL_up : ∀ (n : Nat) (a : Int), rangeL a n 1 = (upI a n).map .int
  | 0, _ => rfl
  | n + 1, a => by show D.int a :: rangeL (a + 1) n 1 = _; rw [rangeL_up n]; rfl
theorem mem_upI : ∀ (n : Nat) (a k : Int), k ∈ upI a n ↔ a ≤ k ∧ k < a + n
  | 0, a, k => by simp [upI]
  | n + 1, a, k => by
    simp only [upI, List.mem_cons, mem_upI n]; omega
theorem len_upI : ∀ (n : Nat) (a : Int), (upI a n).length = n
  | 0, _ => rfl
  | n + 1, a => by simp only [upI, List.length_cons, len_upI n]
theorem lim_of {α : Type} (xs : List α) (h : xs.length ≤ 1000000) : lim xs = true := by
  have h2 : LIM = 16777216 := rfl
  simp only [lim, decide_eq_true_eq, h2]; omega
theorem mkL_le (xs : List D) (h : xs.length ≤ 1000000) : mkL xs = some (.lst xs) := by
  show (if lim xs then _ else _) = _; rw [if_pos (lim_of xs h)]
theorem mkT_le (xs : List D) (h : xs.length ≤ 1000000) : mkT xs = some (.tup xs) := by
  show (if lim xs then _ else _) = _; rw [if_pos (lim_of xs h)]
end LW
end

section
set_option maxRecDepth 100000
namespace K10
open LW
abbrev fr (a b : Int) : D := .tup [.int a, .int b]
theorem is_less_ok (w n : Nat) (a b c d : Int) (h1 : mulOk a d = true) (h2 : mulOk c b = true) : sem prog w (n + 1) 9 [fr a b, fr c d] = .ret (.bl (decide (a * d < c * b))) none := by
  rw [sem_one _ _ _ _ _ rfl]
  rw [show startE (prog.nslots 9) [fr a b, fr c d] = [some (fr a b), some (fr c d)] from rfl, show prog.body 9 = b_is_less from rfl, show prog.io 9 = false from rfl]
  simp only [b_is_less, exs, ex, ev, getV, rdS, rdI, rdT, rdL, bok, sok, ofS, nxB, reB, late, liftO, idx2_0, idx2_1, mulI, h1, h2, ltII, finR]
theorem floor_ok (w n : Nat) (a b : Int) (h : divOk b = true) : sem prog w (n + 1) 10 [fr a b] = .ret (.int (a.fdiv b)) none := by
  rw [sem_one _ _ _ _ _ rfl]
  rw [show startE (prog.nslots 10) [fr a b] = [some (fr a b)] from rfl, show prog.body 10 = b_floor_of from rfl, show prog.io 10 = false from rfl]
  simp only [b_floor_of, exs, ex, ev, getV, rdS, rdI, rdT, rdL, bok, sok, ofS, nxB, reB, late, liftO, idx2_0, idx2_1, fdvI, h, finR]
theorem ceil_ok (w n : Nat) (a b : Int) (h : divOk b = true) : sem prog w (n + 1) 11 [fr a b] = .ret (.int (-((-a).fdiv b))) none := by
  rw [sem_one _ _ _ _ _ rfl]
  rw [show startE (prog.nslots 11) [fr a b] = [some (fr a b)] from rfl, show prog.body 11 = b_ceiling_of from rfl, show prog.io 11 = false from rfl]
  simp only [b_ceiling_of, exs, ex, ev, getV, rdS, rdI, rdT, rdL, bok, sok, ofS, nxB, reB, late, liftO, idx2_0, idx2_1, fdvI, h, finR]
theorem near_ok (w n : Nat) (a b : Int) (h : divOk (2 * b) = true) (h1 : mulOk 2 a = true) (h2 : mulOk 2 b = true) : sem prog w (n + 1) 12 [fr a b] = .ret (.int ((2 * a + b).fdiv (2 * b))) none := by
  rw [sem_one _ _ _ _ _ rfl]
  rw [show startE (prog.nslots 12) [fr a b] = [some (fr a b)] from rfl, show prog.body 12 = b_nearest from rfl, show prog.io 12 = false from rfl]
  simp only [b_nearest, exs, ex, ev, getV, rdS, rdI, rdT, rdL, bok, sok, ofS, nxB, reB, late, liftO, idx2_0, idx2_1, fdvI, mulI, addI, h, h1, h2, finR]
theorem io2 : prog.io 2 = false := rfl
theorem plus_ok (w n : Nat) (a b c d : Int) (h1 : mulOk a d = true) (h2 : mulOk c b = true) (h3 : mulOk b d = true) (x : D) (h : sem prog w n 2 [.int (a * d + c * b), .int (b * d)] = .ret x none) : sem prog w (n + 1) 5 [fr a b, fr c d] = .ret x none := by
  rw [sem_one _ _ _ _ _ rfl]
  rw [show startE (prog.nslots 5) [fr a b, fr c d] = [some (fr a b), some (fr c d)] from rfl, show prog.body 5 = b_plus from rfl, show prog.io 5 = false from rfl]
  simp only [b_plus, exs, ex, ev, evAs, lateAs, getV, rdS, rdI, rdT, rdL, bok, sok, ofS, nxB, reB, late, liftO, idx2_0, idx2_1, mulI, addI, subI, h1, h2, h3, h, finR, io2, isIo, ofCall, hasB, ioBack, Bool.false_and, Bool.false_eq_true, if_false, beq_self_eq_true, if_true, ite_true]
theorem minus_ok (w n : Nat) (a b c d : Int) (h1 : mulOk a d = true) (h2 : mulOk c b = true) (h3 : mulOk b d = true) (x : D) (h : sem prog w n 2 [.int (a * d - c * b), .int (b * d)] = .ret x none) : sem prog w (n + 1) 6 [fr a b, fr c d] = .ret x none := by
  rw [sem_one _ _ _ _ _ rfl]
  rw [show startE (prog.nslots 6) [fr a b, fr c d] = [some (fr a b), some (fr c d)] from rfl, show prog.body 6 = b_minus from rfl, show prog.io 6 = false from rfl]
  simp only [b_minus, exs, ex, ev, evAs, lateAs, getV, rdS, rdI, rdT, rdL, bok, sok, ofS, nxB, reB, late, liftO, idx2_0, idx2_1, mulI, addI, subI, h1, h2, h3, h, finR, io2, isIo, ofCall, hasB, ioBack, Bool.false_and, Bool.false_eq_true, if_false, beq_self_eq_true, if_true, ite_true]
theorem times_ok (w n : Nat) (a b c d : Int) (h1 : mulOk a c = true) (h3 : mulOk b d = true) (x : D) (h : sem prog w n 2 [.int (a * c), .int (b * d)] = .ret x none) : sem prog w (n + 1) 7 [fr a b, fr c d] = .ret x none := by
  rw [sem_one _ _ _ _ _ rfl]
  rw [show startE (prog.nslots 7) [fr a b, fr c d] = [some (fr a b), some (fr c d)] from rfl, show prog.body 7 = b_times from rfl, show prog.io 7 = false from rfl]
  simp only [b_times, exs, ex, ev, evAs, lateAs, getV, rdS, rdI, rdT, rdL, bok, sok, ofS, nxB, reB, late, liftO, idx2_0, idx2_1, mulI, addI, subI, h1, h3, h, finR, io2, isIo, ofCall, hasB, ioBack, Bool.false_and, Bool.false_eq_true, if_false, beq_self_eq_true, if_true, ite_true]
theorem over_ok (w n : Nat) (a b c d : Int) (h1 : mulOk a d = true) (h3 : mulOk b c = true) (x : D) (h : sem prog w n 2 [.int (a * d), .int (b * c)] = .ret x none) : sem prog w (n + 1) 8 [fr a b, fr c d] = .ret x none := by
  rw [sem_one _ _ _ _ _ rfl]
  rw [show startE (prog.nslots 8) [fr a b, fr c d] = [some (fr a b), some (fr c d)] from rfl, show prog.body 8 = b_over from rfl, show prog.io 8 = false from rfl]
  simp only [b_over, exs, ex, ev, evAs, lateAs, getV, rdS, rdI, rdT, rdL, bok, sok, ofS, nxB, reB, late, liftO, idx2_0, idx2_1, mulI, addI, subI, h1, h3, h, finR, io2, isIo, ofCall, hasB, ioBack, Bool.false_and, Bool.false_eq_true, if_false, beq_self_eq_true, if_true, ite_true]
theorem gcd_loop (P : Prog) (call : Nat → List D → CR) (w0 : Nat) (o1 o2 : Option D) : ∀ (w : Nat) (x y : Nat), y < w →
    loopW (fun r => ev P call (.cmp .gt (.var 3) (.int 0)) r) (fun r => exs P call w0 (.cons (.par [2, 3] (.cons (.var 3) (.cons (.bin .mod (.var 2) (.var 3)) .nil))) .nil) r) w
      [o1, o2, some (.int x), some (.int y)] = .nx [o1, o2, some (.int (Nat.gcd x y)), some (.int 0)] := by
  intro w
  induction w with
  | zero => intro x y h; omega
  | succ w ih =>
    intro x y h
    by_cases hy : y = 0
    · subst hy
      rw [loopW_f (r1 := [o1, o2, some (.int x), some (.int 0)])]
      · simp
      · simp only [ev, getV, rdS, rdI, bok, sok, ofS, late, gtII, Int.natCast_zero]; rfl
    · have hy0 : (0 : Int) < y := by omega
      have hy1 : (y : Int) ≠ 0 := by omega
      rw [loopW_t (r1 := [o1, o2, some (.int x), some (.int y)]) (r2 := [o1, o2, some (.int y), some (.int (x % y : Nat))])]
      · rw [ih y (x % y) (by have := Nat.mod_lt x (Nat.pos_of_ne_zero hy); omega), Nat.gcd_comm x y, Nat.gcd_rec y x, Nat.gcd_comm]
      · simp only [ev, getV, rdS, rdI, bok, sok, ofS, late, gtII, hy0, decide_true]
      · simp only [ev, evs, exs, ex, getV, rdS, rdI, bok, sok, ofS, late, liftO, modI _ _ hy1, List.map, stTgs, stTg, nxB, List.set, fmodN]
theorem reduced_ok (w n : Nat) (a b : Int) (h0 : 0 < b) (h1 : b.natAbs < w) (h2 : b.natAbs < 1073741824) :
    sem prog w (n + 1) 2 [.int a, .int b] = .ret (fr (a.fdiv (Int.gcd a b)) (b.fdiv (Int.gcd a b))) none := by
  rw [sem_one _ _ _ _ _ rfl]
  rw [show startE (prog.nslots 2) [.int a, .int b] = [some (.int a), some (.int b), none, none] from rfl, show prog.body 2 = b_reduced from rfl, show prog.io 2 = false from rfl]
  have hb : b = ((b.natAbs : Nat) : Int) := by omega
  have hg : 0 < Nat.gcd a.natAbs b.natAbs := Nat.gcd_pos_of_pos_right _ (by omega)
  have hgle : Nat.gcd a.natAbs b.natAbs ≤ b.natAbs := Nat.gcd_le_right _ (by omega)
  have hd : divOk ((Nat.gcd a.natAbs b.natAbs : Nat) : Int) = true := by simp only [divOk, decide_eq_true_eq]; omega
  have hl := gcd_loop prog (sem prog w n) w (some (.int a)) (some (.int b)) w a.natAbs b.natAbs h1
  rw [← hb] at hl
  have hpos : decide ((0 : Int) < ((Nat.gcd a.natAbs b.natAbs : Nat) : Int)) = true := by simp; omega
  unfold b_reduced
  rw [exs_cons]
  simp only [ex, ev, evs, evAs, lateAs, getV, rdS, rdI, bok, sok, ofS, late, liftO, absI, List.map, stTgs, stTg, nxB, List.set]
  rw [exs_cons, ex_whl, hl, nxB]
  simp only [exs, ex, ev, evs, getV, rdS, rdI, bok, sok, ofS, late, liftO, gtII, hpos, trB, fdvI _ _ hd, reB, finR]
  rfl
theorem fmod_beq (a : Int) (s : Nat) : (a.fmod s == 0) = decide ((s : Int) ∣ a) := by
  rw [Int.fmod_eq_emod_of_nonneg _ (Int.natCast_nonneg s)]
  rw [Bool.eq_iff_iff]
  simp [Int.dvd_iff_emod_eq_zero]
theorem low_loop (call : Nat → List D → CR) (w : Nat) (a b : Int) (hb : 0 < b) : ∀ (n s : Nat) (here : Int) (z : Option D), 1 ≤ s → (s ≤ Int.gcd a b → Int.gcd a b < s + n) → (Int.gcd a b < s → here = Int.gcd a b) →
    ∃ z', loopF (stepF prog call w (.v 3) (.cons (.ite (.and (.cons (.cmp .eq (.bin .mod (.bi .intOf (.cons .s (.var 0) .nil)) (.var 3)) (.int 0)) (.cons (.cmp .eq (.bin .mod (.bi .intOf (.cons .s (.var 1) .nil)) (.var 3)) (.int 0)) .nil))) (.cons (.set 2 (.var 3)) .nil) .nil) .nil))
      (rangeL s n 1) [some (.int a), some (.int b), some (.int here), z] = .nx [some (.int a), some (.int b), some (.int (Int.gcd a b)), z'] := by
  intro n
  induction n with
  | zero =>
    intro s here z h1 h2 h3
    refine ⟨z, ?_⟩
    rw [h3 (by omega)]; rfl
  | succ n ih =>
    intro s here z h1 h2 h3
    have hs : (s : Int) ≠ 0 := by omega
    show ∃ z', loopF _ (.int s :: rangeL ((s : Int) + 1) n 1) _ = _
    rw [show ((s : Int) + 1) = ((s + 1 : Nat) : Int) from by omega]
    by_cases ha : (s : Int) ∣ a
    · by_cases hbb : (s : Int) ∣ b
      · have hg : s ∣ Int.gcd a b := Int.dvd_gcd ha hbb
        have hle : s ≤ Int.gcd a b := Nat.le_of_dvd (Int.gcd_pos_of_ne_zero_right _ (by omega)) hg
        obtain ⟨z', hz⟩ := ih (s + 1) (s : Int) (some (.int s)) (by omega) (by omega) (by omega)
        refine ⟨z', ?_⟩
        rw [loopF_c (r1 := [some (.int a), some (.int b), some (.int s), some (.int s)]), hz]
        simp only [stepF_v, List.set, exs, ex, ev, evAnd, evAs, lateAs, getV, rdS, rdI, bok, sok, ofS, late, liftO, intI, modI _ _ hs, eqI, fmod_beq, ha, hbb, decide_true, trB, nxB]
      · obtain ⟨z', hz⟩ := ih (s + 1) here (some (.int s)) (by omega) (by omega) (fun h => h3 (by
          rcases Nat.lt_or_ge (Int.gcd a b) s with h' | h'
          · exact h'
          · have : s = Int.gcd a b := by omega
            exact absurd (this ▸ Int.gcd_dvd_right ..) hbb))
        refine ⟨z', ?_⟩
        rw [loopF_c (r1 := [some (.int a), some (.int b), some (.int here), some (.int s)]), hz]
        simp only [stepF_v, List.set, exs, ex, ev, evAnd, evAs, lateAs, getV, rdS, rdI, bok, sok, ofS, late, liftO, intI, modI _ _ hs, eqI, fmod_beq, ha, hbb, decide_true, decide_false, trB, nxB]
    · obtain ⟨z', hz⟩ := ih (s + 1) here (some (.int s)) (by omega) (by omega) (fun h => h3 (by
        rcases Nat.lt_or_ge (Int.gcd a b) s with h' | h'
        · exact h'
        · have : s = Int.gcd a b := by omega
          exact absurd (this ▸ Int.gcd_dvd_left ..) ha))
      refine ⟨z', ?_⟩
      rw [loopF_c (r1 := [some (.int a), some (.int b), some (.int here), some (.int s)]), hz]
      simp only [stepF_v, List.set, exs, ex, ev, evAnd, evAs, lateAs, getV, rdS, rdI, bok, sok, ofS, late, liftO, intI, modI _ _ hs, eqI, fmod_beq, ha, decide_true, decide_false, trB, nxB]
theorem low_ok (w n : Nat) (a b : Int) (h0 : 0 < b) (h2 : b.natAbs < 1073741824) :
    sem prog w (n + 1) 18 [.int a, .int b] = .ret (fr (a.fdiv (Int.gcd a b)) (b.fdiv (Int.gcd a b))) none := by
  rw [sem_one _ _ _ _ _ rfl]
  rw [show startE (prog.nslots 18) [.int a, .int b] = [some (.int a), some (.int b), none, none] from rfl, show prog.body 18 = b__law_low from rfl, show prog.io 18 = false from rfl]
  have hg : 0 < Int.gcd a b := Int.gcd_pos_of_ne_zero_right _ (by omega)
  have hgle : Int.gcd a b ≤ b.natAbs := Nat.gcd_le_right _ (by omega)
  have hd : divOk ((Int.gcd a b : Nat) : Int) = true := by simp only [divOk, decide_eq_true_eq]; omega
  obtain ⟨z, hz⟩ := low_loop (sem prog w n) w a b h0 b.natAbs 1 1 none (Nat.le_refl 1) (fun _ => by rw [Nat.add_comm]; exact Nat.lt_succ_of_le hgle) (fun h => absurd h (Nat.not_lt.2 hg))
  rw [show ((1 : Nat) : Int) = 1 from rfl] at hz
  have hr : rangeD [.int 1, .int (b + 1)] = some (rangeL 1 b.natAbs 1) := by
    have hs : small 1 = true := rfl
    have hs2 : small (b + 1) = true := by
      have hb1 : -BIG ≤ b + 1 := by show -4611686018427387904 ≤ b + 1; omega
      have hb2 : b + 1 < BIG := by show b + 1 < 4611686018427387904; omega
      exact (small_iff _).2 ⟨hb1, hb2⟩
    simp only [rangeD, hs, hs2, Bool.and_self, if_true, rangeN]
    rw [if_pos (by decide), show ((b + 1 - 1 + 1 - 1) / 1).toNat = b.natAbs from by omega]
  unfold b__law_low
  rw [exs_cons]
  simp only [ex, ev, bok, sok, nxB, List.set]
  rw [exs_cons, ex_for]
  simp only [evIt, ev, evAs, lateAs, getV, rdS, rdI, bok, sok, ofS, late, liftO, intI, addI, hr]
  rw [hz, nxB]
  simp only [exs, ex, ev, evs, evAs, lateAs, getV, rdS, rdI, bok, sok, ofS, late, liftO, intI, fdvI _ _ hd, reB, finR]
  rfl
theorem io0 : prog.io 0 = false := rfl
theorem io1 : prog.io 1 = false := rfl
theorem is_whole_int (w n : Nat) (i : Int) : sem prog w (n + 1) 0 [.int i] = .ret (.bl true) none := rfl
theorem is_row_tup (w n : Nat) (l : List D) : sem prog w (n + 1) 1 [.tup l] = .ret (.bl true) none := rfl
theorem mkT2 (x y : D) : mkT [x, y] = some (.tup [x, y]) := rfl
theorem eqP (a b c d : Int) : cmpD .eq (fr a b) (fr c d) = some ((a == c) && (b == d)) := by
  show some ((a == c) && ((b == d) && true)) = _
  rw [Bool.and_true]
theorem frac_ok (w n : Nat) (a b : Int) (h0 : 0 < b) (h1 : b.natAbs < w) (h2 : b.natAbs < 1073741824) :
    sem prog w (n + 2) 3 [fr a b] = .ret (.bl ((a.fdiv (Int.gcd a b) == a) && (b.fdiv (Int.gcd a b) == b))) none := by
  rw [sem_one _ _ _ _ _ rfl]
  rw [show startE (prog.nslots 3) [fr a b] = [some (fr a b)] from rfl, show prog.body 3 = b_is_fraction from rfl, show prog.io 3 = false from rfl]
  have hlen : biD .len [fr a b] = some (.int 2) := rfl
  have hb : decide (b < 1) = false := decide_eq_false (by omega)
  simp only [b_is_fraction, exs, ex, ev, evs, evAs, evOr, lateAs, getV, rdS, rdI, rdT, rdL, bok, sok, ofS, nxB, reB, late, liftO, idx2_0, idx2_1, io0, io1, io2, isIo, ofCall, hasB, ioBack, Bool.false_and, Bool.false_eq_true, if_false, beq_self_eq_true, if_true, ite_true, is_whole_int, is_row_tup, trB, Bool.not_true, hlen, neI, ltII, hb, reduced_ok w n a b h0 h1 h2, mkT2, eqP, finR]
end K10
end

section
/-! PlainK10: fractions in plain Lean -/
namespace K10
def lowT (a b : Int) : Int := a.fdiv (Int.gcd a b)
def lowB (a b : Int) : Int := b.fdiv (Int.gcd a b)
theorem low_spec (a b : Int) (h : 0 < b) : ∃ g : Int, 0 < g ∧ a = g * lowT a b ∧ b = g * lowB a b ∧ 0 < lowB a b ∧ Int.gcd (lowT a b) (lowB a b) = 1 := by
  have hg : 0 < Int.gcd a b := Int.gcd_pos_of_ne_zero_right _ (by omega)
  have hg' : (0 : Int) < (Int.gcd a b : Nat) := by omega
  have e1 : a = (Int.gcd a b : Nat) * lowT a b := by
    rw [lowT, Int.fdiv_eq_ediv_of_nonneg _ (by omega), Int.mul_ediv_cancel' (Int.gcd_dvd_left ..)]
  have e2 : b = (Int.gcd a b : Nat) * lowB a b := by
    rw [lowB, Int.fdiv_eq_ediv_of_nonneg _ (by omega), Int.mul_ediv_cancel' (Int.gcd_dvd_right ..)]
  refine ⟨(Int.gcd a b : Nat), hg', e1, e2, ?_, ?_⟩
  · have : 0 < (Int.gcd a b : Nat) * lowB a b := by rw [← e2]; exact h
    exact Int.pos_of_mul_pos_right this (by omega) 
  · have h3 := Int.gcd_ediv_gcd_ediv_gcd hg
    rw [lowT, lowB, Int.fdiv_eq_ediv_of_nonneg _ (by omega), Int.fdiv_eq_ediv_of_nonneg _ (by omega)]
    exact h3
theorem cross_eq (p q r s : Int) (hq : 0 < q) (hs : 0 < s) (h1 : Int.gcd p q = 1) (h2 : Int.gcd r s = 1) (h : p * s = r * q) : p = r ∧ q = s := by
  have d1 : q ∣ s := by
    have h3 := (Int.dvd_gcd_mul_iff_dvd_mul (k := q) (n := p) (m := s)).2 (by rw [h]; exact Int.dvd_mul_left ..)
    rw [Int.gcd_comm, h1] at h3; simpa using h3
  have d2 : s ∣ q := by
    have h3 := (Int.dvd_gcd_mul_iff_dvd_mul (k := s) (n := r) (m := q)).2 (by rw [← h]; exact Int.dvd_mul_left ..)
    rw [Int.gcd_comm, h2] at h3; simpa using h3
  have e : q = s := Int.le_antisymm (Int.le_of_dvd hs d1) (Int.le_of_dvd hq d2)
  subst e
  exact ⟨Int.eq_of_mul_eq_mul_right (by omega) h, rfl⟩
theorem low_eq (x y u v : Int) (hy : 0 < y) (hv : 0 < v) (h : x * v = u * y) : lowT x y = lowT u v ∧ lowB x y = lowB u v := by
  obtain ⟨g, hg, e1, e2, e3, e4⟩ := low_spec x y hy
  obtain ⟨k, hk, f1, f2, f3, f4⟩ := low_spec u v hv
  generalize lowT x y = p at *
  generalize lowB x y = q at *
  generalize lowT u v = r at *
  generalize lowB u v = s at *
  apply cross_eq p q r s e3 f3 e4 f4
  subst e1 e2 f1 f2
  have h' : (g * k) * (p * s) = (g * k) * (r * q) := by
    have a1 : (g * k) * (p * s) = g * p * (k * s) := by simp only [Int.mul_assoc, Int.mul_left_comm, Int.mul_comm]
    have a2 : (g * k) * (r * q) = k * r * (g * q) := by simp only [Int.mul_assoc, Int.mul_left_comm, Int.mul_comm]
    rw [a1, a2]; exact h
  exact Int.eq_of_mul_eq_mul_left (Int.mul_ne_zero (by omega) (by omega)) h'
theorem low_self (p q : Int) (h : Int.gcd p q = 1) : lowT p q = p ∧ lowB p q = q := by
  simp only [lowT, lowB, h]; constructor <;> simp
theorem low_le (a b : Int) (h : 0 < b) : lowB a b ≤ b := by
  obtain ⟨g, hg, _, e2, e3, _⟩ := low_spec a b h
  have : 1 * lowB a b ≤ g * lowB a b := Int.mul_le_mul_of_nonneg_right (by omega) (by omega)
  omega
theorem low_abs (a b : Int) (h : 0 < b) : (lowT a b).natAbs ≤ a.natAbs := by
  obtain ⟨g, hg, e1, _, _, _⟩ := low_spec a b h
  have : a.natAbs = g.natAbs * (lowT a b).natAbs := by rw [← Int.natAbs_mul, ← e1]
  rw [this]
  exact Nat.le_mul_of_pos_left _ (by omega)
/-- a fraction made of a, b is less than 1 over: twice as great is not in lowest terms -/
theorem low_twice (a b : Int) (h : 0 < b) : (lowB (a * 2) (b * 2) == b * 2) = false := by
  have h1 := low_eq (a * 2) (b * 2) a b (by omega) h (by rw [Int.mul_assoc, Int.mul_comm 2 b])
  rw [h1.2]
  have := low_le a b h
  apply beq_false_of_ne; omega
theorem fdiv_scale (g p q : Int) (hg : 0 < g) (hq : 0 < q) : (g * p).fdiv (g * q) = p.fdiv q := by
  have h1 : 0 ≤ g * q := Int.mul_nonneg (by omega) (by omega)
  have h2 : 0 ≤ q := by omega
  rw [Int.fdiv_eq_ediv_of_nonneg _ h1, Int.fdiv_eq_ediv_of_nonneg _ h2, Int.mul_ediv_mul_of_pos _ _ hg]
theorem fdiv_iff (k a b : Int) (h : 0 < b) : k * b ≤ a ↔ k ≤ a.fdiv b := by
  rw [Int.fdiv_eq_ediv_of_nonneg _ (by omega)]
  exact (Int.le_ediv_iff_mul_le h).symm
end K10
end

section
namespace K10
abbrev Fr := Int × Int
def leF (x y : Fr) : Prop := x.1 * y.2 ≤ y.1 * x.2
def ltF (x y : Fr) : Bool := decide (x.1 * y.2 < y.1 * x.2)
theorem ltF_not (x y : Fr) : ltF x y = false ↔ leF y x := by
  simp only [ltF, leF, decide_eq_false_iff_not, Int.not_lt]
theorem leF_total (x y : Fr) : leF x y ∨ leF y x := by simp only [leF]; omega
theorem leF_refl (x : Fr) : leF x x := Int.le_refl _
theorem leF_trans {x y z : Fr} (hx : 0 < x.2) (hy : 0 < y.2) (hz : 0 < z.2) (h1 : leF x y) (h2 : leF y z) : leF x z := by
  simp only [leF] at *
  have a : x.1 * y.2 * z.2 ≤ y.1 * x.2 * z.2 := Int.mul_le_mul_of_nonneg_right h1 (by omega)
  have b : y.1 * z.2 * x.2 ≤ z.1 * y.2 * x.2 := Int.mul_le_mul_of_nonneg_right h2 (by omega)
  have c : (x.1 * z.2) * y.2 ≤ (z.1 * x.2) * y.2 := by
    have e1 : (x.1 * z.2) * y.2 = x.1 * y.2 * z.2 := by simp only [Int.mul_assoc, Int.mul_comm z.2]
    have e2 : (z.1 * x.2) * y.2 = z.1 * y.2 * x.2 := by simp only [Int.mul_assoc, Int.mul_comm x.2]
    have e3 : y.1 * x.2 * z.2 = y.1 * z.2 * x.2 := by simp only [Int.mul_assoc, Int.mul_comm x.2]
    rw [e1, e2]; rw [e3] at a; exact Int.le_trans a b
  exact Int.le_of_mul_le_mul_right c hy
theorem not_ltF_of_le {x y : Fr} (h : leF y x) : ltF x y = false := (ltF_not x y).2 h
def place (xs : List Fr) (one : Fr) : Nat := xs.countP (fun o => !ltF one o)
def insF (xs : List Fr) (one : Fr) : List Fr := xs.take (place xs one) ++ [one] ++ xs.drop (place xs one)
theorem insF_perm (xs : List Fr) (one : Fr) : (insF xs one).Perm (one :: xs) := by
  have h : (xs.take (place xs one) ++ xs.drop (place xs one)) = xs := List.take_append_drop ..
  rw [insF, List.append_assoc]
  refine List.Perm.trans List.perm_middle ?_
  show (one :: (xs.take (place xs one) ++ xs.drop (place xs one))).Perm _
  rw [h]
abbrev Pos (xs : List Fr) : Prop := ∀ x ∈ xs, 0 < x.2
theorem insF_cons_le {y : Fr} {ys : List Fr} {one : Fr} (h : leF y one) : insF (y :: ys) one = y :: insF ys one := by
  have e : (!ltF one y) = true := by rw [not_ltF_of_le h]; rfl
  simp only [insF, place, List.countP_cons, e, if_true, List.take_succ_cons, List.drop_succ_cons, List.cons_append]
theorem insF_cons_gt {y : Fr} {ys : List Fr} {one : Fr} (h1 : 0 < one.2) (hp : Pos (y :: ys)) (hs : List.Pairwise leF (y :: ys)) (h : ltF one y = true) : insF (y :: ys) one = one :: y :: ys := by
  have hlt : ∀ o ∈ y :: ys, (!ltF one o) = false := by
    intro o ho
    cases hq : ltF one o with
    | true => rfl
    | false =>
      have a := (ltF_not _ _).1 hq
      have b : leF y o := by
        rcases List.mem_cons.1 ho with e | e
        · rw [e]; exact leF_refl _
        · exact (List.pairwise_cons.1 hs).1 _ e
      have c : leF y one := leF_trans (hp _ (List.mem_cons_self ..)) (hp _ ho) h1 b a
      rw [not_ltF_of_le c] at h; cases h
  have : place (y :: ys) one = 0 := by
    rw [place, List.countP_eq_zero]; intro o ho; rw [hlt o ho]; simp
  simp only [insF, this, List.take_zero, List.drop_zero, List.nil_append, List.singleton_append]
theorem insF_sorted (one : Fr) (h1 : 0 < one.2) : ∀ xs : List Fr, Pos xs → List.Pairwise leF xs → List.Pairwise leF (insF xs one)
  | [], _, _ => by simp [insF, place]
  | y :: ys, hp, hs => by
    by_cases h : ltF one y = true
    · rw [insF_cons_gt h1 hp hs h]
      have hoy : leF one y := by
        have := of_decide_eq_true h
        exact Int.le_of_lt this
      refine List.pairwise_cons.2 ⟨?_, hs⟩
      intro o ho
      rcases List.mem_cons.1 ho with e | e
      · rw [e]; exact hoy
      · exact leF_trans h1 (hp _ (List.mem_cons_self ..)) (hp _ ho) hoy ((List.pairwise_cons.1 hs).1 _ e)
    · have hle : leF y one := (ltF_not _ _).1 (by simpa using h)
      rw [insF_cons_le hle]
      refine List.pairwise_cons.2 ⟨?_, insF_sorted one h1 ys (fun x hx => hp x (List.mem_cons_of_mem _ hx)) (List.pairwise_cons.1 hs).2⟩
      intro o ho
      have := (insF_perm ys one).mem_iff.1 ho
      rcases List.mem_cons.1 this with e | e
      · rw [e]; exact hle
      · exact (List.pairwise_cons.1 hs).1 _ e
def sortF : List Fr → List Fr → List Fr
  | acc, [] => acc
  | acc, x :: xs => sortF (insF acc x) xs
theorem sortF_perm : ∀ (xs acc : List Fr), (sortF acc xs).Perm (acc ++ xs)
  | [], acc => by simp [sortF]
  | x :: xs, acc => by
    refine (sortF_perm xs (insF acc x)).trans ?_
    refine ((insF_perm acc x).append_right xs).trans ?_
    exact List.perm_middle.symm
theorem sortF_sorted : ∀ (xs acc : List Fr), Pos xs → Pos acc → List.Pairwise leF acc → List.Pairwise leF (sortF acc xs)
  | [], _, _, _, h => h
  | x :: xs, acc, hx, ha, h => by
    refine sortF_sorted xs (insF acc x) (fun y hy => hx y (List.mem_cons_of_mem _ hy)) ?_ (insF_sorted x (hx x (List.mem_cons_self ..)) acc ha h)
    intro y hy
    rcases List.mem_cons.1 ((insF_perm acc x).mem_iff.1 hy) with e | e
    · rw [e]; exact hx x (List.mem_cons_self ..)
    · exact ha y e
/-- in a sorted row: as many as stand ahead of place k are less, at most -/
theorem below_le (L : List Fr) (m : Fr) (k : Nat) (hp : Pos L) (hm : 0 < m.2) (hs : List.Pairwise leF L) (x : Fr) (hx : L[k]? = some x) (h : leF m x) : L.countP (fun o => ltF o m) ≤ k := by
  have hk : k < L.length := by
    rcases Nat.lt_or_ge k L.length with h' | h'
    · exact h'
    · rw [List.getElem?_eq_none h'] at hx; cases hx
  have e : L.countP (fun o => ltF o m) = (L.take k).countP (fun o => ltF o m) + (L.drop k).countP (fun o => ltF o m) := by
    rw [← List.countP_append, List.take_append_drop]
  have e2 : (L.drop k).countP (fun o => ltF o m) = 0 := by
    rw [List.countP_eq_zero]
    intro o ho
    have hL : L.drop k = L[k] :: L.drop (k + 1) := List.drop_eq_getElem_cons hk
    have hxk : L[k] = x := by rw [List.getElem?_eq_getElem hk] at hx; exact Option.some.inj hx
    have hsd : List.Pairwise leF (L.drop k) := hs.sublist (List.drop_sublist ..)
    have hox : leF x o := by
      rw [hL, hxk] at ho hsd
      rcases List.mem_cons.1 ho with e | e
      · rw [e]; exact leF_refl _
      · exact (List.pairwise_cons.1 hsd).1 _ e
    have : leF m o := leF_trans hm (hp x (hxk ▸ List.getElem_mem hk)) (hp o (List.mem_of_mem_drop ho)) h hox
    rw [not_ltF_of_le this]; exact Bool.false_ne_true
  rw [e, e2]
  have := List.countP_le_length (p := fun o => ltF o m) (l := L.take k)
  rw [List.length_take] at this
  omega
theorem above_le (L : List Fr) (m : Fr) (k : Nat) (hp : Pos L) (hm : 0 < m.2) (hs : List.Pairwise leF L) (x : Fr) (hx : L[k]? = some x) (h : leF x m) : L.countP (fun o => ltF m o) + (k + 1) ≤ L.length := by
  have hk : k < L.length := by
    rcases Nat.lt_or_ge k L.length with h' | h'
    · exact h'
    · rw [List.getElem?_eq_none h'] at hx; cases hx
  have hxk : L[k] = x := by rw [List.getElem?_eq_getElem hk] at hx; exact Option.some.inj hx
  have e : L.countP (fun o => ltF m o) = (L.take (k + 1)).countP (fun o => ltF m o) + (L.drop (k + 1)).countP (fun o => ltF m o) := by
    rw [← List.countP_append, List.take_append_drop]
  have e2 : (L.take (k + 1)).countP (fun o => ltF m o) = 0 := by
    rw [List.countP_eq_zero]
    intro o ho
    have hst : List.Pairwise leF (L.take (k + 1)) := hs.sublist (List.take_sublist ..)
    rw [List.take_succ_eq_append_getElem hk, hxk] at ho hst
    have hox : leF o x := by
      rcases List.mem_append.1 ho with e | e
      · exact (List.pairwise_append.1 hst).2.2 _ e _ (List.mem_singleton.2 rfl)
      · rw [List.mem_singleton.1 e]; exact leF_refl _
    have hoL : o ∈ L := by
      rcases List.mem_append.1 ho with e | e
      · exact List.mem_of_mem_take e
      · rw [List.mem_singleton.1 e, ← hxk]; exact List.getElem_mem hk
    have : leF o m := leF_trans (hp o hoL) (hp x (hxk ▸ List.getElem_mem hk)) hm hox h
    rw [not_ltF_of_le this]; exact Bool.false_ne_true
  rw [e, e2]
  have := List.countP_le_length (p := fun o => ltF m o) (l := L.drop (k + 1))
  rw [List.length_drop] at this
  omega
/-- half of two fractions lies between them -/
def midF (x y : Fr) : Fr :=
  let s := lowT (x.1 * y.2 + y.1 * x.2) (x.2 * y.2)
  let t := lowB (x.1 * y.2 + y.1 * x.2) (x.2 * y.2)
  (lowT (s * 1) (t * 2), lowB (s * 1) (t * 2))
theorem midF_spec (x y : Fr) (hx : 0 < x.2) (hy : 0 < y.2) : 0 < (midF x y).2 ∧ Int.gcd (midF x y).1 (midF x y).2 = 1 ∧ (midF x y).1 * (2 * (x.2 * y.2)) = (x.1 * y.2 + y.1 * x.2) * (midF x y).2 := by
  have h0 : 0 < x.2 * y.2 := Int.mul_pos hx hy
  simp only [midF]
  obtain ⟨g, hg, e1, e2, e3, e4⟩ := low_spec (x.1 * y.2 + y.1 * x.2) (x.2 * y.2) h0
  generalize lowT (x.1 * y.2 + y.1 * x.2) (x.2 * y.2) = s at *
  generalize lowB (x.1 * y.2 + y.1 * x.2) (x.2 * y.2) = t at *
  obtain ⟨k, hk, f1, f2, f3, f4⟩ := low_spec (s * 1) (t * 2) (by omega)
  generalize lowT (s * 1) (t * 2) = p at *
  generalize lowB (s * 1) (t * 2) = q at *
  refine ⟨f3, f4, ?_⟩
  rw [e1, e2]
  have a : p * (2 * (g * t)) = (g * p) * (t * 2) := by simp only [Int.mul_assoc, Int.mul_left_comm, Int.mul_comm]
  have b : g * s * q = (g * q) * (s * 1) := by simp only [Int.mul_assoc, Int.mul_left_comm, Int.mul_comm, Int.mul_one]
  rw [a, b, f2, f1]; simp only [Int.mul_assoc, Int.mul_left_comm, Int.mul_comm]
theorem mid_ge (x y : Fr) (hx : 0 < x.2) (hy : 0 < y.2) (h : leF x y) : leF x (midF x y) ∧ leF (midF x y) y := by
  obtain ⟨h1, _, h3⟩ := midF_spec x y hx hy
  generalize midF x y = m at *
  obtain ⟨x1, x2⟩ := x
  obtain ⟨y1, y2⟩ := y
  obtain ⟨m1, m2⟩ := m
  simp only [leF] at *
  constructor
  · have a : (x1 * m2) * (2 * y2) ≤ (m1 * x2) * (2 * y2) := by
      have e1 : (m1 * x2) * (2 * y2) = m1 * (2 * (x2 * y2)) := by simp only [Int.mul_assoc, Int.mul_left_comm, Int.mul_comm]
      have e2 : (x1 * m2) * (2 * y2) = (x1 * y2 + x1 * y2) * m2 := by rw [← Int.two_mul]; simp only [Int.mul_assoc, Int.mul_left_comm, Int.mul_comm]
      rw [e1, h3, e2]
      exact Int.mul_le_mul_of_nonneg_right (by omega) (by omega)
    exact Int.le_of_mul_le_mul_right a (by omega)
  · have a : (m1 * y2) * (2 * x2) ≤ (y1 * m2) * (2 * x2) := by
      have e1 : (m1 * y2) * (2 * x2) = m1 * (2 * (x2 * y2)) := by simp only [Int.mul_assoc, Int.mul_left_comm, Int.mul_comm]
      have e2 : (y1 * m2) * (2 * x2) = (y1 * x2 + y1 * x2) * m2 := by rw [← Int.two_mul]; simp only [Int.mul_assoc, Int.mul_left_comm, Int.mul_comm]
      rw [e1, h3, e2]
      exact Int.mul_le_mul_of_nonneg_right (by omega) (by omega)
    exact Int.le_of_mul_le_mul_right a (by omega)
theorem mid_same (x : Fr) (hx : 0 < x.2) (hg : Int.gcd x.1 x.2 = 1) : midF x x = x := by
  obtain ⟨h1, h2, h3⟩ := midF_spec x x hx hx
  generalize midF x x = m at *
  have h : m.1 * x.2 = x.1 * m.2 := by
    have a : (m.1 * x.2) * (2 * x.2) = (x.1 * m.2) * (2 * x.2) := by
      have e1 : (m.1 * x.2) * (2 * x.2) = m.1 * (2 * (x.2 * x.2)) := by simp only [Int.mul_assoc, Int.mul_left_comm, Int.mul_comm]
      have e2 : (x.1 * m.2) * (2 * x.2) = (x.1 * x.2 + x.1 * x.2) * m.2 := by rw [← Int.two_mul]; simp only [Int.mul_assoc, Int.mul_left_comm, Int.mul_comm]
      rw [e1, h3, e2]
    exact Int.eq_of_mul_eq_mul_right (by omega) a
  obtain ⟨a, b⟩ := cross_eq m.1 m.2 x.1 x.2 h1 hx h2 hg h
  exact Prod.ext a b
/-- the middle of a row: what the law asks of it -/
theorem middle_law (rows L : List Fr) (hperm : L.Perm rows) (hs : List.Pairwise leF L) (hp : ∀ x ∈ rows, 0 < x.2 ∧ Int.gcd x.1 x.2 = 1) (x y : Fr) (hx : L[(rows.length - 1) / 2]? = some x) (hy : L[rows.length / 2]? = some y) (hn : 0 < rows.length) :
    2 * rows.countP (fun o => ltF o (midF x y)) ≤ rows.length ∧ 2 * rows.countP (fun o => ltF (midF x y) o) ≤ rows.length ∧ (rows.length % 2 = 1 → midF x y ∈ rows) := by
  have hpL : Pos L := fun z hz => (hp z (hperm.mem_iff.1 hz)).1
  have hlen : L.length = rows.length := hperm.length_eq
  have mx : x ∈ L := List.mem_of_getElem? hx
  have my : y ∈ L := List.mem_of_getElem? hy
  have hxy : leF x y := by
    rcases Nat.lt_or_ge ((rows.length - 1) / 2) (rows.length / 2) with h | h
    · rw [List.getElem?_eq_getElem (by omega)] at hx hy
      have := (List.pairwise_iff_getElem.1 hs) _ _ (by omega) (by omega) h
      rw [Option.some.inj hx, Option.some.inj hy] at this; exact this
    · have : (rows.length - 1) / 2 = rows.length / 2 := by omega
      rw [this, hy] at hx; rw [Option.some.inj hx]; exact leF_refl _
  obtain ⟨b1, b2⟩ := mid_ge x y (hpL x mx) (hpL y my) hxy
  have hm : 0 < (midF x y).2 := (midF_spec x y (hpL x mx) (hpL y my)).1
  refine ⟨?_, ?_, ?_⟩
  · have := below_le L _ _ hpL hm hs y hy b2
    rw [hperm.countP_eq] at this; omega
  · have := above_le L _ _ hpL hm hs x hx b1
    rw [hperm.countP_eq, hlen] at this; omega
  · intro ho
    have : (rows.length - 1) / 2 = rows.length / 2 := by omega
    rw [this, hy] at hx
    have e : y = x := Option.some.inj hx
    rw [e] at *
    rw [mid_same x (hpL x mx) (hp x (hperm.mem_iff.1 mx)).2]; exact hperm.mem_iff.1 mx
end K10
end

section
set_option maxRecDepth 100000
/-! PureK10b: want_fraction, total, median -/
namespace K10
open LW
theorem mulL (i j : Int) (h : -1000000000000 < i) (h2 : i < 1000000000000) : mulOk i j = true := by
  have : decide (-M64 < i ∧ i < M64) = true := decide_eq_true ⟨by show -18446744073709551616 < i; omega, by show i < 18446744073709551616; omega⟩
  simp only [mulOk, this, Bool.true_or]
theorem mulR (i j : Int) (h : -1000000000000 < j) (h2 : j < 1000000000000) : mulOk i j = true := by
  have : decide (-M64 < j ∧ j < M64) = true := decide_eq_true ⟨by show -18446744073709551616 < j; omega, by show j < 18446744073709551616; omega⟩
  simp only [mulOk, this, Bool.or_true]
abbrev frP (p : Fr) : D := fr p.1 p.2
abbrev low (a b : Int) : D := fr (lowT a b) (lowB a b)
theorem reduced_low (w n : Nat) (a b : Int) (h0 : 0 < b) (h1 : b < w) (h2 : b < 1073741824) : sem prog w (n + 1) 2 [.int a, .int b] = .ret (low a b) none :=
  reduced_ok w n a b h0 (by omega) (by omega)
theorem low_low (w n : Nat) (a b : Int) (h0 : 0 < b) (h2 : b < 1073741824) : sem prog w (n + 1) 18 [.int a, .int b] = .ret (low a b) none :=
  low_ok w n a b h0 (by omega)
/-- a fraction in lowest terms with a bottom that is not great -/
structure Ok (x : Fr) : Prop where
  pos : 0 < x.2
  gcd : Int.gcd x.1 x.2 = 1
  b60 : x.2 ≤ 60
  t60 : x.1.natAbs ≤ 60
theorem frac_true (w n : Nat) (x : Fr) (h : Ok x) (hw : 100 < w) : sem prog w (n + 2) 3 [frP x] = .ret (.bl true) none := by
  have := h.pos; have := h.b60
  rw [frac_ok w n x.1 x.2 h.pos (by omega) (by omega)]
  have e := low_self x.1 x.2 h.gcd
  show CR.ret (.bl ((lowT x.1 x.2 == x.1) && (lowB x.1 x.2 == x.2))) none = _
  rw [e.1, e.2, beq_self_eq_true, beq_self_eq_true]; rfl
theorem io3 : prog.io 3 = false := rfl
theorem io5 : prog.io 5 = false := rfl
theorem io7 : prog.io 7 = false := rfl
theorem io9 : prog.io 9 = false := rfl
theorem want_true (w n : Nat) (x : Fr) (h : Ok x) (hw : 100 < w) : sem prog w (n + 3) 4 [.lst [.int x.1, .int x.2]] = .ret (frP x) none := by
  have h3 : sem prog w (n + 2) 3 [.lst [.int x.1, .int x.2]] = .ret (.bl true) none := by
    have := h.pos; have := h.b60
    rw [sem_one _ _ _ _ _ rfl]
    rw [show startE (prog.nslots 3) [.lst [.int x.1, .int x.2]] = [some (.lst [.int x.1, .int x.2])] from rfl, show prog.body 3 = b_is_fraction from rfl, show prog.io 3 = false from rfl]
    have hlen : biD .len [.lst [.int x.1, .int x.2]] = some (.int 2) := rfl
    have hi0 : idxD (.lst [.int x.1, .int x.2]) (.int 0) = some (.int x.1) := rfl
    have hi1 : idxD (.lst [.int x.1, .int x.2]) (.int 1) = some (.int x.2) := rfl
    have hb : decide (x.2 < 1) = false := decide_eq_false (by omega)
    have hr : sem prog w (n + 1) 1 [.lst [.int x.1, .int x.2]] = .ret (.bl true) none := rfl
    have e := low_self x.1 x.2 h.gcd
    have h22 : ((2 : Int) == 2) = true := rfl
    simp -implicitDefEqProofs only [↓ev_comp, stpC_v, stepF_v, List.set, evConds, ev, evs, evAs, lateAs, evAnd, evOr, evIt, exs, ↓ex_for, ↓ex_whl, ex, getV, rdS, rdI, rdB, rdT, rdL, rdR, rdN, rdZ, bok, sok, ofS, nxB, reB, exB, exS, exR, late, liftO, isIo, ofCall, hasB, ioBack, Bool.false_and, Bool.false_eq_true, if_false, beq_self_eq_true, if_true, ite_true, trB, Bool.not_true, Bool.not_false, finR, finE, finT, opR, idx2_0, idx2_1, addI, subI, ltII, gtII, leI, geI, eqI, neI, intI, lend, unlend, back, tgIds, parC, parN, stV, stT, stsN, stsV, stsT, b_is_fraction, hi0, hi1, io0, io1, io2, is_whole_int, hr, hlen, hb, reduced_low w n x.1 x.2 h.pos (by omega) (by omega), mkT2, eqP, e.1, e.2, Bool.and_self]
  rw [sem_one _ _ _ _ _ rfl]
  rw [show startE (prog.nslots 4) [.lst [.int x.1, .int x.2]] = [some (.lst [.int x.1, .int x.2])] from rfl, show prog.body 4 = b_want_fraction from rfl, show prog.io 4 = false from rfl]
  have ht : biD .tuple [.lst [.int x.1, .int x.2]] = some (frP x) := rfl
  simp -implicitDefEqProofs only [↓ev_comp, stpC_v, stepF_v, List.set, evConds, ev, evs, evAs, lateAs, evAnd, evOr, evIt, exs, ↓ex_for, ↓ex_whl, ex, getV, rdS, rdI, rdB, rdT, rdL, rdR, rdN, rdZ, bok, sok, ofS, nxB, reB, exB, exS, exR, late, liftO, isIo, ofCall, hasB, ioBack, Bool.false_and, Bool.false_eq_true, if_false, beq_self_eq_true, if_true, ite_true, trB, Bool.not_true, Bool.not_false, finR, finE, finT, opR, idx2_0, idx2_1, addI, subI, ltII, gtII, leI, geI, eqI, neI, intI, lend, unlend, back, tgIds, parC, parN, stV, stT, stsN, stsV, stsT, b_want_fraction, h3, io3, ht]
theorem want_bad (w n : Nat) (v : D) (hv : ∀ r, rd (some v :: r) 0 = some v) (h : sem prog w n 3 [v] = .ret (.bl false) none) : sem prog w (n + 1) 4 [v] = .ex 4 [v] none := by
  rw [sem_one _ _ _ _ _ rfl]
  rw [show startE (prog.nslots 4) [v] = [some v] from rfl, show prog.body 4 = b_want_fraction from rfl, show prog.io 4 = false from rfl]
  simp -implicitDefEqProofs only [↓ev_comp, stpC_v, stepF_v, List.set, evConds, ev, evs, evAs, lateAs, evAnd, evOr, evIt, exs, ↓ex_for, ↓ex_whl, ex, getV, rdS, rdI, rdB, rdT, rdL, rdR, rdN, rdZ, bok, sok, ofS, nxB, reB, exB, exS, exR, late, liftO, isIo, ofCall, hasB, ioBack, Bool.false_and, Bool.false_eq_true, if_false, beq_self_eq_true, if_true, ite_true, trB, Bool.not_true, Bool.not_false, finR, finE, finT, opR, idx2_0, idx2_1, addI, subI, ltII, gtII, leI, geI, eqI, neI, intI, lend, unlend, back, tgIds, parC, parN, stV, stT, stsN, stsV, stsT, b_want_fraction, h, hv, io3, R.sr, SR.bind]
def sumF (s x : Fr) : Fr := (lowT (s.1 * x.2 + x.1 * s.2) (s.2 * x.2), lowB (s.1 * x.2 + x.1 * s.2) (s.2 * x.2))
theorem plus_low (w n : Nat) (s x : Fr) (hs : 0 < s.2) (hx : 0 < x.2) (hx1 : x.2 < 100000) (ht : x.1.natAbs < 100000) (h : s.2 * x.2 ≤ 50000000) (hs1 : s.2 ≤ 50000000) (hw : 50000000 < w) :
    sem prog w (n + 2) 5 [frP s, frP x] = .ret (frP (sumF s x)) none := by
  have hp : 0 < s.2 * x.2 := Int.mul_pos hs hx
  exact plus_ok w (n + 1) s.1 s.2 x.1 x.2 (mulR _ _ (by omega) (by omega)) (mulR _ _ (by omega) (by omega)) (mulR _ _ (by omega) (by omega)) _ (reduced_low w n _ _ hp (by omega) (by omega))
def prodB : List Fr → Int
  | [] => 1
  | x :: r => x.2 * prodB r
theorem prodB_pos : ∀ xs : List Fr, (∀ x ∈ xs, 0 < x.2) → 0 < prodB xs
  | [], _ => by decide
  | x :: r, h => Int.mul_pos (h x (List.mem_cons_self ..)) (prodB_pos r fun y hy => h y (List.mem_cons_of_mem _ hy))
theorem loopF_rem {α σ : Type} (step : D → Env → SR) (Inv : List α → σ → Env → Prop) (em : α → D) (g : σ → α → σ)
    (h : ∀ x xs s r, Inv (x :: xs) s r → ∃ r', Inv xs (g s x) r' ∧ step (em x) r = .nx r') : ∀ (xs : List α) (s : σ) (r : Env), Inv xs s r →
    ∃ r', Inv [] (xs.foldl g s) r' ∧ loopF step (xs.map em) r = .nx r'
  | [], s, r, hI => ⟨r, hI, rfl⟩
  | x :: xs, s, r, hI => by
    obtain ⟨r1, hI1, h1⟩ := h x xs s r hI
    obtain ⟨r2, hI2, h2⟩ := loopF_rem step Inv em g h xs (g s x) r1 hI1
    exact ⟨r2, hI2, by rw [List.map_cons, loopF_c _ _ _ _ _ h1, h2]⟩
/-- what a fold of sums keeps -/
structure SumOk (rem : List Fr) (s : Fr) : Prop where
  pos : 0 < s.2
  all : ∀ x ∈ rem, Ok x
  lim : s.2 * prodB rem ≤ 50000000
theorem SumOk.step {x : Fr} {rem : List Fr} {s : Fr} (h : SumOk (x :: rem) s) : SumOk rem (sumF s x) ∧ s.2 * x.2 ≤ 50000000 ∧ s.2 ≤ 50000000 := by
  have hx := h.all x (List.mem_cons_self ..)
  have hp := hx.pos
  have hs := h.pos
  have hpos : 0 < s.2 * x.2 := Int.mul_pos hs hp
  have hP : 0 < prodB rem := prodB_pos rem fun y hy => (h.all y (List.mem_cons_of_mem _ hy)).pos
  have hl : s.2 * (x.2 * prodB rem) ≤ 50000000 := h.lim
  rw [← Int.mul_assoc] at hl
  have h1 : s.2 * x.2 * 1 ≤ s.2 * x.2 * prodB rem := Int.mul_le_mul_of_nonneg_left (by omega) (by omega)
  have h2 : s.2 * 1 ≤ s.2 * x.2 := Int.mul_le_mul_of_nonneg_left (by omega) (by omega)
  obtain ⟨g, hg, e1, e2, e3, e4⟩ := low_spec (s.1 * x.2 + x.1 * s.2) (s.2 * x.2) hpos
  have h3 := low_le (s.1 * x.2 + x.1 * s.2) (s.2 * x.2) hpos
  refine ⟨⟨e3, fun y hy => h.all y (List.mem_cons_of_mem _ hy), ?_⟩, by omega, by omega⟩
  have h4 : lowB (s.1 * x.2 + x.1 * s.2) (s.2 * x.2) * prodB rem ≤ s.2 * x.2 * prodB rem := Int.mul_le_mul_of_nonneg_right h3 (by omega)
  show lowB (s.1 * x.2 + x.1 * s.2) (s.2 * x.2) * prodB rem ≤ _
  omega
theorem iterL (xs : List D) : iterOf (.lst xs) = some xs := rfl
theorem iterT (xs : List D) : iterOf (.tup xs) = some xs := rfl
theorem total_ok (w n : Nat) (ps : List Fr) (h : SumOk ps (0, 1)) (hw : 50000000 < w) : sem prog w (n + 3) 13 [.lst (ps.map frP)] = .ret (frP (ps.foldl sumF (0, 1))) none := by
  rw [sem_one _ _ _ _ _ rfl]
  rw [show startE (prog.nslots 13) [.lst (ps.map frP)] = [some (.lst (ps.map frP)), none, none] from rfl, show prog.body 13 = b_total from rfl, show prog.io 13 = false from rfl]
  obtain ⟨r, ⟨⟨z, hr⟩, _⟩, hl⟩ := loopF_rem (stepF prog (sem prog w (n + 2)) w (.v 2) (.cons (.set 1 (.call 5 (.cons .s (.var 1) (.cons .s (.var 2) .nil)))) .nil))
    (fun rem s r => (∃ z, r = [some (.lst (ps.map frP)), some (frP s), z]) ∧ SumOk rem s) frP sumF (by
      rintro x xs s r ⟨⟨z, rfl⟩, hI⟩
      obtain ⟨h1, h2, h3⟩ := hI.step
      have hx := hI.all x (List.mem_cons_self ..)
      have hx1 := hx.b60; have hx2 := hx.t60
      refine ⟨_, ⟨⟨some (frP x), rfl⟩, h1⟩, ?_⟩
      simp -implicitDefEqProofs only [↓ev_comp, stpC_v, stepF_v, List.set, evConds, ev, evs, evAs, lateAs, evAnd, evOr, evIt, exs, ↓ex_for, ↓ex_whl, ex, getV, rdS, rdI, rdB, rdT, rdL, rdR, rdN, rdZ, bok, sok, ofS, nxB, reB, exB, exS, exR, late, liftO, isIo, ofCall, hasB, ioBack, Bool.false_and, Bool.false_eq_true, if_false, beq_self_eq_true, if_true, ite_true, trB, Bool.not_true, Bool.not_false, finR, finE, finT, opR, idx2_0, idx2_1, addI, subI, ltII, gtII, leI, geI, eqI, neI, intI, lend, unlend, back, tgIds, parC, parN, stV, stT, stsN, stsV, stsT, plus_low w n s x hI.pos hx.pos (by omega) (by omega) h2 h3 hw, io5]) ps (0, 1) [some (.lst (ps.map frP)), some (frP (0, 1)), none] ⟨⟨none, rfl⟩, h⟩
  rw [hr] at hl
  simp -implicitDefEqProofs only [↓ev_comp, stpC_v, stepF_v, List.set, evConds, ev, evs, evAs, lateAs, evAnd, evOr, evIt, exs, ↓ex_for, ↓ex_whl, ex, getV, rdS, rdI, rdB, rdT, rdL, rdR, rdN, rdZ, bok, sok, ofS, nxB, reB, exB, exS, exR, late, liftO, isIo, ofCall, hasB, ioBack, Bool.false_and, Bool.false_eq_true, if_false, beq_self_eq_true, if_true, ite_true, trB, Bool.not_true, Bool.not_false, finR, finE, finT, opR, idx2_0, idx2_1, addI, subI, ltII, gtII, leI, geI, eqI, neI, intI, lend, unlend, back, tgIds, parC, parN, stV, stT, stsN, stsV, stsT, b_total, mkT2, iterL, hl]
theorem mkL1 (x : D) : mkL [x] = some (.lst [x]) := rfl
theorem idxL0 (x : D) (xs : List D) : idxD (.lst (x :: xs)) (.int 0) = some x := by
  show (if small 0 then atI (x :: xs) 0 else none) = _
  rw [if_pos (show small 0 = true from rfl), atI]
  have : ixN (x :: xs).length 0 = some 0 := by simp only [ixN, List.length_cons]; rw [if_pos (by omega), if_pos (by omega)]; rfl
  rw [this]; rfl
theorem slcD1 (x : D) (xs : List D) : slcD (.lst (x :: xs)) (some (.int 1)) none = some (.lst xs) := by
  show some (D.lst (cut (x :: xs) (some 1) none)) = _
  simp only [cut, partI, clampI, List.length_cons]
  rw [if_neg (by decide)]
  have : min (1 : Int).toNat (xs.length + 1) = 1 := by show min 1 _ = 1; omega
  rw [this]
  simp only [List.drop_succ_cons, List.drop_zero, Nat.add_sub_cancel, List.take_length]
theorem less_ok (w n : Nat) (x y : Fr) (hx : Ok x) (hy : Ok y) : sem prog w (n + 1) 9 [frP x, frP y] = .ret (.bl (ltF x y)) none := by
  have := hx.pos; have := hx.b60; have := hy.pos; have := hy.b60
  exact is_less_ok w n x.1 x.2 y.1 y.2 (mulR _ _ (by omega) (by omega)) (mulR _ _ (by omega) (by omega))
theorem filterMap_len {α β : Type} (p : α → Bool) (f : α → β) : ∀ xs : List α, (xs.filterMap fun x => if p x then some (f x) else none).length = xs.countP p
  | [] => rfl
  | x :: xs => by
    cases h : p x with
    | true => simp only [List.filterMap_cons, h, if_true, List.length_cons, filterMap_len p f xs, List.countP_cons]
    | false => simp only [List.filterMap_cons, h, Bool.false_eq_true, if_false, filterMap_len p f xs, List.countP_cons, Nat.add_zero]
theorem mut_ins (xs : List D) (i : Int) (x : D) : mutD .insert (.lst xs) [.int i, x] = if small i && decide (0 ≤ i) && LW.lim (xs ++ [x]) then some (.lst (xs.take i.toNat ++ [x] ++ xs.drop i.toNat), .non) else none := rfl
theorem ins_fr (acc : List Fr) (one : Fr) (h : acc.length ≤ 1000) : mutD .insert (.lst (acc.map frP)) [.int (place acc one : Nat), frP one] = some (.lst ((insF acc one).map frP), .non) := by
  have hk : place acc one ≤ acc.length := List.countP_le_length
  have h1 : small ((place acc one : Nat) : Int) = true := smallI _ (by omega) (by omega)
  have h2 : decide ((0 : Int) ≤ (place acc one : Nat)) = true := decide_eq_true (by omega)
  have h3 : LW.lim (acc.map frP ++ [frP one]) = true := lim_of _ (by simp; omega)
  rw [mut_ins, h1, h2, h3]
  simp only [Bool.and_self, if_true, insF, List.map_append, List.map_take, List.map_drop, List.map_cons, List.map_nil, Int.toNat_natCast]
theorem isLL (xs : List D) : isLst (.lst xs) = true := rfl
theorem quE (α : Type) (a : α) (r : Env) : R.quiet (.ok a r) = .ok a r := rfl
theorem median_comp (w n : Nat) (rows : D) (hr : rd [some rows] 0 = some rows) (acc : List Fr) (one : Fr) (h1 : Ok one) (ha : ∀ x ∈ acc, Ok x) (hl : acc.length ≤ 1000) (z3 : Option D) :
    ev prog (sem prog w (n + 1)) (.comp (.var 4) (.v 4) (.e (.bor 1)) (.cons (.not (.call 9 (.cons .s (.var 2) (.cons .s (.var 4) .nil)))) .nil)) [some rows, some (.lst (acc.map frP)), some (frP one), z3, none, none, none] =
      .ok (.lst (acc.filterMap fun o => if !ltF one o then some (frP o) else none)) [some rows, some (.lst (acc.map frP)), some (frP one), z3, none, none, none] := by
  have hr' : ∀ r, rd (some rows :: r) 0 = some rows := fun r => hr
  obtain ⟨r', ⟨z, hz⟩, h⟩ := loopC_inv (stpC prog (sem prog w (n + 1)) (.v 4) (.var 4) (.cons (.not (.call 9 (.cons .s (.var 2) (.cons .s (.var 4) .nil)))) .nil))
    (fun r => ∃ z, r = [some rows, none, some (frP one), z3, z, none, none]) frP (fun o => if !ltF one o then some (frP o) else none) acc [] [some rows, none, some (frP one), z3, none, none, none] ⟨none, rfl⟩ (by
      rintro x hx r ⟨z, rfl⟩
      refine ⟨_, ⟨some (frP x), rfl⟩, ?_⟩
      have hlx := less_ok w n one x h1 (ha x hx)
      cases hb : ltF one x with
      | true => rw [hb] at hlx; simp -implicitDefEqProofs only [↓ev_comp, stpC_v, stepF_v, List.set, evConds, ev, evs, evAs, lateAs, evAnd, evOr, evIt, exs, ↓ex_for, ↓ex_whl, ex, getV, rdS, rdI, rdB, rdT, rdL, rdR, rdN, rdZ, bok, sok, ofS, nxB, reB, exB, exS, exR, late, liftO, isIo, ofCall, hasB, ioBack, Bool.false_and, Bool.false_eq_true, if_false, beq_self_eq_true, if_true, ite_true, trB, Bool.not_true, Bool.not_false, finR, finE, finT, opR, idx2_0, idx2_1, addI, subI, ltII, gtII, leI, geI, eqI, neI, intI, lend, unlend, back, tgIds, parC, parN, stV, stT, stsN, stsV, stsT, io9, hlx]
      | false => rw [hb] at hlx; simp -implicitDefEqProofs only [↓ev_comp, stpC_v, stepF_v, List.set, evConds, ev, evs, evAs, lateAs, evAnd, evOr, evIt, exs, ↓ex_for, ↓ex_whl, ex, getV, rdS, rdI, rdB, rdT, rdL, rdR, rdN, rdZ, bok, sok, ofS, nxB, reB, exB, exS, exR, late, liftO, isIo, ofCall, hasB, ioBack, Bool.false_and, Bool.false_eq_true, if_false, beq_self_eq_true, if_true, ite_true, trB, Bool.not_true, Bool.not_false, finR, finE, finT, opR, idx2_0, idx2_1, addI, subI, ltII, gtII, leI, geI, eqI, neI, intI, lend, unlend, back, tgIds, parC, parN, stV, stT, stsN, stsV, stsT, io9, hlx])
  rw [hz] at h
  have hlim : LW.lim (acc.filterMap fun o => if !ltF one o then some (frP o) else none) = true := by
    apply lim_of; have := List.length_filterMap_le (fun o => if !ltF one o then some (frP o) else none) acc; omega
  simp -implicitDefEqProofs only [↓ev_comp, stpC_v, stepF_v, List.set, evConds, ev, evs, evAs, lateAs, evAnd, evOr, evIt, exs, ↓ex_for, ↓ex_whl, ex, getV, rdS, rdI, rdB, rdT, rdL, rdR, rdN, rdZ, bok, sok, ofS, nxB, reB, exB, exS, exR, late, liftO, isIo, ofCall, hasB, ioBack, Bool.false_and, Bool.false_eq_true, if_false, beq_self_eq_true, if_true, ite_true, trB, Bool.not_true, Bool.not_false, finR, finE, finT, opR, idx2_0, idx2_1, addI, subI, ltII, gtII, leI, geI, eqI, neI, intI, lend, unlend, back, tgIds, parC, parN, stV, stT, stsN, stsV, stsT, iterL, h, quS, List.nil_append, hlim, hr']
end K10
end

section
set_option maxRecDepth 100000
/-! PureK10c: median -/
namespace K10
open LW
theorem sortF_foldl : ∀ (xs acc : List Fr), xs.foldl insF acc = sortF acc xs
  | [], _ => rfl
  | x :: xs, acc => sortF_foldl xs (insF acc x)
theorem half_n (n : Nat) : ((n : Int)).fdiv 2 = ((n / 2 : Nat) : Int) := by
  rw [Int.fdiv_eq_ediv_of_nonneg _ (by omega)]; omega
theorem half_n1 (n : Nat) (h : 0 < n) : ((n : Int) - 1).fdiv 2 = (((n - 1) / 2 : Nat) : Int) := by
  rw [Int.fdiv_eq_ediv_of_nonneg _ (by omega)]; omega
theorem median_loop (w n : Nat) (rows : D) (hr : rd [some rows] 0 = some rows) (ps : List Fr) (p : Fr) (hp : Ok p) (h : ∀ x ∈ ps, Ok x) (hl : ps.length ≤ 900) :
    ∃ z2 z3, loopF (stepF prog (sem prog w (n + 2)) w (.v 2) (.cons (.set 3 (.bi .len (.cons .s (.comp (.var 4) (.v 4) (.e (.bor 1)) (.cons (.not (.call 9 (.cons .s (.var 2) (.cons .s (.var 4) .nil)))) .nil)) .nil))) (.cons (.mut (.v 1) .insert (.cons (.var 3) (.cons (.var 2) .nil))) .nil)))
      (ps.map frP) [some rows, some (.lst ([p].map frP)), none, none, none, none, none] = .nx [some rows, some (.lst ((sortF [p] ps).map frP)), z2, z3, none, none, none] := by
  obtain ⟨r, ⟨⟨z2, z3, hr⟩, _⟩, hlp⟩ := loopF_rem (stepF prog (sem prog w (n + 2)) w (.v 2) (.cons (.set 3 (.bi .len (.cons .s (.comp (.var 4) (.v 4) (.e (.bor 1)) (.cons (.not (.call 9 (.cons .s (.var 2) (.cons .s (.var 4) .nil)))) .nil)) .nil))) (.cons (.mut (.v 1) .insert (.cons (.var 3) (.cons (.var 2) .nil))) .nil)))
    (fun rem acc r => (∃ z2 z3, r = [some rows, some (.lst (acc.map frP)), z2, z3, none, none, none]) ∧ (∀ x ∈ acc, Ok x) ∧ (∀ x ∈ rem, Ok x) ∧ acc.length + rem.length ≤ 1000) frP insF (by
      rintro one xs acc r ⟨⟨z2, z3, rfl⟩, ha, hrm, hll⟩
      have h1 := hrm one (List.mem_cons_self ..)
      have hc := median_comp w (n + 1) rows hr acc one h1 ha (by omega) z3
      rw [show n + 1 + 1 = n + 2 from rfl] at hc
      have hf : (acc.filterMap fun o => if !ltF one o then some (frP o) else none).length = place acc one := filterMap_len (fun o => !ltF one o) frP acc
      have hins := ins_fr acc one (by omega)
      refine ⟨_, ⟨⟨some (frP one), some (.int (place acc one)), rfl⟩, ?_, fun z hz => hrm z (List.mem_cons_of_mem _ hz), ?_⟩, ?_⟩
      · intro z hz
        rcases List.mem_cons.1 ((insF_perm acc one).mem_iff.1 hz) with e | e
        · rw [e]; exact h1
        · exact ha z e
      · have := (insF_perm acc one).length_eq; simp only [List.length_cons] at this hll; omega
      · simp -implicitDefEqProofs only [stepF_v, List.set]
        simp -implicitDefEqProofs only [stpC_v, stepF_v, List.set, evConds, ev.eq_1, ev.eq_2, ev.eq_3, ev.eq_4, ev.eq_5, ev.eq_6, ev.eq_7, ev.eq_8, ev.eq_9, ev.eq_10, ev.eq_11, ev.eq_12, ev.eq_13, ev.eq_14, ev.eq_15, ev.eq_16, ev.eq_17, ev.eq_18, ev.eq_19, ev.eq_20, ev.eq_21, ev.eq_22, ev.eq_23, ev.eq_24, ev.eq_25, ev.eq_26, ev.eq_27, ev.eq_28, ev.eq_29, ev.eq_30, ev.eq_31, ev.eq_32, ev.eq_33, ev.eq_34, ev.eq_35, ev.eq_36, ev.eq_37, ev.eq_38, ev.eq_39, ev.eq_40, ev.eq_41, ev.eq_43, evs, evAs, lateAs, evAnd, evOr, evIt, exs, ↓ex_for, ↓ex_whl, ex, getV, rdS, rdI, rdB, rdT, rdL, rdR, rdN, rdZ, bok, sok, ofS, nxB, reB, exB, exS, exR, late, liftO, isIo, ofCall, hasB, ioBack, Bool.false_and, Bool.false_eq_true, if_false, beq_self_eq_true, if_true, ite_true, trB, Bool.not_true, Bool.not_false, finR, finE, finT, opR, idx2_0, idx2_1, addI, subI, ltII, gtII, leI, geI, eqI, neI, intI, lend, unlend, back, tgIds, parC, parN, stV, stT, stsN, stsV, stsT, ↓hc, lenL, hf, isLL, hins]) ps [p] [some rows, some (.lst ([p].map frP)), none, none, none, none, none] ⟨⟨none, none, rfl⟩, (fun z hz => by rw [List.mem_singleton.1 hz]; exact hp), h, by simp only [List.length_singleton]; omega⟩
  rw [hr, sortF_foldl] at hlp
  exact ⟨z2, z3, hlp⟩
theorem median_ok (w n : Nat) (p : Fr) (ps : List Fr) (h : ∀ x ∈ p :: ps, Ok x) (hl : ps.length ≤ 900) (hw : 50000000 < w) :
    ∃ L x y, L.Perm (p :: ps) ∧ List.Pairwise leF L ∧ L[((p :: ps).length - 1) / 2]? = some x ∧ L[(p :: ps).length / 2]? = some y ∧
      sem prog w (n + 3) 14 [.lst ((p :: ps).map frP)] = .ret (frP (midF x y)) none := by
  have hperm : (sortF [p] ps).Perm (p :: ps) := sortF_perm ps [p]
  have hlen : (sortF [p] ps).length = (p :: ps).length := hperm.length_eq
  have hpos : 0 < (p :: ps).length := by simp
  have hx := List.getElem?_eq_getElem (l := sortF [p] ps) (i := ((p :: ps).length - 1) / 2) (by omega)
  have hy := List.getElem?_eq_getElem (l := sortF [p] ps) (i := (p :: ps).length / 2) (by omega)
  have mx := List.mem_of_getElem? hx
  have my := List.mem_of_getElem? hy
  generalize (sortF [p] ps)[((p :: ps).length - 1) / 2]'(by omega) = x at hx mx
  generalize (sortF [p] ps)[(p :: ps).length / 2]'(by omega) = y at hy my
  have ox := h x (hperm.mem_iff.1 mx)
  have oy := h y (hperm.mem_iff.1 my)
  refine ⟨sortF [p] ps, x, y, hperm, ?_, hx, hy, ?_⟩
  · exact sortF_sorted ps [p] (fun z hz => (h z (List.mem_cons_of_mem _ hz)).pos) (fun z hz => (h z (by rw [List.mem_singleton.1 hz]; exact List.mem_cons_self ..)).pos) (List.pairwise_singleton ..)
  rw [sem_one _ _ _ _ _ rfl]
  rw [show startE (prog.nslots 14) [.lst ((p :: ps).map frP)] = [some (.lst ((p :: ps).map frP)), none, none, none, none, none, none] from rfl, show prog.body 14 = b_median from rfl, show prog.io 14 = false from rfl]
  obtain ⟨z2, z3, hlp⟩ := median_loop w n (.lst ((p :: ps).map frP)) rfl ps p (h p (List.mem_cons_self ..)) (fun z hz => h z (List.mem_cons_of_mem _ hz)) hl
  have hb1 : biD .len [.lst ((sortF [p] ps).map frP)] = some (.int (p :: ps).length) := by rw [lenL, List.length_map, hlen]
  have hd2 : divOk 2 = true := rfl
  have hix : idxD (.lst ((sortF [p] ps).map frP)) (.int (((p :: ps).length - 1) / 2 : Nat)) = some (frP x) := idxLL _ _ _ (by rw [List.getElem?_map, hx]; rfl) (by rw [List.length_map]; simp only [List.length_cons] at hlen; omega)
  have hiy : idxD (.lst ((sortF [p] ps).map frP)) (.int ((p :: ps).length / 2 : Nat)) = some (frP y) := idxLL _ _ _ (by rw [List.getElem?_map, hy]; rfl) (by rw [List.length_map]; simp only [List.length_cons] at hlen; omega)
  have hx2 := ox.b60; have hx3 := ox.pos; have hy2 := oy.b60; have hy3 := oy.pos; have hy4 := oy.t60
  have h60 : x.2 * y.2 ≤ 60 * 60 := Int.mul_le_mul (by omega) (by omega) (by omega) (by omega)
  have hpl := plus_low w n x y ox.pos oy.pos (by omega) (by omega) (by omega) (by omega) hw
  have hbb := low_le (x.1 * y.2 + y.1 * x.2) (x.2 * y.2) (Int.mul_pos hx3 hy3)
  obtain ⟨_, _, _, _, hb0, _⟩ := low_spec (x.1 * y.2 + y.1 * x.2) (x.2 * y.2) (Int.mul_pos hx3 hy3)
  have htm : sem prog w (n + 2) 7 [frP (sumF x y), fr 1 2] = .ret (frP (midF x y)) none :=
    times_ok w (n + 1) _ _ _ _ (mulR _ _ (by decide) (by decide)) (mulR _ _ (by decide) (by decide)) _ (reduced_low w n _ _ (by show 0 < lowB _ _ * 2; omega) (by show lowB _ _ * 2 < _; omega) (by show lowB _ _ * 2 < _; omega))
  have himm : imm (.int (p :: ps).length) = true := rfl
  have hi0 : idxD (.lst ((p :: ps).map frP)) (.int 0) = some (frP p) := idxL0 _ _
  have hs1 : slcD (.lst ((p :: ps).map frP)) (some (.int 1)) none = some (.lst (ps.map frP)) := slcD1 _ _
  rw [show [p].map frP = [frP p] from rfl] at hlp
  rw [← half_n1 _ hpos] at hix
  rw [← half_n] at hiy
  simp -implicitDefEqProofs only [↓ev_comp, stpC_v, stepF_v, List.set, evConds, ev, evs, evAs, lateAs, evAnd, evOr, evIt, exs, ↓ex_for, ↓ex_whl, ex, getV, rdS, rdI, rdB, rdT, rdL, rdR, rdN, rdZ, bok, sok, ofS, nxB, reB, exB, exS, exR, late, liftO, isIo, ofCall, hasB, ioBack, Bool.false_and, Bool.false_eq_true, if_false, beq_self_eq_true, if_true, ite_true, trB, Bool.not_true, Bool.not_false, finR, finE, finT, opR, idx2_0, idx2_1, addI, subI, ltII, gtII, leI, geI, eqI, neI, intI, lend, unlend, back, tgIds, parC, parN, stV, stT, stsN, stsV, stsT, b_median, hi0, mkL1, hs1, iterL, hlp, hb1, himm, hix, hiy, fdvI _ _ hd2, hpl, io5, io7, htm, mkT2, Bool.or_false]
end K10
end

section
set_option maxRecDepth 100000
/-! PureK10d: the law's body -/
namespace K10
open LW
def law_0 : S := (.set 1 (.lst (.cons (.var 0) (.cons (.int 0) (.cons (.int 61) (.cons (.int 0) .nil))))))
def law_1 : S := (.asg (.t [(.v 2), (.v 3), (.v 4), (.v 5)]) (.tup (.cons (.bin .sub (.call 15 (.cons .io (.bor 1) (.cons .s (.int 121) .nil))) (.int 60)) (.cons (.bin .add (.int 1) (.call 15 (.cons .io (.bor 1) (.cons .s (.int 60) .nil)))) (.cons (.bin .sub (.call 15 (.cons .io (.bor 1) (.cons .s (.int 121) .nil))) (.int 60)) (.cons (.bin .add (.int 1) (.call 15 (.cons .io (.bor 1) (.cons .s (.int 60) .nil)))) .nil))))))
def law_2 : S := (.par [6, 7] (.cons (.call 2 (.cons .s (.var 2) (.cons .s (.var 3) .nil))) (.cons (.call 2 (.cons .s (.var 4) (.cons .s (.var 5) .nil))) .nil)))
def law_3 : S := (.ite (.or (.cons (.not (.call 16 (.cons .s (.tup (.cons (.var 6) (.cons (.var 7) .nil))) (.cons .s (.tup (.cons (.call 18 (.cons .s (.var 2) (.cons .s (.var 3) .nil))) (.cons (.call 18 (.cons .s (.var 4) (.cons .s (.var 5) .nil))) .nil))) .nil)))) (.cons (.not (.call 3 (.cons .s (.var 6) .nil))) (.cons (.call 3 (.cons .s (.tup (.cons (.bin .mul (.var 2) (.int 2)) (.cons (.bin .mul (.var 3) (.int 2)) .nil))) .nil)) .nil)))) (.cons (.ret (.bl false)) .nil) .nil)
def law_4 : S := (.ite (.not (.call 16 (.cons .s (.tup (.cons (.call 5 (.cons .s (.var 6) (.cons .s (.var 7) .nil))) (.cons (.call 6 (.cons .s (.var 6) (.cons .s (.var 7) .nil))) (.cons (.call 7 (.cons .s (.var 6) (.cons .s (.var 7) .nil))) .nil)))) (.cons .s (.tup (.cons (.call 18 (.cons .s (.bin .add (.bin .mul (.var 2) (.var 5)) (.bin .mul (.var 4) (.var 3))) (.cons .s (.bin .mul (.var 3) (.var 5)) .nil))) (.cons (.call 18 (.cons .s (.bin .sub (.bin .mul (.var 2) (.var 5)) (.bin .mul (.var 4) (.var 3))) (.cons .s (.bin .mul (.var 3) (.var 5)) .nil))) (.cons (.call 18 (.cons .s (.bin .mul (.var 2) (.var 4)) (.cons .s (.bin .mul (.var 3) (.var 5)) .nil))) .nil)))) .nil)))) (.cons (.ret (.bl false)) .nil) .nil)
def law_5 : S := (.ite (.or (.cons (.and (.cons (.cmp .gt (.var 4) (.int 0)) (.cons (.not (.call 16 (.cons .s (.call 8 (.cons .s (.var 6) (.cons .s (.var 7) .nil))) (.cons .s (.call 18 (.cons .s (.bin .mul (.var 2) (.var 5)) (.cons .s (.bin .mul (.var 3) (.var 4)) .nil))) .nil)))) .nil))) (.cons (.not (.call 17 (.cons .s (.call 9 (.cons .s (.var 6) (.cons .s (.var 7) .nil))) (.cons .s (.cmp .lt (.bin .mul (.var 2) (.var 5)) (.bin .mul (.var 4) (.var 3))) .nil)))) .nil))) (.cons (.ret (.bl false)) .nil) .nil)
def law_6 : S := (.set 8 (.listRange (.cons .s (.neg (.int 61)) (.cons .s (.int 62) .nil))))
def law_7 : S := (.par [9, 10] (.cons (.bi .max1 (.cons .s (.comp (.var 11) (.v 11) (.e (.var 8)) (.cons (.cmp .le (.bin .mul (.var 11) (.var 3)) (.var 2)) .nil)) .nil)) (.cons (.bi .min1 (.cons .s (.comp (.var 11) (.v 11) (.e (.var 8)) (.cons (.cmp .ge (.bin .mul (.var 11) (.var 3)) (.var 2)) .nil)) .nil)) .nil)))
def law_8 : S := (.set 12 (.bi .max1 (.cons .s (.comp (.var 11) (.v 11) (.e (.var 8)) (.cons (.cmp .le (.bin .mul (.bin .sub (.bin .mul (.int 2) (.var 11)) (.int 1)) (.var 3)) (.bin .mul (.int 2) (.var 2))) .nil)) .nil)))
def law_9 : S := (.ite (.not (.call 16 (.cons .s (.tup (.cons (.call 10 (.cons .s (.var 6) .nil)) (.cons (.call 11 (.cons .s (.var 6) .nil)) (.cons (.call 12 (.cons .s (.var 6) .nil)) .nil)))) (.cons .s (.tup (.cons (.var 9) (.cons (.var 10) (.cons (.var 12) .nil)))) .nil)))) (.cons (.ret (.bl false)) .nil) .nil)
def law_10 : S := (.par [13, 14] (.cons (.bin .add (.lst (.cons (.var 6) (.cons (.var 7) .nil))) (.comp (.call 2 (.cons .s (.bin .sub (.call 15 (.cons .io (.bor 1) (.cons .s (.int 40) .nil))) (.int 20)) (.cons .s (.bin .add (.int 1) (.call 15 (.cons .io (.bor 1) (.cons .s (.int 6) .nil)))) .nil))) (.v 11) (.range (.cons .s (.call 15 (.cons .io (.bor 1) (.cons .s (.int 5) .nil))) .nil)) .nil)) (.cons (.tup (.cons (.int 0) (.cons (.int 1) .nil))) .nil)))
def law_11 : S := (.for (.v 15) (.e (.var 13)) (.cons (.set 14 (.call 18 (.cons .s (.bin .add (.bin .mul (.idx (.var 14) (.int 0)) (.idx (.var 15) (.int 1))) (.bin .mul (.idx (.var 15) (.int 0)) (.idx (.var 14) (.int 1)))) (.cons .s (.bin .mul (.idx (.var 14) (.int 1)) (.idx (.var 15) (.int 1))) .nil)))) .nil))
def law_12 : S := (.ite (.not (.call 16 (.cons .s (.call 13 (.cons .s (.var 13) .nil)) (.cons .s (.var 14) .nil)))) (.cons (.ret (.bl false)) .nil) .nil)
def law_13 : S := (.set 16 (.call 14 (.cons .s (.var 13) .nil)))
def law_14 : S := (.set 9 (.bi .len (.cons .s (.comp (.int 1) (.v 15) (.e (.var 13)) (.cons (.cmp .lt (.bin .mul (.idx (.var 15) (.int 0)) (.idx (.var 16) (.int 1))) (.bin .mul (.idx (.var 16) (.int 0)) (.idx (.var 15) (.int 1)))) .nil)) .nil)))
def law_15 : S := (.set 10 (.bi .len (.cons .s (.comp (.int 1) (.v 15) (.e (.var 13)) (.cons (.cmp .gt (.bin .mul (.idx (.var 15) (.int 0)) (.idx (.var 16) (.int 1))) (.bin .mul (.idx (.var 16) (.int 0)) (.idx (.var 15) (.int 1)))) .nil)) .nil)))
def law_16 : S := (.ite (.or (.cons (.cmp .gt (.bin .mul (.int 2) (.var 9)) (.bi .len (.cons .s (.var 13) .nil))) (.cons (.cmp .gt (.bin .mul (.int 2) (.var 10)) (.bi .len (.cons .s (.var 13) .nil))) (.cons (.and (.cons (.cmp .eq (.bin .mod (.bi .len (.cons .s (.var 13) .nil)) (.int 2)) (.int 1)) (.cons (.cmp .notin (.var 16) (.var 13)) .nil))) .nil)))) (.cons (.ret (.bl false)) .nil) .nil)
def law_17 : S := (.for (.v 17) (.e (.lst (.cons .non (.cons (.tup (.cons (.int 1) (.cons (.int 0) .nil))) (.cons (.tup (.cons (.int 2) (.cons (.int 4) .nil))) (.cons (.tup (.cons (.int 0) (.cons (.int 2) .nil))) (.cons (.tup (.cons (.int 1) .nil)) (.cons (.tup (.cons (.bl true) (.cons (.int 2) .nil))) (.cons (.lst (.cons (.int 1) (.cons (.int 2) (.cons (.int 3) .nil)))) (.cons (.int 5) (.cons (.tup (.cons (.int 1) (.cons (.neg (.int 1)) .nil))) .nil))))))))))) (.cons (.ite (.call 3 (.cons .s (.var 17) .nil)) (.cons (.ret (.bl false)) .nil) .nil) (.cons (.tr (.cons (.ex (.call 4 (.cons .s (.var 17) .nil))) (.cons (.ret (.bl false)) .nil)) (.cons 4 (some 18) (.cons (.ite (.reprNe (.xf 18 0) (.var 17)) (.cons (.ret (.bl false)) .nil) .nil) .nil) .nil)) .nil)))
def law_18 : S := (.ret (.call 16 (.cons .s (.call 4 (.cons .s (.bi .list (.cons .s (.var 6) .nil)) .nil)) (.cons .s (.var 6) .nil))))
theorem b_law_eq : b_law = (.cons law_0 (.cons law_1 (.cons law_2 (.cons law_3 (.cons law_4 (.cons law_5 (.cons law_6 (.cons law_7 (.cons law_8 (.cons law_9 (.cons law_10 (.cons law_11 (.cons law_12 (.cons law_13 (.cons law_14 (.cons law_15 (.cons law_16 (.cons law_17 (.cons law_18 .nil))))))))))))))))))) := rfl

/-! what each def answers, eight calls deep -/
theorem k_taken (w n : Nat) (ns : List Int) (hl : ns.length ≤ 63) (p s r m : Int) (hp : 0 ≤ p) (hm : 0 < m) (hm2 : m < 1000000) :
    ∃ v p' s' r', 0 ≤ v ∧ v < m ∧ 0 ≤ p' ∧ sem prog w (n + 8) 15 [row4 ns p s r, .int m] = .ret (.int v) (some (row4 ns p' s' r')) :=
  taken_ok prog 15 rfl rfl rfl rfl w (n + 7) ns p s r m hp hm (by omega) hl
theorem k_red (w n : Nat) (hw : 50000000 < w) (a b : Int) (h0 : 0 < b) (h2 : b ≤ 50000000) : sem prog w (n + 8) 2 [.int a, .int b] = .ret (low a b) none :=
  reduced_low w (n + 7) a b h0 (by omega) (by omega)
theorem k_low (w n : Nat) (a b : Int) (h0 : 0 < b) (h2 : b ≤ 50000000) : sem prog w (n + 8) 18 [.int a, .int b] = .ret (low a b) none :=
  low_low w (n + 7) a b h0 (by omega)
theorem k_alike (w n : Nat) (d : D) (h : good 4 d = true) : sem prog w (n + 8) 16 [d, d] = .ret (.bl true) none :=
  alike_good prog 16 ⟨rfl, rfl, rfl, rfl⟩ w 4 (n + 3) d h
theorem k_truth (w n : Nat) (b : Bool) : sem prog w (n + 8) 17 [.bl b, .bl b] = .ret (.bl true) none :=
  truth_ok prog 17 ⟨rfl, rfl, rfl, rfl⟩ w (n + 7) b
theorem k_frac (w n : Nat) (hw : 50000000 < w) (x : Fr) (h : Ok x) : sem prog w (n + 8) 3 [frP x] = .ret (.bl true) none :=
  frac_true w (n + 6) x h (by omega)
theorem k_frac2 (w n : Nat) (hw : 50000000 < w) (a b : Int) (h0 : 0 < b) (h2 : b ≤ 60) : sem prog w (n + 8) 3 [fr (a * 2) (b * 2)] = .ret (.bl false) none := by
  have h := frac_ok w (n + 6) (a * 2) (b * 2) (by omega) (by omega) (by omega)
  have e : ((b * 2).fdiv (Int.gcd (a * 2) (b * 2)) == b * 2) = false := low_twice a b h0
  rw [e, Bool.and_false] at h
  exact h
theorem io16 : prog.io 16 = false := rfl
theorem io15 : prog.io 15 = true := rfl
theorem io17 : prog.io 17 = false := rfl
theorem io18 : prog.io 18 = false := rfl
theorem io6 : prog.io 6 = false := rfl
theorem io8 : prog.io 8 = false := rfl
theorem io10 : prog.io 10 = false := rfl
theorem io11 : prog.io 11 = false := rfl
theorem io12 : prog.io 12 = false := rfl
theorem io13 : prog.io 13 = false := rfl
theorem io14 : prog.io 14 = false := rfl
theorem io4 : prog.io 4 = false := rfl
theorem mkT3 (x y z : D) : mkT [x, y, z] = some (.tup [x, y, z]) := rfl
theorem mkT4 (x y z u : D) : mkT [x, y, z, u] = some (.tup [x, y, z, u]) := rfl
theorem mkL2 (x y : D) : mkL [x, y] = some (.lst [x, y]) := rfl
theorem mkL4 (x y z u : D) : mkL [x, y, z, u] = some (.lst [x, y, z, u]) := rfl
theorem good_fr (k : Nat) (a b : Int) : good (k + 1) (fr a b) = true := by
  show (decide (2 < 1000000000000) && (good k (.int a) && (good k (.int b) && true))) = true
  have h : ∀ i, good k (.int i) = true := fun i => by cases k <;> rfl
  rw [h, h]; rfl
theorem isTT (b : Bool) : (true == b) = b := by cases b <;> rfl
abbrev sc (ns : List Int) : D := .ro (ns.map .int)
variable (w n : Nat) (ns : List Int) (hl : ns.length ≤ 63) (hw : 50000000 < w)
theorem st0 : ex prog (sem prog w (n + 8)) w law_0 [some (sc ns), none, none, none, none, none, none, none, none, none, none, none, none, none, none, none, none, none, none] =
    .nx [some (sc ns), some (row4 ns 0 61 0), none, none, none, none, none, none, none, none, none, none, none, none, none, none, none, none, none] := by
  simp -implicitDefEqProofs only [↓ev_comp, stpC_v, stepF_v, List.set, evConds, ev, evs, evAs, lateAs, evAnd, evOr, evIt, exs, ↓ex_for, ↓ex_whl, ex, getV, rdS, rdI, rdB, rdT, rdL, rdR, rdN, rdZ, bok, sok, ofS, nxB, reB, exB, exS, exR, late, liftO, isIo, ofCall, hasB, ioBack, Bool.false_and, Bool.false_eq_true, if_false, beq_self_eq_true, if_true, ite_true, trB, Bool.not_true, Bool.not_false, finR, finE, finT, opR, idx2_0, idx2_1, addI, subI, ltII, gtII, leI, geI, eqI, neI, intI, lend, unlend, back, tgIds, parC, parN, stV, stT, stsN, stsV, stsT, law_0, mkL4]
include hl in
theorem st1 : ∃ p s r a b c d, 0 ≤ p ∧ -60 ≤ a ∧ a ≤ 60 ∧ 1 ≤ b ∧ b ≤ 60 ∧ -60 ≤ c ∧ c ≤ 60 ∧ 1 ≤ d ∧ d ≤ 60 ∧ ex prog (sem prog w (n + 8)) w law_1 [some (sc ns), some (row4 ns 0 61 0), none, none, none, none, none, none, none, none, none, none, none, none, none, none, none, none, none] =
    .nx [some (sc ns), some (row4 ns p s r), some (.int a), some (.int b), some (.int c), some (.int d), none, none, none, none, none, none, none, none, none, none, none, none, none] := by
  obtain ⟨v1, p1, s1, r1, l1, u1, q1, h1⟩ := k_taken w n ns hl 0 61 0 121 (by omega) (by omega) (by omega)
  obtain ⟨v2, p2, s2, r2, l2, u2, q2, h2⟩ := k_taken w n ns hl p1 s1 r1 60 q1 (by omega) (by omega)
  obtain ⟨v3, p3, s3, r3, l3, u3, q3, h3⟩ := k_taken w n ns hl p2 s2 r2 121 q2 (by omega) (by omega)
  obtain ⟨v4, p4, s4, r4, l4, u4, q4, h4⟩ := k_taken w n ns hl p3 s3 r3 60 q3 (by omega) (by omega)
  refine ⟨p4, s4, r4, v1 - 60, 1 + v2, v3 - 60, 1 + v4, q4, by omega, by omega, by omega, by omega, by omega, by omega, by omega, by omega, ?_⟩
  simp -implicitDefEqProofs only [↓ev_comp, stpC_v, stepF_v, List.set, evConds, ev, evs, evAs, lateAs, evAnd, evOr, evIt, exs, ↓ex_for, ↓ex_whl, ex, getV, rdS, rdI, rdB, rdT, rdL, rdR, rdN, rdZ, bok, sok, ofS, nxB, reB, exB, exS, exR, late, liftO, isIo, ofCall, hasB, ioBack, Bool.false_and, Bool.false_eq_true, if_false, beq_self_eq_true, if_true, ite_true, trB, Bool.not_true, Bool.not_false, finR, finE, finT, opR, idx2_0, idx2_1, addI, subI, ltII, gtII, leI, geI, eqI, neI, intI, lend, unlend, back, tgIds, parC, parN, stV, stT, stsN, stsV, stsT, law_1, h1, h2, h3, h4, io15, mkT4]
variable (a b c d : Int) (ha : -60 ≤ a ∧ a ≤ 60) (hb : 1 ≤ b ∧ b ≤ 60) (hc : -60 ≤ c ∧ c ≤ 60) (hd : 1 ≤ d ∧ d ≤ 60) (R : List D)
abbrev en (ns : List Int) (a b c d : Int) (R : List D) (l : List (Option D)) : Env := some (sc ns) :: some (.lst R) :: some (.int a) :: some (.int b) :: some (.int c) :: some (.int d) :: l
include hb hd hw in
theorem st2 : ex prog (sem prog w (n + 8)) w law_2 (en ns a b c d R [none, none, none, none, none, none, none, none, none, none, none, none, none]) =
    .nx (en ns a b c d R [some (low a b), some (low c d), none, none, none, none, none, none, none, none, none, none, none]) := by
  simp -implicitDefEqProofs only [↓ev_comp, stpC_v, stepF_v, List.set, evConds, ev, evs, evAs, lateAs, evAnd, evOr, evIt, exs, ↓ex_for, ↓ex_whl, ex, getV, rdS, rdI, rdB, rdT, rdL, rdR, rdN, rdZ, bok, sok, ofS, nxB, reB, exB, exS, exR, late, liftO, isIo, ofCall, hasB, ioBack, Bool.false_and, Bool.false_eq_true, if_false, beq_self_eq_true, if_true, ite_true, trB, Bool.not_true, Bool.not_false, finR, finE, finT, opR, idx2_0, idx2_1, addI, subI, ltII, gtII, leI, geI, eqI, neI, intI, lend, unlend, back, tgIds, parC, parN, stV, stT, stsN, stsV, stsT, law_2, k_red w n hw a b (by omega) (by omega), k_red w n hw c d (by omega) (by omega), io2]
def X (a b : Int) : Fr := (lowT a b, lowB a b)
theorem ok_X (a b : Int) (ha : -60 ≤ a ∧ a ≤ 60) (hb : 1 ≤ b ∧ b ≤ 60) : Ok (X a b) := by
  obtain ⟨g, _, _, _, h1, h2⟩ := low_spec a b (by omega)
  have h3 := low_le a b (by omega)
  have h4 := low_abs a b (by omega)
  exact ⟨h1, h2, by show lowB a b ≤ 60; omega, by show (lowT a b).natAbs ≤ 60; omega⟩
theorem k_alike2 (x y : Fr) : sem prog w (n + 8) 16 [.tup [frP x, frP y], .tup [frP x, frP y]] = .ret (.bl true) none := by
  apply k_alike
  show (decide (2 < 1000000000000) && (good 3 (frP x) && (good 3 (frP y) && true))) = true
  rw [good_fr, good_fr]; rfl
theorem k_alike3 (x y z : Fr) : sem prog w (n + 8) 16 [.tup [frP x, frP y, frP z], .tup [frP x, frP y, frP z]] = .ret (.bl true) none := by
  apply k_alike
  show (decide (3 < 1000000000000) && (good 3 (frP x) && (good 3 (frP y) && (good 3 (frP z) && true)))) = true
  rw [good_fr, good_fr, good_fr]; rfl
theorem k_alikeI (x y z : Int) : sem prog w (n + 8) 16 [.tup [.int x, .int y, .int z], .tup [.int x, .int y, .int z]] = .ret (.bl true) none := by
  apply k_alike
  rfl
theorem k_alike1 (x : Fr) : sem prog w (n + 8) 16 [frP x, frP x] = .ret (.bl true) none := k_alike w n _ (good_fr _ _ _)
include ha hb hd hw in
theorem st3 : ex prog (sem prog w (n + 8)) w law_3 (en ns a b c d R [some (frP (X a b)), some (frP (X c d)), none, none, none, none, none, none, none, none, none, none, none]) =
    .nx (en ns a b c d R [some (frP (X a b)), some (frP (X c d)), none, none, none, none, none, none, none, none, none, none, none]) := by
  have h1 : sem prog w (n + 8) 18 [.int a, .int b] = .ret (frP (X a b)) none := k_low w n a b (by omega) (by omega)
  have h2 : sem prog w (n + 8) 18 [.int c, .int d] = .ret (frP (X c d)) none := k_low w n c d (by omega) (by omega)
  simp -implicitDefEqProofs only [↓ev_comp, stpC_v, stepF_v, List.set, evConds, ev, evs, evAs, lateAs, evAnd, evOr, evIt, exs, ↓ex_for, ↓ex_whl, ex, getV, rdS, rdI, rdB, rdT, rdL, rdR, rdN, rdZ, bok, sok, ofS, nxB, reB, exB, exS, exR, late, liftO, isIo, ofCall, hasB, ioBack, Bool.false_and, Bool.false_eq_true, if_false, beq_self_eq_true, if_true, ite_true, trB, Bool.not_true, Bool.not_false, finR, finE, finT, opR, idx2_0, idx2_1, addI, subI, ltII, gtII, leI, geI, eqI, neI, intI, lend, unlend, back, tgIds, parC, parN, stV, stT, stsN, stsV, stsT, law_3, h1, h2, k_alike2, k_frac w n hw _ (ok_X a b ha hb), k_frac2 w n hw a b (by omega) (by omega), io16, io18, io3, mkT2, mulI _ 2 (mulR _ 2 (by decide) (by decide))]
/-- sums, differences, products of fractions in lowest terms -/
theorem sum_core (g k p q r s : Int) (hg : 0 < g) (hk : 0 < k) (h1 : 0 < q) (h2 : 0 < s) : low (p * s + r * q) (q * s) = low (g * p * (k * s) + k * r * (g * q)) (g * q * (k * s)) ∧
    low (p * s - r * q) (q * s) = low (g * p * (k * s) - k * r * (g * q)) (g * q * (k * s)) ∧
    low (p * r) (q * s) = low (g * p * (k * r)) (g * q * (k * s)) ∧ (0 < k * r → low (p * s) (q * r) = low (g * p * (k * s)) (g * q * (k * r)) ∧ 0 < r) ∧
    (p * s < r * q ↔ g * p * (k * s) < k * r * (g * q)) := by
  have hqs : 0 < q * s := Int.mul_pos h1 h2
  have hb : 0 < g * q := Int.mul_pos hg h1
  have hd : 0 < k * s := Int.mul_pos hk h2
  have hbd : 0 < g * q * (k * s) := Int.mul_pos hb hd
  have hlow : ∀ x y u v : Int, 0 < y → 0 < v → x * v = u * y → low x y = low u v := by
    intro x y u v a1 a2 a3
    obtain ⟨z1, z2⟩ := low_eq x y u v a1 a2 a3
    show fr _ _ = fr _ _
    rw [z1, z2]
  refine ⟨hlow _ _ _ _ hqs hbd ?_, hlow _ _ _ _ hqs hbd ?_, hlow _ _ _ _ hqs hbd ?_, ?_, ?_⟩
  · simp only [Int.add_mul, Int.mul_add, Int.mul_assoc, Int.mul_left_comm, Int.mul_comm]
  · simp only [Int.sub_mul, Int.mul_sub, Int.mul_assoc, Int.mul_left_comm, Int.mul_comm]
  · simp only [Int.mul_assoc, Int.mul_left_comm, Int.mul_comm]
  · intro hc
    have hr : 0 < r := Int.pos_of_mul_pos_right hc (by omega)
    refine ⟨hlow _ _ _ _ (Int.mul_pos h1 hr) (Int.mul_pos hb hc) ?_, hr⟩
    simp only [Int.mul_assoc, Int.mul_left_comm, Int.mul_comm]
  · have hgk : 0 < g * k := Int.mul_pos hg hk
    have e : g * p * (k * s) = g * k * (p * s) := by simp only [Int.mul_assoc, Int.mul_left_comm, Int.mul_comm]
    have e' : k * r * (g * q) = g * k * (r * q) := by simp only [Int.mul_assoc, Int.mul_left_comm, Int.mul_comm]
    rw [e, e']
    constructor
    · intro h; exact Int.mul_lt_mul_of_pos_left h hgk
    · intro h; exact Int.lt_of_mul_lt_mul_left h (by omega)
theorem sum_eq (hb : 0 < b) (hd : 0 < d) : low ((X a b).1 * (X c d).2 + (X c d).1 * (X a b).2) ((X a b).2 * (X c d).2) = low (a * d + c * b) (b * d) ∧
    low ((X a b).1 * (X c d).2 - (X c d).1 * (X a b).2) ((X a b).2 * (X c d).2) = low (a * d - c * b) (b * d) ∧
    low ((X a b).1 * (X c d).1) ((X a b).2 * (X c d).2) = low (a * c) (b * d) ∧ (0 < c → low ((X a b).1 * (X c d).2) ((X a b).2 * (X c d).1) = low (a * d) (b * c) ∧ 0 < (X c d).1) ∧
    ltF (X a b) (X c d) = decide (a * d < c * b) := by
  obtain ⟨g, hg, e1, e2, h1, _⟩ := low_spec a b hb
  obtain ⟨k, hk, f1, f2, h2, _⟩ := low_spec c d hd
  have h := sum_core g k (lowT a b) (lowB a b) (lowT c d) (lowB c d) hg hk h1 h2
  rw [← e1, ← e2, ← f1, ← f2] at h
  exact ⟨h.1, h.2.1, h.2.2.1, h.2.2.2.1, decide_eq_decide.2 h.2.2.2.2⟩
include ha hb hc hd hw in
theorem st4 : ex prog (sem prog w (n + 8)) w law_4 (en ns a b c d R [some (frP (X a b)), some (frP (X c d)), none, none, none, none, none, none, none, none, none, none, none]) =
    .nx (en ns a b c d R [some (frP (X a b)), some (frP (X c d)), none, none, none, none, none, none, none, none, none, none, none]) := by
  obtain ⟨s1, s2, s3, _, _⟩ := sum_eq a b c d (by omega) (by omega)
  have o1 := ok_X a b ha hb
  have o2 := ok_X c d hc hd
  have p1 := o1.pos; have p2 := o2.pos; have q1 := o1.b60; have q2 := o2.b60; have t1 := o1.t60; have t2 := o2.t60
  have hbd : b * d ≤ 60 * 60 := Int.mul_le_mul (by omega) (by omega) (by omega) (by omega)
  have hbd0 : 0 < b * d := Int.mul_pos (by omega) (by omega)
  have hqs : (X a b).2 * (X c d).2 ≤ 60 * 60 := Int.mul_le_mul (by omega) (by omega) (by omega) (by omega)
  have hqs0 : 0 < (X a b).2 * (X c d).2 := Int.mul_pos (by omega) (by omega)
  have g1 : sem prog w (n + 8) 5 [frP (X a b), frP (X c d)] = .ret (frP (X (a * d + c * b) (b * d))) none := by
    refine plus_ok w (n + 7) _ _ _ _ (mulR _ _ (by omega) (by omega)) (mulR _ _ (by omega) (by omega)) (mulR _ _ (by omega) (by omega)) _ ?_
    rw [reduced_low w (n + 6) _ _ (by omega) (by omega) (by omega), s1]; rfl
  have g2 : sem prog w (n + 8) 6 [frP (X a b), frP (X c d)] = .ret (frP (X (a * d - c * b) (b * d))) none := by
    refine minus_ok w (n + 7) _ _ _ _ (mulR _ _ (by omega) (by omega)) (mulR _ _ (by omega) (by omega)) (mulR _ _ (by omega) (by omega)) _ ?_
    rw [reduced_low w (n + 6) _ _ (by omega) (by omega) (by omega), s2]; rfl
  have g3 : sem prog w (n + 8) 7 [frP (X a b), frP (X c d)] = .ret (frP (X (a * c) (b * d))) none := by
    refine times_ok w (n + 7) _ _ _ _ (mulR _ _ (by omega) (by omega)) (mulR _ _ (by omega) (by omega)) _ ?_
    rw [reduced_low w (n + 6) _ _ (by omega) (by omega) (by omega), s3]; rfl
  have k1 : ∀ x, sem prog w (n + 8) 18 [.int x, .int (b * d)] = .ret (frP (X x (b * d))) none := fun x => k_low w n x (b * d) hbd0 (by omega)
  simp -implicitDefEqProofs only [↓ev_comp, stpC_v, stepF_v, List.set, evConds, ev, evs, evAs, lateAs, evAnd, evOr, evIt, exs, ↓ex_for, ↓ex_whl, ex, getV, rdS, rdI, rdB, rdT, rdL, rdR, rdN, rdZ, bok, sok, ofS, nxB, reB, exB, exS, exR, late, liftO, isIo, ofCall, hasB, ioBack, Bool.false_and, Bool.false_eq_true, if_false, beq_self_eq_true, if_true, ite_true, trB, Bool.not_true, Bool.not_false, finR, finE, finT, opR, idx2_0, idx2_1, addI, subI, ltII, gtII, leI, geI, eqI, neI, intI, lend, unlend, back, tgIds, parC, parN, stV, stT, stsN, stsV, stsT, law_4, g1, g2, g3, k1, k_alike3, io16, io18, io5, io6, io7, mkT3, mulI _ d (mulR _ d (by omega) (by omega)), mulI _ b (mulR _ b (by omega) (by omega)), mulI _ c (mulR _ c (by omega) (by omega))]
include ha hb hc hd hw in
theorem st5 : ex prog (sem prog w (n + 8)) w law_5 (en ns a b c d R [some (frP (X a b)), some (frP (X c d)), none, none, none, none, none, none, none, none, none, none, none]) =
    .nx (en ns a b c d R [some (frP (X a b)), some (frP (X c d)), none, none, none, none, none, none, none, none, none, none, none]) := by
  obtain ⟨_, _, _, s4, s5⟩ := sum_eq a b c d (by omega) (by omega)
  have o1 := ok_X a b ha hb
  have o2 := ok_X c d hc hd
  have p1 := o1.pos; have p2 := o2.pos; have q1 := o1.b60; have q2 := o2.b60; have t1 := o1.t60; have t2 := o2.t60
  have g5 : sem prog w (n + 8) 9 [frP (X a b), frP (X c d)] = .ret (.bl (decide (a * d < c * b))) none := by rw [← s5]; exact less_ok w (n + 7) _ _ o1 o2
  by_cases h0 : 0 < c
  · obtain ⟨s6, hr⟩ := s4 h0
    have hbc : b * c ≤ 60 * 60 := Int.mul_le_mul (by omega) (by omega) (by omega) (by omega)
    have hbc0 : 0 < b * c := Int.mul_pos (by omega) (by omega)
    have hqs : (X a b).2 * (X c d).1 ≤ 60 * 60 := Int.mul_le_mul (by omega) (by omega) (by omega) (by omega)
    have hqs0 : 0 < (X a b).2 * (X c d).1 := Int.mul_pos (by omega) (by omega)
    have g4 : sem prog w (n + 8) 8 [frP (X a b), frP (X c d)] = .ret (frP (X (a * d) (b * c))) none := by
      refine over_ok w (n + 7) _ _ _ _ (mulR _ _ (by omega) (by omega)) (mulR _ _ (by omega) (by omega)) _ ?_
      rw [reduced_low w (n + 6) _ _ (by omega) (by omega) (by omega), s6]; rfl
    have k1 : sem prog w (n + 8) 18 [.int (a * d), .int (b * c)] = .ret (frP (X (a * d) (b * c))) none := k_low w n _ _ hbc0 (by omega)
    have e0 : decide (0 < c) = true := decide_eq_true h0
    simp -implicitDefEqProofs only [↓ev_comp, stpC_v, stepF_v, List.set, evConds, ev, evs, evAs, lateAs, evAnd, evOr, evIt, exs, ↓ex_for, ↓ex_whl, ex, getV, rdS, rdI, rdB, rdT, rdL, rdR, rdN, rdZ, bok, sok, ofS, nxB, reB, exB, exS, exR, late, liftO, isIo, ofCall, hasB, ioBack, Bool.false_and, Bool.false_eq_true, if_false, beq_self_eq_true, if_true, ite_true, trB, Bool.not_true, Bool.not_false, finR, finE, finT, opR, idx2_0, idx2_1, addI, subI, ltII, gtII, leI, geI, eqI, neI, intI, lend, unlend, back, tgIds, parC, parN, stV, stT, stsN, stsV, stsT, law_5, e0, g4, g5, k1, k_alike1, k_truth, io16, io18, io8, io9, io17, mulI _ d (mulR _ d (by omega) (by omega)), mulI _ b (mulR _ b (by omega) (by omega)), mulI _ c (mulR _ c (by omega) (by omega))]
  · have e0 : decide (0 < c) = false := decide_eq_false h0
    simp -implicitDefEqProofs only [↓ev_comp, stpC_v, stepF_v, List.set, evConds, ev, evs, evAs, lateAs, evAnd, evOr, evIt, exs, ↓ex_for, ↓ex_whl, ex, getV, rdS, rdI, rdB, rdT, rdL, rdR, rdN, rdZ, bok, sok, ofS, nxB, reB, exB, exS, exR, late, liftO, isIo, ofCall, hasB, ioBack, Bool.false_and, Bool.false_eq_true, if_false, beq_self_eq_true, if_true, ite_true, trB, Bool.not_true, Bool.not_false, finR, finE, finT, opR, idx2_0, idx2_1, addI, subI, ltII, gtII, leI, geI, eqI, neI, intI, lend, unlend, back, tgIds, parC, parN, stV, stT, stsN, stsV, stsT, law_5, e0, g5, k_truth, io16, io18, io8, io9, io17, mulI _ d (mulR _ d (by omega) (by omega)), mulI _ b (mulR _ b (by omega) (by omega)), mulI _ c (mulR _ c (by omega) (by omega))]
end K10
end

section
set_option maxRecDepth 100000
/-! PureK10e: the law's body, second part -/
namespace K10
open LW
variable (w n : Nat) (ns : List Int) (hl : ns.length ≤ 63) (hw : 50000000 < w)
variable (a b c d : Int) (ha : -60 ≤ a ∧ a ≤ 60) (hb : 1 ≤ b ∧ b ≤ 60) (hc : -60 ≤ c ∧ c ≤ 60) (hd : 1 ≤ d ∧ d ≤ 60) (R : List D)
abbrev Wh : List Int := upI (-61) 123
theorem rangeWh : (rangeD2 [.int (-61), .int 62]).bind mkL = some (.lst (Wh.map .int)) := by
  have h : rangeD2 [.int (-61), .int 62] = some (rangeL (-61) 123 1) := rfl
  rw [h, liftO, rangeL_up, mkL_le]
  rw [List.length_map, len_upI]; decide
theorem negI (P : Prog) (call : Nat → List D → CR) (e : E) (i : Int) (r r1 : Env) (h : ev P call e r = .ok (.int i) r1) : ev P call (.neg e) r = .ok (.int (-i)) r1 := by
  simp only [ev, h, bok]
theorem st6 : ex prog (sem prog w (n + 8)) w law_6 (en ns a b c d R [some (frP (X a b)), some (frP (X c d)), none, none, none, none, none, none, none, none, none, none, none]) =
    .nx (en ns a b c d R [some (frP (X a b)), some (frP (X c d)), some (.lst (Wh.map .int)), none, none, none, none, none, none, none, none, none, none]) := by
  simp -implicitDefEqProofs only [↓ev_comp, stpC_v, stepF_v, List.set, evConds, ev, evs, evAs, lateAs, evAnd, evOr, evIt, exs, ↓ex_for, ↓ex_whl, ex, getV, rdS, rdI, rdB, rdT, rdL, rdR, rdN, rdZ, bok, sok, ofS, nxB, reB, exB, exS, exR, late, liftO, isIo, ofCall, hasB, ioBack, Bool.false_and, Bool.false_eq_true, if_false, beq_self_eq_true, if_true, ite_true, trB, Bool.not_true, Bool.not_false, finR, finE, finT, opR, idx2_0, idx2_1, addI, subI, ltII, gtII, leI, geI, eqI, neI, intI, lend, unlend, back, tgIds, parC, parN, stV, stT, stsN, stsV, stsT, law_6, rangeWh, show (-(61 : Int)) = -61 from rfl]
theorem filterMap_if (q : Int → Bool) : ∀ xs : List Int, (xs.filterMap fun k => if q k then some (D.int k) else none) = (xs.filter q).map .int
  | [] => rfl
  | x :: xs => by
    cases h : q x with
    | true => simp only [List.filterMap_cons, h, if_true, List.filter_cons, List.map_cons, filterMap_if q xs]
    | false => simp only [List.filterMap_cons, h, Bool.false_eq_true, if_false, List.filter_cons, filterMap_if q xs]
theorem limWh (q : Int → Bool) : lim ((Wh.filter q).map D.int) = true := by
  apply lim_of
  rw [List.length_map]
  have := List.length_filter_le q Wh
  rw [len_upI] at this; omega
theorem st7a (cs : E) (q : Int → Bool) (z9 z10 : Option D) (o m : D)
    (h : ∀ k, -61 ≤ k → k ≤ 61 → evConds prog (sem prog w (n + 8)) (.cons cs .nil) (en ns a b c d R [some o, some m, some (.lst (Wh.map .int)), z9, z10, some (.int k), none, none, none, none, none, none, none]) =
      .ok (q k) (en ns a b c d R [some o, some m, some (.lst (Wh.map .int)), z9, z10, some (.int k), none, none, none, none, none, none, none])) :
    ev prog (sem prog w (n + 8)) (.comp (.var 11) (.v 11) (.e (.var 8)) (.cons cs .nil)) (en ns a b c d R [some o, some m, some (.lst (Wh.map .int)), z9, z10, none, none, none, none, none, none, none, none]) =
      .ok (.lst ((Wh.filter q).map .int)) (en ns a b c d R [some o, some m, some (.lst (Wh.map .int)), z9, z10, none, none, none, none, none, none, none, none]) := by
  obtain ⟨r', ⟨z, hz⟩, h2⟩ := loopC_inv (stpC prog (sem prog w (n + 8)) (.v 11) (.var 11) (.cons cs .nil))
    (fun r => ∃ z, r = en ns a b c d R [some o, some m, some (.lst (Wh.map .int)), z9, z10, z, none, none, none, none, none, none, none]) D.int (fun k => if q k then some (.int k) else none) Wh [] (en ns a b c d R [some o, some m, some (.lst (Wh.map .int)), z9, z10, none, none, none, none, none, none, none, none]) ⟨none, rfl⟩ (by
      rintro k hk r ⟨z, rfl⟩
      have hk2 := (mem_upI 123 (-61) k).1 hk
      refine ⟨_, ⟨some (.int k), rfl⟩, ?_⟩
      have hq := h k (by omega) (by omega)
      rw [stpC_v]
      simp only [en, List.set] at hq ⊢
      rw [hq]
      cases hb : q k with
      | true => simp -implicitDefEqProofs only [↓ev_comp, stpC_v, stepF_v, List.set, evConds, ev, evs, evAs, lateAs, evAnd, evOr, evIt, exs, ↓ex_for, ↓ex_whl, ex, getV, rdS, rdI, rdB, rdT, rdL, rdR, rdN, rdZ, bok, sok, ofS, nxB, reB, exB, exS, exR, late, liftO, isIo, ofCall, hasB, ioBack, Bool.false_and, Bool.false_eq_true, if_false, beq_self_eq_true, if_true, ite_true, trB, Bool.not_true, Bool.not_false, finR, finE, finT, opR, idx2_0, idx2_1, addI, subI, ltII, gtII, leI, geI, eqI, neI, intI, lend, unlend, back, tgIds, parC, parN, stV, stT, stsN, stsV, stsT]
      | false => simp -implicitDefEqProofs only [↓ev_comp, stpC_v, stepF_v, List.set, evConds, ev, evs, evAs, lateAs, evAnd, evOr, evIt, exs, ↓ex_for, ↓ex_whl, ex, getV, rdS, rdI, rdB, rdT, rdL, rdR, rdN, rdZ, bok, sok, ofS, nxB, reB, exB, exS, exR, late, liftO, isIo, ofCall, hasB, ioBack, Bool.false_and, Bool.false_eq_true, if_false, beq_self_eq_true, if_true, ite_true, trB, Bool.not_true, Bool.not_false, finR, finE, finT, opR, idx2_0, idx2_1, addI, subI, ltII, gtII, leI, geI, eqI, neI, intI, lend, unlend, back, tgIds, parC, parN, stV, stT, stsN, stsV, stsT])
  rw [hz, filterMap_if, List.nil_append] at h2
  have h3 := limWh q
  generalize (Wh.filter q).map D.int = ys at h2 h3 ⊢
  generalize Wh.map D.int = whs at h2 ⊢
  simp only [en] at h2 ⊢
  simp -implicitDefEqProofs only [↓ev_comp, stpC_v, stepF_v, List.set, evConds, ev, evs, evAs, lateAs, evAnd, evOr, evIt, exs, ↓ex_for, ↓ex_whl, ex, getV, rdS, rdI, rdB, rdT, rdL, rdR, rdN, rdZ, bok, sok, ofS, nxB, reB, exB, exS, exR, late, liftO, isIo, ofCall, hasB, ioBack, Bool.false_and, Bool.false_eq_true, if_false, beq_self_eq_true, if_true, ite_true, trB, Bool.not_true, Bool.not_false, finR, finE, finT, opR, idx2_0, idx2_1, addI, subI, ltII, gtII, leI, geI, eqI, neI, intI, lend, unlend, back, tgIds, parC, parN, stV, stT, stsN, stsV, stsT, iterL, h2, quS, h3]
include ha hb in
theorem st7 : ex prog (sem prog w (n + 8)) w law_7 (en ns a b c d R [some (frP (X a b)), some (frP (X c d)), some (.lst (Wh.map .int)), none, none, none, none, none, none, none, none, none, none]) =
    .nx (en ns a b c d R [some (frP (X a b)), some (frP (X c d)), some (.lst (Wh.map .int)), some (.int (a.fdiv b)), some (.int (-((-a).fdiv b))), none, none, none, none, none, none, none, none]) := by
  have c1 := st7a w n ns a b c d R (.cmp .le (.bin .mul (.var 11) (.var 3)) (.var 2)) (fun k => decide (k * b ≤ a)) none none (frP (X a b)) (frP (X c d)) (by
    intro k h1 h2
    generalize Wh.map D.int = whs
    have hm := mulI k b (mulR _ _ (by omega) (by omega))
    cases hq : decide (k * b ≤ a) <;> simp -implicitDefEqProofs only [↓ev_comp, stpC_v, stepF_v, List.set, evConds, ev, evs, evAs, lateAs, evAnd, evOr, evIt, exs, ↓ex_for, ↓ex_whl, ex, getV, rdS, rdI, rdB, rdT, rdL, rdR, rdN, rdZ, bok, sok, ofS, nxB, reB, exB, exS, exR, late, liftO, isIo, ofCall, hasB, ioBack, Bool.false_and, Bool.false_eq_true, if_false, beq_self_eq_true, if_true, ite_true, trB, Bool.not_true, Bool.not_false, finR, finE, finT, opR, idx2_0, idx2_1, addI, subI, ltII, gtII, leI, geI, eqI, neI, intI, lend, unlend, back, tgIds, parC, parN, stV, stT, stsN, stsV, stsT, hm, hq])
  have c2 := st7a w n ns a b c d R (.cmp .ge (.bin .mul (.var 11) (.var 3)) (.var 2)) (fun k => decide (a ≤ k * b)) none none (frP (X a b)) (frP (X c d)) (by
    intro k h1 h2
    generalize Wh.map D.int = whs
    have hm := mulI k b (mulR _ _ (by omega) (by omega))
    cases hq : decide (a ≤ k * b) <;> simp -implicitDefEqProofs only [↓ev_comp, stpC_v, stepF_v, List.set, evConds, ev, evs, evAs, lateAs, evAnd, evOr, evIt, exs, ↓ex_for, ↓ex_whl, ex, getV, rdS, rdI, rdB, rdT, rdL, rdR, rdN, rdZ, bok, sok, ofS, nxB, reB, exB, exS, exR, late, liftO, isIo, ofCall, hasB, ioBack, Bool.false_and, Bool.false_eq_true, if_false, beq_self_eq_true, if_true, ite_true, trB, Bool.not_true, Bool.not_false, finR, finE, finT, opR, idx2_0, idx2_1, addI, subI, ltII, gtII, leI, geI, eqI, neI, intI, lend, unlend, back, tgIds, parC, parN, stV, stT, stsN, stsV, stsT, hm, hq])
  have bnd : ∀ x : Int, -60 ≤ x ∧ x ≤ 60 → -60 ≤ x.fdiv b ∧ x.fdiv b ≤ 60 := by
    intro x hx
    constructor
    · apply (fdiv_iff (-60) x b (by omega)).1; omega
    · have := mt (fdiv_iff 61 x b (by omega)).2 (by omega); omega
  have m1 : biD .max1 [.lst ((Wh.filter fun k => decide (k * b ≤ a)).map .int)] = some (.int (a.fdiv b)) := by
    have := bnd a ha
    apply max1_ok
    · rw [List.mem_filter]; exact ⟨(mem_upI 123 (-61) _).2 (by omega), decide_eq_true ((fdiv_iff _ a b (by omega)).2 (Int.le_refl _))⟩
    · intro y hy; rw [List.mem_filter] at hy; exact (fdiv_iff y a b (by omega)).1 (of_decide_eq_true hy.2)
  have up : ∀ k : Int, a ≤ k * b ↔ -((-a).fdiv b) ≤ k := by
    intro k
    have := fdiv_iff (-k) (-a) b (by omega)
    rw [Int.neg_mul] at this; omega
  have m2 : biD .min1 [.lst ((Wh.filter fun k => decide (a ≤ k * b)).map .int)] = some (.int (-((-a).fdiv b))) := by
    have := bnd (-a) (by omega)
    apply min1_ok
    · rw [List.mem_filter]; exact ⟨(mem_upI 123 (-61) _).2 (by omega), decide_eq_true ((up _).2 (Int.le_refl _))⟩
    · intro y hy; rw [List.mem_filter] at hy; exact (up y).1 (of_decide_eq_true hy.2)
  generalize (Wh.filter fun k => decide (k * b ≤ a)).map D.int = ys1 at *
  generalize (Wh.filter fun k => decide (a ≤ k * b)).map D.int = ys2 at *
  generalize Wh.map D.int = whs at *
  simp only [en] at c1 c2 ⊢
  unfold law_7
  simp -implicitDefEqProofs only [stpC_v, stepF_v, List.set, evConds, ev.eq_1, ev.eq_2, ev.eq_3, ev.eq_4, ev.eq_5, ev.eq_6, ev.eq_7, ev.eq_8, ev.eq_9, ev.eq_10, ev.eq_11, ev.eq_12, ev.eq_13, ev.eq_14, ev.eq_15, ev.eq_16, ev.eq_17, ev.eq_18, ev.eq_19, ev.eq_20, ev.eq_21, ev.eq_22, ev.eq_23, ev.eq_24, ev.eq_25, ev.eq_26, ev.eq_27, ev.eq_28, ev.eq_29, ev.eq_30, ev.eq_31, ev.eq_32, ev.eq_33, ev.eq_34, ev.eq_35, ev.eq_36, ev.eq_37, ev.eq_38, ev.eq_39, ev.eq_40, ev.eq_41, ev.eq_43, evs, evAs, lateAs, evAnd, evOr, evIt, exs, ↓ex_for, ↓ex_whl, ex, getV, rdS, rdI, rdB, rdT, rdL, rdR, rdN, rdZ, bok, sok, ofS, nxB, reB, exB, exS, exR, late, liftO, isIo, ofCall, hasB, ioBack, Bool.false_and, Bool.false_eq_true, if_false, beq_self_eq_true, if_true, ite_true, trB, Bool.not_true, Bool.not_false, finR, finE, finT, opR, idx2_0, idx2_1, addI, subI, ltII, gtII, leI, geI, eqI, neI, intI, lend, unlend, back, tgIds, parC, parN, stV, stT, stsN, stsV, stsT, c1, c2, m1, m2]
include ha hb in
theorem st8 : ex prog (sem prog w (n + 8)) w law_8 (en ns a b c d R [some (frP (X a b)), some (frP (X c d)), some (.lst (Wh.map .int)), some (.int (a.fdiv b)), some (.int (-((-a).fdiv b))), none, none, none, none, none, none, none, none]) =
    .nx (en ns a b c d R [some (frP (X a b)), some (frP (X c d)), some (.lst (Wh.map .int)), some (.int (a.fdiv b)), some (.int (-((-a).fdiv b))), none, some (.int ((2 * a + b).fdiv (2 * b))), none, none, none, none, none, none]) := by
  have c1 := st7a w n ns a b c d R (.cmp .le (.bin .mul (.bin .sub (.bin .mul (.int 2) (.var 11)) (.int 1)) (.var 3)) (.bin .mul (.int 2) (.var 2))) (fun k => decide ((2 * k - 1) * b ≤ 2 * a)) (some (.int (a.fdiv b))) (some (.int (-((-a).fdiv b)))) (frP (X a b)) (frP (X c d)) (by
    intro k h1 h2
    generalize Wh.map D.int = whs
    generalize a.fdiv b = u1
    generalize -((-a).fdiv b) = u2
    have hm := mulI (2 * k - 1) b (mulR _ _ (by omega) (by omega))
    have hm2 := mulI 2 k (mulL _ _ (by omega) (by omega))
    have hm3 := mulI 2 a (mulL _ _ (by omega) (by omega))
    cases hq : decide ((2 * k - 1) * b ≤ 2 * a) <;> simp -implicitDefEqProofs only [↓ev_comp, stpC_v, stepF_v, List.set, evConds, ev, evs, evAs, lateAs, evAnd, evOr, evIt, exs, ↓ex_for, ↓ex_whl, ex, getV, rdS, rdI, rdB, rdT, rdL, rdR, rdN, rdZ, bok, sok, ofS, nxB, reB, exB, exS, exR, late, liftO, isIo, ofCall, hasB, ioBack, Bool.false_and, Bool.false_eq_true, if_false, beq_self_eq_true, if_true, ite_true, trB, Bool.not_true, Bool.not_false, finR, finE, finT, opR, idx2_0, idx2_1, addI, subI, ltII, gtII, leI, geI, eqI, neI, intI, lend, unlend, back, tgIds, parC, parN, stV, stT, stsN, stsV, stsT, hm, hm2, hm3, hq])
  have eqv : ∀ k : Int, (2 * k - 1) * b ≤ 2 * a ↔ k ≤ (2 * a + b).fdiv (2 * b) := by
    intro k
    rw [← fdiv_iff k (2 * a + b) (2 * b) (by omega), Int.sub_mul, show k * (2 * b) = 2 * k * b from by rw [Int.mul_left_comm, Int.mul_assoc]]; omega
  have m1 : biD .max1 [.lst ((Wh.filter fun k => decide ((2 * k - 1) * b ≤ 2 * a)).map .int)] = some (.int ((2 * a + b).fdiv (2 * b))) := by
    have l1 : -60 ≤ (2 * a + b).fdiv (2 * b) := (fdiv_iff _ _ _ (by omega)).1 (by omega)
    have l2 : (2 * a + b).fdiv (2 * b) ≤ 61 := by have := mt (fdiv_iff 62 (2 * a + b) (2 * b) (by omega)).2 (by omega); omega
    apply max1_ok
    · rw [List.mem_filter]; exact ⟨(mem_upI 123 (-61) _).2 (by omega), decide_eq_true ((eqv _).2 (Int.le_refl _))⟩
    · intro y hy; rw [List.mem_filter] at hy; exact (eqv y).1 (of_decide_eq_true hy.2)
  generalize (Wh.filter fun k => decide ((2 * k - 1) * b ≤ 2 * a)).map D.int = ys1 at *
  generalize Wh.map D.int = whs at *
  generalize a.fdiv b = u1 at *
  generalize -((-a).fdiv b) = u2 at *
  simp only [en] at c1 ⊢
  unfold law_8
  simp -implicitDefEqProofs only [stpC_v, stepF_v, List.set, evConds, ev.eq_1, ev.eq_2, ev.eq_3, ev.eq_4, ev.eq_5, ev.eq_6, ev.eq_7, ev.eq_8, ev.eq_9, ev.eq_10, ev.eq_11, ev.eq_12, ev.eq_13, ev.eq_14, ev.eq_15, ev.eq_16, ev.eq_17, ev.eq_18, ev.eq_19, ev.eq_20, ev.eq_21, ev.eq_22, ev.eq_23, ev.eq_24, ev.eq_25, ev.eq_26, ev.eq_27, ev.eq_28, ev.eq_29, ev.eq_30, ev.eq_31, ev.eq_32, ev.eq_33, ev.eq_34, ev.eq_35, ev.eq_36, ev.eq_37, ev.eq_38, ev.eq_39, ev.eq_40, ev.eq_41, ev.eq_43, evs, evAs, lateAs, evAnd, evOr, evIt, exs, ↓ex_for, ↓ex_whl, ex, getV, rdS, rdI, rdB, rdT, rdL, rdR, rdN, rdZ, bok, sok, ofS, nxB, reB, exB, exS, exR, late, liftO, isIo, ofCall, hasB, ioBack, Bool.false_and, Bool.false_eq_true, if_false, beq_self_eq_true, if_true, ite_true, trB, Bool.not_true, Bool.not_false, finR, finE, finT, opR, idx2_0, idx2_1, addI, subI, ltII, gtII, leI, geI, eqI, neI, intI, lend, unlend, back, tgIds, parC, parN, stV, stT, stsN, stsV, stsT, c1, m1]
end K10
end

section
set_option maxRecDepth 100000
/-! PureK10f: the law's body, third part -/
namespace K10
open LW
variable (w n : Nat) (ns : List Int) (hl : ns.length ≤ 63) (hw : 50000000 < w)
variable (a b c d : Int) (ha : -60 ≤ a ∧ a ≤ 60) (hb : 1 ≤ b ∧ b ≤ 60) (hc : -60 ≤ c ∧ c ≤ 60) (hd : 1 ≤ d ∧ d ≤ 60) (R : List D)
include ha hb in
theorem st9 (W : D) : ex prog (sem prog w (n + 8)) w law_9 (en ns a b c d R [some (frP (X a b)), some (frP (X c d)), some W, some (.int (a.fdiv b)), some (.int (-((-a).fdiv b))), none, some (.int ((2 * a + b).fdiv (2 * b))), none, none, none, none, none, none]) =
    .nx (en ns a b c d R [some (frP (X a b)), some (frP (X c d)), some W, some (.int (a.fdiv b)), some (.int (-((-a).fdiv b))), none, some (.int ((2 * a + b).fdiv (2 * b))), none, none, none, none, none, none]) := by
  have o1 := ok_X a b ha hb
  have p1 := o1.pos; have q1 := o1.b60; have t1 := o1.t60
  obtain ⟨g, hg, e1, e2, _, _⟩ := low_spec a b (by omega)
  have f1 : (X a b).1.fdiv (X a b).2 = a.fdiv b := by
    rw [← fdiv_scale g _ _ hg p1]
    show (g * lowT a b).fdiv (g * lowB a b) = _
    rw [← e1, ← e2]
  have f2 : (-(X a b).1).fdiv (X a b).2 = (-a).fdiv b := by
    rw [← fdiv_scale g _ _ hg p1]
    show (g * -lowT a b).fdiv (g * lowB a b) = _
    rw [Int.mul_neg, ← e1, ← e2]
  have f3 : (2 * (X a b).1 + (X a b).2).fdiv (2 * (X a b).2) = (2 * a + b).fdiv (2 * b) := by
    rw [← fdiv_scale g _ _ hg (by omega)]
    show (g * (2 * lowT a b + lowB a b)).fdiv (g * (2 * lowB a b)) = _
    rw [Int.mul_add, Int.mul_left_comm, ← e1, ← e2, Int.mul_left_comm, ← e2]
  have g1 : sem prog w (n + 8) 10 [frP (X a b)] = .ret (.int (a.fdiv b)) none := by
    rw [← f1]; exact floor_ok w (n + 7) _ _ (by simp only [divOk, decide_eq_true_eq]; omega)
  have g2 : sem prog w (n + 8) 11 [frP (X a b)] = .ret (.int (-((-a).fdiv b))) none := by
    rw [← f2]; exact ceil_ok w (n + 7) _ _ (by simp only [divOk, decide_eq_true_eq]; omega)
  have g3 : sem prog w (n + 8) 12 [frP (X a b)] = .ret (.int ((2 * a + b).fdiv (2 * b))) none := by
    rw [← f3]; exact near_ok w (n + 7) _ _ (by simp only [divOk, decide_eq_true_eq]; omega) (mulL _ _ (by decide) (by decide)) (mulL _ _ (by decide) (by decide))
  generalize a.fdiv b = u1 at *
  generalize -((-a).fdiv b) = u2 at *
  generalize (2 * a + b).fdiv (2 * b) = u3 at *
  have hA := k_alikeI w n u1 u2 u3
  simp only [en]
  simp -implicitDefEqProofs only [↓ev_comp, stpC_v, stepF_v, List.set, evConds, ev, evs, evAs, lateAs, evAnd, evOr, evIt, exs, ↓ex_for, ↓ex_whl, ex, getV, rdS, rdI, rdB, rdT, rdL, rdR, rdN, rdZ, bok, sok, ofS, nxB, reB, exB, exS, exR, late, liftO, isIo, ofCall, hasB, ioBack, Bool.false_and, Bool.false_eq_true, if_false, beq_self_eq_true, if_true, ite_true, trB, Bool.not_true, Bool.not_false, finR, finE, finT, opR, idx2_0, idx2_1, addI, subI, ltII, gtII, leI, geI, eqI, neI, intI, lend, unlend, back, tgIds, parC, parN, stV, stT, stsN, stsV, stsT, law_9, g1, g2, g3, hA, io16, io10, io11, io12, mkT3]
/-- six fractions at most: the bottoms' product is not great -/
theorem prodB_le : ∀ (m : Nat) (xs : List Fr), (∀ x ∈ xs, 0 < x.2 ∧ x.2 ≤ 6) → xs.length ≤ m → prodB xs ≤ 6 ^ m
  | 0, [], _, _ => by decide
  | m + 1, [], _, _ => by
    have : (0 : Int) < 6 ^ m := Int.pow_pos (by decide)
    show (1 : Int) ≤ 6 ^ (m + 1)
    rw [Int.pow_succ]; omega
  | 0, _ :: _, _, h => by simp at h
  | m + 1, x :: xs, h, hl => by
    have h1 := h x (List.mem_cons_self ..)
    have h2 := prodB_le m xs (fun y hy => h y (List.mem_cons_of_mem _ hy)) (by simpa using hl)
    have h3 : 0 < prodB xs := prodB_pos xs fun y hy => (h y (List.mem_cons_of_mem _ hy)).1
    show x.2 * prodB xs ≤ 6 ^ (m + 1)
    have : x.2 * prodB xs ≤ 6 * 6 ^ m := Int.mul_le_mul h1.2 h2 (by omega) (by decide)
    rw [Int.pow_succ]; omega
include hl hw in
theorem st10 (W u1 u2 u3 : D) (p s r : Int) (hp : 0 ≤ p) : ∃ p' s' r' ys, 0 ≤ p' ∧ (∀ y ∈ ys, Ok y ∧ y.2 ≤ 6) ∧ ys.length ≤ 4 ∧
    ex prog (sem prog w (n + 8)) w law_10 [some (sc ns), some (row4 ns p s r), some (.int a), some (.int b), some (.int c), some (.int d), some (frP (X a b)), some (frP (X c d)), some W, some u1, some u2, none, some u3, none, none, none, none, none, none] =
    .nx [some (sc ns), some (row4 ns p' s' r'), some (.int a), some (.int b), some (.int c), some (.int d), some (frP (X a b)), some (frP (X c d)), some W, some u1, some u2, none, some u3, some (.lst ((X a b :: X c d :: ys).map frP)), some (frP (0, 1)), none, none, none, none] := by
  obtain ⟨v1, p1, s1, r1, l1, m1, q1, h1⟩ := k_taken w n ns hl p s r 5 hp (by omega) (by omega)
  obtain ⟨rr, ys, ⟨p2, s2, r2, z, q2, hr⟩, hys, hyl, hloop⟩ := loopC_rel (stpC prog (sem prog w (n + 8)) (.v 11) (.call 2 (.cons .s (.bin .sub (.call 15 (.cons .io (.bor 1) (.cons .s (.int 40) .nil))) (.int 20)) (.cons .s (.bin .add (.int 1) (.call 15 (.cons .io (.bor 1) (.cons .s (.int 6) .nil)))) .nil))) .nil)
    (fun rr => ∃ p s r z, 0 ≤ p ∧ rr = [some (sc ns), some (row4 ns p s r), some (.int a), some (.int b), some (.int c), some (.int d), some (frP (X a b)), some (frP (X c d)), some W, some u1, some u2, z, some u3, none, none, none, none, none, none])
    (fun y => Ok y ∧ y.2 ≤ 6) frP (rangeL 0 v1.toNat 1) [] [some (sc ns), some (row4 ns p1 s1 r1), some (.int a), some (.int b), some (.int c), some (.int d), some (frP (X a b)), some (frP (X c d)), some W, some u1, some u2, none, some u3, none, none, none, none, none, none]
    ⟨p1, s1, r1, none, q1, rfl⟩ (by
      rintro x hx rr ⟨p, s, r, z, hp, rfl⟩
      obtain ⟨v2, p2, s2, r2, l2, m2, q2, h2⟩ := k_taken w n ns hl p s r 40 hp (by omega) (by omega)
      obtain ⟨v3, p3, s3, r3, l3, m3, q3, h3⟩ := k_taken w n ns hl p2 s2 r2 6 q2 (by omega) (by omega)
      have hred : sem prog w (n + 8) 2 [.int (v2 - 20), .int (1 + v3)] = .ret (frP (X (v2 - 20) (1 + v3))) none := k_red w n hw _ _ (by omega) (by omega)
      have ho := ok_X (v2 - 20) (1 + v3) (by omega) (by omega)
      have hle := low_le (v2 - 20) (1 + v3) (by omega)
      refine ⟨_, X (v2 - 20) (1 + v3), ⟨p3, s3, r3, some x, q3, rfl⟩, ⟨ho, by show lowB _ _ ≤ 6; omega⟩, ?_⟩
      simp -implicitDefEqProofs only [↓ev_comp, stpC_v, stepF_v, List.set, evConds, ev, evs, evAs, lateAs, evAnd, evOr, evIt, exs, ↓ex_for, ↓ex_whl, ex, getV, rdS, rdI, rdB, rdT, rdL, rdR, rdN, rdZ, bok, sok, ofS, nxB, reB, exB, exS, exR, late, liftO, isIo, ofCall, hasB, ioBack, Bool.false_and, Bool.false_eq_true, if_false, beq_self_eq_true, if_true, ite_true, trB, Bool.not_true, Bool.not_false, finR, finE, finT, opR, idx2_0, idx2_1, addI, subI, ltII, gtII, leI, geI, eqI, neI, intI, lend, unlend, back, tgIds, parC, parN, stV, stT, stsN, stsV, stsT, h2, h3, hred, io15, io2])
  rw [hr, List.nil_append] at hloop
  have hlen : (rangeL 0 v1.toNat 1).length = v1.toNat := by rw [rangeL_up, List.length_map, len_upI]
  have hyl2 : ys.length ≤ 4 := by rw [hyl, hlen]; omega
  have hrg : rangeD [.int v1] = some (rangeL 0 v1.toNat 1) := by
    have := range1 v1.toNat (by omega)
    rw [show ((v1.toNat : Nat) : Int) = v1 from by omega] at this; exact this
  refine ⟨p2, s2, r2, ys, q2, hys, hyl2, ?_⟩
  have hlm : LW.lim (ys.map frP) = true := lim_of _ (by rw [List.length_map]; omega)
  have hadd : binD .add (.lst [frP (X a b), frP (X c d)]) (.lst (ys.map frP)) = some (.lst ((X a b :: X c d :: ys).map frP)) := by
    show mkL ([frP (X a b), frP (X c d)] ++ ys.map frP) = _
    rw [mkL_le _ (by simp; omega)]; rfl
  have hT : ∀ (x : Option D) (r : Env), x = some W ∨ True := fun _ _ => .inr trivial
  generalize (X a b :: X c d :: ys).map frP = big at *
  simp -implicitDefEqProofs only [↓ev_comp, stpC_v, stepF_v, List.set, evConds, ev, evs, evAs, lateAs, evAnd, evOr, evIt, exs, ↓ex_for, ↓ex_whl, ex, getV, rdS, rdI, rdB, rdT, rdL, rdR, rdN, rdZ, bok, sok, ofS, nxB, reB, exB, exS, exR, late, liftO, isIo, ofCall, hasB, ioBack, Bool.false_and, Bool.false_eq_true, if_false, beq_self_eq_true, if_true, ite_true, trB, Bool.not_true, Bool.not_false, finR, finE, finT, opR, idx2_0, idx2_1, addI, subI, ltII, gtII, leI, geI, eqI, neI, intI, lend, unlend, back, tgIds, parC, parN, stV, stT, stsN, stsV, stsT, law_10, h1, io15, hrg, hloop, quS, hlm, mkL2, hadd, mkT2]
end K10
end

section
set_option maxRecDepth 100000
/-! PureK10g: the law's body, last part -/
namespace K10
open LW
variable (w n : Nat) (hw : 50000000 < w)
/-- the row of fractions -/
structure RowOk (ps : List Fr) : Prop where
  sum : SumOk ps (0, 1)
  len : ps.length ≤ 6
theorem rowOk (x y : Fr) (ys : List Fr) (hx : Ok x) (hy : Ok y) (h : ∀ z ∈ ys, Ok z ∧ z.2 ≤ 6) (hl : ys.length ≤ 4) : RowOk (x :: y :: ys) := by
  refine ⟨⟨by decide, ?_, ?_⟩, by simp; omega⟩
  · intro z hz
    rcases List.mem_cons.1 hz with e | e
    · rw [e]; exact hx
    rcases List.mem_cons.1 e with e | e
    · rw [e]; exact hy
    · exact (h z e).1
  · have h1 := prodB_le 4 ys (fun z hz => ⟨(h z hz).1.pos, (h z hz).2⟩) hl
    have h2 := prodB_pos ys fun z hz => (h z hz).1.pos
    have hp := hx.pos; have hq := hy.pos; have hp2 := hx.b60; have hq2 := hy.b60
    have h3 : y.2 * prodB ys ≤ 60 * 1296 := Int.mul_le_mul hq2 h1 (by omega) (by decide)
    have h4 : 0 < y.2 * prodB ys := Int.mul_pos hq h2
    have h5 : x.2 * (y.2 * prodB ys) ≤ 60 * (60 * 1296) := Int.mul_le_mul hp2 h3 (by omega) (by decide)
    show 1 * (x.2 * (y.2 * prodB ys)) ≤ 50000000
    omega
abbrev eo (S A B C E F G H W : D) (rest : List (Option D)) : Env := some S :: some A :: some B :: some C :: some E :: some F :: some G :: some H :: some W :: rest
variable (S A B C E F G H W : D)
theorem st11 (u1 u2 u3 : D) (ps : List Fr) (h : RowOk ps) : ∃ z, ex prog (sem prog w (n + 8)) w law_11 (eo S A B C E F G H W [some u1, some u2, none, some u3, some (.lst (ps.map frP)), some (frP (0, 1)), none, none, none, none]) =
    .nx (eo S A B C E F G H W [some u1, some u2, none, some u3, some (.lst (ps.map frP)), some (frP (ps.foldl sumF (0, 1))), z, none, none, none]) := by
  obtain ⟨r, ⟨⟨z, hr⟩, _⟩, hl⟩ := loopF_rem (stepF prog (sem prog w (n + 8)) w (.v 15) (.cons (.set 14 (.call 18 (.cons .s (.bin .add (.bin .mul (.idx (.var 14) (.int 0)) (.idx (.var 15) (.int 1))) (.bin .mul (.idx (.var 15) (.int 0)) (.idx (.var 14) (.int 1)))) (.cons .s (.bin .mul (.idx (.var 14) (.int 1)) (.idx (.var 15) (.int 1))) .nil)))) .nil))
    (fun rem s r => (∃ z, r = eo S A B C E F G H W [some u1, some u2, none, some u3, some (.lst (ps.map frP)), some (frP s), z, none, none, none]) ∧ SumOk rem s) frP sumF (by
      rintro x xs s r ⟨⟨z, rfl⟩, hI⟩
      obtain ⟨h1, h2, h3⟩ := hI.step
      have hx := hI.all x (List.mem_cons_self ..)
      have hx1 := hx.b60; have hx2 := hx.t60; have hx0 := hx.pos; have hs0 := hI.pos
      refine ⟨_, ⟨⟨some (frP x), rfl⟩, h1⟩, ?_⟩
      have m1 := mulI s.1 x.2 (mulR _ _ (by omega) (by omega))
      have m2 := mulI x.1 s.2 (mulL _ _ (by omega) (by omega))
      have m3 := mulI s.2 x.2 (mulR _ _ (by omega) (by omega))
      have hlow : sem prog w (n + 8) 18 [.int (s.1 * x.2 + x.1 * s.2), .int (s.2 * x.2)] = .ret (frP (sumF s x)) none := k_low w n _ _ (Int.mul_pos hs0 hx0) h2
      generalize ps.map frP = PS
      simp -implicitDefEqProofs only [↓ev_comp, stpC_v, stepF_v, List.set, evConds, ev, evs, evAs, lateAs, evAnd, evOr, evIt, exs, ↓ex_for, ↓ex_whl, ex, getV, rdS, rdI, rdB, rdT, rdL, rdR, rdN, rdZ, bok, sok, ofS, nxB, reB, exB, exS, exR, late, liftO, isIo, ofCall, hasB, ioBack, Bool.false_and, Bool.false_eq_true, if_false, beq_self_eq_true, if_true, ite_true, trB, Bool.not_true, Bool.not_false, finR, finE, finT, opR, idx2_0, idx2_1, addI, subI, ltII, gtII, leI, geI, eqI, neI, intI, lend, unlend, back, tgIds, parC, parN, stV, stT, stsN, stsV, stsT, m1, m2, m3, hlow, io18]) ps (0, 1) (eo S A B C E F G H W [some u1, some u2, none, some u3, some (.lst (ps.map frP)), some (frP (0, 1)), none, none, none, none]) ⟨⟨none, rfl⟩, h.sum⟩
  rw [hr] at hl
  refine ⟨z, ?_⟩
  generalize ps.map frP = PS at *
  unfold law_11
  rw [ex_for]
  simp -implicitDefEqProofs only [↓ev_comp, stpC_v, stepF_v, List.set, evConds, ev, evs, evAs, lateAs, evAnd, evOr, evIt, exs, ↓ex_for, ↓ex_whl, ex, getV, rdS, rdI, rdB, rdT, rdL, rdR, rdN, rdZ, bok, sok, ofS, nxB, reB, exB, exS, exR, late, liftO, isIo, ofCall, hasB, ioBack, Bool.false_and, Bool.false_eq_true, if_false, beq_self_eq_true, if_true, ite_true, trB, Bool.not_true, Bool.not_false, finR, finE, finT, opR, idx2_0, idx2_1, addI, subI, ltII, gtII, leI, geI, eqI, neI, intI, lend, unlend, back, tgIds, parC, parN, stV, stT, stsN, stsV, stsT, iterL]
  exact hl
include hw in
theorem st12 (u1 u2 u3 : D) (z : Option D) (ps : List Fr) (h : RowOk ps) : ex prog (sem prog w (n + 8)) w law_12 (eo S A B C E F G H W [some u1, some u2, none, some u3, some (.lst (ps.map frP)), some (frP (ps.foldl sumF (0, 1))), z, none, none, none]) =
    .nx (eo S A B C E F G H W [some u1, some u2, none, some u3, some (.lst (ps.map frP)), some (frP (ps.foldl sumF (0, 1))), z, none, none, none]) := by
  have h1 := total_ok w (n + 5) ps h.sum hw
  rw [show n + 5 + 3 = n + 8 from rfl] at h1
  generalize ps.foldl sumF (0, 1) = t at *
  generalize ps.map frP = PS at *
  simp -implicitDefEqProofs only [↓ev_comp, stpC_v, stepF_v, List.set, evConds, ev, evs, evAs, lateAs, evAnd, evOr, evIt, exs, ↓ex_for, ↓ex_whl, ex, getV, rdS, rdI, rdB, rdT, rdL, rdR, rdN, rdZ, bok, sok, ofS, nxB, reB, exB, exS, exR, late, liftO, isIo, ofCall, hasB, ioBack, Bool.false_and, Bool.false_eq_true, if_false, beq_self_eq_true, if_true, ite_true, trB, Bool.not_true, Bool.not_false, finR, finE, finT, opR, idx2_0, idx2_1, addI, subI, ltII, gtII, leI, geI, eqI, neI, intI, lend, unlend, back, tgIds, parC, parN, stV, stT, stsN, stsV, stsT, law_12, h1, k_alike1, io13, io16]
theorem st13 (u1 u2 u3 t : D) (z : Option D) (PS : List D) (m : Fr) (h : sem prog w (n + 8) 14 [.lst PS] = .ret (frP m) none) : ex prog (sem prog w (n + 8)) w law_13 (eo S A B C E F G H W [some u1, some u2, none, some u3, some (.lst PS), some t, z, none, none, none]) =
    .nx (eo S A B C E F G H W [some u1, some u2, none, some u3, some (.lst PS), some t, z, some (frP m), none, none]) := by
  simp -implicitDefEqProofs only [↓ev_comp, stpC_v, stepF_v, List.set, evConds, ev, evs, evAs, lateAs, evAnd, evOr, evIt, exs, ↓ex_for, ↓ex_whl, ex, getV, rdS, rdI, rdB, rdT, rdL, rdR, rdN, rdZ, bok, sok, ofS, nxB, reB, exB, exS, exR, late, liftO, isIo, ofCall, hasB, ioBack, Bool.false_and, Bool.false_eq_true, if_false, beq_self_eq_true, if_true, ite_true, trB, Bool.not_true, Bool.not_false, finR, finE, finT, opR, idx2_0, idx2_1, addI, subI, ltII, gtII, leI, geI, eqI, neI, intI, lend, unlend, back, tgIds, parC, parN, stV, stT, stsN, stsV, stsT, law_13, h, io14]
theorem filterMap_one (q : Fr → Bool) : ∀ xs : List Fr, (xs.filterMap fun k => if q k then some (D.int 1) else none).length = xs.countP q
  | [] => rfl
  | x :: xs => by
    cases h : q x with
    | true => simp only [List.filterMap_cons, h, if_true, List.length_cons, filterMap_one q xs, List.countP_cons]
    | false => simp only [List.filterMap_cons, h, Bool.false_eq_true, if_false, filterMap_one q xs, List.countP_cons, Nat.add_zero]
theorem st14 (u1 u2 u3 t : D) (z : Option D) (ps : List Fr) (m : Fr) (hm : -1000000 < m.1 ∧ m.1 < 1000000 ∧ -1000000 < m.2 ∧ m.2 < 1000000) (hl : ps.length ≤ 1000) : ∃ z', ex prog (sem prog w (n + 8)) w law_14 (eo S A B C E F G H W [some u1, some u2, none, some u3, some (.lst (ps.map frP)), some t, z, some (frP m), none, none]) =
    .nx (eo S A B C E F G H W [some (.int (ps.countP fun o => ltF o m : Nat)), some u2, none, some u3, some (.lst (ps.map frP)), some t, z', some (frP m), none, none]) := by
  obtain ⟨r', ⟨z', hz⟩, h2⟩ := loopC_inv (stpC prog (sem prog w (n + 8)) (.v 15) (.int 1) (.cons (.cmp .lt (.bin .mul (.idx (.var 15) (.int 0)) (.idx (.var 16) (.int 1))) (.bin .mul (.idx (.var 16) (.int 0)) (.idx (.var 15) (.int 1)))) .nil))
    (fun r => ∃ z, r = eo S A B C E F G H W [some u1, some u2, none, some u3, some (.lst (ps.map frP)), some t, z, some (frP m), none, none]) frP (fun o => if ltF o m then some (.int 1) else none) ps [] (eo S A B C E F G H W [some u1, some u2, none, some u3, some (.lst (ps.map frP)), some t, z, some (frP m), none, none]) ⟨z, rfl⟩ (by
      rintro o ho r ⟨z, rfl⟩
      refine ⟨_, ⟨some (frP o), rfl⟩, ?_⟩
      have m1 := mulI o.1 m.2 (mulR _ _ (by omega) (by omega))
      have m2 := mulI m.1 o.2 (mulL _ _ (by omega) (by omega))
      generalize ps.map frP = PS
      cases hq : ltF o m with
      | true => have hq' : decide (o.1 * m.2 < m.1 * o.2) = true := hq; simp -implicitDefEqProofs only [↓ev_comp, stpC_v, stepF_v, List.set, evConds, ev, evs, evAs, lateAs, evAnd, evOr, evIt, exs, ↓ex_for, ↓ex_whl, ex, getV, rdS, rdI, rdB, rdT, rdL, rdR, rdN, rdZ, bok, sok, ofS, nxB, reB, exB, exS, exR, late, liftO, isIo, ofCall, hasB, ioBack, Bool.false_and, Bool.false_eq_true, if_false, beq_self_eq_true, if_true, ite_true, trB, Bool.not_true, Bool.not_false, finR, finE, finT, opR, idx2_0, idx2_1, addI, subI, ltII, gtII, leI, geI, eqI, neI, intI, lend, unlend, back, tgIds, parC, parN, stV, stT, stsN, stsV, stsT, m1, m2, hq']
      | false => have hq' : decide (o.1 * m.2 < m.1 * o.2) = false := hq; simp -implicitDefEqProofs only [↓ev_comp, stpC_v, stepF_v, List.set, evConds, ev, evs, evAs, lateAs, evAnd, evOr, evIt, exs, ↓ex_for, ↓ex_whl, ex, getV, rdS, rdI, rdB, rdT, rdL, rdR, rdN, rdZ, bok, sok, ofS, nxB, reB, exB, exS, exR, late, liftO, isIo, ofCall, hasB, ioBack, Bool.false_and, Bool.false_eq_true, if_false, beq_self_eq_true, if_true, ite_true, trB, Bool.not_true, Bool.not_false, finR, finE, finT, opR, idx2_0, idx2_1, addI, subI, ltII, gtII, leI, geI, eqI, neI, intI, lend, unlend, back, tgIds, parC, parN, stV, stT, stsN, stsV, stsT, m1, m2, hq'])
  rw [hz, List.nil_append] at h2
  have hc := filterMap_one (fun o => ltF o m) ps
  have hlm : LW.lim (ps.filterMap fun o => if ltF o m then some (D.int 1) else none) = true := by
    apply lim_of; have := List.length_filterMap_le (fun o => if ltF o m then some (D.int 1) else none) ps; omega
  generalize (ps.filterMap fun o => if ltF o m then some (D.int 1) else none) = ys at *
  refine ⟨rd (eo S A B C E F G H W [some u1, some u2, none, some u3, some (.lst (ps.map frP)), some t, z, some (frP m), none, none]) 15, ?_⟩
  generalize ps.map frP = PS at *
  generalize ps.countP (fun o => ltF o m) = cnt at *
  simp -implicitDefEqProofs only [↓ev_comp, stpC_v, stepF_v, List.set, evConds, ev, evs, evAs, lateAs, evAnd, evOr, evIt, exs, ↓ex_for, ↓ex_whl, ex, getV, rdS, rdI, rdB, rdT, rdL, rdR, rdN, rdZ, bok, sok, ofS, nxB, reB, exB, exS, exR, late, liftO, isIo, ofCall, hasB, ioBack, Bool.false_and, Bool.false_eq_true, if_false, beq_self_eq_true, if_true, ite_true, trB, Bool.not_true, Bool.not_false, finR, finE, finT, opR, idx2_0, idx2_1, addI, subI, ltII, gtII, leI, geI, eqI, neI, intI, lend, unlend, back, tgIds, parC, parN, stV, stT, stsN, stsV, stsT, law_14, iterL, h2, quS, hlm, lenL, hc]
theorem st15 (u1 u2 u3 t : D) (z : Option D) (ps : List Fr) (m : Fr) (hm : -1000000 < m.1 ∧ m.1 < 1000000 ∧ -1000000 < m.2 ∧ m.2 < 1000000) (hl : ps.length ≤ 1000) : ∃ z', ex prog (sem prog w (n + 8)) w law_15 (eo S A B C E F G H W [some u1, some u2, none, some u3, some (.lst (ps.map frP)), some t, z, some (frP m), none, none]) =
    .nx (eo S A B C E F G H W [some u1, some (.int (ps.countP fun o => ltF m o : Nat)), none, some u3, some (.lst (ps.map frP)), some t, z', some (frP m), none, none]) := by
  obtain ⟨r', ⟨z', hz⟩, h2⟩ := loopC_inv (stpC prog (sem prog w (n + 8)) (.v 15) (.int 1) (.cons (.cmp .gt (.bin .mul (.idx (.var 15) (.int 0)) (.idx (.var 16) (.int 1))) (.bin .mul (.idx (.var 16) (.int 0)) (.idx (.var 15) (.int 1)))) .nil))
    (fun r => ∃ z, r = eo S A B C E F G H W [some u1, some u2, none, some u3, some (.lst (ps.map frP)), some t, z, some (frP m), none, none]) frP (fun o => if ltF m o then some (.int 1) else none) ps [] (eo S A B C E F G H W [some u1, some u2, none, some u3, some (.lst (ps.map frP)), some t, z, some (frP m), none, none]) ⟨z, rfl⟩ (by
      rintro o ho r ⟨z, rfl⟩
      refine ⟨_, ⟨some (frP o), rfl⟩, ?_⟩
      have m1 := mulI o.1 m.2 (mulR _ _ (by omega) (by omega))
      have m2 := mulI m.1 o.2 (mulL _ _ (by omega) (by omega))
      generalize ps.map frP = PS
      cases hq : ltF m o with
      | true => have hq' : decide (m.1 * o.2 < o.1 * m.2) = true := hq; simp -implicitDefEqProofs only [↓ev_comp, stpC_v, stepF_v, List.set, evConds, ev, evs, evAs, lateAs, evAnd, evOr, evIt, exs, ↓ex_for, ↓ex_whl, ex, getV, rdS, rdI, rdB, rdT, rdL, rdR, rdN, rdZ, bok, sok, ofS, nxB, reB, exB, exS, exR, late, liftO, isIo, ofCall, hasB, ioBack, Bool.false_and, Bool.false_eq_true, if_false, beq_self_eq_true, if_true, ite_true, trB, Bool.not_true, Bool.not_false, finR, finE, finT, opR, idx2_0, idx2_1, addI, subI, ltII, gtII, leI, geI, eqI, neI, intI, lend, unlend, back, tgIds, parC, parN, stV, stT, stsN, stsV, stsT, m1, m2, hq']
      | false => have hq' : decide (m.1 * o.2 < o.1 * m.2) = false := hq; simp -implicitDefEqProofs only [↓ev_comp, stpC_v, stepF_v, List.set, evConds, ev, evs, evAs, lateAs, evAnd, evOr, evIt, exs, ↓ex_for, ↓ex_whl, ex, getV, rdS, rdI, rdB, rdT, rdL, rdR, rdN, rdZ, bok, sok, ofS, nxB, reB, exB, exS, exR, late, liftO, isIo, ofCall, hasB, ioBack, Bool.false_and, Bool.false_eq_true, if_false, beq_self_eq_true, if_true, ite_true, trB, Bool.not_true, Bool.not_false, finR, finE, finT, opR, idx2_0, idx2_1, addI, subI, ltII, gtII, leI, geI, eqI, neI, intI, lend, unlend, back, tgIds, parC, parN, stV, stT, stsN, stsV, stsT, m1, m2, hq'])
  rw [hz, List.nil_append] at h2
  have hc := filterMap_one (fun o => ltF m o) ps
  have hlm : LW.lim (ps.filterMap fun o => if ltF m o then some (D.int 1) else none) = true := by
    apply lim_of; have := List.length_filterMap_le (fun o => if ltF m o then some (D.int 1) else none) ps; omega
  generalize (ps.filterMap fun o => if ltF m o then some (D.int 1) else none) = ys at *
  refine ⟨rd (eo S A B C E F G H W [some u1, some u2, none, some u3, some (.lst (ps.map frP)), some t, z, some (frP m), none, none]) 15, ?_⟩
  generalize ps.map frP = PS at *
  generalize ps.countP (fun o => ltF m o) = cnt at *
  simp -implicitDefEqProofs only [↓ev_comp, stpC_v, stepF_v, List.set, evConds, ev, evs, evAs, lateAs, evAnd, evOr, evIt, exs, ↓ex_for, ↓ex_whl, ex, getV, rdS, rdI, rdB, rdT, rdL, rdR, rdN, rdZ, bok, sok, ofS, nxB, reB, exB, exS, exR, late, liftO, isIo, ofCall, hasB, ioBack, Bool.false_and, Bool.false_eq_true, if_false, beq_self_eq_true, if_true, ite_true, trB, Bool.not_true, Bool.not_false, finR, finE, finT, opR, idx2_0, idx2_1, addI, subI, ltII, gtII, leI, geI, eqI, neI, intI, lend, unlend, back, tgIds, parC, parN, stV, stT, stsN, stsV, stsT, law_15, iterL, h2, quS, hlm, lenL, hc]
theorem pl_fr (x : Fr) : pl8 (frP x) = true := rfl
theorem in_frs (m : Fr) (ps : List Fr) (h : m ∈ ps) : cmpD .notin (frP m) (.lst (ps.map frP)) = some false := by
  have h1 : (ps.map frP).all pl8 = true := by
    rw [List.all_eq_true]; intro x hx
    obtain ⟨y, _, rfl⟩ := List.mem_map.1 hx; exact pl_fr y
  have h2 : (ps.map frP).any (eqD · (frP m)) = true := by
    rw [List.any_eq_true]
    refine ⟨frP m, List.mem_map.2 ⟨m, h, rfl⟩, ?_⟩
    show (m.1 == m.1 && (m.2 == m.2 && true)) = true
    simp
  show Option.map _ (if pl8 (frP m) && (ps.map frP).all pl8 then some ((ps.map frP).any (eqD · (frP m))) else none) = _
  rw [h1, h2, pl_fr]; rfl
theorem st16 (u3 t : D) (z : Option D) (ps : List Fr) (m : Fr) (lo hi : Nat) (h1 : 2 * lo ≤ ps.length) (h2 : 2 * hi ≤ ps.length) (h3 : ps.length % 2 = 1 → m ∈ ps) (hl : ps.length ≤ 1000) : ex prog (sem prog w (n + 8)) w law_16 (eo S A B C E F G H W [some (.int lo), some (.int hi), none, some u3, some (.lst (ps.map frP)), some t, z, some (frP m), none, none]) =
    .nx (eo S A B C E F G H W [some (.int lo), some (.int hi), none, some u3, some (.lst (ps.map frP)), some t, z, some (frP m), none, none]) := by
  have hlen : biD .len [.lst (ps.map frP)] = some (.int ps.length) := by rw [lenL, List.length_map]
  have e1 : decide ((ps.length : Int) < 2 * lo) = false := decide_eq_false (by omega)
  have e2 : decide ((ps.length : Int) < 2 * hi) = false := decide_eq_false (by omega)
  have m1 := mulI 2 lo (mulL _ _ (by omega) (by omega))
  have m2 := mulI 2 hi (mulL _ _ (by omega) (by omega))
  have hmod := modI ps.length 2 (by decide)
  have hin := in_frs m ps
  cases ho : ((ps.length : Int).fmod 2 == 1) with
  | false =>
    generalize (lo : Int) = lo' at *
    generalize (hi : Int) = hi' at *
    generalize (ps.length : Int) = ln at *
    generalize ps.map frP = PS at *
    simp -implicitDefEqProofs only [↓ev_comp, stpC_v, stepF_v, List.set, evConds, ev, evs, evAs, lateAs, evAnd, evOr, evIt, exs, ↓ex_for, ↓ex_whl, ex, getV, rdS, rdI, rdB, rdT, rdL, rdR, rdN, rdZ, bok, sok, ofS, nxB, reB, exB, exS, exR, late, liftO, isIo, ofCall, hasB, ioBack, Bool.false_and, Bool.false_eq_true, if_false, beq_self_eq_true, if_true, ite_true, trB, Bool.not_true, Bool.not_false, finR, finE, finT, opR, idx2_0, idx2_1, addI, subI, ltII, gtII, leI, geI, eqI, neI, intI, lend, unlend, back, tgIds, parC, parN, stV, stT, stsN, stsV, stsT, law_16, hlen, m1, m2, e1, e2, hmod, ho]
  | true =>
    have hin := hin (h3 (by
      have := eq_of_beq ho
      rw [Int.fmod_eq_emod_of_nonneg _ (by decide)] at this; omega))
    generalize (lo : Int) = lo' at *
    generalize (hi : Int) = hi' at *
    generalize (ps.length : Int) = ln at *
    generalize ps.map frP = PS at *
    simp -implicitDefEqProofs only [↓ev_comp, stpC_v, stepF_v, List.set, evConds, ev, evs, evAs, lateAs, evAnd, evOr, evIt, exs, ↓ex_for, ↓ex_whl, ex, getV, rdS, rdI, rdB, rdT, rdL, rdR, rdN, rdZ, bok, sok, ofS, nxB, reB, exB, exS, exR, late, liftO, isIo, ofCall, hasB, ioBack, Bool.false_and, Bool.false_eq_true, if_false, beq_self_eq_true, if_true, ite_true, trB, Bool.not_true, Bool.not_false, finR, finE, finT, opR, idx2_0, idx2_1, addI, subI, ltII, gtII, leI, geI, eqI, neI, intI, lend, unlend, back, tgIds, parC, parN, stV, stT, stsN, stsV, stsT, law_16, hlen, m1, m2, e1, e2, hmod, ho, hin]
end K10
end

section
set_option maxRecDepth 100000
/-! PureK10h: wrong values; the law -/
namespace K10
open LW
variable (w n : Nat) (hw : 50000000 < w)
abbrev e17 (ns R : List D) (a b c d : Int) (x y : Fr) (W : List D) (u1 u2 u3 : Int) (PS : List D) (t m : Fr) (z15 z17 z18 : Option D) : Env :=
  [some (.ro ns), some (.lst R), some (.int a), some (.int b), some (.int c), some (.int d), some (frP x), some (frP y), some (.lst W), some (.int u1), some (.int u2), none, some (.int u3), some (.lst PS), some (frP t), z15, some (frP m), z17, z18]
abbrev body17 : Ss := (.cons (.ite (.call 3 (.cons .s (.var 17) .nil)) (.cons (.ret (.bl false)) .nil) .nil) (.cons (.tr (.cons (.ex (.call 4 (.cons .s (.var 17) .nil))) (.cons (.ret (.bl false)) .nil)) (.cons 4 (some 18) (.cons (.ite (.reprNe (.xf 18 0) (.var 17)) (.cons (.ret (.bl false)) .nil) .nil) .nil) .nil)) .nil))
theorem exc4 : prog.exc 4 = true := rfl
theorem sub44 : prog.sub 4 4 = true := rfl
theorem clrN (r : Env) : clr (none :: r) = none :: clr r := rfl
theorem clrI (i : Int) (r : Env) : clr (some (.int i) :: r) = some (.int i) :: clr r := rfl
theorem clrL (i : List D) (r : Env) : clr (some (.lst i) :: r) = some (.lst i) :: clr r := rfl
theorem clrT (i : List D) (r : Env) : clr (some (.tup i) :: r) = some (.tup i) :: clr r := rfl
theorem clrR (i : List D) (r : Env) : clr (some (.ro i) :: r) = some (.ro i) :: clr r := rfl
theorem clrX (c : Nat) (fs : List D) (r : Env) : clr (some (.exc c fs) :: r) = none :: clr r := rfl
theorem clrE : clr [] = [] := rfl
theorem clrV (v : D) (r : Env) (h : isX v = false) : clr (some v :: r) = some v :: clr r := by
  show (if isX v then none else some v) :: clr r = _
  rw [h]; rfl
theorem xfS (P : Prog) (call : Nat → List D → CR) (x : Option D) (r : Env) (i k : Nat) (c : Nat) (fs : List D) (v : D) (h : r[i]? = some (some (.exc c fs))) (h2 : fs[k]? = some v) : ev P call (.xf i k) r = .ok v r := by
  simp only [ev, h, h2, ofS]
theorem clr1 (z : Option D) : ∃ q, (∀ r, clr (z :: r) = q :: clr r) ∧ ∀ r, clr (q :: r) = q :: clr r := by
  cases z with
  | none => exact ⟨none, fun _ => rfl, fun _ => rfl⟩
  | some u =>
    cases hu : isX u with
    | true => exact ⟨none, fun r => by show (if isX u then none else some u) :: clr r = _; rw [hu]; rfl, fun _ => rfl⟩
    | false => exact ⟨some u, fun r => clrV u r hu, fun r => clrV u r hu⟩
theorem step17 (ns R : List D) (a b c d : Int) (x y : Fr) (W : List D) (u1 u2 u3 : Int) (PS : List D) (t m : Fr) (z15 z17 z18 : Option D) (v : D) (hx : isX v = false)
    (h3 : sem prog w (n + 8) 3 [v] = .ret (.bl false) none) (h4 : sem prog w (n + 8) 4 [v] = .ex 4 [v] none) (hr : reprNe v v = some (.bl false)) (hr2 : reprOk v = true) :
    ∃ z15' z17', stepF prog (sem prog w (n + 8)) w (.v 17) body17 v (e17 ns R a b c d x y W u1 u2 u3 PS t m z15 z17 z18) = .nx (e17 ns R a b c d x y W u1 u2 u3 PS t m z15' z17' none) := by
  have hv : ∀ r, rd (some v :: r) 0 = some v := fun r => by
    show (if isX v then none else some v) = _
    rw [hx]; rfl
  obtain ⟨z, hz, hz2⟩ := clr1 z15
  obtain ⟨q, hq, _⟩ := clr1 z18
  refine ⟨z, some v, ?_⟩
  have hxf : ev prog (sem prog w (n + 8)) (.xf 18 0) (e17 ns R a b c d x y W u1 u2 u3 PS t m z (some v) (some (.exc 4 [v]))) = .ok v (e17 ns R a b c d x y W u1 u2 u3 PS t m z (some v) (some (.exc 4 [v]))) :=
    xfS prog _ none _ 18 0 4 [v] v rfl rfl
  generalize sem prog w (n + 8) = call at *
  have hb : exs prog call w (.cons (.ex (.call 4 (.cons .s (.var 17) .nil))) (.cons (.ret (.bl false)) .nil)) (e17 ns R a b c d x y W u1 u2 u3 PS t m z15 (some v) z18) = .ex 4 [v] (e17 ns R a b c d x y W u1 u2 u3 PS t m z15 (some v) z18) := by
    simp -implicitDefEqProofs only [↓ev_comp, stpC_v, stepF_v, List.set, evConds, ev, evs, evAs, lateAs, evAnd, evOr, evIt, exs, ↓ex_for, ↓ex_whl, ex, getV, rdS, rdI, rdB, rdT, rdL, rdR, rdN, rdZ, bok, sok, ofS, nxB, reB, exB, exS, exR, late, liftO, isIo, ofCall, hasB, ioBack, Bool.false_and, Bool.false_eq_true, if_false, beq_self_eq_true, if_true, ite_true, trB, Bool.not_true, Bool.not_false, finR, finE, finT, opR, idx2_0, idx2_1, addI, subI, ltII, gtII, leI, geI, eqI, neI, intI, lend, unlend, back, tgIds, parC, parN, stV, stT, stsN, stsV, stsT, h4, io4, hv]
  have hc1 : (clr (e17 ns R a b c d x y W u1 u2 u3 PS t m z15 (some v) z18)).set 18 (some (.exc 4 [v])) = e17 ns R a b c d x y W u1 u2 u3 PS t m z (some v) (some (.exc 4 [v])) := by
    simp only [e17, clrN, clrI, clrL, clrT, clrR, clrE, clrV v _ hx, hz, hq, List.set]
  have hc2 : (clr (e17 ns R a b c d x y W u1 u2 u3 PS t m z (some v) (some (.exc 4 [v])))).set 18 none = e17 ns R a b c d x y W u1 u2 u3 PS t m z (some v) none := by
    simp only [e17, clrN, clrI, clrL, clrT, clrR, clrE, clrX, clrV v _ hx, hz2, List.set]
  have hne : ev prog call (.reprNe (.xf 18 0) (.var 17)) (e17 ns R a b c d x y W u1 u2 u3 PS t m z (some v) (some (.exc 4 [v]))) = .ok (.bl false) (e17 ns R a b c d x y W u1 u2 u3 PS t m z (some v) (some (.exc 4 [v]))) := by
    simp -implicitDefEqProofs only [ev.eq_18, hxf, bok, hr2, if_true]
    simp -implicitDefEqProofs only [↓ev_comp, stpC_v, stepF_v, List.set, evConds, ev, evs, evAs, lateAs, evAnd, evOr, evIt, exs, ↓ex_for, ↓ex_whl, ex, getV, rdS, rdI, rdB, rdT, rdL, rdR, rdN, rdZ, bok, sok, ofS, nxB, reB, exB, exS, exR, late, liftO, isIo, ofCall, hasB, ioBack, Bool.false_and, Bool.false_eq_true, if_false, beq_self_eq_true, if_true, ite_true, trB, Bool.not_true, Bool.not_false, finR, finE, finT, opR, idx2_0, idx2_1, addI, subI, ltII, gtII, leI, geI, eqI, neI, intI, lend, unlend, back, tgIds, parC, parN, stV, stT, stsN, stsV, stsT, hv, hr]
  have hh : exs prog call w (.cons (.ite (.reprNe (.xf 18 0) (.var 17)) (.cons (.ret (.bl false)) .nil) .nil) .nil) (e17 ns R a b c d x y W u1 u2 u3 PS t m z (some v) (some (.exc 4 [v]))) = .nx (e17 ns R a b c d x y W u1 u2 u3 PS t m z (some v) (some (.exc 4 [v]))) := by
    rw [exs_cons]
    simp -implicitDefEqProofs only [ex, hne, sok, trB, exs, nxB]
  have htr := ex_tr prog call w _ (.cons 4 (some 18) (.cons (.ite (.reprNe (.xf 18 0) (.var 17)) (.cons (.ret (.bl false)) .nil) .nil) .nil) .nil) _ _ _ _ hb
  rw [exh_as prog call w 4 18 _ _ 4 [v] _ _ exc4 sub44 (by rw [hc1]; exact hh), hc2] at htr
  rw [stepF_v, show (e17 ns R a b c d x y W u1 u2 u3 PS t m z15 z17 z18).set 17 (some v) = e17 ns R a b c d x y W u1 u2 u3 PS t m z15 (some v) z18 from rfl, exs_cons]
  have h1 : ex prog call w (.ite (.call 3 (.cons .s (.var 17) .nil)) (.cons (.ret (.bl false)) .nil) .nil) (e17 ns R a b c d x y W u1 u2 u3 PS t m z15 (some v) z18) = .nx (e17 ns R a b c d x y W u1 u2 u3 PS t m z15 (some v) z18) := by
    simp -implicitDefEqProofs only [↓ev_comp, stpC_v, stepF_v, List.set, evConds, ev, evs, evAs, lateAs, evAnd, evOr, evIt, exs, ↓ex_for, ↓ex_whl, ex, getV, rdS, rdI, rdB, rdT, rdL, rdR, rdN, rdZ, bok, sok, ofS, nxB, reB, exB, exS, exR, late, liftO, isIo, ofCall, hasB, ioBack, Bool.false_and, Bool.false_eq_true, if_false, beq_self_eq_true, if_true, ite_true, trB, Bool.not_true, Bool.not_false, finR, finE, finT, opR, idx2_0, idx2_1, addI, subI, ltII, gtII, leI, geI, eqI, neI, intI, lend, unlend, back, tgIds, parC, parN, stV, stT, stsN, stsV, stsT, h3, io3, hv]
  rw [h1, nxB, exs_cons, htr, nxB, exs_nil]
theorem bad_end (v : D) (hx : isX v = false) (h3 : ∀ k, sem prog (w + 10) (k + 5) 3 [v] = .ret (.bl false) none) : sem prog (w + 10) (n + 8) 4 [v] = .ex 4 [v] none :=
  want_bad (w + 10) (n + 7) v (fun r => by
    show (if isX v then none else some v) = _
    rw [hx]; rfl) (h3 (n + 2))
abbrev bads : List D := [.non, .tup [.int 1, .int 0], .tup [.int 2, .int 4], .tup [.int 0, .int 2], .tup [.int 1], .tup [.bl true, .int 2], .lst [.int 1, .int 2, .int 3], .int 5, .tup [.int 1, .int (-1)]]
theorem bads_ok : ∀ v ∈ bads, isX v = false ∧ reprNe v v = some (.bl false) ∧ reprOk v = true ∧ ∀ k, sem prog (w + 10) (k + 5) 3 [v] = .ret (.bl false) none := by
  intro v hv
  rcases List.mem_cons.1 hv with rfl | hv
  · exact ⟨rfl, rfl, rfl, fun _ => rfl⟩
  rcases List.mem_cons.1 hv with rfl | hv
  · exact ⟨rfl, rfl, rfl, fun _ => rfl⟩
  rcases List.mem_cons.1 hv with rfl | hv
  · exact ⟨rfl, rfl, rfl, fun _ => rfl⟩
  rcases List.mem_cons.1 hv with rfl | hv
  · exact ⟨rfl, rfl, rfl, fun _ => rfl⟩
  rcases List.mem_cons.1 hv with rfl | hv
  · exact ⟨rfl, rfl, rfl, fun _ => rfl⟩
  rcases List.mem_cons.1 hv with rfl | hv
  · exact ⟨rfl, rfl, rfl, fun _ => rfl⟩
  rcases List.mem_cons.1 hv with rfl | hv
  · exact ⟨rfl, rfl, rfl, fun _ => rfl⟩
  rcases List.mem_cons.1 hv with rfl | hv
  · exact ⟨rfl, rfl, rfl, fun _ => rfl⟩
  rcases List.mem_cons.1 hv with rfl | hv
  · exact ⟨rfl, rfl, rfl, fun _ => rfl⟩
  cases hv
theorem st17 (ns R : List D) (a b c d : Int) (x y : Fr) (W : List D) (u1 u2 u3 : Int) (PS : List D) (t m : Fr) (z15 : Option D) :
    ∃ z15' z17', ex prog (sem prog (w + 10) (n + 8)) (w + 10) law_17 (e17 ns R a b c d x y W u1 u2 u3 PS t m z15 none none) = .nx (e17 ns R a b c d x y W u1 u2 u3 PS t m z15' z17' none) := by
  have loop : ∀ (l : List D), (∀ v ∈ l, v ∈ bads) → ∀ z15 z17, ∃ z15' z17', loopF (stepF prog (sem prog (w + 10) (n + 8)) (w + 10) (.v 17) body17) l (e17 ns R a b c d x y W u1 u2 u3 PS t m z15 z17 none) = .nx (e17 ns R a b c d x y W u1 u2 u3 PS t m z15' z17' none) := by
    intro l
    induction l with
    | nil => intro _ z15 z17; exact ⟨z15, z17, rfl⟩
    | cons v l ih =>
      intro h z15 z17
      obtain ⟨h1, h2, h3, h4⟩ := bads_ok w v (h v (List.mem_cons_self ..))
      obtain ⟨z1, z2, hs⟩ := step17 (w + 10) n ns R a b c d x y W u1 u2 u3 PS t m z15 z17 none v h1 (h4 (n + 3)) (bad_end w n v h1 h4) h2 h3
      obtain ⟨z3, z4, hl⟩ := ih (fun u hu => h u (List.mem_cons_of_mem _ hu)) z1 z2
      exact ⟨z3, z4, by rw [loopF_c _ _ _ _ _ hs, hl]⟩
  obtain ⟨z1, z2, hl⟩ := loop bads (fun _ h => h) z15 none
  refine ⟨z1, z2, ?_⟩
  unfold law_17
  rw [ex_for]
  have hm : mkL bads = some (.lst bads) := rfl
  have hev : evIt prog (sem prog (w + 10) (n + 8)) (.e (.lst (.cons .non (.cons (.tup (.cons (.int 1) (.cons (.int 0) .nil))) (.cons (.tup (.cons (.int 2) (.cons (.int 4) .nil))) (.cons (.tup (.cons (.int 0) (.cons (.int 2) .nil))) (.cons (.tup (.cons (.int 1) .nil)) (.cons (.tup (.cons (.bl true) (.cons (.int 2) .nil))) (.cons (.lst (.cons (.int 1) (.cons (.int 2) (.cons (.int 3) .nil)))) (.cons (.int 5) (.cons (.tup (.cons (.int 1) (.cons (.neg (.int 1)) .nil))) .nil))))))))))) (e17 ns R a b c d x y W u1 u2 u3 PS t m z15 none none) = .ok bads (e17 ns R a b c d x y W u1 u2 u3 PS t m z15 none none) := by
    have t1 : ∀ x : D, mkT [x] = some (.tup [x]) := fun _ => rfl
    have hm1 : (-(1 : Int)) = -1 := rfl
    have l3 : ∀ x y z : D, mkL [x, y, z] = some (.lst [x, y, z]) := fun _ _ _ => rfl
    simp -implicitDefEqProofs only [↓ev_comp, stpC_v, stepF_v, List.set, evConds, ev, evs, evAs, lateAs, evAnd, evOr, evIt, exs, ↓ex_for, ↓ex_whl, ex, getV, rdS, rdI, rdB, rdT, rdL, rdR, rdN, rdZ, bok, sok, ofS, nxB, reB, exB, exS, exR, late, liftO, isIo, ofCall, hasB, ioBack, Bool.false_and, Bool.false_eq_true, if_false, beq_self_eq_true, if_true, ite_true, trB, Bool.not_true, Bool.not_false, finR, finE, finT, opR, idx2_0, idx2_1, addI, subI, ltII, gtII, leI, geI, eqI, neI, intI, lend, unlend, back, tgIds, parC, parN, stV, stT, stsN, stsV, stsT, mkT2, t1, l3, hm1, hm, iterL]
  rw [hev, sok]
  exact hl
theorem st18 (hw : 50000000 < w) (S A B C E F H W : D) (x : Fr) (hx : Ok x) (rest : List (Option D)) : ∃ r, ex prog (sem prog w (n + 8)) w law_18 (some S :: some A :: some B :: some C :: some E :: some F :: some (frP x) :: some H :: rest) = .ret (.bl true) r := by
  have h1 : biD .list [frP x] = some (.lst [.int x.1, .int x.2]) := rfl
  have h2 : sem prog w (n + 8) 4 [.lst [.int x.1, .int x.2]] = .ret (frP x) none := want_true w (n + 5) x hx (by omega)
  refine ⟨some S :: some A :: some B :: some C :: some E :: some F :: some (frP x) :: some H :: rest, ?_⟩
  simp -implicitDefEqProofs only [↓ev_comp, stpC_v, stepF_v, List.set, evConds, ev, evs, evAs, lateAs, evAnd, evOr, evIt, exs, ↓ex_for, ↓ex_whl, ex, getV, rdS, rdI, rdB, rdT, rdL, rdR, rdN, rdZ, bok, sok, ofS, nxB, reB, exB, exS, exR, late, liftO, isIo, ofCall, hasB, ioBack, Bool.false_and, Bool.false_eq_true, if_false, beq_self_eq_true, if_true, ite_true, trB, Bool.not_true, Bool.not_false, finR, finE, finT, opR, idx2_0, idx2_1, addI, subI, ltII, gtII, leI, geI, eqI, neI, intI, lend, unlend, back, tgIds, parC, parN, stV, stT, stsN, stsV, stsT, law_18, h1, h2, k_alike1, io4, io16]
theorem mid_small (x y : Fr) (hx : Ok x) (hy : Ok y) : -1000000 < (midF x y).1 ∧ (midF x y).1 < 1000000 ∧ -1000000 < (midF x y).2 ∧ (midF x y).2 < 1000000 := by
  have hp := hx.pos; have hq := hy.pos; have hp2 := hx.b60; have hq2 := hy.b60; have ht := hx.t60; have ht2 := hy.t60
  have h0 : 0 < x.2 * y.2 := Int.mul_pos hp hq
  have h60 : x.2 * y.2 ≤ 60 * 60 := Int.mul_le_mul hp2 hq2 (by omega) (by decide)
  have n1 : (x.1 * y.2).natAbs ≤ 60 * 60 := by rw [Int.natAbs_mul]; exact Nat.mul_le_mul ht (by omega)
  have n2 : (y.1 * x.2).natAbs ≤ 60 * 60 := by rw [Int.natAbs_mul]; exact Nat.mul_le_mul ht2 (by omega)
  have l1 := low_le (x.1 * y.2 + y.1 * x.2) (x.2 * y.2) h0
  have l2 := low_abs (x.1 * y.2 + y.1 * x.2) (x.2 * y.2) h0
  obtain ⟨_, _, _, _, l3, _⟩ := low_spec (x.1 * y.2 + y.1 * x.2) (x.2 * y.2) h0
  have m1 := low_le (lowT (x.1 * y.2 + y.1 * x.2) (x.2 * y.2) * 1) (lowB (x.1 * y.2 + y.1 * x.2) (x.2 * y.2) * 2) (by omega)
  have m2 := low_abs (lowT (x.1 * y.2 + y.1 * x.2) (x.2 * y.2) * 1) (lowB (x.1 * y.2 + y.1 * x.2) (x.2 * y.2) * 2) (by omega)
  obtain ⟨_, _, _, _, m3, _⟩ := low_spec (lowT (x.1 * y.2 + y.1 * x.2) (x.2 * y.2) * 1) (lowB (x.1 * y.2 + y.1 * x.2) (x.2 * y.2) * 2) (by omega)
  show -1000000 < lowT _ _ ∧ lowT _ _ < 1000000 ∧ -1000000 < lowB _ _ ∧ lowB _ _ < 1000000
  omega
theorem law_all (w n : Nat) (hw : 50000000 < w) (ns : List Int) (hl : ns.length ≤ 63) : sem prog (w + 10) (n + 8 + 1) 19 [.ro (ns.map .int)] = .ret (.bl true) none := by
  have hw' : 50000000 < w + 10 := by omega
  rw [sem_one _ _ _ _ _ rfl]
  rw [show startE (prog.nslots 19) [.ro (ns.map .int)] = [some (sc ns), none, none, none, none, none, none, none, none, none, none, none, none, none, none, none, none, none, none] from rfl, show prog.body 19 = b_law from rfl, show prog.io 19 = false from rfl]
  suffices h : ∃ r, exs prog (sem prog (w + 10) (n + 8)) (w + 10) b_law [some (sc ns), none, none, none, none, none, none, none, none, none, none, none, none, none, none, none, none, none, none] = .ret (.bl true) r by
    obtain ⟨r, h⟩ := h
    rw [h]; rfl
  rw [b_law_eq]
  rw [exs_cons, st0, nxB]
  obtain ⟨p, s, r, a, b, c, d, hp, a1, a2, b1, b2, c1, c2, d1, d2, h1⟩ := st1 (w + 10) n ns hl
  have ha : -60 ≤ a ∧ a ≤ 60 := ⟨a1, a2⟩
  have hb : 1 ≤ b ∧ b ≤ 60 := ⟨b1, b2⟩
  have hc : -60 ≤ c ∧ c ≤ 60 := ⟨c1, c2⟩
  have hd : 1 ≤ d ∧ d ≤ 60 := ⟨d1, d2⟩
  rw [exs_cons, h1, nxB]
  have h2 := st2 (w + 10) n ns hw' a b c d hb hd [.ro (ns.map .int), .int p, .int s, .int r]
  rw [exs_cons, h2, nxB]
  have h3 := st3 (w + 10) n ns hw' a b c d ha hb hd [.ro (ns.map .int), .int p, .int s, .int r]
  rw [show en ns a b c d [.ro (ns.map .int), .int p, .int s, .int r] [some (low a b), some (low c d), none, none, none, none, none, none, none, none, none, none, none] = en ns a b c d [.ro (ns.map .int), .int p, .int s, .int r] [some (frP (X a b)), some (frP (X c d)), none, none, none, none, none, none, none, none, none, none, none] from rfl]
  rw [exs_cons, h3, nxB]
  rw [exs_cons, st4 (w + 10) n ns hw' a b c d ha hb hc hd, nxB]
  rw [exs_cons, st5 (w + 10) n ns hw' a b c d ha hb hc hd, nxB]
  rw [exs_cons, st6, nxB]
  rw [exs_cons, st7 (w + 10) n ns a b c d ha hb, nxB]
  rw [exs_cons, st8 (w + 10) n ns a b c d ha hb, nxB]
  rw [exs_cons, st9 (w + 10) n ns a b c d ha hb, nxB]
  obtain ⟨p2, s2, r2, ys, hp2, hys, hyl, h10⟩ := st10 (w + 10) n ns hl hw' a b c d (.lst (Wh.map .int)) (.int (a.fdiv b)) (.int (-((-a).fdiv b))) (.int ((2 * a + b).fdiv (2 * b))) p s r hp
  rw [exs_cons, h10, nxB]
  have o1 := ok_X a b ha hb
  have o2 := ok_X c d hc hd
  have hrow := rowOk (X a b) (X c d) ys o1 o2 hys hyl
  obtain ⟨z11, h11⟩ := st11 (w + 10) n (sc ns) (row4 ns p2 s2 r2) (.int a) (.int b) (.int c) (.int d) (frP (X a b)) (frP (X c d)) (.lst (Wh.map .int)) (.int (a.fdiv b)) (.int (-((-a).fdiv b))) (.int ((2 * a + b).fdiv (2 * b))) _ hrow
  rw [exs_cons, h11, nxB]
  rw [exs_cons, st12 (w + 10) n hw' _ _ _ _ _ _ _ _ _ _ _ _ _ _ hrow, nxB]
  obtain ⟨L, x, y, q1, q2, q3, q4, q5⟩ := median_ok (w + 10) (n + 5) (X a b) (X c d :: ys) hrow.sum.all (by simp; omega) hw'
  have hlaw := middle_law (X a b :: X c d :: ys) L q1 q2 (fun z hz => ⟨(hrow.sum.all z hz).pos, (hrow.sum.all z hz).gcd⟩) x y q3 q4 (by simp)
  rw [exs_cons, st13 (w + 10) n _ _ _ _ _ _ _ _ _ _ _ _ _ _ _ (midF x y) q5, nxB]
  have ox := hrow.sum.all x (q1.mem_iff.1 (List.mem_of_getElem? q3))
  have oy := hrow.sum.all y (q1.mem_iff.1 (List.mem_of_getElem? q4))
  have hmid : -1000000 < (midF x y).1 ∧ (midF x y).1 < 1000000 ∧ -1000000 < (midF x y).2 ∧ (midF x y).2 < 1000000 := mid_small x y ox oy
  have hl6 := hrow.len
  generalize X a b :: X c d :: ys = ps at *
  generalize midF x y = m at *
  obtain ⟨z14, h14⟩ := st14 (w + 10) n (sc ns) (row4 ns p2 s2 r2) (.int a) (.int b) (.int c) (.int d) (frP (X a b)) (frP (X c d)) (.lst (Wh.map .int)) (.int (a.fdiv b)) (.int (-((-a).fdiv b))) (.int ((2 * a + b).fdiv (2 * b))) (frP (ps.foldl sumF (0, 1))) z11 ps m hmid (by omega)
  rw [exs_cons, h14, nxB]
  obtain ⟨z15, h15⟩ := st15 (w + 10) n (sc ns) (row4 ns p2 s2 r2) (.int a) (.int b) (.int c) (.int d) (frP (X a b)) (frP (X c d)) (.lst (Wh.map .int)) (.int (ps.countP fun o => ltF o m : Nat)) (.int (-((-a).fdiv b))) (.int ((2 * a + b).fdiv (2 * b))) (frP (ps.foldl sumF (0, 1))) z14 ps m hmid (by omega)
  rw [exs_cons, h15, nxB]
  rw [exs_cons, st16 (w + 10) n _ _ _ _ _ _ _ _ _ _ _ _ ps m _ _ hlaw.1 hlaw.2.1 hlaw.2.2 (by omega), nxB]
  obtain ⟨z17, z17', h17⟩ := st17 w n (ns.map .int) [.ro (ns.map .int), .int p2, .int s2, .int r2] a b c d (X a b) (X c d) (Wh.map .int) (ps.countP fun o => ltF o m : Nat) (ps.countP fun o => ltF m o : Nat) ((2 * a + b).fdiv (2 * b)) (ps.map frP) (ps.foldl sumF (0, 1)) m z15
  rw [exs_cons, h17, nxB]
  obtain ⟨rr, h18⟩ := st18 (w + 10) n hw' (sc ns) (row4 ns p2 s2 r2) (.int a) (.int b) (.int c) (.int d) (frP (X c d)) (.non) (X a b) o1 []
  obtain ⟨rr, h18⟩ := st18 (w + 10) n hw' (sc ns) (row4 ns p2 s2 r2) (.int a) (.int b) (.int c) (.int d) (frP (X c d)) (.non) (X a b) o1 [some (.lst (Wh.map .int)), some (.int (ps.countP fun o => ltF o m : Nat)), some (.int (ps.countP fun o => ltF m o : Nat)), none, some (.int ((2 * a + b).fdiv (2 * b))), some (.lst (ps.map frP)), some (frP (ps.foldl sumF (0, 1))), z17, some (frP m), z17', none]
  exact ⟨rr, by rw [exs_cons, h18, reB]⟩
end K10
end

section
namespace K10
open LW
def depth : Nat := 14
def fuel : Nat := 1000000000010
theorem law_true : ∀ ns : List Int, ns.length ≤ 63 → sem prog fuel depth 19 [.ro (ns.map D.int)] = .ret (.bl true) none :=
  fun ns h => law_all 1000000000000 5 (by decide) ns h
end K10
end

namespace K10
open PySem LW
def top (i : Nat) : PySem.Stmt := PySem.Challenge.pw_loanwalls_k10_whole_fractions.main.body.getD i (.Pass ⟨0, 0, 0, 0⟩)
def sts : List PySem.Stmt := [top 4, top 5, top 7, top 8, top 9, top 10, top 11, top 12, top 13, top 14, top 15, top 16, top 17, top 18, top 19, top 21, top 22, top 23, top 24, top 25]
def tab : Tab := ⟨prog, fnames.map Str.ofString, cnames.map Str.ofString, fields.map Str.ofString, [], 5⟩
def pss : List (List String) := [["value"], ["value"], ["top", "bottom"], ["value"], ["value"], ["one", "other"], ["one", "other"], ["one", "other"], ["one", "other"], ["one", "other"], ["one"], ["one"], ["one"], ["rows"], ["rows"], ["row", "many"], ["found", "due"], ["found", "due"], ["top", "bottom"], ["script"]]
def txt : Txt := ⟨tab, fun f => sts.getD f (.Pass ⟨0, 0, 0, 0⟩), fun f => Str.ofString (fnames.getD f ""), fun f => (slotNames.getD f []).map Str.ofString, fun f => (pss.getD f []).map Str.ofString, fun f => levels.getD f []⟩
theorem ok : txt.Ok := by
  refine ⟨fun f x h => ?_, fun f x h => ?_, fun f x h => ?_⟩
  · match f, h with
    | 0, _ => exact ⟨rfl, rfl, rfl, by decide +kernel, by decide +kernel, by decide +kernel, by decide +kernel⟩
    | 1, _ => exact ⟨rfl, rfl, rfl, by decide +kernel, by decide +kernel, by decide +kernel, by decide +kernel⟩
    | 2, _ => exact ⟨rfl, rfl, rfl, by decide +kernel, by decide +kernel, by decide +kernel, by decide +kernel⟩
    | 3, _ => exact ⟨rfl, rfl, rfl, by decide +kernel, by decide +kernel, by decide +kernel, by decide +kernel⟩
    | 4, _ => exact ⟨rfl, rfl, rfl, by decide +kernel, by decide +kernel, by decide +kernel, by decide +kernel⟩
    | 5, _ => exact ⟨rfl, rfl, rfl, by decide +kernel, by decide +kernel, by decide +kernel, by decide +kernel⟩
    | 6, _ => exact ⟨rfl, rfl, rfl, by decide +kernel, by decide +kernel, by decide +kernel, by decide +kernel⟩
    | 7, _ => exact ⟨rfl, rfl, rfl, by decide +kernel, by decide +kernel, by decide +kernel, by decide +kernel⟩
    | 8, _ => exact ⟨rfl, rfl, rfl, by decide +kernel, by decide +kernel, by decide +kernel, by decide +kernel⟩
    | 9, _ => exact ⟨rfl, rfl, rfl, by decide +kernel, by decide +kernel, by decide +kernel, by decide +kernel⟩
    | 10, _ => exact ⟨rfl, rfl, rfl, by decide +kernel, by decide +kernel, by decide +kernel, by decide +kernel⟩
    | 11, _ => exact ⟨rfl, rfl, rfl, by decide +kernel, by decide +kernel, by decide +kernel, by decide +kernel⟩
    | 12, _ => exact ⟨rfl, rfl, rfl, by decide +kernel, by decide +kernel, by decide +kernel, by decide +kernel⟩
    | 13, _ => exact ⟨rfl, rfl, rfl, by decide +kernel, by decide +kernel, by decide +kernel, by decide +kernel⟩
    | 14, _ => exact ⟨rfl, rfl, rfl, by decide +kernel, by decide +kernel, by decide +kernel, by decide +kernel⟩
    | 15, _ => exact ⟨rfl, rfl, rfl, by decide +kernel, by decide +kernel, by decide +kernel, by decide +kernel⟩
    | 16, _ => exact ⟨rfl, rfl, rfl, by decide +kernel, by decide +kernel, by decide +kernel, by decide +kernel⟩
    | 17, _ => exact ⟨rfl, rfl, rfl, by decide +kernel, by decide +kernel, by decide +kernel, by decide +kernel⟩
    | 18, _ => exact ⟨rfl, rfl, rfl, by decide +kernel, by decide +kernel, by decide +kernel, by decide +kernel⟩
    | 19, _ => exact ⟨rfl, rfl, rfl, by decide +kernel, by decide +kernel, by decide +kernel, by decide +kernel⟩
    | _ + 20, h => exact absurd h (by simp [txt, tab, fnames])
  · match f, h with
    | 0, _ => exact ⟨by decide +kernel, by decide +kernel, by decide +kernel, by decide +kernel, by decide +kernel, by decide +kernel, by decide +kernel⟩
    | 1, _ => exact ⟨by decide +kernel, by decide +kernel, by decide +kernel, by decide +kernel, by decide +kernel, by decide +kernel, by decide +kernel⟩
    | 2, _ => exact ⟨by decide +kernel, by decide +kernel, by decide +kernel, by decide +kernel, by decide +kernel, by decide +kernel, by decide +kernel⟩
    | 3, _ => exact ⟨by decide +kernel, by decide +kernel, by decide +kernel, by decide +kernel, by decide +kernel, by decide +kernel, by decide +kernel⟩
    | 4, _ => exact ⟨by decide +kernel, by decide +kernel, by decide +kernel, by decide +kernel, by decide +kernel, by decide +kernel, by decide +kernel⟩
    | 5, _ => exact ⟨by decide +kernel, by decide +kernel, by decide +kernel, by decide +kernel, by decide +kernel, by decide +kernel, by decide +kernel⟩
    | 6, _ => exact ⟨by decide +kernel, by decide +kernel, by decide +kernel, by decide +kernel, by decide +kernel, by decide +kernel, by decide +kernel⟩
    | 7, _ => exact ⟨by decide +kernel, by decide +kernel, by decide +kernel, by decide +kernel, by decide +kernel, by decide +kernel, by decide +kernel⟩
    | 8, _ => exact ⟨by decide +kernel, by decide +kernel, by decide +kernel, by decide +kernel, by decide +kernel, by decide +kernel, by decide +kernel⟩
    | 9, _ => exact ⟨by decide +kernel, by decide +kernel, by decide +kernel, by decide +kernel, by decide +kernel, by decide +kernel, by decide +kernel⟩
    | 10, _ => exact ⟨by decide +kernel, by decide +kernel, by decide +kernel, by decide +kernel, by decide +kernel, by decide +kernel, by decide +kernel⟩
    | 11, _ => exact ⟨by decide +kernel, by decide +kernel, by decide +kernel, by decide +kernel, by decide +kernel, by decide +kernel, by decide +kernel⟩
    | 12, _ => exact ⟨by decide +kernel, by decide +kernel, by decide +kernel, by decide +kernel, by decide +kernel, by decide +kernel, by decide +kernel⟩
    | 13, _ => exact ⟨by decide +kernel, by decide +kernel, by decide +kernel, by decide +kernel, by decide +kernel, by decide +kernel, by decide +kernel⟩
    | 14, _ => exact ⟨by decide +kernel, by decide +kernel, by decide +kernel, by decide +kernel, by decide +kernel, by decide +kernel, by decide +kernel⟩
    | 15, _ => exact ⟨by decide +kernel, by decide +kernel, by decide +kernel, by decide +kernel, by decide +kernel, by decide +kernel, by decide +kernel⟩
    | 16, _ => exact ⟨by decide +kernel, by decide +kernel, by decide +kernel, by decide +kernel, by decide +kernel, by decide +kernel, by decide +kernel⟩
    | 17, _ => exact ⟨by decide +kernel, by decide +kernel, by decide +kernel, by decide +kernel, by decide +kernel, by decide +kernel, by decide +kernel⟩
    | 18, _ => exact ⟨by decide +kernel, by decide +kernel, by decide +kernel, by decide +kernel, by decide +kernel, by decide +kernel, by decide +kernel⟩
    | 19, _ => exact ⟨by decide +kernel, by decide +kernel, by decide +kernel, by decide +kernel, by decide +kernel, by decide +kernel, by decide +kernel⟩
    | _ + 20, h => exact absurd h (by simp [txt, tab, fnames])
  · match f, h with
    | 0, _ => exact (by decide +kernel)
    | 1, _ => exact (by decide +kernel)
    | 2, _ => exact (by decide +kernel)
    | 3, _ => exact (by decide +kernel)
    | 4, _ => exact (by decide +kernel)
    | 5, _ => exact (by decide +kernel)
    | 6, _ => exact (by decide +kernel)
    | 7, _ => exact (by decide +kernel)
    | 8, _ => exact (by decide +kernel)
    | 9, _ => exact (by decide +kernel)
    | 10, _ => exact (by decide +kernel)
    | 11, _ => exact (by decide +kernel)
    | 12, _ => exact (by decide +kernel)
    | 13, _ => exact (by decide +kernel)
    | 14, _ => exact (by decide +kernel)
    | 15, _ => exact (by decide +kernel)
    | 16, _ => exact (by decide +kernel)
    | 17, _ => exact (by decide +kernel)
    | 18, _ => exact (by decide +kernel)
    | 19, _ => exact (by decide +kernel)
    | _ + 20, h => exact absurd h (by simp [txt, tab, fnames])
section
open PySem.Spec PyProof.Rows
theorem all_mk {prg : Program} {w : World} {K : PySem.W.Frag} {h : Heap} {mg : Str → Option Value} {fa : Addr} (X : K.In h) (Gl : h.Ns mainGlobals mg) (hfa : mg "law" = some (.ref fa)) {F0 : Addr} {cd0 kV0 dc0 pm0 ct0 oc0 : Value} {od0 an0 : Option Addr} {sl0 : Array (Option Value)} {F1 : Addr} {cd1 kV1 dc1 pm1 ct1 oc1 : Value} {od1 an1 : Option Addr} {sl1 : Array (Option Value)} {F2 : Addr} {cd2 kV2 dc2 pm2 ct2 oc2 : Value} {od2 an2 : Option Addr} {sl2 : Array (Option Value)} {F3 : Addr} {cd3 kV3 dc3 pm3 ct3 oc3 : Value} {od3 an3 : Option Addr} {sl3 : Array (Option Value)} {F4 : Addr} {cd4 kV4 dc4 pm4 ct4 oc4 : Value} {od4 an4 : Option Addr} {sl4 : Array (Option Value)} {F5 : Addr} {cd5 kV5 dc5 pm5 ct5 oc5 : Value} {od5 an5 : Option Addr} {sl5 : Array (Option Value)} {F6 : Addr} {cd6 kV6 dc6 pm6 ct6 oc6 : Value} {od6 an6 : Option Addr} {sl6 : Array (Option Value)} {F7 : Addr} {cd7 kV7 dc7 pm7 ct7 oc7 : Value} {od7 an7 : Option Addr} {sl7 : Array (Option Value)} {F8 : Addr} {cd8 kV8 dc8 pm8 ct8 oc8 : Value} {od8 an8 : Option Addr} {sl8 : Array (Option Value)} {F9 : Addr} {cd9 kV9 dc9 pm9 ct9 oc9 : Value} {od9 an9 : Option Addr} {sl9 : Array (Option Value)} {F10 : Addr} {cd10 kV10 dc10 pm10 ct10 oc10 : Value} {od10 an10 : Option Addr} {sl10 : Array (Option Value)} {F11 : Addr} {cd11 kV11 dc11 pm11 ct11 oc11 : Value} {od11 an11 : Option Addr} {sl11 : Array (Option Value)} {F12 : Addr} {cd12 kV12 dc12 pm12 ct12 oc12 : Value} {od12 an12 : Option Addr} {sl12 : Array (Option Value)} {F13 : Addr} {cd13 kV13 dc13 pm13 ct13 oc13 : Value} {od13 an13 : Option Addr} {sl13 : Array (Option Value)} {F14 : Addr} {cd14 kV14 dc14 pm14 ct14 oc14 : Value} {od14 an14 : Option Addr} {sl14 : Array (Option Value)} {F15 : Addr} {cd15 kV15 dc15 pm15 ct15 oc15 : Value} {od15 an15 : Option Addr} {sl15 : Array (Option Value)} {F16 : Addr} {cd16 kV16 dc16 pm16 ct16 oc16 : Value} {od16 an16 : Option Addr} {sl16 : Array (Option Value)} {F17 : Addr} {cd17 kV17 dc17 pm17 ct17 oc17 : Value} {od17 an17 : Option Addr} {sl17 : Array (Option Value)} {F18 : Addr} {cd18 kV18 dc18 pm18 ct18 oc18 : Value} {od18 an18 : Option Addr} {sl18 : Array (Option Value)} {F19 : Addr} {cd19 kV19 dc19 pm19 ct19 oc19 : Value} {od19 an19 : Option Addr} {sl19 : Array (Option Value)} {C3 : Addr} {nm3 qn3 : Str} {N3 : Addr} {bs3 bm3 su3 : List Value} {sn3 : List Str} {ab3 : Bool} {co3 : Option Bool} {dd3 : Option Addr} {x03 x13 x23 x33 x53 : Option Value} {C4 : Addr} {nm4 qn4 : Str} {N4 : Addr} {bs4 bm4 su4 : List Value} {sn4 : List Str} {ab4 : Bool} {co4 : Option Bool} {dd4 : Option Addr} {x04 x14 x24 x34 x54 : Option Value} {D4 CA4 CC4 : Addr} {vs4 : Array Value} {file4 : Str} {tf4 : Tok} {yc4 yk4 yd4 yp4 yt4 ycc4 ycl4 : Value} {yo4 yn4 yod4 yld4 : Option Addr} {ys4 ycs4 yls4 : Array (Option Value)}
    (a0 : PySem.W.nsIn K mainGlobals "is_whole" = some (some (.ref F0)))
    (l0 : K.lookup F0 = some ⟨oc0, od0, .func (PySem.W.fnOf "is_whole" "is_whole" (L2.defArgs (top 4)) (L2.defBody (top 4)) (L2.defScope (top 4)) .none kV0 dc0 pm0 an0 cd0 ct0), sl0⟩)
    (c0 : PySem.W.codeIn K cd0 "is_whole" = true)
    (k0 : PySem.W.keepIn K (.ref F0) = true)
    (a1 : PySem.W.nsIn K mainGlobals "is_row" = some (some (.ref F1)))
    (l1 : K.lookup F1 = some ⟨oc1, od1, .func (PySem.W.fnOf "is_row" "is_row" (L2.defArgs (top 5)) (L2.defBody (top 5)) (L2.defScope (top 5)) .none kV1 dc1 pm1 an1 cd1 ct1), sl1⟩)
    (c1 : PySem.W.codeIn K cd1 "is_row" = true)
    (k1 : PySem.W.keepIn K (.ref F1) = true)
    (a2 : PySem.W.nsIn K mainGlobals "reduced" = some (some (.ref F2)))
    (l2 : K.lookup F2 = some ⟨oc2, od2, .func (PySem.W.fnOf "reduced" "reduced" (L2.defArgs (top 7)) (L2.defBody (top 7)) (L2.defScope (top 7)) .none kV2 dc2 pm2 an2 cd2 ct2), sl2⟩)
    (c2 : PySem.W.codeIn K cd2 "reduced" = true)
    (k2 : PySem.W.keepIn K (.ref F2) = true)
    (a3 : PySem.W.nsIn K mainGlobals "is_fraction" = some (some (.ref F3)))
    (l3 : K.lookup F3 = some ⟨oc3, od3, .func (PySem.W.fnOf "is_fraction" "is_fraction" (L2.defArgs (top 8)) (L2.defBody (top 8)) (L2.defScope (top 8)) .none kV3 dc3 pm3 an3 cd3 ct3), sl3⟩)
    (c3 : PySem.W.codeIn K cd3 "is_fraction" = true)
    (k3 : PySem.W.keepIn K (.ref F3) = true)
    (a4 : PySem.W.nsIn K mainGlobals "want_fraction" = some (some (.ref F4)))
    (l4 : K.lookup F4 = some ⟨oc4, od4, .func (PySem.W.fnOf "want_fraction" "want_fraction" (L2.defArgs (top 9)) (L2.defBody (top 9)) (L2.defScope (top 9)) .none kV4 dc4 pm4 an4 cd4 ct4), sl4⟩)
    (c4 : PySem.W.codeIn K cd4 "want_fraction" = true)
    (k4 : PySem.W.keepIn K (.ref F4) = true)
    (a5 : PySem.W.nsIn K mainGlobals "plus" = some (some (.ref F5)))
    (l5 : K.lookup F5 = some ⟨oc5, od5, .func (PySem.W.fnOf "plus" "plus" (L2.defArgs (top 10)) (L2.defBody (top 10)) (L2.defScope (top 10)) .none kV5 dc5 pm5 an5 cd5 ct5), sl5⟩)
    (c5 : PySem.W.codeIn K cd5 "plus" = true)
    (k5 : PySem.W.keepIn K (.ref F5) = true)
    (a6 : PySem.W.nsIn K mainGlobals "minus" = some (some (.ref F6)))
    (l6 : K.lookup F6 = some ⟨oc6, od6, .func (PySem.W.fnOf "minus" "minus" (L2.defArgs (top 11)) (L2.defBody (top 11)) (L2.defScope (top 11)) .none kV6 dc6 pm6 an6 cd6 ct6), sl6⟩)
    (c6 : PySem.W.codeIn K cd6 "minus" = true)
    (k6 : PySem.W.keepIn K (.ref F6) = true)
    (a7 : PySem.W.nsIn K mainGlobals "times" = some (some (.ref F7)))
    (l7 : K.lookup F7 = some ⟨oc7, od7, .func (PySem.W.fnOf "times" "times" (L2.defArgs (top 12)) (L2.defBody (top 12)) (L2.defScope (top 12)) .none kV7 dc7 pm7 an7 cd7 ct7), sl7⟩)
    (c7 : PySem.W.codeIn K cd7 "times" = true)
    (k7 : PySem.W.keepIn K (.ref F7) = true)
    (a8 : PySem.W.nsIn K mainGlobals "over" = some (some (.ref F8)))
    (l8 : K.lookup F8 = some ⟨oc8, od8, .func (PySem.W.fnOf "over" "over" (L2.defArgs (top 13)) (L2.defBody (top 13)) (L2.defScope (top 13)) .none kV8 dc8 pm8 an8 cd8 ct8), sl8⟩)
    (c8 : PySem.W.codeIn K cd8 "over" = true)
    (k8 : PySem.W.keepIn K (.ref F8) = true)
    (a9 : PySem.W.nsIn K mainGlobals "is_less" = some (some (.ref F9)))
    (l9 : K.lookup F9 = some ⟨oc9, od9, .func (PySem.W.fnOf "is_less" "is_less" (L2.defArgs (top 14)) (L2.defBody (top 14)) (L2.defScope (top 14)) .none kV9 dc9 pm9 an9 cd9 ct9), sl9⟩)
    (c9 : PySem.W.codeIn K cd9 "is_less" = true)
    (k9 : PySem.W.keepIn K (.ref F9) = true)
    (a10 : PySem.W.nsIn K mainGlobals "floor_of" = some (some (.ref F10)))
    (l10 : K.lookup F10 = some ⟨oc10, od10, .func (PySem.W.fnOf "floor_of" "floor_of" (L2.defArgs (top 15)) (L2.defBody (top 15)) (L2.defScope (top 15)) .none kV10 dc10 pm10 an10 cd10 ct10), sl10⟩)
    (c10 : PySem.W.codeIn K cd10 "floor_of" = true)
    (k10 : PySem.W.keepIn K (.ref F10) = true)
    (a11 : PySem.W.nsIn K mainGlobals "ceiling_of" = some (some (.ref F11)))
    (l11 : K.lookup F11 = some ⟨oc11, od11, .func (PySem.W.fnOf "ceiling_of" "ceiling_of" (L2.defArgs (top 16)) (L2.defBody (top 16)) (L2.defScope (top 16)) .none kV11 dc11 pm11 an11 cd11 ct11), sl11⟩)
    (c11 : PySem.W.codeIn K cd11 "ceiling_of" = true)
    (k11 : PySem.W.keepIn K (.ref F11) = true)
    (a12 : PySem.W.nsIn K mainGlobals "nearest" = some (some (.ref F12)))
    (l12 : K.lookup F12 = some ⟨oc12, od12, .func (PySem.W.fnOf "nearest" "nearest" (L2.defArgs (top 17)) (L2.defBody (top 17)) (L2.defScope (top 17)) .none kV12 dc12 pm12 an12 cd12 ct12), sl12⟩)
    (c12 : PySem.W.codeIn K cd12 "nearest" = true)
    (k12 : PySem.W.keepIn K (.ref F12) = true)
    (a13 : PySem.W.nsIn K mainGlobals "total" = some (some (.ref F13)))
    (l13 : K.lookup F13 = some ⟨oc13, od13, .func (PySem.W.fnOf "total" "total" (L2.defArgs (top 18)) (L2.defBody (top 18)) (L2.defScope (top 18)) .none kV13 dc13 pm13 an13 cd13 ct13), sl13⟩)
    (c13 : PySem.W.codeIn K cd13 "total" = true)
    (k13 : PySem.W.keepIn K (.ref F13) = true)
    (a14 : PySem.W.nsIn K mainGlobals "median" = some (some (.ref F14)))
    (l14 : K.lookup F14 = some ⟨oc14, od14, .func (PySem.W.fnOf "median" "median" (L2.defArgs (top 19)) (L2.defBody (top 19)) (L2.defScope (top 19)) .none kV14 dc14 pm14 an14 cd14 ct14), sl14⟩)
    (c14 : PySem.W.codeIn K cd14 "median" = true)
    (k14 : PySem.W.keepIn K (.ref F14) = true)
    (a15 : PySem.W.nsIn K mainGlobals "_law_taken" = some (some (.ref F15)))
    (l15 : K.lookup F15 = some ⟨oc15, od15, .func (PySem.W.fnOf "_law_taken" "_law_taken" (L2.defArgs (top 21)) (L2.defBody (top 21)) (L2.defScope (top 21)) .none kV15 dc15 pm15 an15 cd15 ct15), sl15⟩)
    (c15 : PySem.W.codeIn K cd15 "_law_taken" = true)
    (k15 : PySem.W.keepIn K (.ref F15) = true)
    (a16 : PySem.W.nsIn K mainGlobals "_law_alike" = some (some (.ref F16)))
    (l16 : K.lookup F16 = some ⟨oc16, od16, .func (PySem.W.fnOf "_law_alike" "_law_alike" (L2.defArgs (top 22)) (L2.defBody (top 22)) (L2.defScope (top 22)) .none kV16 dc16 pm16 an16 cd16 ct16), sl16⟩)
    (c16 : PySem.W.codeIn K cd16 "_law_alike" = true)
    (k16 : PySem.W.keepIn K (.ref F16) = true)
    (a17 : PySem.W.nsIn K mainGlobals "_law_truth" = some (some (.ref F17)))
    (l17 : K.lookup F17 = some ⟨oc17, od17, .func (PySem.W.fnOf "_law_truth" "_law_truth" (L2.defArgs (top 23)) (L2.defBody (top 23)) (L2.defScope (top 23)) .none kV17 dc17 pm17 an17 cd17 ct17), sl17⟩)
    (c17 : PySem.W.codeIn K cd17 "_law_truth" = true)
    (k17 : PySem.W.keepIn K (.ref F17) = true)
    (a18 : PySem.W.nsIn K mainGlobals "_law_low" = some (some (.ref F18)))
    (l18 : K.lookup F18 = some ⟨oc18, od18, .func (PySem.W.fnOf "_law_low" "_law_low" (L2.defArgs (top 24)) (L2.defBody (top 24)) (L2.defScope (top 24)) .none kV18 dc18 pm18 an18 cd18 ct18), sl18⟩)
    (c18 : PySem.W.codeIn K cd18 "_law_low" = true)
    (k18 : PySem.W.keepIn K (.ref F18) = true)
    (a19 : PySem.W.nsIn K mainGlobals "law" = some (some (.ref F19)))
    (l19 : K.lookup F19 = some ⟨oc19, od19, .func (PySem.W.fnOf "law" "law" (L2.defArgs (top 25)) (L2.defBody (top 25)) (L2.defScope (top 25)) .none kV19 dc19 pm19 an19 cd19 ct19), sl19⟩)
    (c19 : PySem.W.codeIn K cd19 "law" = true)
    (k19 : PySem.W.keepIn K (.ref F19) = true)
    (z_abs : PySem.W.nsIn K mainGlobals "abs" = some none)
    (z_all : PySem.W.nsIn K mainGlobals "all" = some none)
    (z_any : PySem.W.nsIn K mainGlobals "any" = some none)
    (z_bool : PySem.W.nsIn K mainGlobals "bool" = some none)
    (z_dict : PySem.W.nsIn K mainGlobals "dict" = some none)
    (z_enumerate : PySem.W.nsIn K mainGlobals "enumerate" = some none)
    (z_int : PySem.W.nsIn K mainGlobals "int" = some none)
    (z_isinstance : PySem.W.nsIn K mainGlobals "isinstance" = some none)
    (z_len : PySem.W.nsIn K mainGlobals "len" = some none)
    (z_list : PySem.W.nsIn K mainGlobals "list" = some none)
    (z_max : PySem.W.nsIn K mainGlobals "max" = some none)
    (z_min : PySem.W.nsIn K mainGlobals "min" = some none)
    (z_range : PySem.W.nsIn K mainGlobals "range" = some none)
    (z_repr : PySem.W.nsIn K mainGlobals "repr" = some none)
    (z_set : PySem.W.nsIn K mainGlobals "set" = some none)
    (z_sorted : PySem.W.nsIn K mainGlobals "sorted" = some none)
    (z_str : PySem.W.nsIn K mainGlobals "str" = some none)
    (z_sum : PySem.W.nsIn K mainGlobals "sum" = some none)
    (z_tuple : PySem.W.nsIn K mainGlobals "tuple" = some none)
    (z_zip : PySem.W.nsIn K mainGlobals "zip" = some none)
    (zsup : PySem.W.nsIn K mainGlobals "super" = some none)
    (op : PySem.W.nsIn K cStatics "thirdparty.any" = some none)
    (aC3 : PySem.W.nsIn K mainGlobals "ShowError" = some (some (.ref C3)))
    (xL3 : K.lookup C3 = some (excClassObj nm3 qn3 C3 N3 bs3 bm3 true sn3 su3 ab3 co3 dd3 x03 x13 x23 x33 x53 "ValueError.__new__"))
    (ga3 : PySem.W.findIn K (.ref C3) "__getattribute__" = some (some (.builtin "BaseException.__getattribute__")))
    (gg3 : PySem.W.findIn K (.ref C3) "__getattr__" = some none)
    (eC3 : PySem.W.subIn K (.ref C3) (.type "BaseException") = some true)
    (hD3 : PySem.W.hasDictIn K C3 = true)
    (tC3 : PySem.W.typeIn K (.ref C3) = some (.type "type"))
    (iC3 : PySem.W.isClsIn K C3 = true)
    (aC4 : PySem.W.nsIn K mainGlobals "BadNumber" = some (some (.ref C4)))
    (xL4 : K.lookup C4 = some (excClassObj nm4 qn4 C4 N4 bs4 bm4 true sn4 su4 ab4 co4 dd4 x04 x14 x24 x34 x54 "ValueError.__new__"))
    (ga4 : PySem.W.findIn K (.ref C4) "__getattribute__" = some (some (.builtin "BaseException.__getattribute__")))
    (gg4 : PySem.W.findIn K (.ref C4) "__getattr__" = some none)
    (eC4 : PySem.W.subIn K (.ref C4) (.type "BaseException") = some true)
    (hD4 : PySem.W.hasDictIn K C4 = true)
    (tC4 : PySem.W.typeIn K (.ref C4) = some (.type "type"))
    (iC4 : PySem.W.isClsIn K C4 = true)
    (nf4_value : PySem.W.findIn K (.ref C4) "value" = some none)
    (sa4 : PySem.W.findIn K (.ref C4) "__setattr__" = some (some (.builtin "object.__setattr__")))
    (kC4 : PySem.W.keepIn K (.ref C4) = true)
    (in4 : PySem.W.findIn K (.ref C4) "__init__" = some (some (.ref D4)))
    (tI4 : PySem.W.typeIn K (.ref D4) = some (.type "function"))
    (lI4 : K.lookup D4 = some ⟨yc4, yo4, .func (PySem.W.ksFn "__init__" "BadNumber.__init__" (L2.defArgs (L2.inClass (top 2) 0)) (L2.defBody (L2.inClass (top 2) 0)) (L2.defScope (L2.inClass (top 2) 0)) .none yk4 yd4 yp4 yn4 (.ref CA4) yt4 CC4), ys4⟩)
    (cI4 : PySem.W.codeIn K (.ref CA4) "BadNumber.__init__" = true)
    (lA4 : K.lookup CA4 = some ⟨ycc4, yod4, .fields vs4, ycs4⟩)
    (lK4 : K.lookup CC4 = some ⟨ycl4, yld4, .cell (some (.ref C4)), yls4⟩)
    (sv4 : PySem.W.subIn K (.ref C4) (.type "ValueError") = some true)
    (fb4 : PySem.W.findIn K (.ref C3) "__init__" = some (some (.builtin "ValueError.__init__")))
    (e3_3 : PySem.W.subIn K (.ref C3) (.ref C3) = some true)
    (e3_4 : PySem.W.subIn K (.ref C3) (.ref C4) = some false)
    (e4_3 : PySem.W.subIn K (.ref C4) (.ref C3) = some true)
    (e4_4 : PySem.W.subIn K (.ref C4) (.ref C4) = some true)
    (rv3 : HandSPX.refsVE bm3 = true) (rv4 : HandSPX.refsVE bm4 = true) (mr4 : bm4 = .ref C3 :: bm3) (vf4 : vs4[2]? = some (.str file4 tf4)) (ff4 : (prg.main.file == file4) = true) (tp : (prg.main.scope.names.lookup ("super" : Str)).isSome = false) {n wf : Nat}
    (law : ∀ ns : List Int, ns.length ≤ 63 → sem prog wf n 19 [.ro (ns.map D.int)] = .ret (.bl true) none) :
    ∃ fd : FuncData, (∀ (s : Shared) (v : Value), BindsTo s fd ⟨[v], []⟩ [("script", v)]) ∧ ∀ base : Heap, K.In base → base.Ns mainGlobals mg → FnG prg w K mg base (n + 1) fa fd ["script"] (spLaw K) := by
  have e := hfa.symm.trans (PySem.W.mg_of X Gl a19)
  have hfe : fa = F19 := by cases e; rfl
  let G : Geo := ⟨K, fun i => [0, 0, 0, C3, C4].getD i 0, fun i => [F0, F1, F2, F3, F4, F5, F6, F7, F8, F9, F10, F11, F12, F13, F14, F15, F16, F17, F18, F19].getD i 0, tab.fs⟩
  have Df0 : L2.Fun K "is_whole" "is_whole" (top 4) F0 _ := L2.fun_mk (st := top 4) l0 c0 k0
  have Bf0 := Df0.binds (ps := ["value"]) fun _ _ _ _ _ _ us hl => match us, hl with | [_], _ => rfl
  have Df1 : L2.Fun K "is_row" "is_row" (top 5) F1 _ := L2.fun_mk (st := top 5) l1 c1 k1
  have Bf1 := Df1.binds (ps := ["value"]) fun _ _ _ _ _ _ us hl => match us, hl with | [_], _ => rfl
  have Df2 : L2.Fun K "reduced" "reduced" (top 7) F2 _ := L2.fun_mk (st := top 7) l2 c2 k2
  have Bf2 := Df2.binds (ps := ["top", "bottom"]) fun _ _ _ _ _ _ us hl => match us, hl with | [_, _], _ => rfl
  have Df3 : L2.Fun K "is_fraction" "is_fraction" (top 8) F3 _ := L2.fun_mk (st := top 8) l3 c3 k3
  have Bf3 := Df3.binds (ps := ["value"]) fun _ _ _ _ _ _ us hl => match us, hl with | [_], _ => rfl
  have Df4 : L2.Fun K "want_fraction" "want_fraction" (top 9) F4 _ := L2.fun_mk (st := top 9) l4 c4 k4
  have Bf4 := Df4.binds (ps := ["value"]) fun _ _ _ _ _ _ us hl => match us, hl with | [_], _ => rfl
  have Df5 : L2.Fun K "plus" "plus" (top 10) F5 _ := L2.fun_mk (st := top 10) l5 c5 k5
  have Bf5 := Df5.binds (ps := ["one", "other"]) fun _ _ _ _ _ _ us hl => match us, hl with | [_, _], _ => rfl
  have Df6 : L2.Fun K "minus" "minus" (top 11) F6 _ := L2.fun_mk (st := top 11) l6 c6 k6
  have Bf6 := Df6.binds (ps := ["one", "other"]) fun _ _ _ _ _ _ us hl => match us, hl with | [_, _], _ => rfl
  have Df7 : L2.Fun K "times" "times" (top 12) F7 _ := L2.fun_mk (st := top 12) l7 c7 k7
  have Bf7 := Df7.binds (ps := ["one", "other"]) fun _ _ _ _ _ _ us hl => match us, hl with | [_, _], _ => rfl
  have Df8 : L2.Fun K "over" "over" (top 13) F8 _ := L2.fun_mk (st := top 13) l8 c8 k8
  have Bf8 := Df8.binds (ps := ["one", "other"]) fun _ _ _ _ _ _ us hl => match us, hl with | [_, _], _ => rfl
  have Df9 : L2.Fun K "is_less" "is_less" (top 14) F9 _ := L2.fun_mk (st := top 14) l9 c9 k9
  have Bf9 := Df9.binds (ps := ["one", "other"]) fun _ _ _ _ _ _ us hl => match us, hl with | [_, _], _ => rfl
  have Df10 : L2.Fun K "floor_of" "floor_of" (top 15) F10 _ := L2.fun_mk (st := top 15) l10 c10 k10
  have Bf10 := Df10.binds (ps := ["one"]) fun _ _ _ _ _ _ us hl => match us, hl with | [_], _ => rfl
  have Df11 : L2.Fun K "ceiling_of" "ceiling_of" (top 16) F11 _ := L2.fun_mk (st := top 16) l11 c11 k11
  have Bf11 := Df11.binds (ps := ["one"]) fun _ _ _ _ _ _ us hl => match us, hl with | [_], _ => rfl
  have Df12 : L2.Fun K "nearest" "nearest" (top 17) F12 _ := L2.fun_mk (st := top 17) l12 c12 k12
  have Bf12 := Df12.binds (ps := ["one"]) fun _ _ _ _ _ _ us hl => match us, hl with | [_], _ => rfl
  have Df13 : L2.Fun K "total" "total" (top 18) F13 _ := L2.fun_mk (st := top 18) l13 c13 k13
  have Bf13 := Df13.binds (ps := ["rows"]) fun _ _ _ _ _ _ us hl => match us, hl with | [_], _ => rfl
  have Df14 : L2.Fun K "median" "median" (top 19) F14 _ := L2.fun_mk (st := top 19) l14 c14 k14
  have Bf14 := Df14.binds (ps := ["rows"]) fun _ _ _ _ _ _ us hl => match us, hl with | [_], _ => rfl
  have Df15 : L2.Fun K "_law_taken" "_law_taken" (top 21) F15 _ := L2.fun_mk (st := top 21) l15 c15 k15
  have Bf15 := Df15.binds (ps := ["row", "many"]) fun _ _ _ _ _ _ us hl => match us, hl with | [_, _], _ => rfl
  have Df16 : L2.Fun K "_law_alike" "_law_alike" (top 22) F16 _ := L2.fun_mk (st := top 22) l16 c16 k16
  have Bf16 := Df16.binds (ps := ["found", "due"]) fun _ _ _ _ _ _ us hl => match us, hl with | [_, _], _ => rfl
  have Df17 : L2.Fun K "_law_truth" "_law_truth" (top 23) F17 _ := L2.fun_mk (st := top 23) l17 c17 k17
  have Bf17 := Df17.binds (ps := ["found", "due"]) fun _ _ _ _ _ _ us hl => match us, hl with | [_, _], _ => rfl
  have Df18 : L2.Fun K "_law_low" "_law_low" (top 24) F18 _ := L2.fun_mk (st := top 24) l18 c18 k18
  have Bf18 := Df18.binds (ps := ["top", "bottom"]) fun _ _ _ _ _ _ us hl => match us, hl with | [_, _], _ => rfl
  have Df19 : L2.Fun K "law" "law" (top 25) F19 _ := L2.fun_mk (st := top 25) l19 c19 k19
  have Bf19 := Df19.binds (ps := ["script"]) fun _ _ _ _ _ _ us hl => match us, hl with | [_], _ => rfl
  have W : Wld txt prg K mg G := by
    refine ⟨rfl, rfl, fun x hx => ?_, fun f x hf => ?_, fun cc hc => ?_, fun cc fid hc hx => ?_, fun a b ha hb => ?_⟩
    · simp only [bnames, List.mem_cons, List.not_mem_nil, or_false] at hx
      rcases hx with rfl | rfl | rfl | rfl | rfl | rfl | rfl | rfl | rfl | rfl | rfl | rfl | rfl | rfl | rfl | rfl | rfl | rfl | rfl | rfl
      · exact PySem.W.mg_none_of X Gl z_abs
      · exact PySem.W.mg_none_of X Gl z_all
      · exact PySem.W.mg_none_of X Gl z_any
      · exact PySem.W.mg_none_of X Gl z_bool
      · exact PySem.W.mg_none_of X Gl z_dict
      · exact PySem.W.mg_none_of X Gl z_enumerate
      · exact PySem.W.mg_none_of X Gl z_int
      · exact PySem.W.mg_none_of X Gl z_isinstance
      · exact PySem.W.mg_none_of X Gl z_len
      · exact PySem.W.mg_none_of X Gl z_list
      · exact PySem.W.mg_none_of X Gl z_max
      · exact PySem.W.mg_none_of X Gl z_min
      · exact PySem.W.mg_none_of X Gl z_range
      · exact PySem.W.mg_none_of X Gl z_repr
      · exact PySem.W.mg_none_of X Gl z_set
      · exact PySem.W.mg_none_of X Gl z_sorted
      · exact PySem.W.mg_none_of X Gl z_str
      · exact PySem.W.mg_none_of X Gl z_sum
      · exact PySem.W.mg_none_of X Gl z_tuple
      · exact PySem.W.mg_none_of X Gl z_zip
    · match f, hf with
      | 0, hf => cases (show some ("is_whole" : Str) = some x from hf); exact ⟨_, Df0, Bf0, PySem.W.mg_of X Gl a0⟩
      | 1, hf => cases (show some ("is_row" : Str) = some x from hf); exact ⟨_, Df1, Bf1, PySem.W.mg_of X Gl a1⟩
      | 2, hf => cases (show some ("reduced" : Str) = some x from hf); exact ⟨_, Df2, Bf2, PySem.W.mg_of X Gl a2⟩
      | 3, hf => cases (show some ("is_fraction" : Str) = some x from hf); exact ⟨_, Df3, Bf3, PySem.W.mg_of X Gl a3⟩
      | 4, hf => cases (show some ("want_fraction" : Str) = some x from hf); exact ⟨_, Df4, Bf4, PySem.W.mg_of X Gl a4⟩
      | 5, hf => cases (show some ("plus" : Str) = some x from hf); exact ⟨_, Df5, Bf5, PySem.W.mg_of X Gl a5⟩
      | 6, hf => cases (show some ("minus" : Str) = some x from hf); exact ⟨_, Df6, Bf6, PySem.W.mg_of X Gl a6⟩
      | 7, hf => cases (show some ("times" : Str) = some x from hf); exact ⟨_, Df7, Bf7, PySem.W.mg_of X Gl a7⟩
      | 8, hf => cases (show some ("over" : Str) = some x from hf); exact ⟨_, Df8, Bf8, PySem.W.mg_of X Gl a8⟩
      | 9, hf => cases (show some ("is_less" : Str) = some x from hf); exact ⟨_, Df9, Bf9, PySem.W.mg_of X Gl a9⟩
      | 10, hf => cases (show some ("floor_of" : Str) = some x from hf); exact ⟨_, Df10, Bf10, PySem.W.mg_of X Gl a10⟩
      | 11, hf => cases (show some ("ceiling_of" : Str) = some x from hf); exact ⟨_, Df11, Bf11, PySem.W.mg_of X Gl a11⟩
      | 12, hf => cases (show some ("nearest" : Str) = some x from hf); exact ⟨_, Df12, Bf12, PySem.W.mg_of X Gl a12⟩
      | 13, hf => cases (show some ("total" : Str) = some x from hf); exact ⟨_, Df13, Bf13, PySem.W.mg_of X Gl a13⟩
      | 14, hf => cases (show some ("median" : Str) = some x from hf); exact ⟨_, Df14, Bf14, PySem.W.mg_of X Gl a14⟩
      | 15, hf => cases (show some ("_law_taken" : Str) = some x from hf); exact ⟨_, Df15, Bf15, PySem.W.mg_of X Gl a15⟩
      | 16, hf => cases (show some ("_law_alike" : Str) = some x from hf); exact ⟨_, Df16, Bf16, PySem.W.mg_of X Gl a16⟩
      | 17, hf => cases (show some ("_law_truth" : Str) = some x from hf); exact ⟨_, Df17, Bf17, PySem.W.mg_of X Gl a17⟩
      | 18, hf => cases (show some ("_law_low" : Str) = some x from hf); exact ⟨_, Df18, Bf18, PySem.W.mg_of X Gl a18⟩
      | 19, hf => cases (show some ("law" : Str) = some x from hf); exact ⟨_, Df19, Bf19, PySem.W.mg_of X Gl a19⟩
      | _ + 20, hf => exact absurd hf (by simp [txt, tab, fnames])
    · have z : cc = 3 ∨ cc = 4 := by
        have hc : t_exc cc = true := hc
        unfold t_exc at hc
        split at hc <;> simp_all
      rcases z with rfl | rfl
      · refine ⟨by decide, ⟨ga3, gg3, eC3, hD3⟩, fun f hf => absurd hf (by simp [txt, tab, prog, t_xfs]), fun nm hn => ?_⟩
        · cases (show some ("ShowError" : Str) = some nm from hn); exact PySem.W.mg_of X Gl aC3
      · refine ⟨by decide, ⟨ga4, gg4, eC4, hD4⟩, fun f hf => ?_, fun nm hn => ?_⟩
        · have hf : f ∈ ([0] : List Nat) := hf
          simp only [List.mem_cons, List.not_mem_nil, or_false] at hf
          rcases hf with rfl
          · exact nf4_value
        · cases (show some ("BadNumber" : Str) = some nm from hn); exact PySem.W.mg_of X Gl aC4
    · have z : cc = 3 ∨ cc = 4 := by
        have hc : t_exc cc = true := hc
        unfold t_exc at hc
        split at hc <;> simp_all
      rcases z with rfl | rfl
      · exact absurd hx (by simp [txt, tab, prog, t_xfs])
      · cases (show ([0] : List Nat) = [fid] from hx)
        have o : L2.OexC K C4 := ⟨⟨nm4, qn4, N4, bs4, bm4, sn4, su4, ab4, co4, dd4, x04, x14, x24, x34, x54, xL4, rv4⟩, sa4, eC4, tC4, kC4⟩
        refine ⟨D4, "BadNumber.__init__", (L2.inClass (top 2) 0), "self", "value", ⟨o, in4, tI4, ⟨yc4, yk4, yd4, yp4, yt4, ycc4, ycl4, yo4, yn4, yod4, yld4, ys4, ycs4, yls4, CA4, CC4, vs4, file4, tf4, lI4, cI4, lA4, vf4, ff4, lK4⟩, sup_of (C3 := C3) (cls_of xL4) (by rw [mr4]) (cls_of xL3) fb4, sv4, op, zsup, tp⟩,
          ⟨⟨_, _, _, _, _, _, _, _, _, _, rfl, fun env => ⟨_, rfl⟩⟩, ⟨_, _, rfl, rfl, rfl⟩, by decide +kernel, rfl, rfl, rfl, by decide +kernel, by decide +kernel, by decide +kernel, by decide +kernel, by decide, by decide, by decide⟩, fun s v u kV doc pm cdv ct an ccl => .of_eq rfl⟩
    · have za : a = 3 ∨ a = 4 := by
        have hc : t_exc a = true := ha
        unfold t_exc at hc
        split at hc <;> simp_all
      have zb : b = 3 ∨ b = 4 := by
        have hc : t_exc b = true := hb
        unfold t_exc at hc
        split at hc <;> simp_all
      rcases za with rfl | rfl <;> rcases zb with rfl | rfl
      · exact exm_of eC3 iC3 tC3 e3_3
      · exact exm_of eC4 iC4 tC4 e3_4
      · exact exm_of eC3 iC3 tC3 e4_3
      · exact exm_of eC4 iC4 tC4 e4_4
  refine ⟨_, fun s v => .of_eq (show bindArgs (PySem.W.fnOf "law" "law" (L2.defArgs (top 25)) (L2.defBody (top 25)) (L2.defScope (top 25)) .none kV19 dc19 pm19 an19 cd19 ct19) ⟨[v], []⟩ = _ from rfl), fun base _ _ => ?_⟩
  obtain ⟨fd, A1, A2, _, _⟩ := all_defs (w := w) (base := base) (wf := wf) ok W n 19 "law" rfl
  have efd : fd = PySem.W.fnOf "law" "law" (L2.defArgs (top 25)) (L2.defBody (top 25)) (L2.defScope (top 25)) .none kV19 dc19 pm19 an19 cd19 ct19 := by
    obtain ⟨oc, od, kV, doc, pm, an, cdv, ct, osl, rfl, lk, hcd⟩ := A2.ex
    have z := lk.symm.trans l19
    cases z; rfl
  rw [← efd, hfe]
  exact law_imp (X := txt) (G := G) (f := 19) rfl A1 rfl rfl rfl law
end
end K10
open PySem PySem.W PyProof.Rows
set_option maxRecDepth 100000 in
set_option maxHeartbeats 0 in
theorem PySem.Challenge.cw_loanwalls_k10_whole_fractions_holds : PySem.Challenge.rw_loanwalls_k10_whole_fractions.Holds := by
  w_on; o_law; k_head; (case hw => w_witness2)
  k_fill
  refine LW.walk (l := PySem.Challenge.rw_loanwalls_k10_whole_fractions) (k := K10.depth + 1) rfl rfl ⟨rfl, by decide, by decide⟩ (fun w h Y => PySem.W.kIn_of Y) ?F
  case F =>
    intro w mg fa h KX G hmg
    refine' K10.all_mk KX G hmg ?a0 ?l0 ?c0 ?k0 ?a1 ?l1 ?c1 ?k1 ?a2 ?l2 ?c2 ?k2 ?a3 ?l3 ?c3 ?k3 ?a4 ?l4 ?c4 ?k4 ?a5 ?l5 ?c5 ?k5 ?a6 ?l6 ?c6 ?k6 ?a7 ?l7 ?c7 ?k7 ?a8 ?l8 ?c8 ?k8 ?a9 ?l9 ?c9 ?k9 ?a10 ?l10 ?c10 ?k10 ?a11 ?l11 ?c11 ?k11 ?a12 ?l12 ?c12 ?k12 ?a13 ?l13 ?c13 ?k13 ?a14 ?l14 ?c14 ?k14 ?a15 ?l15 ?c15 ?k15 ?a16 ?l16 ?c16 ?k16 ?a17 ?l17 ?c17 ?k17 ?a18 ?l18 ?c18 ?k18 ?a19 ?l19 ?c19 ?k19 ?z_abs ?z_all ?z_any ?z_bool ?z_dict ?z_enumerate ?z_int ?z_isinstance ?z_len ?z_list ?z_max ?z_min ?z_range ?z_repr ?z_set ?z_sorted ?z_str ?z_sum ?z_tuple ?z_zip ?zsup ?op ?aC3 ?xL3 ?ga3 ?gg3 ?eC3 ?hD3 ?tC3 ?iC3 ?aC4 ?xL4 ?ga4 ?gg4 ?eC4 ?hD4 ?tC4 ?iC4 ?nf4_value ?sa4 ?kC4 ?in4 ?tI4 ?lI4 ?cI4 ?lA4 ?lK4 ?sv4 ?fb4 ?e3_3 ?e3_4 ?e4_3 ?e4_4 ?rv3 ?rv4 ?mr4 ?vf4 ?ff4 ?tp (n := K10.depth) (wf := K10.fuel) K10.law_true
    (case a0 => k_is); (case l0 => k_is); (case c0 => k_is); (case k0 => k_is); (case a1 => k_is); (case l1 => k_is); (case c1 => k_is); (case k1 => k_is)
    (case a2 => k_is); (case l2 => k_is); (case c2 => k_is); (case k2 => k_is); (case a3 => k_is); (case l3 => k_is); (case c3 => k_is); (case k3 => k_is)
    (case a4 => k_is); (case l4 => k_is); (case c4 => k_is); (case k4 => k_is); (case a5 => k_is); (case l5 => k_is); (case c5 => k_is); (case k5 => k_is)
    (case a6 => k_is); (case l6 => k_is); (case c6 => k_is); (case k6 => k_is); (case a7 => k_is); (case l7 => k_is); (case c7 => k_is); (case k7 => k_is)
    (case a8 => k_is); (case l8 => k_is); (case c8 => k_is); (case k8 => k_is); (case a9 => k_is); (case l9 => k_is); (case c9 => k_is); (case k9 => k_is)
    (case a10 => k_is); (case l10 => k_is); (case c10 => k_is); (case k10 => k_is); (case a11 => k_is); (case l11 => k_is); (case c11 => k_is); (case k11 => k_is)
    (case a12 => k_is); (case l12 => k_is); (case c12 => k_is); (case k12 => k_is); (case a13 => k_is); (case l13 => k_is); (case c13 => k_is); (case k13 => k_is)
    (case a14 => k_is); (case l14 => k_is); (case c14 => k_is); (case k14 => k_is); (case a15 => k_is); (case l15 => k_is); (case c15 => k_is); (case k15 => k_is)
    (case a16 => k_is); (case l16 => k_is); (case c16 => k_is); (case k16 => k_is); (case a17 => k_is); (case l17 => k_is); (case c17 => k_is); (case k17 => k_is)
    (case a18 => k_is); (case l18 => k_is); (case c18 => k_is); (case k18 => k_is); (case a19 => k_is); (case l19 => k_is); (case c19 => k_is); (case k19 => k_is)
    (case z_abs => k_is); (case z_all => k_is); (case z_any => k_is); (case z_bool => k_is); (case z_dict => k_is); (case z_enumerate => k_is); (case z_int => k_is); (case z_isinstance => k_is)
    (case z_len => k_is); (case z_list => k_is); (case z_max => k_is); (case z_min => k_is); (case z_range => k_is); (case z_repr => k_is); (case z_set => k_is); (case z_sorted => k_is)
    (case z_str => k_is); (case z_sum => k_is); (case z_tuple => k_is); (case z_zip => k_is); (case zsup => k_is); (case op => k_is); (case aC3 => k_is); (case xL3 => k_is)
    (case ga3 => k_is); (case gg3 => k_is); (case eC3 => k_is); (case hD3 => k_is); (case tC3 => k_is); (case iC3 => k_is); (case aC4 => k_is); (case xL4 => k_is)
    (case ga4 => k_is); (case gg4 => k_is); (case eC4 => k_is); (case hD4 => k_is); (case tC4 => k_is); (case iC4 => k_is); (case nf4_value => k_is); (case sa4 => k_is)
    (case kC4 => k_is); (case in4 => k_is); (case tI4 => k_is); (case lI4 => k_is); (case cI4 => k_is); (case lA4 => k_is); (case lK4 => k_is); (case sv4 => k_is)
    (case fb4 => k_is); (case e3_3 => k_is); (case e3_4 => k_is); (case e4_3 => k_is); (case e4_4 => k_is)
    (case rv3 => first | rfl | decide +kernel)
    (case rv4 => first | rfl | decide +kernel)
    (case mr4 => first | rfl | decide +kernel)
    (case vf4 => first | rfl | decide +kernel)
    (case ff4 => first | rfl | decide +kernel)
    (case tp => first | rfl | decide +kernel)
