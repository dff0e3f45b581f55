import PyProof.Rows.All
import Wide.All
import OpenK.AllK
import Wide.FinOn
import PySem.Challenge.RW_roadloaves_k24_loaves_that_pass
import HandS.ForMost
import HandS.ForExc
import PySem.Str
import HandS.ExcIs
import HandS.ExcValue
import HandS.Wide
import HandS.TupAny
import HandS.IsInst
import HandS.CallSlots
import HandS.Flow
import HandS.Style
import HandS.TupMul
import KE.DataEq
import HandS.Star
import KE.KTupSum
import KE.DatumOrd
import HandS.Zip
import KE.GoesEnum
import HandS.TryOnly
import HandS.Comp
import HandS.List
import HandS.SetFor
import HandS.Strs
import HandS.SortInts
import PyProof.SumAny
import HandS.SortRule
import HandS.Conv
import HandS.Defaults
import HandS.WordsExc
import HandS.Head0
import HandS.Head1
import HandS.Head2
import HandS.HeadEnd
import HandS.HeadHook1
import HandS.HeadHook2
set_option linter.all false
/-! G48: a small language (values, expressions, statements) with its own meaning, in plain Lean. -/
namespace G48
open PySem

/-! ### values -/
inductive D where
  | non
  | bl (b : Bool)
  | int (i : Int)
  | str (s : Str)
  | tup (xs : List D)
  | lst (xs : List D)
  | cell (n : Nat)
  | exc (c : Nat) (vs : List D)
  | scr (ns : List Int)
  deriving Inhabited

inductive Cel where
  | lst (xs : List D)
  | tmp

/-- the lists that may change; a dead one is none -/
abbrev Mem := List (Option Cel)
abbrev Env := List (Option D)

inductive R (α : Type) where
  | ok (a : α) (m : Mem)
  | exc (x : D) (m : Mem)
  | bad

def R.bind {α β : Type} (r : R α) (f : α → Mem → R β) : R β :=
  match r with
  | .ok a m => f a m
  | .exc x m => .exc x m
  | .bad => .bad
@[simp] theorem R.bind_ok {α β : Type} (a : α) (m : Mem) (f : α → Mem → R β) : (R.ok a m).bind f = f a m := rfl
@[simp] theorem R.bind_exc {α β : Type} (x : D) (m : Mem) (f : α → Mem → R β) : (R.exc x m : R α).bind f = .exc x m := rfl
@[simp] theorem R.bind_bad {α β : Type} (f : α → Mem → R β) : (R.bad : R α).bind f = .bad := rfl
/-- what a pure step gives -/
def R.of {α : Type} (o : Option α) (m : Mem) : R α :=
  match o with
  | some a => .ok a m
  | none => .bad
@[simp] theorem R.of_some {α : Type} (a : α) (m : Mem) : R.of (some a) m = .ok a m := rfl
@[simp] theorem R.of_none {α : Type} (m : Mem) : (R.of none m : R α) = .bad := rfl

mutual
/-- no cell from k on -/
def below (k : Nat) : D → Bool
  | .cell n => decide (n < k)
  | .tup xs => belows k xs
  | .lst xs => belows k xs
  | .exc _ xs => belows k xs
  | _ => true
def belows (k : Nat) : List D → Bool
  | [] => true
  | x :: xs => below k x && belows k xs
end

def BIG : Nat := 1000000
/-- a new list that may change; what it holds cannot -/
def newCell (ds : List D) (m : Mem) : R D := if belows 0 ds = true then .ok (.cell m.length) (m ++ [some (.lst ds)]) else .bad

/-- a list that may change, as it is now -/
def peek (m : Mem) : D → D
  | .cell n => match m[n]? with
    | some (some (.lst xs)) => .lst xs
    | _ => .cell n
  | d => d

/-! ### operators -/
inductive Bop where
  | add | sub | mul | fdiv | mod | pow
  deriving DecidableEq
inductive Cop where
  | eq | ne | lt | le | gt | ge | mem | nmem
  deriving DecidableEq

/-- bounds of products and of divisors -/
def MULB : Nat := 10 ^ 3000
def DIVB : Int := 10 ^ 300
def DIVN : Nat := 10 ^ 300
/-- a bound that the kernel never counts down -/
def leB (k : Int) (n : Nat) : Bool := Nat.ble k.toNat n
theorem leB_le {k : Int} {n : Nat} : leB k n = true ↔ k ≤ (n : Int) := by unfold leB; rw [Nat.ble_eq]; omega
def mulOk (a b : Int) : Bool := decide (a.natAbs < 2 ^ 64) || decide (b.natAbs < 2 ^ 64) || (decide (a.natAbs < MULB) && decide (b.natAbs < MULB))
def rep {α : Type} (xs : List α) : Nat → List α
  | 0 => []
  | n + 1 => xs ++ rep xs n

def bop : Bop → D → D → Option D
  | .add, .int a, .int b => some (.int (a + b))
  | .sub, .int a, .int b => some (.int (a - b))
  | .mul, .int a, .int b => if mulOk a b then some (.int (a * b)) else none
  | .fdiv, .int a, .int b => if 0 < b ∧ leB b DIVN = true then some (.int (a / b)) else none
  | .mod, .int a, .int b => if 0 < b then some (.int (a % b)) else none
  | .pow, .int a, .int b => if 0 ≤ b ∧ leB b 1000 = true ∧ a.natAbs < 2 ^ 64 then some (.int (a ^ b.toNat)) else none
  | .add, .tup xs, .tup ys => if xs.length + ys.length ≤ BIG then some (.tup (xs ++ ys)) else none
  | .add, .lst xs, .lst ys => if xs.length + ys.length ≤ BIG then some (.lst (xs ++ ys)) else none
  | .mul, .lst xs, .int k => if 0 ≤ k ∧ leB k BIG = true ∧ xs.length * k.toNat ≤ BIG then some (.lst (rep xs k.toNat)) else none
  | .mul, .tup xs, .int k => if 1 ≤ k ∧ leB k 1000 = true ∧ xs.length ≤ 1000 then some (.tup (rep xs k.toNat)) else none
  | .add, .str a, .str b => if a.length + b.length ≤ BIG then some (.str (a ++ b)) else none
  | _, _, _ => none

mutual
/-- Python's == of data -/
def deq : D → D → Bool
  | .non, .non => true
  | .bl a, .bl b => a == b
  | .bl a, .int j => (if a then 1 else 0) == j
  | .int i, .bl b => i == (if b then 1 else 0)
  | .int i, .int j => i == j
  | .str x, .str y => x == y
  | .lst xs, .lst ys => deqs xs ys
  | .tup xs, .tup ys => deqs xs ys
  | _, _ => false
def deqs : List D → List D → Bool
  | [], [] => true
  | x :: xs, y :: ys => deq x y && deqs xs ys
  | _, _ => false
end
/-- data without changeable parts, of a depth -/
def okd : Nat → D → Bool
  | _, .non => true
  | _, .bl _ => true
  | _, .int _ => true
  | _, .str _ => true
  | n + 1, .tup xs => xs.all (okd n)
  | n + 1, .lst xs => xs.all (okd n)
  | _, _ => false

/-- is x among the flat things xs, by == -/
def flatD : D → Bool
  | .non => true
  | .bl _ => true
  | .int _ => true
  | .str _ => true
  | _ => false

def cop : Cop → D → D → Option D
  | .lt, .int a, .int b => some (.bl (decide (a < b)))
  | .le, .int a, .int b => some (.bl (decide (a ≤ b)))
  | .gt, .int a, .int b => some (.bl (decide (b < a)))
  | .ge, .int a, .int b => some (.bl (decide (b ≤ a)))
  | .eq, d, e => if okd 60 d && okd 60 e then some (.bl (deq d e)) else none
  | .ne, d, e => if okd 60 d && okd 60 e then some (.bl (!deq d e)) else none
  | .mem, d, .lst xs => if okd 60 d && xs.all (okd 60) then some (.bl (xs.any fun y => deq y d)) else none
  | .mem, d, .tup xs => if okd 60 d && xs.all (okd 60) then some (.bl (xs.any fun y => deq y d)) else none
  | .nmem, d, .lst xs => if okd 60 d && xs.all (okd 60) then some (.bl (!xs.any fun y => deq y d)) else none
  | .nmem, d, .tup xs => if okd 60 d && xs.all (okd 60) then some (.bl (!xs.any fun y => deq y d)) else none
  | _, _, _ => none

def isNon : D → Bool
  | .non => true
  | _ => false
def truth : D → Option Bool
  | .non => some false
  | .bl b => some b
  | .int i => some (decide (i ≠ 0))
  | .tup xs => some (!xs.isEmpty)
  | .lst xs => some (!xs.isEmpty)
  | _ => none

def pyIx (n : Nat) (i : Int) : Option Nat :=
  if 0 ≤ i then (if i < n then some i.toNat else none) else (if 0 ≤ n + i then some (n + i).toNat else none)
def ixD : D → D → Option D
  | .tup xs, .int i => (pyIx xs.length i).bind fun k => xs[k]?
  | .lst xs, .int i => (pyIx xs.length i).bind fun k => xs[k]?
  | _, _ => none
/-- where a slice begins or ends -/
def cutIx (n : Nat) (d : Nat) : Option Int → Nat
  | none => d
  | some i => if 0 ≤ i then min i.toNat n else (n + i).toNat
def cutL {α : Type} (xs : List α) (lo hi : Option Int) : List α := (xs.take (cutIx xs.length xs.length hi)).drop (cutIx xs.length 0 lo)
def intO : Option D → Option (Option Int)
  | none => some none
  | some (.int i) => some (some i)
  | _ => none
def sliceD (d : D) (lo hi : Option Int) : Option D :=
  match d with
  | .tup xs => some (.tup (cutL xs lo hi))
  | .lst xs => some (.lst (cutL xs lo hi))
  | .scr ns => some (.lst ((cutL ns lo hi).map .int))
  | _ => none
def revD : D → Option D
  | .tup xs => some (.tup xs.reverse)
  | .lst xs => some (.lst xs.reverse)
  | _ => none
def seqD : D → Option (List D)
  | .tup xs => some xs
  | .lst xs => some xs
  | _ => none

/-! ### built-ins of one argument -/
inductive B1 where
  | len | abs | int | sum | all | any | tuple | list | min | max | sorted | lenSet | sortSet | sumL | sortedP | sortedT
  deriving DecidableEq
def boolsD : List D → Option (List Bool)
  | [] => some []
  | .bl b :: r => (boolsD r).map (b :: ·)
  | _ => none
def intsD : List D → Option (List Int)
  | [] => some []
  | .int i :: r => (intsD r).map (i :: ·)
  | _ => none
def minI : Int → List Int → Int
  | a, [] => a
  | a, b :: r => minI (if b < a then b else a) r
def maxI : Int → List Int → Int
  | a, [] => a
  | a, b :: r => maxI (if b > a then b else a) r
def minL : List Int → Option D
  | [] => none
  | i :: r => some (.int (minI i r))
def maxL : List Int → Option D
  | [] => none
  | i :: r => some (.int (maxI i r))
/-- put in its place in a list that ascends -/
def ins (x : Int) : List Int → List Int
  | [] => [x]
  | y :: r => if x ≤ y then x :: y :: r else y :: ins x r
def srt : List Int → List Int
  | [] => []
  | x :: r => ins x (srt r)
/-- .. where it is not there yet -/
def insS (x : Int) : List Int → List Int
  | [] => [x]
  | y :: r => if x < y then x :: y :: r else if x = y then y :: r else y :: insS x r
def srtS : List Int → List Int
  | [] => []
  | x :: r => insS x (srtS r)
/-- pairs of ints by their first, then by their second -/
def leP (p q : Int × Int) : Bool := decide (p.1 < q.1) || (decide (p.1 = q.1) && decide (p.2 ≤ q.2))
def insP (x : Int × Int) : List (Int × Int) → List (Int × Int)
  | [] => [x]
  | y :: r => if leP x y then x :: y :: r else y :: insP x r
def srtP : List (Int × Int) → List (Int × Int)
  | [] => []
  | x :: r => insP x (srtP r)
def pairsD : List D → Option (List (Int × Int))
  | [] => some []
  | .tup [.int i, .int j] :: r => (pairsD r).map ((i, j) :: ·)
  | _ => none
def prD2 (p : Int × Int) : D := .tup [.int p.1, .int p.2]
def lstsD : List D → Option (List (List D))
  | [] => some []
  | .lst x :: r => (lstsD r).map (x :: ·)
  | _ => none
def b1 : B1 → D → Option D
  | .len, .tup xs => some (.int xs.length)
  | .len, .lst xs => some (.int xs.length)
  | .len, .scr xs => some (.int xs.length)
  | .abs, .int i => some (.int (if i < 0 then -i else i))
  | .int, .int i => some (.int i)
  | .int, .bl b => some (.int (if b then 1 else 0))
  | .sum, d => (seqD d).bind fun xs => (intsD xs).map fun ns => .int ns.sum
  | .all, .lst xs => (boolsD xs).map fun bs => .bl (bs.all id)
  | .any, .lst xs => (boolsD xs).map fun bs => .bl (bs.any id)
  | .tuple, d => (seqD d).map .tup
  | .list, d => (seqD d).map .lst
  | .min, .lst xs => (intsD xs).bind minL
  | .max, .lst xs => (intsD xs).bind maxL
  | .min, .tup xs => (intsD xs).bind minL
  | .max, .tup xs => (intsD xs).bind maxL
  | .sorted, .lst xs => (intsD xs).map fun ns => .lst ((srt ns).map .int)
  | .sumL, .lst xs => (lstsD xs).bind fun ls => if ls.flatten.length ≤ BIG then some (.lst ls.flatten) else none
  | .sortedP, .lst xs => (pairsD xs).map fun ns => .lst ((srtP ns).map prD2)
  | .sortedT, .tup xs => (intsD xs).map fun ns => .lst ((srt ns).map .int)
  | .lenSet, .lst xs => (intsD xs).bind fun ns => if ns.length < 64 then some (.int (srtS ns).length) else none
  | .sortSet, .lst xs => (intsD xs).bind fun ns => if ns.length < 64 then some (.lst ((srtS ns).map .int)) else none
  | .lenSet, .tup xs => (intsD xs).bind fun ns => if ns.length < 64 then some (.int (srtS ns).length) else none
  | .sortSet, .tup xs => (intsD xs).bind fun ns => if ns.length < 64 then some (.lst ((srtS ns).map .int)) else none
  | _, _ => none

/-! ### classes that isinstance asks for -/
inductive Ty where
  | int | bool | str | list | tuple
  | valErr | lookErr
  | cls (c : Nat)
  deriving DecidableEq
def isT : D → Ty → Bool
  | .bl _, .bool => true
  | .bl _, .int => true
  | .int _, .int => true
  | .str _, .str => true
  | .lst _, .list => true
  | .cell _, .list => true
  | .scr _, .list => true
  | .tup _, .tuple => true
  | .exc c _, .cls c' => c == c'
  | .exc c _, .valErr => c % 2 == 0
  | .exc c _, .lookErr => c % 2 == 1
  | _, _ => false

def Ty.plain : Ty → Bool
  | .cls _ => false
  | .valErr => false
  | .lookErr => false
  | _ => true
def Ty.exc : Ty → Bool
  | .cls _ => true
  | .valErr => true
  | .lookErr => true
  | _ => false
/-- isinstance of data and built-in classes -/
def isinD (d : D) (ts : List Ty) : Option D :=
  match d with
  | .exc c vs => if ts.all Ty.exc && !ts.isEmpty then some (.bl (ts.any (isT (.exc c vs)))) else none
  | .cell _ => none
  | d => if ts.all Ty.plain then some (.bl (ts.any (isT d))) else none

/-! ### errors: even numbers are ValueErrors, odd ones LookupErrors -/
/-- the names of what an error keeps -/
def xcF : Nat → List Str
  | 1 => ["row", "column"]
  | 3 => ["baker"]
  | 4 => ["move"]
  | 8 => ["row", "column"]
  | 12 => ["number"]
  | _ => []
def fldD (c : Nat) (f : Str) (vs : List D) : Option D := ((xcF c).zip vs).lookup f
/-- what an error made with these arguments keeps -/
def mkExc (c : Nat) (ds : List D) : Option (List D) :=
  if ds.length = (xcF c).length then
    (if c = 4 then match ds with
      | [d] => (seqD d).map fun xs => [.tup xs]
      | _ => none
    else some ds) else none

/-! ### the syntax -/
mutual
inductive Tg where
  | nm (i : Nat)
  | tp (ts : Tgs)
inductive Tgs where
  | nil
  | cons (t : Tg) (r : Tgs)
end

inductive Ar where
  | arg (k : Nat)
  | dft (d : D)

mutual
inductive E where
  | var (i : Nat)
  | int (n : Int)
  | bl (b : Bool)
  | non
  | str (s : Str)
  | gl (x : Str) (d : D)
  | bin (o : Bop) (a b : E)
  | neg (a : E)
  | not (a : E)
  | and (a b : E)
  | or (a b : E)
  | cmp (o : Cop) (a b : E)
  | chain (o o' : Cop) (a b c : E)
  | isN (a : E)
  | notN (a : E)
  | ife (c a b : E)
  | tup (es : Es)
  | lst (es : Es)
  | cel (es : Es)
  | ix (a i : E)
  | slice (a : E) (lo hi : Es)
  | rev (a : E)
  | call (f : Nat) (es : Es)
  | callA (f : Nat) (es : Es) (arr : List Ar)
  | b1 (f : B1) (a : E)
  | min2 (a b : E)
  | max2 (a b : E)
  | isin (a : E) (ts : List Ty)
  | seqI (t : Bool) (i : I)
  | comp (c : Bool) (e : E) (t : Tg) (i : I) (fs : Es)
  | comp2 (e : E) (t : Tg) (i : I) (fs : Es) (t1 : Tg) (i1 : I) (fs1 : Es)
  | cellOf (a : E)
  | attr (a : E) (f : Str)
inductive Es where
  | nil
  | cons (e : E) (r : Es)
  | star (e : E) (r : Es)
inductive I where
  | of (e : E)
  | rng (es : Es)
  | enum (e : E)
  | zip (es : Es)
  | zipS (e : E)
  | enumZip (es : Es)
end

/-! ### targets -/
mutual
def bindT : Tg → D → Env → Option Env
  | .nm i, d, ρ => some (ρ.set i (some d))
  | .tp ts, d, ρ => (seqD d).bind fun ds => bindTs ts ds ρ
def bindTs : Tgs → List D → Env → Option Env
  | .nil, [], ρ => some ρ
  | .cons t r, d :: ds, ρ => (bindT t d ρ).bind fun ρ' => bindTs r ds ρ'
  | _, _, _ => none
end

mutual
/-- the slots of a target -/
def tgv : Tg → List Nat
  | .nm i => [i]
  | .tp ts => tgvs ts
def tgvs : Tgs → List Nat
  | .nil => []
  | .cons t r => tgv t ++ tgvs r
end
def wipe : Env → List Nat → Env
  | ρ, [] => ρ
  | ρ, v :: vs => wipe (ρ.set v none) vs

/-! ### what is walked -/
def rngL (lo st : Int) : Nat → List D
  | 0 => []
  | n + 1 => .int lo :: rngL (lo + st) st n
def rngD : List D → Option (List D)
  | [.int n] => if leB (-n) (2 ^ 62) = true ∧ leB n BIG = true then some (rngL 0 1 n.toNat) else none
  | [.int a, .int b] => if leB (b - a) BIG = true ∧ leB (-a) (2 ^ 62) = true ∧ leB a (2 ^ 62 - 1) = true ∧ leB (-b) (2 ^ 62) = true ∧ leB b (2 ^ 62 - 1) = true then some (rngL a 1 (b - a).toNat) else none
  | _ => none
def enumL (k : Int) : List D → List D
  | [] => []
  | d :: r => .tup [.int k, d] :: enumL (k + 1) r
def heads : List (List D) → Option (List D × List (List D))
  | [] => some ([], [])
  | [] :: _ => none
  | (d :: r) :: rest => (heads rest).map fun p => (d :: p.1, r :: p.2)
/-- zip of several lists; n bounds the turns -/
def zipN : Nat → List (List D) → List D
  | 0, _ => []
  | n + 1, ls => match heads ls with
    | none => []
    | some (ds, rs) => .tup ds :: zipN n rs
def zipL : List (List D) → List D
  | [] => []
  | l :: ls => zipN l.length (l :: ls)
def seqsD : List D → Option (List (List D))
  | [] => some []
  | d :: r => (seqD d).bind fun l => (seqsD r).map (l :: ·)

def zipD (ds : List D) : Option (List (List D)) := if ds.length ≤ 16 ∧ ds ≠ [] then seqsD ds else none

/-- the arguments put in the parameters' order -/
def arrange (arr : List Ar) (ds : List D) : Option (List D) :=
  match arr with
  | [] => some []
  | .arg k :: r => (ds[k]?).bind fun d => (arrange r ds).map (d :: ·)
  | .dft d :: r => if flatD d then (arrange r ds).map (d :: ·) else none

def compLoop (f : D → Mem → R (Option D)) : List D → Mem → R (List D)
  | [], m => .ok [] m
  | x :: xs, m => match f x m with
    | .ok o m1 => match compLoop f xs m1 with
      | .ok r m2 => .ok (o.toList ++ r) m2
      | .exc _ _ => .bad
      | .bad => .bad
    | .exc _ _ => .bad
    | .bad => .bad

/-- one list behind another -/
def conc (r : R (List D)) (k : Mem → R (List D)) : R (List D) :=
  match r with
  | .ok l m => match k m with
    | .ok q m2 => .ok (l ++ q) m2
    | .exc _ _ => .bad
    | .bad => .bad
  | .exc _ _ => .bad
  | .bad => .bad
def compLoop2 (f : D → Mem → R (List D)) : List D → Mem → R (List D)
  | [], m => .ok [] m
  | x :: xs, m => conc (f x m) fun m => compLoop2 f xs m
def compEnd2 (n : Nat) (r : R (List D)) : R D := r.bind fun xs m => if xs.length ≤ BIG then (if belows n xs then .ok (.lst xs) (m.take n) else .ok (.lst xs) (m.set n none)) else .bad
/-- the list of a comprehension is done -/
def compEnd (c : Bool) (n : Nat) (r : R (List D)) : R D := r.bind fun xs m => if c then (if belows 0 xs then .ok (.cell n) (m.set n (some (.lst xs))) else .bad) else if belows n xs then .ok (.lst xs) (m.take n) else .ok (.lst xs) (m.set n none)
def tst (r : R D) : R Bool := r.bind fun d m => .of (truth (peek m d)) m
def optE : List D → Option (Option Int)
  | [] => some none
  | [.int i] => some (some i)
  | _ => none
def opt (r : R (List D)) : R (Option Int) := r.bind fun l m => .of (optE l) m

mutual
def evE (cf : Nat → List D → Mem → R D) : E → Env → Mem → R D
  | .var i, ρ, m => match ρ[i]? with
    | some (some d) => .ok d m
    | _ => .bad
  | .int n, _, m => .ok (.int n) m
  | .bl b, _, m => .ok (.bl b) m
  | .non, _, m => .ok .non m
  | .str s, _, m => .ok (.str s) m
  | .gl _ d, _, m => .ok d m
  | .bin o a b, ρ, m => (evE cf a ρ m).bind fun x m => (evE cf b ρ m).bind fun y m => .of (bop o (peek m x) (peek m y)) m
  | .neg a, ρ, m => (evE cf a ρ m).bind fun x m => match x with
    | .int i => .ok (.int (-i)) m
    | _ => .bad
  | .not a, ρ, m => (tst (evE cf a ρ m)).bind fun b m => .ok (.bl (!b)) m
  | .and a b, ρ, m => (evE cf a ρ m).bind fun x m => match truth (peek m x) with
    | some true => evE cf b ρ m
    | some false => .ok x m
    | none => .bad
  | .or a b, ρ, m => (evE cf a ρ m).bind fun x m => match truth (peek m x) with
    | some true => .ok x m
    | some false => evE cf b ρ m
    | none => .bad
  | .cmp o a b, ρ, m => (evE cf a ρ m).bind fun x m => (evE cf b ρ m).bind fun y m => .of (cop o (peek m x) (peek m y)) m
  | .chain o o' a b c, ρ, m => (evE cf a ρ m).bind fun x m => (evE cf b ρ m).bind fun y m => (R.of (cop o (peek m x) (peek m y)) m).bind fun r m => match r with
    | .bl true => (evE cf c ρ m).bind fun z m => .of (cop o' (peek m y) (peek m z)) m
    | .bl false => .ok (.bl false) m
    | _ => .bad
  | .isN a, ρ, m => (evE cf a ρ m).bind fun x m => .ok (.bl (isNon x)) m
  | .notN a, ρ, m => (evE cf a ρ m).bind fun x m => .ok (.bl (!isNon x)) m
  | .ife c a b, ρ, m => (tst (evE cf c ρ m)).bind fun t m => if t then evE cf a ρ m else evE cf b ρ m
  | .tup es, ρ, m => (evEs cf es ρ m).bind fun ds m => if ds.length ≤ BIG then .ok (.tup ds) m else .bad
  | .lst es, ρ, m => (evEs cf es ρ m).bind fun ds m => if ds.length ≤ BIG then .ok (.lst ds) m else .bad
  | .cel es, ρ, m => (evEs cf es ρ m).bind fun ds m => if ds.length ≤ BIG then newCell ds m else .bad
  | .ix a i, ρ, m => (evE cf a ρ m).bind fun x m => (evE cf i ρ m).bind fun y m => .of (ixD (peek m x) y) m
  | .slice a lo hi, ρ, m => (evE cf a ρ m).bind fun x m => (opt (evEs cf lo ρ m)).bind fun l m => (opt (evEs cf hi ρ m)).bind fun h m => .of (sliceD (peek m x) l h) m
  | .rev a, ρ, m => (evE cf a ρ m).bind fun x m => .of (revD (peek m x)) m
  | .call f es, ρ, m => (evEs cf es ρ m).bind fun ds m => cf f ds m
  | .callA f es arr, ρ, m => (evEs cf es ρ m).bind fun ds m => (R.of (arrange arr ds) m).bind fun ds m => cf f ds m
  | .b1 f a, ρ, m => (evE cf a ρ m).bind fun x m => .of (b1 f (peek m x)) m
  | .min2 a b, ρ, m => (evE cf a ρ m).bind fun x m => (evE cf b ρ m).bind fun y m => match x, y with
    | .int i, .int j => .ok (.int (if j < i then j else i)) m
    | _, _ => .bad
  | .max2 a b, ρ, m => (evE cf a ρ m).bind fun x m => (evE cf b ρ m).bind fun y m => match x, y with
    | .int i, .int j => .ok (.int (if j > i then j else i)) m
    | _, _ => .bad
  | .isin a ts, ρ, m => (evE cf a ρ m).bind fun x m => .of (isinD (peek m x) ts) m
  | .seqI t i, ρ, m => (evI cf i ρ m).bind fun ds m => .ok (if t then .tup ds else .lst ds) m
  | .comp c e t i .nil, ρ, m => (evI cf i ρ m).bind fun ds m =>
    compEnd c m.length (compLoop (fun d m => (R.of (bindT t d (wipe ρ (tgv t))) m).bind fun ρ' m => (evE cf e ρ' m).bind fun x m => .ok (some x) m) ds (m ++ [some .tmp]))
  | .comp c e t i (.cons f .nil), ρ, m => (evI cf i ρ m).bind fun ds m =>
    compEnd c m.length (compLoop (fun d m => (R.of (bindT t d (wipe ρ (tgv t))) m).bind fun ρ' m => (tst (evE cf f ρ' m)).bind fun b m => if b then (evE cf e ρ' m).bind fun x m => .ok (some x) m else .ok none m) ds (m ++ [some .tmp]))
  | .comp _ _ _ _ (.cons _ _), _, _ => .bad
  | .comp _ _ _ _ (.star _ _), _, _ => .bad
  | .comp2 e t i fs t1 i1 fs1, ρ, m => (evI cf i ρ m).bind fun ds m =>
    compEnd2 m.length (compLoop2 (fun d m => (R.of (bindT t d (wipe ρ (tgv t ++ tgv t1))) m).bind fun ρ' m => (evT cf fs ρ' m).bind fun b m => if b then (evI cf i1 ρ' m).bind fun ds1 m =>
      compLoop (fun d m => (R.of (bindT t1 d (wipe ρ' (tgv t1))) m).bind fun ρ'' m => (evT cf fs1 ρ'' m).bind fun b m => if b then (evE cf e ρ'' m).bind fun x m => .ok (some x) m else .ok none m) ds1 m else .ok [] m) ds (m ++ [some .tmp]))
  | .cellOf a, ρ, m => (evE cf a ρ m).bind fun x m => match x with
    | .lst ds => newCell ds m
    | _ => .bad
  | .attr a f, ρ, m => (evE cf a ρ m).bind fun x m => match x with
    | .exc c vs => .of (fldD c f vs) m
    | _ => .bad
/-- tests -/
def evT (cf : Nat → List D → Mem → R D) : Es → Env → Mem → R Bool
  | .nil, _, m => .ok true m
  | .cons f .nil, ρ, m => tst (evE cf f ρ m)
  | .cons _ (.cons _ _), _, _ => .bad
  | .cons _ (.star _ _), _, _ => .bad
  | .star _ _, _, _ => .bad
def evEs (cf : Nat → List D → Mem → R D) : Es → Env → Mem → R (List D)
  | .nil, _, m => .ok [] m
  | .cons e r, ρ, m => (evE cf e ρ m).bind fun x m => (evEs cf r ρ m).bind fun xs m => .ok (x :: xs) m
  | .star e r, ρ, m => (evE cf e ρ m).bind fun x m => (R.of (seqD (peek m x)) m).bind fun ys m => (evEs cf r ρ m).bind fun xs m => .ok (ys ++ xs) m
def evI (cf : Nat → List D → Mem → R D) : I → Env → Mem → R (List D)
  | .of e, ρ, m => (evE cf e ρ m).bind fun x m => .of (seqD x) m
  | .rng es, ρ, m => (evEs cf es ρ m).bind fun ds m => .of (rngD ds) m
  | .enum e, ρ, m => (evE cf e ρ m).bind fun x m => (R.of (seqD x) m).bind fun xs m => .ok (enumL 0 xs) m
  | .zip es, ρ, m => (evEs cf es ρ m).bind fun ds m => (R.of (zipD ds) m).bind fun ls m => .ok (zipL ls) m
  | .zipS e, ρ, m => (evE cf e ρ m).bind fun x m => (R.of (seqD (peek m x)) m).bind fun ds m => (R.of (zipD ds) m).bind fun ls m => .ok (zipL ls) m
  | .enumZip es, ρ, m => (evEs cf es ρ m).bind fun ds m => (R.of (zipD ds) m).bind fun ls m => .ok (enumL 0 (zipL ls)) m
end

/-! ### statements -/
mutual
inductive S where
  | set (i : Nat) (e : E)
  | setT (t : Tg) (e : E)
  | par (is : List Nat) (es : Es)
  | setIx (a i e : E)
  | subs (as is es : Es)
  | aug (i : Nat) (o : Bop) (e : E)
  | expr (e : E)
  | app (a e : E)
  | ext (a e : E)
  | iff (c : E) (a b : Ss)
  | for_ (t : Tg) (i : I) (b : Ss) (wp : List Nat)
  | whil (c : E) (b : Ss) (wp : List Nat)
  | ret (e : E)
  | retN
  | brk
  | cont
  | pass
  | raise (c : Nat) (es : Es)
  | tryx (b : Ss) (cs : List Nat) (i j : Nat) (wp : List Nat)
  | frz (i : Nat)
  | frzD (i : Nat)
  | stuck
inductive Ss where
  | nil
  | cons (s : S) (r : Ss)
end

inductive Fl where
  | nx | rt (d : D) | bk | ct

def forLoop (step : D → Env → Mem → R (Fl × Env)) : List D → Env → Mem → R (Fl × Env)
  | [], ρ, m => .ok (.nx, ρ) m
  | x :: xs, ρ, m => (step x ρ m).bind fun p m => match p.1 with
    | .nx => forLoop step xs p.2 m
    | .ct => forLoop step xs p.2 m
    | .bk => .ok (.nx, p.2) m
    | .rt d => .ok (.rt d, p.2) m
def whileLoop (test : Env → Mem → R Bool) (step : Env → Mem → R (Fl × Env)) : Nat → Env → Mem → R (Fl × Env)
  | 0, _, _ => .bad
  | n + 1, ρ, m => (test ρ m).bind fun b m => if b then (step ρ m).bind fun p m => match p.1 with
      | .nx => whileLoop test step n p.2 m
      | .ct => whileLoop test step n p.2 m
      | .bk => .ok (.nx, p.2) m
      | .rt d => .ok (.rt d, p.2) m
    else .ok (.nx, ρ) m

def liveL (x : D) (m : Mem) : Bool :=
  match x with
  | .cell n => match m[n]? with
    | some (some (.lst _)) => true
    | _ => false
  | _ => false
def setCell (m : Mem) (n : Nat) (xs : List D) : Mem := m.set n (some (.lst xs))
def setIxD (x i d : D) (m : Mem) : Option Mem :=
  match x, i with
  | .cell n, .int k => match m[n]? with
    | some (some (.lst xs)) => if below 0 d = true then (pyIx xs.length k).map fun j => setCell m n (xs.set j d) else none
    | _ => none
  | _, _ => none
def appD (x d : D) (m : Mem) : Option Mem :=
  match x with
  | .cell n => match m[n]? with
    | some (some (.lst xs)) => if xs.length < BIG ∧ below 0 d = true then some (setCell m n (xs ++ [d])) else none
    | _ => none
  | _ => none
def extD (x d : D) (m : Mem) : Option Mem :=
  match x with
  | .cell n => match m[n]? with
    | some (some (.lst xs)) => match d with
      | .lst ys => if xs.length + ys.length ≤ BIG ∧ belows 0 ys = true then some (setCell m n (xs ++ ys)) else none
      | _ => none
    | _ => none
  | _ => none
/-- a[i], b[j], .. = .. -/
def evSubs (cf : Nat → List D → Mem → R D) : Es → Es → List D → Env → Mem → R Unit
  | .nil, .nil, [], _, m => .ok () m
  | .cons a as, .cons i is, d :: ds, ρ, m => (evE cf a ρ m).bind fun x m => (evE cf i ρ m).bind fun k m => match setIxD x k d m with
    | some m => evSubs cf as is ds ρ m
    | none => .bad
  | _, _, _, _, _ => .bad
def wipeR (wp : List Nat) (r : R (Fl × Env)) : R (Fl × Env) := r.bind fun p m => .ok (p.1, wipe p.2 wp) m
def setAll : List Nat → List D → Env → Option Env
  | [], [], ρ => some ρ
  | i :: is, d :: ds, ρ => setAll is ds (ρ.set i (some d))
  | _, _, _ => none

/-- rows that may change are made fast -/
def frzL : List D → Mem → R (List D)
  | [], m => .ok [] m
  | .cell n :: ds, m => match m[n]? with
    | some (some (.lst xs)) => (frzL ds (m.set n none)).bind fun r m => .ok (.lst xs :: r) m
    | _ => .bad
  | _ :: _, _ => .bad
def frzDR (i : Nat) (o : Option (Option D)) (ρ : Env) (m : Mem) : R (Fl × Env) := match o with
  | some (some (.lst ds)) => (frzL ds m).bind fun r m => .ok (.nx, ρ.set i (some (.lst r))) m
  | _ => .bad
mutual
def evS (wf : Nat) (cf : Nat → List D → Mem → R D) : S → Env → Mem → R (Fl × Env)
  | .set i e, ρ, m => (evE cf e ρ m).bind fun d m => .ok (.nx, ρ.set i (some d)) m
  | .setT t e, ρ, m => (evE cf e ρ m).bind fun d m => (R.of (bindT t d ρ) m).bind fun ρ m => .ok (.nx, ρ) m
  | .par is es, ρ, m => (evEs cf es ρ m).bind fun ds m => (R.of (setAll is ds ρ) m).bind fun ρ m => .ok (.nx, ρ) m
  | .setIx a i e, ρ, m => (evE cf e ρ m).bind fun d m => (evE cf a ρ m).bind fun x m => (evE cf i ρ m).bind fun k m => match setIxD x k d m with
    | some m => .ok (.nx, ρ) m
    | none => .bad
  | .subs as is es, ρ, m => (evEs cf es ρ m).bind fun ds m => (evSubs cf as is ds ρ m).bind fun _ m => .ok (.nx, ρ) m
  | .aug i o e, ρ, m => match ρ[i]? with
    | some (some x) => (evE cf e ρ m).bind fun y m => match x, y with
      | .int _, .int _ => (R.of (bop o x y) m).bind fun z m => .ok (.nx, ρ.set i (some z)) m
      | _, _ => .bad
    | _ => .bad
  | .expr e, ρ, m => (evE cf e ρ m).bind fun _ m => .ok (.nx, ρ) m
  | .app a e, ρ, m => (evE cf a ρ m).bind fun x m => if liveL x m then (evE cf e ρ m).bind fun d m => match appD x d m with
    | some m => .ok (.nx, ρ) m
    | none => .bad
    else .bad
  | .ext a e, ρ, m => (evE cf a ρ m).bind fun x m => if liveL x m then (evE cf e ρ m).bind fun d m => match extD x d m with
    | some m => .ok (.nx, ρ) m
    | none => .bad
    else .bad
  | .iff c a b, ρ, m => (tst (evE cf c ρ m)).bind fun t m => if t then evSs wf cf a ρ m else evSs wf cf b ρ m
  | .for_ t i b wp, ρ, m => (evI cf i ρ m).bind fun ds m =>
    forLoop (fun d ρ m => wipeR wp ((R.of (bindT t d ρ) m).bind fun ρ m => evSs wf cf b ρ m)) ds ρ m
  | .whil c b wp, ρ, m => whileLoop (fun ρ m => tst (evE cf c ρ m)) (fun ρ m => wipeR wp (evSs wf cf b ρ m)) wf ρ m
  | .ret e, ρ, m => (evE cf e ρ m).bind fun d m => .ok (.rt d, ρ) m
  | .retN, ρ, m => .ok (.rt .non, ρ) m
  | .brk, ρ, m => .ok (.bk, ρ) m
  | .cont, ρ, m => .ok (.ct, ρ) m
  | .pass, ρ, m => .ok (.nx, ρ) m
  | .raise c es, ρ, m => (evEs cf es ρ m).bind fun ds m => (R.of (mkExc c ds) m).bind fun vs m => .exc (.exc c vs) m
  | .tryx b cs i j wp, ρ, m => match evSs wf cf b ρ m with
    | .exc (.exc c vs) m' => if cs.contains c then .ok (.nx, ((wipe ρ wp).set i none).set j (some (.exc c vs))) m' else .bad
    | .exc _ _ => .bad
    | .ok p m' => .ok p m'
    | .bad => .bad
  | .frz i, ρ, m => match ρ[i]? with
    | some (some (.cell n)) => match m[n]? with
      | some (some (.lst xs)) => .ok (.nx, ρ.set i (some (.lst xs))) (m.set n none)
      | _ => .bad
    | _ => .bad
  | .frzD i, ρ, m => frzDR i ρ[i]? ρ m
  | .stuck, _, _ => .bad
def evSs (wf : Nat) (cf : Nat → List D → Mem → R D) : Ss → Env → Mem → R (Fl × Env)
  | .nil, ρ, m => .ok (.nx, ρ) m
  | .cons s r, ρ, m => (evS wf cf s ρ m).bind fun p m => match p.1 with
    | .nx => evSs wf cf r p.2 m
    | _ => .ok p m
end

/-! ### functions -/
structure Fn where
  np : Nat
  ns : Nat
  body : Ss

def fin (k : Nat) (r : R (Fl × Env)) : R D :=
  match r with
  | .ok (.rt d, _) m => .ok d (if below k d then m.take k else m)
  | .ok (.nx, _) m => .ok .non (m.take k)
  | .ok _ _ => .bad
  | .exc x m => if below k x then .exc x (m.take k) else .bad
  | .bad => .bad

def startE (n : Nat) (ds : List D) : Env := ds.map some ++ List.replicate (n - ds.length) none

def callF (T : List Fn) (wf : Nat) : Nat → Nat → List D → Mem → R D
  | 0, _, _, _ => .bad
  | n + 1, i, ds, m => match T[i]? with
    | none => .bad
    | some fn => if ds.length = fn.np then fin m.length (evSs wf (callF T wf n) fn.body (startE fn.ns ds) m) else .bad
end G48
set_option Elab.async false
set_option linter.all false
set_option maxRecDepth 100000
set_option maxHeartbeats 2000000
/-! G48: errors that are caught and kept in a name. -/
namespace G48
open PySem PySem.Spec PyProof.Rows L2

/-- a caught error of the class cls stands at e, its table at dd -/
def ErrO (cls : Value) (dd : Option Addr) (e : Addr) : HO := .ext fun hp => ∃ (ob : Obj) (fl : Array Value), hp.get? e = some ob ∧ Zc cls dd ob ∧ ob.data = .fields fl
theorem errO_ok {P : Program} {w : World} {H : Hp} {hp : Heap} {e : Addr} {cls : Value} {dd : Option Addr} {ob : Obj} {fl : Array Value} (g : hp.get? e = some ob) (z : Zc cls dd ob) (f : ob.data = .fields fl) : ObjOk P w H hp e (ErrO cls dd e) :=
  ⟨⟨ob, fl, g, z, f⟩, ⟨ob, g⟩, fun _ _ ⟨o1, f1, g1, r1⟩ keep => ⟨o1, f1, keep o1 g1, r1⟩⟩
theorem errO_get {P : Program} {w : World} {H : Hp} {hp : Heap} {e : Addr} {cls : Value} {dd : Option Addr} (x : HOk P w H hp) (q : H e = some (ErrO cls dd e)) : ∃ (ob : Obj) (fl : Array Value), hp.get? e = some ob ∧ Zc cls dd ob ∧ ob.data = .fields fl := by
  have := x e _ q
  exact this.1
section
variable {X : Cx} {ps : List (Addr × Obj)} {τ : L2.St} {H : Hp} {s s0 : Shared}
/-- an object that was not there in a state of ours may be spoken of from now on -/
theorem inv_track {e : Addr} {o : HO} (J : Inv X ps τ H s0) (I : Inv X ps τ H s) (g0 : s0.heap.get? e = none) (n : H e = none) (hex : X.ex = []) (nl : e ≠ X.env.locals) (new : ObjOk X.prog X.w (upd H e o) s.heap e o) : Inv X ps τ (upd H e o) s := by
  have other : ∀ b u, s0.heap.get? b = some u → b ≠ e := fun b u q z => by
    rw [z, g0] at q
    cases q
  have notEx : ∀ b, b ∉ X.ex := fun b hb => by
    rw [hex] at hb
    cases hb
  have first : ∀ b u, X.s_0.heap.get? b = some u → b ≠ e := fun b u q => by
    obtain ⟨u', q'⟩ := J.base.there b u q (notEx b)
    exact other b u' q'
  refine ⟨I.ok, I.os, I.bare, ⟨I.base.keep, I.base.slot, fun b u q k z => ?_, I.base.there, fun b xs q => ?_, fun b u v q => ?_, fun b pp q => ?_⟩, I.loc, I.cell, ?_, fun x c q => ?_, fun p hp => ?_, ?_, I.len⟩
  · rw [upd_ne (first b u q)]
    exact I.base.free b u q k z
  · have := I.base.tups b xs q
    rw [upd_ne (ne_of_none this n)]
    exact this
  · have := I.base.frzs b u v q
    rw [upd_ne (ne_of_none this n)]
    exact this
  · obtain ⟨more, this⟩ := I.base.tbls b pp q
    exact ⟨more, by rw [upd_ne (ne_of_none this n)]; exact this⟩
  · rw [upd_ne (Ne.symm nl)]
    exact I.free
  · obtain ⟨v, oc, qc, _⟩ := J.cell x c q
    rw [upd_ne (other c oc qc)]
    exact I.freeC x c q
  · obtain ⟨p1, p2, p3, p4, p5⟩ := I.pin p hp
    exact ⟨p1, by rw [upd_ne (other p.1 _ (J.pin p hp).1)]; exact p2, p3, p4, p5⟩
  · exact I.hok.laidN (fun _ _ q => q) n new
/-- into an except suite, nothing pinned; and out of it -/
theorem inv_in (I : Inv X ps τ H s) (e : Addr) : Inv (X.suite e (X.pn ++ ps)) [] τ H s :=
  ⟨I.ok.suite _ _, I.os, I.bare, I.base, I.loc, I.cell, I.free, I.freeC, fun p hp => I.pin p (by simpa using hp), I.hok, I.len⟩
theorem inv_out {e : Addr} {qs : List (Addr × Obj)} (I : Inv (X.suite e (X.pn ++ ps)) qs τ H s) (k : X.Ok) : Inv X ps τ H s :=
  ⟨k, I.os, I.bare, I.base, I.loc, I.cell, I.free, I.freeC, fun p hp => I.pin p (List.mem_append_left _ hp), I.hok, I.len⟩
end
/-- what is wished of an error that the body lets out: it is caught and kept, or goes on -/
def wKeep (K : PySem.W.Frag) (c : Value) (i : Nat) (tsu : Addr → Value → Option Addr → TS) (Wo : WX) (D : Ends) : WX := fun cls dd τ H =>
  ∃ yes, PySem.W.exmOne K cls c = some yes ∧ (yes = true → ∀ e, H e = none → i < τ.length → tsu e cls dd ⟨fun τ' H' => D.nx (τ'.set i none) H', D.rt, fun τ' H' => D.bk (τ'.set i none) H', fun τ' H' => D.ct (τ'.set i none) H'⟩ (τ.set i (some (.ref e))) (upd H e (ErrO cls dd e))) ∧
    (yes = false → Wo cls dd τ H)
section
variable {X : Cx} {x nm : Str} {c : Value} {i : Nat} {bd su : List Stmt} {st0 : Stmt} {q1 q2 q3 : Pos} {tbd : WX → TS} {tsu : Addr → Value → Option Addr → TS} {Wo : WX}
/-- try: body; except x as nm: suite, where the error may be kept -/
theorem ps_keep (hst : X.stack = X.env :: X.outer) (hfr : X.env.frame = some X.env.locals) (hex : X.ex = []) (nd : X.N.Nodup) (ix : X.N[i]? = some nm) (kd : X.env.kindOf nm = some .local) (cl : Names X x c) (tk : Takes X Wo)
    (body : ∀ (W : WX) (pn : List (Addr × Obj)) (xe : Value → Shared → Prop), Takes (X.tr pn xe) W → PassesOwn (model X.prog X.w) X.A X.env xe → PSs (X.tr pn xe) bd (tbd W))
    (suite : ∀ (e : Addr) (cls : Value) (dd : Option Addr) (pn : List (Addr × Obj)), PSs (X.suite e pn) (st0 :: su) (tsu e cls dd)) :
    PS X (.Try bd [.ExceptHandler (some (.Name x q1)) (some nm) (st0 :: su) q2] [] [] q3) (fun D τ H => tbd (wKeep X.K c i tsu Wo D) D τ H) := by
  refine ⟨fun ps s τ H D I h => ?_⟩
  have ok := I.ok
  have frames : X.A.frames = some (X.env :: X.outer) := ok.frames.trans (congrArg some hst)
  let after : Value → Shared → Prop := fun v t => wpAny (model X.prog X.w) X.A (noteFrame v X.env) (fun _ t1 => wpAny (model X.prog X.w) X.A (setFlight v none)
    (fun _ t2 => wpAny (model X.prog X.w) X.A (handleBy v X.env [.ExceptHandler (some (.Name x q1)) (some nm) (st0 :: su) q2]) (SP X ps D) X.xe t2) X.xe t1) X.xe t
  have caught : Takes (X.tr (X.pn ++ ps) after) (wKeep X.K c i tsu Wo D) := by
    rintro v t ⟨e, G, t0, ps0, τ0, H0, cls, dd, rfl, J0, ground, upTo, sky, free, osq, bare, yes, test, hit, miss⟩
    have J : Inv X ps τ0 H0 t0 := J0.ofTry ok
    have sky2 : Sky G (X.env :: X.outer) e (Zc cls dd) X.env.locals t.heap := hst ▸ sky
    refine Sky.land Zc.steady frames hfr sky2 fun h3 f3 u3 => ?_
    have J3 : Inv X ps τ0 H0 { t with heap := h3 } := J.landed ground f3.1 (upTo.trans u3) osq bare
    obtain ⟨ob, fl, g3, z3, d3⟩ := f3.there
    have nofr : e ∉ frs (X.env :: X.outer) := fun hm => by
      obtain ⟨_, ob', g', nf'⟩ := f3.2.2.1.mem hm
      rw [g3] at g'
      cases g'
      exact nf' fl d3
    have nl : e ≠ X.env.locals := fun z => nofr (List.mem_filterMap.mpr ⟨X.env, List.mem_cons_self, hfr.trans (congrArg some z.symm)⟩)
    have g0 : t0.heap.get? e = none := by
      cases q : t0.heap.get? e with
      | none => rfl
      | some u =>
        have := ground e u q (hst ▸ nofr)
        rw [f3.2.1] at this
        cases this
    refine wpAny_handleBy_cons (codeAny_handlers_test ?_) (by intro z; cases z)
    have ty : PySem.W.Looks (model X.prog X.w) h3 (typeOf (.ref e)) cls := fun A1 Q1 E1 t1 kp q => wpAny_typeOf_ref (kp _ _ g3) (by rw [z3.1]; exact q)
    have named : ∀ {Q : Value → Shared → Prop} {E : Value → Shared → Prop}, Q c { t with heap := h3 } → wpAny (model X.prog X.w) (X.A.mark (some (.ref e))) (eval (.Name x q1) X.env) Q E { t with heap := h3 } := fun {Q E} q => by
      obtain ⟨gl, nodb, hm | ⟨hm, hv, hn⟩⟩ := cl
      · exact ld_glob (X := X.suite e (X.pn ++ ps)) (inv_in J3 e) gl hm q nodb
      · exact ld_blt (X := X.suite e (X.pn ++ ps)) (inv_in J3 e) gl hm hv q hn nodb
    refine named ((PySem.W.exm_one (M := model X.prog X.w) J3.kIn ty test).here ?_)
    cases yes with
    | false =>
      refine wpAny_handleBy_nil ?_
      obtain ⟨_, _, _, ob1, fl1, tb, obT, flT, w1, _, w3, w4, _⟩ := id f3
      unfold PySem.passOn
      refine wpAny_bind (wpAny_field w1 w3 w4 ?_)
      rw [if_neg (show ¬ ((Value.ref tb == Value.none) = true) by simp)]
      have go : wpAny (model X.prog X.w) X.A (setFlight (.ref e) X.env.frame) (fun _ t4 => wpAny (model X.prog X.w) X.A (throw (.ref e) : Sem Flow) (SP X ps D) X.xe t4) X.xe { t with heap := h3 } := by
        rw [hfr]
        exact HandSPX.setFlight_upZ f3 fun h4 held u4 => wpAny_throw (tk _ _ ⟨e, G, t0, ps, τ0, H0, cls, dd, rfl, J, ground, (upTo.trans u3).trans u4, .inr (.inr (hst ▸ held)), free, osq, bare, miss rfl⟩)
      first
        | exact wpAny_bind go
        | exact wpAny_bind (wpAny_pure (wpAny_bind go))
    | true =>
      refine codeAny_handlers_suite_as (HandSPX.lands_againZ f3 fun h4 f4 u4 => ?_)
      have J4 : Inv X ps τ0 H0 { t with heap := h4 } := J.landed ground f4.1 ((upTo.trans u3).trans u4) osq bare
      obtain ⟨ob4, fl4, g4, z4, d4⟩ := f4.there
      have J5 : Inv X ps τ0 (upd H0 e (ErrO cls dd e)) { t with heap := h4 } := inv_track J J4 g0 free hex nl (errO_ok g4 z4 d4)
      refine store_ok (X := X.suite e (X.pn ++ ps)) (v := .ref e) (inv_in J5 e) nd ix (.inl kd) rfl (fun t5 S5 => ?_) (.inr kd)
      refine wpAny_mono ((suite e cls dd (X.pn ++ ps)).run [] t5 _ _ _ S5 (hit rfl e free (by rw [J.len]; exact (List.getElem?_eq_some_iff.mp ix).1))) (fun fw t6 sp => ?_) (fun _ _ z => z.elim)
      have done : ∀ {τ6 : L2.St} {H6 : Hp} {Q : Shared → Prop}, Inv (X.suite e (X.pn ++ ps)) [] τ6 H6 t6 → (∀ t7, Inv X ps (τ6.set i none) H6 t7 → Q t7) →
          wpAny (model X.prog X.w) X.A (do bindName X.env nm .none; unbindBehindTheSuite X.env nm q2) (fun _ t7 => Q t7) X.xe t6 := fun {τ6 H6 Q} S6 q => gone_ok (inv_out S6 ok) nd ix kd q
      cases fw with
      | ret u =>
        obtain ⟨v6, τ6, H6, S6, r6, q6⟩ := sp
        exact done S6 fun t7 J7 => ⟨v6, _, _, J7, r6, q6⟩
      | next =>
        obtain ⟨τ6, H6, S6, q6⟩ := sp
        exact done S6 fun t7 J7 => ⟨_, H6, J7, q6⟩
      | brk =>
        obtain ⟨τ6, H6, S6, q6⟩ := sp
        exact done S6 fun t7 J7 => ⟨_, H6, J7, q6⟩
      | cont =>
        obtain ⟨τ6, H6, S6, q6⟩ := sp
        exact done S6 fun t7 J7 => ⟨_, H6, J7, q6⟩
  refine wpAny_Try_except (wpAny_mono ((body _ (X.pn ++ ps) after caught PassesOwn.looking).run [] s τ H D (I.toTry _) h) (fun fw t1 sp => ?_) (fun _ _ z => z))
  cases fw with
  | ret u =>
    obtain ⟨v, τ', H', J', r, q⟩ := sp
    exact ⟨v, τ', H', J'.ofTry ok, r, q⟩
  | next =>
    obtain ⟨τ', H', J', q⟩ := sp
    exact wpAny_execs_nil ⟨τ', H', J'.ofTry ok, q⟩
  | brk =>
    obtain ⟨τ', H', J', q⟩ := sp
    exact ⟨τ', H', J'.ofTry ok, q⟩
  | cont =>
    obtain ⟨τ', H', J', q⟩ := sp
    exact ⟨τ', H', J'.ofTry ok, q⟩
end
/-- C(), an own class of errors without an own __init__ -/
theorem pmk_bare {X : Cx} {C : Addr} {bases : List Value} {B mk ini : String} {x : Str} {q1 q2 : Pos} (F : ExcBaseFacts B mk ini bases) (isC : PySem.W.excIn X.K C bases mk = true) (gC : X.mg x = some (.ref C)) (kC : PySem.W.keepIn X.K (.ref C) = true) (ra : Raises X (.ref C)) (gl : Gl X x) (nodb : (x == ("__debug__" : Str)) = false) :
    PMk X (.Call (.Name x q1) [] [] q2) (fun _ H Q => Q (.ref C) none H) := by
  intro ps s τ H Q I h
  refine wpAny_Call_Name_kw (ld_glob I gl gC (PySem.W.callWith_K0 I.kIn kC ?_) nodb)
  obtain ⟨bm, N, nm, qn, bs, hd, sn, sub, ab, col, dd, k0, k1, k2, k3, k5, mN, eC, eN, noIni, tail⟩ := exc_obj I.kIn isC
  exact wpAny_call_exc_subT F tail eC eN noIni (fun h' e made => mk_of I made ra h (I.hok.gone made.new)) (Nat.zero_le _)
/-- isinstance(e, c), e a kept error of the class at C -/
def rIsK (K : PySem.W.Frag) : List V → Hp → VK → Prop := fun xs H Q => ∃ (e C : Addr) (c : V) (cv : Value) (b : Bool), xs = [.ref e, c] ∧ H e = some (ErrO (.ref C) none e) ∧ ExcC K C ∧ (∀ u, RelV c u → u = cv) ∧ PySem.W.kitOne K (.ref C) cv = some b ∧ Q (.bl b) H
theorem call_isK {X : Cx} : CallR X (.builtin "isinstance") (rIsK X.K) := by
  intro ps s τ H xs us Q I r h
  obtain ⟨e, C, c, cv, b, rfl, he, ec, hcv, hk, q⟩ := h
  cases r with
  | cons r1 r2 =>
    cases r2 with
    | cons r3 r4 =>
      cases r4
      cases r1
      obtain rfl := hcv _ r3
      obtain ⟨ob, fl, g, z, f⟩ := errO_get I.hok he
      have J : PySem.W.InstAt s.heap e ob C none := by
        obtain ⟨oc, od, oda, osl⟩ := ob
        obtain ⟨z1, z2⟩ := z
        dsimp only at z1 z2 f
        subst z1 z2 f
        exact ⟨g, rfl, rfl, trivial⟩
      refine PySem.W.kia_one (PySem.W.handS_kitx_exc ec.hg ec.hk ec.hs ec.hd ec.ha ec.hn ec.ht ec.hm) I.kIn J hk (fun z => nomatch z) fun tk => ?_
      exact ⟨.bl b, H, I.kept (t' := tk) fun _ _ z => z, rfl, q⟩
/-- what a class of errors is made over: even numbers over ValueError, odd ones over LookupError -/
def xBase (c : Nat) : List Value := if c % 2 = 0 then [.type "ValueError", .type "Exception", .type "BaseException", .type "object"] else [.type "LookupError", .type "Exception", .type "BaseException", .type "object"]
def xNew (c : Nat) : String := if c % 2 = 0 then "ValueError.__new__" else "LookupError.__new__"
theorem xFacts (c : Nat) : ∃ B ini, ExcBaseFacts B (xNew c) ini (xBase c) := by
  unfold xBase xNew
  by_cases h : c % 2 = 0
  · rw [if_pos h, if_pos h]; exact ⟨_, _, F.excBase_ValueError⟩
  · rw [if_neg h, if_neg h]; exact ⟨_, _, F.excBase_LookupError⟩
/-- what the written part says of such a class -/
structure XcOk (K : PySem.W.Frag) (C : Addr) (c : Nat) : Prop where
  make : PySem.W.excIn K C (xBase c) (xNew c) = true
  kp : PySem.W.keepIn K (.ref C) = true
  sb : PySem.W.subIn K (.ref C) (.type "BaseException") = some true
  ty : PySem.W.typeIn K (.ref C) = some (.type "type")
  ec : ExcC K C
  kv : PySem.W.kitOne K (.ref C) (.type "ValueError") = some (c % 2 == 0)
  kl : PySem.W.kitOne K (.ref C) (.type "LookupError") = some (c % 2 == 1)
def xcB (K : PySem.W.Frag) (C : Addr) (c : Nat) : Bool :=
  PySem.W.excIn K C (xBase c) (xNew c) && PySem.W.keepIn K (.ref C) && decide (PySem.W.subIn K (.ref C) (.type "BaseException") = some true) && decide (PySem.W.typeIn K (.ref C) = some (.type "type")) &&
  decide (PySem.W.findIn K (.ref C) "__getattribute__" = some (some (.builtin "BaseException.__getattribute__"))) && decide (PySem.W.findIn K (.ref C) "__getattr__" = some none) && PySem.W.hasDictIn K C &&
  decide (PySem.W.findIn K (.ref C) "__class__" = some (some (.builtin "object.__class__"))) && decide (PySem.W.specialIn K (.builtin "object.__class__") "__get__" = some (some (.builtin "getset_descriptor.__get__"))) &&
  decide (PySem.W.takesIn K (.builtin "object.__class__") = some true) && decide (PySem.W.mroIn K C (.type "object") = some true) &&
  decide (PySem.W.kitOne K (.ref C) (.type "ValueError") = some (c % 2 == 0)) && decide (PySem.W.kitOne K (.ref C) (.type "LookupError") = some (c % 2 == 1))
theorem xcB_ok {K : PySem.W.Frag} {C : Addr} {c : Nat} (h : xcB K C c = true) : XcOk K C c := by
  unfold xcB at h
  simp only [Bool.and_eq_true, decide_eq_true_eq] at h
  obtain ⟨⟨⟨⟨⟨⟨⟨⟨⟨⟨⟨⟨h1, h2⟩, h3⟩, h4⟩, h5⟩, h6⟩, h7⟩, h8⟩, h9⟩, h10⟩, h11⟩, h12⟩, h13⟩ := h
  exact ⟨h1, h2, h3, h4, ⟨h5, h6, h3, h7, h8, h9, h10, h11⟩, h12, h13⟩
/-- two of them beside one another: c's errors are caught by c alone -/
def xpB (K : PySem.W.Frag) (C C' : Addr) (c c' : Nat) : Bool := decide (PySem.W.exmOne K (.ref C) (.ref C') = some (c == c')) && decide (PySem.W.kitOne K (.ref C) (.ref C') = some (c == c'))
end G48
set_option Elab.async false
set_option linter.all false
set_option maxRecDepth 100000
set_option maxHeartbeats 1000000
/-! G48: values of the small language beside the abstract heap of HandS. -/
namespace G48
open PySem PySem.Spec PyProof.Rows L2

/-- what stands for a changeable thing -/
def isCel : HO → Bool
  | .lst _ => true
  | .ins _ _ _ => true
  | .dK _ => true
  | .dT _ => true
  | .set _ _ => true
  | _ => false

/-- the classes of errors that are spoken of: numbers, names, places -/
structure XT where
  cls : List (Nat × Str)
  ad : Str → Addr
  K : PySem.W.Frag
  one : ∀ c x, (c, x) ∈ cls → XcOk K (ad x) c
  two : ∀ c x c' x', (c, x) ∈ cls → (c', x') ∈ cls → PySem.W.exmOne K (.ref (ad x)) (.ref (ad x')) = some (c == c') ∧ PySem.W.kitOne K (.ref (ad x)) (.ref (ad x')) = some (c == c')
/-- errors as values -/
def XT.is (T : XT) (H : Hp) (c : Nat) (a : Addr) (vs : List V) : Prop := ∃ x, (c, x) ∈ T.cls ∧ vs = [] ∧ H a = some (ErrO (.ref (T.ad x)) none a)
theorem XT.mono (T : XT) (H H' : Hp) (c : Nat) (a : Addr) (xs : List V) (h : T.is H c a xs) (k : ∀ b o, H b = some o → isCel o = false → H' b = some o) : T.is H' c a xs := by
  obtain ⟨x, h1, h2, h3⟩ := h
  exact ⟨x, h1, h2, k _ _ h3 rfl⟩
/-- errors in the air -/
def XT.fly (T : XT) (_ : Hp) (c : Nat) (k : Value) (d : Option Addr) (vs : List V) : Prop := ∃ x, (c, x) ∈ T.cls ∧ k = .ref (T.ad x) ∧ d = none ∧ vs = []

section
variable (T : XT)
def Free (M : Mem) (β : Nat → Addr) (a : Addr) : Prop := ∀ (n : Nat) (c : Cel), M[n]? = some (some c) → β n ≠ a

mutual
def Rep (M : Mem) (β : Nat → Addr) (H : Hp) : D → V → Prop
  | .non, v => v = .non
  | .bl b, v => v = .bl b
  | .int i, v => v = .int i
  | .str s, v => v = .str s
  | .tup ds, v => ∃ a xs, v = .ref a ∧ H a = some (.tup xs) ∧ Reps M β H ds xs
  | .lst ds, v => ∃ a xs, v = .ref a ∧ H a = some (.lst xs) ∧ Free M β a ∧ Reps M β H ds xs
  | .cell n, v => v = .ref (β n) ∧ n < M.length
  | .exc c ds, v => ∃ a xs, v = .ref a ∧ T.is H c a xs ∧ Reps M β H ds xs
  | .scr ns, v => ∃ a o, v = .ref a ∧ H a = some (.frz o (.lst (ns.map V.int)))
def Reps (M : Mem) (β : Nat → Addr) (H : Hp) : List D → List V → Prop
  | [], vs => vs = []
  | d :: ds, vs => ∃ v r, vs = v :: r ∧ Rep M β H d v ∧ Reps M β H ds r
end

def CelOk (M : Mem) (β : Nat → Addr) (H : Hp) (o : Option HO) : Cel → Prop
  | .lst ds => belows 0 ds = true ∧ ∃ xs, o = some (.lst xs) ∧ Reps T M β H ds xs
  | .tmp => ∃ xs, o = some (.lst xs)
structure Rl (M : Mem) (β : Nat → Addr) (H : Hp) : Prop where
  cell : ∀ (n : Nat) (c : Cel), M[n]? = some (some c) → CelOk T M β H (H (β n)) c
  inj : ∀ (n k : Nat) (c e : Cel), M[n]? = some (some c) → M[k]? = some (some e) → β n = β k → n = k
end

structure Grow0 (M : Mem) (β : Nat → Addr) (H : Hp) (M' : Mem) (β' : Nat → Addr) (H' : Hp) : Prop where
  len : M.length ≤ M'.length
  beq : ∀ n, n < M.length → β' n = β n
  keep : ∀ a o, H a = some o → Free M β a → H' a = some o
  new : ∀ n c, M.length ≤ n → M'[n]? = some (some c) → H (β' n) = none
  dead : ∀ n, n < M.length → M[n]? = some none → M'[n]? = some none
  there : ∀ a o, H a = some o → ∃ o', H' a = some o'
structure Grow (M : Mem) (β : Nat → Addr) (H : Hp) (M' : Mem) (β' : Nat → Addr) (H' : Hp) : Prop extends Grow0 M β H M' β' H' where
  hid : ∀ n, M[n]? = some (some .tmp) → M'[n]? = some (some .tmp) ∧ H' (β n) = H (β n)

theorem Grow.refl {M : Mem} {β : Nat → Addr} {H : Hp} : Grow M β H M β H :=
  ⟨⟨Nat.le_refl _, fun _ _ => rfl, fun _ _ h _ => h, fun n c h e => (by
    rw [List.getElem?_eq_none h] at e; cases e), fun _ _ h => h, fun _ o h => ⟨o, h⟩⟩, fun _ h => ⟨h, rfl⟩⟩

section
variable {T : XT} {M M1 M2 : Mem} {β β1 β2 : Nat → Addr} {H H1 H2 : Hp}

theorem live_lt {M : Mem} {n : Nat} {c : Cel} (h : M[n]? = some (some c)) : n < M.length := (List.getElem?_eq_some_iff.mp h).1

theorem Rl.there (r : Rl T M β H) {n : Nat} {c : Cel} (h : M[n]? = some (some c)) : ∃ o, H (β n) = some o ∧ isCel o = true := by
  have := r.cell n c h
  cases c with
  | lst ds => obtain ⟨_, xs, e, _⟩ := this; exact ⟨_, e, rfl⟩
  | tmp => obtain ⟨xs, e⟩ := this; exact ⟨_, e, rfl⟩
theorem Rl.free_of_none (r : Rl T M β H) {a : Addr} (h : H a = none) : Free M β a := fun n c e z => by
  obtain ⟨o, e1, _⟩ := r.there e
  rw [z, h] at e1; cases e1
theorem Rl.free_of (r : Rl T M β H) {a : Addr} {o : HO} (h : H a = some o) (hc : isCel o = false) : Free M β a := fun n c e z => by
  obtain ⟨o', e1, q⟩ := r.there e
  rw [z, h] at e1; cases e1; rw [hc] at q; cases q
/-- a free place stays free -/
theorem Grow0.free (g : Grow0 M β H M1 β1 H1) {a : Addr} {o : HO} (h : H a = some o) (f : Free M β a) : Free M1 β1 a := fun n c e z => by
  by_cases hn : n < M.length
  · cases q : M[n]? with
    | none => rw [List.getElem?_eq_none_iff] at q; omega
    | some w =>
      cases w with
      | none => rw [g.dead n hn q] at e; cases e
      | some c' => exact f n c' q ((g.beq n hn) ▸ z)
  · have := g.new n c (by omega) e
    rw [z, h] at this; cases this
theorem Grow0.trans (g : Grow0 M β H M1 β1 H1) (k : Grow0 M1 β1 H1 M2 β2 H2) : Grow0 M β H M2 β2 H2 where
  len := Nat.le_trans g.len k.len
  beq := fun n h => (k.beq n (Nat.lt_of_lt_of_le h g.len)).trans (g.beq n h)
  keep := fun a o h f => k.keep a o (g.keep a o h f) (g.free h f)
  new := fun n c h e => by
    by_cases hn : n < M1.length
    · cases q : M1[n]? with
      | none => rw [List.getElem?_eq_none_iff] at q; omega
      | some w =>
        cases w with
        | none => rw [k.dead n hn q] at e; cases e
        | some c' => rw [k.beq n hn]; exact g.new n c' h q
    · have h1 := k.new n c (by omega) e
      cases q : H (β2 n) with
      | none => rfl
      | some o =>
        obtain ⟨o', e'⟩ := g.there _ o q
        rw [e'] at h1; cases h1
  dead := fun n h e => k.dead n (Nat.lt_of_lt_of_le h g.len) (g.dead n h e)
  there := fun a o h => let ⟨o', e⟩ := g.there a o h; k.there a o' e
theorem Grow.free (g : Grow M β H M1 β1 H1) {a : Addr} {o : HO} (h : H a = some o) (f : Free M β a) : Free M1 β1 a := g.toGrow0.free h f
theorem Grow.trans (g : Grow M β H M1 β1 H1) (k : Grow M1 β1 H1 M2 β2 H2) : Grow M β H M2 β2 H2 :=
  ⟨g.toGrow0.trans k.toGrow0, fun n h => by
    obtain ⟨h1, h2⟩ := g.hid n h
    obtain ⟨h3, h4⟩ := k.hid n h1
    rw [g.beq n (live_lt h)] at h4
    exact ⟨h3, h4.trans h2⟩⟩

mutual
theorem Rep.grow0 (r : Rl T M β H) (g : Grow0 M β H M1 β1 H1) : ∀ (d : D) (v : V), Rep T M β H d v → Rep T M1 β1 H1 d v
  | .non, _, h => h
  | .bl _, _, h => h
  | .int _, _, h => h
  | .str _, _, h => h
  | .tup ds, v, h => by
    unfold Rep at h ⊢
    obtain ⟨a, xs, e, rd, q⟩ := h
    exact ⟨a, xs, e, g.keep _ _ rd (r.free_of rd rfl), Reps.grow0 r g ds xs q⟩
  | .lst ds, v, h => by
    unfold Rep at h ⊢
    obtain ⟨a, xs, e, rd, f, q⟩ := h
    exact ⟨a, xs, e, g.keep _ _ rd f, g.free rd f, Reps.grow0 r g ds xs q⟩
  | .cell n, v, h => by
    unfold Rep at h ⊢
    obtain ⟨e, l⟩ := h
    exact ⟨by rw [g.beq n l]; exact e, Nat.lt_of_lt_of_le l g.len⟩
  | .exc c ds, v, h => by
    unfold Rep at h ⊢
    obtain ⟨a, xs, e, i, q⟩ := h
    exact ⟨a, xs, e, T.mono _ _ _ _ _ i fun b o hb hc => g.keep b o hb (r.free_of hb hc), Reps.grow0 r g ds xs q⟩
  | .scr ns, v, h => by
    unfold Rep at h ⊢
    obtain ⟨a, o, e, q⟩ := h
    exact ⟨a, o, e, g.keep _ _ q (r.free_of q rfl)⟩
theorem Reps.grow0 (r : Rl T M β H) (g : Grow0 M β H M1 β1 H1) : ∀ (ds : List D) (vs : List V), Reps T M β H ds vs → Reps T M1 β1 H1 ds vs
  | [], _, h => h
  | d :: ds, vs, h => by
    unfold Reps at h ⊢
    obtain ⟨v, q, e, h1, h2⟩ := h
    exact ⟨v, q, e, Rep.grow0 r g d v h1, Reps.grow0 r g ds q h2⟩
end

theorem Rep.grow (r : Rl T M β H) (g : Grow M β H M1 β1 H1) (d : D) (v : V) (h : Rep T M β H d v) : Rep T M1 β1 H1 d v := Rep.grow0 r g.toGrow0 d v h
theorem Reps.grow (r : Rl T M β H) (g : Grow M β H M1 β1 H1) (d : List D) (v : List V) (h : Reps T M β H d v) : Reps T M1 β1 H1 d v := Reps.grow0 r g.toGrow0 d v h

/-! ### lists of values -/
theorem Reps.length : ∀ {ds : List D} {vs : List V}, Reps T M β H ds vs → ds.length = vs.length
  | [], _, h => by unfold Reps at h; subst h; rfl
  | d :: ds, vs, h => by
    unfold Reps at h
    obtain ⟨v, q, e, _, h2⟩ := h
    subst e
    simp [Reps.length h2]
theorem Reps.nil : Reps T M β H [] [] := by unfold Reps; rfl
theorem Reps.cons {d : D} {v : V} {ds : List D} {vs : List V} (h1 : Rep T M β H d v) (h2 : Reps T M β H ds vs) : Reps T M β H (d :: ds) (v :: vs) := by
  unfold Reps; exact ⟨v, vs, rfl, h1, h2⟩
theorem Reps.append : ∀ {ds es : List D} {vs us : List V}, Reps T M β H ds vs → Reps T M β H es us → Reps T M β H (ds ++ es) (vs ++ us)
  | [], _, _, _, h, k => by unfold Reps at h; subst h; exact k
  | d :: ds, es, vs, us, h, k => by
    unfold Reps at h
    obtain ⟨v, q, e, h1, h2⟩ := h
    subst e
    exact Reps.cons h1 (Reps.append h2 k)
theorem Reps.get : ∀ {ds : List D} {vs : List V} {i : Nat} {d : D}, Reps T M β H ds vs → ds[i]? = some d → ∃ v, vs[i]? = some v ∧ Rep T M β H d v
  | [], _, _, _, _, e => by simp at e
  | d :: ds, vs, i, d', h, e => by
    unfold Reps at h
    obtain ⟨v, q, e1, h1, h2⟩ := h
    subst e1
    cases i with
    | zero => simp at e; subst e; exact ⟨v, rfl, h1⟩
    | succ i => exact Reps.get (i := i) h2 (by simpa using e)
theorem Reps.get' {ds : List D} {vs : List V} {i : Nat} {v : V} (h : Reps T M β H ds vs) (e : vs[i]? = some v) : ∃ d, ds[i]? = some d ∧ Rep T M β H d v := by
  have hl := Reps.length h
  have : i < ds.length := by rw [hl]; exact (List.getElem?_eq_some_iff.mp e).1
  obtain ⟨v', e', r⟩ := Reps.get h (List.getElem?_eq_getElem this)
  rw [e] at e'; cases e'
  exact ⟨_, List.getElem?_eq_getElem this, r⟩
theorem Reps.take : ∀ {ds : List D} {vs : List V} (n : Nat), Reps T M β H ds vs → Reps T M β H (ds.take n) (vs.take n)
  | [], _, n, h => by unfold Reps at h; subst h; simp; exact Reps.nil
  | d :: ds, vs, 0, h => by simp; exact Reps.nil
  | d :: ds, vs, n + 1, h => by
    unfold Reps at h
    obtain ⟨v, q, e1, h1, h2⟩ := h
    subst e1
    simpa using Reps.cons h1 (Reps.take n h2)
theorem Reps.drop : ∀ {ds : List D} {vs : List V} (n : Nat), Reps T M β H ds vs → Reps T M β H (ds.drop n) (vs.drop n)
  | [], _, n, h => by unfold Reps at h; subst h; simp; exact Reps.nil
  | d :: ds, vs, 0, h => h
  | d :: ds, vs, n + 1, h => by
    unfold Reps at h
    obtain ⟨v, q, e1, h1, h2⟩ := h
    subst e1
    simpa using Reps.drop n h2
theorem Reps.reverse : ∀ {ds : List D} {vs : List V}, Reps T M β H ds vs → Reps T M β H ds.reverse vs.reverse
  | [], _, h => by unfold Reps at h; subst h; exact Reps.nil
  | d :: ds, vs, h => by
    unfold Reps at h
    obtain ⟨v, q, e1, h1, h2⟩ := h
    subst e1
    simpa using Reps.append (Reps.reverse h2) (Reps.cons h1 Reps.nil)
theorem Reps.set : ∀ {ds : List D} {vs : List V} (i : Nat) {d : D} {v : V}, Reps T M β H ds vs → Rep T M β H d v → Reps T M β H (ds.set i d) (vs.set i v)
  | [], _, i, d, v, h, _ => by unfold Reps at h; subst h; simp; exact Reps.nil
  | d :: ds, vs, 0, d', v', h, k => by
    unfold Reps at h
    obtain ⟨v, q, e1, h1, h2⟩ := h
    subst e1
    exact Reps.cons k h2
  | d :: ds, vs, i + 1, d', v', h, k => by
    unfold Reps at h
    obtain ⟨v, q, e1, h1, h2⟩ := h
    subst e1
    exact Reps.cons h1 (Reps.set i h2 k)

/-! ### what may happen to the heap -/
/-- a new thing that is no changeable one -/
theorem Grow.laid (r : Rl T M β H) {p : Addr} {o : HO} (h : H p = none) : Grow M β H M β (upd H p o) :=
  ⟨⟨Nat.le_refl _, fun _ _ => rfl, fun a o' e _ => (by rw [upd_ne (ne_of_none e h)]; exact e), fun n c hn e => (by rw [List.getElem?_eq_none hn] at e; cases e),
   fun _ _ e => e, fun a o' e => ⟨o', by rw [upd_ne (ne_of_none e h)]; exact e⟩⟩, fun n hn => ⟨hn, (by
    obtain ⟨o', e1, _⟩ := r.there hn
    rw [upd_ne (ne_of_none e1 h)])⟩⟩
theorem CelOk.grow0 (r : Rl T M β H) (g : Grow0 M β H M1 β1 H1) {c : Cel} {o : Option HO} (h : CelOk T M β H o c) : CelOk T M1 β1 H1 o c := by
  cases c with
  | lst ds => obtain ⟨b, xs, e, q⟩ := h; exact ⟨b, xs, e, Reps.grow0 r g ds xs q⟩
  | tmp => exact h
theorem CelOk.grow (r : Rl T M β H) (g : Grow M β H M1 β1 H1) {c : Cel} {o : Option HO} (h : CelOk T M β H o c) : CelOk T M1 β1 H1 o c := CelOk.grow0 r g.toGrow0 h
theorem Rl.laid (r : Rl T M β H) {p : Addr} {o : HO} (h : H p = none) : Rl T M β (upd H p o) := by
  refine ⟨fun n c e => ?_, r.inj⟩
  obtain ⟨o', e1, _⟩ := r.there e
  rw [upd_ne (ne_of_none e1 h)]
  exact CelOk.grow r (Grow.laid r h) (r.cell n c e)
def putB (β : Nat → Addr) (n : Nat) (p : Addr) : Nat → Addr := fun k => if k = n then p else β k
theorem putB_same {n : Nat} {p : Addr} : putB β n p n = p := by unfold putB; rw [if_pos rfl]
theorem putB_ne {n k : Nat} {p : Addr} (h : k ≠ n) : putB β n p k = β k := by unfold putB; rw [if_neg h]
theorem get_push {M : Mem} {c : Option Cel} {n : Nat} {x : Option Cel} (h : (M ++ [c])[n]? = some x) : (n < M.length ∧ M[n]? = some x) ∨ (n = M.length ∧ x = c) := by
  by_cases hn : n < M.length
  · rw [List.getElem?_append_left hn] at h; exact .inl ⟨hn, h⟩
  · right
    rw [List.getElem?_append_right (by omega)] at h
    have hl := (List.getElem?_eq_some_iff.mp h).1
    simp at hl
    have : n = M.length := by omega
    subst this
    simp at h
    exact ⟨rfl, h.symm⟩
/-- a new changeable list -/
theorem Grow.celled (r : Rl T M β H) {p : Addr} {o : HO} {c : Cel} (h : H p = none) : Grow M β H (M ++ [some c]) (putB β M.length p) (upd H p o) :=
  ⟨⟨by simp, fun n hn => putB_ne (by omega), fun a o' e _ => (by rw [upd_ne (ne_of_none e h)]; exact e), fun n c' hn e => (by
    rcases get_push e with ⟨h1, _⟩ | ⟨h1, _⟩
    · omega
    · subst h1; rw [putB_same]; exact h),
   fun n hn e => by rw [List.getElem?_append_left hn]; exact e, fun a o' e => ⟨o', by rw [upd_ne (ne_of_none e h)]; exact e⟩⟩, fun n hn => ⟨(by rw [List.getElem?_append_left (live_lt hn)]; exact hn), (by
    obtain ⟨o', e1, _⟩ := r.there hn
    rw [upd_ne (ne_of_none e1 h)])⟩⟩
theorem Rl.celledG (r : Rl T M β H) {p : Addr} {c0 : Cel} {xs : List V} (h : H p = none) (q : CelOk T (M ++ [some c0]) (putB β M.length p) (upd H p (.lst xs)) (some (.lst xs)) c0) : Rl T (M ++ [some c0]) (putB β M.length p) (upd H p (.lst xs)) := by
  have g : Grow M β H (M ++ [some c0]) (putB β M.length p) (upd H p (.lst xs)) := Grow.celled r h
  refine ⟨fun n c e => ?_, fun n k c c' e1 e2 z => ?_⟩
  · rcases get_push e with ⟨h1, h2⟩ | ⟨h1, h2⟩
    · obtain ⟨o', e1, _⟩ := r.there h2
      rw [putB_ne (by omega), upd_ne (ne_of_none e1 h)]
      exact CelOk.grow r g (r.cell n c h2)
    · subst h1; cases h2
      rw [putB_same, upd_same]
      exact q
  · rcases get_push e1 with ⟨h1, h2⟩ | ⟨h1, h2⟩ <;> rcases get_push e2 with ⟨k1, k2⟩ | ⟨k1, k2⟩
    · rw [putB_ne (by omega), putB_ne (by omega)] at z
      exact r.inj n k c c' h2 k2 z
    · subst k1
      rw [putB_ne (by omega), putB_same] at z
      obtain ⟨o', q1, _⟩ := r.there h2
      rw [z, h] at q1; cases q1
    · subst h1
      rw [putB_same, putB_ne (by omega)] at z
      obtain ⟨o', q1, _⟩ := r.there k2
      rw [← z, h] at q1; cases q1
    · omega
theorem Rl.celled (r : Rl T M β H) {p : Addr} {ds : List D} {xs : List V} (h : H p = none) (b : belows 0 ds = true) (q : Reps T M β H ds xs) : Rl T (M ++ [some (.lst ds)]) (putB β M.length p) (upd H p (.lst xs)) :=
  r.celledG h ⟨b, xs, rfl, Reps.grow r (Grow.celled r h) ds xs q⟩
theorem Rl.tmped (r : Rl T M β H) {p : Addr} {xs : List V} (h : H p = none) : Rl T (M ++ [some .tmp]) (putB β M.length p) (upd H p (.lst xs)) := r.celledG h ⟨xs, rfl⟩
theorem get_set {M : Mem} {n k : Nat} {c x : Option Cel} (h : (M.set n c)[k]? = some x) : (k = n ∧ x = c ∧ n < M.length) ∨ (k ≠ n ∧ M[k]? = some x) := by
  by_cases e : n = k
  · subst e
    by_cases hl : n < M.length
    · rw [List.getElem?_set_self hl] at h; exact .inl ⟨rfl, (Option.some.inj h).symm, hl⟩
    · rw [List.getElem?_eq_none (by simpa using hl)] at h; cases h
  · rw [List.getElem?_set_ne e] at h; exact .inr ⟨fun z => e z.symm, h⟩
/-- a changeable list is changed -/
theorem Grow0.poked (r : Rl T M β H) {n : Nat} {c c' : Cel} {o : HO} (e : M[n]? = some (some c)) : Grow0 M β H (M.set n (some c')) β (upd H (β n) o) := by
  refine ⟨by simp, fun _ _ => rfl, fun a o' q f => ?_, fun k d hk q => ?_, fun k hk q => ?_, fun a o' q => ?_⟩
  · rw [upd_ne (fun z => f n c e z.symm)]; exact q
  · have := (List.getElem?_eq_some_iff.mp q).1
    simp at this; omega
  · have : n ≠ k := fun z => by subst z; rw [e] at q; cases q
    rw [List.getElem?_set_ne this]; exact q
  · by_cases z : a = β n
    · subst z; exact ⟨o, upd_same⟩
    · exact ⟨o', by rw [upd_ne z]; exact q⟩
theorem Grow.wrote (r : Rl T M β H) {n : Nat} {l : List D} {c' : Cel} {o : HO} (e : M[n]? = some (some (.lst l))) : Grow M β H (M.set n (some c')) β (upd H (β n) o) := by
  refine ⟨Grow0.poked r e, fun k hk => ?_⟩
  have : n ≠ k := fun z => by subst z; rw [e] at hk; cases hk
  exact ⟨by rw [List.getElem?_set_ne this]; exact hk, by rw [upd_ne (fun z => this (r.inj k n _ _ hk e z).symm)]⟩
theorem Rl.wroteG (r : Rl T M β H) {n : Nat} {c c0 : Cel} {xs : List V} (e : M[n]? = some (some c)) (q : CelOk T (M.set n (some c0)) β (upd H (β n) (.lst xs)) (some (.lst xs)) c0) : Rl T (M.set n (some c0)) β (upd H (β n) (.lst xs)) := by
  have g : Grow0 M β H (M.set n (some c0)) β (upd H (β n) (.lst xs)) := Grow0.poked r e
  have old : ∀ k c', (M.set n (some c0))[k]? = some (some c') → ∃ c2, M[k]? = some (some c2) := fun k c' h => by
    rcases get_set h with ⟨h1, _, _⟩ | ⟨_, h2⟩
    · subst h1; exact ⟨c, e⟩
    · exact ⟨c', h2⟩
  refine ⟨fun k c' h => ?_, fun k j a b h1 h2 z => ?_⟩
  · rcases get_set h with ⟨h1, h2, _⟩ | ⟨h1, h2⟩
    · subst h1; cases h2
      rw [upd_same]
      exact q
    · rw [upd_ne (fun z => h1 (r.inj k n c' c h2 e z))]
      exact CelOk.grow0 r g (r.cell k c' h2)
  · obtain ⟨a', ha⟩ := old k a h1
    obtain ⟨b', hb⟩ := old j b h2
    exact r.inj k j a' b' ha hb z
theorem Rl.wrote (r : Rl T M β H) {n : Nat} {c : Cel} {ds : List D} {xs : List V} (e : M[n]? = some (some c)) (b : belows 0 ds = true) (q : Reps T M β H ds xs) : Rl T (M.set n (some (.lst ds))) β (upd H (β n) (.lst xs)) :=
  r.wroteG e ⟨b, xs, rfl, Reps.grow0 r (Grow0.poked r e) ds xs q⟩
theorem set_same {M : Mem} {n : Nat} {c : Option Cel} (e : M[n]? = some c) : M.set n c = M := by
  apply List.ext_getElem?
  intro k
  by_cases h : n = k
  · subst h
    rw [List.getElem?_set_self (List.getElem?_eq_some_iff.mp e).1, e]
  · rw [List.getElem?_set_ne h]
/-- the list of a comprehension grows -/
theorem Grow0.poke (r : Rl T M β H) {n : Nat} {o : HO} (e : M[n]? = some (some .tmp)) : Grow0 M β H M β (upd H (β n) o) := by
  have := Grow0.poked (c' := .tmp) (o := o) r e
  rw [set_same e] at this; exact this
theorem Rl.poke (r : Rl T M β H) {n : Nat} {xs : List V} (e : M[n]? = some (some .tmp)) : Rl T M β (upd H (β n) (.lst xs)) := by
  have := r.wroteG (c0 := .tmp) (xs := xs) e ⟨xs, rfl⟩
  rw [set_same e] at this; exact this
/-- what was made since may be changed -/
theorem Grow.poke {M0 : Mem} {β0 : Nat → Addr} {H0 : Hp} (g : Grow M0 β0 H0 M β H) (r : Rl T M β H) (r0 : Rl T M0 β0 H0) {n : Nat} {c c' : Cel} {o : HO} (hn : M0.length ≤ n) (e : M[n]? = some (some c)) : Grow M0 β0 H0 (M.set n (some c')) β (upd H (β n) o) := by
  refine ⟨g.toGrow0.trans (Grow0.poked r e), fun k hk => ?_⟩
  have hkl := live_lt hk
  obtain ⟨h1, h2⟩ := g.hid k hk
  refine ⟨by rw [List.getElem?_set_ne (by omega)]; exact h1, ?_⟩
  obtain ⟨o', e1, _⟩ := r0.there hk
  rw [upd_ne (ne_of_none e1 (g.new n c hn e)), h2]
/-- a changeable list is made fast -/
theorem Grow0.froze (r : Rl T M β H) {n : Nat} {c : Cel} (e : M[n]? = some (some c)) : Grow0 M β H (M.set n none) β H := by
  refine ⟨by simp, fun _ _ => rfl, fun a o' q f => q, fun k d hk q => ?_, fun k hk q => ?_, fun a o' q => ⟨o', q⟩⟩
  · have := (List.getElem?_eq_some_iff.mp q).1
    simp at this; omega
  · have : n ≠ k := fun z => by subst z; rw [e] at q; cases q
    rw [List.getElem?_set_ne this]; exact q
theorem Grow.froze (r : Rl T M β H) {n : Nat} {l : List D} (e : M[n]? = some (some (.lst l))) : Grow M β H (M.set n none) β H := by
  refine ⟨Grow0.froze r e, fun k hk => ⟨?_, rfl⟩⟩
  have : n ≠ k := fun z => by subst z; rw [e] at hk; cases hk
  rw [List.getElem?_set_ne this]; exact hk
theorem Grow.frozeL {M0 : Mem} {β0 : Nat → Addr} {H0 : Hp} (g : Grow M0 β0 H0 M β H) (r : Rl T M β H) {n : Nat} {c : Cel} (hn : M0.length ≤ n) (e : M[n]? = some (some c)) : Grow M0 β0 H0 (M.set n none) β H := by
  refine ⟨g.toGrow0.trans (Grow0.froze r e), fun k hk => ?_⟩
  have hkl := live_lt hk
  obtain ⟨h1, h2⟩ := g.hid k hk
  exact ⟨by rw [List.getElem?_set_ne (by omega)]; exact h1, h2⟩
theorem Rl.froze (r : Rl T M β H) {n : Nat} {c : Cel} (e : M[n]? = some (some c)) : Rl T (M.set n none) β H := by
  have g := Grow0.froze r e
  have old : ∀ k c', (M.set n none)[k]? = some (some c') → M[k]? = some (some c') := fun k c' h => by
    rcases get_set h with ⟨_, h2, _⟩ | ⟨_, h2⟩
    · cases h2
    · exact h2
  exact ⟨fun k c' h => CelOk.grow0 r g (r.cell k c' (old k c' h)), fun k j a b h1 h2 z => r.inj k j a b (old k a h1) (old j b h2) z⟩
theorem Rl.froze_rep (r : Rl T M β H) {n : Nat} {ds : List D} (e : M[n]? = some (some (.lst ds))) : Rep T (M.set n none) β H (.lst ds) (.ref (β n)) := by
  obtain ⟨_, xs, e1, q⟩ := r.cell n _ e
  unfold Rep
  refine ⟨β n, xs, rfl, e1, fun k c h z => ?_, Reps.grow r (Grow.froze r e) ds xs q⟩
  rcases get_set h with ⟨_, h2, _⟩ | ⟨h1, h2⟩
  · cases h2
  · exact h1 (r.inj k n c _ h2 e z)
theorem Rl.froze_tmp (r : Rl T M β H) {n : Nat} {c : Cel} {ds : List D} {xs : List V} (e : M[n]? = some (some c)) (e1 : H (β n) = some (.lst xs)) (q : Reps T M β H ds xs) : Rep T (M.set n none) β H (.lst ds) (.ref (β n)) := by
  unfold Rep
  refine ⟨β n, xs, rfl, e1, fun k c h z => ?_, Reps.grow0 r (Grow0.froze r e) ds xs q⟩
  rcases get_set h with ⟨_, h2, _⟩ | ⟨h1, h2⟩
  · cases h2
  · exact h1 (r.inj k n c _ h2 e z)
/-! what a function made and did not hand out is forgotten -/
mutual
theorem below_mono : ∀ (d : D) {j k : Nat}, j ≤ k → below j d = true → below k d = true
  | .non, _, _, _, _ => rfl
  | .bl _, _, _, _, _ => rfl
  | .int _, _, _, _, _ => rfl
  | .str _, _, _, _, _ => rfl
  | .tup ds, _, _, h, b => belows_mono ds h b
  | .lst ds, _, _, h, b => belows_mono ds h b
  | .exc _ ds, _, _, h, b => belows_mono ds h b
  | .scr _, _, _, _, _ => rfl
  | .cell n, j, k, h, b => by simp [below] at b ⊢; omega
theorem belows_mono : ∀ (ds : List D) {j k : Nat}, j ≤ k → belows j ds = true → belows k ds = true
  | [], _, _, _, _ => rfl
  | d :: ds, j, k, h, b => by
    simp only [belows, Bool.and_eq_true] at b ⊢
    exact ⟨below_mono d h b.1, belows_mono ds h b.2⟩
end
mutual
theorem Rep.cut {k : Nat} (hk : k ≤ M.length) : ∀ (d : D) (v : V), below k d = true → Rep T M β H d v → Rep T (M.take k) β H d v
  | .non, _, _, h => h
  | .bl _, _, _, h => h
  | .int _, _, _, h => h
  | .str _, _, _, h => h
  | .tup ds, v, b, h => by
    unfold Rep at h ⊢
    obtain ⟨a, xs, e, rd, q⟩ := h
    exact ⟨a, xs, e, rd, Reps.cut hk ds xs (by simpa [below] using b) q⟩
  | .lst ds, v, b, h => by
    unfold Rep at h ⊢
    obtain ⟨a, xs, e, rd, f, q⟩ := h
    refine ⟨a, xs, e, rd, fun n c z => f n c ?_, Reps.cut hk ds xs (by simpa [below] using b) q⟩
    rw [List.getElem?_take] at z
    split at z
    · exact z
    · cases z
  | .cell n, v, b, h => by
    unfold Rep at h ⊢
    obtain ⟨e, l⟩ := h
    have : n < k := by simpa [below] using b
    exact ⟨e, by simp; omega⟩
  | .exc c ds, v, b, h => by
    unfold Rep at h ⊢
    obtain ⟨a, xs, e, i, q⟩ := h
    exact ⟨a, xs, e, i, Reps.cut hk ds xs (by simpa [below] using b) q⟩
  | .scr ns, v, b, h => h
theorem Reps.cut {k : Nat} (hk : k ≤ M.length) : ∀ (ds : List D) (vs : List V), belows k ds = true → Reps T M β H ds vs → Reps T (M.take k) β H ds vs
  | [], _, _, h => h
  | d :: ds, vs, b, h => by
    unfold Reps at h ⊢
    obtain ⟨v, q, e, h1, h2⟩ := h
    have b' : below k d = true ∧ belows k ds = true := by simpa [belows] using b
    exact ⟨v, q, e, Rep.cut hk d v b'.1 h1, Reps.cut hk ds q b'.2 h2⟩
end
theorem take_get {M : Mem} {k n : Nat} {x : Option Cel} (h : (M.take k)[n]? = some x) : n < k ∧ M[n]? = some x := by
  rw [List.getElem?_take] at h
  split at h
  · exact ⟨by assumption, h⟩
  · cases h
theorem Rl.cut (r : Rl T M β H) {k : Nat} (hk : k ≤ M.length) : Rl T (M.take k) β H := by
  refine ⟨fun n c e => ?_, fun n j c c' e1 e2 z => r.inj n j c c' (take_get e1).2 (take_get e2).2 z⟩
  obtain ⟨_, e'⟩ := take_get e
  have := r.cell n c e'
  cases c with
  | lst ds =>
    obtain ⟨b, xs, e1, q⟩ := this
    exact ⟨b, xs, e1, Reps.cut hk ds xs (belows_mono ds (Nat.zero_le _) b) q⟩
  | tmp => exact this
theorem Grow.cut (g : Grow M β H M1 β1 H1) : Grow M β H (M1.take M.length) β1 H1 := by
  have hl := g.len
  refine ⟨⟨by simp; omega, g.beq, g.keep, fun n c hn e => ?_, fun n hn e => ?_, g.there⟩, fun n hn => ?_⟩
  · have := (take_get e).1; omega
  · rw [List.getElem?_take, if_pos hn]; exact g.dead n hn e
  · rw [List.getElem?_take, if_pos (live_lt hn)]; exact g.hid n hn
end
end G48
set_option Elab.async false
set_option linter.all false
set_option maxRecDepth 100000
set_option maxHeartbeats 1000000
/-! G48: what an expression of the small language asks of the expression of the text. -/
namespace G48
open PySem PySem.Spec PyProof.Rows L2

abbrev RpT (α υ : Type) := Mem → (Nat → Addr) → Hp → α → υ → Prop
section
variable (T : XT)
def Fly (m : Mem) (β : Nat → Addr) (H : Hp) (x : D) (cls : Value) (d : Option Addr) : Prop :=
  match x with
  | .exc c vs => ∃ xs, T.fly H c cls d xs ∧ Reps T m β H vs xs
  | _ => True
def Out {α υ : Type} (Rp : RpT α υ) (M : Mem) (β : Nat → Addr) (H : Hp) (r : R α) (Q : υ → Hp → Prop) (W : XK) : Prop :=
  match r with
  | .ok a m => ∀ v H' β', Rp m β' H' a v → Rl T m β' H' → Grow M β H m β' H' → Q v H'
  | .exc x m => ∀ cls d H' β', Fly T m β' H' x cls d → Rl T m β' H' → Grow M β H m β' H' → W cls d H'
  | .bad => False
/-- slots -/
def RlE (M : Mem) (β : Nat → Addr) (H : Hp) (ρ : Env) (σ : L2.St) : Prop :=
  ρ.length = σ.length ∧ ∀ (i : Nat) (d : D), ρ[i]? = some (some d) → ∃ v, σ[i]? = some (some v) ∧ Rep T M β H d v
def rdG {α υ : Type} (Rp : RpT α υ) (W : WX) (f : Env → Mem → R α) : L2.St → Hp → (υ → Hp → Prop) → Prop := fun σ H Q =>
  ∃ ρ M β, RlE T M β H ρ σ ∧ Rl T M β H ∧ Out T Rp M β H (f ρ M) Q (fun c d H' => W c d σ H')
abbrev rdE (W : WX) (f : Env → Mem → R D) : TE := rdG T (Rep T) W f
abbrev rdA (W : WX) (f : Env → Mem → R (List D)) : TA := rdG T (Reps T) W f
abbrev rdT (W : WX) (f : Env → Mem → R Bool) : TT := rdG T (fun _ _ _ a v => a = v) W f
end

section
variable {T : XT} {M M1 M2 : Mem} {β β1 β2 : Nat → Addr} {H H1 H2 : Hp} {α υ γ ω : Type} {Rp : RpT α υ} {Rq : RpT γ ω}
theorem Out.step {r : R α} {Q : υ → Hp → Prop} {W : XK} (g : Grow M β H M1 β1 H1) (h : Out T Rp M β H r Q W) : Out T Rp M1 β1 H1 r Q W := by
  cases r with
  | ok a m => exact fun v H' β' hr hl hg => h v H' β' hr hl (g.trans hg)
  | exc x m => exact fun c d H' β' hf hl hg => h c d H' β' hf hl (g.trans hg)
  | bad => exact h
theorem Out.bind {r : R α} {f : α → Mem → R γ} {Q : ω → Hp → Prop} {W : XK} {P : υ → Hp → Prop} (h : Out T Rq M β H (r.bind f) Q W)
    (k : ∀ a m v H1 β1, Rp m β1 H1 a v → Rl T m β1 H1 → Grow M β H m β1 H1 → Out T Rq m β1 H1 (f a m) Q W → P v H1) : Out T Rp M β H r P W := by
  cases r with
  | ok a m => exact fun v H1 β1 hr hl hg => k a m v H1 β1 hr hl hg (Out.step hg h)
  | exc x m => exact h
  | bad => exact False.elim h
theorem Out.bindE {r : R α} {f : α → Mem → R γ} {Q : ω → Hp → Prop} {W : XK} {P : υ → Hp → Prop} (h : Out T Rq M β H (r.bind f) Q W)
    (k : ∀ a m v H1 β1, r = .ok a m → Rp m β1 H1 a v → Rl T m β1 H1 → Grow M β H m β1 H1 → Out T Rq m β1 H1 (f a m) Q W → P v H1) : Out T Rp M β H r P W := by
  cases r with
  | ok a m => exact fun v H1 β1 hr hl hg => k a m v H1 β1 rfl hr hl hg (Out.step hg h)
  | exc x m => exact h
  | bad => exact False.elim h
theorem Out.mono {r : R α} {Q P : υ → Hp → Prop} {W W' : XK} (h : Out T Rp M β H r Q W) (k : ∀ v H', Q v H' → P v H') (kw : ∀ c d H', W c d H' → W' c d H') : Out T Rp M β H r P W' := by
  cases r with
  | ok a m => exact fun v H' β' hr hl hg => k _ _ (h v H' β' hr hl hg)
  | exc x m => exact fun c d H' β' hf hl hg => kw _ _ _ (h c d H' β' hf hl hg)
  | bad => exact h
theorem RlE.grow {ρ : Env} {σ : L2.St} (h : RlE T M β H ρ σ) (r : Rl T M β H) (g : Grow M β H M1 β1 H1) : RlE T M1 β1 H1 ρ σ :=
  ⟨h.1, fun i d e => let ⟨v, e', q⟩ := h.2 i d e; ⟨v, e', Rep.grow r g d v q⟩⟩
theorem RlE.set {ρ : Env} {σ : L2.St} (h : RlE T M β H ρ σ) (i : Nat) {d : D} {v : V} (q : Rep T M β H d v) : RlE T M β H (ρ.set i (some d)) (σ.set i (some v)) := by
  refine ⟨by simp [h.1], fun j e hj => ?_⟩
  by_cases hij : i = j
  · subst hij
    have hl : i < ρ.length := by
      have := (List.getElem?_eq_some_iff.mp hj).1
      simpa using this
    rw [List.getElem?_set_self hl] at hj
    cases hj
    exact ⟨v, List.getElem?_set_self (by rw [← h.1]; exact hl), q⟩
  · rw [List.getElem?_set_ne hij] at hj
    obtain ⟨w, e1, q1⟩ := h.2 j e hj
    exact ⟨w, by rw [List.getElem?_set_ne hij]; exact e1, q1⟩
theorem RlE.unset {ρ : Env} {σ : L2.St} (h : RlE T M β H ρ σ) (i : Nat) : RlE T M β H (ρ.set i none) σ := by
  refine ⟨by simp [h.1], fun j e hj => ?_⟩
  by_cases hij : i = j
  · subst hij
    by_cases hl : i < ρ.length
    · rw [List.getElem?_set_self hl] at hj; cases hj
    · rw [List.getElem?_eq_none (by simpa using hl)] at hj; cases hj
  · rw [List.getElem?_set_ne hij] at hj
    exact h.2 j e hj
theorem RlE.unset' {ρ : Env} {σ : L2.St} (h : RlE T M β H ρ σ) (i : Nat) (x : Option V) : RlE T M β H (ρ.set i none) (σ.set i x) := by
  refine ⟨by simp [h.1], fun j e hj => ?_⟩
  by_cases hij : i = j
  · subst hij
    by_cases hl : i < ρ.length
    · rw [List.getElem?_set_self hl] at hj; cases hj
    · rw [List.getElem?_eq_none (by simpa using hl)] at hj; cases hj
  · rw [List.getElem?_set_ne hij] at hj
    obtain ⟨v, e1, q⟩ := h.2 j e hj
    exact ⟨v, by rw [List.getElem?_set_ne hij]; exact e1, q⟩
theorem RlE.wipe {ρ : Env} {σ : L2.St} (h : RlE T M β H ρ σ) : ∀ vs : List Nat, RlE T M β H (wipe ρ vs) σ := by
  intro vs
  induction vs generalizing ρ with
  | nil => exact h
  | cons v vs ih => exact ih (h.unset v)
end

/-! ### seen: a list as it is now -/
section
variable (T : XT)
def Seen (M : Mem) (β : Nat → Addr) (H : Hp) (d : D) (v : V) : Prop :=
  match d with
  | .lst ds => ∃ a xs, v = .ref a ∧ H a = some (.lst xs) ∧ Reps T M β H ds xs
  | d => Rep T M β H d v
end
section
variable {T : XT} {M : Mem} {β : Nat → Addr} {H : Hp}
theorem Seen.of {d : D} {v : V} (h : Rep T M β H d v) : Seen T M β H d v := by
  cases d with
  | lst ds => unfold Rep at h; obtain ⟨a, xs, e, h1, _, h2⟩ := h; exact ⟨a, xs, e, h1, h2⟩
  | _ => exact h
theorem Seen.peek {d : D} {v : V} (r : Rl T M β H) (h : Rep T M β H d v) : Seen T M β H (peek M d) v := by
  cases d with
  | cell n =>
    cases e : M[n]? with
    | none => simp only [G48.peek, e]; exact h
    | some o =>
      cases o with
      | none => simp only [G48.peek, e]; exact h
      | some c =>
        cases c with
        | lst ds =>
          obtain ⟨_, xs, e1, q⟩ := r.cell n _ e
          unfold Rep at h
          simp only [G48.peek, e]
          exact ⟨β n, xs, h.1, e1, q⟩
        | tmp => simp only [G48.peek, e]; exact h
  | _ => exact Seen.of h
end

/-! ### judgements -/
theorem _root_.L2.PE.imp {X : Cx} {e : Expr} {t t' : TE} (h : PE X e t) (k : ∀ σ H Q, t' σ H Q → t σ H Q) : PE X e t' := ⟨fun pins s σ H Q I hw => h.run pins s σ H Q I (k _ _ _ hw)⟩
theorem _root_.L2.PT.imp {X : Cx} {e : Expr} {t t' : TT} (h : PT X e t) (k : ∀ σ H Q, t' σ H Q → t σ H Q) : PT X e t' := ⟨fun pins s σ H Q I hw => h.run pins s σ H Q I (k _ _ _ hw)⟩
theorem _root_.L2.PW.imp {X : Cx} {e : Expr} {t t' : TT} (h : PW X e t) (k : ∀ σ H Q, t' σ H Q → t σ H Q) : PW X e t' := ⟨fun wh pins s σ H Q I hw => h.run wh pins s σ H Q I (k _ _ _ hw)⟩
theorem _root_.L2.PA.imp {X : Cx} {e : List Expr} {t t' : TA} (h : PA X e t) (k : ∀ σ H Q, t' σ H Q → t σ H Q) : PA X e t' := ⟨fun pos pins s σ H Q I hw => h.run pos pins s σ H Q I (k _ _ _ hw)⟩
theorem _root_.L2.PS.imp {X : Cx} {e : Stmt} {t t' : TS} (h : PS X e t) (k : ∀ D σ H, t' D σ H → t D σ H) : PS X e t' := ⟨fun pins s σ H D I hw => h.run pins s σ H D I (k _ _ _ hw)⟩
theorem _root_.L2.PSs.imp {X : Cx} {e : List Stmt} {t t' : TS} (h : PSs X e t) (k : ∀ D σ H, t' D σ H → t D σ H) : PSs X e t' := ⟨fun pins s σ H D I hw => h.run pins s σ H D I (k _ _ _ hw)⟩

/-- an operator on two values, by the small language's own -/
def rD (T : XT) (g : D → D → Option D) : R2 := fun x y H Q => ∃ M β d e, Rl T M β H ∧ Seen T M β H d x ∧ Seen T M β H e y ∧
  match g d e with
  | some z => ∀ v H', Rep T M β H' z v → Rl T M β H' → Grow M β H M β H' → Q v H'
  | none => False

section
variable {T : XT} {X : Cx} {W : WX} {pos : Pos}

theorem se_const {f : Env → Mem → R D} {e : Expr} {d : D} {v : V} (h : PE X e (tC v)) (hf : ∀ ρ m, f ρ m = .ok d m) (hr : ∀ M β H, Rep T M β H d v) : PE X e (rdE T W f) :=
  h.imp fun σ H Q ⟨ρ, M, β, _, r, o⟩ => by
    rw [hf] at o
    exact o v H β (hr M β H) r Grow.refl
theorem se_var {e : Expr} {i : Nat} {f : Env → Mem → R D} (h : PE X e (tVar i)) (hf : ∀ ρ m, f ρ m = (match ρ[i]? with | some (some d) => .ok d m | _ => .bad)) : PE X e (rdE T W f) :=
  h.imp fun σ H Q ⟨ρ, M, β, l, r, o⟩ => by
    rw [hf] at o
    cases q : ρ[i]? with
    | none => rw [q] at o; exact o.elim
    | some w =>
      cases w with
      | none => rw [q] at o; exact o.elim
      | some d =>
        rw [q] at o
        obtain ⟨v, e1, hv⟩ := l.2 i d q
        exact ⟨v, e1, o v H β hv r Grow.refl⟩
/-- two expressions, then an operator by values -/
theorem two {fa fb : Env → Mem → R D} {g : D → D → Mem → R D} {σ : L2.St} {H : Hp} {Q : VK} {P : V → V → Hp → Prop}
    (h : rdE T W (fun ρ m => (fa ρ m).bind fun x m => (fb ρ m).bind fun y m => g x y m) σ H Q)
    (k : ∀ (x y : D) (m : Mem) (v w : V) (H2 : Hp) (β : Nat → Addr), Rep T m β H2 x v → Rep T m β H2 y w → Rl T m β H2 → Out T (Rep T) m β H2 (g x y m) Q (fun c d H' => W c d σ H') → P v w H2) :
    rdE T W fa σ H fun v H1 => rdE T W fb σ H1 fun w H2 => P v w H2 := by
  obtain ⟨ρ, M, β, l, r, o⟩ := h
  refine ⟨ρ, M, β, l, r, Out.bind o fun x m v H1 β1 hx r1 g1 o1 => ?_⟩
  refine ⟨ρ, m, β1, l.grow r g1, r1, Out.bind o1 fun y m2 w H2 β2 hy r2 g2 o2 => ?_⟩
  exact k x y m2 v w H2 β2 (Rep.grow r1 g2 x v hx) hy r2 o2
theorem one {fa : Env → Mem → R D} {g : D → Mem → R D} {σ : L2.St} {H : Hp} {Q : VK} {P : V → Hp → Prop}
    (h : rdE T W (fun ρ m => (fa ρ m).bind fun x m => g x m) σ H Q)
    (k : ∀ (x : D) (m : Mem) (v : V) (H2 : Hp) (β : Nat → Addr), Rep T m β H2 x v → Rl T m β H2 → Out T (Rep T) m β H2 (g x m) Q (fun c d H' => W c d σ H') → P v H2) :
    rdE T W fa σ H P := by
  obtain ⟨ρ, M, β, l, r, o⟩ := h
  exact ⟨ρ, M, β, l, r, Out.bind o fun x m v H1 β1 hx r1 g1 o1 => k x m v H1 β1 hx r1 o1⟩
theorem se_bin {a b : Expr} {fa fb : Env → Mem → R D} {op : Operator} {g : D → D → Option D} (ho : OpR X (binaryOp op) (rD T g)) (ha : PE X a (rdE T W fa)) (hb : PE X b (rdE T W fb)) :
    PE X (.BinOp a op b pos) (rdE T W fun ρ m => (fa ρ m).bind fun x m => (fb ρ m).bind fun y m => .of (g (peek m x) (peek m y)) m) := by
  refine (pe_op ho ha hb).imp fun σ H Q h => ?_
  refine two h fun x y m v w H2 β2 hx hy r2 o2 => ⟨m, β2, _, _, r2, Seen.peek r2 hx, Seen.peek r2 hy, ?_⟩
  cases q : g (peek m x) (peek m y) with
  | none => rw [q] at o2; exact o2
  | some z => rw [q] at o2; exact fun v H' hv rl g => o2 v H' β2 hv rl g
theorem se_cmp {a b : Expr} {fa fb : Env → Mem → R D} {op : CmpOp} {g : D → D → Option D} (ho : OpR X (compareOp op) (rD T g)) (ha : PE X a (rdE T W fa)) (hb : PE X b (rdE T W fb)) (hm : behindInMarks op b = false) :
    PE X (.Compare a [op] [b] pos) (rdE T W fun ρ m => (fa ρ m).bind fun x m => (fb ρ m).bind fun y m => .of (g (peek m x) (peek m y)) m) := by
  refine (pe_cmpR ho ha hb hm).imp fun σ H Q h => ?_
  refine two h fun x y m v w H2 β2 hx hy r2 o2 => ⟨m, β2, _, _, r2, Seen.peek r2 hx, Seen.peek r2 hy, ?_⟩
  cases q : g (peek m x) (peek m y) with
  | none => rw [q] at o2; exact o2
  | some z => rw [q] at o2; exact fun v H' hv rl g => o2 v H' β2 hv rl g
end
end G48
set_option Elab.async false
set_option linter.all false
set_option maxRecDepth 100000
set_option maxHeartbeats 4000000
/-! G48: t * 1 and () * k give the tuple itself. -/
namespace G48
open PySem PySem.Spec PyProof.Rows L2
theorem tuple_same (at_ : Addr) (its : Array Value) (hs : Nat) (di : Option Addr) (so : Array (Option Value)) (k : Int) (tk : Tok) (b0 : (decide (k < -(2 ^ 63)) || decide (k ≥ 2 ^ 63)) = false) (b1 : (its.isEmpty || k == 1) = true) :
    Meets (Builtin.«tuple.__mul__» ⟨[.ref at_, .int k tk], []⟩) (fun _ R s => s.heap.get? at_ = some { cls := .type "tuple", dict := di, data := .seq its hs, slots := so } ∧ R (.ok (.ret (Value.ref at_))) s) :=
  .of_wp fun pr wo A R s h => by
    obtain ⟨hp, g, d, t, os⟩ := s
    obtain ⟨hl, h⟩ := h
    have f1 := AutoSeq1.idx_int
    wp_walk using wpAny_loadPart' hl
    repeat (first
      | (refine wpAny_ite_false (decide_eq_false (by rw [b0]; exact Bool.false_ne_true)) ?_; wp_walk using wpAny_loadPart' hl)
      | (refine wpAny_ite_true (decide_eq_true (by rw [b1])) ?_; wp_walk using wpAny_loadPart' hl))
    exact ⟨_, rfl, h⟩
def rSame (K : PySem.W.Frag) : R2 := fun x y H Q => ∃ e k xs, x = .ref e ∧ y = .int k ∧ SqT K H e xs ∧ (xs = [] ∨ k = 1) ∧ -1000 ≤ k ∧ k ≤ 1000 ∧ Q (.ref e) H
theorem op_same {X : Cx} : OpR X (binaryOp .Mult) (rSame X.K) := by
  intro ps s τ H x y v u Q I rx ry h
  obtain ⟨e, k, xs, rfl, rfl, hT, hor, k0, k1, q⟩ := h
  cases rx
  obtain ⟨tk, rfl⟩ := ry
  obtain ⟨its, r, ⟨⟨cls, di, data, so⟩, ho, hc, hs, hd⟩, _⟩ := I.tuple hT
  simp only at hc hd
  subst hc hd
  have b0 : (decide (k < -(2 ^ 63)) || decide (k ≥ 2 ^ 63)) = false := by
    have h1 : ¬ k < -(2 ^ 63) := by omega
    have h2 : ¬ k ≥ 2 ^ 63 := by omega
    rw [decide_eq_false h1, decide_eq_false h2]; rfl
  have b1 : (its.toArray.isEmpty || k == 1) = true := by
    rcases hor with z | z
    · subst z
      have := r.length
      cases its with
      | nil => rfl
      | cons _ _ => simp at this
    · subst z
      simp
  exact wpAny_binaryOp_repeat_ref (T := "tuple") (U := "int") (by decide) ⟨_, ho, rfl⟩ (fun s' => typeIs_int s' k tk) noFill_tuple_mul F.fills_int_mul F.slot_int_rmul repeat_tuple F.slot_int_index.lookup
    (call_meets F.slot_int_rmul (typeIs_int s k tk) F.entry_int_rmul (F.args_int_rmul_2 _ _) (int_rmul_tuple k tk e its.toArray hs di so)
      ⟨ho, rfl, ⟨_, ho, rfl⟩, call_meets F.slot_tuple_mul ⟨_, ho, rfl⟩ F.entry_tuple_mul (F.args_tuple_mul_2 _ _) (tuple_same e its.toArray hs di so k tk b0 b1) ⟨ho, ⟨.ref e, H, I, rfl, q⟩⟩⟩)
end G48
set_option Elab.async false
set_option linter.all false
set_option maxRecDepth 100000
set_option maxHeartbeats 1000000
/-! G48: the operators. -/
namespace G48
open PySem PySem.Spec PyProof.Rows L2

theorem big_line {n : Nat} (h : n ≤ BIG) : n ≤ sizeLine := Nat.le_trans h (by rw [sizeLine_eq]; decide)
theorem big_line' {n : Nat} (h : n < BIG) : n < sizeLine := Nat.lt_of_lt_of_le h (by rw [sizeLine_eq]; decide)
theorem _root_.L2.OpR.imp {X : Cx} {f : Value → Value → Sem Value} {r r' : R2} (h : OpR X f r) (k : ∀ x y H Q, r' x y H Q → r x y H Q) : OpR X f r' :=
  fun pins s σ H x y v u Q I rx ry hw => h pins s σ H x y v u Q I rx ry (k _ _ _ _ hw)

section
variable {T : XT} {M : Mem} {β : Nat → Addr} {H : Hp} {v : V}
theorem Seen.int {i : Int} (h : Seen T M β H (.int i) v) : v = .int i := by simpa [Seen, Rep] using h
theorem Seen.bl {i : Bool} (h : Seen T M β H (.bl i) v) : v = .bl i := by simpa [Seen, Rep] using h
theorem Seen.str {i : Str} (h : Seen T M β H (.str i) v) : v = .str i := by simpa [Seen, Rep] using h
theorem Seen.non (h : Seen T M β H .non v) : v = .non := by simpa [Seen, Rep] using h
theorem Seen.tup {ds : List D} (h : Seen T M β H (.tup ds) v) : ∃ a xs, v = .ref a ∧ H a = some (.tup xs) ∧ Reps T M β H ds xs := by simpa [Seen, Rep] using h
theorem Seen.lst {ds : List D} (h : Seen T M β H (.lst ds) v) : ∃ a xs, v = .ref a ∧ H a = some (.lst xs) ∧ Reps T M β H ds xs := by simpa [Seen, Rep] using h
theorem Seen.scr {ns : List Int} (h : Seen T M β H (.scr ns) v) : ∃ a o, v = .ref a ∧ H a = some (.frz o (.lst (ns.map V.int))) := by simpa [Seen, Rep] using h
theorem rep_int {i : Int} : Rep T M β H (.int i) (.int i) := by unfold Rep; rfl
theorem rep_bl {i : Bool} : Rep T M β H (.bl i) (.bl i) := by unfold Rep; rfl
theorem rep_str {i : Str} : Rep T M β H (.str i) (.str i) := by unfold Rep; rfl
theorem rep_non : Rep T M β H .non .non := by unfold Rep; rfl
theorem rep_tup {ds : List D} {a : Addr} {xs : List V} (h : H a = some (.tup xs)) (q : Reps T M β H ds xs) : Rep T M β H (.tup ds) (.ref a) := by unfold Rep; exact ⟨a, xs, rfl, h, q⟩
theorem rep_lst {ds : List D} {a : Addr} {xs : List V} (h : H a = some (.lst xs)) (f : Free M β a) (q : Reps T M β H ds xs) : Rep T M β H (.lst ds) (.ref a) := by unfold Rep; exact ⟨a, xs, rfl, h, f, q⟩
/-- a new tuple, a new list -/
theorem new_tup {ds : List D} {xs : List V} {p : Addr} (r : Rl T M β H) (hp : H p = none) (q : Reps T M β H ds xs) : Rep T M β (upd H p (.tup xs)) (.tup ds) (.ref p) :=
  rep_tup upd_same (Reps.grow r (Grow.laid r hp) ds xs q)
theorem new_lst {ds : List D} {xs : List V} {p : Addr} (r : Rl T M β H) (hp : H p = none) (q : Reps T M β H ds xs) : Rep T M β (upd H p (.lst xs)) (.lst ds) (.ref p) :=
  rep_lst upd_same (r.free_of_none hp) (Reps.grow r (Grow.laid r hp) ds xs q)
theorem Reps.rep {ds : List D} {xs : List V} (q : Reps T M β H ds xs) : ∀ k : Nat, Reps T M β H (G48.rep ds k) (List.replicate k xs).flatten
  | 0 => Reps.nil
  | k + 1 => by simpa [G48.rep, List.replicate_succ] using Reps.append q (Reps.rep q k)
end

section
variable {T : XT} {X : Cx}
/-- what rD asks, taken apart -/
theorem rD_some {g : D → D → Option D} {x y : V} {H : Hp} {Q : VK} (h : rD T g x y H Q) :
    ∃ M β d e z, Rl T M β H ∧ Seen T M β H d x ∧ Seen T M β H e y ∧ g d e = some z ∧ ∀ v H', Rep T M β H' z v → Rl T M β H' → Grow M β H M β H' → Q v H' := by
  obtain ⟨M, β, d, e, r, sx, sy, h⟩ := h
  cases q : g d e with
  | none => rw [q] at h; exact h.elim
  | some z => rw [q] at h; exact ⟨M, β, d, e, z, r, sx, sy, q, h⟩

theorem od_add : OpR X (binaryOp .Add) (rD T (bop .add)) := by
  refine (op_add.or (op_catA.or (op_cat.or op_add_str))).imp fun x y H Q h => ?_
  obtain ⟨M, β, d, e, z, r, sx, sy, q, k⟩ := rD_some h
  cases d <;> cases e <;> simp only [bop, reduceCtorEq] at q
  · cases q
    exact .inl ⟨_, _, sx.int, sy.int, k _ _ rep_int r Grow.refl⟩
  · split at q
    · cases q
      refine .inr (.inr (.inr ⟨_, _, sx.str, sy.str, big_line (by assumption), k _ _ rep_str r Grow.refl⟩))
    · cases q
  · split at q
    · cases q
      rename_i ds es hb
      obtain ⟨a, xs, e1, h1, q1⟩ := sx.tup
      obtain ⟨b, ys, e2, h2, q2⟩ := sy.tup
      have l1 := q1.length
      have l2 := q2.length
      refine .inr (.inl ⟨a, b, xs, ys, e1, e2, .of h1, .of h2, big_line (by omega), fun z => ?_, fun _ z => ?_, fun _ _ p hp => ?_⟩)
      · refine k _ _ (rep_tup (xs := xs ++ ys) ?_ (q1.append q2)) r Grow.refl
        rw [z]; exact h2
      · refine k _ _ (rep_tup (xs := xs ++ ys) ?_ (q1.append q2)) r Grow.refl
        rw [z, List.append_nil]; exact h1
      · exact k _ _ (new_tup r hp (q1.append q2)) (r.laid hp) (Grow.laid r hp)
    · cases q
  · split at q
    · cases q
      rename_i ds es hb
      obtain ⟨a, xs, e1, h1, q1⟩ := sx.lst
      obtain ⟨b, ys, e2, h2, q2⟩ := sy.lst
      have l1 := q1.length
      have l2 := q2.length
      refine .inr (.inr (.inl ⟨a, b, xs, ys, e1, e2, h1, h2, big_line (by omega), fun p hp => ?_⟩))
      exact k _ _ (new_lst r hp (q1.append q2)) (r.laid hp) (Grow.laid r hp)
    · cases q
theorem od_sub : OpR X (binaryOp .Sub) (rD T (bop .sub)) := by
  refine op_sub.imp fun x y H Q h => ?_
  obtain ⟨M, β, d, e, z, r, sx, sy, q, k⟩ := rD_some h
  cases d <;> cases e <;> simp only [bop, reduceCtorEq] at q
  cases q
  exact ⟨_, _, sx.int, sy.int, k _ _ rep_int r Grow.refl⟩
theorem pow_3000 : MULB < 2 ^ 12000 := by decide +kernel
theorem od_mul : OpR X (binaryOp .Mult) (rD T (bop .mul)) := by
  refine (op_mul.or (op_mulW.or (op_rep.or (op_repT.or op_same)))).imp fun x y H Q h => ?_
  obtain ⟨M, β, d, e, z, r, sx, sy, q, k⟩ := rD_some h
  cases d <;> cases e <;> simp only [bop, reduceCtorEq] at q
  · split at q
    · cases q
      rename_i i j hb
      simp only [mulOk, Bool.or_eq_true, Bool.and_eq_true, decide_eq_true_eq] at hb
      rcases hb with (hb | hb) | ⟨h1, h2⟩
      · exact .inl ⟨_, _, sx.int, sy.int, .inl ⟨by omega, by omega⟩, k _ _ rep_int r Grow.refl⟩
      · exact .inl ⟨_, _, sx.int, sy.int, .inr ⟨by omega, by omega⟩, k _ _ rep_int r Grow.refl⟩
      · exact .inr (.inl ⟨_, _, sx.int, sy.int, wide_mul (a := 12000) (b := 12000) (Nat.lt_trans h1 pow_3000) (Nat.lt_trans h2 pow_3000) (by decide) (by decide) (by decide), k _ _ rep_int r Grow.refl⟩)
    · cases q
  · split at q
    · cases q
      rename_i ds i hb
      obtain ⟨h0, h1, h2⟩ := hb
      have h1 := leB_le.mp h1
      obtain ⟨a, xs, e1, h4, q1⟩ := sx.tup
      have l1 := q1.length
      by_cases hone : ds = [] ∨ i = 1
      · have er : rep ds i.toNat = ds := by
          rcases hone with z | z
          · subst z
            have : ∀ n, rep ([] : List D) n = [] := fun n => by induction n with
              | zero => rfl
              | succ n ih => simp [rep, ih]
            exact this _
          · subst z
            simp [rep]
        rw [er] at k
        refine .inr (.inr (.inr (.inr ⟨a, i, xs, e1, sy.int, .of h4, ?_, by omega, by omega, k _ _ (rep_tup h4 q1) r Grow.refl⟩)))
        rcases hone with z | z
        · left
          subst z
          exact List.length_eq_zero_iff.mp (by rw [← l1]; rfl)
        · exact .inr z
      · refine .inr (.inr (.inr (.inl ⟨a, i, xs, e1, sy.int, .of h4, fun z => hone (.inl (List.length_eq_zero_iff.mp (by rw [l1, z]; rfl))), by omega, h1, by omega, fun p hp => ?_⟩)))
        exact k _ _ (new_tup r hp (q1.rep _)) (r.laid hp) (Grow.laid r hp)
    · cases q
  · split at q
    · cases q
      rename_i ds i hb
      obtain ⟨h0, h1, h2⟩ := hb
      have h1 := leB_le.mp h1
      obtain ⟨a, xs, e1, h3, q1⟩ := sx.lst
      have l1 := q1.length
      have : (BIG : Int) < 2 ^ 63 := by decide
      refine .inr (.inr (.inl ⟨a, i, xs, e1, sy.int, h3, by omega, by omega, by rw [← l1]; exact big_line h2, fun p hp => ?_⟩))
      exact k _ _ (new_lst r hp (q1.rep _)) (r.laid hp) (Grow.laid r hp)
    · cases q
theorem pow_300 : DIVN < 2 ^ 9000 := by decide +kernel
theorem od_fdiv : OpR X (binaryOp .FloorDiv) (rD T (bop .fdiv)) := by
  refine op_fdivW.imp fun x y H Q h => ?_
  obtain ⟨M, β, d, e, z, r, sx, sy, q, k⟩ := rD_some h
  cases d <;> cases e <;> simp only [bop, reduceCtorEq] at q
  split at q
  · cases q
    rename_i i j hb
    have h3 := leB_le.mp hb.2
    have h2 : j.natAbs ≤ DIVN := by omega
    exact ⟨_, _, sx.int, sy.int, wide_div hb.1 (Nat.lt_of_le_of_lt h2 pow_300) (by decide) (by decide), k _ _ rep_int r Grow.refl⟩
  · cases q
theorem od_mod : OpR X (binaryOp .Mod) (rD T (bop .mod)) := by
  refine op_mod.imp fun x y H Q h => ?_
  obtain ⟨M, β, d, e, z, r, sx, sy, q, k⟩ := rD_some h
  cases d <;> cases e <;> simp only [bop, reduceCtorEq] at q
  split at q
  · cases q
    rename_i i j hb
    exact ⟨_, _, sx.int, sy.int, hb, k _ _ rep_int r Grow.refl⟩
  · cases q
theorem od_pow : OpR X (binaryOp .Pow) (rD T (bop .pow)) := by
  refine op_pow.imp fun x y H Q h => ?_
  obtain ⟨M, β, d, e, z, r, sx, sy, q, k⟩ := rD_some h
  cases d <;> cases e <;> simp only [bop, reduceCtorEq] at q
  split at q
  · cases q
    rename_i i j hb
    have h2 := leB_le.mp hb.2.1
    exact ⟨_, _, sx.int, sy.int, ⟨hb.1, by omega, hb.2.2⟩, k _ _ rep_int r Grow.refl⟩
  · cases q

/-! ### comparisons -/
theorem od_lt : OpR X (compareOp .Lt) (rD T (cop .lt)) := by
  refine op_lt.imp fun x y H Q h => ?_
  obtain ⟨M, β, d, e, z, r, sx, sy, q, k⟩ := rD_some h
  cases d <;> cases e <;> simp only [cop, reduceCtorEq] at q
  cases q
  exact ⟨_, _, sx.int, sy.int, k _ _ rep_bl r Grow.refl⟩
theorem od_le : OpR X (compareOp .LtE) (rD T (cop .le)) := by
  refine op_le.imp fun x y H Q h => ?_
  obtain ⟨M, β, d, e, z, r, sx, sy, q, k⟩ := rD_some h
  cases d <;> cases e <;> simp only [cop, reduceCtorEq] at q
  cases q
  exact ⟨_, _, sx.int, sy.int, k _ _ rep_bl r Grow.refl⟩
theorem od_gt : OpR X (compareOp .Gt) (rD T (cop .gt)) := by
  refine op_gt.imp fun x y H Q h => ?_
  obtain ⟨M, β, d, e, z, r, sx, sy, q, k⟩ := rD_some h
  cases d <;> cases e <;> simp only [cop, reduceCtorEq] at q
  cases q
  exact ⟨_, _, sx.int, sy.int, k _ _ rep_bl r Grow.refl⟩
theorem od_ge : OpR X (compareOp .GtE) (rD T (cop .ge)) := by
  refine op_ge.imp fun x y H Q h => ?_
  obtain ⟨M, β, d, e, z, r, sx, sy, q, k⟩ := rD_some h
  cases d <;> cases e <;> simp only [cop, reduceCtorEq] at q
  cases q
  exact ⟨_, _, sx.int, sy.int, k _ _ rep_bl r Grow.refl⟩

/-! ### equality of data -/
mutual
def toP : D → PyData
  | .non => .none
  | .bl b => .bool b
  | .int i => .int i
  | .str x => .str x
  | .tup xs => .tuple (toPs xs)
  | .lst xs => .list (toPs xs)
  | .cell _ => .none
  | .exc _ _ => .none
  | .scr _ => .none
def toPs : List D → List PyData
  | [] => []
  | d :: ds => toP d :: toPs ds
end
theorem okd_all {n : Nat} {ds : List D} (h : ds.all (okd n) = true) : ∀ d ∈ ds, okd n d = true := fun d hd => List.all_eq_true.mp h d hd
mutual
theorem toP_plain : ∀ (n : Nat) (d : D), okd n d = true → (toP d).plain = true ∧ (toP d).depth ≤ n
  | n, .non, _ => ⟨rfl, Nat.zero_le _⟩
  | n, .bl _, _ => ⟨rfl, Nat.zero_le _⟩
  | n, .int _, _ => ⟨rfl, Nat.zero_le _⟩
  | n, .str _, _ => ⟨rfl, Nat.zero_le _⟩
  | 0, .tup ds, h => by simp [okd] at h
  | 0, .lst ds, h => by simp [okd] at h
  | n + 1, .tup ds, h => by
    have := toPs_plain n ds (by simpa [okd] using h)
    simp only [toP, PyData.plain, PyData.depth]
    exact ⟨this.1, by omega⟩
  | n + 1, .lst ds, h => by
    have := toPs_plain n ds (by simpa [okd] using h)
    simp only [toP, PyData.plain, PyData.depth]
    exact ⟨this.1, by omega⟩
  | n, .cell _, h => by simp [okd] at h
  | n, .exc _ _, h => by simp [okd] at h
  | n, .scr _, h => by simp [okd] at h
theorem toPs_plain : ∀ (n : Nat) (ds : List D), (∀ d ∈ ds, okd n d = true) → PyData.plainAll (toPs ds) = true ∧ PyData.depthAll (toPs ds) ≤ n
  | n, [], _ => ⟨rfl, Nat.zero_le _⟩
  | n, d :: ds, h => by
    have h1 := toP_plain n d (h d (by simp))
    have h2 := toPs_plain n ds (fun e he => h e (by simp [he]))
    simp only [toPs, PyData.plainAll, PyData.depthAll, Bool.and_eq_true]
    exact ⟨⟨h1.1, h2.1⟩, Nat.max_le.mpr ⟨h1.2, h2.2⟩⟩
end
section
variable {M : Mem} {β : Nat → Addr} {H : Hp} {K : PySem.W.Frag}
mutual
theorem toP_dp : ∀ (n : Nat) (d : D) (v : V), okd n d = true → Seen T M β H d v → Dp K H v (toP d)
  | n, .non, v, _, s => by rw [s.non]; exact .non
  | n, .bl b, v, _, s => by rw [s.bl]; exact .bl b
  | n, .int i, v, _, s => by rw [s.int]; exact .int i
  | n, .str x, v, _, s => by rw [s.str]; exact .str x
  | 0, .tup ds, v, h, s => by simp [okd] at h
  | 0, .lst ds, v, h, s => by simp [okd] at h
  | n + 1, .tup ds, v, h, s => by
    obtain ⟨a, xs, e, h1, q⟩ := s.tup
    rw [e]
    exact .tup (.of h1) (toPs_dp n ds xs (by simpa [okd] using h) q)
  | n + 1, .lst ds, v, h, s => by
    obtain ⟨a, xs, e, h1, q⟩ := s.lst
    rw [e]
    exact .lst (.of h1) (toPs_dp n ds xs (by simpa [okd] using h) q)
  | n, .cell _, v, h, s => by simp [okd] at h
  | n, .exc _ _, v, h, s => by simp [okd] at h
  | n, .scr _, v, h, s => by simp [okd] at h
theorem toPs_dp : ∀ (n : Nat) (ds : List D) (vs : List V), (∀ d ∈ ds, okd n d = true) → Reps T M β H ds vs → DpAll K H vs (toPs ds)
  | n, [], vs, _, q => by unfold Reps at q; subst q; exact .nil
  | n, d :: ds, vs, h, q => by
    unfold Reps at q
    obtain ⟨v, r, e, h1, h2⟩ := q
    subst e
    exact .cons (toP_dp n d v (h d (by simp)) (Seen.of h1)) (toPs_dp n ds r (fun e he => h e (by simp [he])) h2)
end
end
theorem deq_mem_lists (xs : List D) (f g : D → Bool) (h : ∀ x ∈ xs, f x = g x) : xs.any f = xs.any g := by
  induction xs with
  | nil => rfl
  | cons x xs ih => simp [h x (by simp), ih fun y hy => h y (by simp [hy])]
mutual
theorem deq_eqv : ∀ (n : Nat) (d e : D), okd n d = true → okd n e = true → PyData.eqv (toP d) (toP e) = deq d e
  | n, .tup xs, e, h, h' => by
    cases n with
    | zero => simp [okd] at h
    | succ n =>
      cases e <;> simp only [toP, PyData.eqv, deq] <;> try (simp [okd] at h'; done)
      exact deqs_eqv n _ _ (by simpa [okd] using h) (by simpa [okd] using h')
  | n, .lst xs, e, h, h' => by
    cases n with
    | zero => simp [okd] at h
    | succ n =>
      cases e <;> simp only [toP, PyData.eqv, deq] <;> try (simp [okd] at h'; done)
      exact deqs_eqv n _ _ (by simpa [okd] using h) (by simpa [okd] using h')
  | n, .non, e, h, h' => by
    cases e <;> simp only [toP, PyData.eqv, deq] <;> try (simp [okd] at h'; done)
  | n, .bl _, e, h, h' => by
    cases e <;> simp only [toP, PyData.eqv, deq] <;> try (simp [okd] at h'; done)
  | n, .int _, e, h, h' => by
    cases e <;> simp only [toP, PyData.eqv, deq] <;> try (simp [okd] at h'; done)
  | n, .str _, e, h, h' => by
    cases e <;> simp only [toP, PyData.eqv, deq] <;> try (simp [okd] at h'; done)
  | n, .cell _, e, h, h' => by simp [okd] at h
  | n, .exc _ _, e, h, h' => by simp [okd] at h
  | n, .scr _, e, h, h' => by simp [okd] at h
theorem deqs_eqv : ∀ (n : Nat) (ds es : List D), (∀ d ∈ ds, okd n d = true) → (∀ d ∈ es, okd n d = true) → PyData.eqvAll (toPs ds) (toPs es) = deqs ds es
  | n, [], [], _, _ => rfl
  | n, [], _ :: _, _, _ => rfl
  | n, _ :: _, [], _, _ => rfl
  | n, d :: ds, e :: es, h, h' => by
    simp only [toPs, PyData.eqvAll, deqs]
    rw [deq_eqv n d e (h d (by simp)) (h' e (by simp)), deqs_eqv n ds es (fun x hx => h x (by simp [hx])) (fun x hx => h' x (by simp [hx]))]
end
theorem toPs_any (f : PyData → Bool) : ∀ ds : List D, (toPs ds).any f = ds.any fun d => f (toP d)
  | [] => rfl
  | d :: ds => by simp [toPs, toPs_any f ds]

theorem od_eq {k : Nat} (hr : Room k X.A) : OpR X (compareOp .Eq) (rD T (cop .eq)) := by
  intro pins s σ H x y v u Q I rx ry h
  obtain ⟨M, β, d, e, z, r, sx, sy, q, hk⟩ := rD_some h
  simp only [cop] at q
  split at q
  · cases q
    rename_i hb
    simp only [Bool.and_eq_true] at hb
    obtain ⟨as, r1⟩ := Dp.reads I (toP d) x v (toP_dp 60 d x hb.1 sx) rx
    obtain ⟨bs, r2⟩ := Dp.reads I (toP e) y u (toP_dp 60 e y hb.2 sy) ry
    have p1 := toP_plain 60 d hb.1
    have p2 := toP_plain 60 e hb.2
    have hu := hr.un
    refine SeqAt.eq_plain r1 r2 p1.1 p2.1 (by omega) ?_
    rw [deq_eqv 60 d e hb.1 hb.2]
    exact ⟨.bl _, H, I, rfl, hk _ _ rep_bl r Grow.refl⟩
  · cases q
theorem od_ne {k : Nat} (hr : Room k X.A) : OpR X (compareOp .NotEq) (rD T (cop .ne)) := by
  intro pins s σ H x y v u Q I rx ry h
  obtain ⟨M, β, d, e, z, r, sx, sy, q, hk⟩ := rD_some h
  simp only [cop] at q
  split at q
  · cases q
    rename_i hb
    simp only [Bool.and_eq_true] at hb
    obtain ⟨as, r1⟩ := Dp.reads I (toP d) x v (toP_dp 60 d x hb.1 sx) rx
    obtain ⟨bs, r2⟩ := Dp.reads I (toP e) y u (toP_dp 60 e y hb.2 sy) ry
    have p1 := toP_plain 60 d hb.1
    have p2 := toP_plain 60 e hb.2
    have hu := hr.un
    refine SeqAt.ne_plain r1 r2 p1.1 p2.1 (by omega) ?_
    rw [deq_eqv 60 d e hb.1 hb.2]
    exact ⟨.bl _, H, I, rfl, hk _ _ rep_bl r Grow.refl⟩
  · cases q
theorem mem_core {d : D} {xs : List D} (hb : okd 60 d = true ∧ xs.all (okd 60) = true) : (toPs xs).any (fun y => PyData.eqv y (toP d)) = xs.any fun y => deq y d := by
  rw [toPs_any]
  exact deq_mem_lists xs _ _ fun x hx => deq_eqv 60 x d (okd_all hb.2 x hx) hb.1
theorem od_mem {k : Nat} (hr : Room k X.A) : OpR X (compareOp .In) (rD T (cop .mem)) := by
  intro pins s σ H x y v u Q I rx ry h
  obtain ⟨M, β, d, e, z, r, sx, sy, q, hk⟩ := rD_some h
  have hu := hr.un
  cases e <;> simp only [cop, reduceCtorEq] at q
  all_goals
    split at q
    · cases q
      rename_i xs hb
      have hb : okd 60 d = true ∧ xs.all (okd 60) = true := by simpa using hb
      have hc : okd 61 (.lst xs) = true ∧ okd 61 (.tup xs) = true := by simpa [okd] using hb.2
      obtain ⟨as, r1⟩ := Dp.reads I (toP d) x v (toP_dp 60 d x hb.1 sx) rx
      have p1 := toP_plain 60 d hb.1
      have p2 := toPs_plain 60 xs (okd_all hb.2)
      first
        | (obtain ⟨bs, r2⟩ := Dp.reads I (toP (.tup xs)) y u (toP_dp 61 _ y hc.2 sy) ry
           simp only [toP] at r2
           refine SeqAt.in_tuple_data r2 r1 p2.1 p1.1 (by omega) ?_
           rw [mem_core hb]
           exact ⟨.bl _, H, I, rfl, hk _ _ rep_bl r Grow.refl⟩)
        | (obtain ⟨bs, r2⟩ := Dp.reads I (toP (.lst xs)) y u (toP_dp 61 _ y hc.1 sy) ry
           simp only [toP] at r2
           refine SeqAt.in_list_data r2 r1 p2.1 p1.1 (by omega) ?_
           rw [mem_core hb]
           exact ⟨.bl _, H, I, rfl, hk _ _ rep_bl r Grow.refl⟩)
    · cases q
theorem od_nmem {k : Nat} (hr : Room k X.A) : OpR X (compareOp .NotIn) (rD T (cop .nmem)) := by
  intro pins s σ H x y v u Q I rx ry h
  obtain ⟨M, β, d, e, z, r, sx, sy, q, hk⟩ := rD_some h
  have hu := hr.un
  cases e <;> simp only [cop, reduceCtorEq] at q
  all_goals
    split at q
    · cases q
      rename_i xs hb
      have hb : okd 60 d = true ∧ xs.all (okd 60) = true := by simpa using hb
      have hc : okd 61 (.lst xs) = true ∧ okd 61 (.tup xs) = true := by simpa [okd] using hb.2
      obtain ⟨as, r1⟩ := Dp.reads I (toP d) x v (toP_dp 60 d x hb.1 sx) rx
      have p1 := toP_plain 60 d hb.1
      have p2 := toPs_plain 60 xs (okd_all hb.2)
      first
        | (obtain ⟨bs, r2⟩ := Dp.reads I (toP (.tup xs)) y u (toP_dp 61 _ y hc.2 sy) ry
           simp only [toP] at r2
           refine SeqAt.notIn_tuple_data r2 r1 p2.1 p1.1 (by omega) ?_
           rw [mem_core hb]
           exact ⟨.bl _, H, I, rfl, hk _ _ rep_bl r Grow.refl⟩)
        | (obtain ⟨bs, r2⟩ := Dp.reads I (toP (.lst xs)) y u (toP_dp 61 _ y hc.1 sy) ry
           simp only [toP] at r2
           refine SeqAt.notIn_list_data r2 r1 p2.1 p1.1 (by omega) ?_
           rw [mem_core hb]
           exact ⟨.bl _, H, I, rfl, hk _ _ rep_bl r Grow.refl⟩)
    · cases q
end
end G48
set_option Elab.async false
set_option linter.all false
set_option maxRecDepth 100000
set_option maxHeartbeats 1000000
/-! G48: expressions without calls and comprehensions. -/
namespace G48
open PySem PySem.Spec PyProof.Rows L2

section
variable (T : XT)
/-- an expression of the text does as f says, as a value and as a test -/
structure SE (X : Cx) (W : WX) (e : Expr) (f : Env → Mem → R D) : Prop where
  pe : PE X e (rdE T W f)
  pt : PT X e (rdT T W fun ρ m => tst (f ρ m))
end

section
variable {T : XT} {M M1 : Mem} {β β1 : Nat → Addr} {H H1 : Hp}
theorem empty_len {α β : Type} {xs : List α} {ys : List β} (h : xs.length = ys.length) : (!xs.isEmpty) = !ys.isEmpty := by
  cases xs <;> cases ys <;> simp_all
theorem tru_of {K : PySem.W.Frag} {d : D} {v : V} {b : Bool} (s : Seen T M β H d v) (h : truth d = some b) : TruV K v H b := by
  cases d <;> simp only [truth, reduceCtorEq] at h
  · cases h; rw [s.non]; rfl
  · cases h; rw [s.bl]; rfl
  · cases h; rw [s.int]
    show decide _ = _
    rename_i i
    by_cases e : i = 0 <;> simp [e]
  · cases h
    obtain ⟨a, xs, e, h1, q⟩ := s.tup
    rw [e]
    exact .inr (.inl ⟨xs, .of h1, empty_len q.length⟩)
  · cases h
    obtain ⟨a, xs, e, h1, q⟩ := s.lst
    rw [e]
    exact .inl ⟨xs, .of h1, empty_len q.length⟩

/-- the end of a reading: a value -/
theorem Out.val {α υ : Type} {Rp : RpT α υ} {a : α} {v : υ} {Q : υ → Hp → Prop} {W : XK} (h : Out T Rp M β H (.ok a M) Q W) (r : Rl T M β H) (q : Rp M β H a v) : Q v H := h v H β q r Grow.refl
theorem Out.of {α υ : Type} {Rp : RpT α υ} {o : Option α} {Q : υ → Hp → Prop} {W : XK} (h : Out T Rp M β H (.of o M) Q W) : ∃ a, o = some a ∧ Out T Rp M β H (.ok a M) Q W := by
  cases o with
  | none => exact h.elim
  | some a => exact ⟨a, rfl, h⟩
end

section
variable {T : XT} {X : Cx} {W : WX} {pos : Pos} {a b c e : Expr} {fa fb fc f : Env → Mem → R D}

theorem SE.congr (h : SE T X W e f) {g : Env → Mem → R D} (k : ∀ ρ m, g ρ m = f ρ m) : SE T X W e g := by
  have : g = f := by funext ρ m; exact k ρ m
  rw [this]; exact h

theorem se_plain (h : PE X e (rdE T W f)) (he : ∀ whole, isTrue e X.env whole = (do let v ← whole; standAt e.pos; holding [v] (truthy v))) : SE T X W e f := by
  refine ⟨h, (pt_truth h he).imp fun σ H Q ⟨ρ, M, β, l, r, o⟩ => ⟨ρ, M, β, l, r, ?_⟩⟩
  refine Out.bind o fun d m v H1 β1 hv r1 g1 o1 => ?_
  obtain ⟨k, hk, o2⟩ := o1.of
  exact ⟨k, tru_of (Seen.peek r1 hv) hk, o2.val r1 rfl⟩

/-! ### tests -/
theorem tst_bl {b : Bool} {m : Mem} : tst (.ok (.bl b) m) = .ok b m := rfl
theorem se_cmp2 {op : CmpOp} {g : D → D → Option D} (ho : OpR X (compareOp op) (rD T g)) (hg : ∀ x y z, g x y = some z → ∃ k, z = .bl k) (ha : SE T X W a fa) (hb : SE T X W b fb) (hm : behindInMarks op b = false) :
    SE T X W (.Compare a [op] [b] pos) fun ρ m => (fa ρ m).bind fun x m => (fb ρ m).bind fun y m => .of (g (peek m x) (peek m y)) m := by
  refine ⟨se_cmp ho ha.pe hb.pe hm, (pt_cmpR ho ha.pe hb.pe hm).imp fun σ H Q ⟨ρ, M, β, l, r, o⟩ => ?_⟩
  refine ⟨ρ, M, β, l, r, ?_⟩
  have o : Out T (fun _ _ _ a v => a = v) M β H ((fa ρ M).bind fun x m => tst ((fb ρ m).bind fun y m => R.of (g (peek m x) (peek m y)) m)) Q (fun c d H' => W c d σ H') := by
    cases q : fa ρ M with
    | ok x m => simpa [tst, q] using o
    | exc x m => simpa [tst, q] using o
    | bad => simp only [tst, q] at o; exact o.elim
  refine Out.bind o fun x m v H1 β1 hx r1 g1 o1 => ⟨ρ, m, β1, l.grow r g1, r1, ?_⟩
  have o1 : Out T (fun _ _ _ a v => a = v) m β1 H1 ((fb ρ m).bind fun y m => tst (R.of (g (peek m x) (peek m y)) m)) Q (fun c d H' => W c d σ H') := by
    cases q : fb ρ m with
    | ok x m => simpa [tst, q] using o1
    | exc x m => simpa [tst, q] using o1
    | bad => simp only [tst, q] at o1; exact o1.elim
  refine Out.bind o1 fun y m2 w H2 β2 hy r2 g2 o2 => ?_
  refine ⟨m2, β2, _, _, r2, Seen.peek r2 (Rep.grow r1 g2 x v hx), Seen.peek r2 hy, ?_⟩
  cases q : g (peek m2 x) (peek m2 y) with
  | none => rw [q] at o2; exact o2
  | some z =>
    rw [q] at o2
    obtain ⟨k, rfl⟩ := hg _ _ _ q
    intro v' H' hv rl gr
    have hv' : v' = .bl k := by simpa [Rep] using hv
    exact ⟨k, hv', o2 k H' β2 rfl rl gr⟩
theorem cop_bl {o : Cop} {x y z : D} (h : cop o x y = some z) : ∃ k, z = .bl k := by
  cases o
  case eq => simp only [cop] at h; split at h <;> cases h; exact ⟨_, rfl⟩
  case ne => simp only [cop] at h; split at h <;> cases h; exact ⟨_, rfl⟩
  case lt => cases x <;> cases y <;> simp only [cop, reduceCtorEq] at h; cases h; exact ⟨_, rfl⟩
  case le => cases x <;> cases y <;> simp only [cop, reduceCtorEq] at h; cases h; exact ⟨_, rfl⟩
  case gt => cases x <;> cases y <;> simp only [cop, reduceCtorEq] at h; cases h; exact ⟨_, rfl⟩
  case ge => cases x <;> cases y <;> simp only [cop, reduceCtorEq] at h; cases h; exact ⟨_, rfl⟩
  case mem => cases y <;> simp only [cop, reduceCtorEq] at h <;> split at h <;> cases h <;> exact ⟨_, rfl⟩
  case nmem => cases y <;> simp only [cop, reduceCtorEq] at h <;> split at h <;> cases h <;> exact ⟨_, rfl⟩

/-- a chain of two comparisons -/
theorem chain_core {g g' : D → D → Option D} (hg : ∀ x y z, g x y = some z → ∃ k, z = .bl k) {σ : L2.St} {H : Hp} {Q : VK}
    (h : rdE T W (fun ρ m => (fa ρ m).bind fun x m => (fb ρ m).bind fun y m => (R.of (g (peek m x) (peek m y)) m).bind fun r m => match r with
      | .bl true => (fc ρ m).bind fun z m => .of (g' (peek m y) (peek m z)) m
      | .bl false => .ok (.bl false) m
      | _ => .bad) σ H Q) : tChain (rD T g) (rD T g') (rdE T W fa) (rdE T W fb) (rdE T W fc) σ H Q := by
  obtain ⟨ρ, M, β, l, r, o⟩ := h
  refine ⟨ρ, M, β, l, r, Out.bind o fun x m v H1 β1 hx r1 g1 o1 => ⟨ρ, m, β1, l.grow r g1, r1, Out.bind o1 fun y m2 w H2 β2 hy r2 g2 o2 => ?_⟩⟩
  refine ⟨m2, β2, _, _, r2, Seen.peek r2 (Rep.grow r1 g2 x v hx), Seen.peek r2 hy, ?_⟩
  cases q : g (peek m2 x) (peek m2 y) with
  | none => rw [q] at o2; exact o2
  | some z =>
    rw [q] at o2
    obtain ⟨k, rfl⟩ := hg _ _ _ q
    intro v' H' hv rl gr
    have hv' : v' = .bl k := by simpa [Rep] using hv
    refine ⟨k, hv', ?_⟩
    have o3 := Out.step gr o2
    cases k with
    | false => exact o3.val rl rep_bl
    | true =>
      refine iteT ⟨ρ, m2, β2, ((l.grow r g1).grow r1 g2).grow r2 gr, rl, Out.bind o3 fun z m4 w4 H4 β4 hz r4 g4 o4 => ?_⟩
      refine ⟨m4, β4, _, _, r4, Seen.peek r4 (Rep.grow rl g4 y w (Rep.grow r2 gr y w hy)), Seen.peek r4 hz, ?_⟩
      cases q' : g' (peek m4 y) (peek m4 z) with
      | none => rw [q'] at o4; exact o4
      | some z' => rw [q'] at o4; exact fun v H' hv rl g => o4 v H' β4 hv rl g
/-- a test by a value that is a bool -/
theorem test_of {f : Env → Mem → R D} {σ : L2.St} {H : Hp} {Q : Bool → Hp → Prop} (h : rdT T W (fun ρ m => tst (f ρ m)) σ H Q)
    (hb : ∀ ρ m d m', f ρ m = .ok d m' → ∃ k, d = .bl k) : rdE T W f σ H fun v H' => ∃ k, v = .bl k ∧ Q k H' := by
  obtain ⟨ρ, M, β, l, r, o⟩ := h
  refine ⟨ρ, M, β, l, r, ?_⟩
  cases q : f ρ M with
  | bad => simp only [tst, q] at o; exact o.elim
  | exc x m => simp only [tst, q, R.bind_exc] at o; exact o
  | ok d m =>
    obtain ⟨k, rfl⟩ := hb _ _ _ _ q
    simp only [q] at o
    intro v H' β' hv rl gr
    have hv' : v = .bl k := by simpa [Rep] using hv
    exact ⟨k, hv', o k H' β' rfl rl gr⟩
theorem se_chain {op op' : CmpOp} {g g' : D → D → Option D} (ho : OpR X (compareOp op) (rD T g)) (ho' : OpR X (compareOp op') (rD T g')) (hg : ∀ x y z, g x y = some z → ∃ k, z = .bl k) (hg' : ∀ x y z, g' x y = some z → ∃ k, z = .bl k)
    (ha : SE T X W a fa) (hb : SE T X W b fb) (hc : SE T X W c fc) (hm : lastMarks [op, op'] [b, c] = false) :
    SE T X W (.Compare a [op, op'] [b, c] pos) fun ρ m => (fa ρ m).bind fun x m => (fb ρ m).bind fun y m => (R.of (g (peek m x) (peek m y)) m).bind fun r m => match r with
      | .bl true => (fc ρ m).bind fun z m => .of (g' (peek m y) (peek m z)) m
      | .bl false => .ok (.bl false) m
      | _ => .bad := by
  refine ⟨(pe_chain ho ho' ha.pe hb.pe hc.pe hm).imp fun σ H Q h => chain_core hg h, (pt_chain ho ho' ha.pe hb.pe hc.pe hm).imp fun σ H Q h => ?_⟩
  refine chain_core hg (test_of h fun ρ m d m' e => ?_)
  cases q1 : fa ρ m with
  | bad => simp [q1] at e
  | exc _ _ => simp [q1] at e
  | ok x m1 =>
    simp only [q1, R.bind_ok] at e
    cases q2 : fb ρ m1 with
    | bad => simp [q2] at e
    | exc _ _ => simp [q2] at e
    | ok y m2 =>
      simp only [q2, R.bind_ok] at e
      cases q3 : g (peek m2 x) (peek m2 y) with
      | none => simp [q3] at e
      | some z =>
        obtain ⟨k, rfl⟩ := hg _ _ _ q3
        simp only [q3, R.of_some, R.bind_ok] at e
        cases k with
        | false => cases e; exact ⟨_, rfl⟩
        | true =>
          simp only at e
          cases q4 : fc ρ m2 with
          | bad => simp [q4] at e
          | exc _ _ => simp [q4] at e
          | ok z m3 =>
            simp only [q4, R.bind_ok] at e
            cases q5 : g' (peek m3 y) (peek m3 z) with
            | none => simp [q5] at e
            | some u => simp only [q5, R.of_some] at e; cases e; exact hg' _ _ _ q5

/-- not a -/
theorem se_not (ha : SE T X W a fa) : SE T X W (.UnaryOp .Not a pos) fun ρ m => (tst (fa ρ m)).bind fun b m => .ok (.bl (!b)) m := by
  refine ⟨(pe_notT ha.pe).imp fun σ H Q ⟨ρ, M, β, l, r, o⟩ => ⟨ρ, M, β, l, r, ?_⟩, (pt_not ha.pt).imp fun σ H Q ⟨ρ, M, β, l, r, o⟩ => ⟨ρ, M, β, l, r, ?_⟩⟩
  · have o : Out T (Rep T) M β H ((fa ρ M).bind fun d m => (R.of (truth (peek m d)) m).bind fun b m => .ok (.bl (!b)) m) Q (fun c d H' => W c d σ H') := by
      cases q : fa ρ M <;> simpa [tst, q] using o
    refine Out.bind o fun d m v H1 β1 hv r1 g1 o1 => ?_
    cases q : truth (peek m d) with
    | none => rw [q] at o1; exact o1.elim
    | some k => rw [q] at o1; exact ⟨k, tru_of (Seen.peek r1 hv) q, o1.val r1 rep_bl⟩
  · have o : Out T (fun _ _ _ a v => a = v) M β H ((tst (fa ρ M)).bind fun b m => .ok (!b) m) Q (fun c d H' => W c d σ H') := by
      have e : tst ((tst (fa ρ M)).bind fun b m => .ok (.bl (!b)) m) = (tst (fa ρ M)).bind fun b m => .ok (!b) m := by cases tst (fa ρ M) <;> rfl
      rw [← e]; exact o
    exact Out.bind o fun b m v H1 β1 hv r1 g1 o1 => o1.val r1 (by rw [hv])

/-! ### and, or -/
end
section
variable (T : XT)
structure SB (X : Cx) (W : WX) (op : BoolOp) (es : List Expr) (pos : Pos) (f : Env → Mem → R D) : Prop where
  pe : PE X (.BoolOp op es pos) (rdE T W f)
  pw : PW X (.BoolOp op es pos) (rdT T W fun ρ m => tst (f ρ m))
end
section
variable {T : XT} {X : Cx} {W : WX} {pos : Pos} {a b c e : Expr} {fa fb fc f : Env → Mem → R D} {rest : List Expr} {op : BoolOp}
theorem SB.se {es : List Expr} (h : SB T X W op es pos f) : SE T X W (.BoolOp op es pos) f := ⟨h.pe, h.pw.pt⟩
theorem sb_one (h : SE T X W a f) : SB T X W op [a] pos f := by
  cases op with
  | And => exact ⟨pe_one h.pe, pw_and1 h.pt⟩
  | Or => exact ⟨pe_one h.pe, pw_or1 h.pt⟩
theorem tst_bind {r : R D} {g : D → Mem → R D} : tst (r.bind g) = r.bind fun x m => tst (g x m) := by cases r <;> rfl
theorem sb_and (ha : SE T X W a fa) (hb : SB T X W .And (b :: rest) pos fb) :
    SB T X W .And (a :: b :: rest) pos fun ρ m => (fa ρ m).bind fun x m => match truth (peek m x) with
      | some true => fb ρ m
      | some false => .ok x m
      | none => .bad := by
  refine ⟨(pe_andT ha.pe hb.pe).imp fun σ H Q ⟨ρ, M, β, l, r, o⟩ => ⟨ρ, M, β, l, r, ?_⟩, (pw_and ha.pt hb.pw).imp fun σ H Q ⟨ρ, M, β, l, r, o⟩ => ⟨ρ, M, β, l, r, ?_⟩⟩
  · refine Out.bind o fun x m v H1 β1 hx r1 g1 o1 => ?_
    cases q : truth (peek m x) with
    | none => rw [q] at o1; exact o1.elim
    | some k =>
      rw [q] at o1
      refine ⟨k, tru_of (Seen.peek r1 hx) q, ?_⟩
      cases k with
      | false => exact iteF (o1.val r1 hx)
      | true => exact iteT ⟨ρ, m, β1, l.grow r g1, r1, o1⟩
  · dsimp only at o
    rw [tst_bind] at o
    have o : Out T (fun _ _ _ a v => a = v) M β H ((tst (fa ρ M)).bind fun k m => if k then tst (fb ρ m) else .ok false m) Q (fun c d H' => W c d σ H') := by
      cases q : fa ρ M with
      | bad => simpa [tst, q] using o
      | exc _ _ => simpa [tst, q] using o
      | ok x m =>
        simp only [q, R.bind_ok] at o
        cases q2 : truth (peek m x) with
        | none => simp only [q2] at o; exact o.elim
        | some k =>
          have : tst (R.ok x m) = .ok k m := by simp [tst, q2]
          rw [this]
          cases k with
          | true => simpa [q2] using o
          | false => simpa [q2, this] using o
    refine Out.bind o fun k m v H1 β1 hk r1 g1 o1 => ?_
    cases hk
    cases k with
    | false => exact iteF (o1.val r1 rfl)
    | true => exact iteT ⟨ρ, m, β1, l.grow r g1, r1, o1⟩
theorem sb_or (ha : SE T X W a fa) (hb : SB T X W .Or (b :: rest) pos fb) :
    SB T X W .Or (a :: b :: rest) pos fun ρ m => (fa ρ m).bind fun x m => match truth (peek m x) with
      | some true => .ok x m
      | some false => fb ρ m
      | none => .bad := by
  refine ⟨(pe_orT ha.pe hb.pe).imp fun σ H Q ⟨ρ, M, β, l, r, o⟩ => ⟨ρ, M, β, l, r, ?_⟩, (pw_or ha.pt hb.pw).imp fun σ H Q ⟨ρ, M, β, l, r, o⟩ => ⟨ρ, M, β, l, r, ?_⟩⟩
  · refine Out.bind o fun x m v H1 β1 hx r1 g1 o1 => ?_
    cases q : truth (peek m x) with
    | none => rw [q] at o1; exact o1.elim
    | some k =>
      rw [q] at o1
      refine ⟨k, tru_of (Seen.peek r1 hx) q, ?_⟩
      cases k with
      | true => exact iteT (o1.val r1 hx)
      | false => exact iteF ⟨ρ, m, β1, l.grow r g1, r1, o1⟩
  · dsimp only at o
    rw [tst_bind] at o
    have o : Out T (fun _ _ _ a v => a = v) M β H ((tst (fa ρ M)).bind fun k m => if k then .ok true m else tst (fb ρ m)) Q (fun c d H' => W c d σ H') := by
      cases q : fa ρ M with
      | bad => simpa [tst, q] using o
      | exc _ _ => simpa [tst, q] using o
      | ok x m =>
        simp only [q, R.bind_ok] at o
        cases q2 : truth (peek m x) with
        | none => simp only [q2] at o; exact o.elim
        | some k =>
          have : tst (R.ok x m) = .ok k m := by simp [tst, q2]
          rw [this]
          cases k with
          | false => simpa [q2] using o
          | true => simpa [q2, this] using o
    refine Out.bind o fun k m v H1 β1 hk r1 g1 o1 => ?_
    cases hk
    cases k with
    | true => exact iteT (o1.val r1 rfl)
    | false => exact iteF ⟨ρ, m, β1, l.grow r g1, r1, o1⟩

/-! ### a if c else b -/
theorem isTrue_ife {Q : Bool → Hp → Prop} {tA tB tC' : TT} (hc : PT X c tC') (ha : PT X a tA) (hb : PT X b tB) : PT X (.IfExp c a b pos) (fun σ H Q => tC' σ H fun k H1 => if k = true then tA σ H1 Q else tB σ H1 Q) := by
  refine ⟨fun pins s σ H Q I h => ?_⟩
  show wpAny _ _ (isTrue c X.env (eval c X.env) >>= fun k => if k then isTrue a X.env (eval a X.env) else isTrue b X.env (eval b X.env)) _ _ _
  refine wpAny_bind (thn (hc.run pins s σ H _ I h) fun k s1 ⟨H1, I1, q1⟩ => ?_)
  cases k with
  | true => exact ha.run pins s1 σ H1 Q I1 q1
  | false => exact hb.run pins s1 σ H1 Q I1 q1
theorem se_ife (hc : SE T X W c fc) (ha : SE T X W a fa) (hb : SE T X W b fb) :
    SE T X W (.IfExp c a b pos) fun ρ m => (tst (fc ρ m)).bind fun t m => if t then fa ρ m else fb ρ m := by
  refine ⟨(pe_ifExp hc.pt ha.pe hb.pe).imp fun σ H Q ⟨ρ, M, β, l, r, o⟩ => ⟨ρ, M, β, l, r, ?_⟩, (isTrue_ife (Q := fun _ _ => True) hc.pt ha.pt hb.pt).imp fun σ H Q ⟨ρ, M, β, l, r, o⟩ => ⟨ρ, M, β, l, r, ?_⟩⟩
  · refine Out.bind o fun k m v H1 β1 hk r1 g1 o1 => ?_
    cases hk
    cases k with
    | true => exact iteT ⟨ρ, m, β1, l.grow r g1, r1, o1⟩
    | false => exact iteF ⟨ρ, m, β1, l.grow r g1, r1, o1⟩
  · have o : Out T (fun _ _ _ a v => a = v) M β H ((tst (fc ρ M)).bind fun t m => if t then tst (fa ρ m) else tst (fb ρ m)) Q (fun c d H' => W c d σ H') := by
      have e : tst ((tst (fc ρ M)).bind fun t m => if t then fa ρ m else fb ρ m) = (tst (fc ρ M)).bind fun t m => if t then tst (fa ρ m) else tst (fb ρ m) := by
        cases q : tst (fc ρ M) with
        | bad => rfl
        | exc _ _ => rfl
        | ok k m => cases k <;> rfl
      rw [← e]; exact o
    refine Out.bind o fun k m v H1 β1 hk r1 g1 o1 => ?_
    cases hk
    cases k with
    | true => exact iteT ⟨ρ, m, β1, l.grow r g1, r1, o1⟩
    | false => exact iteF ⟨ρ, m, β1, l.grow r g1, r1, o1⟩

/-! ### is None -/
theorem rep_isN {M : Mem} {β : Nat → Addr} {H : Hp} {d : D} {v : V} (h : Rep T M β H d v) : decide (v = .non) = isNon d := by
  cases d <;> simp only [Rep] at h
  case non => subst h; rfl
  case bl => subst h; rfl
  case int => subst h; rfl
  case str => subst h; rfl
  case tup => obtain ⟨a, _, e, _⟩ := h; subst e; rfl
  case lst => obtain ⟨a, _, e, _⟩ := h; subst e; rfl
  case cell => obtain ⟨e, _⟩ := h; subst e; rfl
  case exc => obtain ⟨a, _, e, _⟩ := h; subst e; rfl
  case scr => obtain ⟨a, _, e, _⟩ := h; subst e; rfl
theorem se_isN {j : Nat} {p : Pos} (ha : SE T X W a fa) : SE T X W (.Compare a [.Is] [.Constant .none j p] pos) fun ρ m => (fa ρ m).bind fun x m => .ok (.bl (isNon x)) m := by
  refine ⟨(pe_cmp (pc_isN ha.pe) rfl).imp fun σ H Q ⟨ρ, M, β, l, r, o⟩ => ⟨ρ, M, β, l, r, ?_⟩, (pt_cmp (pc_isN ha.pe) rfl).imp fun σ H Q h => ?_⟩
  · exact Out.bind o fun x m v H1 β1 hx r1 g1 o1 => by rw [rep_isN hx]; exact o1.val r1 rep_bl
  · have := test_of h (fun ρ m d m' e => by cases q : fa ρ m <;> simp [q] at e; exact ⟨_, e.1.symm⟩)
    obtain ⟨ρ, M, β, l, r, o⟩ := this
    exact ⟨ρ, M, β, l, r, Out.bind o fun x m v H1 β1 hx r1 g1 o1 => by rw [rep_isN hx]; exact o1.val r1 rep_bl⟩
theorem se_notN {j : Nat} {p : Pos} (ha : SE T X W a fa) : SE T X W (.Compare a [.IsNot] [.Constant .none j p] pos) fun ρ m => (fa ρ m).bind fun x m => .ok (.bl (!isNon x)) m := by
  refine ⟨(pe_cmp (pc_notN ha.pe) rfl).imp fun σ H Q ⟨ρ, M, β, l, r, o⟩ => ⟨ρ, M, β, l, r, ?_⟩, (pt_cmp (pc_notN ha.pe) rfl).imp fun σ H Q h => ?_⟩
  · exact Out.bind o fun x m v H1 β1 hx r1 g1 o1 => by rw [rep_isN hx]; exact o1.val r1 rep_bl
  · have := test_of h (fun ρ m d m' e => by cases q : fa ρ m <;> simp [q] at e; exact ⟨_, e.1.symm⟩)
    obtain ⟨ρ, M, β, l, r, o⟩ := this
    exact ⟨ρ, M, β, l, r, Out.bind o fun x m v H1 β1 hx r1 g1 o1 => by rw [rep_isN hx]; exact o1.val r1 rep_bl⟩

/-! ### -a -/
theorem se_neg (ha : SE T X W a fa) : SE T X W (.UnaryOp .USub a pos) fun ρ m => (fa ρ m).bind fun x m => match x with
    | .int i => .ok (.int (-i)) m
    | _ => .bad := by
  refine se_plain ((pe_un un_neg ha.pe).imp fun σ H Q ⟨ρ, M, β, l, r, o⟩ => ⟨ρ, M, β, l, r, ?_⟩) (fun _ => rfl)
  refine Out.bind o fun x m v H1 β1 hx r1 g1 o1 => ?_
  cases x <;> first | exact o1.elim | skip
  rename_i i
  exact ⟨i, by simpa [Rep] using hx, o1.val r1 rep_int⟩
end
end G48
set_option Elab.async false
set_option linter.all false
set_option maxRecDepth 100000
set_option maxHeartbeats 1000000
/-! G48: argument lists, displays, items, slices, built-ins of one argument. -/
namespace G48
open PySem PySem.Spec PyProof.Rows L2

def nst : Expr → Bool
  | .Starred _ _ => false
  | _ => true
theorem star_no {e : Expr} {es : List Expr} {env : PySem.Env} (h : nst e = true) : starEach (e :: es) env = (false, eval e env) :: starEach es env := by
  cases e <;> first | rfl | (simp [nst] at h)

section
variable (T : XT)
abbrev SA (X : Cx) (W : WX) (es : List Expr) (f : Env → Mem → R (List D)) : Prop := PA X es (rdA T W f)
/-- a new list with what f gives -/
def rdF (W : WX) (f : Env → Mem → R (List D)) : TE := fun σ H Q => rdA T W f σ H fun xs H' => ∀ p, H' p = none → Q (.ref p) (upd H' p (.lst xs))
end

section
variable {T : XT} {X : Cx} {W : WX} {pos : Pos} {a b c e : Expr} {es : List Expr} {fa fb fc f : Env → Mem → R D} {fs fl fh : Env → Mem → R (List D)}
theorem sa_nil : SA T X W [] fun _ m => .ok [] m := pa_nil.imp fun σ H Q ⟨ρ, M, β, l, r, o⟩ => o.val r Reps.nil
theorem sa_cons (he : SE T X W e f) (hr : SA T X W es fs) (hn : nst e = true) : SA T X W (e :: es) fun ρ m => (f ρ m).bind fun x m => (fs ρ m).bind fun xs m => .ok (x :: xs) m :=
  (pa_cons he.pe hr (star_no hn)).imp fun σ H Q ⟨ρ, M, β, l, r, o⟩ => ⟨ρ, M, β, l, r, Out.bind o fun x m v H1 β1 hx r1 g1 o1 => ⟨ρ, m, β1, l.grow r g1, r1, Out.bind o1 fun xs m2 vs H2 β2 hxs r2 g2 o2 =>
    o2.val r2 (Reps.cons (Rep.grow r1 g2 x v hx) hxs)⟩⟩
theorem sa_star {p : Pos} (he : SE T X W e f) (hr : SA T X W es fs) : SA T X W (.Starred e p :: es) fun ρ m => (f ρ m).bind fun x m => (R.of (seqD (peek m x)) m).bind fun ys m => (fs ρ m).bind fun xs m => .ok (ys ++ xs) m := by
  refine (StX.pa_star he.pe hr).imp fun σ H Q ⟨ρ, M, β, l, r, o⟩ => ⟨ρ, M, β, l, r, Out.bind o fun x m v H1 β1 hx r1 g1 o1 => ?_⟩
  cases q : seqD (peek m x) with
  | none => rw [q] at o1; exact o1.elim
  | some ys =>
    rw [q] at o1
    have s := Seen.peek r1 hx
    have go : ∀ zs, Reps T m β1 H1 ys zs → rdA T W fs σ H1 fun ws H2 => Q (zs ++ ws) H2 := fun zs hz => ⟨ρ, m, β1, l.grow r g1, r1, Out.bind o1 fun xs m2 vs H2 β2 hxs r2 g2 o2 => o2.val r2 (Reps.append (Reps.grow r1 g2 _ _ hz) hxs)⟩
    generalize peek m x = y at q s
    cases y <;> simp only [seqD, reduceCtorEq] at q
    · cases q
      obtain ⟨a, zs, e1, h1, hz⟩ := s.tup
      exact ⟨a, zs, e1, .inl (.of h1), go zs hz⟩
    · cases q
      obtain ⟨a, zs, e1, h1, hz⟩ := s.lst
      exact ⟨a, zs, e1, .inr (.of h1), go zs hz⟩

/-! ### displays -/
theorem se_tup {k : Nat} (h : SA T X W es fs) : SE T X W (.Tuple es k pos) fun ρ m => (fs ρ m).bind fun ds m => if ds.length ≤ BIG then .ok (.tup ds) m else .bad := by
  refine se_plain ((pe_tup h).imp fun σ H Q ⟨ρ, M, β, l, r, o⟩ => ⟨ρ, M, β, l, r, Out.bind o fun ds m xs H1 β1 hx r1 g1 o1 => ?_⟩) (fun _ => rfl)
  split at o1
  · rename_i hb
    refine ⟨by rw [← hx.length]; exact big_line hb, fun p hp => ?_⟩
    exact o1 _ _ _ (new_tup r1 hp hx) (r1.laid hp) (Grow.laid r1 hp)
  · exact o1.elim
theorem pf_lst (h : SA T X W es fs) : PE X (.List es pos) (rdF T W fun ρ m => (fs ρ m).bind fun ds m => if ds.length ≤ BIG then .ok ds m else .bad) := by
  refine (pe_lst h).imp fun σ H Q ⟨ρ, M, β, l, r, o⟩ => ⟨ρ, M, β, l, r, Out.bind o fun ds m xs H1 β1 hx r1 g1 o1 => ?_⟩
  split at o1
  · rename_i hb
    exact ⟨by rw [← hx.length]; exact big_line hb, fun p hp => o1.val r1 hx p hp⟩
  · exact o1.elim
/-- a new list, held fast -/
theorem fresh_lst (h : PE X e (rdF T W fs)) : PE X e (rdE T W fun ρ m => (fs ρ m).bind fun ds m => .ok (.lst ds) m) :=
  h.imp fun σ H Q ⟨ρ, M, β, l, r, o⟩ => ⟨ρ, M, β, l, r, Out.bind o fun ds m xs H1 β1 hx r1 g1 o1 => fun p hp => o1 _ _ _ (new_lst r1 hp hx) (r1.laid hp) (Grow.laid r1 hp)⟩
/-- a new list that may change -/
theorem fresh_cell (h : PE X e (rdF T W fs)) : PE X e (rdE T W fun ρ m => (fs ρ m).bind fun ds m => newCell ds m) :=
  h.imp fun σ H Q ⟨ρ, M, β, l, r, o⟩ => ⟨ρ, M, β, l, r, Out.bind o fun ds m xs H1 β1 hx r1 g1 o1 => fun p hp => by
    unfold newCell at o1
    split at o1
    · refine o1 _ _ (putB β1 m.length p) ?_ (Rl.celled r1 hp (by assumption) hx) (Grow.celled r1 hp)
      unfold Rep
      exact ⟨by rw [putB_same], by simp⟩
    · exact o1.elim⟩

/-! ### items -/
theorem pyIx_ixN (n : Nat) (i : Int) : pyIx n i = ixN n i := by
  unfold pyIx ixN
  split
  · rfl
  · have e : (n : Int) + i = i + n := by omega
    by_cases h : 0 ≤ (n : Int) + i
    · rw [if_pos h, if_pos (by omega), e]
    · rw [if_neg h, if_neg (by omega)]
theorem ix_ok {M : Mem} {β : Nat → Addr} {H : Hp} {ds : List D} {xs : List V} {i : Int} {z : D} (q : Reps T M β H ds xs) (h : ((pyIx ds.length i).bind fun k => ds[k]?) = some z) : ∃ v, atI xs i = some v ∧ Rep T M β H z v := by
  rw [pyIx_ixN, q.length] at h
  unfold atI
  cases e : ixN xs.length i with
  | none => rw [e] at h; cases h
  | some j =>
    rw [e] at h
    obtain ⟨v, e1, r⟩ := q.get h
    exact ⟨v, e1, r⟩
theorem se_ix (ha : SE T X W a fa) (hb : SE T X W b fb) (hp : PlainIx b) (he : ∀ whole, isTrue (.Subscript a b pos) X.env whole = (do let v ← whole; standAt (Expr.Subscript a b pos).pos; holding [v] (truthy v)) := by intro _; rfl) :
    SE T X W (.Subscript a b pos) fun ρ m => (fa ρ m).bind fun x m => (fb ρ m).bind fun y m => .of (ixD (peek m x) y) m := by
  refine se_plain ((pe_ix (ix_list.or ix_tup) ha.pe hb.pe hp).imp fun σ H Q h => two h fun x y m v w H2 β2 hx hy r2 o2 => ?_) he
  obtain ⟨z, e, o3⟩ := o2.of
  have s := Seen.peek r2 hx
  generalize peek m x = x' at e s
  cases x' <;> cases y <;> simp only [ixD, reduceCtorEq] at e
  · obtain ⟨p, xs, e1, h1, q⟩ := s.tup
    obtain ⟨v', e2, rv⟩ := ix_ok q e
    exact .inr ⟨p, xs, _, v', e1, by simpa [Rep] using hy, .of h1, e2, o3.val r2 rv⟩
  · obtain ⟨p, xs, e1, h1, q⟩ := s.lst
    obtain ⟨v', e2, rv⟩ := ix_ok q e
    exact .inl ⟨p, xs, _, v', e1, by simpa [Rep] using hy, .of h1, e2, o3.val r2 rv⟩

/-! ### slices -/
theorem cutIx_sIx (n d : Nat) (o : Option Int) : cutIx n d o = HT.sIx n d o := by
  cases o with
  | none => rfl
  | some i =>
    show (if 0 ≤ i then min i.toNat n else ((n : Int) + i).toNat) = (if i < 0 then (i + (n : Int)).toNat else min i.toNat n)
    by_cases h : 0 ≤ i
    · rw [if_pos h, if_neg (by omega)]
    · rw [if_neg h, if_pos (by omega), Int.add_comm]
theorem cut_ok {M : Mem} {β : Nat → Addr} {H : Hp} {ds : List D} {xs : List V} {lo hi : Option Int} (q : Reps T M β H ds xs) : Reps T M β H (cutL ds lo hi) (cutV xs lo hi) := by
  unfold cutL cutV
  rw [cutIx_sIx, cutIx_sIx, q.length, List.drop_take]
  exact (q.drop _).take _
theorem cutV_ints (ns : List Int) (lo hi : Option Int) : cutV (ns.map V.int) lo hi = (cutL ns lo hi).map V.int := by
  unfold cutL cutV
  rw [cutIx_sIx, cutIx_sIx, List.length_map, List.drop_take, List.map_take, List.map_drop]
theorem reps_ints {M : Mem} {β : Nat → Addr} {H : Hp} : ∀ ns : List Int, Reps T M β H (ns.map D.int) (ns.map V.int)
  | [] => Reps.nil
  | _ :: ns => Reps.cons rep_int (reps_ints ns)
section
variable (T)
abbrev rdO (W : WX) (f : Env → Mem → R (Option Int)) : L2.St → Hp → (Option Int → Hp → Prop) → Prop := rdG T (fun _ _ _ a v => a = v) W f
end
/-- an optional part of a slice beside a list of at most one expression -/
abbrev SO (T : XT) (X : Cx) (W : WX) (o : Option Expr) (f : Env → Mem → R (List D)) : Prop := PO X o (rdO T W fun ρ m => opt (f ρ m))
theorem so_none : SO T X W none fun _ m => .ok [] m := ⟨fun pins s σ H Q I ⟨ρ, M, β, l, r, o⟩ => po_none.run pins s σ H Q I (o.val r rfl)⟩
theorem so_some (h : SE T X W e f) : SO T X W (some e) fun ρ m => (f ρ m).bind fun x m => (R.ok [] m).bind fun xs m => .ok (x :: xs) m := by
  refine ⟨fun pins s σ H Q I hw => (po_some h.pe).run pins s σ H Q I ?_⟩
  obtain ⟨ρ, M, β, l, r, o⟩ := hw
  refine ⟨ρ, M, β, l, r, ?_⟩
  have o : Out T (fun _ _ _ a v => a = v) M β H ((f ρ M).bind fun x m => R.of (optE [x]) m) Q (fun c d H' => W c d σ H') := by
    cases q : f ρ M <;> simpa [q, opt] using o
  refine Out.bind o fun x m v H1 β1 hx r1 g1 o1 => ?_
  cases x <;> first | exact o1.elim | skip
  exact ⟨_, by simpa [Rep] using hx, o1.val r1 rfl⟩
theorem slice_core {α υ : Type} {Rp : RpT α υ} {fl fh : Env → Mem → R (Option Int)} {G : D → Option Int → Option Int → Mem → R α} {σ : L2.St} {H : Hp} {Q : υ → Hp → Prop} {P : V → Option Int → Option Int → Hp → Prop}
    (h : rdG T Rp W (fun ρ m => (fa ρ m).bind fun x m => (fl ρ m).bind fun l m => (fh ρ m).bind fun h m => G x l h m) σ H Q)
    (k : ∀ (x : D) (l u : Option Int) (m : Mem) (v : V) (H2 : Hp) (β : Nat → Addr), Rep T m β H2 x v → Rl T m β H2 → Out T Rp m β H2 (G x l u m) Q (fun c d H' => W c d σ H') → P v l u H2) :
    rdE T W fa σ H fun x H1 => rdO T W fl σ H1 fun l H2 => rdO T W fh σ H2 fun u H3 => P x l u H3 := by
  obtain ⟨ρ, M, β, l, r, o⟩ := h
  refine ⟨ρ, M, β, l, r, Out.bind o fun x m v H1 β1 hx r1 g1 o1 => ⟨ρ, m, β1, l.grow r g1, r1, Out.bind o1 fun a m2 a' H2 β2 ha r2 g2 o2 => ?_⟩⟩
  refine ⟨ρ, m2, β2, (l.grow r g1).grow r1 g2, r2, Out.bind o2 fun b m3 b' H3 β3 hb r3 g3 o3 => ?_⟩
  cases ha; cases hb
  exact k x a b m3 v H3 β3 (Rep.grow r2 g3 x v (Rep.grow r1 g2 x v hx)) r3 o3
theorem sl_scr : SlR X (fun x lo hi H Q => ∃ a o ns, x = .ref a ∧ H a = some (.frz o (.lst ns)) ∧ ∀ p, H p = none → Q (.ref p) (upd H p (.lst (cutV ns lo hi)))) :=
  fun pins s σ H x v vl vu lo hi sl Q I rx hs pl pu ⟨a, o, ns, e, h, q⟩ => sl_list pins s σ H x v vl vu lo hi sl Q I rx hs pl pu ⟨a, ns, e, .inl (.inr ⟨o, h⟩), q⟩
theorem se_slice {lo hi : Option Expr} {p2 : Pos} (ha : SE T X W a fa) (hl : SO T X W lo fl) (hh : SO T X W hi fh) :
    SE T X W (.Subscript a (.Slice lo hi none p2) pos) fun ρ m => (fa ρ m).bind fun x m => (opt (fl ρ m)).bind fun l m => (opt (fh ρ m)).bind fun h m => .of (sliceD (peek m x) l h) m := by
  refine se_plain ((pe_slice (sl_list.or (sl_tupA.or sl_scr)) ha.pe hl hh).imp fun σ H Q h => slice_core h fun x l u m v H2 β2 hx r2 o2 => ?_) (fun _ => rfl)
  obtain ⟨z, e, o3⟩ := o2.of
  have s := Seen.peek r2 hx
  generalize peek m x = x' at e s
  cases x' <;> simp only [sliceD, reduceCtorEq] at e
  · cases e
    obtain ⟨p, xs, e1, h1, q⟩ := s.tup
    refine .inr (.inl ⟨p, xs, e1, .of h1, fun hw => ?_, fun _ p hp => ?_⟩)
    · refine o3.val r2 (rep_tup (xs := xs) h1 ?_)
      have : cutV xs l u = xs := by
        unfold cutV
        rw [hw.1, hw.2, List.drop_zero, Nat.sub_zero, List.take_length]
      have c := cut_ok (lo := l) (hi := u) q
      rw [this] at c
      exact c
    · exact o3 _ _ _ (new_tup r2 hp (cut_ok q)) (r2.laid hp) (Grow.laid r2 hp)
  · cases e
    obtain ⟨p, xs, e1, h1, q⟩ := s.lst
    exact .inl ⟨p, xs, e1, .of h1, fun p hp => o3 _ _ _ (new_lst r2 hp (cut_ok q)) (r2.laid hp) (Grow.laid r2 hp)⟩
  · cases e
    obtain ⟨p, ob, e1, h1⟩ := s.scr
    exact .inr (.inr ⟨p, ob, _, e1, h1, fun p hp => o3 _ _ _ (new_lst r2 hp (by rw [cutV_ints]; exact reps_ints _)) (r2.laid hp) (Grow.laid r2 hp)⟩)
end
end G48
set_option Elab.async false
set_option linter.all false
set_option maxRecDepth 100000
set_option maxHeartbeats 1000000
/-! G48: built-ins of one argument. -/
namespace G48
open PySem PySem.Spec PyProof.Rows L2

theorem _root_.L2.CallR.imp {X : Cx} {f : Value} {r r' : List V → Hp → VK → Prop} (h : CallR X f r) (k : ∀ xs H Q, r' xs H Q → r xs H Q) : CallR X f r' :=
  fun pins s σ H xs us Q I rv hw => h pins s σ H xs us Q I rv (k _ _ _ hw)

/-- a built-in of one argument, by the small language's own -/
def rD1 (T : XT) (g : D → Option D) : List V → Hp → VK → Prop := fun xs H Q => ∃ M β d x, xs = [x] ∧ Rl T M β H ∧ Seen T M β H d x ∧
  match g d with
  | some z => ∀ v H', Rep T M β H' z v → Rl T M β H' → Grow M β H M β H' → Q v H'
  | none => False
section
variable {T : XT} {X : Cx} {W : WX} {pos p : Pos} {e : Expr} {f : Env → Mem → R D} {M : Mem} {β : Nat → Addr} {H : Hp}
theorem rD1_some {g : D → Option D} {xs : List V} {H : Hp} {Q : VK} (h : rD1 T g xs H Q) :
    ∃ M β d x z, xs = [x] ∧ Rl T M β H ∧ Seen T M β H d x ∧ g d = some z ∧ ∀ v H', Rep T M β H' z v → Rl T M β H' → Grow M β H M β H' → Q v H' := by
  obtain ⟨M, β, d, x, e, r, s, h⟩ := h
  cases q : g d with
  | none => rw [q] at h; exact h.elim
  | some z => rw [q] at h; exact ⟨M, β, d, x, z, e, r, s, q, h⟩

theorem intsD_map : ∀ {ds : List D} {ns : List Int}, intsD ds = some ns → ds = ns.map .int
  | [], ns, h => by simp [intsD] at h; subst h; rfl
  | .int i :: r, ns, h => by
    simp only [intsD, Option.map_eq_some_iff] at h
    obtain ⟨ms, h1, h2⟩ := h
    subst h2
    rw [intsD_map h1]; rfl
  | .non :: r, ns, h => by simp [intsD] at h
  | .bl _ :: r, ns, h => by simp [intsD] at h
  | .str _ :: r, ns, h => by simp [intsD] at h
  | .tup _ :: r, ns, h => by simp [intsD] at h
  | .lst _ :: r, ns, h => by simp [intsD] at h
  | .cell _ :: r, ns, h => by simp [intsD] at h
  | .exc _ _ :: r, ns, h => by simp [intsD] at h
  | .scr _ :: r, ns, h => by simp [intsD] at h
theorem boolsD_map : ∀ {ds : List D} {bs : List Bool}, boolsD ds = some bs → ds = bs.map .bl
  | [], ns, h => by simp [boolsD] at h; subst h; rfl
  | .bl i :: r, ns, h => by
    simp only [boolsD, Option.map_eq_some_iff] at h
    obtain ⟨ms, h1, h2⟩ := h
    subst h2
    rw [boolsD_map h1]; rfl
  | .non :: r, ns, h => by simp [boolsD] at h
  | .int _ :: r, ns, h => by simp [boolsD] at h
  | .str _ :: r, ns, h => by simp [boolsD] at h
  | .tup _ :: r, ns, h => by simp [boolsD] at h
  | .lst _ :: r, ns, h => by simp [boolsD] at h
  | .cell _ :: r, ns, h => by simp [boolsD] at h
  | .exc _ _ :: r, ns, h => by simp [boolsD] at h
  | .scr _ :: r, ns, h => by simp [boolsD] at h
theorem reps_ints_eq : ∀ {ns : List Int} {xs : List V}, Reps T M β H (ns.map D.int) xs → xs = ns.map V.int
  | [], xs, h => by unfold List.map Reps at h; exact h
  | n :: ns, xs, h => by
    rw [List.map_cons] at h
    unfold Reps at h
    obtain ⟨v, r, e, h1, h2⟩ := h
    have h1 : v = .int n := by simpa [Rep] using h1
    rw [e, h1, reps_ints_eq h2]; rfl
theorem reps_bls_eq : ∀ {ns : List Bool} {xs : List V}, Reps T M β H (ns.map D.bl) xs → xs = ns.map V.bl
  | [], xs, h => by unfold List.map Reps at h; exact h
  | n :: ns, xs, h => by
    rw [List.map_cons] at h
    unfold Reps at h
    obtain ⟨v, r, e, h1, h2⟩ := h
    have h1 : v = .bl n := by simpa [Rep] using h1
    rw [e, h1, reps_bls_eq h2]; rfl

theorem bd_len : CallR X (.builtin "len") (rD1 T (b1 .len)) := by
  refine call_len_seq.imp fun xs H Q h => ?_
  obtain ⟨M, β, d, x, z, e, r, s, q, k⟩ := rD1_some h
  cases d <;> simp only [b1, reduceCtorEq] at q
  · cases q
    obtain ⟨a, ys, e1, h1, q1⟩ := s.tup
    refine ⟨a, ys, by rw [e, e1], .inr (.of h1), k _ _ ?_ r Grow.refl⟩
    rw [q1.length]; exact rep_int
  · cases q
    obtain ⟨a, ys, e1, h1, q1⟩ := s.lst
    refine ⟨a, ys, by rw [e, e1], .inl (.of h1), k _ _ ?_ r Grow.refl⟩
    rw [q1.length]; exact rep_int
  · cases q
    obtain ⟨a, o, e1, h1⟩ := s.scr
    refine ⟨a, _, by rw [e, e1], .inl (.inl (.inr ⟨o, h1⟩)), k _ _ ?_ r Grow.refl⟩
    rw [List.length_map]; exact rep_int
theorem bd_abs : CallR X (.builtin "abs") (rD1 T (b1 .abs)) := by
  refine call_abs.imp fun xs H Q h => ?_
  obtain ⟨M, β, d, x, z, e, r, s, q, k⟩ := rD1_some h
  cases d <;> simp only [b1, reduceCtorEq] at q
  cases q
  exact ⟨_, by rw [e, s.int], k _ _ rep_int r Grow.refl⟩
theorem bd_int : CallR X (.type "int") (rD1 T (b1 .int)) := by
  refine call_int1.imp fun xs H Q h => ?_
  obtain ⟨M, β, d, x, z, e, r, s, q, k⟩ := rD1_some h
  cases d <;> simp only [b1, reduceCtorEq] at q
  · cases q
    exact .inr ⟨_, by rw [e, s.bl], k _ _ rep_int r Grow.refl⟩
  · cases q
    exact .inl ⟨_, by rw [e, s.int], k _ _ rep_int r Grow.refl⟩
/-- sum of a tuple of ints -/
theorem cr_sumT (hc : X.calm = true) : CallR X (.builtin "sum") (fun vs H Q => ∃ (a : Addr) (ns : List Int), vs = [V.ref a] ∧ SqT X.K H a (ns.map V.int) ∧ Q (.int ns.sum) H) := by
  intro pins s σ H vs us Q I r h
  obtain ⟨a, ns, rfl, hs, q⟩ := h
  obtain ⟨its, rv, ⟨o, ho, hcl, n, hd⟩, _⟩ := I.tuple hs
  rw [Vals.ref1 r]
  have hi := rv.ints
  obtain ⟨xs, e⟩ := hi.allInts.items
  have hn : numsOf (intItems xs).toList = ns := by rw [← e]; exact hi.numsOf
  rw [nums_intItems] at hn
  rw [e] at hd
  refine PySem.W.ktm_sumG (I.ok.hd hc) ⟨o, ho, hcl, n, hd⟩ fun h' tk t' hk => ?_
  have ek : preSum (numAt xs) xs.size = ns.sum := by rw [preSum_eq, List.take_of_length_le (by simp), hn]
  rw [ek]
  exact ⟨.int _, H, I.kept hk, ⟨_, rfl⟩, q⟩
theorem bd_sum (hc : X.calm = true) : CallR X (.builtin "sum") (rD1 T (b1 .sum)) := by
  refine ((cr_sum hc).or (cr_sumT hc)).imp fun xs H Q h => ?_
  obtain ⟨M, β, d, x, z, e, r, s, q, k⟩ := rD1_some h
  simp only [b1] at q
  cases d <;> simp only [seqD, Option.bind_some, Option.bind_none, Option.map_eq_some_iff, reduceCtorEq] at q
  · obtain ⟨ns, q1, q2⟩ := q
    subst q2
    have q1 := intsD_map q1
    subst q1
    obtain ⟨a, ys, e1, h1, q1⟩ := s.tup
    rw [reps_ints_eq q1] at h1
    exact .inr ⟨a, ns, by rw [e, e1], .of h1, k _ _ rep_int r Grow.refl⟩
  · obtain ⟨ns, q1, q2⟩ := q
    subst q2
    have q1 := intsD_map q1
    subst q1
    obtain ⟨a, ys, e1, h1, q1⟩ := s.lst
    rw [reps_ints_eq q1] at h1
    exact .inl ⟨a, ns, by rw [e, e1], .of h1, k _ _ rep_int r Grow.refl⟩
theorem bd_all (hc : X.calm = true) : CallR X (.builtin "all") (rD1 T (b1 .all)) := by
  refine (cr_all hc).imp fun xs H Q h => ?_
  obtain ⟨M, β, d, x, z, e, r, s, q, k⟩ := rD1_some h
  cases d <;> simp only [b1, Option.map_eq_some_iff, reduceCtorEq] at q
  obtain ⟨ns, q1, q2⟩ := q
  subst q2
  have q1 := boolsD_map q1
  subst q1
  obtain ⟨a, ys, e1, h1, q1⟩ := s.lst
  rw [reps_bls_eq q1] at h1
  exact ⟨a, ns, by rw [e, e1], .of h1, k _ _ rep_bl r Grow.refl⟩
theorem bd_any (hc : X.calm = true) : CallR X (.builtin "any") (rD1 T (b1 .any)) := by
  refine (cr_any hc).imp fun xs H Q h => ?_
  obtain ⟨M, β, d, x, z, e, r, s, q, k⟩ := rD1_some h
  cases d <;> simp only [b1, Option.map_eq_some_iff, reduceCtorEq] at q
  obtain ⟨ns, q1, q2⟩ := q
  subst q2
  have q1 := boolsD_map q1
  subst q1
  obtain ⟨a, ys, e1, h1, q1⟩ := s.lst
  rw [reps_bls_eq q1] at h1
  exact ⟨a, ns, by rw [e, e1], .of h1, k _ _ rep_bl r Grow.refl⟩
theorem bd_tuple : CallR X (.type "tuple") (rD1 T (b1 .tuple)) := by
  refine call_tuple_of.imp fun xs H Q h => ?_
  obtain ⟨M, β, d, x, z, e, r, s, q, k⟩ := rD1_some h
  simp only [b1] at q
  cases d <;> simp only [seqD, Option.map_some, Option.map_none, reduceCtorEq] at q
  · cases q
    obtain ⟨a, ys, e1, h1, q1⟩ := s.tup
    exact ⟨a, ys, by rw [e, e1], .inr ⟨.of h1, k _ _ (rep_tup h1 q1) r Grow.refl⟩⟩
  · cases q
    obtain ⟨a, ys, e1, h1, q1⟩ := s.lst
    exact ⟨a, ys, by rw [e, e1], .inl ⟨.of h1, fun l hl => k _ _ (new_tup r hl q1) (r.laid hl) (Grow.laid r hl)⟩⟩
theorem bd_list : CallR X (.type "list") (rD1 T (b1 .list)) := by
  refine call_list_of.imp fun xs H Q h => ?_
  obtain ⟨M, β, d, x, z, e, r, s, q, k⟩ := rD1_some h
  simp only [b1] at q
  cases d <;> simp only [seqD, Option.map_some, Option.map_none, reduceCtorEq] at q
  · cases q
    obtain ⟨a, ys, e1, h1, q1⟩ := s.tup
    exact ⟨a, ys, by rw [e, e1], .inr (.of h1), fun l hl => k _ _ (new_lst r hl q1) (r.laid hl) (Grow.laid r hl)⟩
  · cases q
    obtain ⟨a, ys, e1, h1, q1⟩ := s.lst
    exact ⟨a, ys, by rw [e, e1], .inl (.of h1), fun l hl => k _ _ (new_lst r hl q1) (r.laid hl) (Grow.laid r hl)⟩
theorem minI_is : ∀ (i : Int) (r : List Int) (m : Int), m ∈ i :: r → (∀ y ∈ i :: r, m ≤ y) → minI i r = m
  | i, [], m, h, _ => by simp at h; simp [minI, h]
  | i, b :: r, m, h, k => by
    unfold minI
    refine minI_is _ r m ?_ fun y hy => ?_
    · have h1 := k i (by simp)
      have h2 := k b (by simp)
      simp only [List.mem_cons] at h ⊢
      split <;> rcases h with h | h | h <;> first | (left; omega) | (right; exact h)
    · simp only [List.mem_cons] at hy
      rcases hy with hy | hy
      · subst hy; split
        · exact k b (by simp)
        · exact k i (by simp)
      · exact k y (by simp [hy])
theorem maxI_is : ∀ (i : Int) (r : List Int) (m : Int), m ∈ i :: r → (∀ y ∈ i :: r, y ≤ m) → maxI i r = m
  | i, [], m, h, _ => by simp at h; simp [maxI, h]
  | i, b :: r, m, h, k => by
    unfold maxI
    refine maxI_is _ r m ?_ fun y hy => ?_
    · have h1 := k i (by simp)
      have h2 := k b (by simp)
      simp only [List.mem_cons] at h ⊢
      split <;> rcases h with h | h | h <;> first | (left; omega) | (right; exact h)
    · simp only [List.mem_cons] at hy
      rcases hy with hy | hy
      · subst hy; split
        · exact k b (by simp)
        · exact k i (by simp)
      · exact k y (by simp [hy])
theorem minOf_is (i : Int) (r : List Int) : PySem.W.minOf i r = minI i r := by
  unfold PySem.W.minOf
  induction r generalizing i with
  | nil => rfl
  | cons b r ih =>
    rw [List.foldl_cons, ih]
    have e : (if PySem.W.DatumOrd.lt b i = true then b else i) = (if b < i then b else i) := by
      show (if decide (b < i) = true then b else i) = _
      simp
    rw [e]; rfl
theorem maxOf_is (i : Int) (r : List Int) : PySem.W.maxOf i r = maxI i r := by
  unfold PySem.W.maxOf
  induction r generalizing i with
  | nil => rfl
  | cons b r ih =>
    rw [List.foldl_cons, ih]
    have e : (if PySem.W.DatumOrd.lt i b = true then b else i) = (if b > i then b else i) := by
      show (if decide (i < b) = true then b else i) = _
      simp
    rw [e]; rfl
theorem holds_toInt {h : Heap} {v : Value} {n : Int} (H : PySem.W.Holds h v n) : ∃ t, v = .int n t := by
  obtain ⟨as, r⟩ := H
  cases r
  exact ⟨_, rfl⟩
def rMinT (K : PySem.W.Frag) : List V → Hp → VK → Prop := fun vs H Q => ∃ (a : Addr) (i : Int) (r : List Int), vs = [V.ref a] ∧ SqT K H a ((i :: r).map V.int) ∧ Q (.int (minI i r)) H
theorem cr_minT {k : Nat} (hc : X.calm = true) (hr : Room k X.A) : CallR X (.builtin "min") (rMinT X.K) := by
  intro pins s σ H vs us Q I r h
  obtain ⟨a, i, ns, rfl, hs, q⟩ := h
  obtain ⟨its, rv, hl, _⟩ := I.tuple hs
  rw [Vals.ref1 r]
  have hu := hr.un
  have is : IntsAre its.toArray.toList (i :: ns) := intsAre_of rv
  refine PySem.W.min_tuple_datum (α := Int) (I.ok.hd hc) hl (.of_ints is) (by show X.A.units + 1 + 0 < _; omega) fun j v h' tk _ hv hk => ?_
  obtain ⟨t, rfl⟩ := holds_toInt hv
  rw [minOf_is]
  exact ⟨.int _, H, I.kept hk, ⟨_, rfl⟩, q⟩
theorem bd_min {k : Nat} (hc : X.calm = true) (hr : Room k X.A) : CallR X (.builtin "min") (rD1 T (b1 .min)) := by
  refine ((cr_min hc).or (cr_minT hc hr)).imp fun xs H Q h => ?_
  obtain ⟨M, β, d, x, z, e, r, s, q, k⟩ := rD1_some h
  cases d <;> simp only [b1, Option.bind_eq_some_iff, reduceCtorEq] at q
  · obtain ⟨ns, q1, q2⟩ := q
    have q1 := intsD_map q1
    subst q1
    cases ns with
    | nil => simp [minL] at q2
    | cons i r' =>
      simp only [minL, Option.some.injEq] at q2
      subst q2
      obtain ⟨a, ys, e1, h1, q1⟩ := s.tup
      rw [reps_ints_eq q1] at h1
      exact .inr ⟨a, i, r', by rw [e, e1], .of h1, k _ _ rep_int r Grow.refl⟩
  · obtain ⟨ns, q1, q2⟩ := q
    have q1 := intsD_map q1
    subst q1
    cases ns with
    | nil => simp [minL] at q2
    | cons i r' =>
      simp only [minL, Option.some.injEq] at q2
      subst q2
      obtain ⟨a, ys, e1, h1, q1⟩ := s.lst
      rw [reps_ints_eq q1] at h1
      refine .inl ⟨a, i :: r', by rw [e, e1], .of h1, by simp, fun m hm hk => ?_⟩
      rw [← minI_is i r' m hm hk]
      exact k _ _ rep_int r Grow.refl
def rMaxT (K : PySem.W.Frag) : List V → Hp → VK → Prop := fun vs H Q => ∃ (a : Addr) (i : Int) (r : List Int), vs = [V.ref a] ∧ SqT K H a ((i :: r).map V.int) ∧ Q (.int (maxI i r)) H
theorem cr_maxT {k : Nat} (hc : X.calm = true) (hr : Room k X.A) : CallR X (.builtin "max") (rMaxT X.K) := by
  intro pins s σ H vs us Q I r h
  obtain ⟨a, i, ns, rfl, hs, q⟩ := h
  obtain ⟨its, rv, hl, _⟩ := I.tuple hs
  rw [Vals.ref1 r]
  have hu := hr.un
  have is : IntsAre its.toArray.toList (i :: ns) := intsAre_of rv
  refine PySem.W.max_tuple_datum (α := Int) (I.ok.hd hc) hl (.of_ints is) (by show X.A.units + 1 + 0 < _; omega) fun j v h' tk _ hv hk => ?_
  obtain ⟨t, rfl⟩ := holds_toInt hv
  rw [maxOf_is]
  exact ⟨.int _, H, I.kept hk, ⟨_, rfl⟩, q⟩
theorem bd_max {k : Nat} (hc : X.calm = true) (hr : Room k X.A) : CallR X (.builtin "max") (rD1 T (b1 .max)) := by
  refine ((cr_max hc).or (cr_maxT hc hr)).imp fun xs H Q h => ?_
  obtain ⟨M, β, d, x, z, e, r, s, q, k⟩ := rD1_some h
  cases d <;> simp only [b1, Option.bind_eq_some_iff, reduceCtorEq] at q
  · obtain ⟨ns, q1, q2⟩ := q
    have q1 := intsD_map q1
    subst q1
    cases ns with
    | nil => simp [maxL] at q2
    | cons i r' =>
      simp only [maxL, Option.some.injEq] at q2
      subst q2
      obtain ⟨a, ys, e1, h1, q1⟩ := s.tup
      rw [reps_ints_eq q1] at h1
      exact .inr ⟨a, i, r', by rw [e, e1], .of h1, k _ _ rep_int r Grow.refl⟩
  · obtain ⟨ns, q1, q2⟩ := q
    have q1 := intsD_map q1
    subst q1
    cases ns with
    | nil => simp [maxL] at q2
    | cons i r' =>
      simp only [maxL, Option.some.injEq] at q2
      subst q2
      obtain ⟨a, ys, e1, h1, q1⟩ := s.lst
      rw [reps_ints_eq q1] at h1
      refine .inl ⟨a, i :: r', by rw [e, e1], .of h1, by simp, fun m hm hk => ?_⟩
      rw [← maxI_is i r' m hm hk]
      exact k _ _ rep_int r Grow.refl
end
end G48
set_option Elab.async false
set_option linter.all false
set_option maxRecDepth 100000
set_option maxHeartbeats 1000000
/-! G48: where an expression stands; calls. -/
namespace G48
open PySem PySem.Spec PyProof.Rows L2

/-- a def of the text beside its function of the small language -/
structure FI where
  name : Str
  ps : List Str
  N : List Str
  sc : Scope
  body : List Stmt
  fn : Fn
/-- a call with keywords (or with defaults left out) -/
structure Pat where
  f : Nat
  np : Nat
  ks : List Str
  arr : List Ar

def constV : D → Option V
  | .non => some .non
  | .bl b => some (.bl b)
  | .int i => some (.int i)
  | .str x => some (.str x)
  | _ => none
def arrV : List Ar → List V → Option (List V)
  | [], _ => some []
  | .arg k :: r, vs => (vs[k]?).bind fun v => (arrV r vs).map (v :: ·)
  | .dft d :: r, vs => (constV d).bind fun v => (arrV r vs).map (v :: ·)
/-- how a pattern binds -/
def KB (K : PySem.W.Frag) (fd : FuncData) (ps : List Str) (p : Pat) : Prop :=
  ∀ (s : Shared) (us ws : List Value) (vs zs xs : List V), K.In s.heap → Vals vs us → Vals zs ws → vs.length = p.np → zs.length = p.ks.length → arrV p.arr (vs ++ zs) = some xs →
    ∃ rs, Vals xs rs ∧ BindsTo s fd ⟨us, p.ks.zip ws⟩ (ps.zip rs)

def blts : List Str := ["len", "abs", "int", "sum", "all", "any", "tuple", "list", "min", "max", "sorted", "range", "zip", "enumerate", "isinstance", "bool", "str", "set", "dict", "super", "ValueError", "LookupError"]

def FT (G : List FI) : List Fn := G.map (·.fn)
def spF (T : XT) (G : List FI) (wf n i : Nat) : Sp := fun vs H Q E => ∃ ds M β, Reps T M β H ds vs ∧ Rl T M β H ∧ Out T (Rep T) M β H (callF (FT G) wf n i ds M) Q E

structure Ctx (T : XT) (G : List FI) (ps : List Pat) (cs : List (Str × D)) (wf n : Nat) (X : Cx) (W : WX) : Prop where
  nd : X.N.Nodup
  calm : X.calm = true
  room : Room n X.A
  tk : Takes X W
  blt : ∀ x ∈ blts, X.mg x = none
  fns : ∀ i g, G[i]? = some g → ∃ f fd, X.mg g.name = some (.ref f) ∧ PySem.W.keepIn X.K (.ref f) = true ∧ FnOk X.prog X.w X.K X.mg X.base (CX X.prog X.w) n f fd g.ps (spF T G wf n i) ∧ Binds X.K fd g.ps [] ∧ ∀ p ∈ ps, p.f = i → KB X.K fd g.ps p
  cst : ∀ q ∈ cs, ∃ v u, X.mg q.1 = some u ∧ RelV v u ∧ ∀ M β H, Rep T M β H q.2 v
  xk : X.K = T.K
  xm : ∀ c x, (c, x) ∈ T.cls → X.mg x = some (.ref (T.ad x))

section
variable {T : XT} {G : List FI} {ps : List Pat} {cs : List (Str × D)} {wf n : Nat} {X : Cx} {W : WX} {pos p : Pos} {e a b : Expr} {es : List Expr} {f fa fb : Env → Mem → R D} {fs fk : Env → Mem → R (List D)} {g : FI} {i : Nat}

theorem backTo_any {pos : Pos} : ∀ l : List (Bool × Sem Value), (backTo pos l).any (·.1) = l.any (·.1)
  | [] => rfl
  | (s, t) :: r => by
    have := backTo_any (pos := pos) r
    unfold backTo at this ⊢
    simp only [List.map_cons, List.any_cons, this]
theorem star_any {env : PySem.Env} : ∀ es : List Expr, es.all nst = true → (starEach es env).any (·.1) = false
  | [], _ => rfl
  | e :: es, h => by
    simp only [List.all_cons, Bool.and_eq_true] at h
    rw [star_no h.1, List.any_cons, star_any es h.2]
    rfl
theorem plain_args {env : PySem.Env} {pos : Pos} {es : List Expr} (h : es.all nst = true) : (backTo pos (starEach es env)).any (·.1) = false := by rw [backTo_any, star_any es h]

/-- what a call of a function asks, from what the small language says -/
theorem sp_of {σ : L2.St} {H : Hp} {Q : VK} {E : XK} {M : Mem} {β : Nat → Addr} {ds : List D} {vs : List V} (q : Reps T M β H ds vs) (r : Rl T M β H) (o : Out T (Rep T) M β H (callF (FT G) wf n i ds M) Q E) : spF T G wf n i vs H Q E := ⟨ds, M, β, q, r, o⟩

theorem se_call (C : Ctx T G ps cs wf n X W) (hi : G[i]? = some g) (hg : Gl X g.name) (hd : (g.name == ("__debug__" : Str)) = false) (ha : SA T X W (e :: es) fs) (hn : (e :: es).all nst = true) :
    SE T X W (.Call (.Name g.name p) (e :: es) [] pos) fun ρ m => (fs ρ m).bind fun ds m => callF (FT G) wf n i ds m := by
  obtain ⟨f, fd, hm, hk, F, hb, _⟩ := C.fns i g hi
  have hn' : nst e = true ∧ es.all nst = true := by simpa using hn
  refine se_plain ((pe_callSD (E := WE W) (dvs := []) F C.room hg hm hk hb .nil (fun σ => passAt C.tk σ) ha hd (star_no hn'.1) (plain_args hn'.2)).imp fun σ H Q ⟨ρ, M, β, l, r, o⟩ => ⟨ρ, M, β, l, r, ?_⟩) (fun _ => rfl)
  refine Out.bind o fun ds m vs H1 β1 hx r1 g1 o1 => ?_
  rw [List.append_nil]
  exact ⟨ds, m, β1, hx, r1, o1⟩
theorem se_call0 (C : Ctx T G ps cs wf n X W) (hi : G[i]? = some g) (hg : Gl X g.name) (hd : (g.name == ("__debug__" : Str)) = false) :
    SE T X W (.Call (.Name g.name p) [] [] pos) fun ρ m => (R.ok [] m).bind fun ds m => callF (FT G) wf n i ds m := by
  obtain ⟨f, fd, hm, hk, F, hb, _⟩ := C.fns i g hi
  refine se_plain ⟨fun pins s σ H Q I ⟨ρ, M, β, l, r, o⟩ => ?_⟩ (fun _ => rfl)
  refine wpAny_Call_Name_kw (ld_glob I hg hm (PySem.W.callWith_K0 I.kIn hk ?_) hd)
  exact run_fnSD (E := WE W) (us := []) (vs := []) (dvs := []) F C.room hb .nil (passAt C.tk σ) I .nil ⟨[], M, β, Reps.nil, r, o⟩

/-! ### keywords -/
abbrev SK (T : XT) (X : Cx) (W : WX) (ks : List Keyword) (f : Env → Mem → R (List D)) : Prop := PK X ks (rdA T W f)
theorem sk_nil : SK T X W [] fun _ m => .ok [] m := ⟨fun pos pins s σ H Q I ⟨ρ, M, β, l, r, o⟩ => pk_nil.run pos pins s σ H Q I (o.val r Reps.nil)⟩
theorem sk_cons {ks : List Keyword} {nm : Option Str} {kp : Pos} (he : SE T X W e f) (hr : SK T X W ks fs) : SK T X W (⟨nm, e, kp⟩ :: ks) fun ρ m => (f ρ m).bind fun x m => (fs ρ m).bind fun xs m => .ok (x :: xs) m :=
  ⟨fun pos pins s σ H Q I ⟨ρ, M, β, l, r, o⟩ => (pk_cons he.pe hr).run pos pins s σ H Q I ⟨ρ, M, β, l, r, Out.bind o fun x m v H1 β1 hx r1 g1 o1 => ⟨ρ, m, β1, l.grow r g1, r1, Out.bind o1 fun xs m2 vs H2 β2 hxs r2 g2 o2 =>
    o2.val r2 (Reps.cons (Rep.grow r1 g2 x v hx) hxs)⟩⟩⟩
theorem arr_ok {M : Mem} {β : Nat → Addr} {H : Hp} : ∀ {arr : List Ar} {ds zs : List D} {vs : List V}, Reps T M β H ds vs → arrange arr ds = some zs → ∃ xs, arrV arr vs = some xs ∧ Reps T M β H zs xs
  | [], ds, zs, vs, q, h => by simp [arrange] at h; subst h; exact ⟨[], rfl, Reps.nil⟩
  | .arg k :: r, ds, zs, vs, q, h => by
    simp only [arrange, Option.bind_eq_some_iff, Option.map_eq_some_iff] at h
    obtain ⟨d, h1, ys, h2, h3⟩ := h
    subst h3
    obtain ⟨v, e1, rv⟩ := q.get h1
    obtain ⟨xs, e2, rx⟩ := arr_ok q h2
    exact ⟨v :: xs, by simp [arrV, e1, e2], Reps.cons rv rx⟩
  | .dft d :: r, ds, zs, vs, q, h => by
    simp only [arrange] at h
    split at h
    · rename_i hf
      simp only [Option.map_eq_some_iff] at h
      obtain ⟨ys, h2, h3⟩ := h
      subst h3
      obtain ⟨xs, e2, rx⟩ := arr_ok q h2
      obtain ⟨v, e1, rv⟩ : ∃ v, constV d = some v ∧ Rep T M β H d v := by
        cases d <;> simp [flatD] at hf
        · exact ⟨_, rfl, rep_non⟩
        · exact ⟨_, rfl, rep_bl⟩
        · exact ⟨_, rfl, rep_int⟩
        · exact ⟨_, rfl, rep_str⟩
      exact ⟨v :: xs, by simp [arrV, e1, e2], Reps.cons rv rx⟩
    · cases h
/-- the callee runs, its arguments put in order -/
theorem run_pat {fd : FuncData} {f : Addr} {q : Pat} {pins : List (Addr × Obj)} {σ : L2.St} {H : Hp} {s : Shared} {Q : VK} {us ws : List Value} {vs zs xs : List V} {gps : List Str}
    (F : FnOk X.prog X.w X.K X.mg X.base (CX X.prog X.w) n f fd gps (spF T G wf n i)) (hr : Room n X.A) (tk : Takes X W) (hb : KB X.K fd gps q) (I : Inv X pins σ H s) (rv : Vals vs us) (rz : Vals zs ws)
    (l1 : vs.length = q.np) (l2 : zs.length = q.ks.length) (hx : arrV q.arr (vs ++ zs) = some xs) (h : spF T G wf n i xs H Q (WE W σ)) :
    wpAny (model X.prog X.w) X.A (call (.ref f) us (q.ks.zip ws)) (EP X pins σ Q) X.xe s := by
  obtain ⟨rs, rr, bt⟩ := hb s us ws vs zs xs I.kIn rv rz l1 l2 hx
  refine wpAny_call (codeAny_mono (F.run X.A X.stack s H ⟨us, q.ks.zip ws⟩ rs xs Q (WE W σ) hr I.env0 bt rr h) fun r s' hq => ?_)
  rcases r with er | fl
  · exact passAt tk σ pins H s er s' I hq
  · cases fl <;> first | exact I.after hq | exact hq.elim
def kwName (ks : List Keyword) : List Str := ks.filterMap (·.arg)
theorem kw_all {env : PySem.Env} {pos : Pos} : ∀ {ks : List Keyword}, ks.all (·.arg.isSome) = true → (backToKw pos (keywordEach ks env)).all (·.1.isSome) = true ∧ (backToKw pos (keywordEach ks env)).any (·.1.isNone) = false ∧ (backToKw pos (keywordEach ks env)).filterMap (·.1) = kwName ks
  | [], _ => ⟨rfl, rfl, rfl⟩
  | ⟨nm, e, kp⟩ :: ks, h => by
    simp only [List.all_cons, Bool.and_eq_true] at h
    obtain ⟨h1, h2, h3⟩ := kw_all (env := env) (pos := pos) h.2
    obtain ⟨w, hw⟩ : ∃ w, nm = some w := Option.isSome_iff_exists.mp h.1
    subst hw
    unfold backToKw at h1 h2 h3 ⊢
    unfold kwName at h3 ⊢
    refine ⟨?_, ?_, ?_⟩
    · simp only [keywordEach, List.map_cons, List.all_cons, h1]; rfl
    · simp only [keywordEach, List.map_cons, List.any_cons, h2]; rfl
    · simp only [keywordEach, List.map_cons, List.filterMap_cons, h3]
theorem se_callK (C : Ctx T G ps cs wf n X W) {q : Pat} {ks : List Keyword} (hq : q ∈ ps) (hqf : q.f = i) (hi : G[i]? = some g) (hg : Gl X g.name) (hd : (g.name == ("__debug__" : Str)) = false) (ha : SA T X W (e :: es) fs) (hn : (e :: es).all nst = true)
    (hk : SK T X W ks fk) (hks : ks.all (·.arg.isSome) = true) (hkn : kwName ks = q.ks) (hlf : ∀ ρ m ds m', fs ρ m = .ok ds m' → ds.length = q.np) (hlk : ∀ ρ m ds m', fk ρ m = .ok ds m' → ds.length = q.ks.length) :
    SE T X W (.Call (.Name g.name p) (e :: es) ks pos) fun ρ m => (fs ρ m).bind fun ds m => (fk ρ m).bind fun es m => (R.of (arrange q.arr (ds ++ es)) m).bind fun ds m => callF (FT G) wf n i ds m := by
  obtain ⟨f, fd, hm, hkp, F, _, hb⟩ := C.fns i g hi
  have hb := hb q hq hqf
  obtain ⟨k1, k2, k3⟩ := kw_all (env := X.env) (pos := pos) hks
  refine se_plain ⟨fun pins s σ H Q I ⟨ρ, M, β, l, r, o⟩ => ?_⟩ (fun _ => rfl)
  have main : wpAny (model X.prog X.w) X.A (spliced (backTo pos (starEach (e :: es) X.env))) (fun us s1 => wpAny (model X.prog X.w) X.A (evalAll ((backToKw pos (keywordEach ks X.env)).map (·.2)))
      (fun ws s2 => X.K.In s2.heap ∧ wpAny (model X.prog X.w) X.A (call (.ref f) us (((backToKw pos (keywordEach ks X.env)).filterMap (·.1)).zip ws)) (EP X pins σ Q) X.xe s2) X.xe s1) X.xe s := by
    refine thn (ha.run pos pins s σ H (fun vs H1 => vs.length = q.np ∧ rdA T W fk σ H1 fun zs H2 => zs.length = q.ks.length ∧ ∃ xs, arrV q.arr (vs ++ zs) = some xs ∧ spF T G wf n i xs H2 Q (WE W σ)) I
      ⟨ρ, M, β, l, r, Out.bindE o fun ds m vs H1 β1 eq hx r1 g1 o1 => ⟨by rw [← hx.length]; exact hlf _ _ _ _ eq, ρ, m, β1, l.grow r g1, r1, Out.bindE o1 fun es m2 zs H2 β2 eq2 hz r2 g2 o2 => ?_⟩⟩) ?_
    · refine ⟨by rw [← hz.length]; exact hlk _ _ _ _ eq2, ?_⟩
      cases qa : arrange q.arr (ds ++ es) with
      | none => rw [qa] at o2; exact o2.elim
      | some ys =>
        rw [qa] at o2
        obtain ⟨xs, e1, rx⟩ := arr_ok ((Reps.grow r1 g2 _ _ hx).append hz) qa
        exact ⟨xs, e1, ys, m2, β2, rx, r2, o2⟩
    · intro us s1 ⟨vs, H1, I1, rv, l1, hw⟩
      refine thn (hk.run pos pins s1 σ H1 _ I1 hw) fun ws s2 ⟨zs, H2, I2, rz, l2, xs, hx, hsp⟩ => ⟨I2.kIn, ?_⟩
      rw [k3, hkn]
      exact run_pat F C.room C.tk hb I2 rv rz l1 l2 hx hsp
  refine wpAny_Call_Name_kw (ld_glob I hg hm ?_ hd)
  have pl : ((backTo pos (starEach (e :: es) X.env)).any (·.1) || (backToKw pos (keywordEach ks X.env)).any (·.1.isNone)) = false := by rw [plain_args hn, k2]; rfl
  have hn' : nst e = true ∧ es.all nst = true := by simpa using hn
  exact PySem.W.callWith_KW (h₀ := X.base) I.ok.mod.kin hkp k1 main pl (star_no hn'.1)
theorem se_callK0 (C : Ctx T G ps cs wf n X W) {q : Pat} {ks : List Keyword} (hq : q ∈ ps) (hqf : q.f = i) (hi : G[i]? = some g) (hg : Gl X g.name) (hd : (g.name == ("__debug__" : Str)) = false) (hq0 : q.np = 0)
    (hk : SK T X W ks fk) (hks : ks.all (·.arg.isSome) = true) (hkn : kwName ks = q.ks) (hlk : ∀ ρ m ds m', fk ρ m = .ok ds m' → ds.length = q.ks.length) :
    SE T X W (.Call (.Name g.name p) [] ks pos) fun ρ m => (fk ρ m).bind fun es m => (R.of (arrange q.arr es) m).bind fun ds m => callF (FT G) wf n i ds m := by
  obtain ⟨f, fd, hm, hkp, F, _, hb⟩ := C.fns i g hi
  have hb := hb q hq hqf
  obtain ⟨k1, k2, k3⟩ := kw_all (env := X.env) (pos := pos) hks
  refine se_plain ⟨fun pins s σ H Q I ⟨ρ, M, β, l, r, o⟩ => ?_⟩ (fun _ => rfl)
  refine wpAny_Call_Name_kw (ld_glob I hg hm (PySem.W.callWith_KW0 (h₀ := X.base) I.ok.mod.kin hkp k1 ?_ (by rw [k2]; rfl)) hd)
  refine thn (hk.run pos pins s σ H (fun zs H2 => zs.length = q.ks.length ∧ ∃ xs, arrV q.arr zs = some xs ∧ spF T G wf n i xs H2 Q (WE W σ)) I ⟨ρ, M, β, l, r, Out.bindE o fun es m2 zs H2 β2 eq2 hz r2 g2 o2 => ?_⟩) ?_
  · refine ⟨by rw [← hz.length]; exact hlk _ _ _ _ eq2, ?_⟩
    cases qa : arrange q.arr es with
    | none => rw [qa] at o2; exact o2.elim
    | some ys =>
      rw [qa] at o2
      obtain ⟨xs, e1, rx⟩ := arr_ok hz qa
      exact ⟨xs, e1, ys, m2, β2, rx, r2, o2⟩
  · intro ws s2 ⟨zs, H2, I2, rz, l2, xs, hx, hsp⟩
    refine ⟨I2.kIn, ?_⟩
    rw [k3, hkn]
    exact run_pat (vs := []) F C.room C.tk hb I2 .nil rz (by rw [hq0]; rfl) l2 hx hsp

/-! ### built-ins by name -/
theorem se_bltn {id : String} {x : Str} {d : D → Option D} (C : Ctx T G ps cs wf n X W) (hc : CallR X (.builtin id) (rD1 T d)) (hx : x ∈ blts) (hg : Gl X x) (hv : bootBuiltins x = some (.builtin id)) (h1 : x ≠ "__name__") (h2 : (x == ("__debug__" : Str)) = false)
    (he : SE T X W e f) (hn : nst e = true) : SE T X W (.Call (.Name x p) [e] [] pos) fun ρ m => (f ρ m).bind fun y m => .of (d (peek m y)) m := by
  refine se_plain ((pe_callB hc hg (C.blt x hx) hv (pa_cons he.pe pa_nil (star_no hn)) h1 h2 (star_no hn)).imp fun σ H Q ⟨ρ, M, β, l, r, o⟩ => ⟨ρ, M, β, l, r, ?_⟩) (fun _ => rfl)
  refine Out.bind o fun y m v H1 β1 hy r1 g1 o1 => ⟨m, β1, _, v, rfl, r1, Seen.peek r1 hy, ?_⟩
  cases q : d (peek m y) with
  | none => rw [q] at o1; exact o1
  | some z => rw [q] at o1; exact fun v H' hv rl g => o1 v H' β1 hv rl g
theorem se_bltT {id : String} {x : Str} {d : D → Option D} (C : Ctx T G ps cs wf n X W) (hc : CallR X (.type id) (rD1 T d)) (hx : x ∈ blts) (hg : Gl X x) (hv : bootBuiltins x = some (.type id)) (h1 : x ≠ "__name__") (h2 : (x == ("__debug__" : Str)) = false)
    (he : SE T X W e f) (hn : nst e = true) : SE T X W (.Call (.Name x p) [e] [] pos) fun ρ m => (f ρ m).bind fun y m => .of (d (peek m y)) m := by
  refine se_plain ((pe_callTy hc hg (C.blt x hx) hv (pa_cons he.pe pa_nil (star_no hn)) h1 h2 (star_no hn)).imp fun σ H Q ⟨ρ, M, β, l, r, o⟩ => ⟨ρ, M, β, l, r, ?_⟩) (fun _ => rfl)
  refine Out.bind o fun y m v H1 β1 hy r1 g1 o1 => ⟨m, β1, _, v, rfl, r1, Seen.peek r1 hy, ?_⟩
  cases q : d (peek m y) with
  | none => rw [q] at o1; exact o1
  | some z => rw [q] at o1; exact fun v H' hv rl g => o1 v H' β1 hv rl g
/-- list(x): a new list -/
theorem pf_list (C : Ctx T G ps cs wf n X W) (hg : Gl X "list") (he : SE T X W e f) (hn : nst e = true) :
    PE X (.Call (.Name "list" p) [e] [] pos) (rdF T W fun ρ m => (f ρ m).bind fun y m => .of (seqD (peek m y)) m) := by
  refine (pe_callTy call_list_of hg (C.blt "list" (by decide +kernel)) (by decide +kernel) (pa_cons he.pe pa_nil (star_no hn)) (by decide) (by decide) (star_no hn)).imp fun σ H Q ⟨ρ, M, β, l, r, o⟩ => ⟨ρ, M, β, l, r, ?_⟩
  refine Out.bind o fun y m v H1 β1 hy r1 g1 o1 => ?_
  have s := Seen.peek r1 hy
  obtain ⟨z, e1, o2⟩ := o1.of
  generalize peek m y = y' at e1 s
  cases y' <;> simp only [seqD, reduceCtorEq] at e1
  · cases e1
    obtain ⟨a, ys, e2, h1, q1⟩ := s.tup
    exact ⟨a, ys, by rw [e2], .inr (.of h1), o2.val r1 q1⟩
  · cases e1
    obtain ⟨a, ys, e2, h1, q1⟩ := s.lst
    exact ⟨a, ys, by rw [e2], .inl (.of h1), o2.val r1 q1⟩
theorem se_min2 (C : Ctx T G ps cs wf n X W) (hg : Gl X "min") (ha : SE T X W a fa) (hb : SE T X W b fb) (hn : nst a = true ∧ nst b = true) :
    SE T X W (.Call (.Name "min" p) [a, b] [] pos) fun ρ m => (fa ρ m).bind fun x m => (fb ρ m).bind fun y m => match x, y with
      | .int i, .int j => .ok (.int (if j < i then j else i)) m
      | _, _ => .bad := by
  refine se_plain ((pe_callB (call_min2 C.calm) hg (C.blt "min" (by decide +kernel)) (by decide +kernel) (pa_cons ha.pe (pa_cons hb.pe pa_nil (star_no hn.2)) (star_no hn.1)) (by decide) (by decide) (star_no hn.1) (plain_args (by simp [hn.2]))).imp
    fun σ H Q h => two h fun x y m v w H2 β2 hx hy r2 o2 => ?_) (fun _ => rfl)
  cases x <;> cases y <;> first | exact o2.elim | skip
  exact ⟨_, _, by rw [show v = _ by simpa [Rep] using hx, show w = _ by simpa [Rep] using hy], o2.val r2 rep_int⟩
theorem se_max2 (C : Ctx T G ps cs wf n X W) (hg : Gl X "max") (ha : SE T X W a fa) (hb : SE T X W b fb) (hn : nst a = true ∧ nst b = true) :
    SE T X W (.Call (.Name "max" p) [a, b] [] pos) fun ρ m => (fa ρ m).bind fun x m => (fb ρ m).bind fun y m => match x, y with
      | .int i, .int j => .ok (.int (if j > i then j else i)) m
      | _, _ => .bad := by
  refine se_plain ((pe_callB (call_max2 C.calm) hg (C.blt "max" (by decide +kernel)) (by decide +kernel) (pa_cons ha.pe (pa_cons hb.pe pa_nil (star_no hn.2)) (star_no hn.1)) (by decide) (by decide) (star_no hn.1) (plain_args (by simp [hn.2]))).imp
    fun σ H Q h => two h fun x y m v w H2 β2 hx hy r2 o2 => ?_) (fun _ => rfl)
  cases x <;> cases y <;> first | exact o2.elim | skip
  exact ⟨_, _, by rw [show v = _ by simpa [Rep] using hx, show w = _ by simpa [Rep] using hy], o2.val r2 rep_int⟩
end
end G48
set_option Elab.async false
set_option linter.all false
set_option maxRecDepth 100000
set_option maxHeartbeats 1000000
/-! G48: isinstance. -/
namespace G48
open PySem PySem.Spec PyProof.Rows L2

def tyName : Ty → String
  | .int => "int"
  | .bool => "bool"
  | .str => "str"
  | .list => "list"
  | .tuple => "tuple"
  | .cls _ => "object"
  | .valErr => "ValueError"
  | .lookErr => "LookupError"
def tyOf : D → String
  | .non => "NoneType"
  | .bl _ => "bool"
  | .int _ => "int"
  | .str _ => "str"
  | .tup _ => "tuple"
  | .lst _ => "list"
  | .cell _ => "list"
  | .scr _ => "list"
  | .exc _ _ => "object"
theorem kit_all : (["NoneType", "bool", "int", "str", "tuple", "list"].all fun a => ["int", "bool", "str", "list", "tuple"].all fun b => kitB a b == some (a == b || (a == "bool" && b == "int"))) = true := by decide +kernel
theorem kit_one {K : PySem.W.Frag} {d : D} {t : Ty} (hd : ∀ c vs, d ≠ .exc c vs) (ht : t.plain = true) : PySem.W.kitOne K (.type (tyOf d)) (.type (tyName t)) = some (isT d t) := by
  refine kit_ty ?_
  have h := kit_all
  simp only [List.all_cons, List.all_nil, Bool.and_true, Bool.and_eq_true, beq_iff_eq] at h
  obtain ⟨⟨h11, h12, h13, h14, h15⟩, ⟨h21, h22, h23, h24, h25⟩, ⟨h31, h32, h33, h34, h35⟩, ⟨h41, h42, h43, h44, h45⟩, ⟨h51, h52, h53, h54, h55⟩, ⟨h61, h62, h63, h64, h65⟩⟩ := h
  cases d <;> cases t <;> first | (cases ht; done) | (exact absurd rfl (hd _ _)) | (simp only [tyOf, tyName, isT]; first | assumption | (simp_all; done))

section
variable {T : XT} {G : List FI} {ps : List Pat} {cs : List (Str × D)} {wf n : Nat} {X : Cx} {W : WX} {pos p q : Pos} {a : Expr} {fa : Env → Mem → R D} {M : Mem} {β : Nat → Addr} {H : Hp}
theorem tyX_of {K : PySem.W.Frag} {d : D} {v : V} (h : Seen T M β H d v) (hd : ∀ c vs, d ≠ .exc c vs) (ha : ∀ k, d ≠ .cell k) : TyX K H v (.type (tyOf d)) := by
  cases d
  case non => rw [h.non]; exact .base .non
  case bl => rw [h.bl]; exact .base (.bl _)
  case int => rw [h.int]; exact .base (.int _)
  case str => rw [h.str]; exact .base (.str _)
  case tup => obtain ⟨a, xs, e, h1, _⟩ := h.tup; subst e; exact .base (.tup h1)
  case lst => obtain ⟨a, xs, e, h1, _⟩ := h.lst; subst e; exact .base (.lst h1)
  case cell => exact absurd rfl (ha _)
  case exc => exact absurd rfl (hd _ _)
  case scr => obtain ⟨a, o, e, h1⟩ := h.scr; subst e; exact .base (.frz h1)
theorem isinD_some {d z : D} {ts : List Ty} (hp : ts.all Ty.plain = true) (h : isinD d ts = some z) : (∀ c vs, d ≠ .exc c vs) ∧ (∀ k, d ≠ .cell k) ∧ ts.all Ty.plain = true ∧ z = .bl (ts.any (isT d)) := by
  cases d
  case exc c vs =>
    exfalso
    cases ts with
    | nil => simp [isinD] at h
    | cons t ts =>
      simp only [List.all_cons, Bool.and_eq_true] at hp
      have : Ty.exc t = false := by cases t <;> first | rfl | (cases hp.1)
      simp [isinD, this] at h
  all_goals
    simp only [isinD, reduceCtorEq] at h <;> (split at h <;> cases h) <;> exact ⟨(by intros; simp), (by intros; simp), (by assumption), rfl⟩
theorem boot_ty {t : Ty} (h : t.plain = true) : bootBuiltins (tyName t) = some (.type (tyName t)) ∧ (tyName t : Str) ∈ blts ∧ (tyName t : Str) ≠ "__name__" ∧ ((tyName t : Str) == ("__debug__" : Str)) = false := by
  cases t <;> first | (cases h; done) | (refine ⟨?_, ?_, ?_, ?_⟩ <;> decide +kernel)
theorem pe_ty (C : Ctx T G ps cs wf n X W) {t : Ty} (ht : t.plain = true) (hg : Gl X (tyName t)) : PE X (.Name (tyName t) q) (tC (.ty (tyName t))) := by
  obtain ⟨h1, h2, h3, h4⟩ := boot_ty ht
  exact pe_bltn hg (C.blt _ h2) h1 rfl h3 h4
theorem isi_val {e : Expr} {f : Env → Mem → R D} (h : PE X e (rdE T W f)) (he : ∀ whole, isTrue e X.env whole = (do let v ← whole; standAt e.pos; holding [v] (truthy v)) := by intro _; rfl) : SE T X W e f := se_plain h he
theorem se_isin1 (C : Ctx T G ps cs wf n X W) {t : Ty} (ht : t.plain = true) (hg : Gl X "isinstance") (hgt : Gl X (tyName t)) (ha : SE T X W a fa) (hn : nst a = true) :
    SE T X W (.Call (.Name "isinstance" p) [a, .Name (tyName t) q] [] pos) fun ρ m => (fa ρ m).bind fun x m => .of (isinD (peek m x) [t]) m := by
  refine se_plain ((pe_callB call_isi hg (C.blt "isinstance" (by decide +kernel)) (by decide +kernel) (pa_cons ha.pe (pa_cons (pe_ty C ht hgt) pa_nil (star_no rfl)) (star_no hn)) (by decide) (by decide) (star_no hn) (plain_args rfl)).imp
    fun σ H Q ⟨ρ, M, β, l, r, o⟩ => ⟨ρ, M, β, l, r, Out.bind o fun x m v H1 β1 hx r1 g1 o1 => ?_⟩) (fun _ => rfl)
  obtain ⟨z, e, o2⟩ := o1.of
  obtain ⟨h1, h2, h3, h4⟩ := isinD_some (by simp [ht]) e
  subst h4
  refine ⟨v, _, _, _, _, rfl, .ty _, tyX_of (Seen.peek r1 hx) h1 h2, kit_one h1 ht, ?_⟩
  have : [t].any (isT (peek m x)) = isT (peek m x) t := by simp
  rw [this] at o2
  exact o2.val r1 rep_bl
/-- a tuple of classes -/
def tyNames : List Ty → List Pos → List Expr
  | t :: ts, q :: qs => .Name (tyName t) q :: tyNames ts qs
  | _, _ => []
theorem pa_tys (C : Ctx T G ps cs wf n X W) : ∀ (ts : List Ty) (qs : List Pos), ts.length = qs.length → ts.all Ty.plain = true → (∀ t ∈ ts, Gl X (tyName t)) → PA X (tyNames ts qs) (fun _ H Q => Q (ts.map fun t => V.ty (tyName t)) H)
  | [], [], _, _, _ => pa_nil
  | t :: ts, q :: qs, hl, hp, hg => by
    simp only [List.all_cons, Bool.and_eq_true] at hp
    exact (pa_cons (pe_ty C hp.1 (hg t (by simp))) (pa_tys C ts qs (by simpa using hl) hp.2 fun u hu => hg u (by simp [hu])) (star_no rfl)).imp fun σ H Q h => h
theorem kit_any {K : PySem.W.Frag} {d : D} (hd : ∀ c vs, d ≠ .exc c vs) : ∀ ts : List Ty, ts.all Ty.plain = true → PySem.W.kitAny K (.type (tyOf d)) (ts.map fun t => Value.type (tyName t)) = some (ts.any (isT d))
  | [], _ => kitAny_nil
  | t :: ts, h => by
    simp only [List.all_cons, Bool.and_eq_true] at h
    refine kitAny_cons (kit_one hd h.1) (fun e => ?_) fun e => ?_
    · rw [List.any_cons, e, Bool.false_or]; exact kit_any hd ts h.2
    · rw [List.any_cons, e, Bool.true_or]
theorem paired_tys : ∀ ts : List Ty, Paired ClsV (ts.map fun t => V.ty (tyName t)) (ts.map fun t => Value.type (tyName t))
  | [] => .nil
  | t :: ts => .cons (.ty _) (paired_tys ts)
theorem se_isinT (C : Ctx T G ps cs wf n X W) {ts : List Ty} {qs : List Pos} {k : Nat} (hl : ts.length = qs.length) (hs : ts.length ≤ 1000) (ht : ts.all Ty.plain = true) (hg : Gl X "isinstance") (hgt : ∀ t ∈ ts, Gl X (tyName t)) (ha : SE T X W a fa) (hn : nst a = true) :
    SE T X W (.Call (.Name "isinstance" p) [a, .Tuple (tyNames ts qs) k q] [] pos) fun ρ m => (fa ρ m).bind fun x m => .of (isinD (peek m x) ts) m := by
  refine se_plain ((pe_callB call_isiT hg (C.blt "isinstance" (by decide +kernel)) (by decide +kernel) (pa_cons ha.pe (pa_cons (pe_tup (pa_tys C ts qs hl ht hgt)) pa_nil (star_no rfl)) (star_no hn)) (by decide) (by decide) (star_no hn) (plain_args rfl)).imp
    fun σ H Q ⟨ρ, M, β, l, r, o⟩ => ⟨ρ, M, β, l, r, Out.bind o fun x m v H1 β1 hx r1 g1 o1 => ?_⟩) (fun _ => rfl)
  refine ⟨by rw [List.length_map]; exact Nat.le_of_lt (small1000 hs), fun tp htp => ?_⟩
  have gr : Grow m β1 H1 m β1 (upd H1 tp (.tup (ts.map fun t => V.ty (tyName t)))) := Grow.laid r1 htp
  have o2 := Out.step gr o1
  obtain ⟨z, e, o3⟩ := o2.of
  obtain ⟨h1, h2, h3, h4⟩ := isinD_some ht e
  subst h4
  refine ⟨v, tp, _, _, _, _, rfl, upd_same, paired_tys ts, tyX_of (Seen.peek (r1.laid htp) (Rep.grow r1 gr _ _ hx)) h1 h2, kit_any h1 ts ht, ?_⟩
  exact o3.val (r1.laid htp) rep_bl
end
end G48
set_option Elab.async false
set_option linter.all false
set_option maxRecDepth 100000
set_option maxHeartbeats 1000000
/-! G48: zip of any number of lists and tuples. -/
namespace G48
open PySem PySem.Spec PyProof.Rows L2

/-- an iterator over a list (l) or a tuple -/
structure Cm where
  it : Addr
  src : Addr
  l : Bool
def ItAt (h : Heap) (c : Cm) (i : Nat) : Prop := if c.l = true then h.IsListIter c.it c.src i else h.IsTupleIter c.it c.src i
def SrcAt (h : Heap) (c : Cm) (xs : Array Value) : Prop := if c.l = true then h.IsList c.src xs else h.IsTuple c.src xs

section
variable {prog : Program} {w : World} {A : Around} {E : Value → Shared → Prop} {s : Shared} {h h' : Heap}
theorem ItAt.at {c : Cm} {i : Nat} (t : ItAt h c i) (k : ∀ o, h.get? c.it = some o → h'.get? c.it = some o) : ItAt h' c i := by
  unfold ItAt at t ⊢
  split
  · next e => rw [if_pos e] at t; exact Heap.IsListIter.at t k
  · next e => rw [if_neg e] at t; exact Heap.IsTupleIter.at t k
theorem SrcAt.at {c : Cm} {xs : Array Value} (t : SrcAt h c xs) (k : ∀ o, h.get? c.src = some o → h'.get? c.src = some o) : SrcAt h' c xs := by
  unfold SrcAt at t ⊢
  split
  · next e => rw [if_pos e] at t; exact Heap.IsList.at t k
  · next e => rw [if_neg e] at t; exact Heap.IsTuple.at t k
theorem ItAt.lt {c : Cm} {i : Nat} (t : ItAt h c i) : c.it < h.objs.size := by
  unfold ItAt at t
  split at t
  · obtain ⟨o, e, _⟩ := t; exact Heap.lt_size e
  · obtain ⟨o, e, _⟩ := t; exact Heap.lt_size e
theorem ItAt.obj {c : Cm} {i : Nat} (t : ItAt h c i) : ∃ o, h.get? c.it = some o ∧ ∀ v, o.data ≠ .cell v := by
  unfold ItAt at t
  split at t
  · obtain ⟨o, e, _, d⟩ := t; exact ⟨o, e, fun v z => by rw [d] at z; cases z⟩
  · obtain ⟨o, e, _, d⟩ := t; exact ⟨o, e, fun v z => by rw [d] at z; cases z⟩
theorem next_item {c : Cm} {i : Nat} {xs : Array Value} {x : Value} {Q : Value → Shared → Prop} (t : ItAt s.heap c i) (sr : SrcAt s.heap c xs) (hx : xs[i]? = some x)
    (hQ : ∀ h', ItAt h' c (i + 1) → Heap.SameBut c.it s.heap h' → Q x { s with heap := h' }) : wpAny (model prog w) A (Builtin.SmallTypes.nextOf (.ref c.it)) Q E s := by
  unfold ItAt at t hQ
  unfold SrcAt at sr
  by_cases e : c.l = true
  · rw [if_pos e] at t sr
    exact wpAny_nextOf_list_item t sr hx fun h' a b => hQ h' (by rw [if_pos e]; exact a) b
  · rw [if_neg e] at t sr
    exact RZ.nextOf_tuple_item t sr hx fun h' a b => hQ h' (by rw [if_neg e]; exact a) b
theorem next_end {c : Cm} {i : Nat} {xs : Array Value} {Q : Value → Shared → Prop} (hh : A.handled = none) (t : ItAt s.heap c i) (sr : SrcAt s.heap c xs) (hx : xs[i]? = none)
    (hE : ∀ h' e, Heap.ExtBut c.it s.heap h' → (∃ o, h'.get? e = some o ∧ o.cls = .type "StopIteration") → E (.ref e) { s with heap := h' }) : wpAny (model prog w) A (Builtin.SmallTypes.nextOf (.ref c.it)) Q E s := by
  unfold ItAt at t
  unfold SrcAt at sr
  by_cases e : c.l = true
  · rw [if_pos e] at t sr
    exact wpAny_nextOf_list_end hh t sr hx hE
  · rw [if_neg e] at t sr
    exact RZ.nextOf_tuple_end hh t sr hx hE
/-- a loop over a list, by what holds at each rest -/
theorem forIn_by {α β : Type} {f : α → β → Sem (ForInStep β)} (P : List α → β → Shared → Prop) {Q : β → Shared → Prop}
    (step : ∀ x rest b s, P (x :: rest) b s → wpAny (model prog w) A (f x b) (fun r s' => ∃ b', r = .yield b' ∧ P rest b' s') E s) (last : ∀ b s, P [] b s → Q b s) :
    ∀ (l : List α) (b : β) (s : Shared), P l b s → wpAny (model prog w) A (forIn l b f) Q E s
  | [], b, s, h => by
    rw [List.forIn_nil]; exact wpAny_pure (last b s h)
  | x :: l, b, s, h => by
    rw [List.forIn_cons]
    refine wpAny_bind (thn (step x l b s h) fun r s' ⟨b', e, h'⟩ => ?_)
    subst e
    exact forIn_by P step last l b' s' h'

/-- the zip's objects lie apart -/
structure Ap (N z TI TO : Addr) (cs : List Cm) : Prop where
  nz : N ≤ z
  nI : N ≤ TI
  nO : N ≤ TO
  zTI : z ≠ TI
  zTO : z ≠ TO
  IO : TI ≠ TO
  it : ∀ c ∈ cs, N ≤ c.it ∧ c.it ≠ z ∧ c.it ≠ TI ∧ c.it ≠ TO ∧ c.src < N
  nd : (cs.map (·.it)).Nodup

/-- a zip object in any state of its own tuple -/
def ZipAt (h : Heap) (z TI TO : Addr) (f0 : Value) (b : Bool) : Prop :=
  h.get? z = some { cls := .type "zip", dict := none, data := .fields #[f0, .bool b, .bool false, .ref TI, .ref TO], slots := #[] }
def TupAt (h : Heap) (t : Addr) (xs : Array Value) : Prop := h.get? t = some { cls := .type "tuple", data := .seq xs }
/-- between two turns -/
structure ZSt (h : Heap) (z TI TO : Addr) (cs : List Cm) (i : Nat) : Prop where
  zip : ∃ f0 b, ZipAt h z TI TO f0 b ∧ (f0 = .none ∨ ∃ a : Nat, f0 = rawInt (a : Int))
  ti : TupAt h TI (cs.map fun c => Value.ref c.it).toArray
  to : ∃ xs, TupAt h TO xs ∧ xs.size = cs.length
  its : ∀ c ∈ cs, ItAt h c i
/-- what a turn leaves as it is -/
def Kz (z TO : Addr) (cs : List Cm) (h h' : Heap) : Prop := ∀ c o, c ≠ z → c ≠ TO → (∀ k ∈ cs, c ≠ k.it) → h.get? c = some o → h'.get? c = some o

theorem Kz.refl {z TO : Addr} {cs : List Cm} : Kz z TO cs h h := fun _ _ _ _ _ e => e
theorem Kz.but {z TO x : Addr} {cs : List Cm} {h2 : Heap} (k : Kz z TO cs h h') (sb : Heap.SameBut x h' h2) (hx : x = z ∨ x = TO ∨ ∃ c ∈ cs, x = c.it) : Kz z TO cs h h2 := fun c o h1 h3 h4 e => by
  refine sb.extBut c o ?_ (k c o h1 h3 h4 e)
  rintro rfl
  rcases hx with q | q | ⟨c, hc, q⟩
  · exact h1 q
  · exact h3 q
  · exact h4 c hc q
theorem Kz.ext {z TO x : Addr} {cs : List Cm} {h2 : Heap} (k : Kz z TO cs h h') (sb : Heap.ExtBut x h' h2) (hx : x = z ∨ x = TO ∨ ∃ c ∈ cs, x = c.it) : Kz z TO cs h h2 := fun c o h1 h3 h4 e => by
  refine sb c o ?_ (k c o h1 h3 h4 e)
  rintro rfl
  rcases hx with q | q | ⟨c, hc, q⟩
  · exact h1 q
  · exact h3 q
  · exact h4 c hc q
theorem wpAny_alive {M : Model} {a : Addr} {Q : Option Obj → Shared → Prop} (h : Q (s.heap.get? a) s) : wpAny M A (loadIfAlive a) Q E s := fun Γ p hΓ => by
  unfold loadIfAlive
  rw [Sem.wp_loadIfAlive]
  exact wpAny_pure h Γ p hΓ
theorem free_ok {z TI TO : Addr} {f0 : Value} {b : Bool} {Q : Bool → Shared → Prop} (hz : ZipAt s.heap z TI TO f0 b) (hf : f0 = .none ∨ ∃ a : Nat, f0 = rawInt (a : Int))
    (h1 : Q true s) (h2 : ∀ h', ZipAt h' z TI TO f0 true → Heap.SameBut z s.heap h' → (∃ a : Nat, f0 = rawInt (a : Int)) → Q false { s with heap := h' }) (h3 : b = true → (∃ a : Nat, f0 = rawInt (a : Int)) → Q false s) :
    wpAny (model prog w) A (Builtin.SmallTypes.ownedTupleIsFree (.ref z)) Q E s := by
  unfold Builtin.SmallTypes.ownedTupleIsFree
  refine wpAny_bind (wpAny_field hz rfl (x := f0) rfl ?_)
  rcases hf with rfl | ⟨a, rfl⟩
  · exact wpAny_pure h1
  · show wpAny _ _ (loadIfAlive ((a : Int).toNat) >>= _) _ _ _
    refine wpAny_bind (wpAny_alive ?_)
    cases q : (s.heap.get? (a : Int).toNat) with
    | none => exact wpAny_pure h1
    | some o =>
      refine wpAny_bind (wpAny_field hz rfl (x := .bool b) rfl ?_)
      cases b with
      | true => exact wpAny_pure (h3 rfl ⟨a, rfl⟩)
      | false =>
        refine wpAny_bind (wpAny_setField_rec hz (by simp) fun h' z' sb => wpAny_pure (h2 h' z' sb ⟨a, rfl⟩))

/-- the state within a turn that fills the zip's own tuple: rest is still to be drawn -/
structure Mid1 (h0 h : Heap) (z TI TO : Addr) (cs : List Cm) (src : Cm → Array Value) (b : Bool) (i : Nat) (rs : List (Value × Nat)) : Prop where
  zip : ZipAt h z TI TO .ellipsis b
  to : ∃ xs, TupAt h TO xs ∧ xs.size = cs.length ∧ ∀ k c, cs[k]? = some c → k + rs.length < cs.length → xs[k]? = (src c)[i]?
  its : ∀ k c, cs[k]? = some c → ItAt h c (if k + rs.length < cs.length then i + 1 else i)
  has : ∀ k c, cs[k]? = some c → k + rs.length < cs.length → ∃ x, (src c)[i]? = some x
  keep : Kz z TO cs h0 h
  size : h.objs.size = h0.objs.size
  rest : rs = ((cs.map fun c => Value.ref c.it).zipIdx).drop (cs.length - rs.length)
  le : rs.length ≤ cs.length

theorem nodup_it {cs : List Cm} (h : (cs.map (·.it)).Nodup) {j k : Nat} {c d : Cm} (hj : cs[j]? = some c) (hk : cs[k]? = some d) (e : c.it = d.it) : j = k := by
  have h1 : (cs.map (·.it))[j]? = some c.it := by simp [hj]
  have h2 : (cs.map (·.it))[k]? = some c.it := by simp [hk, e]
  obtain ⟨l1, e1⟩ := List.getElem?_eq_some_iff.mp h1
  obtain ⟨l2, e2⟩ := List.getElem?_eq_some_iff.mp h2
  exact (List.getElem_inj h).mp (e1.trans e2.symm)
theorem drop_cons {α : Type} {l : List α} {x : α} {r : List α} {n : Nat} (h : x :: r = l.drop n) : l[n]? = some x ∧ r = l.drop (n + 1) := by
  have hl : n < l.length := by
    have := congrArg List.length h
    simp at this
    omega
  rw [List.drop_eq_getElem_cons hl] at h
  injection h with h1 h2
  exact ⟨by rw [h1]; exact List.getElem?_eq_getElem hl, h2⟩


theorem Mid1.head {h0 h : Heap} {y TI TO : Addr} {cs : List Cm} {src : Cm → Array Value} {b : Bool} {i : Nat} {v : Value} {k : Nat} {rest : List (Value × Nat)} (md : Mid1 h0 h y TI TO cs src b i ((v, k) :: rest)) :
    ∃ c, cs[k]? = some c ∧ v = .ref c.it ∧ k + rest.length + 1 = cs.length ∧ rest = ((cs.map fun c => Value.ref c.it).zipIdx).drop (k + 1) := by
  have hle := md.le
  simp only [List.length_cons] at hle
  obtain ⟨h1, h2⟩ := drop_cons md.rest
  simp only [List.length_cons] at h1 h2
  rw [List.getElem?_zipIdx] at h1
  simp only [List.getElem?_map, Option.map_map, Option.map_eq_some_iff] at h1
  obtain ⟨c, hc, e⟩ := h1
  injection e with e1 e2
  have ek : k = cs.length - (rest.length + 1) := by omega
  refine ⟨c, by rw [ek]; exact hc, e1.symm, by omega, ?_⟩
  rw [ek]
  exact h2
theorem Ap.src_keep {N y TI TO : Addr} {cs : List Cm} (ap : Ap N y TI TO cs) {c : Cm} (hc : c ∈ cs) {xs : Array Value} (k : Kz y TO cs h h') (t : SrcAt h c xs) : SrcAt h' c xs := by
  obtain ⟨_, _, _, _, h5⟩ := ap.it c hc
  have hz := ap.nz
  have hO := ap.nO
  refine t.at fun o e => k _ o ?_ ?_ (fun d hd => ?_) e
  · intro q; rw [q] at h5; exact absurd (Nat.lt_of_lt_of_le h5 hz) (Nat.lt_irrefl _)
  · intro q; rw [q] at h5; exact absurd (Nat.lt_of_lt_of_le h5 hO) (Nat.lt_irrefl _)
  · intro q
    have := (ap.it d hd).1
    rw [q] at h5; exact absurd (Nat.lt_of_lt_of_le h5 this) (Nat.lt_irrefl _)
theorem upd_tup {TO : Addr} {xs : Array Value} {k : Nat} {x : Value} {Q : Unit → Shared → Prop} (hT : TupAt s.heap TO xs) (hz : xs.size ≤ sizeLine)
    (hq : ∀ h', TupAt h' TO (xs.setIfInBounds k x) → Heap.SameBut TO s.heap h' → Q () { s with heap := h' }) : wpAny (model prog w) A (updateSeq TO fun ys => ys.setIfInBounds k x) Q E s := by
  refine wpAny_updateSeq hT rfl (hq _ ?_ (Heap.SameBut.update ..)) hz (by rw [Array.size_setIfInBounds]; omega)
  unfold TupAt
  rw [Heap.get?_update_self _ hT rfl]
  simp [Obj.mapSeq]

/-- the state within a turn that makes a tuple of its own -/
structure Mid2 (h0 h : Heap) (z TO : Addr) (cs : List Cm) (src : Cm → Array Value) (i : Nat) (items : Array Value) (rs : List Value) : Prop where
  its : ∀ k c, cs[k]? = some c → ItAt h c (if k + rs.length < cs.length then i + 1 else i)
  val : items.size + rs.length = cs.length ∧ ∀ k c, cs[k]? = some c → k + rs.length < cs.length → items[k]? = (src c)[i]?
  keep : Kz z TO cs h0 h
  keepz : ∀ o, h0.get? z = some o → h.get? z = some o
  keepO : ∀ o, h0.get? TO = some o → h.get? TO = some o
  size : h.objs.size = h0.objs.size
  rest : rs = (cs.map fun c => Value.ref c.it).drop (cs.length - rs.length)
theorem Mid2.head {h0 h : Heap} {y TO : Addr} {cs : List Cm} {src : Cm → Array Value} {i : Nat} {v : Value} {items : Array Value} {rest : List Value} (md : Mid2 h0 h y TO cs src i items (v :: rest)) :
    ∃ c, cs[items.size]? = some c ∧ v = .ref c.it ∧ items.size + rest.length + 1 = cs.length ∧ rest = (cs.map fun c => Value.ref c.it).drop (items.size + 1) := by
  have hv := md.val.1
  simp only [List.length_cons] at hv
  obtain ⟨h1, h2⟩ := drop_cons md.rest
  simp only [List.length_cons] at h1 h2
  simp only [List.getElem?_map, Option.map_eq_some_iff] at h1
  obtain ⟨c, hc, e⟩ := h1
  have ek : items.size = cs.length - (rest.length + 1) := by omega
  exact ⟨c, by rw [ek]; exact hc, e.symm, by omega, by rw [ek]; exact h2⟩
theorem zipN_own {N y TI TO : Addr} {cs : List Cm} {src : Cm → Array Value} {i : Nat} {h0 : Heap} {f : Value → Option PySem.Fin × Array Value → Sem (ForInStep (Option PySem.Fin × Array Value))} (hh : A.handled = none) (ap : Ap N y TI TO cs)
    (hits : ∀ c ∈ cs, ItAt s.heap c i) (sr : ∀ c ∈ cs, SrcAt s.heap c (src c)) (k0 : Kz y TO cs h0 s.heap)
    (hf : ∀ (c : Cm) (items : Array Value) (s' : Shared) (P : ForInStep (Option PySem.Fin × Array Value) → Shared → Prop) (E' : Value → Shared → Prop), wpAny (model prog w) A (Builtin.SmallTypes.nextOf (.ref c.it)) (fun x s2 => P (.yield (none, items.push x)) s2) E' s' → wpAny (model prog w) A (f (.ref c.it) (none, items)) P E' s')
    (hE : ∀ (h' : Heap) (e : Addr), (∃ c ∈ cs, (src c)[i]? = none) → Kz y TO cs h0 h' → (∃ o, h'.get? e = some o ∧ o.cls = .type "StopIteration") → E (.ref e) { s with heap := h' }) :
    wpAny (model prog w) A (forIn (cs.map fun c => Value.ref c.it).toArray ((none, #[]) : Option PySem.Fin × Array Value) f) (fun bb s' => bb.1 = none ∧ ∃ h', s' = { s with heap := h' } ∧ Mid2 s.heap h' y TO cs src i bb.2 []) E s := by
  rw [List.forIn_toArray]
  refine forIn_by (P := fun rs (bb : Option PySem.Fin × Array Value) s' => bb.1 = none ∧ ∃ h', s' = { s with heap := h' } ∧ Mid2 s.heap h' y TO cs src i bb.2 rs) ?_ (fun _ _ h => h) _ _ _ ?_
  · rintro v rest ⟨b1, items⟩ s' ⟨hb, h', rfl, md⟩
    have hb : b1 = none := hb
    subst hb
    have md : Mid2 s.heap h' y TO cs src i items (v :: rest) := md
    obtain ⟨c, hc, rfl, hk, hr⟩ := md.head
    have hcm : c ∈ cs := List.mem_of_getElem? hc
    obtain ⟨_, c1, c2, c3, _⟩ := ap.it c hcm
    have t0 : ItAt h' c i := by
      have := md.its _ c hc
      rw [List.length_cons, if_neg (by omega)] at this
      exact this
    have s0 := ap.src_keep hcm md.keep (sr c hcm)
    have kk := fun c o a b d e => md.keep c o a b d (k0 c o a b d e)
    refine hf c items _ _ _ ?_
    cases hx : (src c)[i]? with
    | none => exact next_end hh t0 s0 hx fun h2 e sb he => hE h2 e ⟨c, hcm, hx⟩ (Kz.ext kk sb (.inr (.inr ⟨c, hcm, rfl⟩))) he
    | some x =>
      refine next_item t0 s0 hx fun h2 t2 s2 => ⟨_, rfl, rfl, h2, rfl, ?_⟩
      refine ⟨fun j d hd => ?_, ⟨?_, fun j d hd hj => ?_⟩, md.keep.but s2 (.inr (.inr ⟨c, hcm, rfl⟩)), fun o e => s2.extBut _ _ (Ne.symm c1) (md.keepz o e), fun o e => s2.extBut _ _ (Ne.symm c3) (md.keepO o e), by rw [s2.1]; exact md.size, ?_⟩
      · by_cases e : j = items.size
        · subst e
          rw [hc] at hd; cases hd
          rw [if_pos (by omega)]
          exact t2
        · have ne : d.it ≠ c.it := fun q => e (nodup_it ap.nd hd hc q)
          have := md.its j d hd
          rw [List.length_cons] at this
          have e2 : (if j + rest.length < cs.length then i + 1 else i) = (if j + (rest.length + 1) < cs.length then i + 1 else i) := by
            split <;> split <;> omega
          rw [e2]
          exact this.at fun o q => s2.extBut _ _ ne q
      · show (items.push x).size + rest.length = cs.length
        rw [Array.size_push]; omega
      · show (items.push x)[j]? = _
        by_cases e : j = items.size
        · subst e
          rw [hc] at hd; cases hd
          rw [Array.getElem?_push_size, hx]
        · rw [Array.getElem?_push, if_neg e]
          exact md.val.2 j d hd (by rw [List.length_cons]; omega)
      · rw [hr]
        congr 1
        rw [List.length_drop, List.length_map]
        omega
  · refine ⟨rfl, s.heap, rfl, fun j d hd => ?_, ⟨by simp, fun j d hd hj => by simp at hj; omega⟩, Kz.refl, fun _ e => e, fun _ e => e, rfl, by simp⟩
    rw [List.length_map, if_neg (by omega)]
    exact hits d (List.mem_of_getElem? hd)
theorem zipN_fin {N y TI TO : Addr} {cs : List Cm} {src : Cm → Array Value} {i : Nat} {Q : Value → Shared → Prop} {h0 h' : Heap} {items : Array Value} (ap : Ap N y TI TO cs) (hl : cs.length ≤ sizeLine) (st : ZSt s.heap y TI TO cs i) (k0 : Kz y TO cs h0 s.heap) (hs0 : s.heap.objs.size = h0.objs.size) (md : Mid2 s.heap h' y TO cs src i items [])
    (hQ : ∀ (h' : Heap) (vs : List Value), vs.length = cs.length → (∀ (k : Nat) (c : Cm), cs[k]? = some c → (src c)[i]? = vs[k]?) → ZSt h' y TI TO cs (i + 1) → TupAt h' h0.objs.size vs.toArray → h'.objs.size = h0.objs.size + 1 → Kz y TO cs h0 h' → Q (.ref h0.objs.size) { s with heap := h' }) :
    wpAny (model prog w) A (newTuple items.toList >>= fun t => ret t) (fun fin s' => ∃ v, fin = .done (.ret v) ∧ Q v s') E { s with heap := h' } := by
  obtain ⟨⟨f0, b, hz, hf0⟩, hti, ⟨os, hto, hos⟩, hits⟩ := st
  have hv := md.val.1
  rw [List.length_nil, Nat.add_zero] at hv
  refine wpAny_bind (wpAny_newTuple ?_ (by rw [Array.length_toList]; omega))
  show wpAny _ _ (ret (.ref h'.objs.size)) _ _ { s with heap := h'.push { cls := .type "tuple", data := .seq items.toList.toArray } }
  refine wpAny_pure ⟨_, rfl, ?_⟩
  have hsz' : h'.objs.size = h0.objs.size := by rw [md.size, hs0]
  rw [hsz']
  refine hQ _ items.toList (by rw [Array.length_toList]; exact hv) (fun k c hc => ?_) ⟨⟨f0, b, Heap.get?_push_of_some _ (md.keepz _ hz), hf0⟩, ?_, ⟨os, Heap.get?_push_of_some _ (md.keepO _ hto), hos⟩, fun c hc => ?_⟩ ?_ ?_ ?_
  · have hk := (List.getElem?_eq_some_iff.mp hc).1
    rw [← md.val.2 k c hc (by simpa using hk), Array.getElem?_toList]
  · refine Heap.get?_push_of_some _ (md.keep _ _ (Ne.symm ap.zTI) ap.IO (fun k hk => ?_) hti)
    exact Ne.symm (ap.it k hk).2.2.1
  · obtain ⟨k, hk⟩ := List.mem_iff_getElem?.mp hc
    have := md.its k c hk
    rw [List.length_nil, if_pos (by have := (List.getElem?_eq_some_iff.mp hk).1; omega)] at this
    exact this.at fun o q => Heap.get?_push_of_some _ q
  · rw [← hsz']; exact Heap.get?_push_size _ rfl
  · rw [Heap.size_push, hsz']
  · exact fun c o n1 n2 n3 e => Heap.get?_push_of_some _ (md.keep c o n1 n2 n3 (k0 c o n1 n2 n3 e))
theorem zipN_next {N y TI TO : Addr} {cs : List Cm} {src : Cm → Array Value} {i : Nat} {Q : Value → Shared → Prop} (hh : A.handled = none) (ap : Ap N y TI TO cs) (hne : cs ≠ []) (hl : cs.length ≤ sizeLine) (st : ZSt s.heap y TI TO cs i) (sr : ∀ c ∈ cs, SrcAt s.heap c (src c))
    (hQ : ∀ (h' : Heap) (vs : List Value), vs.length = cs.length → (∀ (k : Nat) (c : Cm), cs[k]? = some c → (src c)[i]? = vs[k]?) → ZSt h' y TI TO cs (i + 1) → TupAt h' s.heap.objs.size vs.toArray → h'.objs.size = s.heap.objs.size + 1 → Kz y TO cs s.heap h' → Q (.ref s.heap.objs.size) { s with heap := h' })
    (hE : ∀ (h' : Heap) (e : Addr), (∃ c ∈ cs, (src c)[i]? = none) → Kz y TO cs s.heap h' → (∃ o, h'.get? e = some o ∧ o.cls = .type "StopIteration") → E (.ref e) { s with heap := h' }) :
    wpAny (model prog w) A (Builtin.«zip.__next__» ⟨[.ref y], []⟩) (fun fin s' => ∃ v, fin = .done (.ret v) ∧ Q v s') E s := by
  obtain ⟨⟨f0, b, hz, hf⟩, hti, ⟨os, hto, hos⟩, hits⟩ := st
  show wpAny _ _ (field (.ref y) 2 >>= _) _ _ _
  refine wpAny_bind (wpAny_field hz rfl (x := .bool false) rfl ?_)
  show wpAny _ _ (field (.ref y) 3 >>= _) _ _ _
  refine wpAny_bind (wpAny_field hz rfl (x := .ref TI) rfl (wpAny_bind (wpAny_seqItems hti rfl ?_)))
  have hemp : ((cs.map fun c => Value.ref c.it).toArray.isEmpty) = false := by cases cs with | nil => exact absurd rfl hne | cons _ _ => rfl
  simp only [hemp, Bool.false_eq_true, if_false]
  refine wpAny_bind (free_ok hz hf ?_ ?_ ?_)
  · simp only [if_true]
    refine wpAny_bind (wpAny_rule (wpAny_bind (wpAny_field hz rfl (x := .ref TO) rfl (wpAny_bind (wpAny_setField_rec hz (by simp) fun h1 z1 s1 => wpAny_bind ?_)))))
    refine forIn_by (P := fun rs bb s' => bb.1 = none ∧ ∃ h', s' = { s with heap := h' } ∧ Mid1 s.heap h' y TI TO cs src b i rs) ?_ ?_ _ _ _ ?_
    · rintro ⟨v, k⟩ rest bb s' ⟨hb, h', rfl, md⟩
      obtain ⟨c, hc, rfl, hk, hr⟩ := md.head
      have hcm : c ∈ cs := List.mem_of_getElem? hc
      obtain ⟨_, c1, c2, c3, _⟩ := ap.it c hcm
      have t0 : ItAt h' c i := by
        have := md.its k c hc
        rw [List.length_cons, if_neg (by omega)] at this
        exact this
      have s0 := ap.src_keep hcm md.keep (sr c hcm)
      refine wpAny_bind (wpAny_onRaise ?_)
      show wpAny _ _ (Builtin.SmallTypes.nextOf (.ref c.it) >>= fun x => pure (some x)) _ _ _
      refine wpAny_bind ?_
      cases hx : (src c)[i]? with
      | none =>
        refine next_end hh t0 s0 hx fun h2 e sb ⟨oe, he, hce⟩ => ?_
        have z2 : ZipAt h2 y TI TO .ellipsis b := sb _ _ (Ne.symm c1) md.zip
        have hez : e ≠ y := fun q => by subst q; rw [z2] at he; cases he; simp at hce
        exact wpAny_setField_rec (s := { s with heap := h2 }) z2 (by simp) fun h3 _ s3 => hE h3 e ⟨c, hcm, hx⟩ ((md.keep.ext sb (.inr (.inr ⟨c, hcm, rfl⟩))).but s3 (.inl rfl)) ⟨oe, s3.extBut _ _ hez he, hce⟩
      | some x =>
        refine next_item t0 s0 hx fun h2 t2 s2 => wpAny_pure ?_
        obtain ⟨xs, hxs, hsz, hval⟩ := md.to
        have hxs2 : TupAt h2 TO xs := s2.extBut _ _ (Ne.symm c3) hxs
        refine wpAny_bind (wpAny_seqItems (s := { s with heap := h2 }) hxs2 rfl (wpAny_bind (upd_tup (s := { s with heap := h2 }) hxs2 (by omega) fun h3 t3 s3 => wpAny_bind (wpAny_letGo (wpAny_pure ⟨_, rfl, rfl, h3, rfl, ?_⟩)))))
        refine ⟨s3.extBut _ _ ap.zTO (s2.extBut _ _ (Ne.symm c1) md.zip), ⟨_, t3, by rw [Array.size_setIfInBounds]; exact hsz, fun j d hd hj => ?_⟩, fun j d hd => ?_, fun j d hd hj => ?_, (md.keep.but s2 (.inr (.inr ⟨c, hcm, rfl⟩))).but s3 (.inr (.inl rfl)), by rw [s3.1, s2.1]; exact md.size, ?_, by omega⟩
        · by_cases e : j = k
          · subst e
            rw [hc] at hd; cases hd
            show (xs.setIfInBounds j x)[j]? = _
            rw [Array.getElem?_setIfInBounds_self_of_lt (by omega), hx]
          · show (xs.setIfInBounds k x)[j]? = _
            rw [Array.getElem?_setIfInBounds_ne (Ne.symm e)]
            exact hval j d hd (by rw [List.length_cons]; omega)
        · have nO : d.it ≠ TO := (ap.it d (List.mem_of_getElem? hd)).2.2.2.1
          by_cases e : j = k
          · subst e
            rw [hc] at hd; cases hd
            rw [if_pos (by omega)]
            exact t2.at fun o q => s3.extBut _ _ nO q
          · have ne : d.it ≠ c.it := fun q => e (nodup_it ap.nd hd hc q)
            have := md.its j d hd
            rw [List.length_cons] at this
            have e2 : (if j + rest.length < cs.length then i + 1 else i) = (if j + (rest.length + 1) < cs.length then i + 1 else i) := by
              split <;> split <;> omega
            rw [e2]
            exact this.at fun o q => s3.extBut _ _ nO (s2.extBut _ _ ne q)
        · by_cases e : j = k
          · subst e
            rw [hc] at hd; cases hd
            exact ⟨x, hx⟩
          · exact md.has j d hd (by rw [List.length_cons]; omega)
        · rw [hr]
          congr 1
          rw [List.length_drop, List.length_zipIdx, List.length_map]
          omega
    · rintro bb s' ⟨hb, h', rfl, md⟩
      rw [hb]
      obtain ⟨xs, hxs, hsz, hval⟩ := md.to
      refine wpAny_bind (wpAny_seqItems (s := { s with heap := h' }) hxs rfl (wpAny_bind (wpAny_newTuple ?_ (by rw [Array.length_toList]; omega))))
      show wpAny _ _ (Builtin.SmallTypes.ownedTupleHandOut (.ref y) (.ref h'.objs.size) >>= fun _ => ret (.ref h'.objs.size)) _ _ { s with heap := h'.push { cls := .type "tuple", data := .seq xs.toList.toArray } }
      have z2 : ZipAt (h'.push { cls := .type "tuple", data := .seq xs.toList.toArray }) y TI TO .ellipsis b := Heap.get?_push_of_some _ md.zip
      unfold Builtin.SmallTypes.ownedTupleHandOut
      refine wpAny_bind (wpAny_bind (wpAny_setField_rec (s := { s with heap := h'.push { cls := .type "tuple", data := .seq xs.toList.toArray } }) z2 (by simp) fun h3 z3 s3 => ?_))
      refine wpAny_setField_rec (s := { s with heap := h3 }) z3 (by simp) fun h4 z4 s4 => wpAny_pure ⟨_, rfl, ?_⟩
      have hsz' := md.size
      have yl : y < h'.objs.size := Heap.lt_size md.zip
      have up : ∀ c o, c ≠ y → h'.get? c = some o → h4.get? c = some o := fun c o n e => s4.extBut _ _ n (s3.extBut _ _ n (Heap.get?_push_of_some _ e))
      rw [hsz']
      refine hQ h4 xs.toList (by rw [Array.length_toList]; exact hsz) (fun k c hc => ?_) ⟨⟨_, false, z4, .inr ⟨h'.objs.size, rfl⟩⟩, ?_, ⟨xs, up _ _ (Ne.symm ap.zTO) hxs, hsz⟩, fun c hc => ?_⟩ ?_ ?_ ?_
      · have hk := (List.getElem?_eq_some_iff.mp hc).1
        rw [← hval k c hc (by simpa using hk), Array.getElem?_toList]
      · refine up _ _ (Ne.symm ap.zTI) (md.keep _ _ (Ne.symm ap.zTI) ap.IO (fun k hk => ?_) hti)
        exact Ne.symm (ap.it k hk).2.2.1
      · obtain ⟨k, hk⟩ := List.mem_iff_getElem?.mp hc
        have := md.its k c hk
        rw [List.length_nil, if_pos (by have := (List.getElem?_eq_some_iff.mp hk).1; omega)] at this
        exact this.at fun o q => up _ _ (ap.it c hc).2.1 q
      · rw [← hsz']
        exact s4.extBut _ _ (Nat.ne_of_gt yl) (s3.extBut _ _ (Nat.ne_of_gt yl) (Heap.get?_push_size _ rfl))
      · rw [s4.1, s3.1, Heap.size_push, hsz']
      · exact fun c o n1 n2 n3 e => up c o n1 (md.keep c o n1 n2 n3 e)
    · exact ⟨rfl, h1, rfl, z1, ⟨os, s1.extBut _ _ (Ne.symm ap.zTO) hto, hos, fun j d hd hj => by simp at hj; omega⟩, fun j d hd => by
        rw [List.length_zipIdx, List.length_map, if_neg (by omega)]
        have hm := List.mem_of_getElem? hd
        exact (hits d hm).at fun o q => s1.extBut _ _ (ap.it d hm).2.1 q, fun j d hd hj => by simp at hj; omega, Kz.refl.but s1 (.inl rfl), s1.1, by simp, by simp⟩
  · intro h1 z1 s1 ha
    have st1 : ZSt h1 y TI TO cs i := ⟨⟨f0, true, z1, .inr ha⟩, s1.extBut _ _ (Ne.symm ap.zTI) hti, ⟨os, s1.extBut _ _ (Ne.symm ap.zTO) hto, hos⟩, fun c hc => (hits c hc).at fun o q => s1.extBut _ _ (ap.it c hc).2.1 q⟩
    have k1 : Kz y TO cs s.heap h1 := Kz.refl.but s1 (.inl rfl)
    simp only [Bool.false_eq_true, if_false]
    refine wpAny_bind (thn (zipN_own (s := { s with heap := h1 }) (h0 := s.heap) hh ap st1.its (fun c hc => ap.src_keep hc k1 (sr c hc)) k1 (fun c items s' P E' hp => ?_) hE) fun r s' ⟨hb, h', e, md⟩ => ?_)
    · refine wpAny_bind (wpAny_holding ?_)
      show wpAny _ _ (Builtin.SmallTypes.nextOf (.ref c.it) >>= fun x => pure (some x)) _ _ _
      exact wpAny_bind (thn hp fun x s2 q => wpAny_pure (wpAny_pure q))
    · obtain ⟨b1, items⟩ := r
      have hb : b1 = none := hb
      subst hb; subst e
      exact zipN_fin (s := { s with heap := h1 }) (h0 := s.heap) ap hl st1 k1 s1.1 md hQ
  · intro hb ha
    simp only [Bool.false_eq_true, if_false]
    refine wpAny_bind (thn (zipN_own (h0 := s.heap) hh ap hits sr Kz.refl (fun c items s' P E' hp => ?_) hE) fun r s' ⟨hb, h', e, md⟩ => ?_)
    · refine wpAny_bind (wpAny_holding ?_)
      show wpAny _ _ (Builtin.SmallTypes.nextOf (.ref c.it) >>= fun x => pure (some x)) _ _ _
      exact wpAny_bind (thn hp fun x s2 q => wpAny_pure (wpAny_pure q))
    · obtain ⟨b1, items⟩ := r
      have hb : b1 = none := hb
      subst hb; subst e
      exact zipN_fin (h0 := s.heap) ap hl ⟨⟨f0, b, hz, hf⟩, hti, ⟨os, hto, hos⟩, hits⟩ Kz.refl rfl md hQ
end
end G48
set_option Elab.async false
set_option linter.all false
set_option maxRecDepth 100000
set_option maxHeartbeats 1000000
/-! G48: zip of any number of lists and tuples: how it is made, its turns. -/
namespace G48
open PySem PySem.Spec PyProof.Rows L2

section
variable {prog : Program} {w : World} {A : Around} {E : Value → Shared → Prop} {s : Shared} {h h' : Heap}
/-- the sources: addresses, lists or tuples -/
def SrcOk (h : Heap) (a : Addr × Bool) : Prop := ∃ xs : Array Value, if a.2 = true then h.IsList a.1 xs else h.IsTuple a.1 xs
theorem SrcOk.lt {a : Addr × Bool} (t : SrcOk h a) : a.1 < h.objs.size := by
  obtain ⟨xs, t⟩ := t
  split at t
  · obtain ⟨o, e, _⟩ := t; exact Heap.lt_size e
  · obtain ⟨o, e, _⟩ := t; exact Heap.lt_size e
theorem SrcOk.keep {a : Addr × Bool} (t : SrcOk h a) (k : ∀ b o, h.get? b = some o → h'.get? b = some o) : SrcOk h' a := by
  obtain ⟨xs, t⟩ := t
  refine ⟨xs, ?_⟩
  split
  · next e => rw [if_pos e] at t; exact Heap.IsList.at t fun o q => k _ o q
  · next e => rw [if_neg e] at t; exact Heap.IsTuple.at t fun o q => k _ o q
theorem iter_src {a : Addr × Bool} {Q : Value → Shared → Prop} (t : SrcOk s.heap a)
    (hQ : ∀ h', ItAt h' ⟨s.heap.objs.size, a.1, a.2⟩ 0 → h'.objs.size = s.heap.objs.size + 1 → (∀ b o, s.heap.get? b = some o → h'.get? b = some o) → Q (.ref s.heap.objs.size) { s with heap := h' }) : wpAny (model prog w) A (pyIter (.ref a.1)) Q E s := by
  obtain ⟨xs, t⟩ := t
  obtain ⟨a, l⟩ := a
  cases l with
  | true =>
    refine wpAny_pyIter_list (show s.heap.IsList a xs from t) (hQ _ ?_ (Heap.size_push ..) fun b o e => Heap.get?_push_of_some _ e)
    exact ⟨_, Heap.get?_push_size _ rfl, rfl, rfl⟩
  | false =>
    refine wpAny_pyIter_tuple (show s.heap.IsTuple a xs from t) (hQ _ ?_ (Heap.size_push ..) fun b o e => Heap.get?_push_of_some _ e)
    exact ⟨_, Heap.get?_push_size _ rfl, rfl, rfl⟩
/-- the iterators that a zip makes -/
def mkCs (N : Nat) : List (Addr × Bool) → List Cm
  | [] => []
  | a :: r => ⟨N, a.1, a.2⟩ :: mkCs (N + 1) r
theorem mkCs_len : ∀ (as : List (Addr × Bool)) (N : Nat), (mkCs N as).length = as.length
  | [], _ => rfl
  | _ :: r, N => by simp [mkCs, mkCs_len r (N + 1)]
theorem mkCs_mem : ∀ (as : List (Addr × Bool)) (N : Nat) (c : Cm), c ∈ mkCs N as → N ≤ c.it ∧ c.it < N + as.length ∧ (c.src, c.l) ∈ as
  | [], _, c, h => by simp [mkCs] at h
  | a :: r, N, c, h => by
    simp only [mkCs, List.mem_cons] at h
    rcases h with h | h
    · subst h; simp
    · obtain ⟨h1, h2, h3⟩ := mkCs_mem r (N + 1) c h
      exact ⟨by omega, Nat.lt_of_lt_of_eq h2 (by rw [List.length_cons, Nat.add_right_comm, Nat.add_assoc]), List.mem_cons_of_mem _ h3⟩
theorem mkCs_nd : ∀ (as : List (Addr × Bool)) (N : Nat), ((mkCs N as).map (·.it)).Nodup
  | [], _ => by simp [mkCs]
  | a :: r, N => by
    simp only [mkCs, List.map_cons, List.nodup_cons]
    refine ⟨fun h => ?_, mkCs_nd r (N + 1)⟩
    obtain ⟨c, hc, e⟩ := List.mem_map.mp h
    have := (mkCs_mem r (N + 1) c hc).1
    rw [e] at this
    exact absurd this (by simp)
theorem mkCs_append : ∀ (as bs : List (Addr × Bool)) (N : Nat), mkCs N (as ++ bs) = mkCs N as ++ mkCs (N + as.length) bs
  | [], bs, N => by simp [mkCs]
  | a :: r, bs, N => by
    simp only [List.cons_append, mkCs, mkCs_append r bs (N + 1), List.length_cons]
    rw [Nat.add_right_comm, Nat.add_assoc]
theorem mkCs_get : ∀ (as : List (Addr × Bool)) (N k : Nat) (c : Cm), (mkCs N as)[k]? = some c → as[k]? = some (c.src, c.l)
  | [], _, _, _, h => by simp [mkCs] at h
  | a :: r, N, 0, c, h => by simp [mkCs] at h; subst h; simp
  | a :: r, N, k + 1, c, h => by
    simp only [mkCs, List.getElem?_cons_succ] at h ⊢
    exact mkCs_get r (N + 1) k c h
theorem iters_ok {f : Value → Array Value → Sem (ForInStep (Array Value))} {Q : Array Value → Shared → Prop}
    (hf : ∀ (a : Addr × Bool) (its : Array Value) (s' : Shared) (P : ForInStep (Array Value) → Shared → Prop) (E' : Value → Shared → Prop), wpAny (model prog w) A (pyIter (.ref a.1)) (fun x s2 => P (.yield (its.push x)) s2) E' s' → wpAny (model prog w) A (f (.ref a.1) its) P E' s') :
    ∀ (as : List (Addr × Bool)) (b : Array Value) (s : Shared), (∀ a ∈ as, SrcOk s.heap a) →
      (∀ h', h'.objs.size = s.heap.objs.size + as.length → (∀ c ∈ mkCs s.heap.objs.size as, ItAt h' c 0) → (∀ b o, s.heap.get? b = some o → h'.get? b = some o) → Q (b ++ ((mkCs s.heap.objs.size as).map fun c => Value.ref c.it).toArray) { s with heap := h' }) →
      wpAny (model prog w) A (forIn (as.map fun a => Value.ref a.1) b f) Q E s
  | [], b, s, _, hQ => by
    rw [List.map_nil, List.forIn_nil]
    have := hQ s.heap rfl (by simp [mkCs]) fun _ _ e => e
    simp only [mkCs, List.map_nil] at this
    exact wpAny_pure (by simpa using this)
  | a :: as, b, s, hs, hQ => by
    rw [List.map_cons, List.forIn_cons]
    refine wpAny_bind (hf a b s _ _ (iter_src (hs a (by simp)) fun h1 t1 z1 k1 => ?_))
    refine iters_ok hf as _ { s with heap := h1 } (fun c hc => (hs c (by simp [hc])).keep k1) fun h2 z2 t2 k2 => ?_
    have e1 : ({ s with heap := h1 } : Shared).heap.objs.size = s.heap.objs.size + 1 := z1
    rw [e1] at t2 ⊢
    have := hQ h2 (by rw [z2, z1, List.length_cons]; omega) (fun c hc => ?_) fun b o e => k2 b o (k1 b o e)
    · simpa [mkCs] using this
    · simp only [mkCs, List.mem_cons] at hc
      rcases hc with hc | hc
      · subst hc; exact t1.at fun o q => k2 _ o q
      · exact t2 c hc

/-! ### zip is made -/
theorem zip_check : ∀ args : List Value, args ≠ [] → args.length ≤ 16 → checkBuiltinCall "zip.__new__" ⟨.type "zip" :: args, []⟩ = pure ()
  | [], h, _ => absurd rfl h
  | [_], _, _ => by kernel_rfl
  | [_, _], _, _ => by kernel_rfl
  | [_, _, _], _, _ => by kernel_rfl
  | [_, _, _, _], _, _ => by kernel_rfl
  | [_, _, _, _, _], _, _ => by kernel_rfl
  | [_, _, _, _, _, _], _, _ => by kernel_rfl
  | [_, _, _, _, _, _, _], _, _ => by kernel_rfl
  | [_, _, _, _, _, _, _, _], _, _ => by kernel_rfl
  | [_, _, _, _, _, _, _, _, _], _, _ => by kernel_rfl
  | [_, _, _, _, _, _, _, _, _, _], _, _ => by kernel_rfl
  | [_, _, _, _, _, _, _, _, _, _, _], _, _ => by kernel_rfl
  | [_, _, _, _, _, _, _, _, _, _, _, _], _, _ => by kernel_rfl
  | [_, _, _, _, _, _, _, _, _, _, _, _, _], _, _ => by kernel_rfl
  | [_, _, _, _, _, _, _, _, _, _, _, _, _, _], _, _ => by kernel_rfl
  | [_, _, _, _, _, _, _, _, _, _, _, _, _, _, _], _, _ => by kernel_rfl
  | [_, _, _, _, _, _, _, _, _, _, _, _, _, _, _, _], _, _ => by kernel_rfl
  | _ :: _ :: _ :: _ :: _ :: _ :: _ :: _ :: _ :: _ :: _ :: _ :: _ :: _ :: _ :: _ :: _ :: _, _, h => by simp at h
theorem init_check (v : Value) : ∀ args : List Value, args ≠ [] → args.length ≤ 16 → argsOk "object.__init__" ⟨v :: args, []⟩
  | [], h, _ => absurd rfl h
  | [_], _, _ => by unfold argsOk; kernel_rfl
  | [_, _], _, _ => by unfold argsOk; kernel_rfl
  | [_, _, _], _, _ => by unfold argsOk; kernel_rfl
  | [_, _, _, _], _, _ => by unfold argsOk; kernel_rfl
  | [_, _, _, _, _], _, _ => by unfold argsOk; kernel_rfl
  | [_, _, _, _, _, _], _, _ => by unfold argsOk; kernel_rfl
  | [_, _, _, _, _, _, _], _, _ => by unfold argsOk; kernel_rfl
  | [_, _, _, _, _, _, _, _], _, _ => by unfold argsOk; kernel_rfl
  | [_, _, _, _, _, _, _, _, _], _, _ => by unfold argsOk; kernel_rfl
  | [_, _, _, _, _, _, _, _, _, _], _, _ => by unfold argsOk; kernel_rfl
  | [_, _, _, _, _, _, _, _, _, _, _], _, _ => by unfold argsOk; kernel_rfl
  | [_, _, _, _, _, _, _, _, _, _, _, _], _, _ => by unfold argsOk; kernel_rfl
  | [_, _, _, _, _, _, _, _, _, _, _, _, _], _, _ => by unfold argsOk; kernel_rfl
  | [_, _, _, _, _, _, _, _, _, _, _, _, _, _], _, _ => by unfold argsOk; kernel_rfl
  | [_, _, _, _, _, _, _, _, _, _, _, _, _, _, _], _, _ => by unfold argsOk; kernel_rfl
  | [_, _, _, _, _, _, _, _, _, _, _, _, _, _, _, _], _, _ => by unfold argsOk; kernel_rfl
  | _ :: _ :: _ :: _ :: _ :: _ :: _ :: _ :: _ :: _ :: _ :: _ :: _ :: _ :: _ :: _ :: _ :: _, _, h => by simp at h
theorem type_check (args : List Value) : checkTypeCall "zip" ⟨args, []⟩ = pure () := by kernel_rfl
theorem meets_zipN (as : List (Addr × Bool)) (hl : as.length ≤ 16) : Meets (Builtin.«zip.__new__» ⟨.type "zip" :: as.map (fun a => Value.ref a.1), []⟩) (fun _ R s => (∀ a ∈ as, SrcOk s.heap a) ∧
    ∀ h', ZSt h' (s.heap.objs.size + as.length + 2) (s.heap.objs.size + as.length) (s.heap.objs.size + as.length + 1) (mkCs s.heap.objs.size as) 0 → (∃ f0 b, ZipAt h' (s.heap.objs.size + as.length + 2) (s.heap.objs.size + as.length) (s.heap.objs.size + as.length + 1) f0 b) → h'.objs.size = s.heap.objs.size + as.length + 3 →
      (∀ b o, s.heap.get? b = some o → h'.get? b = some o) → R (.ok (.ret (.ref (s.heap.objs.size + as.length + 2)))) { s with heap := h' }) :=
  .of_wp fun prog w A R s h => by
    obtain ⟨hp, g, d, tk, os⟩ := s
    obtain ⟨hs, hR⟩ := h
    have hsub := sub_zip
    unfold Builtin.«zip.__new__» Builtin.SmallTypes.newClass
    refine wpAny_bind (wpAny_bind (wpAny_pure ?_))
    show wpAny _ _ (isSubtype (.type "zip") (.type "zip") >>= _) _ _ _
    rw [hsub]
    refine wpAny_bind (wpAny_pure (wpAny_pure ?_))
    show wpAny _ _ (Builtin.SmallTypes.iterAll (as.map fun a => Value.ref a.1) >>= _) _ _ _
    unfold Builtin.SmallTypes.iterAll
    refine wpAny_bind (wpAny_bind (iters_ok ?hf as _ _ hs fun h1 z1 t1 k1 => wpAny_pure ?_))
    case hf => exact fun a its s' P E' hq => wpAny_bind (wpAny_holding (thn hq fun x s2 q => wpAny_pure q))
    have hm := mkCs_len as hp.objs.size
    have hlen : ((mkCs hp.objs.size as).map fun (c : Cm) => Value.ref c.it).length = as.length := by rw [List.length_map, hm]
    have big : as.length ≤ sizeLine := Nat.le_trans hl (by rw [sizeLine_eq]; decide)
    have e0 : (#[] ++ ((mkCs hp.objs.size as).map fun (c : Cm) => Value.ref c.it).toArray).toList = (mkCs hp.objs.size as).map fun (c : Cm) => Value.ref c.it := by simp
    show wpAny _ _ (newTuple (#[] ++ ((mkCs hp.objs.size as).map fun (c : Cm) => Value.ref c.it).toArray).toList >>= _) _ _ _
    rw [e0]
    refine wpAny_bind (wpAny_newTuple ?_ (by rw [hlen]; exact big))
    show wpAny _ _ (newTuple (List.map (fun _ => Value.none) ((mkCs hp.objs.size as).map fun (c : Cm) => Value.ref c.it)) >>= _) _ _ _
    refine wpAny_bind (wpAny_newTuple ?_ (by rw [List.length_map, hlen]; exact big))
    have z1 : h1.objs.size = hp.objs.size + as.length := z1
    have t1 : ∀ c ∈ mkCs hp.objs.size as, ItAt h1 c 0 := t1
    have k1 : ∀ b o, hp.get? b = some o → h1.get? b = some o := k1
    generalize ht : ((mkCs hp.objs.size as).map fun (c : Cm) => Value.ref c.it) = ts at *
    generalize h2e : h1.push { cls := .type "tuple", data := .seq ts.toArray } = h2
    have z2 : h2.objs.size = hp.objs.size + as.length + 1 := by rw [← h2e, Heap.size_push, z1]
    have g2 : TupAt h2 (hp.objs.size + as.length) ts.toArray := by rw [← h2e, ← z1]; exact Heap.get?_push_size _ rfl
    have k2 : ∀ b o, h1.get? b = some o → h2.get? b = some o := fun b o e => by rw [← h2e]; exact Heap.get?_push_of_some _ e
    show wpAny _ _ (Builtin.SmallTypes.newRecord (.type "zip") (Builtin.SmallTypes.ownedTupleFields ++ [.bool false, .ref h1.objs.size, .ref h2.objs.size]) >>= fun r => ret r) _ _ ⟨h2.push { cls := .type "tuple", data := .seq (ts.map fun _ => Value.none).toArray }, g, d, tk, os⟩
    generalize h3e : h2.push { cls := .type "tuple", data := .seq (ts.map fun _ => Value.none).toArray } = h3
    have z3 : h3.objs.size = hp.objs.size + as.length + 2 := by rw [← h3e, Heap.size_push, z2]
    have g3 : TupAt h3 (hp.objs.size + as.length + 1) (ts.map fun _ => Value.none).toArray := by rw [← h3e, ← z2]; exact Heap.get?_push_size _ rfl
    have k3 : ∀ b o, h2.get? b = some o → h3.get? b = some o := fun b o e => by rw [← h3e]; exact Heap.get?_push_of_some _ e
    rw [z1, z2]
    show wpAny _ _ (newObj (.type "zip") (.fields #[.none, .bool false, .bool false, .ref (hp.objs.size + as.length), .ref (hp.objs.size + as.length + 1)]) >>= fun r => ret r) _ _ _
    refine wpAny_bind (wpAny_newObj_type ?_ (by show 5 ≤ sizeLine + 2; rw [sizeLine_eq]; decide))
    refine wpAny_pure ⟨_, rfl, ?_⟩
    show R (.ok (.ret (.ref h3.objs.size))) ⟨h3.push { cls := .type "zip", data := .fields #[.none, .bool false, .bool false, .ref (hp.objs.size + as.length), .ref (hp.objs.size + as.length + 1)] }, g, d, tk, os⟩
    have g4 : ZipAt (h3.push { cls := .type "zip", data := .fields #[.none, .bool false, .bool false, .ref (hp.objs.size + as.length), .ref (hp.objs.size + as.length + 1)] }) (hp.objs.size + as.length + 2) (hp.objs.size + as.length) (hp.objs.size + as.length + 1) .none false := by
      rw [← z3]; exact Heap.get?_push_size _ rfl
    rw [z3]
    refine hR _ ⟨⟨_, _, g4, .inl rfl⟩, ?_, ⟨_, Heap.get?_push_of_some _ g3, by simp [hlen, hm]⟩, fun c hc => (t1 c hc).at fun o q => Heap.get?_push_of_some _ (k3 _ o (k2 _ o q))⟩ ⟨_, _, g4⟩ (by rw [Heap.size_push, z3]) fun b o e => Heap.get?_push_of_some _ (k3 _ o (k2 _ o (k1 _ o e)))
    show TupAt _ _ ((mkCs hp.objs.size as).map fun (c : Cm) => Value.ref c.it).toArray
    rw [ht]
    exact Heap.get?_push_of_some _ (k3 _ _ g2)
end
end G48
set_option Elab.async false
set_option linter.all false
set_option maxRecDepth 100000
set_option maxHeartbeats 1000000
/-! G48: zip of any number of lists and tuples, over the abstract heap. -/
namespace G48
open PySem PySem.Spec PyProof.Rows L2

section
variable {prog : Program} {w : World} {A : Around} {E : Value → Shared → Prop} {s : Shared} {h h' : Heap}
theorem call_zipN {as : List (Addr × Bool)} {Q : Value → Shared → Prop} (hne : as ≠ []) (hl : as.length ≤ 16) (hs : ∀ a ∈ as, SrcOk s.heap a)
    (hQ : ∀ h', ZSt h' (s.heap.objs.size + as.length + 2) (s.heap.objs.size + as.length) (s.heap.objs.size + as.length + 1) (mkCs s.heap.objs.size as) 0 → h'.objs.size = s.heap.objs.size + as.length + 3 →
      (∀ b o, s.heap.get? b = some o → h'.get? b = some o) → Q (.ref (s.heap.objs.size + as.length + 2)) { s with heap := h' }) :
    wpAny (model prog w) A (call (.type "zip") (as.map fun a => Value.ref a.1)) Q E s := by
  have n1 : (as.map fun a => Value.ref a.1) ≠ [] := by simpa using hne
  have n2 : (as.map fun a => Value.ref a.1).length ≤ 16 := by simpa using hl
  refine callType_new F.called_zip (by decide) (type_check _) (zip_check _ n1 n2) (fun obj => init_check obj _ n1 n2) F.entry_zip_new (meets_zipN as hl) ⟨hs, fun h' st ⟨f0, b, hz⟩ hsz hk => ?_⟩
  exact ⟨⟨_, hz, rfl⟩, hQ h' st hsz hk⟩
theorem mk_apart (N : Nat) (as : List (Addr × Bool)) (h : ∀ a ∈ as, a.1 < N) : Ap N (N + as.length + 2) (N + as.length) (N + as.length + 1) (mkCs N as) where
  nz := by show N ≤ N + as.length + 2; omega
  nI := by show N ≤ N + as.length; omega
  nO := by show N ≤ N + as.length + 1; omega
  zTI := by show N + as.length + 2 ≠ N + as.length; omega
  zTO := by show N + as.length + 2 ≠ N + as.length + 1; omega
  IO := by show N + as.length ≠ N + as.length + 1; omega
  it := fun c hc => by
    obtain ⟨h1, h2, h3⟩ := mkCs_mem as N c hc
    have h2 : (c.it : Nat) < N + as.length := h2
    refine ⟨h1, ?_, ?_, ?_, h _ h3⟩
    · exact Nat.ne_of_lt (Nat.lt_of_lt_of_le h2 (by omega))
    · exact Nat.ne_of_lt h2
    · exact Nat.ne_of_lt (Nat.lt_of_lt_of_le h2 (by omega))
  nd := mkCs_nd as N
/-- pyNext of a zip -/
theorem next_zipN {N y TI TO : Addr} {cs : List Cm} {src : Cm → Array Value} {i : Nat} {Q : Option Value → Shared → Prop} (hh : A.handled = none) (ap : Ap N y TI TO cs) (hne : cs ≠ []) (hl : cs.length ≤ sizeLine) (st : ZSt s.heap y TI TO cs i) (sr : ∀ c ∈ cs, SrcAt s.heap c (src c))
    (hQ : (∀ c ∈ cs, ∃ x, (src c)[i]? = some x) → ∀ (h' : Heap) (vs : List Value), vs.length = cs.length → (∀ (k : Nat) (c : Cm), cs[k]? = some c → (src c)[i]? = vs[k]?) → ZSt h' y TI TO cs (i + 1) → TupAt h' s.heap.objs.size vs.toArray → h'.objs.size = s.heap.objs.size + 1 → Kz y TO cs s.heap h' → Q (some (.ref s.heap.objs.size)) { s with heap := h' })
    (hN : ∀ (h' : Heap), (∃ c ∈ cs, (src c)[i]? = none) → Kz y TO cs s.heap h' → Q none { s with heap := h' }) :
    wpAny (model prog w) A (pyNext (.ref y)) Q E s := by
  obtain ⟨f0, b, hz, _⟩ := st.zip
  have hT : s.TypeIs (.ref y) "zip" := ⟨_, hz, rfl⟩
  unfold pyNext
  refine wpAny_bind (wpAny_attempt (wpAny_callSpecial?_slot (name := Str.ofString "__next__") hT F.slot_zip_next (wpAny_call_entry F.slot_zip_next hT F.entry_zip_next (zipN_next hh ap hne hl st sr ?_ ?_) (F.args_zip_next_1 _))))
  · intro h' vs a1 a2 a3 a4 a5 a6
    refine wpAny_pure (hQ (fun c hc => ?_) h' vs a1 a2 a3 a4 a5 a6)
    obtain ⟨k, hk⟩ := List.mem_iff_getElem?.mp hc
    rw [a2 k c hk]
    have : k < vs.length := by rw [a1]; exact (List.getElem?_eq_some_iff.mp hk).1
    exact ⟨_, List.getElem?_eq_getElem this⟩
  · intro h' e hx hk ⟨o, ho, hc⟩
    refine wpAny_bind (wpAny_isInstance (T := "StopIteration") (b := true) ⟨o, ho, hc⟩ isSubtype_stop (wpAny_pure (hN h' hx hk)))
/-- the tuple is let go, or not: the zip is as between two turns -/
theorem go_zipN {N y TI TO T : Addr} {cs : List Cm} {i : Nat} {tg : Expr} {Q : Unit → Shared → Prop} (ap : Ap N y TI TO cs) (st : ZSt s.heap y TI TO cs i)
    (hQ : ∀ h', ZSt h' y TI TO cs i → Heap.SameBut y s.heap h' → Q () { s with heap := h' }) (hQ0 : Q () s) : wpAny (model prog w) A (letOwnedTupleGo tg (.ref y) (.ref T)) Q E s := by
  obtain ⟨⟨f0, b, hz, hf⟩, hti, ⟨os, hto, hos⟩, hits⟩ := st
  have go : wpAny (model prog w) A (do
      let o ← load y
      match o.cls, o.data with
      | .type n, .fields vs =>
        if ["enumerate", "zip", "dict_itemiterator", "dict_reverseitemiterator", "odict_iterator", "itertools.zip_longest", "itertools.pairwise"].contains n && vs[0]? == some (rawInt T) then
          rule "for.unpacks-the-owned-tuple"
          updateField y 0 .none
      | _, _ => pure ()) Q E s := by
    refine wpAny_bind (wpAny_load hz ?_)
    show wpAny _ _ (if (["enumerate", "zip", "dict_itemiterator", "dict_reverseitemiterator", "odict_iterator", "itertools.zip_longest", "itertools.pairwise"].contains "zip" && ((#[f0, .bool b, .bool false, .ref TI, .ref TO] : Array Value)[0]? == some (rawInt T))) = true then _ else _) Q E s
    split
    · refine wpAny_bind (wpAny_rule ?_)
      show wpAny _ _ (setField (.ref y) 0 .none) Q E s
      refine wpAny_setField_rec hz (by simp) fun h1 z1 s1 => hQ h1 ⟨⟨.none, b, z1, .inl rfl⟩, s1.extBut _ _ (Ne.symm ap.zTI) hti, ⟨os, s1.extBut _ _ (Ne.symm ap.zTO) hto, hos⟩, fun c hc => (hits c hc).at fun o q => s1.extBut _ _ (ap.it c hc).2.1 q⟩ s1
    · exact wpAny_pure hQ0
  unfold letOwnedTupleGo
  cases tg <;> first | exact wpAny_pure hQ0 | exact go
end
end G48
set_option Elab.async false
set_option linter.all false
set_option maxRecDepth 100000
set_option maxHeartbeats 1000000
/-! G48: zip of any number of lists and tuples as what a loop walks. -/
namespace G48
open PySem PySem.Spec PyProof.Rows L2

def SqA (K : PySem.W.Frag) (H : Hp) (a : Addr × Bool) (xs : List V) : Prop := if a.2 = true then SqL K H a.1 xs else SqT K H a.1 xs
def col : List (List V) → Nat → Option (List V)
  | [], _ => some []
  | xs :: r, i => (xs[i]?).bind fun x => (col r i).map (x :: ·)
def ItZ (K : PySem.W.Frag) (as : List (Addr × Bool)) : It :=
  ⟨fun i H => ∃ xss ys, Paired (SqA K H) as xss ∧ col xss i = some ys,
   fun i H v H' => ∃ T ys, v = .ref T ∧ H T = none ∧ H' = upd H T (.tup ys) ∧ ∀ xss, Paired (SqA K H) as xss → col xss i = some ys,
   fun i H => ∃ xss, Paired (SqA K H) as xss ∧ col xss i = none⟩

theorem Paired.get {α β : Type} {F : α → β → Prop} : ∀ {l : List α} {m : List β} {k : Nat} {a : α}, Paired F l m → l[k]? = some a → ∃ b, m[k]? = some b ∧ F a b
  | _, _, _, _, .nil, e => by simp at e
  | _, _, 0, _, .cons r _, e => by simp at e; subst e; exact ⟨_, rfl, r⟩
  | _, _, k + 1, a, .cons _ t, e => by
    obtain ⟨b, h1, h2⟩ := Paired.get (k := k) (a := a) t (by simpa using e)
    exact ⟨b, by simpa using h1, h2⟩
theorem col_some : ∀ {xss : List (List V)} {i : Nat} {ys : List V}, col xss i = some ys → ys.length = xss.length ∧ ∀ (k : Nat) (xs : List V), xss[k]? = some xs → ∃ x : V, xs[i]? = some x ∧ ys[k]? = some x
  | [], i, ys, h => by simp [col] at h; subst h; simp
  | xs :: r, i, ys, h => by
    simp only [col, Option.bind_eq_some_iff, Option.map_eq_some_iff] at h
    obtain ⟨x, hx, zs, hz, e⟩ := h
    subst e
    obtain ⟨h1, h2⟩ := col_some hz
    refine ⟨by simp [h1], fun k ws hk => ?_⟩
    cases k with
    | zero => simp at hk; subst hk; exact ⟨x, hx, rfl⟩
    | succ k => obtain ⟨x', h3, h4⟩ := h2 k ws (by simpa using hk); exact ⟨x', h3, by simpa using h4⟩
theorem col_none : ∀ {xss : List (List V)} {i : Nat}, col xss i = none → ∃ (k : Nat) (xs : List V), xss[k]? = some xs ∧ xs[i]? = none
  | [], i, h => by simp [col] at h
  | xs :: r, i, h => by
    cases hx : xs[i]? with
    | none => exact ⟨0, xs, rfl, hx⟩
    | some x =>
      rw [col, hx, Option.bind_some, Option.map_eq_none_iff] at h
      obtain ⟨k, ws, h1, h2⟩ := col_none h
      exact ⟨k + 1, ws, by simpa using h1, h2⟩
theorem vals_by : ∀ {xs : List V} {us : List Value}, xs.length = us.length → (∀ (k : Nat) (x : V) (u : Value), xs[k]? = some x → us[k]? = some u → RelV x u) → Vals xs us
  | [], [], _, _ => .nil
  | x :: xs, u :: us, hl, h => .cons (h 0 x u rfl rfl) (vals_by (by simpa using hl) fun k x' u' h1 h2 => h (k + 1) x' u' (by simpa using h1) (by simpa using h2))
  | [], _ :: _, hl, _ => by simp at hl
  | _ :: _, [], hl, _ => by simp at hl
/-- what stands at a source -/
def srcOf (h : Heap) (c : Cm) : Array Value := match h.get? c.src with
  | some o => match o.data with
    | .seq xs _ => xs
    | _ => #[]
  | none => #[]
section
variable {X : Cx} {pins : List (Addr × Obj)} {σ : L2.St} {H : Hp} {s : Shared}
theorem srcOf_list {h : Heap} {c : Cm} {xs : Array Value} (t : SrcAt h c xs) : srcOf h c = xs := by
  unfold SrcAt at t
  split at t
  · obtain ⟨o, e, _, n, d⟩ := t; unfold srcOf; rw [e]; simp only [d]
  · obtain ⟨o, e, _, n, d⟩ := t; unfold srcOf; rw [e]; simp only [d]
theorem sqA_src (I : Inv X pins σ H s) {c : Cm} {xs : List V} (h : SqA X.K H (c.src, c.l) xs) : SrcAt s.heap c (srcOf s.heap c) ∧ Vals xs (srcOf s.heap c).toList ∧ SrcOk s.heap (c.src, c.l) := by
  unfold SqA at h
  by_cases e : c.l = true
  · rw [if_pos e] at h
    obtain ⟨its, rv, p, hz⟩ := I.list h
    have t : SrcAt s.heap c its.toArray := by unfold SrcAt; rw [if_pos e]; exact p.isList
    rw [srcOf_list t]
    exact ⟨t, rv, its.toArray, by show if c.l = true then _ else _; rw [if_pos e]; exact p.isList⟩
  · rw [if_neg e] at h
    obtain ⟨its, rv, p, hz⟩ := I.tuple h
    have t : SrcAt s.heap c its.toArray := by unfold SrcAt; rw [if_neg e]; exact p
    rw [srcOf_list t]
    exact ⟨t, rv, its.toArray, by show if c.l = true then _ else _; rw [if_neg e]; exact p⟩
theorem sqA_inj (I : Inv X pins σ H s) {a : Addr × Bool} {xs ys : List V} (h : SqA X.K H a xs) (h' : SqA X.K H a ys) : xs = ys := by
  unfold SqA at h h'
  split at h
  · next e => rw [if_pos e] at h'; exact I.list_inj h h'
  · next e => rw [if_neg e] at h'; exact I.tuple_inj h h'
theorem sqAs_inj (I : Inv X pins σ H s) : ∀ {as : List (Addr × Bool)} {xss yss : List (List V)}, Paired (SqA X.K H) as xss → Paired (SqA X.K H) as yss → xss = yss
  | _, _, _, .nil, .nil => rfl
  | _, _, _, .cons r t, .cons r' t' => by rw [sqA_inj I r r', sqAs_inj I t t']
end
def fpZ (N : Nat) (as : List (Addr × Bool)) : List Addr := (N + as.length + 2) :: (N + as.length) :: (N + as.length + 1) :: (mkCs N as).map (·.it)
theorem fpZ_range {N : Nat} {as : List (Addr × Bool)} {b : Addr} (h : b ∈ fpZ N as) : N ≤ b ∧ b < N + as.length + 3 := by
  simp only [fpZ, List.mem_cons, List.mem_map] at h
  rcases h with h | h | h | ⟨c, hc, h⟩
  · subst h; constructor <;> (show (_ : Nat) ≤ _; omega)
  · subst h; constructor <;> (show (_ : Nat) ≤ _; omega)
  · subst h; constructor <;> (show (_ : Nat) ≤ _; omega)
  · subst h
    obtain ⟨h1, h2, _⟩ := mkCs_mem as N c hc
    exact ⟨h1, Nat.lt_of_lt_of_le h2 (by omega)⟩
theorem turn_zipN {P : Program} {w : World} {K : PySem.W.Frag} {tg : Expr} (N : Nat) (as : List (Addr × Bool)) (hne : as ≠ []) (hl : as.length ≤ 16) (hlt : ∀ a ∈ as, a.1 < N) :
    Turn P w K tg (ItZ K as) (fpZ N as) (N + as.length + 2) (fun i h => ZSt h (N + as.length + 2) (N + as.length) (N + as.length + 1) (mkCs N as) i) where
  mem := by simp [fpZ]
  obj := fun i h st b hb => by
    obtain ⟨⟨f0, bb, hz, _⟩, hti, ⟨os, hto, _⟩, hits⟩ := st
    simp only [fpZ, List.mem_cons, List.mem_map] at hb
    rcases hb with q | q | q | ⟨c, hc, q⟩
    · rw [q]; exact ⟨_, hz, fun v z => nomatch z⟩
    · rw [q]; exact ⟨_, hti, fun v z => nomatch z⟩
    · rw [q]; exact ⟨_, hto, fun v z => nomatch z⟩
    · rw [← q]; exact (hits c hc).obj
  keep := fun i h h' st k => by
    obtain ⟨⟨f0, bb, hz, hf⟩, hti, ⟨os, hto, ho⟩, hits⟩ := st
    refine ⟨⟨f0, bb, k _ (by simp [fpZ]) _ hz, hf⟩, k _ (by simp [fpZ]) _ hti, ⟨os, k _ (by simp [fpZ]) _ hto, ho⟩, fun c hc => (hits c hc).at fun o q => k _ ?_ o q⟩
    simp only [fpZ, List.mem_cons, List.mem_map]
    exact .inr (.inr (.inr ⟨c, hc, rfl⟩))
  item := by
    intro X hP hw hK hc i pins s σ H E I hf st hg
    subst hP hw hK
    obtain ⟨xss, ys, hp, hy⟩ := hg
    obtain ⟨hy1, hy2⟩ := col_some hy
    have hpl : as.length = xss.length := Paired.length hp
    have ap := mk_apart N as hlt
    have fact : ∀ (k : Nat) (c : Cm), (mkCs N as)[k]? = some c → ∃ xs, xss[k]? = some xs ∧ SrcAt s.heap c (srcOf s.heap c) ∧ Vals xs (srcOf s.heap c).toList := fun k c hk => by
      obtain ⟨xs, h1, h2⟩ := Paired.get hp (mkCs_get as N k c hk)
      obtain ⟨h3, h4, _⟩ := sqA_src I h2
      exact ⟨xs, h1, h3, h4⟩
    have cne : mkCs N as ≠ [] := fun z => hne (by cases as with | nil => rfl | cons _ _ => simp [mkCs] at z)
    have big : as.length ≤ sizeLine := Nat.le_trans hl (by rw [sizeLine_eq]; decide)
    refine next_zipN (src := srcOf s.heap) (I.ok.hd hc) ap cne (by rw [mkCs_len]; exact big) st (fun c hcm => ?_) (fun _ h' vs a1 a2 a3 a4 a5 a6 => ?_) (fun h' ⟨c, hcm, hx⟩ _ => ?_)
    · obtain ⟨k, hk⟩ := List.mem_iff_getElem?.mp hcm
      obtain ⟨_, _, h3, _⟩ := fact k c hk
      exact h3
    · refine ⟨_, rfl, ?_⟩
      have fin : ∀ h'', ZSt h'' (N + as.length + 2) (N + as.length) (N + as.length + 1) (mkCs N as) (i + 1) → (∀ b o, b ≠ N + as.length + 2 → h'.get? b = some o → h''.get? b = some o) →
          ∃ x H', Inv X pins σ H' { s with heap := h'' } ∧ RelV x (.ref s.heap.objs.size) ∧ (ItZ X.K as).yld i H x H' ∧ ZSt h'' (N + as.length + 2) (N + as.length) (N + as.length + 1) (mkCs N as) (i + 1) ∧ ∀ b ∈ fpZ N as, H' b = none := fun h'' st'' hk'' => by
        have ylt : (N + as.length + 2 : Nat) < s.heap.objs.size := by
          obtain ⟨f0, b, hz, _⟩ := st.zip
          exact Heap.lt_size hz
        have hT : TupAt h'' s.heap.objs.size vs.toArray := hk'' _ _ (Nat.ne_of_gt ylt) a4
        have rv : Vals ys vs := by
          refine vals_by (by rw [hy1, a1, mkCs_len, hpl]) fun k x u h1 h2 => ?_
          have hkl : k < (mkCs N as).length := by rw [← a1]; exact (List.getElem?_eq_some_iff.mp h2).1
          obtain ⟨xs, e1, _, r1⟩ := fact k _ (List.getElem?_eq_getElem hkl)
          obtain ⟨x', e2, e3⟩ := hy2 k xs e1
          rw [h1] at e3; cases e3
          obtain ⟨u', e4, r4⟩ := r1.get e2
          have e5 := a2 k _ (List.getElem?_eq_getElem hkl)
          rw [h2] at e5
          rw [Array.getElem?_toList] at e4
          rw [e4] at e5; cases e5
          exact r4
        have new : ObjOk X.prog X.w (upd H s.heap.objs.size (.tup ys)) h'' s.heap.objs.size (.tup ys) := ⟨by rw [hy1, ← hpl]; exact big, vs, rv, ⟨_, hT, rfl, _, rfl⟩⟩
        have I1 : Inv X pins σ (upd H s.heap.objs.size (.tup ys)) { s with heap := h'' } :=
          I.turnedNew (t' := s.toks) (ch := fpZ N as) (fun c o hb q => by
            have nb : c ≠ N + as.length + 2 := fun z => hb (by simp [fpZ, z])
            refine hk'' c o nb (a6 c o nb (fun z => hb (by simp [fpZ, z])) (fun d hd z => hb ?_) q)
            simp only [fpZ, List.mem_cons, List.mem_map]
            exact .inr (.inr (.inr ⟨d, hd, z.symm⟩))) hf (Nat.le_refl _) new
        refine ⟨.ref s.heap.objs.size, _, I1, rfl, ⟨_, ys, rfl, I.hok.fresh (Nat.le_refl _), rfl, fun l hl => by rw [sqAs_inj I hl hp]; exact hy⟩, st'', fun b hb => ?_⟩
        have : b < s.heap.objs.size := by
          have h0 : ∀ b ∈ fpZ N as, b < s.heap.objs.size := fun b hb => by
            obtain ⟨f0, bb, hz, _⟩ := st.zip
            obtain ⟨os, hto, _⟩ := st.to
            simp only [fpZ, List.mem_cons, List.mem_map] at hb
            rcases hb with q | q | q | ⟨c, hc, q⟩
            · rw [q]; exact Heap.lt_size hz
            · rw [q]; exact Heap.lt_size st.ti
            · rw [q]; exact Heap.lt_size hto
            · rw [← q]; exact (st.its c hc).lt
          exact h0 b hb
        rw [upd_ne (Nat.ne_of_lt this)]
        exact (hf b hb).1
      refine go_zipN (s := { s with heap := h' }) ap a3 (fun h'' st'' sb => fin h'' st'' fun b o nb e => sb.extBut _ _ nb e) (fin h' a3 fun _ _ _ e => e)
    · exfalso
      obtain ⟨k, hk⟩ := List.mem_iff_getElem?.mp hcm
      obtain ⟨xs, e1, _, r1⟩ := fact k c hk
      obtain ⟨x, e2, _⟩ := hy2 k xs e1
      obtain ⟨u, e3, _⟩ := r1.get e2
      rw [Array.getElem?_toList, hx] at e3
      cases e3
  done := by
    intro X hP hw hK hc i pins s σ H E I hf st hg
    subst hP hw hK
    obtain ⟨xss, hp, hy⟩ := hg
    obtain ⟨k0, xs0, hk0, hx0⟩ := col_none hy
    have hpl : as.length = xss.length := Paired.length hp
    have ap := mk_apart N as hlt
    have fact : ∀ (k : Nat) (c : Cm), (mkCs N as)[k]? = some c → ∃ xs, xss[k]? = some xs ∧ SrcAt s.heap c (srcOf s.heap c) ∧ Vals xs (srcOf s.heap c).toList := fun k c hk => by
      obtain ⟨xs, h1, h2⟩ := Paired.get hp (mkCs_get as N k c hk)
      obtain ⟨h3, h4, _⟩ := sqA_src I h2
      exact ⟨xs, h1, h3, h4⟩
    have cne : mkCs N as ≠ [] := fun z => hne (by cases as with | nil => rfl | cons _ _ => simp [mkCs] at z)
    have big : as.length ≤ sizeLine := Nat.le_trans hl (by rw [sizeLine_eq]; decide)
    refine next_zipN (src := srcOf s.heap) (I.ok.hd hc) ap cne (by rw [mkCs_len]; exact big) st (fun c hcm => ?_) (fun hall _ _ _ _ _ _ _ _ => ?_) (fun h' _ a6 => ⟨rfl, ?_⟩)
    · obtain ⟨k, hk⟩ := List.mem_iff_getElem?.mp hcm
      obtain ⟨_, _, h3, _⟩ := fact k c hk
      exact h3
    · exfalso
      have hkl : k0 < (mkCs N as).length := by rw [mkCs_len, hpl]; exact (List.getElem?_eq_some_iff.mp hk0).1
      obtain ⟨xs, e1, _, r1⟩ := fact k0 _ (List.getElem?_eq_getElem hkl)
      rw [hk0] at e1; cases e1
      obtain ⟨x, hx⟩ := hall _ (List.getElem_mem hkl)
      have := r1.none_of hx0
      rw [Array.getElem?_toList, hx] at this
      cases this
    · refine I.turnedL (t' := s.toks) (ch := fpZ N as) (fun c o hb q => a6 c o (fun z => hb (by simp [fpZ, z])) (fun z => hb (by simp [fpZ, z])) (fun d hd z => hb ?_) q) hf
      simp only [fpZ, List.mem_cons, List.mem_map]
      exact .inr (.inr (.inr ⟨d, hd, z.symm⟩))
  self := fun A i s Q E st h => by
    obtain ⟨f0, b, hz, _⟩ := st.zip
    have hT : s.TypeIs (.ref (N + as.length + 2)) "zip" := ⟨_, hz, rfl⟩
    refine wpAny_pyIter_slot hT F.slot_zip_iter (wpAny_call_entry F.slot_zip_iter hT F.entry_zip_iter ?_ (F.args_zip_iter_1 _))
    exact wpAny_pure ⟨_, rfl, "zip", _, hT, F.slot_zip_next.lookup, h⟩
end G48
set_option Elab.async false
set_option linter.all false
set_option maxRecDepth 100000
set_option maxHeartbeats 1000000
/-! G48: what loops and comprehensions walk. -/
namespace G48
open PySem PySem.Spec PyProof.Rows L2

section
variable (T : XT)
/-- an iterator that gives the items ds, whatever happens meanwhile -/
def JOk (M : Mem) (β : Nat → Addr) (H : Hp) (ds : List D) (J : It) : Prop :=
  ds.length ≤ sizeLine ∧ ∀ (i : Nat) (m : Mem) (β' : Nat → Addr) (H' : Hp), Grow0 M β H m β' H' → Rl T m β' H' →
    (∀ d, ds[i]? = some d → J.go i H' ∧ ∀ x H2, J.yld i H' x H2 → Rep T m β' H2 d x ∧ Rl T m β' H2 ∧ Grow m β' H' m β' H2) ∧ (ds.length ≤ i → J.stop i H')
abbrev rdI (W : WX) (f : Env → Mem → R (List D)) : TI := rdG T (JOk T) W f
abbrev SI (X : Cx) (W : WX) (tg iter : Expr) (f : Env → Mem → R (List D)) : Prop := PI X tg iter (rdI T W f)
end

section
variable {T : XT} {M : Mem} {β : Nat → Addr} {H : Hp}
theorem keep_lst {ds : List D} {a : Addr} {xs : List V} (r : Rl T M β H) (h : H a = some (.lst xs)) (f : Free M β a) {m : Mem} {β' : Nat → Addr} {H' : Hp} (g : Grow0 M β H m β' H') : H' a = some (.lst xs) := g.keep a _ h f
theorem jok_list {K : PySem.W.Frag} {ds : List D} {a : Addr} {xs : List V} (r : Rl T M β H) (h : H a = some (.lst xs)) (f : Free M β a) (q : Reps T M β H ds xs) (hl : xs.length ≤ sizeLine) : JOk T M β H ds (Itl K a) := by
  refine ⟨by rw [q.length]; exact hl, fun i m β' H' g r' => ⟨fun d hd => ?_, fun hi => ⟨xs, .of (g.keep a _ h f), by rw [← q.length]; exact hi⟩⟩⟩
  obtain ⟨v, e, rv⟩ := (Reps.grow0 r g _ _ q).get hd
  refine ⟨⟨xs, v, .of (g.keep a _ h f), e⟩, fun x H2 ⟨eH, hx⟩ => ?_⟩
  subst eH
  have := hx xs (.of (g.keep a _ h f))
  rw [e] at this; cases this
  exact ⟨rv, r', Grow.refl⟩
theorem jok_tup {K : PySem.W.Frag} {ds : List D} {a : Addr} {xs : List V} (r : Rl T M β H) (h : H a = some (.tup xs)) (q : Reps T M β H ds xs) (hl : xs.length ≤ sizeLine) : JOk T M β H ds (Itt K a) := by
  refine ⟨by rw [q.length]; exact hl, fun i m β' H' g r' => ?_⟩
  have hk : H' a = some (.tup xs) := g.keep a _ h (r.free_of h rfl)
  refine ⟨fun d hd => ?_, fun hi => ⟨xs, .of hk, by rw [← q.length]; exact hi⟩⟩
  obtain ⟨v, e, rv⟩ := (Reps.grow0 r g _ _ q).get hd
  refine ⟨⟨xs, v, .of hk, e⟩, fun x H2 ⟨eH, hx⟩ => ?_⟩
  subst eH
  have := hx xs (.of hk)
  rw [e] at this; cases this
  exact ⟨rv, r', Grow.refl⟩
theorem rngL_get : ∀ (n : Nat) (lo st : Int) (i : Nat), (rngL lo st n)[i]? = if i < n then some (.int (lo + i * st)) else none
  | 0, lo, st, i => by simp [rngL]
  | n + 1, lo, st, 0 => by simp [rngL]
  | n + 1, lo, st, i + 1 => by
    simp only [rngL, List.getElem?_cons_succ, rngL_get n (lo + st) st i]
    by_cases h : i < n
    · rw [if_pos h, if_pos (by omega)]
      congr 2
      rw [Int.natCast_succ, Int.add_mul]; omega
    · rw [if_neg h, if_neg (by omega)]
theorem rngL_len : ∀ (n : Nat) (lo st : Int), (rngL lo st n).length = n
  | 0, _, _ => rfl
  | n + 1, lo, st => by simp [rngL, rngL_len n]
theorem jok_rng {lo : Int} {n : Nat} (hn : n ≤ sizeLine) : JOk T M β H (rngL lo 1 n) (Itr lo n) := by
  refine ⟨by rw [rngL_len]; exact hn, fun i m β' H' g r' => ⟨fun d hd => ?_, fun hi => by rw [rngL_len] at hi; exact hi⟩⟩
  rw [rngL_get] at hd
  split at hd
  · rename_i hi
    cases hd
    refine ⟨hi, fun x H2 ⟨e1, e2⟩ => ?_⟩
    subst e1 e2
    rw [Int.mul_one]
    exact ⟨rep_int, r', Grow.refl⟩
  · cases hd

/-! ### zip -/
theorem heads_some : ∀ {ls : List (List D)} {ds : List D} {rs : List (List D)}, heads ls = some (ds, rs) → ds.length = ls.length ∧ rs.length = ls.length ∧ ∀ (k : Nat) (l : List D), ls[k]? = some l → ∃ d r, l = d :: r ∧ ds[k]? = some d ∧ rs[k]? = some r
  | [], ds, rs, h => by simp [heads] at h; obtain ⟨h1, h2⟩ := h; subst h1 h2; simp
  | [] :: r, ds, rs, h => by simp [heads] at h
  | (d :: l) :: r, ds, rs, h => by
    simp only [heads, Option.map_eq_some_iff] at h
    obtain ⟨p, hp, e⟩ := h
    obtain ⟨h1, h2, h3⟩ := heads_some hp
    cases e
    refine ⟨by simp [h1], by simp [h2], fun k l' hk => ?_⟩
    cases k with
    | zero => simp at hk; subst hk; exact ⟨d, l, rfl, rfl, rfl⟩
    | succ k => obtain ⟨a, b, c1, c2, c3⟩ := h3 k l' (by simpa using hk); exact ⟨a, b, c1, by simpa using c2, by simpa using c3⟩
theorem heads_none : ∀ {ls : List (List D)}, heads ls = none → ∃ k : Nat, ls[k]? = some []
  | [], h => by simp [heads] at h
  | [] :: r, h => ⟨0, rfl⟩
  | (d :: l) :: r, h => by
    simp only [heads, Option.map_eq_none_iff] at h
    obtain ⟨k, hk⟩ := heads_none h
    exact ⟨k + 1, by simpa using hk⟩
/-- the i-th item of a zip -/
theorem zipN_get : ∀ (n : Nat) (ls : List (List D)) (i : Nat) (d : D), (zipN n ls)[i]? = some d → ∃ ds, d = .tup ds ∧ ds.length = ls.length ∧ ∀ (k : Nat) (l : List D), ls[k]? = some l → ∃ x, l[i]? = some x ∧ ds[k]? = some x
  | 0, ls, i, d, h => by simp [zipN] at h
  | n + 1, ls, i, d, h => by
    unfold zipN at h
    cases q : heads ls with
    | none => rw [q] at h; simp at h
    | some p =>
      obtain ⟨ds, rs⟩ := p
      rw [q] at h
      obtain ⟨h1, h2, h3⟩ := heads_some q
      cases i with
      | zero =>
        simp at h; subst h
        refine ⟨ds, rfl, h1, fun k l hk => ?_⟩
        obtain ⟨x, r, e1, e2, e3⟩ := h3 k l hk
        subst e1
        exact ⟨x, rfl, e2⟩
      | succ i =>
        simp only [List.getElem?_cons_succ] at h
        obtain ⟨ds', e, l1, h4⟩ := zipN_get n rs i d h
        refine ⟨ds', e, by rw [l1, h2], fun k l hk => ?_⟩
        obtain ⟨x, r, e1, e2, e3⟩ := h3 k l hk
        obtain ⟨x', e4, e5⟩ := h4 k r e3
        subst e1
        exact ⟨x', by simpa using e4, e5⟩
theorem zipN_end : ∀ (n : Nat) (ls : List (List D)), (∃ (k : Nat) (l : List D), ls[k]? = some l ∧ l.length ≤ n) → ∀ i, (zipN n ls).length ≤ i → ∃ (k : Nat) (l : List D), ls[k]? = some l ∧ l.length ≤ i
  | 0, ls, ⟨k, l, h1, h2⟩, i, _ => ⟨k, l, h1, by omega⟩
  | n + 1, ls, ⟨k, l, h1, h2⟩, i, hi => by
    unfold zipN at hi
    cases q : heads ls with
    | none =>
      obtain ⟨k', h'⟩ := heads_none q
      exact ⟨k', [], h', Nat.zero_le _⟩
    | some p =>
      obtain ⟨ds, rs⟩ := p
      rw [q] at hi
      obtain ⟨_, h4, h3⟩ := heads_some q
      obtain ⟨x, r, e1, e2, e3⟩ := h3 k l h1
      subst e1
      cases i with
      | zero => simp at hi
      | succ i =>
        obtain ⟨k', l', h5, h6⟩ := zipN_end n rs ⟨k, r, e3, by simpa using h2⟩ i (by simpa using hi)
        have hk : k' < ls.length := by rw [← h4]; exact (List.getElem?_eq_some_iff.mp h5).1
        obtain ⟨x', r', e4, e5, e6⟩ := h3 k' _ (List.getElem?_eq_getElem hk)
        rw [h5] at e6; cases e6
        exact ⟨k', x' :: l', by rw [← e4]; exact List.getElem?_eq_getElem hk, by simpa using h6⟩
end
end G48
set_option Elab.async false
set_option linter.all false
set_option maxRecDepth 100000
set_option maxHeartbeats 1000000
/-! G48: the rules of what is walked: sequences, ranges, zips. -/
namespace G48
open PySem PySem.Spec PyProof.Rows L2

section
variable {T : XT} {M : Mem} {β : Nat → Addr} {H : Hp}
/-- one column of a zip -/
def Src (T : XT) (M : Mem) (β : Nat → Addr) (H : Hp) (l : List D) (a : Addr × Bool) : Prop :=
  ∃ xs, (if a.2 = true then H a.1 = some (.lst xs) else H a.1 = some (.tup xs)) ∧ Free M β a.1 ∧ Reps T M β H l xs
theorem Src.grow {m : Mem} {β' : Nat → Addr} {H' : Hp} {l : List D} {a : Addr × Bool} (r : Rl T M β H) (g : Grow0 M β H m β' H') (h : Src T M β H l a) : Src T m β' H' l a := by
  obtain ⟨xs, h1, h2, h3⟩ := h
  refine ⟨xs, ?_, ?_, Reps.grow0 r g _ _ h3⟩
  · split at h1
    · next e => rw [if_pos e]; exact g.keep _ _ h1 h2
    · next e => rw [if_neg e]; exact g.keep _ _ h1 h2
  · split at h1
    · exact g.free h1 h2
    · exact g.free h1 h2
theorem Src.sq {K : PySem.W.Frag} {l : List D} {a : Addr × Bool} (h : Src T M β H l a) : ∃ xs, SqA K H a xs ∧ Reps T M β H l xs := by
  obtain ⟨xs, h1, h2, h3⟩ := h
  refine ⟨xs, ?_, h3⟩
  unfold SqA
  split at h1
  · next e => rw [if_pos e]; exact .of h1
  · next e => rw [if_neg e]; exact .of h1
theorem srcs_sq {K : PySem.W.Frag} : ∀ {ls : List (List D)} {as : List (Addr × Bool)}, Paired (Src T M β H) ls as → ∃ xss, Paired (SqA K H) as xss ∧ Paired (fun l xs => Reps T M β H l xs) ls xss
  | _, _, .nil => ⟨[], .nil, .nil⟩
  | _, _, .cons h t => by
    obtain ⟨xs, h1, h2⟩ := h.sq (K := K)
    obtain ⟨xss, h3, h4⟩ := srcs_sq (K := K) t
    exact ⟨xs :: xss, .cons h1 h3, .cons h2 h4⟩
theorem Paired.imp {α γ : Type} {F G : α → γ → Prop} (h : ∀ a b, F a b → G a b) : ∀ {l : List α} {m : List γ}, Paired F l m → Paired G l m
  | _, _, .nil => .nil
  | _, _, .cons r t => .cons (h _ _ r) (Paired.imp h t)
theorem Paired.get2 {α γ : Type} {F : α → γ → Prop} : ∀ {l : List α} {m : List γ} {k : Nat} {b : γ}, Paired F l m → m[k]? = some b → ∃ a, l[k]? = some a ∧ F a b
  | _, _, _, _, .nil, e => by simp at e
  | _, _, 0, _, .cons r _, e => by simp at e; subst e; exact ⟨_, rfl, r⟩
  | _, _, k + 1, a, .cons _ t, e => by
    obtain ⟨b, h1, h2⟩ := Paired.get2 (k := k) (b := a) t (by simpa using e)
    exact ⟨b, by simpa using h1, h2⟩
theorem col_of : ∀ {ls : List (List D)} {xss : List (List V)} {i : Nat} {ds : List D}, Paired (fun l xs => Reps T M β H l xs) ls xss → ds.length = ls.length → (∀ (k : Nat) (l : List D), ls[k]? = some l → ∃ x, l[i]? = some x ∧ ds[k]? = some x) →
    ∃ ys, col xss i = some ys ∧ Reps T M β H ds ys
  | _, _, i, ds, .nil, hl, _ => by
    have : ds = [] := List.length_eq_zero_iff.mp hl
    subst this
    exact ⟨[], rfl, Reps.nil⟩
  | _, _, i, [], .cons r t, hl, h => by simp at hl
  | _, _, i, d :: ds, .cons r t, hl, h => by
    obtain ⟨x, h1, h2⟩ := h 0 _ rfl
    simp at h2; subst h2
    obtain ⟨v, h3, h4⟩ := Reps.get r h1
    obtain ⟨ys, h5, h6⟩ := col_of (i := i) (ds := ds) t (by simpa using hl) fun k l hk => by simpa using h (k + 1) l (by simpa using hk)
    exact ⟨v :: ys, by simp [col, h3, h5], Reps.cons h4 h6⟩
theorem col_end : ∀ {xss : List (List V)} {i : Nat} {k : Nat} {xs : List V}, xss[k]? = some xs → xs[i]? = none → col xss i = none
  | [], _, _, _, h, _ => by simp at h
  | x :: r, i, 0, xs, h, e => by simp at h; subst h; simp [col, e]
  | x :: r, i, k + 1, xs, h, e => by
    have := col_end (i := i) (k := k) (xss := r) (by simpa using h) e
    simp [col, this]
theorem zipN_len : ∀ (n : Nat) (ls : List (List D)), (zipN n ls).length ≤ n
  | 0, _ => by simp [zipN]
  | n + 1, ls => by
    unfold zipN
    split
    · simp
    · simp; exact zipN_len n _
theorem zipL_len {l : List D} {ls : List (List D)} : (zipL (l :: ls)).length ≤ l.length := by unfold zipL; exact zipN_len _ _
theorem jok_zip {K : PySem.W.Frag} {ls : List (List D)} {as : List (Addr × Bool)} (r : Rl T M β H) (q : Paired (Src T M β H) ls as) (hne : ls ≠ []) (hl : ∀ l ∈ ls, l.length ≤ sizeLine) : JOk T M β H (zipL ls) (ItZ K as) := by
  obtain ⟨l0, lr, e0⟩ : ∃ l r, ls = l :: r := by cases ls with | nil => exact absurd rfl hne | cons l r => exact ⟨l, r, rfl⟩
  refine ⟨by subst e0; exact Nat.le_trans zipL_len (hl _ (by simp)), fun i m β' H' g r' => ?_⟩
  have q' : Paired (Src T m β' H') ls as := Paired.imp (fun l a h => h.grow r g) q
  obtain ⟨xss, h1, h2⟩ := srcs_sq (K := K) q'
  have ez : zipL ls = zipN l0.length ls := by subst e0; rfl
  refine ⟨fun d hd => ?_, fun hi => ?_⟩
  · rw [ez] at hd
    obtain ⟨ds, e1, e2, e3⟩ := zipN_get _ _ _ _ hd
    obtain ⟨ys, h3, h4⟩ := col_of h2 e2 e3
    refine ⟨⟨xss, ys, h1, h3⟩, fun x H2 ⟨t, zs, e4, hn, e5, h5⟩ => ?_⟩
    have := h5 xss h1
    rw [h3] at this; cases this
    subst e4 e5 e1
    exact ⟨new_tup r' hn h4, r'.laid hn, Grow.laid r' hn⟩
  · rw [ez] at hi
    obtain ⟨k, l, h3, h4⟩ := zipN_end l0.length ls ⟨0, l0, by subst e0; rfl, Nat.le_refl _⟩ i hi
    obtain ⟨xs, h5, h6⟩ := Paired.get h2 h3
    exact ⟨xss, h1, col_end h5 (List.getElem?_eq_none (by rw [← h6.length]; exact h4))⟩
/-- what a zip is made of -/
theorem srcs_of (r : Rl T M β H) : ∀ {ds : List D} {ls : List (List D)} {vs : List V}, seqsD ds = some ls → Reps T M β H ds vs → ∃ as : List (Addr × Bool), vs = as.map (fun a => V.ref a.1) ∧ Paired (Src T M β H) ls as
  | [], ls, vs, h, q => by
    simp [seqsD] at h; subst h
    unfold Reps at q; subst q
    exact ⟨[], rfl, .nil⟩
  | d :: ds, ls, vs, h, q => by
    simp only [seqsD, Option.bind_eq_some_iff, Option.map_eq_some_iff] at h
    obtain ⟨l, h1, ls', h2, h3⟩ := h
    subst h3
    unfold Reps at q
    obtain ⟨v, vr, e, q1, q2⟩ := q
    subst e
    obtain ⟨as, e1, p⟩ := srcs_of r h2 q2
    subst e1
    cases d <;> simp only [seqD, reduceCtorEq] at h1
    · cases h1
      unfold Rep at q1
      obtain ⟨a, xs, e2, e3, e4⟩ := q1
      subst e2
      exact ⟨(a, false) :: as, rfl, .cons ⟨xs, by rw [if_neg (by simp)]; exact e3, r.free_of e3 rfl, e4⟩ p⟩
    · cases h1
      unfold Rep at q1
      obtain ⟨a, xs, e2, e3, e5, e4⟩ := q1
      subst e2
      exact ⟨(a, true) :: as, rfl, .cons ⟨xs, by rw [if_pos rfl]; exact e3, e5, e4⟩ p⟩
end

section
variable {T : XT} {X : Cx} {W : WX} {pos p sp : Pos} {tg e a b : Expr} {es : List Expr} {f fa fb : Env → Mem → R D} {fs : Env → Mem → R (List D)}
theorem si_of (he : SE T X W e f) : SI T X W tg e fun ρ m => (f ρ m).bind fun x m => .of (seqD x) m := by
  refine ⟨fun pins s σ H R I ⟨ρ, M, β, l, r, o⟩ => ?_⟩
  refine thn (he.pe.run pins s σ H (fun v H1 => ∃ x m β1 ds, Rep T m β1 H1 x v ∧ Rl T m β1 H1 ∧ seqD x = some ds ∧ ∀ J, JOk T m β1 H1 ds J → R J H1) I
    ⟨ρ, M, β, l, r, Out.bind o fun x m v H1 β1 hx r1 g1 o1 => ?_⟩) fun v s1 ⟨x, H1, I1, r1, d, m, β1, ds, hd, rl, hs, q⟩ => ?_
  · obtain ⟨z, e1, o2⟩ := o1.of
    exact ⟨x, m, β1, z, hx, r1, e1, fun J hJ => o2 J H1 β1 hJ r1 Grow.refl⟩
  · cases d <;> simp only [seqD, reduceCtorEq] at hs
    · cases hs
      unfold Rep at hd
      obtain ⟨a, xs, e1, h1, h2⟩ := hd
      subst e1
      cases r1
      obtain ⟨its, rv, pp, hz⟩ := I1.tuple (.of h1)
      refine wpAny_pyIter_tuple (show s1.heap.IsTuple a its.toArray from pp) (pi_one (tk := s1.toks) I1 _ (turn_tuple a _) ⟨_, Heap.get?_push_size _ rfl, rfl, rfl⟩ (q _ (jok_tup rl h1 h2 hz)))
    · cases hs
      unfold Rep at hd
      obtain ⟨a, xs, e1, h1, hf, h2⟩ := hd
      subst e1
      cases r1
      obtain ⟨its, rv, pp, hz⟩ := I1.list (.of h1)
      refine wpAny_pyIter_list pp.isList (pi_one (tk := s1.toks) I1 _ (turn_list a _) ⟨_, Heap.get?_push_size _ rfl, rfl, rfl⟩ (q _ (jok_list rl h1 hf h2 hz)))
theorem big_size : BIG ≤ sizeLine := by rw [sizeLine_eq]; decide
theorem si_rng1 (hg : Gl X "range") (hm : X.mg "range" = none) (ha : SA T X W [a] fs) (hn : nst a = true) : SI T X W tg (.Call (.Name "range" p) [a] [] pos) fun ρ m => (fs ρ m).bind fun ds m => .of ((if ds.length = 1 then some ds else none).bind rngD) m := by
  refine ⟨fun pins s σ H R I ⟨ρ, M, β, l, r, o⟩ => (pi_range1 hg hm ha (star_no hn)).run pins s σ H R I ⟨ρ, M, β, l, r, Out.bind o fun ds m vs H1 β1 hx r1 g1 o1 => ?_⟩⟩
  obtain ⟨z, e1, o2⟩ := o1.of
  have big := big_size
  match ds, hx, e1 with
  | [d], hx, e1 =>
    simp only [List.length_singleton, if_true, Option.bind_some] at e1
    cases d <;> simp only [rngD, reduceCtorEq] at e1
    split at e1
    · next h =>
      cases e1
      unfold Reps at hx
      obtain ⟨v, q, e2, h1, h2⟩ := hx
      unfold Reps at h2; unfold Rep at h1
      subst e2 h2 h1
      have hb : (BIG : Int) < 2 ^ 62 := by decide
      have g1 := leB_le.mp h.1
      have g2 := leB_le.mp h.2
      have g3 : ((2 ^ 62 : Nat) : Int) = 2 ^ 62 := by decide
      exact ⟨_, rfl, by omega, Int.lt_of_le_of_lt g2 hb, o2 _ _ β1 (jok_rng (by omega)) r1 Grow.refl⟩
    · cases e1
theorem si_rng2 (hg : Gl X "range") (hm : X.mg "range" = none) (ha : SA T X W [a, b] fs) (hn : nst a = true) (hn2 : nst b = true) : SI T X W tg (.Call (.Name "range" p) [a, b] [] pos) fun ρ m => (fs ρ m).bind fun ds m => .of ((if ds.length = 2 then some ds else none).bind rngD) m := by
  refine ⟨fun pins s σ H R I ⟨ρ, M, β, l, r, o⟩ => (pi_range2 hg hm ha (by rw [star_no hn, star_no hn2]; rfl) (star_no hn2)).run pins s σ H R I ⟨ρ, M, β, l, r, Out.bind o fun ds m vs H1 β1 hx r1 g1 o1 => ?_⟩⟩
  obtain ⟨z, e1, o2⟩ := o1.of
  have big := big_size
  match ds, hx, e1 with
  | [d, d'], hx, e1 =>
    simp only [List.length_cons, List.length_nil, if_true, Option.bind_some] at e1
    cases d <;> cases d' <;> simp only [rngD, reduceCtorEq] at e1
    split at e1
    · next h =>
      cases e1
      unfold Reps at hx
      obtain ⟨v, q, e2, h1, h2⟩ := hx
      unfold Reps at h2; unfold Rep at h1
      obtain ⟨v', q', e3, h3, h4⟩ := h2
      unfold Reps at h4; unfold Rep at h3
      subst e2 e3 h1 h3 h4
      have g1 := leB_le.mp h.1
      have g2 := leB_le.mp h.2.1
      have g3 := leB_le.mp h.2.2.1
      have g4 := leB_le.mp h.2.2.2.1
      have g5 := leB_le.mp h.2.2.2.2
      have g6 : ((2 ^ 62 : Nat) : Int) = 2 ^ 62 := by decide
      have g7 : ((2 ^ 62 - 1 : Nat) : Int) = 2 ^ 62 - 1 := by decide
      exact ⟨_, _, rfl, ⟨by omega, by omega, by omega, by omega⟩, o2 _ _ β1 (jok_rng (by omega)) r1 Grow.refl⟩
    · cases e1

/-! ### zip -/
theorem vals_refs : ∀ {as : List (Addr × Bool)} {us : List Value}, Vals (as.map fun a => V.ref a.1) us → us = as.map fun a => Value.ref a.1
  | [], _, h => by cases h; rfl
  | a :: as, _, h => by
    cases h with
    | cons h1 h2 =>
      cases h1
      rw [vals_refs h2]
      rfl
theorem len_of {pins : List (Addr × Obj)} {σ : L2.St} {H : Hp} {s : Shared} {M : Mem} {β : Nat → Addr} {l : List D} {a : Addr × Bool} (I : Inv X pins σ H s) (h : Src T M β H l a) : l.length ≤ sizeLine ∧ SrcOk s.heap a ∧ a.1 < s.heap.objs.size := by
  obtain ⟨xs, h1, h2, h3⟩ := h
  rw [h3.length]
  split at h1
  · next e =>
    obtain ⟨its, rv, pp, hz⟩ := I.list (.of h1)
    exact ⟨hz, ⟨its.toArray, by rw [if_pos e]; exact pp.isList⟩, pp.lt⟩
  · next e =>
    obtain ⟨its, rv, pp, hz⟩ := I.tuple (.of h1)
    have k : SrcOk s.heap a := ⟨its.toArray, by rw [if_neg e]; exact pp⟩
    exact ⟨hz, k, k.lt⟩
/-- a zip made and walked -/
theorem zip_it {pins : List (Addr × Obj)} {σ : L2.St} {H : Hp} {s : Shared} {R : It → Hp → Prop} {E : Value → Shared → Prop} {M : Mem} {β : Nat → Addr} {ls : List (List D)} {as : List (Addr × Bool)} (I : Inv X pins σ H s) (r : Rl T M β H) (q : Paired (Src T M β H) ls as)
    (hne : as ≠ []) (hl : as.length ≤ 16) (hR : ∀ J, JOk T M β H (zipL ls) J → R J H) :
    wpAny (model X.prog X.w) X.A (call (.type "zip") (as.map fun a => Value.ref a.1)) (fun v s1 => wpAny (model X.prog X.w) X.A (pyIter v) (PIE X pins σ tg R) E s1) E s := by
  have each : ∀ a ∈ as, SrcOk s.heap a ∧ a.1 < s.heap.objs.size := fun a ha => by
    obtain ⟨k, hk⟩ := List.mem_iff_getElem?.mp ha
    obtain ⟨l, _, h2⟩ := Paired.get2 q hk
    exact (len_of I h2).2
  have lens : ∀ l ∈ ls, l.length ≤ sizeLine := fun l hm => by
    obtain ⟨k, hk⟩ := List.mem_iff_getElem?.mp hm
    obtain ⟨a, _, h2⟩ := Paired.get q hk
    exact (len_of I h2).1
  have lne : ls ≠ [] := fun z => by subst z; cases q; exact hne rfl
  refine call_zipN hne hl (fun a ha => (each a ha).1) fun h' st hsz hk => ?_
  have Tn := turn_zipN (P := X.prog) (w := X.w) (K := X.K) (tg := tg) s.heap.objs.size as hne hl (fun a ha => (each a ha).2)
  refine Tn.self X.A 0 _ _ _ st ?_
  refine ⟨_, _, _, _, H, rfl, I.kept (t' := s.toks) hk, Tn, st, fun b hb => ?_, hR _ (jok_zip r q lne lens)⟩
  have hle := (fpZ_range hb).1
  exact I.fpOk hle (I.hok.fresh hle)
theorem si_zip (hg : Gl X "zip") (hm : X.mg "zip" = none) (ha : SA T X W (e :: es) fs) (hn : (e :: es).all nst = true) : SI T X W tg (.Call (.Name "zip" p) (e :: es) [] pos) fun ρ m => (fs ρ m).bind fun ds m => (R.of (zipD ds) m).bind fun ls m => .ok (zipL ls) m := by
  have hn' : nst e = true ∧ es.all nst = true := by simpa using hn
  refine ⟨fun pins s σ H R I ⟨ρ, M, β, l, r, o⟩ => ?_⟩
  refine Call_ (ld_blt I hg hm PyProof.Rows.boot_zip (PyProof.Rows.callWith_type1 (thn (ha.run pos pins s σ H (fun vs H1 => ∃ m β1 ls as, vs = as.map (fun a : Addr × Bool => V.ref a.1) ∧ as ≠ [] ∧ as.length ≤ 16 ∧ Rl T m β1 H1 ∧ Paired (Src T m β1 H1) ls as ∧ ∀ J, JOk T m β1 H1 (zipL ls) J → R J H1) I
    ⟨ρ, M, β, l, r, Out.bind o fun ds m vs H1 β1 hx r1 g1 o1 => ?_⟩) fun us s1 ⟨vs, H1, I1, rv, m, β1, ls, as, e1, h1, h2, rl, h3, h4⟩ => ?_) (star_no hn'.1) (plain_args hn'.2)))
  · unfold zipD at o1
    split at o1
    · next h =>
      cases q : seqsD ds with
      | none => rw [q] at o1; exact o1.elim
      | some ls =>
        rw [q] at o1
        obtain ⟨as, e1, h3⟩ := srcs_of r1 q hx
        have hl : ds.length = as.length := by rw [hx.length, e1, List.length_map]
        exact ⟨m, β1, ls, as, e1, fun z => h.2 (by rw [z] at hl; exact List.length_eq_zero_iff.mp hl), by omega, r1, h3, fun J hJ => o1 J H1 β1 hJ r1 Grow.refl⟩
    · exact o1.elim
  · subst e1
    rw [vals_refs rv]
    exact zip_it I1 rl h3 h1 h2 h4
theorem si_zipS (hg : Gl X "zip") (hm : X.mg "zip" = none) (he : SE T X W e f) : SI T X W tg (.Call (.Name "zip" p) [.Starred e sp] [] pos) fun ρ m => (f ρ m).bind fun x m => (R.of (seqD (peek m x)) m).bind fun ds m => (R.of (zipD ds) m).bind fun ls m => .ok (zipL ls) m := by
  refine ⟨fun pins s σ H R I ⟨ρ, M, β, l, r, o⟩ => ?_⟩
  refine Call_ (ld_blt I hg hm PyProof.Rows.boot_zip ?_)
  show wpAny _ _ (callWith pos (.type "zip") [] (backTo pos (starEach [.Starred e sp] X.env)) []) _ _ _
  have main : wpAny (model X.prog X.w) X.A (eval e X.env) (fun v s1 => PySem.W.StarOf (model X.prog X.w) X.A X.xe v (fun us s2 => X.K.In s2.heap ∧ wpAny (model X.prog X.w) X.A (call (.type "zip") ([] ++ us)) (fun v s1 => wpAny (model X.prog X.w) X.A (pyIter v) (PIE X pins σ tg R) X.xe s1) X.xe s2) s1) X.xe s := by
    refine thn (he.pe.run pins s σ H (fun v H1 => ∃ a xs m β1 ls as, v = .ref a ∧ (SqT X.K H1 a xs ∨ SqL X.K H1 a xs) ∧ xs = as.map (fun a : Addr × Bool => V.ref a.1) ∧ as ≠ [] ∧ as.length ≤ 16 ∧ Rl T m β1 H1 ∧ Paired (Src T m β1 H1) ls as ∧ ∀ J, JOk T m β1 H1 (zipL ls) J → R J H1) I
      ⟨ρ, M, β, l, r, Out.bind o fun x m v H1 β1 hx r1 g1 o1 => ?_⟩) fun v s1 ⟨v', H1, I1, rv, a, xs, m, β1, ls, as, e0, hsq, e1, h1, h2, rl, h3, h4⟩ => ?_
    · have sn := Seen.peek r1 hx
      cases q0 : seqD (peek m x) with
      | none => rw [q0] at o1; exact o1.elim
      | some ds =>
        rw [q0] at o1
        simp only [G48.R.of_some, G48.R.bind_ok] at o1
        obtain ⟨a, xs, e0, hsq, hxs⟩ : ∃ a xs, v = .ref a ∧ (SqT X.K H1 a xs ∨ SqL X.K H1 a xs) ∧ Reps T m β1 H1 ds xs := by
          generalize peek m x = y at q0 sn
          cases y <;> simp only [seqD, reduceCtorEq] at q0
          · cases q0
            obtain ⟨a, zs, e1, h1, hz⟩ := sn.tup
            exact ⟨a, zs, e1, .inl (.of h1), hz⟩
          · cases q0
            obtain ⟨a, zs, e1, h1, hz⟩ := sn.lst
            exact ⟨a, zs, e1, .inr (.of h1), hz⟩
        unfold zipD at o1
        split at o1
        · next h =>
          cases q : seqsD ds with
          | none => rw [q] at o1; exact o1.elim
          | some ls =>
            rw [q] at o1
            obtain ⟨as, e1, h3⟩ := srcs_of r1 q hxs
            have hl : ds.length = as.length := by rw [hxs.length, e1, List.length_map]
            exact ⟨a, xs, m, β1, ls, as, e0, hsq, e1, fun z => h.2 (by rw [z] at hl; exact List.length_eq_zero_iff.mp hl), by omega, r1, h3, fun J hJ => o1 J H1 β1 hJ r1 Grow.refl⟩
        · exact o1.elim
    · subst e0
      cases rv
      refine StX.star_any I1 hsq fun us s2 I2 rv2 => ⟨I2.kIn, ?_⟩
      subst e1
      rw [vals_refs rv2]
      exact zip_it I2 rl h3 h1 h2 h4
  have hs : starEach [.Starred e sp] X.env = [(true, eval e X.env)] := rfl
  rw [hs]
  exact PySem.W.ks_call (P := X.K.In) rfl (fun h _ => ⟨Keeper.machine, .inr (.inl rfl), fun A Q E s _ q => wpAny_pure q⟩) (PySem.W.ks_lone main)
end
end G48
set_option Elab.async false
set_option linter.all false
set_option maxRecDepth 100000
set_option maxHeartbeats 1000000
/-! G48: enumerate of a list or a tuple. -/
namespace G48
open PySem PySem.Spec PyProof.Rows L2

theorem meets_enumB {v : Value} {ob : Obj} {Hh : Heap → Prop} (B : Begins v ob Hh) :
    Meets (Builtin.«enumerate.__new__» ⟨[.type "enumerate", v], []⟩) (fun _ R s => Hh s.heap ∧
      R (.ok (.ret (.ref (s.heap.push ob).objs.size))) { s with heap := (s.heap.push ob).push { cls := .type "enumerate", data := .fields #[.none, .bool false, .ref s.heap.objs.size, rawInt 0, .none, .none] } }) :=
  .of_wp fun pr wo A R s h => by
    obtain ⟨hp, gl, dd, tk, os⟩ := s; obtain ⟨h1, h⟩ := h
    have hsub := sub_enumerate
    have q1 : ∀ {A1 : Around} {E1 : Value → Shared → Prop} {Q1 : Value → Shared → Prop}, Q1 (.ref hp.objs.size) ⟨hp.push ob, gl, dd, tk, os⟩ → wpAny (model pr wo) A1 (pyIter v) Q1 E1 ⟨hp, gl, dd, tk, os⟩ :=
      fun q => B.iter pr wo _ _ ⟨hp, gl, dd, tk, os⟩ _ h1 q
    wp_walk using q1
    refine wpAny_stack_any fun st => wpAny_pure ?_
    split
    · rename_i c _ _ _ _ _
      cases (c == Value.type "enumerate")
      · wp_walk using q1
        exact ⟨_, rfl, h⟩
      · wp_walk using q1
        exact ⟨_, rfl, h⟩
    · wp_walk using q1
      exact ⟨_, rfl, h⟩
section
variable {prog : Program} {w : World} {A : Around} {E : Value → Shared → Prop} {s : Shared}
theorem enumB {v : Value} {ob : Obj} {Hh : Heap → Prop} {Q : Value → Shared → Prop} (B : Begins v ob Hh) (h1 : Hh s.heap)
    (h : ∀ h2, IsEnum h2 (s.heap.objs.size + 1) s.heap.objs.size 0 .none → h2.get? s.heap.objs.size = some ob → (∀ b ob2, s.heap.get? b = some ob2 → h2.get? b = some ob2) → Q (.ref (s.heap.objs.size + 1)) { s with heap := h2 }) :
    wpAny (model prog w) A (call (.type "enumerate") [v]) Q E s := by
  refine callType_new F.called_enumerate (by decide) (F.typeCall_enumerate_1 _) (F.newCall_enumerate_1 _) (fun x => F.args_object_init_2 x _) F.entry_enumerate_new (meets_enumB B) ⟨h1, ?_⟩
  have hz : (s.heap.push ob).objs.size = s.heap.objs.size + 1 := Heap.size_push ..
  show _ ∧ _
  rw [hz]
  have he : IsEnum ((s.heap.push ob).push { cls := .type "enumerate", data := .fields #[.none, .bool false, .ref s.heap.objs.size, rawInt 0, .none, .none] }) (s.heap.objs.size + 1) s.heap.objs.size 0 .none := by
    have t := Heap.get?_push_size (s.heap.push ob) (o := { cls := .type "enumerate", data := .fields #[.none, .bool false, .ref s.heap.objs.size, rawInt 0, .none, .none] }) rfl
    rw [hz] at t; exact t
  exact ⟨⟨_, he, rfl⟩, h _ he (Heap.get?_push_of_some _ (Heap.get?_push_size _ B.free)) fun b ob2 x => Heap.get?_push_of_some _ (Heap.get?_push_of_some _ x)⟩
end

/-- the items at a with their places -/
def ItE (K : PySem.W.Frag) (a : Addr × Bool) : It :=
  ⟨fun i H => ∃ (xs : List V) (x : V), SqA K H a xs ∧ xs[i]? = some x, fun i H v H' => ∃ t x, v = .ref t ∧ H t = none ∧ H' = upd H t (.tup [.int (i : Nat), x]) ∧ ∀ xs, SqA K H a xs → xs[i]? = some x, fun i H => ∃ xs : List V, SqA K H a xs ∧ xs.length ≤ i⟩
theorem draws_of {prog : Program} {w : World} {A : Around} (hh : A.handled = none) (c : Cm) (hne : c.src ≠ c.it) (items : Array Value) :
    Draws prog w A c.it [c.it, c.src] items.size (fun i v => items[i]? = some v) (fun i h => ItAt h c i ∧ SrcAt h c items) := by
  obtain ⟨it, src, l⟩ := c
  cases l
  · exact Draws.tuple hh it src hne items
  · exact Draws.list hh it src hne items
theorem turn_enumA {P : Program} {w : World} {K : PySem.W.Frag} {elts : List Expr} {kk : Nat} {tpos : Pos} (c : Cm) (e : Addr) (hne : c.src ≠ c.it) (hes : e ≠ c.src) :
    Turn P w K (.Tuple elts kk tpos) (ItE K (c.src, c.l)) [e, c.it] e (fun i h => (∃ old, IsEnum h e c.it ((i : Nat) : Int) old) ∧ ItAt h c i ∧ e ≠ c.it) where
  mem := by simp
  obj := fun i h st b hb => by
    obtain ⟨⟨old, he⟩, ho, _⟩ := st
    have z : b = e ∨ b = c.it := by simpa using hb
    rcases z with z | z
    · subst z; exact ⟨_, he, fun v q => nomatch q⟩
    · subst z; exact ho.obj
  keep := fun i h h2 st k => let ⟨⟨old, he⟩, hi, hn⟩ := st; ⟨⟨old, k e (by simp) _ he⟩, hi.at fun o q => k c.it (by simp) o q, hn⟩
  item := by
    intro X hP hw hK hc i pins s σ H E I hf st hg
    subst hP hw hK
    obtain ⟨⟨old, he⟩, hit, hni⟩ := st
    obtain ⟨xs, x, hq, hx⟩ := hg
    obtain ⟨sr, rv, _⟩ := sqA_src I hq
    obtain ⟨u, hu, ru⟩ := rv.get hx
    have hel : e < s.heap.objs.size := Heap.lt_size he
    have hil : c.it < s.heap.objs.size := hit.lt
    have hu2 : (srcOf s.heap c)[i]? = some u := by simpa using hu
    refine wpAny_pyNext_enum_itemD (draws_of (A := X.A.in1) (I.ok.hd hc) c hne (srcOf s.heap c)) he ⟨hit, sr⟩ (Array.getElem?_eq_some_iff.mp hu2).1 hni (by simp [hni, hes]) fun y h2 tk hP ho hit2 hT hsz hk => ?_
    rw [hu2] at hP; cases hP
    refine ⟨_, rfl, wpAny_letOwnedTupleGo_enum (s := { s with heap := h2, toks := tk + 1 }) ho fun h3 he2 sb => ?_⟩
    have hT2 : h3.get? s.heap.objs.size = some { cls := .type "tuple", data := .seq #[.int i tk, u] } := (sb.2 _ (Nat.ne_of_gt hel)).trans hT
    have new : ObjOk X.prog X.w (upd H s.heap.objs.size (.tup [.int (i : Nat), x])) h3 s.heap.objs.size (.tup [.int (i : Nat), x]) :=
      ⟨by show 2 ≤ sizeLine; decide, [.int i tk, u], .cons ⟨_, rfl⟩ (.cons ru .nil), ⟨_, hT2, rfl, _, rfl⟩⟩
    have I1 : Inv X pins σ (upd H s.heap.objs.size (.tup [.int (i : Nat), x])) { s with heap := h3, toks := tk + 1 } :=
      I.turnedNew (ch := [e, c.it]) (fun b ob hb q => (sb.2 b (fun z => hb (by simp [z]))).trans (hk b ob (fun z => hb (by simp [z])) (fun z => hb (by simp [z])) q)) hf (Nat.le_refl _) new
    refine ⟨.ref s.heap.objs.size, _, I1, rfl, ⟨_, x, rfl, I.hok.fresh (Nat.le_refl _), rfl, fun ys hy => by rw [sqA_inj I hy hq]; exact hx⟩, ⟨⟨u, ?_⟩, hit2.1.at fun o q => (sb.2 c.it (Ne.symm hni)).trans q, hni⟩, fun b hb => ?_⟩
    · have e1 : ((i + 1 : Nat) : Int) = (i : Int) + 1 := by omega
      rw [e1]; exact he2
    · have hb2 : b < s.heap.objs.size := by
        have z : b = e ∨ b = c.it := by simpa using hb
        rcases z with z | z
        · rw [z]; exact hel
        · rw [z]; exact hil
      rw [upd_ne (Nat.ne_of_lt hb2)]
      exact (hf b hb).1
  done := by
    intro X hP hw hK hc i pins s σ H E I hf st hg
    subst hP hw hK
    obtain ⟨⟨old, he⟩, hit, hni⟩ := st
    obtain ⟨xs, hq, hx⟩ := hg
    obtain ⟨sr, rv, _⟩ := sqA_src I hq
    obtain ⟨f0, f1, f2, f3, f4, f5⟩ := hf c.it (by simp)
    have hT : s.TypeIs (.ref e) "enumerate" := ⟨_, he, rfl⟩
    have hl := rv.length
    have hend : (srcOf s.heap c)[i]? = none := by simp; simp at hl; omega
    unfold pyNext
    refine wpAny_bind (wpAny_attempt (wpAny_callSpecial?_slot (name := Str.ofString "__next__") hT F.slot_enumerate_next (wpAny_call_entry F.slot_enumerate_next hT F.entry_enumerate_next ?_ (F.args_enumerate_next_1 _))))
    show wpAny (model X.prog X.w) X.A.in1 (field (.ref e) 2 >>= _) _ _ s
    refine wpAny_bind (wpAny_field he rfl (x := .ref c.it) rfl ?_)
    refine wpAny_bind (next_end (I.ok.hd hc) hit sr hend fun h2 x eb hx2 => ?_)
    obtain ⟨ob, ho, hcl⟩ := hx2
    refine wpAny_bind (wpAny_isInstance (T := "StopIteration") (b := true) ⟨ob, ho, hcl⟩ isSubtype_stop (wpAny_pure ⟨rfl, ?_⟩))
    exact I.turned (t' := s.toks) (fun b o hb q => eb b o hb q) f0 f1 f3 f4 f5
  self := fun A i s Q E st h => let ⟨⟨_, he⟩, _⟩ := st; wpAny_pyIter_enum he h

section
variable {T : XT} {M : Mem} {β : Nat → Addr} {H : Hp}
theorem enumL_get : ∀ (ds : List D) (k : Int) (i : Nat), (enumL k ds)[i]? = (ds[i]?).map fun d => .tup [.int (k + i), d]
  | [], k, i => by simp [enumL]
  | d :: r, k, 0 => by simp [enumL]
  | d :: r, k, i + 1 => by
    simp only [enumL, List.getElem?_cons_succ, enumL_get r (k + 1) i]
    congr 2
    funext x
    congr 3
    omega
theorem enumL_len : ∀ (ds : List D) (k : Int), (enumL k ds).length = ds.length
  | [], _ => rfl
  | d :: r, k => by simp [enumL, enumL_len r]
theorem jok_enum {K : PySem.W.Frag} {l : List D} {a : Addr × Bool} (r : Rl T M β H) (q : Src T M β H l a) (hl : l.length ≤ sizeLine) : JOk T M β H (enumL 0 l) (ItE K a) := by
  refine ⟨by rw [enumL_len]; exact hl, fun i m β' H' g r' => ?_⟩
  obtain ⟨xs, h1, h2⟩ := (q.grow r g).sq (K := K)
  refine ⟨fun d hd => ?_, fun hi => ⟨xs, h1, by rw [← h2.length, ← enumL_len l 0]; exact hi⟩⟩
  rw [enumL_get] at hd
  obtain ⟨d0, e1, e2⟩ := Option.map_eq_some_iff.mp hd
  obtain ⟨v, e3, rv⟩ := h2.get e1
  refine ⟨⟨xs, v, h1, e3⟩, fun x H2 ⟨t, y, e4, hn, e5, h5⟩ => ?_⟩
  have := h5 xs h1
  rw [e3] at this; cases this
  subst e4 e5 e2
  refine ⟨new_tup r' hn (Reps.cons ?_ (Reps.cons rv Reps.nil)), r'.laid hn, Grow.laid r' hn⟩
  rw [Int.zero_add]
  exact rep_int
end
section
variable {T : XT} {X : Cx} {W : WX} {pos p tpos : Pos} {kk : Nat} {e : Expr} {elts : List Expr} {f : Env → Mem → R D}
theorem src_of {M : Mem} {β : Nat → Addr} {H : Hp} {d : D} {v : V} {ds : List D} (r : Rl T M β H) (h : Rep T M β H d v) (e : seqD d = some ds) : ∃ a l, v = .ref a ∧ Src T M β H ds (a, l) := by
  cases d <;> simp only [seqD, reduceCtorEq] at e
  · cases e
    unfold Rep at h
    obtain ⟨a, xs, e2, e3, e4⟩ := h
    exact ⟨a, false, e2, xs, by rw [if_neg (by simp)]; exact e3, r.free_of e3 rfl, e4⟩
  · cases e
    unfold Rep at h
    obtain ⟨a, xs, e2, e3, e5, e4⟩ := h
    exact ⟨a, true, e2, xs, by rw [if_pos rfl]; exact e3, e5, e4⟩
theorem si_enum (hg : Gl X "enumerate") (hm : X.mg "enumerate" = none) (he : SE T X W e f) (hn : nst e = true) : SI T X W (.Tuple elts kk tpos) (.Call (.Name "enumerate" p) [e] [] pos) fun ρ m => (f ρ m).bind fun x m => (R.of (seqD x) m).bind fun xs m => .ok (enumL 0 xs) m := by
  refine ⟨fun pins s σ H R I ⟨ρ, M, β, l, r, o⟩ => ?_⟩
  refine Call_ (ld_blt I hg hm boot_enumerate (PyProof.Rows.callWith_type1 (thn ((pa_cons he.pe pa_nil (star_no hn)).run pos pins s σ H (fun vs H1 => ∃ m β1 ls a b, vs = [V.ref a] ∧ Rl T m β1 H1 ∧ Src T m β1 H1 ls (a, b) ∧ ∀ J, JOk T m β1 H1 (enumL 0 ls) J → R J H1) I
    ⟨ρ, M, β, l, r, Out.bind o fun x m v H1 β1 hx r1 g1 o1 => ?_⟩) fun us s1 ⟨vs, H1, I1, rv, m, β1, ls, a, b, e1, rl, h3, h4⟩ => ?_) (star_no hn) rfl))
  · cases q : seqD x with
    | none => rw [q] at o1; exact o1.elim
    | some ls =>
      rw [q] at o1
      obtain ⟨a, b, e1, h3⟩ := src_of r1 hx q
      subst e1
      exact ⟨m, β1, ls, a, b, rfl, r1, h3, fun J hJ => o1 J H1 β1 hJ r1 Grow.refl⟩
  · subst e1
    cases rv with
    | cons r0 rr =>
      cases rr
      cases r0
      obtain ⟨h5, ⟨xs, h6⟩, h7⟩ := len_of I1 h3
      have ne1 : a ≠ s1.heap.objs.size := Nat.ne_of_lt h7
      have ne2 : s1.heap.objs.size + 1 ≠ a := Nat.ne_of_gt (Nat.lt_succ_of_lt h7)
      have Tn := turn_enumA (P := X.prog) (w := X.w) (K := X.K) (elts := elts) (kk := kk) (tpos := tpos) ⟨s1.heap.objs.size, a, b⟩ (s1.heap.objs.size + 1) ne1 ne2
      have fin : ∀ h2, IsEnum h2 (s1.heap.objs.size + 1) s1.heap.objs.size 0 .none → ItAt h2 ⟨s1.heap.objs.size, a, b⟩ 0 → (∀ b ob2, s1.heap.get? b = some ob2 → h2.get? b = some ob2) →
          wpAny (model X.prog X.w) X.A (pyIter (.ref (s1.heap.objs.size + 1))) (PIE X pins σ (.Tuple elts kk tpos) R) X.xe { s1 with heap := h2 } := fun h2 a1 a2 a3 => by
        refine wpAny_pyIter_enum a1 ?_
        refine ⟨_, _, _, _, H1, rfl, I1.kept (t' := s1.toks) a3, Tn, ⟨⟨.none, a1⟩, a2, Nat.succ_ne_self _⟩, fun c hc => ?_, h4 _ (jok_enum rl h3 h5)⟩
        have z : c = s1.heap.objs.size + 1 ∨ c = s1.heap.objs.size := by simpa using hc
        have hle : s1.heap.objs.size ≤ c := by
          rcases z with z | z
          · rw [z]; exact Nat.le_add_right _ _
          · rw [z]; exact Nat.le_refl _
        exact I1.fpOk hle (I1.hok.fresh hle)
      cases b with
      | true =>
        rw [if_pos rfl] at h6
        exact enumB (begins_list a xs) h6 fun h2 a1 a2 a3 => fin h2 a1 ⟨_, a2, rfl, rfl⟩ a3
      | false =>
        rw [if_neg (by simp)] at h6
        exact enumB (begins_tuple a xs) h6 fun h2 a1 a2 a3 => fin h2 a1 ⟨_, a2, rfl, rfl⟩ a3
end
end G48
set_option Elab.async false
set_option linter.all false
set_option maxRecDepth 100000
set_option maxHeartbeats 1000000
/-! G48: targets; where one stands. -/
namespace G48
open PySem PySem.Spec PyProof.Rows L2

/-- the scope at a place of the text -/
structure At (X : Cx) (sc : Scope) (N : List Str) (fc : Str → Bool) : Prop where
  sc : X.env.scope = sc
  nm : X.N = N
  fc : ∀ x, fc x = true → X.fn x = true

def isK (sc : Scope) (x : Str) (k : NameKind) : Bool := sc.names.lookup x == some k
/-- a name that may be stored to -/
def stoB (sc : Scope) (fc : Str → Bool) (x : Str) : Bool := isK sc x .local || (isK sc x .cell && fc x)
def nmB (N : List Str) (i : Nat) (x : Str) : Bool := match N[i]? with
  | some y => decide (y = x)
  | none => false
theorem nmB_eq {N : List Str} {i : Nat} {x : Str} (h : nmB N i x = true) : N[i]? = some x := by
  unfold nmB at h
  split at h
  · next e => rw [e, of_decide_eq_true h]
  · cases h
theorem isK_eq {sc : Scope} {x : Str} {k : NameKind} (h : isK sc x k = true) : sc.names.lookup x = some k := by
  unfold isK at h
  exact eq_of_beq h

mutual
def chkT (sc : Scope) (N : List Str) (fc : Str → Bool) : Tg → Expr → Bool
  | .nm i, .Name x _ => nmB N i x && stoB sc fc x
  | .tp ts, .Tuple es _ _ => chkTs sc N fc ts es
  | _, _ => false
def chkTs (sc : Scope) (N : List Str) (fc : Str → Bool) : Tgs → List Expr → Bool
  | .nil, [] => true
  | .cons t r, e :: es => chkT sc N fc t e && chkTs sc N fc r es
  | _, _ => false
end

/-- the slots outside vs are as they were -/
structure Same (vs : List Nat) (σ σ' : L2.St) : Prop where
  len : σ'.length = σ.length
  get : ∀ j, j ∉ vs → σ'[j]? = σ[j]?
theorem Same.refl {vs : List Nat} {σ : L2.St} : Same vs σ σ := ⟨rfl, fun _ _ => rfl⟩
theorem Same.trans {vs : List Nat} {a b c : L2.St} (h : Same vs a b) (k : Same vs b c) : Same vs a c := ⟨k.len.trans h.len, fun j hj => (k.get j hj).trans (h.get j hj)⟩
theorem Same.mono {vs ws : List Nat} {a b : L2.St} (h : Same vs a b) (k : ∀ j, j ∈ vs → j ∈ ws) : Same ws a b := ⟨h.len, fun j hj => h.get j fun z => hj (k j z)⟩
theorem Same.set {i : Nat} {x : Option V} {σ : L2.St} : Same [i] σ (σ.set i x) := ⟨by simp, fun j hj => by rw [List.getElem?_set_ne (by simpa using Ne.symm (by simpa using hj))]⟩
theorem wipe_get {σ : L2.St} {j : Nat} : ∀ vs : List Nat, (L2.wipe σ vs)[j]? = if j ∈ vs ∧ j < σ.length then some none else σ[j]?
  | [] => by simp [L2.wipe]
  | v :: vs => by
    unfold L2.wipe
    by_cases e : v = j
    · subst e
      by_cases h : v < σ.length
      · rw [List.getElem?_set_self (by rw [wipe_length]; exact h), if_pos ⟨by simp, h⟩]
      · rw [List.getElem?_eq_none (by simp [wipe_length]; omega), if_neg (by simp [h]), List.getElem?_eq_none (by omega)]
    · rw [List.getElem?_set_ne e, wipe_get vs]
      have : (j ∈ v :: vs) ↔ j ∈ vs := by simp [Ne.symm e]
      simp only [this]
theorem Same.wiped {vs : List Nat} {σ σ' : L2.St} (h : Same vs σ σ') : L2.wipe σ' vs = L2.wipe σ vs := by
  apply List.ext_getElem?
  intro j
  rw [wipe_get, wipe_get, h.len]
  by_cases hj : j ∈ vs
  · by_cases hl : j < σ.length
    · rw [if_pos ⟨hj, hl⟩, if_pos ⟨hj, hl⟩]
    · rw [if_neg (by simp [hl]), if_neg (by simp [hl]), List.getElem?_eq_none (by rw [h.len]; omega), List.getElem?_eq_none (by omega)]
  · rw [if_neg (by simp [hj]), if_neg (by simp [hj]), h.get j hj]
theorem Same.ofWipe {vs : List Nat} {σ : L2.St} : Same vs σ (L2.wipe σ vs) := ⟨wipe_length _ _, fun j hj => by rw [wipe_get, if_neg (by simp [hj])]⟩
theorem wipeE_len : ∀ (vs : List Nat) (ρ : Env), (wipe ρ vs).length = ρ.length
  | [], _ => rfl
  | v :: vs, ρ => by rw [wipe, wipeE_len vs]; simp
theorem wipeE_get : ∀ (vs : List Nat) (ρ : Env) (j : Nat) (d : D), (wipe ρ vs)[j]? = some (some d) → ρ[j]? = some (some d) ∧ j ∉ vs
  | [], _, _, _, h => ⟨h, by simp⟩
  | v :: vs, ρ, j, d, h => by
    obtain ⟨h1, h2⟩ := wipeE_get vs (ρ.set v none) j d h
    by_cases e : v = j
    · subst e
      by_cases hl : v < ρ.length
      · rw [List.getElem?_set_self hl] at h1; cases h1
      · rw [List.getElem?_eq_none (by simpa using hl)] at h1; cases h1
    · rw [List.getElem?_set_ne e] at h1
      exact ⟨h1, by simp [h2, Ne.symm e]⟩
section
variable {T : XT} {M : Mem} {β : Nat → Addr} {H : Hp}
theorem RlE.wiped {ρ : Env} {σ : L2.St} (h : RlE T M β H ρ σ) (vs : List Nat) : RlE T M β H (G48.wipe ρ vs) (L2.wipe σ vs) := by
  refine ⟨by rw [wipeE_len, wipe_length]; exact h.1, fun j d hj => ?_⟩
  obtain ⟨h1, h2⟩ := wipeE_get vs ρ j d hj
  obtain ⟨v, h3, h4⟩ := h.2 j d h1
  exact ⟨v, by rw [wipe_get, if_neg (by simp [h2])]; exact h3, h4⟩
end

section
variable (T : XT)
def rdTg (t : Tg) : TG := fun v σ H Q => ∃ ρ M β d ρ', RlE T M β H ρ σ ∧ Rl T M β H ∧ Rep T M β H d v ∧ bindT t d ρ = some ρ' ∧ ∀ σ', RlE T M β H ρ' σ' → Same (tgv t) σ σ' → Q σ' H
def rdTgs (t : Tgs) : TGs := fun vs σ H Q => ∃ ρ M β ds ρ', RlE T M β H ρ σ ∧ Rl T M β H ∧ Reps T M β H ds vs ∧ bindTs t ds ρ = some ρ' ∧ ∀ σ', RlE T M β H ρ' σ' → Same (tgvs t) σ σ' → Q σ' H
end
theorem bindTs_len : ∀ {ts : Tgs} {es : List Expr} {ds : List D} {ρ ρ' : Env} {sc : Scope} {N : List Str} {fc : Str → Bool}, bindTs ts ds ρ = some ρ' → chkTs sc N fc ts es = true → ds.length = es.length
  | .nil, [], [], _, _, _, _, _, _, _ => rfl
  | .nil, [], _ :: _, _, _, _, _, _, h, _ => by simp [bindTs] at h
  | .nil, _ :: _, _, _, _, _, _, _, _, c => by simp [chkTs] at c
  | .cons t r, [], _, _, _, _, _, _, _, c => by simp [chkTs] at c
  | .cons t r, e :: es, [], _, _, _, _, _, h, _ => by simp [bindTs] at h
  | .cons t r, e :: es, d :: ds, ρ, ρ', _, _, _, h, c => by
    simp only [bindTs, Option.bind_eq_some_iff] at h
    obtain ⟨ρ1, _, h2⟩ := h
    simp only [chkTs, Bool.and_eq_true] at c
    simp [bindTs_len h2 c.2]
theorem asg_no {e : Expr} {es : List Expr} {env : PySem.Env} (h : nst e = true) : assignEach (e :: es) env = (false, assign e env) :: assignEach es env := by
  cases e <;> first | rfl | (simp [nst] at h)
theorem chkT_nst {sc : Scope} {N : List Str} {fc : Str → Bool} {t : Tg} {e : Expr} (h : chkT sc N fc t e = true) : nst e = true := by
  cases t <;> cases e <;> first | rfl | (simp [chkT] at h)
theorem asg_plain {sc : Scope} {N : List Str} {fc : Str → Bool} {env : PySem.Env} : ∀ {ts : Tgs} {es : List Expr}, chkTs sc N fc ts es = true → (assignEach es env).length = es.length ∧ (assignEach es env).findIdx? (·.1) = none
  | .nil, [], _ => ⟨rfl, rfl⟩
  | .nil, _ :: _, c => by simp [chkTs] at c
  | .cons t r, [], c => by simp [chkTs] at c
  | .cons t r, e :: es, c => by
    simp only [chkTs, Bool.and_eq_true] at c
    obtain ⟨h1, h2⟩ := asg_plain (env := env) c.2
    rw [asg_no (chkT_nst c.1)]
    exact ⟨by simp [h1], by rw [List.findIdx?_cons]; simp [h2]⟩
section
variable {T : XT} {X : Cx} {sc : Scope} {N : List Str} {fc : Str → Bool}
theorem stoB_ok (P : At X sc N fc) {x : Str} (h : stoB sc fc x = true) : Loc X.env.scope x ∧ (X.fn x = true ∨ X.env.scope.names.lookup x = some .local) := by
  unfold stoB at h
  rw [P.sc]
  simp only [Bool.or_eq_true, Bool.and_eq_true] at h
  rcases h with h | ⟨h1, h2⟩
  · exact ⟨.inl (isK_eq h), .inr (isK_eq h)⟩
  · exact ⟨.inr (isK_eq h1), .inl (P.fc x h2)⟩
mutual
theorem tg_ok (P : At X sc N fc) (nd : X.N.Nodup) (hc : X.calm = true) : ∀ (t : Tg) (e : Expr), chkT sc N fc t e = true → PG X e (rdTg T t)
  | .nm i, e, c => by
    cases e <;> simp only [chkT, Bool.and_eq_true, Bool.false_eq_true] at c
    obtain ⟨c1, c2⟩ := c
    obtain ⟨h1, h2⟩ := stoB_ok P c2
    refine ⟨fun pins s σ H v u Q I r ⟨ρ, M, β, d, ρ', l, rl, hd, hb, k⟩ => (pg_name nd (by rw [P.nm]; exact nmB_eq c1) h1 h2).run pins s σ H v u Q I r ?_⟩
    simp only [bindT, Option.some.injEq] at hb
    subst hb
    exact k _ (l.set i hd) Same.set
  | .tp ts, e, c => by
    cases e <;> simp only [chkT, Bool.false_eq_true] at c
    rename_i es kk pos
    have hs := tgs_ok P nd hc ts es c
    obtain ⟨h1, h2⟩ := asg_plain (env := X.env) c
    refine ⟨fun pins s σ H v u Q I r ⟨ρ, M, β, d, ρ', l, rl, hd, hb, k⟩ => ?_⟩
    simp only [bindT, Option.bind_eq_some_iff] at hb
    obtain ⟨ds, e1, e2⟩ := hb
    have hl := bindTs_len e2 c
    cases d <;> simp only [seqD, reduceCtorEq] at e1
    · cases e1
      unfold Rep at hd
      obtain ⟨a, xs, e3, h3, h4⟩ := hd
      exact (pg_tup hc hs h1 h2).run pins s σ H v u Q I r ⟨a, xs, e3, .of h3, by rw [← h4.length]; exact hl, ρ, M, β, _, ρ', l, rl, h4, e2, k⟩
    · cases e1
      unfold Rep at hd
      obtain ⟨a, xs, e3, h3, _, h4⟩ := hd
      exact (pg_lst hc hs h1 h2).run pins s σ H v u Q I r ⟨a, xs, e3, .of h3, by rw [← h4.length]; exact hl, ρ, M, β, _, ρ', l, rl, h4, e2, k⟩
theorem tgs_ok (P : At X sc N fc) (nd : X.N.Nodup) (hc : X.calm = true) : ∀ (t : Tgs) (es : List Expr), chkTs sc N fc t es = true → PGs X es (rdTgs T t)
  | .nil, [], _ => ⟨fun pins s σ H vs us Q I r ⟨ρ, M, β, ds, ρ', l, rl, hd, hb, k⟩ => by
      refine pgs_nil.run pins s σ H vs us Q I r ?_
      cases ds with
      | nil => simp only [bindTs, Option.some.injEq] at hb; subst hb; unfold Reps at hd; exact ⟨hd, k σ l Same.refl⟩
      | cons d ds => simp [bindTs] at hb⟩
  | .nil, _ :: _, c => by simp [chkTs] at c
  | .cons t r, [], c => by simp [chkTs] at c
  | .cons t r, e :: es, c => by
    simp only [chkTs, Bool.and_eq_true] at c
    have h1 := tg_ok P nd hc t e c.1
    have h2 := tgs_ok P nd hc r es c.2
    refine ⟨fun pins s σ H vs us Q I rv ⟨ρ, M, β, ds, ρ', l, rl, hd, hb, k⟩ => (pgs_cons h1 h2 (by rw [asg_no (chkT_nst c.1)]; rfl)).run pins s σ H vs us Q I rv ?_⟩
    cases ds with
    | nil => simp [bindTs] at hb
    | cons d ds =>
      simp only [bindTs, Option.bind_eq_some_iff] at hb
      obtain ⟨ρ1, hb1, hb2⟩ := hb
      unfold Reps at hd
      obtain ⟨v, vr, e1, hd1, hd2⟩ := hd
      refine ⟨v, vr, e1, ρ, M, β, d, ρ1, l, rl, hd1, hb1, fun σ1 l1 s1 => ⟨ρ1, M, β, ds, ρ', l1, rl, hd2, hb2, fun σ2 l2 s2 => k σ2 l2 ?_⟩⟩
      exact (s1.mono fun j hj => by simp [tgvs, hj]).trans (s2.mono fun j hj => by simp [tgvs, hj])
end
end
end G48
set_option Elab.async false
set_option linter.all false
set_option maxRecDepth 100000
set_option maxHeartbeats 1000000
/-! G48: list comprehensions of one clause. -/
namespace G48
open PySem PySem.Spec PyProof.Rows L2

def noW : WX := fun _ _ _ _ => False
section
variable {T : XT} {G : List FI} {ps : List Pat} {cs : List (Str × D)} {wf n : Nat} {X : Cx} {W : WX} {sc : Scope} {N : List Str} {fc : Str → Bool}
theorem Ctx.blk (C : Ctx T G ps cs wf n X W) (s : Shared) (H : Hp) (scope : Scope) (env : PySem.Env) (fp : List Addr) : Ctx T G ps cs wf n (X.blk s H scope env fp) noW where
  nd := C.nd
  calm := C.calm
  room := C.room
  tk := fun u s' ⟨a, B, sI, pins, σ, H, cls, d, e, I, nb, up, sky, na, os, ag, w⟩ => w
  blt := C.blt
  fns := C.fns
  cst := C.cst
  xk := C.xk
  xm := C.xm
theorem At.blk (P : At X sc N fc) (s : Shared) (H : Hp) (scope : Scope) (C : Addr) (cl : List (Str × Addr)) (fp : List Addr) : At (X.blk s H scope (compEnvC scope cl C X.env) fp) (relS scope sc) N (fun x => isK scope x .cell) where
  sc := by rw [← P.sc]; rfl
  nm := P.nm
  fc := fun x h => h
end
theorem upd_self {H : Hp} {a : Addr} {o : HO} (h : H a = some o) : upd H a o = H := by
  funext b
  by_cases e : b = a
  · subst e; rw [upd_same, h]
  · rw [upd_ne e]
theorem wipe_twice {σ : L2.St} {vs : List Nat} : L2.wipe (L2.wipe σ vs) vs = L2.wipe σ vs := Same.ofWipe.wiped

def pre (xs : List D) (r : R (List D)) : R (List D) := r.bind fun ys m => .ok (xs ++ ys) m
theorem pre_nil (r : R (List D)) : pre [] r = r := by cases r <;> rfl
def compStep (t : Tg) (ρ : Env) (ft : Env → Mem → R Bool) (fe : Env → Mem → R D) (d : D) (m : Mem) : R (Option D) :=
  (R.of (bindT t d ρ) m).bind fun ρ' m => (ft ρ' m).bind fun b m => if b then (fe ρ' m).bind fun x m => .ok (some x) m else .ok none m
theorem compStep_ok {t : Tg} {ρ : Env} {ft : Env → Mem → R Bool} {fe : Env → Mem → R D} {d : D} {m m1 : Mem} {o : Option D} (h : compStep t ρ ft fe d m = .ok o m1) :
    ∃ ρ' b mb, bindT t d ρ = some ρ' ∧ ft ρ' m = .ok b mb ∧ ((b = true ∧ ∃ x, fe ρ' mb = .ok x m1 ∧ o = some x) ∨ (b = false ∧ m1 = mb ∧ o = none)) := by
  unfold compStep at h
  cases q : bindT t d ρ with
  | none => rw [q] at h; cases h
  | some ρ' =>
    rw [q] at h
    simp only [R.of_some, R.bind_ok] at h
    cases q2 : ft ρ' m with
    | bad => rw [q2] at h; cases h
    | exc x m2 => rw [q2] at h; cases h
    | ok b mb =>
      rw [q2] at h
      simp only [R.bind_ok] at h
      refine ⟨ρ', b, mb, rfl, rfl.trans q2, ?_⟩
      cases b with
      | true =>
        simp only [if_true] at h
        cases q3 : fe ρ' mb with
        | bad => rw [q3] at h; cases h
        | exc x m2 => rw [q3] at h; cases h
        | ok x m3 => rw [q3] at h; cases h; exact .inl ⟨rfl, x, rfl, rfl⟩
      | false => simp only [Bool.false_eq_true, if_false] at h; cases h; exact .inr ⟨rfl, rfl, rfl⟩
theorem compLoop_cons {f : D → Mem → R (Option D)} {d : D} {ds : List D} {m : Mem} : compLoop f (d :: ds) m = match f d m with
    | .ok o m1 => match compLoop f ds m1 with
      | .ok r m2 => .ok (o.toList ++ r) m2
      | .exc _ _ => .bad
      | .bad => .bad
    | .exc _ _ => .bad
    | .bad => .bad := rfl
theorem comp_step {c : Bool} {n : Nat} {f : D → Mem → R (Option D)} {d : D} {ds xs : List D} {m : Mem} (h : compEnd c n (pre xs (compLoop f (d :: ds) m)) ≠ .bad) :
    ∃ o m1, f d m = .ok o m1 ∧ compEnd c n (pre xs (compLoop f (d :: ds) m)) = compEnd c n (pre (xs ++ o.toList) (compLoop f ds m1)) := by
  rw [compLoop_cons] at h ⊢
  cases q : f d m with
  | bad => rw [q] at h; exact absurd rfl h
  | exc x m2 => rw [q] at h; exact absurd rfl h
  | ok o m1 =>
    rw [q] at h
    refine ⟨o, m1, rfl, ?_⟩
    dsimp only at h ⊢
    cases q2 : compLoop f ds m1 with
    | bad => rw [q2] at h; exact absurd rfl h
    | exc x m2 => rw [q2] at h; exact absurd rfl h
    | ok r m2 => simp only [pre, R.bind_ok, List.append_assoc]
theorem Out.not_bad {T : XT} {α υ : Type} {Rp : RpT α υ} {M : Mem} {β : Nat → Addr} {H : Hp} {r : R α} {Q : υ → Hp → Prop} {W : XK} (h : Out T Rp M β H r Q W) : r ≠ .bad := fun z => by subst z; exact h

section
variable {T : XT} {X : Cx} {W : WX} {pos : Pos} {tg iter elt : Expr} {ifs : List Expr} {scope : Scope} {own : List (Str × Nat)} {t : Tg} {c : Bool} {fi : Env → Mem → R (List D)} {ft : Env → Mem → R Bool} {fe : Env → Mem → R D}
/-- what a comprehension asks -/
theorem lc_ask {σ : L2.St} {H : Hp} {Q : VK} (hv : own.map (·.2) = tgv t) (h : rdE T W (fun ρ m => (fi ρ m).bind fun ds m => compEnd c m.length (compLoop (compStep t (wipe ρ (tgv t)) ft fe) ds (m ++ [some .tmp]))) σ H Q) :
    tLc (rdI T W fi) (rdTg T t) (rdT T noW ft) (rdE T noW fe) (own.map (·.2)) σ H Q := by
  obtain ⟨ρ, M, β, l, r, o⟩ := h
  rw [hv]
  refine ⟨ρ, M, β, l, r, Out.bind o fun ds m0 J H0 β0 hJ r0 g0 o0 => ?_⟩
  have l0 := l.grow r g0
  intro L hL
  obtain ⟨hJl, hJ⟩ := hJ
  refine ⟨fun i k H2 => k = ds.length - i ∧ i ≤ ds.length ∧ ∃ m β' acc xs, Rl T m β' H2 ∧ Grow m0 β0 H0 m β' H2 ∧ m[m0.length]? = some (some .tmp) ∧ β' m0.length = L ∧ H2 L = some (.lst acc) ∧ Reps T m β' H2 xs acc ∧ acc.length ≤ i ∧
      Out T (Rep T) m0 β0 H0 (compEnd c m0.length (pre xs (compLoop (compStep t (wipe ρ (tgv t)) ft fe) (ds.drop i) m))) Q (fun c d H' => W c d σ H'), ⟨ds.length, by simp, Nat.zero_le _, m0 ++ [some .tmp], putB β0 m0.length L, [], [], r0.tmped hL, Grow.celled r0 hL, by simp, putB_same, upd_same, Reps.nil, Nat.le_refl _, by rw [pre_nil, List.drop_zero]; exact o0⟩, ?_⟩
  rintro i k H2 ⟨rfl, hi, m, β', acc, xs, r2, g2, ht, hβ, hLa, hx, hal, o2⟩
  obtain ⟨hgo, hstop⟩ := hJ i m β' H2 g2.toGrow0 r2
  by_cases hlt : i < ds.length
  · refine .inr ⟨(hgo ds[i] (List.getElem?_eq_getElem hlt)).1, _, fun H' p => ⟨ds.length - (i + 1), by omega, p⟩, fun x H3 hy => ?_⟩
    obtain ⟨hxr, r3, g3⟩ := (hgo ds[i] (List.getElem?_eq_getElem hlt)).2 x H3 hy
    rw [List.drop_eq_getElem_cons hlt] at o2
    obtain ⟨od, m1, hst, heq⟩ := comp_step o2.not_bad
    rw [heq] at o2
    obtain ⟨ρ', b, mb, hb, hft, hcase⟩ := compStep_ok hst
    have g23 := g2.trans g3
    have lw : RlE T m β' H3 (wipe ρ (tgv t)) (L2.wipe σ (tgv t)) := (l0.grow r0 g23).wiped _
    refine ⟨wipe ρ (tgv t), m, β', ds[i], ρ', lw, r3, hxr, hb, fun σ2 l2 s2 => ⟨by rw [s2.wiped, wipe_twice], ρ', m, β', l2, r3, ?_⟩⟩
    rw [hft]
    intro b' H4 β4 hbb r4 g4
    subst hbb
    have hL3 : H3 L = some (.lst acc) := by rw [← hβ, (g3.hid _ ht).2, hβ]; exact hLa
    have hL4 : H4 L = some (.lst acc) := by rw [← hβ, (g4.hid _ ht).2, hβ]; exact hL3
    have tb := (g4.hid _ ht).1
    have lt0 : m0.length < m.length := live_lt ht
    have hβ4 : β4 m0.length = L := by rw [g4.beq _ lt0]; exact hβ
    have hx4 : Reps T mb β4 H4 xs acc := Reps.grow r3 g4 _ _ (Reps.grow r2 g3 _ _ hx)
    rcases hcase with ⟨hbt, y, hfe, ho⟩ | ⟨hbf, hm, ho⟩
    · subst hbt
      rw [if_pos rfl]
      refine ⟨ρ', mb, β4, l2.grow r3 g4, r4, ?_⟩
      rw [hfe]
      intro yv H5 β5 hyv r5 g5
      have hL5 : H5 L = some (.lst acc) := by rw [← hβ4, (g5.hid _ tb).2, hβ4]; exact hL4
      have t5 := (g5.hid _ tb).1
      have hβ5 : β5 m0.length = L := by rw [g5.beq _ (live_lt tb)]; exact hβ4
      refine ⟨acc, hL5, by omega, by rfl, hlt, m1, β5, acc ++ [yv], xs ++ [y], ?_, ?_, t5, hβ5, upd_same, ?_, by simp; omega, ?_⟩
      · rw [← hβ5]; exact r5.poke t5
      · rw [← hβ5]
        have := Grow.poke (c' := .tmp) (o := .lst (acc ++ [yv])) ((g23.trans g4).trans g5) r5 r0 (Nat.le_refl _) t5
        rw [set_same t5] at this; exact this
      · rw [← hβ5]
        exact Reps.grow0 r5 (Grow0.poke r5 t5) _ _ ((Reps.grow r4 g5 _ _ hx4).append (Reps.cons hyv Reps.nil))
      · subst ho; exact o2
    · subst hbf
      rw [if_neg (by simp)]
      subst hm ho
      refine ⟨rfl, hlt, m1, β4, acc, xs, r4, g23.trans g4, tb, hβ4, hL4, hx4, by omega, ?_⟩
      have e : xs ++ (none : Option D).toList = xs := by simp
      rw [e] at o2; exact o2
  · have e : i = ds.length := by omega
    subst e
    refine .inl ⟨hstop (Nat.le_refl _), ?_⟩
    rw [List.drop_length] at o2
    have e2 : pre xs (compLoop (compStep t (wipe ρ (tgv t)) ft fe) [] m) = .ok xs m := by simp [compLoop, pre]
    rw [e2] at o2
    unfold compEnd at o2
    simp only [R.bind_ok] at o2
    cases c with
    | true =>
      simp only [if_true] at o2
      by_cases hb : belows 0 xs = true
      · rw [if_pos hb] at o2
        have hu : upd H2 (β' m0.length) (.lst acc) = H2 := upd_self (by rw [hβ]; exact hLa)
        have r3 := r2.wrote ht hb hx
        have g3 := Grow.poke (c' := .lst xs) (o := .lst acc) g2 r2 r0 (Nat.le_refl _) ht
        rw [hu] at r3 g3
        refine o2 (.ref L) H2 β' ?_ r3 g3
        unfold Rep
        exact ⟨by rw [hβ], by simp; exact live_lt ht⟩
      · rw [if_neg hb] at o2; exact o2.elim
    | false =>
      simp only [Bool.false_eq_true, if_false] at o2
      have fz := r2.froze ht
      have gz := g2.frozeL r2 (Nat.le_refl _) ht
      have rz : Rep T (m.set m0.length none) β' H2 (.lst xs) (.ref L) := by
        rw [← hβ]
        exact r2.froze_tmp ht (by rw [hβ]; exact hLa) hx
      by_cases hb : belows m0.length xs = true
      · rw [if_pos hb] at o2
        have e3 : (m.set m0.length none).take m0.length = m.take m0.length := by
          rw [List.take_set, List.set_eq_of_length_le (List.length_take_le _ _)]
        have fz' := fz.cut (k := m0.length) gz.len
        have gz' := gz.cut
        have rz' := Rep.cut gz.len (.lst xs) _ (by simpa [below] using hb) rz
        rw [e3] at fz' gz' rz'
        exact o2 (.ref L) H2 β' rz' fz' gz'
      · rw [if_neg hb] at o2
        exact o2 (.ref L) H2 β' rz fz gz
end
end G48
set_option Elab.async false
set_option linter.all false
set_option maxRecDepth 100000
set_option maxHeartbeats 1000000
/-! G48: statements: how they end; the simple ones. -/
namespace G48
open PySem PySem.Spec PyProof.Rows L2

def noComp : Expr → Bool
  | .ListComp _ _ _ _ => false
  | .SetComp _ _ _ _ => false
  | .DictComp _ _ _ _ _ => false
  | _ => true
section
variable (T : XT)
def FinS (D : Ends) (m : Mem) (β : Nat → Addr) (H : Hp) (σ : L2.St) : Fl → Prop
  | .nx => D.nx σ H
  | .bk => D.bk σ H
  | .ct => D.ct σ H
  | .rt d => ∀ v, Rep T m β H d v → D.rt v H
def OutS (fr : List Nat) (M : Mem) (β : Nat → Addr) (H : Hp) (σ : L2.St) (r : R (Fl × Env)) (D : Ends) (W : WX) : Prop :=
  match r with
  | .ok p m => ∀ σ' H' β', RlE T m β' H' p.2 σ' → Rl T m β' H' → Grow M β H m β' H' → Same fr σ σ' → FinS T D m β' H' σ' p.1
  | .exc x m => ∀ cls d H' β' σ', Fly T m β' H' x cls d → Rl T m β' H' → Grow M β H m β' H' → Same fr σ σ' → W cls d σ' H'
  | .bad => False
def rdS (W : WX) (fr : List Nat) (f : Env → Mem → R (Fl × Env)) : TS := fun D σ H => ∃ ρ M β, RlE T M β H ρ σ ∧ Rl T M β H ∧ OutS T fr M β H σ (f ρ M) D W
abbrev SS (X : Cx) (W : WX) (fr : List Nat) (st : Stmt) (f : Env → Mem → R (Fl × Env)) : Prop := PS X st (rdS T W fr f)
abbrev SSs (X : Cx) (W : WX) (fr : List Nat) (st : List Stmt) (f : Env → Mem → R (Fl × Env)) : Prop := PSs X st (rdS T W fr f)
end

section
variable {T : XT} {fr fr' : List Nat} {M M1 : Mem} {β β1 : Nat → Addr} {H H1 : Hp} {σ σ1 : L2.St} {D : Ends} {W : WX} {r : R (Fl × Env)} {α υ : Type} {Rp : RpT α υ}
theorem OutS.step (g : Grow M β H M1 β1 H1) (h : OutS T fr M β H σ r D W) : OutS T fr M1 β1 H1 σ r D W := by
  cases r with
  | ok p m => exact fun σ' H' β' a b c d => h σ' H' β' a b (g.trans c) d
  | exc x m => exact fun cls d H' β' σ' a b c e => h cls d H' β' σ' a b (g.trans c) e
  | bad => exact h
theorem OutS.go (s : Same fr σ σ1) (h : OutS T fr M β H σ r D W) : OutS T fr M β H σ1 r D W := by
  cases r with
  | ok p m => exact fun σ' H' β' a b c d => h σ' H' β' a b c (s.trans d)
  | exc x m => exact fun cls d H' β' σ' a b c e => h cls d H' β' σ' a b c (s.trans e)
  | bad => exact h
theorem OutS.less (s : ∀ j, j ∈ fr' → j ∈ fr) (h : OutS T fr M β H σ r D W) : OutS T fr' M β H σ r D W := by
  cases r with
  | ok p m => exact fun σ' H' β' a b c d => h σ' H' β' a b c (d.mono s)
  | exc x m => exact fun cls d H' β' σ' a b c e => h cls d H' β' σ' a b c (e.mono s)
  | bad => exact h
theorem OutS.not_bad (h : OutS T fr M β H σ r D W) : r ≠ .bad := fun z => by subst z; exact h
theorem OutS.ends {D' : Ends} (hn : ∀ σ H, D.nx σ H → D'.nx σ H) (hb : ∀ σ H, D.bk σ H → D'.bk σ H) (hc : ∀ σ H, D.ct σ H → D'.ct σ H) (hr : ∀ v H, D.rt v H → D'.rt v H) (h : OutS T fr M β H σ r D W) : OutS T fr M β H σ r D' W := by
  cases r with
  | ok p m =>
    intro σ' H' β' a b c d
    have := h σ' H' β' a b c d
    obtain ⟨fl, ρ⟩ := p
    cases fl with
    | nx => exact hn _ _ this
    | bk => exact hb _ _ this
    | ct => exact hc _ _ this
    | rt d => exact fun v hv => hr _ _ (this v hv)
  | exc x m => exact h
  | bad => exact h
/-- an expression first -/
theorem OutS.bind {r : R α} {f : α → Mem → R (Fl × Env)} {P : υ → Hp → Prop} (h : OutS T fr M β H σ (r.bind f) D W)
    (k : ∀ a m v H1 β1, Rp m β1 H1 a v → Rl T m β1 H1 → Grow M β H m β1 H1 → OutS T fr m β1 H1 σ (f a m) D W → P v H1) : Out T Rp M β H r P (fun c d H' => W c d σ H') := by
  cases r with
  | ok a m => exact fun v H1 β1 hr hl hg => k a m v H1 β1 hr hl hg (OutS.step hg h)
  | exc x m => exact fun c d H' β' a b e => h c d H' β' σ a b e Same.refl
  | bad => exact False.elim h
/-- it ends at once -/
theorem OutS.now {fl : Fl} {ρ : Env} (h : OutS T fr M β H σ (.ok (fl, ρ) M) D W) (r : Rl T M β H) (l : RlE T M β H ρ σ1) (s : Same fr σ σ1) : FinS T D M β H σ1 fl := h σ1 H β l r Grow.refl s
end

section
variable {T : XT} {X : Cx} {W : WX} {fr : List Nat} {pos p : Pos} {e a b : Expr} {es : List Expr} {f fa fb fk : Env → Mem → R D} {fs : Env → Mem → R (List D)} {i : Nat} {x : Str} {sc : Scope} {N : List Str} {fc : Str → Bool} {st : Stmt} {sts : List Stmt}
theorem ss_nil : SSs T X W fr [] fun ρ m => .ok (.nx, ρ) m := pss_nil.imp fun D σ H ⟨ρ, M, β, l, r, o⟩ => o.now r l Same.refl
theorem ss_cons {f g : Env → Mem → R (Fl × Env)} (h1 : SS T X W fr st f) (h2 : SSs T X W fr sts g) : SSs T X W fr (st :: sts) fun ρ m => (f ρ m).bind fun p m => match p.1 with
    | .nx => g p.2 m
    | _ => .ok p m := by
  refine (pss_cons h1 h2).imp fun D σ H ⟨ρ, M, β, l, r, o⟩ => ⟨ρ, M, β, l, r, ?_⟩
  dsimp only at o
  cases q : f ρ M with
  | bad => rw [q] at o; exact o
  | exc y m => rw [q] at o; exact o
  | ok pr m =>
    obtain ⟨fl, ρ'⟩ := pr
    rw [q] at o
    cases fl with
    | nx => exact fun σ' H' β' l' r' g' s' => ⟨ρ', m, β', l', r', (OutS.step g' o).go s'⟩
    | bk => exact o
    | ct => exact o
    | rt d => exact o
/-- a list is made fast: nothing of the text -/
theorem ss_frz {g : Env → Mem → R (Fl × Env)} (h2 : SSs T X W fr sts g) : SSs T X W fr sts fun ρ m => (match ρ[i]? with
    | some (some (.cell n)) => match m[n]? with
      | some (some (.lst xs)) => R.ok (Fl.nx, ρ.set i (some (.lst xs))) (m.set n none)
      | _ => .bad
    | _ => .bad).bind fun p m => match p.1 with
    | .nx => g p.2 m
    | _ => .ok p m := by
  refine h2.imp fun D σ H ⟨ρ, M, β, l, r, o⟩ => ?_
  dsimp only at o
  split at o
  · next n hn =>
    split at o
    · next xs hm =>
      have g1 := Grow.froze r hm
      obtain ⟨v, e1, hv⟩ := l.2 i _ hn
      refine ⟨_, _, β, ?_, r.froze hm, OutS.step g1 o⟩
      have l1 := (l.grow r g1).set i (r.froze_rep hm)
      unfold Rep at hv
      have e2 : σ.set i (some (.ref (β n))) = σ := by
        apply List.ext_getElem?
        intro k
        by_cases h : i = k
        · subst h
          rw [List.getElem?_set_self (List.getElem?_eq_some_iff.mp e1).1, e1, hv.1]
        · rw [List.getElem?_set_ne h]
      rw [e2] at l1
      exact l1
    · exact o.elim
  · exact o.elim
theorem frzL_exc : ∀ {ds : List D} {M m : Mem} {y : D}, frzL ds M = .exc y m → False
  | [], M, m, y, e => by simp [frzL] at e
  | d :: ds, M, m, y, e => by
    cases d <;> simp only [frzL, reduceCtorEq] at e
    rename_i n
    split at e
    · cases q : frzL ds (M.set n none) with
      | bad => rw [q] at e; cases e
      | exc z k => exact frzL_exc q
      | ok a b => rw [q] at e; cases e
    · cases e
theorem frzL_ok : ∀ {ds r : List D} {M M' : Mem} {β : Nat → Addr} {H : Hp} {vs : List V}, Rl T M β H → Reps T M β H ds vs → frzL ds M = .ok r M' → Rl T M' β H ∧ Reps T M' β H r vs ∧ Grow M β H M' β H
  | [], r, M, M', β, H, vs, rl, q, e => by
    simp only [frzL, R.ok.injEq] at e
    obtain ⟨rfl, rfl⟩ := e
    exact ⟨rl, q, Grow.refl⟩
  | d :: ds, r, M, M', β, H, vs, rl, q, e => by
    cases d <;> simp only [frzL, reduceCtorEq] at e
    rename_i n
    split at e
    · next xs hm =>
      unfold Reps at q
      obtain ⟨v, vr, rfl, q1, q2⟩ := q
      have g1 := Grow.froze rl hm
      have r1 := rl.froze hm
      cases q3 : frzL ds (M.set n none) with
      | bad => rw [q3] at e; cases e
      | exc y m => rw [q3] at e; cases e
      | ok r2 m2 =>
        rw [q3] at e
        simp only [R.bind_ok, R.ok.injEq] at e
        obtain ⟨rfl, rfl⟩ := e
        obtain ⟨a1, a2, a3⟩ := frzL_ok r1 (Reps.grow rl g1 _ _ q2) q3
        unfold Rep at q1
        refine ⟨a1, Reps.cons ?_ a2, g1.trans a3⟩
        rw [q1.1]
        exact Rep.grow r1 a3 _ _ (rl.froze_rep hm)
    · cases e
theorem ss_frzD {g : Env → Mem → R (Fl × Env)} (h2 : SSs T X W fr sts g) : SSs T X W fr sts fun ρ m => (frzDR i ρ[i]? ρ m).bind fun p m => match p.1 with
    | .nx => g p.2 m
    | _ => .ok p m := by
  refine h2.imp fun D σ H ⟨ρ, M, β, l, r, o⟩ => ?_
  dsimp only at o
  unfold frzDR at o
  split at o
  · next ds hn =>
    obtain ⟨v, e1, hv⟩ := l.2 i _ hn
    unfold Rep at hv
    obtain ⟨a, vs, rfl, ha, fa, qa⟩ := hv
    cases q3 : frzL ds M with
    | bad => rw [q3] at o; exact o.elim
    | exc y m => exfalso; exact frzL_exc q3
    | ok r2 m2 =>
      rw [q3] at o
      simp only [R.bind_ok] at o
      obtain ⟨a1, a2, a3⟩ := frzL_ok r qa q3
      refine ⟨_, _, β, ?_, a1, OutS.step a3 o⟩
      have l1 := (l.grow r a3).set i (rep_lst (T := T) (a3.keep a _ ha fa) (a3.free ha fa) a2)
      have e2 : σ.set i (some (.ref a)) = σ := by
        apply List.ext_getElem?
        intro k
        by_cases h : i = k
        · subst h
          rw [List.getElem?_set_self (List.getElem?_eq_some_iff.mp e1).1, e1]
        · rw [List.getElem?_set_ne h]
      rw [e2] at l1
      exact l1
  · exact o.elim
theorem ss_pass : SS T X W fr (.Pass pos) fun ρ m => .ok (.nx, ρ) m := ps_pass.imp fun D σ H ⟨ρ, M, β, l, r, o⟩ => o.now r l Same.refl
theorem ss_doc {j : Nat} : SS T X W fr (.Expr (.Constant (.str x) j p) pos) fun ρ m => .ok (.nx, ρ) m := ps_doc.imp fun D σ H ⟨ρ, M, β, l, r, o⟩ => o.now r l Same.refl
theorem ss_brk : SS T X W fr (.Break pos) fun ρ m => .ok (.bk, ρ) m := ps_break.imp fun D σ H ⟨ρ, M, β, l, r, o⟩ => o.now r l Same.refl
theorem ss_cont : SS T X W fr (.Continue pos) fun ρ m => .ok (.ct, ρ) m := ps_continue.imp fun D σ H ⟨ρ, M, β, l, r, o⟩ => o.now r l Same.refl
theorem ss_retN : SS T X W fr (.Return none pos) fun ρ m => .ok (.rt .non, ρ) m := ps_retN.imp fun D σ H ⟨ρ, M, β, l, r, o⟩ => o.now r l Same.refl .non rep_non
theorem ss_ret (he : SE T X W e f) : SS T X W fr (.Return (some e) pos) fun ρ m => (f ρ m).bind fun d m => .ok (.rt d, ρ) m :=
  (ps_ret he.pe).imp fun D σ H ⟨ρ, M, β, l, r, o⟩ => ⟨ρ, M, β, l, r, OutS.bind o fun d m v H1 β1 hv r1 g1 o1 => o1.now r1 (l.grow r g1) Same.refl v hv⟩
theorem sw_plain {env : PySem.Env} {t : Option Expr} {l : Nat} (h : noComp e = true) : swapsWith e t l env = pure false := by
  cases e <;> first | rfl | (simp [noComp] at h)
theorem ss_expr (he : SE T X W e f) (hs : noComp e = true) : SS T X W fr (.Expr e pos) fun ρ m => (f ρ m).bind fun _ m => .ok (.nx, ρ) m :=
  (ps_expr he.pe (sw_plain hs)).imp fun D σ H ⟨ρ, M, β, l, r, o⟩ => ⟨ρ, M, β, l, r, OutS.bind o fun d m v H1 β1 hv r1 g1 o1 => o1.now r1 (l.grow r g1) Same.refl⟩
theorem ss_set (P : At X sc N fc) (nd : X.N.Nodup) (hi : nmB N i x = true) (hx : stoB sc fc x = true) (he : SE T X W e f) (hs : swapsWith e (some (.Name x p)) pos.line X.env = pure false) (hfr : i ∈ fr) :
    SS T X W fr (.Assign [.Name x p] e pos) fun ρ m => (f ρ m).bind fun d m => .ok (.nx, ρ.set i (some d)) m := by
  obtain ⟨h1, h2⟩ := stoB_ok P hx
  refine (ps_set nd (by rw [P.nm]; exact nmB_eq hi) h1 he.pe hs h2).imp fun D σ H ⟨ρ, M, β, l, r, o⟩ => ⟨ρ, M, β, l, r, OutS.bind o fun d m v H1 β1 hv r1 g1 o1 => ?_⟩
  exact o1.now r1 ((l.grow r g1).set i hv) (Same.set.mono fun j hj => by simp at hj; subst hj; exact hfr)
theorem ss_if {fA fB : Env → Mem → R (Fl × Env)} {sa sb : List Stmt} (hc : SE T X W e f) (ha : SSs T X W fr sa fA) (hb : SSs T X W fr sb fB) :
    SS T X W fr (.If e sa sb pos) fun ρ m => (tst (f ρ m)).bind fun t m => if t then fA ρ m else fB ρ m := by
  refine (ps_if hc.pt ha hb).imp fun D σ H ⟨ρ, M, β, l, r, o⟩ => ⟨ρ, M, β, l, r, OutS.bind o fun t m v H1 β1 hv r1 g1 o1 => ?_⟩
  subst hv
  cases t with
  | true => exact ⟨ρ, m, β1, l.grow r g1, r1, o1⟩
  | false => exact ⟨ρ, m, β1, l.grow r g1, r1, o1⟩
end
end G48
set_option Elab.async false
set_option linter.all false
set_option maxRecDepth 100000
set_option maxHeartbeats 1000000
/-! G48: statements: targets, items, methods, loops. -/
namespace G48
open PySem PySem.Spec PyProof.Rows L2

section
variable {T : XT} {X : Cx} {W : WX} {fr : List Nat} {pos p px py pz pt apos : Pos} {kt k2 : Nat} {pt2 : Pos} {e o tg a b c : Expr} {es : List Expr} {f fo fi : Env → Mem → R D} {fs fl : Env → Mem → R (List D)} {i j l : Nat} {x y z : Str} {sc : Scope} {N : List Str} {fc : Str → Bool} {t : Tg}

theorem sw_tgt {env : PySem.Env} {n : Nat} (h : (match tg with | .Name _ _ => false | _ => true) = true ∨ noComp e = true) : swapsWithSole [tg] e n env = pure false := by
  show swapsWith e (some tg) n env = pure false
  rcases h with h | h
  · cases tg <;> first | (simp at h; done) | (cases e <;> rfl)
  · exact sw_plain h
theorem ss_setT (P : At X sc N fc) (nd : X.N.Nodup) (hc : X.calm = true) (ht : chkT sc N fc t tg = true) (hT : (match tg with | .Tuple _ _ _ => true | _ => false) = true) (he : SE T X W e f) (hw : swappedStores [tg] e X.env = pure none) (hfr : ∀ j, j ∈ tgv t → j ∈ fr) :
    SS T X W fr (.Assign [tg] e pos) fun ρ m => (f ρ m).bind fun d m => (R.of (bindT t d ρ) m).bind fun ρ m => .ok (.nx, ρ) m := by
  have hn : nst tg = true := chkT_nst ht
  have hsw : swapsWithSole [tg] e pos.line X.env = pure false := sw_tgt (.inl (by cases tg <;> first | rfl | (simp at hT)))
  refine (ps_asg he.pe (tg_ok (T := T) P nd hc t tg ht) hsw hw (by rw [asg_no hn]; rfl)).imp fun D σ H ⟨ρ, M, β, l, r, o⟩ => ⟨ρ, M, β, l, r, OutS.bind o fun d m v H1 β1 hv r1 g1 o1 => ?_⟩
  cases q : bindT t d ρ with
  | none => rw [q] at o1; exact o1.elim
  | some ρ' =>
    rw [q] at o1
    exact ⟨ρ, m, β1, d, ρ', l.grow r g1, r1, hv, q, fun σ' l' s' => o1.now r1 l' (s'.mono hfr)⟩

/-! ### o[i] = e -/
theorem pyIx_lt {n k : Nat} {i : Int} (h : pyIx n i = some k) : k < n := by
  rw [pyIx_ixN] at h
  exact (ixN_seq h).2.1
theorem belows_set {k : Nat} : ∀ {ds : List D} {i : Nat} {d : D}, belows k ds = true → below k d = true → belows k (ds.set i d) = true
  | [], _, _, _, _ => rfl
  | x :: ds, 0, d, h, hd => by
    simp only [belows, Bool.and_eq_true, List.set] at h ⊢
    exact ⟨hd, h.2⟩
  | x :: ds, i + 1, d, h, hd => by
    simp only [belows, Bool.and_eq_true, List.set] at h ⊢
    exact ⟨h.1, belows_set h.2 hd⟩
theorem belows_append {k : Nat} : ∀ {xs ys : List D}, belows k xs = true → belows k ys = true → belows k (xs ++ ys) = true
  | [], _, _, h => h
  | x :: xs, ys, h, h2 => by
    simp only [belows, Bool.and_eq_true, List.cons_append] at h ⊢
    exact ⟨h.1, belows_append h.2 h2⟩
theorem ss_setIx (ho : SE T X W o fo) (hi : SE T X W a fi) (he : SE T X W e f) (hsl : PlainIx a) (hsw : noComp e = true)
    (ha : ∀ v, assign (.Subscript o a p) X.env v = (do
      let ov ← holding [v] (eval o X.env)
      let iv ← holding [v, ov] (eval a X.env)
      standAt p
      holding [v, ov, iv] (setItem ov iv v)
      release [v, ov, iv] [])) (hw : swappedStores [.Subscript o a p] e X.env = pure none) :
    SS T X W fr (.Assign [.Subscript o a p] e pos) fun ρ m => (f ρ m).bind fun d m => (fo ρ m).bind fun x m => (fi ρ m).bind fun k m => match setIxD x k d m with
    | some m => .ok (.nx, ρ) m
    | none => .bad := by
  refine (ps_asg he.pe (pg_sub ho.pe hi.pe set_list ha) (sw_tgt (.inr hsw)) hw rfl).imp fun D σ H ⟨ρ, M, β, l, r, o⟩ => ⟨ρ, M, β, l, r, OutS.bind o fun d m v H1 β1 hv r1 g1 o1 => ?_⟩
  refine ⟨ρ, m, β1, l.grow r g1, r1, OutS.bind o1 fun x m2 xv H2 β2 hx r2 g2 o2 => ?_⟩
  refine ⟨ρ, m2, β2, (l.grow r g1).grow r1 g2, r2, OutS.bind o2 fun k m3 kv H3 β3 hk r3 g3 o3 => ?_⟩
  have l3 := ((l.grow r g1).grow r1 g2).grow r2 g3
  have hv3 := Rep.grow r2 g3 _ _ (Rep.grow r1 g2 _ _ hv)
  have hx3 := Rep.grow r2 g3 _ _ hx
  cases q : setIxD x k d m3 with
  | none => rw [q] at o3; exact o3.elim
  | some m4 =>
    rw [q] at o3
    unfold setIxD at q
    split at q
    · next n kk =>
      split at q
      · next xs hm =>
        split at q
        · next hb =>
          simp only [Option.map_eq_some_iff] at q
          obtain ⟨jj, hj, e4⟩ := q
          obtain ⟨b0, ys, e5, hys⟩ := r3.cell n _ hm
          unfold Rep at hx3 hk
          subst e4
          have hj2 : ixN ys.length kk = some jj := by rw [← hys.length, ← pyIx_ixN]; exact hj
          refine ⟨β3 n, ys, kk, jj, hx3.1, hk, e5, hj2, ?_⟩
          have g4 := Grow.wrote (c' := .lst (xs.set jj d)) (o := .lst (ys.set jj v)) r3 hm
          have r4 := r3.wrote hm (belows_set b0 hb) (hys.set jj hv3)
          exact o3 σ _ β3 (l3.grow r3 g4) r4 g4 Same.refl
        · cases q
      · cases q
    · cases q

/-! ### x op= e -/
theorem ss_aug (P : At X sc N fc) (nd : X.N.Nodup) (hi : nmB N i x = true) (hx : stoB sc fc x = true) (he : SE T X W e f) (hfr : i ∈ fr) {op : Operator} {bo : Bop} {g : Int → Int → Int} (ho : PIp X op (ipI g)) (hg : ∀ a b, bop bo (.int a) (.int b) = some (.int (g a b))) :
    SS T X W fr (.AugAssign (.Name x p) op e pos) fun ρ m => match ρ[i]? with
    | some (some x) => (f ρ m).bind fun y m => match x, y with
      | .int _, .int _ => (R.of (bop bo x y) m).bind fun z m => .ok (.nx, ρ.set i (some z)) m
      | _, _ => .bad
    | _ => .bad := by
  obtain ⟨h1, h2⟩ := stoB_ok P hx
  refine (ps_aug nd (by rw [P.nm]; exact nmB_eq hi) h1 he.pe ho h2).imp fun D σ H ⟨ρ, M, β, l, r, o⟩ => ?_
  dsimp only at o
  split at o
  · next d hd =>
    obtain ⟨v, e1, hv⟩ := l.2 i d hd
    refine ⟨v, e1, ρ, M, β, l, r, OutS.bind o fun y m yv H1 β1 hy r1 g1 o1 => ?_⟩
    cases d <;> cases y <;> first | exact o1.elim | skip
    rename_i n k
    have hv1 := Rep.grow r g1 _ _ hv
    unfold Rep at hv1 hy
    simp only [hg, R.of_some, R.bind_ok] at o1
    exact ⟨n, k, hv1, hy, o1.now r1 ((l.grow r g1).set i rep_int) (Same.set.mono fun j hj => by simp at hj; subst hj; exact hfr)⟩
  · exact o.elim

/-! ### append and extend -/
theorem tyL {K : PySem.W.Frag} {H : Hp} {a : Addr} {xs : List V} (h : H a = some (.lst xs)) : tyV K "list" (.ref a) H := .inl ⟨rfl, xs, .of h⟩
def noCall : Expr → Bool
  | .Call _ _ _ _ => false
  | _ => true
theorem base_plain {env : PySem.Env} {nm : Str} {w : Sem Value} (h : noCall o = true) : attributeBase o nm env w = w := by
  cases o <;> first | rfl | (simp [noCall] at h)
theorem few_one {env : PySem.Env} (h : nst e = true) : ((backTo pos (starEach [e] env)).all (fun x => !x.1) && (backToKw pos (keywordEach [] env)).all (fun x => x.1.isSome) && decide ([e].length + ([] : List Keyword).length + (if ([] : List Keyword).isEmpty then 0 else 1) < 30)) = true := by
  rw [star_no h]; rfl
theorem liveL_ok {x : D} {m : Mem} (h : liveL x m = true) : ∃ n xs, x = .cell n ∧ m[n]? = some (some (.lst xs)) := by
  unfold liveL at h
  split at h
  · next n =>
    split at h
    · next xs e => exact ⟨n, xs, rfl, e⟩
    · cases h
  · cases h
theorem ss_app (ho : SE T X W o fo) (he : SE T X W e f) (hn : nst e = true) (hc : noCall o = true) (hl : (apos.endLine == p.line) = true) : SS T X W fr (.Expr (.Call (.Attribute o "append" apos) [e] [] p) pos) fun ρ m => (fo ρ m).bind fun x m => if liveL x m then (f ρ m).bind fun d m => match appD x d m with
    | some m => .ok (.nx, ρ) m
    | none => .bad
    else .bad := by
  refine (ps_expr (pe_bm PySem.F.plainAttrs_list PySem.F.slot_list_append PySem.F.type_list_append mt_append ho.pe (pa_cons he.pe pa_nil (star_no hn)) (base_plain hc) (few_one hn) hl (star_no hn) rfl) (sw_plain rfl)).imp
    fun D σ H ⟨ρ, M, β, l, r, o⟩ => ⟨ρ, M, β, l, r, OutS.bind o fun x m v H1 β1 hx r1 g1 o1 => ?_⟩
  split at o1
  · next hv =>
    obtain ⟨n, xs, e1, e2⟩ := liveL_ok hv
    subst e1
    unfold Rep at hx
    obtain ⟨_, ys, e3, _⟩ := r1.cell n _ e2
    rw [hx.1]
    refine ⟨tyL e3, ρ, m, β1, l.grow r g1, r1, OutS.bind o1 fun d m2 dv H2 β2 hd r2 g2 o2 => ?_⟩
    cases q : appD (.cell n) d m2 with
    | none => rw [q] at o2; exact o2.elim
    | some m4 =>
      rw [q] at o2
      simp only [appD] at q
      split at q
      · next zs hm =>
        split at q
        · next hb =>
          cases q
          obtain ⟨b0, ws, e5, hws⟩ := r2.cell n _ hm
          have hb1 : β2 n = β1 n := g2.beq n hx.2
          have big := big_size
          refine ⟨β1 n, ws, dv, rfl, rfl, by rw [← hb1]; exact e5, by rw [← hws.length]; omega, ?_⟩
          rw [← hb1]
          have g4 := Grow.wrote (c' := .lst (zs ++ [d])) (o := .lst (ws ++ [dv])) r2 hm
          have r4 := r2.wrote hm (belows_append b0 (show belows 0 [d] = true by simp [belows, hb.2])) (hws.append (Reps.cons hd Reps.nil))
          exact o2 σ _ β2 (((l.grow r g1).grow r1 g2).grow r2 g4) r4 g4 Same.refl
        · cases q
      · cases q
  · exact o1.elim
theorem ss_ext (ho : SE T X W o fo) (he : SE T X W e f) (hn : nst e = true) (hc : noCall o = true) (hl : (apos.endLine == p.line) = true) : SS T X W fr (.Expr (.Call (.Attribute o "extend" apos) [e] [] p) pos) fun ρ m => (fo ρ m).bind fun x m => if liveL x m then (f ρ m).bind fun d m => match extD x d m with
    | some m => .ok (.nx, ρ) m
    | none => .bad
    else .bad := by
  refine (ps_expr (pe_bm PySem.F.plainAttrs_list PySem.F.slot_list_extend PySem.F.type_list_extend mt_extend ho.pe (pa_cons he.pe pa_nil (star_no hn)) (base_plain hc) (few_one hn) hl (star_no hn) rfl) (sw_plain rfl)).imp
    fun D σ H ⟨ρ, M, β, l, r, o⟩ => ⟨ρ, M, β, l, r, OutS.bind o fun x m v H1 β1 hx r1 g1 o1 => ?_⟩
  split at o1
  · next hv =>
    obtain ⟨n, xs, e1, e2⟩ := liveL_ok hv
    subst e1
    unfold Rep at hx
    obtain ⟨_, ys, e3, _⟩ := r1.cell n _ e2
    rw [hx.1]
    refine ⟨tyL e3, ρ, m, β1, l.grow r g1, r1, OutS.bind o1 fun d m2 dv H2 β2 hd r2 g2 o2 => ?_⟩
    cases q : extD (.cell n) d m2 with
    | none => rw [q] at o2; exact o2.elim
    | some m4 =>
      rw [q] at o2
      simp only [extD] at q
      split at q
      · next zs hm =>
        split at q
        · next us =>
          split at q
          · next hb =>
            cases q
            obtain ⟨b0, ws, e5, hws⟩ := r2.cell n _ hm
            have hb1 : β2 n = β1 n := g2.beq n hx.2
            have big := big_size
            unfold Rep at hd
            obtain ⟨b, vs, e6, e7, _, hvs⟩ := hd
            refine ⟨β1 n, b, ws, vs, rfl, by rw [e6], by rw [← hb1]; exact e5, e7, by rw [← hws.length, ← hvs.length]; omega, ?_⟩
            rw [← hb1]
            have g4 := Grow.wrote (c' := .lst (zs ++ us)) (o := .lst (ws ++ vs)) r2 hm
            have r4 := r2.wrote hm (belows_append b0 hb.2) (hws.append hvs)
            exact o2 σ _ β2 (((l.grow r g1).grow r1 g2).grow r2 g4) r4 g4 Same.refl
          · cases q
        · cases q
      · cases q
  · exact o1.elim

/-! ### loops -/
theorem ss_for {iter : Expr} {body : List Stmt} {fb : Env → Mem → R (Fl × Env)} {wp : List Nat} {fI : Env → Mem → R (List D)} (hp : PassesOwn (model X.prog X.w) X.A X.env X.xe) (hc : X.calm = true) (hi : SI T X W tg iter fI) (hg : PG X tg (rdTg T t)) (hb : SSs T X W fr body fb)
    (hs : ∀ x, foldedSetIterable iter X.env x = pure x) (hfr : ∀ j, j ∈ tgv t → j ∈ fr) :
    SS T X W fr (.For tg iter body [] pos) fun ρ m => (fI ρ m).bind fun ds m => forLoop (fun d ρ m => wipeR wp ((R.of (bindT t d ρ) m).bind fun ρ m => fb ρ m)) ds ρ m := by
  refine (ps_for hp hc hi hg hb hs).imp fun D σ H ⟨ρ, M, β, l, r, o⟩ => ⟨ρ, M, β, l, r, OutS.bind o fun ds m0 J H0 β0 hJ r0 g0 o0 => ?_⟩
  have l0 := l.grow r g0
  obtain ⟨hJl, hJ⟩ := hJ
  generalize hst : (fun d ρ m => wipeR wp ((R.of (bindT t d ρ) m).bind fun ρ m => fb ρ m)) = step at o0
  refine ⟨fun i k σ2 H2 => k = ds.length - i ∧ i ≤ ds.length ∧ ∃ ρ2 m β', RlE T m β' H2 ρ2 σ2 ∧ Rl T m β' H2 ∧ Grow m0 β0 H0 m β' H2 ∧ Same fr σ σ2 ∧ OutS T fr m0 β0 H0 σ (forLoop step (ds.drop i) ρ2 m) D W,
    ⟨ds.length, by simp, Nat.zero_le _, ρ, m0, β0, l0, r0, Grow.refl, Same.refl, by rw [List.drop_zero]; exact o0⟩, ?_⟩
  rintro i k σ2 H2 ⟨rfl, hi, ρ2, m, β', l2, r2, g2, s2, o2⟩
  obtain ⟨hgo, hstop⟩ := hJ i m β' H2 g2.toGrow0 r2
  by_cases hlt : i < ds.length
  · refine .inr ⟨(hgo ds[i] (List.getElem?_eq_getElem hlt)).1, _, fun σ' H' p => ⟨ds.length - (i + 1), by omega, p⟩, fun x H3 hy => ?_⟩
    obtain ⟨hxr, r3, g3⟩ := (hgo ds[i] (List.getElem?_eq_getElem hlt)).2 x H3 hy
    rw [List.drop_eq_getElem_cons hlt] at o2
    subst hst
    unfold forLoop at o2
    cases qb : bindT t ds[i] ρ2 with
    | none => rw [qb] at o2; exact o2.elim
    | some ρ' =>
      rw [qb] at o2
      have g23 := g2.trans g3
      refine ⟨ρ2, m, β', ds[i], ρ', l2.grow r2 g3, r3, hxr, qb, fun σ3 l3 s3 => ⟨ρ', m, β', l3, r3, ?_⟩⟩
      have s23 : Same fr σ σ3 := s2.trans (s3.mono hfr)
      simp only [R.of_some, R.bind_ok] at o2
      cases qf : fb ρ' m with
      | bad => rw [qf] at o2; exact o2.elim
      | exc y m4 => rw [qf] at o2; exact (OutS.step g23 o2).go s23
      | ok pr m4 =>
        obtain ⟨fl, ρ4⟩ := pr
        rw [qf] at o2
        intro σ4 H4 β4 l4 r4 g4 s4
        have s24 := s23.trans s4
        have g24 := g23.trans g4
        cases fl with
        | nx => exact ⟨rfl, hlt, wipe ρ4 wp, m4, β4, l4.wipe wp, r4, g24, s24, o2⟩
        | ct => exact ⟨rfl, hlt, wipe ρ4 wp, m4, β4, l4.wipe wp, r4, g24, s24, o2⟩
        | bk => exact o2 σ4 H4 β4 (l4.wipe wp) r4 g24 s24
        | rt d => exact o2 σ4 H4 β4 (l4.wipe wp) r4 g24 s24
  · have e : i = ds.length := by omega
    subst e
    refine .inl ⟨hstop (Nat.le_refl _), ?_⟩
    rw [List.drop_length] at o2
    exact o2 σ2 H2 β' l2 r2 g2 s2
theorem ss_while {body : List Stmt} {fb : Env → Mem → R (Fl × Env)} {wp : List Nat} {wf : Nat} (hp : PassesOwn (model X.prog X.w) X.A X.env X.xe) (hc : SE T X W e f) (hb : SSs T X W fr body fb) :
    SS T X W fr (.While e body [] pos) fun ρ m => whileLoop (fun ρ m => tst (f ρ m)) (fun ρ m => wipeR wp (fb ρ m)) wf ρ m := by
  refine (ps_while hp hc.pt hb).imp fun D σ H ⟨ρ, M, β, l, r, o⟩ => ?_
  dsimp only at o
  refine ⟨fun k σ2 H2 => ∃ ρ2 m β', RlE T m β' H2 ρ2 σ2 ∧ Rl T m β' H2 ∧ OutS T fr m β' H2 σ2 (whileLoop (fun ρ m => tst (f ρ m)) (fun ρ m => wipeR wp (fb ρ m)) k ρ2 m) D W, ⟨wf, ρ, M, β, l, r, o⟩, ?_⟩
  rintro k σ2 H2 ⟨ρ2, m, β', l2, r2, o2⟩
  cases k with
  | zero => exact o2.elim
  | succ k =>
    unfold whileLoop at o2
    refine ⟨ρ2, m, β', l2, r2, OutS.bind o2 fun t m3 v H3 β3 hv r3 g3 o3 => ?_⟩
    subst hv
    cases t with
    | false =>
      rw [if_neg (by simp)]
      exact o3 σ2 H3 β3 (l2.grow r2 g3) r3 Grow.refl Same.refl
    | true =>
      rw [if_pos rfl]
      refine ⟨_, fun σ' H' p => ⟨k, Nat.lt_succ_self _, p⟩, ρ2, m3, β3, l2.grow r2 g3, r3, ?_⟩
      simp only [if_true] at o3
      cases qf : fb ρ2 m3 with
      | bad => rw [qf] at o3; exact o3.elim
      | exc y m4 => rw [qf] at o3; exact o3
      | ok pr m4 =>
        obtain ⟨fl, ρ4⟩ := pr
        rw [qf] at o3
        intro σ4 H4 β4 l4 r4 g4 s4
        cases fl with
        | nx => exact ⟨wipe ρ4 wp, m4, β4, l4.wipe wp, r4, (OutS.step g4 o3).go s4⟩
        | ct => exact ⟨wipe ρ4 wp, m4, β4, l4.wipe wp, r4, (OutS.step g4 o3).go s4⟩
        | bk => exact o3 σ4 H4 β4 (l4.wipe wp) r4 g4 s4
        | rt d => exact o3 σ4 H4 β4 (l4.wipe wp) r4 g4 s4
end
end G48
set_option Elab.async false
set_option linter.all false
set_option maxRecDepth 100000
set_option maxHeartbeats 2000000
/-! G48: errors: raise, try, isinstance. -/
namespace G48
open PySem PySem.Spec PyProof.Rows L2
section
variable {T : XT} {G : List FI} {ps : List Pat} {cs : List (Str × D)} {wf n : Nat} {X : Cx} {W : WX} {fr : List Nat} {sc : Scope} {N : List Str} {fc : Str → Bool} {c : Nat} {y : Str} {q1 q2 q3 q4 q5 q6 : Pos}
theorem nodb_of (h : (c, y) ∈ T.cls) (hk : (y == ("__debug__" : Str)) = false) : (y == ("__debug__" : Str)) = false := hk
theorem ss_raise (C : Ctx T G ps cs wf n X W) (h : (c, y) ∈ T.cls) (hg : Gl X y) (nodb : (y == ("__debug__" : Str)) = false) : SS T X W fr (.Raise (some (.Call (.Name y q1) [] [] q2)) none q3) fun _ m => .exc (.exc c []) m := by
  have k := T.one c y h
  rw [← C.xk] at k
  obtain ⟨B, ini, F⟩ := xFacts c
  refine (ps_raise C.calm C.tk (pmk_bare F k.make (C.xm c y h) k.kp (raises_own k.sb k.ty) hg nodb)).imp fun D τ H ⟨ρ, M, β, l, r, o⟩ => ?_
  exact o _ _ H β τ ⟨[], ⟨y, h, rfl, rfl, rfl⟩, Reps.nil⟩ r Grow.refl Same.refl
/-- what the suite does: the error is kept -/
def tKeep (i j : Nat) : TS := tAsg (tVar i) (gName j)
theorem suite_keep {i j : Nat} {nm : Str} {e : Addr} {pn : List (Addr × Obj)} (nd : X.N.Nodup) (hi : X.N[i]? = some nm) (hj : X.N[j]? = some y) (vi : Vis X.env.scope nm) (h1 : (nm == ("__debug__" : Str)) = false) (h2 : (nm == ("__classdict__" : Str)) = false) (ly : Loc X.env.scope y) (ky : X.env.scope.names.lookup y = some .local) :
    PSs (X.suite e pn) [.Assign [.Name y q4] (.Name nm q5) q6] (tKeep i j) := by
  have hv : PE (X.suite e pn) (.Name nm q5) (tVar i) := pe_var (X := X.suite e pn) hi vi h1 h2
  exact (pss_cons (ps_set (X := X.suite e pn) (i := j) (x := y) nd hj ly hv (by rfl) (.inr ky)) pss_nil).imp fun D τ H h => h
theorem wipeX_get : ∀ {wp : List Nat} {ρ : Env} {k : Nat} {d : D}, (wipe ρ wp)[k]? = some (some d) → ρ[k]? = some (some d) ∧ k ∉ wp
  | [], ρ, k, d, h => ⟨h, by simp⟩
  | v :: wp, ρ, k, d, h => by
    obtain ⟨h1, h2⟩ := wipeX_get (wp := wp) (ρ := ρ.set v none) h
    by_cases e : v = k
    · subst e
      by_cases hl : v < ρ.length
      · rw [List.getElem?_set_self hl] at h1; cases h1
      · rw [List.getElem?_eq_none (by simpa using hl)] at h1; cases h1
    · rw [List.getElem?_set_ne e] at h1
      exact ⟨h1, by simp [h2, Ne.symm e]⟩
theorem wipeX_len : ∀ {wp : List Nat} {ρ : Env}, (wipe ρ wp).length = ρ.length
  | [], _ => rfl
  | v :: wp, ρ => by rw [wipe, wipeX_len, List.length_set]
theorem ss_try {i j : Nat} {nm x : Str} {bd : List Stmt} {fb : Env → Mem → R (Fl × Env)} {wp : List Nat} (C : Ctx T G ps cs wf n X W) (hst : X.stack = X.env :: X.outer) (hfr : X.env.frame = some X.env.locals) (hex : X.ex = [])
    (h : (c, x) ∈ T.cls) (hg : Gl X x) (nodb : (x == ("__debug__" : Str)) = false) (hi : X.N[i]? = some nm) (hj : X.N[j]? = some y) (ki : X.env.kindOf nm = some .local) (ky : X.env.scope.names.lookup y = some .local) (h1 : (nm == ("__debug__" : Str)) = false) (h2 : (nm == ("__classdict__" : Str)) = false)
    (wi : i ∈ fr) (wj : j ∈ fr) (wl : ∀ k, k ∈ wp → k ∈ fr) (hij : i ≠ j) (hjw : j < X.N.length)
    (body : ∀ (W : WX) (pn : List (Addr × Obj)) (xe : Value → Shared → Prop), Takes (X.tr pn xe) W → PassesOwn (model X.prog X.w) X.A X.env xe → SSs T (X.tr pn xe) W wp bd fb) :
    SS T X W fr (.Try bd [.ExceptHandler (some (.Name x q1)) (some nm) [.Assign [.Name y q4] (.Name nm q5) q6] q2] [] [] q3) fun ρ m => match fb ρ m with
      | .exc (.exc c' vs) m' => if c' = c then .ok (.nx, ((wipe ρ wp).set i none).set j (some (.exc c' vs))) m' else .bad
      | .exc _ _ => .bad
      | .ok p m' => .ok p m'
      | .bad => .bad := by
  have k := T.one c x h
  have names : Names X x (.ref (T.ad x)) := ⟨hg, nodb, .inl (C.xm c x h)⟩
  have ly : Loc X.env.scope y := .inl ky
  refine (ps_keep (tbd := fun W => rdS T W wp fb) hst hfr hex C.nd hi ki names C.tk body (fun e cls dd pn => suite_keep C.nd hi hj (.inl ki) h1 h2 ly ky)).imp fun D τ H ⟨ρ, M, β, l, r, o⟩ => ⟨ρ, M, β, l, r, ?_⟩
  dsimp only at o
  cases q : fb ρ M with
  | bad => rw [q] at o; exact o.elim
  | ok p m =>
    rw [q] at o
    exact OutS.less wl o
  | exc z m =>
    rw [q] at o
    cases z <;> first | (exact o.elim) | skip
    next c' vs =>
    dsimp only at o
    split at o
    · next ec =>
      subst ec
      intro cls dd H' β' τ' fly r' g' s'
      obtain ⟨xs, ⟨x', hx', rfl, rfl, rfl⟩, hr⟩ := fly
      have evs : vs = [] := by
        cases vs with
        | nil => rfl
        | cons _ _ =>
          have := hr.length
          simp at this
      subst evs
      have hm := (T.two c' x' c' x hx' h).1
      rw [← C.xk] at hm
      refine ⟨_, hm, fun _ e he hlt => ?_, fun z => by simp at z⟩
      have hr2 := r'.laid (o := ErrO (.ref (T.ad x')) none e) he
      have gr2 : Grow M β H m β' (upd H' e (ErrO (.ref (T.ad x')) none e)) := g'.trans (Grow.laid r' he)
      have hl : τ'.length = τ.length := s'.1
      have lt := l.1
      refine ⟨.ref e, by rw [List.getElem?_set_self hlt], ?_⟩
      refine o (((τ'.set i (some (.ref e))).set j (some (.ref e))).set i none) _ β' ⟨?_, fun k d hk => ?_⟩ hr2 gr2 ⟨?_, fun k hk => ?_⟩
      · simp [wipeX_len, hl, lt]
      · by_cases ej : j = k
        · subst ej
          have hjl : j < ((wipe ρ wp).set i none).length := by
            have := (List.getElem?_eq_some_iff.mp hk).1
            simpa using this
          rw [List.getElem?_set_self hjl] at hk
          cases hk
          refine ⟨.ref e, ?_, ?_⟩
          · rw [List.getElem?_set_ne hij, List.getElem?_set_self (by simp [wipeX_len] at hjl ⊢; rw [hl, ← lt]; exact hjl)]
          · unfold Rep
            exact ⟨e, [], rfl, ⟨x', hx', rfl, upd_same⟩, Reps.nil⟩
        · rw [List.getElem?_set_ne ej] at hk
          by_cases ei : i = k
          · subst ei
            by_cases hz : i < (wipe ρ wp).length
            · rw [List.getElem?_set_self hz] at hk; cases hk
            · rw [List.getElem?_eq_none (by simpa using hz)] at hk; cases hk
          · rw [List.getElem?_set_ne ei] at hk
            obtain ⟨k1, k2⟩ := wipeX_get hk
            obtain ⟨v, e1, e2⟩ := l.2 k d k1
            refine ⟨v, ?_, Rep.grow r gr2 d v e2⟩
            rw [List.getElem?_set_ne ei, List.getElem?_set_ne ej, List.getElem?_set_ne ei, s'.get k k2]
            exact e1
      · simp [hl]
      · have e1 : i ≠ k := fun z => hk (z ▸ wi)
        have e2 : j ≠ k := fun z => hk (z ▸ wj)
        rw [List.getElem?_set_ne e1, List.getElem?_set_ne e2, List.getElem?_set_ne e1, s'.get k fun z => hk (wl k z)]
    · exact o.elim
theorem peek_exc_inv {m : Mem} {x : D} {c : Nat} {vs : List D} (h : peek m x = .exc c vs) : x = .exc c vs := by
  cases x <;> simp only [peek] at h <;> first | exact h | skip
  split at h <;> cases h
theorem boot_x {t : Ty} (ht : t = .valErr ∨ t = .lookErr) : bootBuiltins (tyName t) = some (.type (tyName t)) ∧ (tyName t : Str) ∈ blts ∧ (tyName t : Str) ≠ "__name__" ∧ ((tyName t : Str) == ("__debug__" : Str)) = false := by
  rcases ht with rfl | rfl <;> (refine ⟨?_, ?_, ?_, ?_⟩ <;> decide +kernel)
theorem se_isinX {a : Expr} {fa : Env → Mem → R D} {p q pos : Pos} (C : Ctx T G ps cs wf n X W) {t : Ty} (ht : t = .valErr ∨ t = .lookErr) (hg : Gl X "isinstance") (hgt : Gl X (tyName t)) (ha : SE T X W a fa) (hn : nst a = true) :
    SE T X W (.Call (.Name "isinstance" p) [a, .Name (tyName t) q] [] pos) fun ρ m => (fa ρ m).bind fun x m => .of (isinD (peek m x) [t]) m := by
  obtain ⟨b1, b2, b3, b4⟩ := boot_x ht
  have hp : t.plain = false := by rcases ht with rfl | rfl <;> rfl
  have pt : PE X (.Name (tyName t) q) (tC (.ty (tyName t))) := pe_bltn hgt (C.blt _ b2) b1 rfl b3 b4
  refine se_plain ((pe_callB call_isK hg (C.blt "isinstance" (by decide +kernel)) (by decide +kernel) (pa_cons ha.pe (pa_cons pt pa_nil (star_no rfl)) (star_no hn)) (by decide) (by decide) (star_no hn) (plain_args rfl)).imp
    fun σ H Q ⟨ρ, M, β, l, r, o⟩ => ⟨ρ, M, β, l, r, Out.bind o fun x m v H1 β1 hx r1 g1 o1 => ?_⟩) (fun _ => rfl)
  obtain ⟨z, e, o2⟩ := o1.of
  obtain ⟨c, vs, ex⟩ : ∃ c vs, peek m x = .exc c vs := by
    cases hd : peek m x <;> rw [hd] at e <;> simp [isinD, hp] at e
    exact ⟨_, _, rfl⟩
  rw [ex] at e
  have ex := peek_exc_inv ex
  subst ex
  unfold Rep at hx
  obtain ⟨a', xs, ev, ⟨x', hx', _, he⟩, _⟩ := hx
  subst ev
  have k := T.one c x' hx'
  rw [← C.xk] at k
  have ez : z = .bl (isT (.exc c vs) t) := by
    rcases ht with rfl | rfl <;> simp [isinD, Ty.exc] at e <;> exact e.symm
  have hk : PySem.W.kitOne X.K (.ref (T.ad x')) (.type (tyName t)) = some (isT (.exc c vs) t) := by
    rcases ht with rfl | rfl
    · exact k.kv
    · exact k.kl
  subst ez
  exact ⟨a', T.ad x', .ty (tyName t), .type (tyName t), _, rfl, he, k.ec, fun u hu => hu, hk, o2.val r1 rep_bl⟩
end
end G48
set_option linter.all false
/-! G48: lists that ascend. -/
namespace G48
open PySem
/-! ### lists that ascend -/
theorem ins_perm (x : Int) : ∀ l : List Int, (ins x l).Perm (x :: l)
  | [] => .refl _
  | y :: r => by
    unfold ins
    split
    · exact .refl _
    · exact ((ins_perm x r).cons y).trans (.swap x y r)
theorem srt_perm : ∀ l : List Int, (srt l).Perm l
  | [] => .refl _
  | x :: r => (ins_perm x (srt r)).trans ((srt_perm r).cons x)
theorem ins_up (x : Int) : ∀ l : List Int, l.Pairwise (· ≤ ·) → (ins x l).Pairwise (· ≤ ·)
  | [], _ => by simp [ins]
  | y :: r, h => by
    unfold ins
    rw [List.pairwise_cons] at h
    split
    · next q =>
      refine List.pairwise_cons.mpr ⟨fun z hz => ?_, List.pairwise_cons.mpr h⟩
      rcases List.mem_cons.mp hz with e | e
      · subst e; exact q
      · exact Int.le_trans q (h.1 z e)
    · next q =>
      refine List.pairwise_cons.mpr ⟨fun z hz => ?_, ins_up x r h.2⟩
      rcases List.mem_cons.mp ((ins_perm x r).mem_iff.mp hz) with e | e
      · subst e; omega
      · exact h.1 z e
theorem srt_up : ∀ l : List Int, (srt l).Pairwise (· ≤ ·)
  | [] => List.Pairwise.nil
  | x :: r => ins_up x _ (srt_up r)
theorem up_unique : ∀ {a b : List Int}, a.Pairwise (· ≤ ·) → b.Pairwise (· ≤ ·) → a.Perm b → a = b
  | [], b, _, _, p => p.nil_eq
  | x :: a, [], _, _, p => absurd p.length_eq (by simp)
  | x :: a, y :: b, ha, hb, p => by
    rw [List.pairwise_cons] at ha hb
    have e : x = y := by
      have h1 : x ∈ y :: b := p.mem_iff.mp (by simp)
      have h2 : y ∈ x :: a := p.mem_iff.mpr (by simp)
      rcases List.mem_cons.mp h1 with z | z
      · exact z
      · rcases List.mem_cons.mp h2 with u | u
        · exact u.symm
        · have := ha.1 y u
          have := hb.1 x z
          omega
    subst e
    rw [up_unique ha.2 hb.2 (List.Perm.cons_inv p)]
theorem insS_mem (x k : Int) : ∀ l : List Int, k ∈ insS x l ↔ k = x ∨ k ∈ l
  | [] => by simp [insS]
  | y :: r => by
    unfold insS
    split
    · simp
    · split
      · next q => subst q; simp
      · simp only [List.mem_cons, insS_mem x k r]
        constructor
        · rintro (h | h | h) <;> simp [h]
        · rintro (h | h | h) <;> simp [h]
theorem srtS_mem (k : Int) : ∀ l : List Int, k ∈ srtS l ↔ k ∈ l
  | [] => by simp [srtS]
  | x :: r => by rw [srtS, insS_mem, srtS_mem k r, List.mem_cons]
theorem insS_up (x : Int) : ∀ l : List Int, l.Pairwise (· < ·) → (insS x l).Pairwise (· < ·)
  | [], _ => by simp [insS]
  | y :: r, h => by
    unfold insS
    have h' := List.pairwise_cons.mp h
    split
    · next q =>
      refine List.pairwise_cons.mpr ⟨fun z hz => ?_, h⟩
      rcases List.mem_cons.mp hz with e | e
      · subst e; exact q
      · exact Int.lt_trans q (h'.1 z e)
    · split
      · exact h
      · next q1 q2 =>
        refine List.pairwise_cons.mpr ⟨fun z hz => ?_, insS_up x r h'.2⟩
        rcases (insS_mem x z r).mp hz with e | e
        · subst e; omega
        · exact h'.1 z e
theorem srtS_up : ∀ l : List Int, (srtS l).Pairwise (· < ·)
  | [] => List.Pairwise.nil
  | x :: r => insS_up x _ (srtS_up r)
theorem strict_unique : ∀ {a b : List Int}, a.Pairwise (· < ·) → b.Pairwise (· < ·) → (∀ k, k ∈ a ↔ k ∈ b) → a = b
  | [], [], _, _, _ => rfl
  | [], y :: b, _, _, h => by have := (h y).mpr (by simp); simp at this
  | x :: a, [], _, _, h => by have := (h x).mp (by simp); simp at this
  | x :: a, y :: b, ha, hb, h => by
    rw [List.pairwise_cons] at ha hb
    have e : x = y := by
      rcases List.mem_cons.mp ((h x).mp (by simp)) with z | z
      · exact z
      · rcases List.mem_cons.mp ((h y).mpr (by simp)) with u | u
        · exact u.symm
        · have := ha.1 y u
          have := hb.1 x z
          omega
    subst e
    rw [strict_unique ha.2 hb.2 fun k => ?_]
    constructor
    · intro hk
      rcases List.mem_cons.mp ((h k).mp (List.mem_cons_of_mem _ hk)) with z | z
      · have := ha.1 k hk; omega
      · exact z
    · intro hk
      rcases List.mem_cons.mp ((h k).mpr (List.mem_cons_of_mem _ hk)) with z | z
      · have := hb.1 k hk; omega
      · exact z
theorem insS_len (x : Int) : ∀ l : List Int, x ∉ l → (insS x l).length = l.length + 1
  | [], _ => rfl
  | y :: r, h => by
    unfold insS
    split
    · rfl
    · split
      · next q => subst q; simp at h
      · simp [insS_len x r fun z => h (by simp [z])]
theorem srtS_len : ∀ l : List Int, l.Nodup → (srtS l).length = l.length
  | [], _ => rfl
  | x :: r, h => by
    rw [List.nodup_cons] at h
    rw [srtS, insS_len x _ (fun z => h.1 ((srtS_mem x r).mp z)), srtS_len r h.2, List.length_cons]
theorem count_of_set {l ns : List Int} (nd : l.Nodup) (h : ∀ k, k ∈ l ↔ k ∈ ns) : l.length = (srtS ns).length := by
  rw [← srtS_len l nd, strict_unique (srtS_up l) (srtS_up ns) fun k => by rw [srtS_mem, srtS_mem, h]]
end G48
set_option Elab.async false
set_option linter.all false
set_option maxRecDepth 100000
set_option maxHeartbeats 4000000
/-! G48: sets of ints that are counted or sorted at once. -/
namespace G48
open PySem PySem.Spec PyProof.Rows L2
/-- a new set -/
abbrev set0 (w : World) : Obj := { cls := .type "set", dict := none, data := .set #[] 0 (.fresh 0 0 (!w.params.followText "set-order")) }
section
variable {P : Program} {w : World} {A : Around} {E : Value → Shared → Prop} {s : Shared}
set_option maxRecDepth 100000 in
theorem set_of_list {src : Addr} {its : Array Value} (zs : List Int) {Q : Value → Shared → Prop} (calm : A.handled = none) (isl : s.heap.IsList src its) (intsA : IntsAre its.toList zs) (few : zs.length + 1 < scanBound)
    (fin : ∀ (hp : Heap) (tk c : Nat), SetR w hp s.heap.objs.size (fun z => decide (z ∈ zs)) c → c ≤ zs.length → (∀ b u, s.heap.get? b = some u → hp.get? b = some u) → Q (.ref s.heap.objs.size) { s with heap := hp, toks := tk }) :
    wpAny (model P w) A (call (.type "set") [.ref src]) Q E s := by
  have size : its.size = zs.length := (Array.length_toList (xs := its)).symm.trans (IntsAre.length intsA)
  obtain ⟨c0, tl0, mro0⟩ := F.called_set.mro
  have made0 := F.called_set.made
  have sub0 := F.called_set.sub
  refine wpAny_call (codeAny_of_tree (?_ : wpAny _ _ (callAny (.type "set") _) _ _ _))
  refine wpAny_pure ⟨Code.quiet_builtin _ (by decide +kernel), codeAny_builtin F.entry_type_call ?_⟩
  rw [Around.under_plain (weight_type_call_type "set" [.ref src] []) rfl]
  have notT := F.called_set.notType
  have canC := F.called_set.canCreate
  have tcall := F.typeCall_set_1 (.ref src)
  repeat (any_goals (first | assumption | wp_step))
  refine codeAny_mono (code_set_led1 (.ref src) (E := E) (Q₁ := fun ob t => ob = .ref s.heap.objs.size ∧ t = { s with heap := s.heap.push (set0 w) }) ⟨rfl, rfl⟩) fun r t hr => ?_
  cases r with
  | error e => exact hr
  | ok fl =>
    cases fl with
    | ret ob =>
      obtain ⟨rfl, rfl⟩ := hr
      have gS : (s.heap.push (set0 w)).get? s.heap.objs.size = some (set0 w) := Heap.get?_push_size _ rfl
      have tyS : Shared.TypeIs { s with heap := s.heap.push (set0 w) } (.ref s.heap.objs.size) "set" := ⟨_, gS, rfl⟩
      have inL := F.called_set.init.lookup
      have inB := F.called_set.init.bind (.ref s.heap.objs.size)
      repeat (any_goals (first | assumption | wp_step))
      refine codeAny_mono (codeAny_call_builtin (R := wants (fun v t => v = .none ∧ ∃ hp tk c, t = { s with heap := hp, toks := tk } ∧ SetR w hp s.heap.objs.size (fun z => decide (z ∈ zs)) c ∧ c ≤ zs.length ∧ (∀ b u, s.heap.get? b = some u → hp.get? b = some u)) E)
        F.called_set.init.plain F.entry_set_init (check_set_init_1 tyS ?_)) fun r2 t2 hr2 => ?_
      · obtain ⟨ol, gl, cl, nl, dl⟩ := isl
        obtain ⟨kc, kd, ka, ks⟩ := ol
        simp only at cl dl
        subst cl dl
        have gl' : (s.heap.push (set0 w)).get? src = some { cls := .type "list", dict := kd, data := .seq its nl, slots := ks } := Heap.get?_push_of_some _ gl
        have s1 := F.sub_list_set
        have s2 := F.sub_list_frozenset
        have s3 : (Value.type "list" == Value.type "dict") = false := by decide
        have isl1 : (s.heap.push (set0 w)).IsList src its := ⟨_, gl', rfl, nl, rfl⟩
        unfold Builtin.«set.__init__» noKeywords Builtin.Frozenset.updateFrom
        generalize eI : pyIter = PI
        wp_walk
        subst eI
        refine wpAny_pyIter_list isl1 (wpAny_bind (wpAny_runValue ?_))
        have below : src < s.heap.objs.size := Heap.lt_size gl
        have calm3 : A.in1.in1.in1.handled = none := by simp [calm]
        have neI : src ≠ (s.heap.push (set0 w)).objs.size := by rw [Heap.size_push]; exact Nat.ne_of_lt (Nat.lt_succ_of_lt below)
        have nfS : s.heap.objs.size ∉ [(s.heap.push (set0 w)).objs.size, src] := by
          rw [Heap.size_push]
          intro hm
          rcases List.mem_cons.mp hm with z | z
          · exact absurd z (Nat.ne_of_lt (Nat.lt_succ_self _))
          · exact absurd (List.mem_singleton.mp z) (Nat.ne_of_gt below)
        have each : ∀ (i : Nat) (v : Value), its[i]? = some v → ∃ k t, zs[i]? = some k ∧ v = .int k t := fun i v hv => by
          have hi : i < zs.length := size ▸ (Array.getElem?_eq_some_iff.mp hv).1
          obtain ⟨t, e⟩ := PyProof.Rows.IntsAre.int_at intsA i v (by simpa using hv)
          exact ⟨zs[i], t, List.getElem?_eq_getElem hi, by rw [e, List.getD_eq_getElem?_getD, List.getElem?_eq_getElem hi]; rfl⟩
        refine set_update_ints ((Walks.list calm3 _ src neI its).toS) s.heap.objs.size nfS zs size few each (its.size - 0) 0 _ (by omega) (Nat.zero_le _) ⟨⟨_, Heap.get?_push_size _ rfl, rfl, rfl⟩, (isl1.push _)⟩ ?at0 ?end0
        case at0 => exact ⟨0, Nat.le_refl 0, setR_new_at (Heap.get?_push_of_some _ gS)⟩
        case end0 =>
          intro t3 c3 mv c3le R3
          obtain ⟨hp, g3, d3, tk3, os3⟩ := t3
          obtain rfl : g3 = s.gens := mv.gens
          obtain rfl : d3 = s.drawn := mv.drawn
          obtain rfl : os3 = s.os := mv.os
          show wpAny _ _ _ _ _ _
          refine wpAny_pure ?_
          show wpAny _ _ (ret Value.none) _ _ _
          rw [size] at c3le
          refine wpAny_pure ⟨rfl, hp, tk3, c3, rfl, R3, c3le, fun b u e => ?_⟩
          have lb : b < s.heap.objs.size := Heap.lt_size e
          have lz : (s.heap.push (set0 w)).objs.size = s.heap.objs.size + 1 := Heap.size_push ..
          have nm : b ∉ [s.heap.objs.size, (s.heap.push (set0 w)).objs.size] := by
            intro hm
            rcases List.mem_cons.mp hm with z | z
            · exact absurd z (Nat.ne_of_lt lb)
            · rw [lz] at z
              exact absurd (List.mem_singleton.mp z) (Nat.ne_of_lt (Nat.lt_succ_of_lt lb))
          exact mv.heap b u nm (Heap.get?_push_of_some _ (Heap.get?_push_of_some _ e))
      · cases r2 with
        | error e => exact hr2
        | ok fl2 =>
          cases fl2 with
          | ret v =>
            obtain ⟨rfl, hp, tk, c, rfl, R, cle, kp⟩ := hr2
            repeat (any_goals (first | assumption | wp_step))
            exact fin _ _ _ R cle kp
          | _ => exact hr2.elim
    | _ => exact hr.elim
end
end G48
set_option Elab.async false
set_option linter.all false
set_option maxRecDepth 100000
set_option maxHeartbeats 4000000
/-! G48: sorted(..), sorted(set(..)), len(set(..)) of ints. -/
namespace G48
open PySem PySem.Spec PyProof.Rows L2
section
variable {T : XT} {G : List FI} {ps : List Pat} {cs : List (Str × D)} {wf n : Nat} {X : Cx} {W : WX} {a : Expr} {f : Env → Mem → R D} {p p2 q pos : Pos}
theorem bd_sorted : CallR X (.builtin "sorted") (rD1 T (b1 .sorted)) := by
  refine cr_sortedI.imp fun xs H Q h => ?_
  obtain ⟨M, β, d, x, z, e, r, s, q, k⟩ := rD1_some h
  cases d <;> simp only [b1, Option.map_eq_some_iff, reduceCtorEq] at q
  obtain ⟨ns, q1, q2⟩ := q
  have q1 := intsD_map q1
  subst q1 q2
  obtain ⟨a, ys, e1, h1, q1⟩ := s.lst
  rw [reps_ints_eq q1] at h1
  refine ⟨a, ns, by rw [e, e1], .of h1, fun zs p hp hs hn => ?_⟩
  have : zs = srt ns := up_unique hs (srt_up ns) (hp.trans (srt_perm ns).symm)
  subst this
  exact k _ _ (new_lst r hn (reps_ints _)) (r.laid hn) (Grow.laid r hn)
/-- what is told of set(a) -/
def tSet (K : PySem.W.Frag) (ta : TE) (R : List Int → Hp → VK → Prop) : TE := fun σ H Q => ta σ H fun x H1 => ∃ (l : Addr) (ns : List Int), x = .ref l ∧ (SqL K H1 l (ns.map V.int) ∨ SqT K H1 l (ns.map V.int)) ∧ ns.length < 64 ∧ R ns H1 Q
theorem set_any {ps : List (Addr × Obj)} {s : Shared} {τ : L2.St} {H : Hp} {l : Addr} {ns : List Int} {Q : Value → Shared → Prop} (I : Inv X ps τ H s) (hc : X.calm = true) (hq : SqL X.K H l (ns.map V.int) ∨ SqT X.K H l (ns.map V.int)) (hl : ns.length < 64)
    (fin : ∀ (hp : Heap) (tk c : Nat), SetR X.w hp s.heap.objs.size (fun z => decide (z ∈ ns)) c → c ≤ ns.length → (∀ b u, s.heap.get? b = some u → hp.get? b = some u) → Q (.ref s.heap.objs.size) { s with heap := hp, toks := tk }) :
    wpAny (model X.prog X.w) X.A (call (.type "set") [.ref l]) Q X.xe s := by
  have few : ns.length + 1 < scanBound := by unfold scanBound; omega
  rcases hq with hq | hq
  · obtain ⟨its, r, pl, hz⟩ := I.list hq
    exact set_of_list ns (I.ok.hd hc) pl.isList (by simpa using RZ.intsAre_vals r) few fin
  · obtain ⟨its, r, pl, hz⟩ := I.tuple hq
    exact call_set_tupI ns (I.ok.hd hc) pl (by simpa using RZ.intsAre_vals r) few fin
theorem pe_lenSet2 (hg : Gl X "len") (hm : X.mg "len" = none) (hg2 : Gl X "set") (hm2 : X.mg "set" = none) (hc : X.calm = true) {ta : TE} (ha : PE X a ta) (na : starEach [a] X.env = (false, eval a X.env) :: starEach [] X.env) :
    PE X (.Call (.Name "len" p) [.Call (.Name "set" p2) [a] [] q] [] pos) (tSet X.K ta fun ns H Q => Q (.int ((srtS ns).length : Nat)) H) := by
  refine ⟨fun pins s σ H Q I h => ?_⟩
  refine Call_ (ld_blt I hg hm boot_len (PyProof.Rows.callWith_builtin1 (PyProof.Rows.args_cons (Call_ (ld_blt I hg2 hm2 boot_set ?_)) rfl) rfl rfl))
  refine PyProof.Rows.callWith_type1 (PyProof.Rows.args_cons (thn (ha.run pins s σ H _ I h) fun v s1 ⟨x, H1, I1, r1, l, ns, ex, hq, hl, q1⟩ => PyProof.Rows.args_nil ?_) na) na rfl
  subst ex
  cases r1
  refine set_any I1 hc hq hl fun hp tk c R cle kp => PyProof.Rows.args_nil ?_
  obtain ⟨o, es, ep, t, ho, hex, hd, _, nd, mem, hsb, hf, hn, _⟩ := R
  have I2 : Inv X pins σ H1 { s1 with heap := hp, toks := tk } := I1.kept kp
  have en : c = (srtS ns).length := by
    rw [← hn, ← count_of_set nd fun k => by rw [← mem k]; simp]
    simp
  refine call_len_set ho hex hd hf (by rw [hn]; omega) ⟨.int ((srtS ns).length : Nat), H1, I2.tok _, ⟨_, by rw [hn, en]⟩, q1⟩
theorem pe_sortSet (hg : Gl X "sorted") (hm : X.mg "sorted" = none) (hg2 : Gl X "set") (hm2 : X.mg "set" = none) (hc : X.calm = true) {ta : TE} (ha : PE X a ta) (na : starEach [a] X.env = (false, eval a X.env) :: starEach [] X.env) :
    PE X (.Call (.Name "sorted" p) [.Call (.Name "set" p2) [a] [] q] [] pos) (tSet X.K ta fun ns H Q => ∀ e, H e = none → Q (.ref e) (upd H e (.lst ((srtS ns).map V.int)))) := by
  refine ⟨fun pins s σ H Q I h => ?_⟩
  refine Call_ (ld_blt I hg hm boot_sorted (PyProof.Rows.callWith_builtin1 (PyProof.Rows.args_cons (Call_ (ld_blt I hg2 hm2 boot_set ?_)) rfl) rfl rfl))
  refine PyProof.Rows.callWith_type1 (PyProof.Rows.args_cons (thn (ha.run pins s σ H _ I h) fun v s1 ⟨x, H1, I1, r1, l, ns, ex, hq, hl, q1⟩ => PyProof.Rows.args_nil ?_) na) na rfl
  subst ex
  cases r1
  refine set_any I1 hc hq hl fun hp tk c R cle kp => PyProof.Rows.args_nil ?_
  have I2 : Inv X pins σ H1 { s1 with heap := hp, toks := tk } := I1.kept kp
  refine sorted_set (s := { s1 with heap := hp, toks := tk }) R (I2.ok.hd hc) (by omega) fun s3 e out c3 zs keep gen osq fresh at3 isI up mem len => ?_
  have free : H1 e = none := I2.hok.fresh fresh
  have ez : zs = srtS ns := strict_unique up (srtS_up ns) fun k => by rw [mem k, srtS_mem]; simp
  subst ez
  have short : ((srtS ns).map V.int).length ≤ sizeLine := by rw [List.length_map, len, sizeLine_eq]; omega
  have J := I2.call (ch := []) (h' := s3.heap) (g' := s3.gens) (t' := s3.toks) (d' := s3.drawn) (H' := upd H1 e (.lst ((srtS ns).map V.int))) (Un.laid keep fresh free) (I2.hok.laid keep fresh ⟨short, out.toList, c3, vals_of_ints isI, at3⟩) (by rw [gen]; exact I2.bare) (fun _ z => nomatch z)
  obtain ⟨b1, b2, b3, b4, b5⟩ := s3
  have e5 : b5 = s1.os := osq
  subst e5
  exact ⟨.ref e, _, J, rfl, q1 e free⟩
theorem sq_of {M : Mem} {β : Nat → Addr} {H : Hp} {K : PySem.W.Frag} {d : D} {v : V} {xs : List D} {ns : List Int} (s : Seen T M β H d v) (hd : d = .lst xs ∨ d = .tup xs) (hi : intsD xs = some ns) : ∃ l, v = .ref l ∧ (SqL K H l (ns.map V.int) ∨ SqT K H l (ns.map V.int)) := by
  have q1 := intsD_map hi
  subst q1
  rcases hd with rfl | rfl
  · obtain ⟨a, ys, e1, h1, q1⟩ := s.lst
    rw [reps_ints_eq q1] at h1
    exact ⟨a, e1, .inl (.of h1)⟩
  · obtain ⟨a, ys, e1, h1, q1⟩ := s.tup
    rw [reps_ints_eq q1] at h1
    exact ⟨a, e1, .inr (.of h1)⟩
theorem b1_set {o : B1} {d z : D} (ho : o = .lenSet ∨ o = .sortSet) (h : b1 o d = some z) : ∃ xs ns, (d = .lst xs ∨ d = .tup xs) ∧ intsD xs = some ns ∧ ns.length < 64 ∧ z = (if o == .lenSet then .int (srtS ns).length else .lst ((srtS ns).map .int)) := by
  rcases ho with rfl | rfl <;> cases d <;> simp only [b1, Option.bind_eq_some_iff, reduceCtorEq] at h <;> obtain ⟨ns, h1, h2⟩ := h <;> (split at h2 <;> cases h2) <;> rename_i hl
  · exact ⟨_, ns, .inr rfl, h1, hl, rfl⟩
  · exact ⟨_, ns, .inl rfl, h1, hl, rfl⟩
  · exact ⟨_, ns, .inr rfl, h1, hl, rfl⟩
  · exact ⟨_, ns, .inl rfl, h1, hl, rfl⟩
theorem se_lenSet (C : Ctx T G ps cs wf n X W) (hg : Gl X "len") (hg2 : Gl X "set") (ha : SE T X W a f) (hn : nst a = true) : SE T X W (.Call (.Name "len" p) [.Call (.Name "set" p2) [a] [] q] [] pos) fun ρ m => (f ρ m).bind fun x m => .of (b1 .lenSet (peek m x)) m := by
  refine se_plain ((pe_lenSet2 hg (C.blt "len" (by decide +kernel)) hg2 (C.blt "set" (by decide +kernel)) C.calm ha.pe (star_no hn)).imp
    fun σ H Q ⟨ρ, M, β, l, r, o⟩ => ⟨ρ, M, β, l, r, Out.bind o fun x m v H1 β1 hx r1 g1 o1 => ?_⟩) (fun _ => rfl)
  obtain ⟨z, e, o2⟩ := o1.of
  obtain ⟨xs, ns, h1, h2, h3, h4⟩ := b1_set (.inl rfl) e
  subst h4
  obtain ⟨l, ev, hs⟩ := sq_of (K := X.K) (Seen.peek r1 hx) h1 h2
  exact ⟨l, ns, ev, hs, h3, o2.val r1 rep_int⟩
theorem se_sortSet (C : Ctx T G ps cs wf n X W) (hg : Gl X "sorted") (hg2 : Gl X "set") (ha : SE T X W a f) (hn : nst a = true) : SE T X W (.Call (.Name "sorted" p) [.Call (.Name "set" p2) [a] [] q] [] pos) fun ρ m => (f ρ m).bind fun x m => .of (b1 .sortSet (peek m x)) m := by
  refine se_plain ((pe_sortSet hg (C.blt "sorted" (by decide +kernel)) hg2 (C.blt "set" (by decide +kernel)) C.calm ha.pe (star_no hn)).imp
    fun σ H Q ⟨ρ, M, β, l, r, o⟩ => ⟨ρ, M, β, l, r, Out.bind o fun x m v H1 β1 hx r1 g1 o1 => ?_⟩) (fun _ => rfl)
  obtain ⟨z, e, o2⟩ := o1.of
  obtain ⟨xs, ns, h1, h2, h3, h4⟩ := b1_set (.inr rfl) e
  subst h4
  obtain ⟨l, ev, hs⟩ := sq_of (K := X.K) (Seen.peek r1 hx) h1 h2
  refine ⟨l, ns, ev, hs, h3, fun e he => ?_⟩
  exact o2 _ _ _ (new_lst r1 he (reps_ints _)) (r1.laid he) (Grow.laid r1 he)
end
end G48
set_option Elab.async false
set_option linter.all false
set_option maxRecDepth 100000
set_option maxHeartbeats 1000000
/-! G48: the text's expressions beside the small language's. -/
namespace G48
open PySem PySem.Spec PyProof.Rows L2

structure Cfg where
  G : List FI
  ps : List Pat
  cs : List (Str × D)
  xs : List (Nat × Str)

def opB : Bop → Operator → Bool
  | .add, .Add => true
  | .sub, .Sub => true
  | .mul, .Mult => true
  | .fdiv, .FloorDiv => true
  | .mod, .Mod => true
  | .pow, .Pow => true
  | _, _ => false
def copB : Cop → CmpOp → Bool
  | .eq, .Eq => true
  | .ne, .NotEq => true
  | .lt, .Lt => true
  | .le, .LtE => true
  | .gt, .Gt => true
  | .ge, .GtE => true
  | .mem, .In => true
  | .nmem, .NotIn => true
  | _, _ => false
def b1N : B1 → Str
  | .len => "len"
  | .abs => "abs"
  | .int => "int"
  | .sum => "sum"
  | .all => "all"
  | .any => "any"
  | .tuple => "tuple"
  | .list => "list"
  | .min => "min"
  | .max => "max"
  | .sorted => "sorted"
  | .lenSet => "len"
  | .sortSet => "sorted"
  | .sumL => "sum"
  | .sortedP => "sorted"
  | .sortedT => "sorted"
def okN (x : Str) : Bool := !(x == ("__debug__" : Str)) && !(x == ("__classdict__" : Str))
def visB (sc : Scope) (x : Str) : Bool := isK sc x .local || isK sc x .cell || isK sc x .free
def glB (sc : Scope) (x : Str) : Bool := isK sc x .globalImplicit
def isE (x y : Str) : Bool := decide (x = y)
/-- index that is no slice -/
def plainIxB : Expr → Bool
  | .Slice _ _ _ _ => false
  | _ => true
def dB : D → D → Bool
  | .non, .non => true
  | .bl a, .bl b => a == b
  | .int a, .int b => decide (a = b)
  | .str a, .str b => decide (a = b)
  | _, _ => false
theorem dB_eq {a b : D} (h : dB a b = true) : a = b := by
  cases a <;> cases b <;> simp [dB] at h <;> first | rfl | (rw [h])
def arB : List Ar → List Ar → Bool
  | [], [] => true
  | .arg i :: r, .arg j :: s => decide (i = j) && arB r s
  | .dft d :: r, .dft e :: s => dB d e && arB r s
  | _, _ => false
theorem arB_eq : ∀ {a b : List Ar}, arB a b = true → a = b
  | [], [], _ => rfl
  | .arg i :: r, .arg j :: s, h => by
    simp only [arB, Bool.and_eq_true, decide_eq_true_eq] at h
    rw [h.1, arB_eq h.2]
  | .dft d :: r, .dft e :: s, h => by
    simp only [arB, Bool.and_eq_true] at h
    rw [dB_eq h.1, arB_eq h.2]
  | [], _ :: _, h => by simp [arB] at h
  | .arg _ :: _, [], h => by simp [arB] at h
  | .dft _ :: _, [], h => by simp [arB] at h
  | .arg _ :: _, .dft _ :: _, h => by simp [arB] at h
  | .dft _ :: _, .arg _ :: _, h => by simp [arB] at h
def Es.len : Es → Nat
  | .nil => 0
  | .cons _ r => r.len + 1
  | .star _ r => r.len + 1
def takeS : Nat → Es → Es
  | 0, _ => .nil
  | n + 1, .cons e r => .cons e (takeS n r)
  | n + 1, .star e r => .star e (takeS n r)
  | _, .nil => .nil
def dropS : Nat → Es → Es
  | 0, es => es
  | n + 1, .cons _ r => dropS n r
  | n + 1, .star _ r => dropS n r
  | _, .nil => .nil
def patB (c : Cfg) (f np : Nat) (ks : List Str) (arr : List Ar) : Bool := c.ps.any fun q => decide (q.f = f) && decide (q.np = np) && decide (q.ks = ks) && arB q.arr arr
def tysB : List Ty → List Expr → Scope → Bool
  | [], [], _ => true
  | t :: ts, .Name x _ :: es, sc => isE x (tyName t) && glB sc x && t.plain && tysB ts es sc
  | _, _, _ => false
def ownOf (N : List Str) (t : Tg) : List (Str × Nat) := (tgv t).map fun i => (N.getD i "", i)
def noSet : Expr → Bool
  | .Set _ _ _ => false
  | _ => true
def tupT : Expr → Bool
  | .Tuple _ _ _ => true
  | _ => false

def zipI : I → Bool
  | .zip _ => true
  | .zipS _ => true
  | .rng (.cons _ .nil) => true
  | .rng (.cons _ (.cons _ .nil)) => true
  | _ => false
mutual
def chkE (c : Cfg) (N : List Str) : E → Scope → (Str → Bool) → Expr → Bool
  | .var i, sc, _, x => match x with
    | .Name y _ => nmB N i y && visB sc y && okN y
    | _ => false
  | .int n, _, _, x => match x with
    | .Constant (.int k) _ _ => decide (k = n)
    | _ => false
  | .bl b, _, _, x => match x with
    | .Constant (.bool k) _ _ => k == b
    | _ => false
  | .non, _, _, x => match x with
    | .Constant .none _ _ => true
    | _ => false
  | .str s, _, _, x => match x with
    | .Constant (.str k) _ _ => decide (k = s)
    | _ => false
  | .gl y d, sc, _, x => match x with
    | .Name z _ => isE z y && glB sc z && okN z && c.cs.any fun q => isE q.1 z && dB q.2 d
    | _ => false
  | .bin o a b, sc, fc, x => match x with
    | .BinOp a' op b' _ => opB o op && chkE c N a sc fc a' && chkE c N b sc fc b'
    | _ => false
  | .neg a, sc, fc, x => match x with
    | .UnaryOp .USub a' _ => chkE c N a sc fc a'
    | _ => false
  | .not a, sc, fc, x => match x with
    | .UnaryOp .Not a' _ => chkE c N a sc fc a'
    | _ => false
  | .and a b, sc, fc, x => match x with
    | .BoolOp .And (a' :: b' :: rest) p => chkE c N a sc fc a' && (match rest with
      | [] => chkE c N b sc fc b'
      | d :: r => chkE c N b sc fc (.BoolOp .And (b' :: d :: r) p))
    | _ => false
  | .or a b, sc, fc, x => match x with
    | .BoolOp .Or (a' :: b' :: rest) p => chkE c N a sc fc a' && (match rest with
      | [] => chkE c N b sc fc b'
      | d :: r => chkE c N b sc fc (.BoolOp .Or (b' :: d :: r) p))
    | _ => false
  | .cmp o a b, sc, fc, x => match x with
    | .Compare a' [op] [b'] _ => copB o op && chkE c N a sc fc a' && chkE c N b sc fc b' && !behindInMarks op b'
    | _ => false
  | .chain o o2 a b d, sc, fc, x => match x with
    | .Compare a' [op, op2] [b', d'] _ => copB o op && copB o2 op2 && chkE c N a sc fc a' && chkE c N b sc fc b' && chkE c N d sc fc d' && !lastMarks [op, op2] [b', d']
    | _ => false
  | .isN a, sc, fc, x => match x with
    | .Compare a' [.Is] [.Constant .none _ _] _ => chkE c N a sc fc a'
    | _ => false
  | .notN a, sc, fc, x => match x with
    | .Compare a' [.IsNot] [.Constant .none _ _] _ => chkE c N a sc fc a'
    | _ => false
  | .ife d a b, sc, fc, x => match x with
    | .IfExp d' a' b' _ => chkE c N d sc fc d' && chkE c N a sc fc a' && chkE c N b sc fc b'
    | _ => false
  | .tup es, sc, fc, x => match x with
    | .Tuple xs _ _ => chkEs c N es sc fc xs
    | _ => false
  | .lst es, sc, fc, x => match x with
    | .List xs _ => chkEs c N es sc fc xs
    | _ => false
  | .cel es, sc, fc, x => match x with
    | .List xs _ => chkEs c N es sc fc xs
    | _ => false
  | .ix a i, sc, fc, x => match x with
    | .Subscript a' i' _ => chkE c N a sc fc a' && chkE c N i sc fc i' && plainIxB i'
    | _ => false
  | .slice a lo hi, sc, fc, x => match x with
    | .Subscript a' (.Slice lo' hi' none _) _ => chkE c N a sc fc a' && chkEs c N lo sc fc lo'.toList && chkEs c N hi sc fc hi'.toList && lo'.toList.all nst && hi'.toList.all nst
    | _ => false
  | .rev a, sc, fc, x => match x with
    | .Subscript a' (.Slice none none (some (.UnaryOp .USub (.Constant (.int k) _ _) _)) _) _ => decide (k = 1) && chkE c N a sc fc a'
    | _ => false
  | .call f es, sc, fc, x => match x with
    | .Call (.Name y _) xs [] _ => (match c.G[f]? with
      | some g => isE g.name y && okN y
      | none => false) && glB sc y && chkEs c N es sc fc xs && xs.all nst
    | _ => false
  | .callA f es arr, sc, fc, x => match x with
    | .Call (.Name y _) xs ks _ => (match c.G[f]? with
      | some g => isE g.name y && okN y
      | none => false) && glB sc y && chkEs c N es sc fc (xs ++ ks.map (·.value)) && xs.all nst && ks.all (fun k => nst k.value) && ks.all (·.arg.isSome) && patB c f xs.length (kwName ks) arr && !(ks.isEmpty)
    | _ => false
  | .b1 f a, sc, fc, x => match x with
    | .Call (.Name y _) [a', .List [] _] [] _ => f == .sumL && isE y "sum" && glB sc y && chkE c N a sc fc a' && nst a'
    | .Call (.Name y _) [a'] [] _ => !(f == .sumL) && isE y (b1N f) && glB sc y && (if f == .lenSet || f == .sortSet then (match a' with
        | .Call (.Name z _) [a2] [] _ => isE z "set" && glB sc z && chkE c N a sc fc a2 && nst a2
        | _ => false) else chkE c N a sc fc a' && nst a')
    | _ => false
  | .min2 a b, sc, fc, x => match x with
    | .Call (.Name y _) [a', b'] [] _ => isE y "min" && glB sc y && chkE c N a sc fc a' && chkE c N b sc fc b' && nst a' && nst b'
    | _ => false
  | .max2 a b, sc, fc, x => match x with
    | .Call (.Name y _) [a', b'] [] _ => isE y "max" && glB sc y && chkE c N a sc fc a' && chkE c N b sc fc b' && nst a' && nst b'
    | _ => false
  | .isin a ts, sc, fc, x => match x with
    | .Call (.Name y _) [a', .Name z _] [] _ => isE y "isinstance" && glB sc y && chkE c N a sc fc a' && nst a' && (match ts with
      | [t] => isE z (tyName t) && glB sc z && (t.plain || decide (t = .valErr) || decide (t = .lookErr))
      | _ => false)
    | .Call (.Name y _) [a', .Tuple zs _ _] [] _ => isE y "isinstance" && glB sc y && chkE c N a sc fc a' && nst a' && tysB ts zs sc && decide (ts.length ≤ 1000)
    | _ => false
  | .seqI t i, sc, fc, x => match x with
    | .Call (.Name y _) [z] [] _ => t && isE y "tuple" && glB sc y && zipI i && nst z && chkI c N i sc fc z z
    | _ => false
  | .comp _ e t i fs, sc, fc, x => match x with
    | .ListComp elt [⟨tg, iter, ifs, as⟩] scope _ => decide (as = 0) && noSet iter && chkI c N i sc fc tg iter && blkC N sc scope (ownOf N t) && chkT (relS scope sc) N (fun y => isK scope y .cell) t tg &&
      chkE c N e (relS scope sc) (fun y => isK scope y .cell) elt && chkEs c N fs (relS scope sc) (fun y => isK scope y .cell) ifs
    | _ => false
  | .comp2 e t i fs t1 i1 fs1, sc, fc, x => match x with
    | .ListComp elt [⟨tg, iter, ifs, as⟩, ⟨tg1, iter1, ifs1, as1⟩] scope _ => decide (as = 0) && decide (as1 = 0) && noSet iter && noSet iter1 && chkI c N i sc fc tg iter && blkC N sc scope (ownOf N t ++ ownOf N t1) && chkT (relS scope sc) N (fun y => isK scope y .cell) t tg && chkT (relS scope sc) N (fun y => isK scope y .cell) t1 tg1 &&
      chkE c N e (relS scope sc) (fun y => isK scope y .cell) elt && chkEs c N fs (relS scope sc) (fun y => isK scope y .cell) ifs && chkI c N i1 (relS scope sc) (fun y => isK scope y .cell) tg1 iter1 && chkEs c N fs1 (relS scope sc) (fun y => isK scope y .cell) ifs1
    | _ => false
  | .cellOf a, sc, fc, x => match a with
    | .b1 .list e => match x with
      | .Call (.Name y _) [a'] [] _ => isE y "list" && glB sc y && chkE c N e sc fc a' && nst a'
      | _ => false
    | .bin .add e1 e2 => match x with
      | .BinOp a' .Add b' _ => chkE c N e1 sc fc a' && chkE c N e2 sc fc b'
      | _ => false
    | .bin .mul e1 e2 => match x with
      | .BinOp a' .Mult b' _ => chkE c N e1 sc fc a' && chkE c N e2 sc fc b'
      | _ => false
    | _ => false
  | .attr _ _, _, _, _ => false
def chkEs (c : Cfg) (N : List Str) : Es → Scope → (Str → Bool) → List Expr → Bool
  | .nil, _, _, xs => match xs with
    | [] => true
    | _ => false
  | .cons e r, sc, fc, xs => match xs with
    | x :: xs => nst x && chkE c N e sc fc x && chkEs c N r sc fc xs
    | _ => false
  | .star e r, sc, fc, xs => match xs with
    | .Starred x _ :: xs => chkE c N e sc fc x && chkEs c N r sc fc xs
    | _ => false
def chkI (c : Cfg) (N : List Str) : I → Scope → (Str → Bool) → Expr → Expr → Bool
  | .of e, sc, fc, _, x => chkE c N e sc fc x
  | .rng es, sc, fc, _, x => match x with
    | .Call (.Name y _) xs [] _ => isE y "range" && glB sc y && chkEs c N es sc fc xs && xs.all nst && decide (xs.length = 1 ∨ xs.length = 2)
    | _ => false
  | .enum e, sc, fc, tg, x => match x with
    | .Call (.Name y _) [a'] [] _ => isE y "enumerate" && glB sc y && chkE c N e sc fc a' && nst a' && tupT tg
    | _ => false
  | .zip es, sc, fc, _, x => match x with
    | .Call (.Name y _) (z :: zs) [] _ => isE y "zip" && glB sc y && chkEs c N es sc fc (z :: zs) && (z :: zs).all nst
    | _ => false
  | .zipS e, sc, fc, _, x => match x with
    | .Call (.Name y _) [.Starred a' _] [] _ => isE y "zip" && glB sc y && chkE c N e sc fc a'
    | _ => false
  | .enumZip es, sc, fc, tg, x => match x with
    | .Call (.Name y _) [.Call (.Name y2 _) (z :: zs) [] _] [] _ => isE y "enumerate" && glB sc y && isE y2 "zip" && glB sc y2 && chkEs c N es sc fc (z :: zs) && (z :: zs).all nst && tupT tg
    | _ => false
end
end G48
set_option Elab.async false
set_option linter.all false
set_option maxRecDepth 100000
set_option maxHeartbeats 1000000
/-! G48: a list or a tuple from behind. -/
namespace G48
open PySem PySem.Spec PyProof.Rows L2 HT

section
variable {prog : Program} {w : World} {A : Around} {E : Value → Shared → Prop} {s : Shared}
theorem places_back (n : Nat) : Builtin.Slice.slicePlaces ((n : Int) - 1) (-1) (-1) = n := by
  unfold Builtin.Slice.slicePlaces
  rw [if_neg (by decide)]
  by_cases h : (n : Int) - 1 > -1
  · rw [if_pos h, show (- (-1) : Int) = 1 by decide, Int.ediv_one]; omega
  · rw [if_neg h]; omega
theorem sliced_back {sl : Addr} {vs : Value} {n : Nat} {Q : Int × Int × Nat → Shared → Prop} (hs : s.heap.IsSliceOf sl .none .none vs) (ps : IsPart vs (some (-1)))
    (h : Q ((n : Int) - 1, -1, n) s) : wpAny (model prog w) A (Builtin.Slice.sliceApplied (.ref sl) (pure (n : Int))) Q E s := by
  obtain ⟨os, hos, hcs, hds⟩ := id hs
  unfold Builtin.Slice.sliceApplied Builtin.Slice.sliceFields
  refine wpAny_bind (wpAny_bind (wpAny_field hos hds (x := .none) rfl (wpAny_bind (wpAny_field hos hds (x := .none) rfl (wpAny_bind (wpAny_field hos hds (x := vs) rfl (wpAny_pure ?_)))))))
  refine wpAny_bind (slicePart_ ps ?_)
  show wpAny _ _ (if ((-1 : Int) == 0) = true then _ else _) _ _ s
  rw [if_neg (by decide)]
  refine wpAny_bind (slicePart_none (wpAny_bind (slicePart_none (wpAny_bind (wpAny_pure ?_)))))
  have e : Builtin.Slice.sliceAdjust none none (-1) (n : Int) = ((n : Int) - 1, -1) := rfl
  show wpAny _ _ (match Builtin.Slice.sliceAdjust none none (-1) (n : Int) with | (lo, hi) => pure (lo, (-1 : Int), Builtin.Slice.slicePlaces lo hi (-1))) _ _ s
  rw [e]
  show wpAny _ _ (pure ((n : Int) - 1, (-1 : Int), Builtin.Slice.slicePlaces ((n : Int) - 1) (-1) (-1))) _ _ s
  rw [places_back]
  exact wpAny_pure h
theorem pick_back (xs : Array Value) : ((List.range xs.size).filterMap fun (m : Nat) => xs[((xs.size : Int) - 1 + (m : Int) * -1).toNat]?).toArray = xs.toList.reverse.toArray := by
  have e : (List.range xs.size).filterMap (fun (m : Nat) => xs[((xs.size : Int) - 1 + (m : Int) * -1).toNat]?) = ((List.range xs.size).map fun k => xs.size - 1 - k).filterMap (xs[·]?) := by
    rw [List.filterMap_map]
    have key : ∀ l : List Nat, (∀ m ∈ l, m < xs.size) → l.filterMap (fun (m : Nat) => xs[((xs.size : Int) - 1 + (m : Int) * -1).toNat]?) = l.filterMap ((fun x => xs[x]?) ∘ fun k => xs.size - 1 - k) := by
      intro l
      induction l with
      | nil => intro _; rfl
      | cons m l ih =>
        intro h
        have e : ((xs.size : Int) - 1 + (m : Int) * -1).toNat = xs.size - 1 - m := by
          have := h m (by simp)
          omega
        rw [List.filterMap_cons, List.filterMap_cons, ih fun k hk => h k (by simp [hk]), e]
        rfl
    exact key _ fun m hm => List.mem_range.mp hm
  rw [e, PySem.W.krv_range, List.filterMap_reverse, PySem.W.krv_all]
theorem getItem_tuple_back {t sl : Addr} {items : Array Value} {vs : Value} {Q : Value → Shared → Prop} (ht : IsTup s.heap t items) (hs : s.heap.IsSliceOf sl .none .none vs) (ps : IsPart vs (some (-1)))
    (h : Q (.ref s.heap.objs.size) { s with heap := s.heap.push { cls := .type "tuple", data := .seq items.toList.reverse.toArray } })
    (hsz : items.size ≤ sizeLine) : wpAny (model prog w) A (getItem (.ref t) (.ref sl)) Q E s := by
  have htake : sizeOk (.seq items.toList.reverse.toArray) := by
    show items.toList.reverse.toArray.size ≤ sizeLine
    rw [List.size_toArray, List.length_reverse, Array.length_toList]
    exact hsz
  obtain ⟨os, hos, hcs, hds⟩ := id hs
  have hTs : s.TypeIs (.ref sl) "slice" := ⟨os, hos, hcs⟩
  unfold getItem
  try with_reducible refine wpAny_holding ?_
  first | refine wpAny_bind (wpAny_pure ?_) | skip
  refine wpAny_bind (wpAny_sequenceKey ht.typeIs (by decide) ?_)
  refine wpAny_bind (wpAny_callSpecial?_slot (name := Str.ofString "__getitem__") ht.typeIs PyProof.Rows.slot_tuple_getitem
    (wpAny_call_entry PyProof.Rows.slot_tuple_getitem ht.typeIs entry_tuple_getitem ?_ (args_tuple_getitem _ _)))
  show wpAny _ _ (Builtin.Tuple.tupleItemsOf (.ref t) >>= _) _ _ s
  refine wpAny_bind (tupleItemsOf_ ht ?_)
  refine wpAny_bind (wpAny_typeOf hTs ?_)
  rw [if_pos (by decide)]
  refine wpAny_bind (sliced_back hs ps ?_)
  have hno : ¬ ((((items.size : Int) - 1) == 0 && (-1 : Int) == 1 && items.size == items.size) = true) := by simp
  show wpAny _ _ (if (((items.size : Int) - 1) == 0 && (-1 : Int) == 1 && items.size == items.size) = true then _ else _) _ _ s
  rw [if_neg hno, pick_back]
  first
    | exact wpAny_bind (m := Builtin.Tuple.tupleExact _) (wpAny_newObj_type (wpAny_pure ⟨_, rfl, wpAny_pure h⟩) htake)
    | exact wpAny_bind (m := Builtin.Tuple.tupleExact _) (wpAny_newObj_type (wpAny_bind (wpAny_pure (wpAny_pure ⟨_, rfl, wpAny_pure h⟩))) htake)
    | exact wpAny_bind (wpAny_bind (m := Builtin.Tuple.tupleExact _) (wpAny_newObj_type (wpAny_pure (wpAny_pure ⟨_, rfl, wpAny_pure h⟩)) htake))
    | exact wpAny_bind (wpAny_bind (m := Builtin.Tuple.tupleExact _) (wpAny_newObj_type (wpAny_pure ⟨_, rfl, wpAny_pure h⟩) htake))
end

section
variable {X : Cx}
def tBack (K : PySem.W.Frag) (te : TE) : TE := fun σ H Q => te σ H fun x H1 => ∃ a xs, x = .ref a ∧ ((SqL K H1 a xs ∧ ∀ p, H1 p = none → Q (.ref p) (upd H1 p (.lst xs.reverse))) ∨ (SqT K H1 a xs ∧ ∀ p, H1 p = none → Q (.ref p) (upd H1 p (.tup xs.reverse))))
theorem pe_back {e : Expr} {te : TE} {k : Nat} {p1 p2 p3 pos : Pos} (he : PE X e te) : PE X (.Subscript e (.Slice none none (some (.UnaryOp .USub (.Constant (.int 1) k p1) p2)) p3) pos) (tBack X.K te) := by
  refine ⟨fun pins s σ H Q I h => ?_⟩
  refine Subscript_ (thn (he.run pins s σ H _ I h) fun v s1 ⟨x, H1, I1, r1, q1⟩ => ?_)
  obtain ⟨a, xs, ex, hh⟩ := q1
  subst ex
  cases r1
  have hst : PO X (some (.UnaryOp .USub (.Constant (.int 1) k p1) p2)) (tPart (tUn (rU fun i => .int (-i)) (tC (.int 1)))) := po_some (pe_un un_neg pe_int)
  refine wpAny_Slice (thn (po_none.run pins s1 σ H1 (fun o H2 => o = none ∧ H2 = H1) I1 ⟨rfl, rfl⟩) fun vl s2 ⟨l, H2, I2, pl, el, e2⟩ => ?_)
  subst el e2
  refine thn (po_none.run pins s2 σ H2 (fun o H3 => o = none ∧ H3 = H2) I2 ⟨rfl, rfl⟩) fun vu s3 ⟨u, H3, I3, pu, eu, e3⟩ => ?_
  subst eu e3
  refine thn (hst.run pins s3 σ H3 (fun o H4 => o = some (-1) ∧ H4 = H3) I3 ⟨1, rfl, -1, rfl, rfl, rfl⟩) fun vs s4 ⟨o, H4, I4, ps, eo, e4⟩ => ?_
  subst eo e4
  have I5 : Inv X pins σ H4 { s4 with heap := s4.heap.push { cls := .type "slice", data := .fields #[vl, vu, vs] } } := I4.kept (t' := s4.toks) fun b ob q => Heap.get?_push_of_some _ q
  show wpAny (model X.prog X.w) X.A (subscriptTail e (.Slice none none (some (.UnaryOp .USub (.Constant (.int 1) k p1) p2)) p3) (.ref a) (.ref s4.heap.objs.size)) (EP X pins σ Q) X.xe { s4 with heap := s4.heap.push { cls := .type "slice", data := .fields #[vl, vu, vs] } }
  rcases hh with ⟨hx, q⟩ | ⟨hx, q⟩
  · obtain ⟨its, r, ht, hz⟩ := I5.list hx
    have hlen := r.length
    refine tail_any (ops := [.ref a, .ref s4.heap.objs.size]) ht.isList.typeIs (PySem.slot_list_getitem.lookup) ?_ (by with_unfolding_all rfl)
    refine wpAny_getItem_list_slice ht.isList (Heap.IsSliceOf.new _ vl vu vs) pl pu ps (by decide) ?_ (by rw [List.size_toArray]; omega)
    rw [PySem.W.krv_pick]
    refine ⟨.ref _, _, I5.laid (t' := s4.toks) (o := .lst xs.reverse) (fun b ob q => Heap.get?_push_of_some _ q) (Nat.le_refl _) ?_, rfl, q _ (I5.hok.fresh (Nat.le_refl _))⟩
    exact ⟨by rw [List.length_reverse]; exact hz, _, 0, r.reverse, Heap.get?_push_size _ rfl⟩
  · obtain ⟨its, r, ht, hz⟩ := I5.tuple hx
    have hlen := r.length
    cases pl
    cases pu
    refine tail_any (ops := [.ref a, .ref s4.heap.objs.size]) ht.typeIs (PyProof.Rows.slot_tuple_getitem.lookup) ?_ (by with_unfolding_all rfl)
    refine getItem_tuple_back ht (Heap.IsSliceOf.new _ _ _ vs) ps ?_ (by rw [List.size_toArray]; omega)
    refine ⟨.ref _, _, I5.laid (t' := s4.toks) (o := .tup xs.reverse) (fun b ob q => Heap.get?_push_of_some _ q) (Nat.le_refl _) ?_, rfl, q _ (I5.hok.fresh (Nat.le_refl _))⟩
    exact ⟨by rw [List.length_reverse]; exact hz, _, r.reverse, IsTup.new _ _⟩
end

section
variable {T : XT} {X : Cx} {W : WX} {a : Expr} {fa : Env → Mem → R D}
theorem se_rev {k : Nat} {p1 p2 p3 pos : Pos} (ha : SE T X W a fa) : SE T X W (.Subscript a (.Slice none none (some (.UnaryOp .USub (.Constant (.int 1) k p1) p2)) p3) pos) fun ρ m => (fa ρ m).bind fun x m => .of (revD (peek m x)) m := by
  refine se_plain ((pe_back ha.pe).imp fun σ H Q ⟨ρ, M, β, l, r, o⟩ => ⟨ρ, M, β, l, r, Out.bind o fun x m v H1 β1 hx r1 g1 o1 => ?_⟩) (fun _ => rfl)
  have s := Seen.peek r1 hx
  obtain ⟨z, e1, o2⟩ := o1.of
  generalize peek m x = y' at e1 s
  cases y' <;> simp only [revD, reduceCtorEq] at e1
  · cases e1
    obtain ⟨a, ys, e2, h1, q1⟩ := s.tup
    exact ⟨a, ys, e2, .inr ⟨.of h1, fun p hp => o2 _ _ _ (new_tup r1 hp q1.reverse) (r1.laid hp) (Grow.laid r1 hp)⟩⟩
  · cases e1
    obtain ⟨a, ys, e2, h1, q1⟩ := s.lst
    exact ⟨a, ys, e2, .inl ⟨.of h1, fun p hp => o2 _ _ _ (new_lst r1 hp q1.reverse) (r1.laid hp) (Grow.laid r1 hp)⟩⟩
end
end G48
set_option Elab.async false
set_option linter.all false
set_option maxRecDepth 100000
set_option maxHeartbeats 1000000
/-! G48: a tuple, a list of what a zip gives. -/
namespace G48
open PySem PySem.Spec PyProof.Rows L2

theorem nolen_zip : typeLookup (.type "zip") "__len__" = pure none := by rw [typeLookup_type, builtinLookup_eq_fast]; kernel_rfl
theorem nohint_zip : typeLookup (.type "zip") "__length_hint__" = pure none := by rw [typeLookup_type, builtinLookup_eq_fast]; kernel_rfl
abbrev zAt (N : Nat) (as : List (Addr × Bool)) (i : Nat) (h : Heap) : Prop := ZSt h (N + as.length + 2) (N + as.length) (N + as.length + 1) (mkCs N as) i
theorem zAt.keep {N : Nat} {as : List (Addr × Bool)} {i : Nat} {h h' : Heap} (st : zAt N as i h) (k : ∀ b ∈ fpZ N as, ∀ o, h.get? b = some o → h'.get? b = some o) : zAt N as i h' := by
  obtain ⟨⟨f0, bb, hz, hf⟩, hti, ⟨os, hto, ho⟩, hits⟩ := st
  refine ⟨⟨f0, bb, k _ (by simp [fpZ]) _ hz, hf⟩, k _ (by simp [fpZ]) _ hti, ⟨os, k _ (by simp [fpZ]) _ hto, ho⟩, fun c hc => (hits c hc).at fun o q => k _ ?_ o q⟩
  simp only [fpZ, List.mem_cons, List.mem_map]
  exact .inr (.inr (.inr ⟨c, hc, rfl⟩))
theorem zAt.lt {N : Nat} {as : List (Addr × Bool)} {i : Nat} {h : Heap} (st : zAt N as i h) : ∀ b ∈ fpZ N as, b < h.objs.size := fun b hb => by
  obtain ⟨f0, bb, hz, _⟩ := st.zip
  obtain ⟨os, hto, _⟩ := st.to
  simp only [fpZ, List.mem_cons, List.mem_map] at hb
  rcases hb with q | q | q | ⟨c, hc, q⟩
  · rw [q]; exact Heap.lt_size hz
  · rw [q]; exact Heap.lt_size st.ti
  · rw [q]; exact Heap.lt_size hto
  · rw [← q]; exact (st.its c hc).lt
theorem zAt.ty {N : Nat} {as : List (Addr × Bool)} {i : Nat} {s : Shared} (st : zAt N as i s.heap) : s.TypeIs (.ref (N + as.length + 2)) "zip" := by
  obtain ⟨f0, b, hz, _⟩ := st.zip
  exact ⟨_, hz, rfl⟩

section
variable {X : Cx} {A : Around} {E : Value → Shared → Prop} {pins : List (Addr × Obj)} {σ : L2.St} {H : Hp} {s : Shared} {N : Nat} {as : List (Addr × Bool)} {i : Nat}
theorem next_zipI {Q : Option Value → Shared → Prop} (hA : A.handled = none) (hne : as ≠ []) (hl : as.length ≤ 16) (hlt : ∀ a ∈ as, a.1 < N) (I : Inv X pins σ H s) (hf : ∀ b ∈ fpZ N as, FpOk X pins H b) (st : zAt N as i s.heap) (hg : (ItZ X.K as).go i H)
    (hQ : ∀ (u : Value) (x : V) (H' : Hp) (h' : Heap), Inv X pins σ H' { s with heap := h' } → RelV x u → (ItZ X.K as).yld i H x H' → zAt N as (i + 1) h' → (∀ b ∈ fpZ N as, H' b = none) → (∀ b o, b ∉ fpZ N as → s.heap.get? b = some o → h'.get? b = some o) → Q (some u) { s with heap := h' }) :
    wpAny (model X.prog X.w) A (pyNext (.ref (N + as.length + 2))) Q E s := by
  obtain ⟨xss, ys, hp, hy⟩ := hg
  obtain ⟨hy1, hy2⟩ := col_some hy
  have hpl : as.length = xss.length := Paired.length hp
  have ap := mk_apart N as hlt
  have fact : ∀ (k : Nat) (c : Cm), (mkCs N as)[k]? = some c → ∃ xs, xss[k]? = some xs ∧ SrcAt s.heap c (srcOf s.heap c) ∧ Vals xs (srcOf s.heap c).toList := fun k c hk => by
    obtain ⟨xs, h1, h2⟩ := Paired.get hp (mkCs_get as N k c hk)
    obtain ⟨h3, h4, _⟩ := sqA_src I h2
    exact ⟨xs, h1, h3, h4⟩
  have cne : mkCs N as ≠ [] := fun z => hne (by cases as with | nil => rfl | cons _ _ => simp [mkCs] at z)
  have big : as.length ≤ sizeLine := Nat.le_trans hl (by rw [sizeLine_eq]; decide)
  refine next_zipN (src := srcOf s.heap) hA ap cne (by rw [mkCs_len]; exact big) st (fun c hcm => ?_) (fun _ h' vs a1 a2 a3 a4 a5 a6 => ?_) (fun h' ⟨c, hcm, hx⟩ _ => ?_)
  · obtain ⟨k, hk⟩ := List.mem_iff_getElem?.mp hcm
    obtain ⟨_, _, h3, _⟩ := fact k c hk
    exact h3
  · have hT : TupAt h' s.heap.objs.size vs.toArray := a4
    have kp : ∀ b o, b ∉ fpZ N as → s.heap.get? b = some o → h'.get? b = some o := fun b o hb q => by
      refine a6 b o (fun z => hb (by simp [fpZ, z])) (fun z => hb (by simp [fpZ, z])) (fun d hd z => hb ?_) q
      simp only [fpZ, List.mem_cons, List.mem_map]
      exact .inr (.inr (.inr ⟨d, hd, z.symm⟩))
    have rv : Vals ys vs := by
      refine vals_by (by rw [hy1, a1, mkCs_len, hpl]) fun k x u h1 h2 => ?_
      have hkl : k < (mkCs N as).length := by rw [← a1]; exact (List.getElem?_eq_some_iff.mp h2).1
      obtain ⟨xs, e1, _, r1⟩ := fact k _ (List.getElem?_eq_getElem hkl)
      obtain ⟨x', e2, e3⟩ := hy2 k xs e1
      rw [h1] at e3; cases e3
      obtain ⟨u', e4, r4⟩ := r1.get e2
      have e5 := a2 k _ (List.getElem?_eq_getElem hkl)
      rw [h2] at e5
      rw [Array.getElem?_toList] at e4
      rw [e4] at e5; cases e5
      exact r4
    have new : ObjOk X.prog X.w (upd H s.heap.objs.size (.tup ys)) h' s.heap.objs.size (.tup ys) := ⟨by rw [hy1, ← hpl]; exact big, vs, rv, ⟨_, hT, rfl, _, rfl⟩⟩
    have I1 : Inv X pins σ (upd H s.heap.objs.size (.tup ys)) { s with heap := h' } := I.turnedNew (t' := s.toks) (ch := fpZ N as) kp hf (Nat.le_refl _) new
    refine hQ _ (.ref s.heap.objs.size) _ h' I1 rfl ⟨_, ys, rfl, I.hok.fresh (Nat.le_refl _), rfl, fun l hl => by rw [sqAs_inj I hl hp]; exact hy⟩ a3 (fun b hb => ?_) kp
    rw [upd_ne (Nat.ne_of_lt (st.lt b hb))]
    exact (hf b hb).1
  · exfalso
    obtain ⟨k, hk⟩ := List.mem_iff_getElem?.mp hcm
    obtain ⟨xs, e1, _, r1⟩ := fact k c hk
    obtain ⟨x, e2, _⟩ := hy2 k xs e1
    obtain ⟨u, e3, _⟩ := r1.get e2
    rw [Array.getElem?_toList, hx] at e3
    cases e3
theorem end_zipI {Q : Option Value → Shared → Prop} (hA : A.handled = none) (hne : as ≠ []) (hl : as.length ≤ 16) (hlt : ∀ a ∈ as, a.1 < N) (I : Inv X pins σ H s) (hf : ∀ b ∈ fpZ N as, FpOk X pins H b) (st : zAt N as i s.heap) (hg : (ItZ X.K as).stop i H)
    (hQ : ∀ (h' : Heap), Inv X pins σ H { s with heap := h' } → (∀ b o, b ∉ fpZ N as → s.heap.get? b = some o → h'.get? b = some o) → Q none { s with heap := h' }) :
    wpAny (model X.prog X.w) A (pyNext (.ref (N + as.length + 2))) Q E s := by
  obtain ⟨xss, hp, hy⟩ := hg
  obtain ⟨k0, xs0, hk0, hx0⟩ := col_none hy
  have hpl : as.length = xss.length := Paired.length hp
  have ap := mk_apart N as hlt
  have fact : ∀ (k : Nat) (c : Cm), (mkCs N as)[k]? = some c → ∃ xs, xss[k]? = some xs ∧ SrcAt s.heap c (srcOf s.heap c) ∧ Vals xs (srcOf s.heap c).toList := fun k c hk => by
    obtain ⟨xs, h1, h2⟩ := Paired.get hp (mkCs_get as N k c hk)
    obtain ⟨h3, h4, _⟩ := sqA_src I h2
    exact ⟨xs, h1, h3, h4⟩
  have cne : mkCs N as ≠ [] := fun z => hne (by cases as with | nil => rfl | cons _ _ => simp [mkCs] at z)
  have big : as.length ≤ sizeLine := Nat.le_trans hl (by rw [sizeLine_eq]; decide)
  refine next_zipN (src := srcOf s.heap) hA ap cne (by rw [mkCs_len]; exact big) st (fun c hcm => ?_) (fun hall _ _ _ _ _ _ _ _ => ?_) (fun h' _ a6 => ?_)
  · obtain ⟨k, hk⟩ := List.mem_iff_getElem?.mp hcm
    obtain ⟨_, _, h3, _⟩ := fact k c hk
    exact h3
  · exfalso
    have hkl : k0 < (mkCs N as).length := by rw [mkCs_len, hpl]; exact (List.getElem?_eq_some_iff.mp hk0).1
    obtain ⟨xs, e1, _, r1⟩ := fact k0 _ (List.getElem?_eq_getElem hkl)
    rw [hk0] at e1; cases e1
    obtain ⟨x, hx⟩ := hall _ (List.getElem_mem hkl)
    have := r1.none_of hx0
    rw [Array.getElem?_toList, hx] at this
    cases this
  · have kp : ∀ b o, b ∉ fpZ N as → s.heap.get? b = some o → h'.get? b = some o := fun b o hb q => by
      refine a6 b o (fun z => hb (by simp [fpZ, z])) (fun z => hb (by simp [fpZ, z])) (fun d hd z => hb ?_) q
      simp only [fpZ, List.mem_cons, List.mem_map]
      exact .inr (.inr (.inr ⟨d, hd, z.symm⟩))
    exact hQ h' (I.turnedL (t' := s.toks) (ch := fpZ N as) kp hf) kp

/-- what is drawn so far lies in the list at S -/
structure Drw (T : XT) (M : Mem) (β : Nat → Addr) (H0 : Hp) (S : Addr) (ds : List D) (i : Nat) (H : Hp) : Prop where
  rl : Rl T (M ++ [some .tmp]) (putB β M.length S) H
  gr : Grow M β H0 (M ++ [some .tmp]) (putB β M.length S) H
  it : ∃ xs, H S = some (.lst xs) ∧ xs.length = i ∧ Reps T (M ++ [some .tmp]) (putB β M.length S) H (ds.take i) xs

theorem zip_loop {T : XT} {M : Mem} {β : Nat → Addr} {H0 : Hp} {S : Addr} {ds : List D} {res : Value} {R : Result → Shared → Prop} (hA : A.handled = none) (hne : as ≠ []) (hl : as.length ≤ 16) (hlt : ∀ a ∈ as, a.1 < N) (r0 : Rl T M β H0) (hJ : JOk T M β H0 ds (ItZ X.K as)) (hS : S ∉ fpZ N as) :
    ∀ (k i : Nat) (s : Shared) (H : Hp), ds.length - i = k → i ≤ ds.length → Inv X pins σ H s → (∀ b ∈ fpZ N as, FpOk X pins H b) → zAt N as i s.heap → Drw T M β H0 S ds i H →
    (∀ s' H', Inv X pins σ H' s' → Drw T M β H0 S ds ds.length H' → R (.ok (.ret res)) s') →
    codeAny (model X.prog X.w) A (.builtin "list.extend.loop" ⟨[.ref S, .ref (N + as.length + 2), res], []⟩) R s := by
  intro k
  induction k with
  | zero =>
    intro i s H hk hi I hf st d hR
    have e : i = ds.length := by omega
    subst e
    refine codeAny_builtin F.entry_extend_loop ?_
    rw [Around.under_plainId F.plain_extend_loop _]
    show wpAny _ A.in1 (pyNext (.ref (N + as.length + 2)) >>= _) _ _ s
    refine wpAny_bind (end_zipI (A := A.in1) hA hne hl hlt I hf st ((hJ.2 _ _ _ _ d.gr.toGrow0 d.rl).2 (Nat.le_refl _)) fun h' I' kp => ?_)
    exact wpAny_pure (hR _ H I' d)
  | succ k ih =>
    intro i s H hk hi I hf st d hR
    have hlt' : i < ds.length := by omega
    obtain ⟨hgo, hyl⟩ := (hJ.2 i _ _ _ d.gr.toGrow0 d.rl).1 ds[i] (List.getElem?_eq_getElem hlt')
    refine codeAny_builtin F.entry_extend_loop ?_
    rw [Around.under_plainId F.plain_extend_loop _]
    show wpAny _ A.in1 (pyNext (.ref (N + as.length + 2)) >>= _) _ _ s
    refine wpAny_bind (next_zipI (A := A.in1) hA hne hl hlt I hf st hgo fun u x H1 h1 I1 rx hy st1 hf1 kp => ?_)
    obtain ⟨hxr, r1, g1⟩ := hyl x H1 hy
    obtain ⟨xs, e1, e2, e3⟩ := d.it
    have tm : (M ++ [some Cel.tmp])[M.length]? = some (some .tmp) := by simp
    have bS : putB β M.length S M.length = S := putB_same
    have hS1 : H1 S = some (.lst xs) := by
      have := (g1.hid _ tm).2
      rw [bS] at this
      rw [this]; exact e1
    obtain ⟨z, its, n, rv, hlen, hget⟩ := I1.lstM hS1
    show wpAny _ A.in1 (updateSeq S (·.push u) >>= _) _ _ _
    refine wpAny_bind ?_
    have hz : i < sizeLine := Nat.lt_of_lt_of_le hlt' hJ.1
    refine wpAny_updateSeq hget rfl (wpAny_pure ⟨plainId_quiet F.plain_extend_loop _, ?_⟩) (by rw [List.size_toArray]; omega) (by show (its.toArray.push u).size ≤ sizeLine + 1; rw [Array.size_push, List.size_toArray]; omega)
    have I2 := I1.lset (its' := its ++ [u]) (f := fun a => a.push u) (t' := s.toks) (ys := xs ++ [x]) hS1 hget (by simp) (rv.append (.cons rx .nil)) (by rw [List.length_append, List.length_singleton]; omega)
    refine ih (i + 1) _ (upd H1 S (.lst (xs ++ [x]))) (by omega) hlt' I2 (fun b hb => ?_) (st1.keep fun b hb o q => ?_) ⟨?_, ?_, xs ++ [x], upd_same, by rw [List.length_append, List.length_singleton, e2], ?_⟩ hR
    · obtain ⟨_, f2⟩ := hf b hb
      have nb : b ≠ S := fun z => hS (by rw [← z]; exact hb)
      exact ⟨by rw [upd_ne nb]; exact hf1 b hb, f2⟩
    · exact (Heap.get?_update_other _ _ (fun z : S = b => hS (by rw [z]; exact hb))).trans q
    · have := r1.poke (xs := xs ++ [x]) tm
      rw [bS] at this; exact this
    · have := Grow.poke (c' := .tmp) (o := .lst (xs ++ [x])) (d.gr.trans g1) r1 r0 (Nat.le_refl _) tm
      rw [set_same tm, bS] at this; exact this
    · have h4 := Reps.grow d.rl g1 _ _ e3
      have h5 : Reps T (M ++ [some .tmp]) (putB β M.length S) H1 (ds.take (i + 1)) (xs ++ [x]) := by
        rw [List.take_succ, List.getElem?_eq_getElem hlt']
        exact h4.append (Reps.cons hxr Reps.nil)
      have := Reps.grow0 r1 (Grow0.poke (o := .lst (xs ++ [x])) r1 tm) _ _ h5
      rw [bS] at this; exact this

theorem zip_collect {T : XT} {M : Mem} {β : Nat → Addr} {H0 : Hp} {ds : List D} {Q : List Value → Shared → Prop} (hA : A.handled = none) (hne : as ≠ []) (hl : as.length ≤ 16) (hlt : ∀ a ∈ as, a.1 < N) (r0 : Rl T M β H0) (hJ : JOk T M β H0 ds (ItZ X.K as)) (I : Inv X pins σ H0 s)
    (hf : ∀ b ∈ fpZ N as, FpOk X pins H0 b) (st : zAt N as 0 s.heap)
    (hQ : ∀ s' H' S xs us, Inv X pins σ H' s' → Vals xs us → Rl T (M ++ [some .tmp]) (putB β M.length S) H' → Grow M β H0 (M ++ [some .tmp]) (putB β M.length S) H' → Reps T (M ++ [some .tmp]) (putB β M.length S) H' ds xs → Q us s') :
    wpAny (model X.prog X.w) A (collect (.ref (N + as.length + 2))) Q E s := by
  have hSf : s.heap.objs.size ∉ fpZ N as := fun hm => Nat.lt_irrefl _ (st.lt _ hm)
  have hSI : s.heap.objs.size ≠ N + as.length + 2 := fun e => hSf (by simp [fpZ, e])
  have hn : H0 s.heap.objs.size = none := I.hok.fresh (Nat.le_refl _)
  unfold collect
  refine wpAny_bind (wpAny_runValue (codeAny_builtin F.entry_proto_collect ?_))
  rw [Around.under_plainId F.plain_proto_collect _]
  show wpAny _ A.in1 (newList [] >>= fun l => again (.builtin "list.__iadd__" ⟨[l, .ref (N + as.length + 2)], []⟩)) _ _ s
  refine wpAny_bind (wpAny_newObj_type ?_)
  refine wpAny_pure ⟨plainId_quiet F.plain_list_iadd _, codeAny_builtin F.entry_list_iadd ?_⟩
  rw [Around.under_plainId F.plain_list_iadd _]
  have I1 : Inv X pins σ (upd H0 s.heap.objs.size (.lst [])) { s with heap := s.heap.push { cls := .type "list", data := .seq ([] : List Value).toArray } } := I.lnew (its := []) (t' := s.toks) .nil (Nat.zero_le _)
  have st1 : zAt N as 0 (s.heap.push { cls := .type "list", data := .seq ([] : List Value).toArray }) := st.keep fun b _ o e => Heap.get?_push_of_some _ e
  show wpAny _ A.in1 (Builtin.List.listExtendWith (.ref s.heap.objs.size) (.ref (N + as.length + 2)) (.ref s.heap.objs.size)) _ _ _
  unfold Builtin.List.listExtendWith
  refine wpAny_bind (wpAny_typeOf (zAt.ty (s := { s with heap := s.heap.push { cls := .type "list", data := .seq ([] : List Value).toArray } }) st1) ?_)
  have h1 : Builtin.List.listSameRef (.ref s.heap.objs.size) (.ref (N + as.length + 2)) = false := by simp [Builtin.List.listSameRef, hSI]
  have h2 : (Value.type "zip" == Value.type "list") = false := by decide
  have h3 : (Value.type "zip" == Value.type "tuple") = false := by decide
  simp only [h1, h2, h3, Bool.or_false, Bool.false_eq_true, if_false]
  refine wpAny_bind (?_ : wpAny _ A.in1 (pyIter (.ref (N + as.length + 2))) _ _ _)
  have hT : Shared.TypeIs { s with heap := s.heap.push { cls := .type "list", data := .seq ([] : List Value).toArray } } (.ref (N + as.length + 2)) "zip" := zAt.ty (s := { s with heap := s.heap.push { cls := .type "list", data := .seq ([] : List Value).toArray } }) st1
  refine wpAny_pyIter_slot hT F.slot_zip_iter (wpAny_call_entry F.slot_zip_iter hT F.entry_zip_iter ?_ (F.args_zip_iter_1 _))
  refine wpAny_pure ⟨_, rfl, "zip", _, hT, F.slot_zip_next.lookup, ?_⟩
  refine wpAny_bind (wpAny_holding ?_)
  unfold Builtin.List.listLengthHint
  refine wpAny_bind (wpAny_specialOf hT nolen_zip ?_)
  show wpAny _ A.in1 (specialOf (Value.ref (N + as.length + 2)) (Str.ofString "__length_hint__") >>= _) _ _ _
  refine wpAny_bind (wpAny_specialOf hT nohint_zip ?_)
  refine wpAny_pure ?_
  show wpAny _ A.in1 (rule "list.extend.makes-room" >>= fun _ => Builtin.List.listTouch (.ref s.heap.objs.size) >>= fun _ =>
    again (.builtin "list.extend.loop" ⟨[.ref s.heap.objs.size, .ref (N + as.length + 2), .ref s.heap.objs.size], []⟩)) _ _ _
  refine wpAny_bind (wpAny_rule ?_)
  have hS₁ : (s.heap.push { cls := .type "list", data := .seq ([] : List Value).toArray }).get? s.heap.objs.size = some { cls := .type "list", data := .seq ([] : List Value).toArray } := Heap.get?_push_size _ rfl
  refine wpAny_bind ?_
  show wpAny _ A.in1 (updateSeq s.heap.objs.size (·.push .none) >>= fun _ => updateSeq s.heap.objs.size (·.pop)) _ _ _
  refine wpAny_bind (wpAny_updateSeq hS₁ rfl ?_)
  have hS₂ := Heap.get?_update_self (Obj.mapSeq (·.push Value.none)) hS₁ rfl
  refine wpAny_updateSeq hS₂ rfl ?_
  have hS₃ := Heap.get?_update_self (Obj.mapSeq (·.pop)) hS₂ rfl
  have oth : ∀ b o, b ≠ s.heap.objs.size → (s.heap.push { cls := .type "list", data := .seq ([] : List Value).toArray }).get? b = some o →
      (((s.heap.push { cls := .type "list", data := .seq ([] : List Value).toArray }).update s.heap.objs.size (Obj.mapSeq (·.push Value.none))).update s.heap.objs.size (Obj.mapSeq (·.pop))).get? b = some o :=
    fun b o hb e => (Heap.get?_update_other _ _ (Ne.symm hb)).trans ((Heap.get?_update_other _ _ (Ne.symm hb)).trans e)
  have I2 : Inv X pins σ (upd H0 s.heap.objs.size (.lst [])) { s with heap := ((s.heap.push { cls := .type "list", data := .seq ([] : List Value).toArray }).update s.heap.objs.size (Obj.mapSeq (·.push Value.none))).update s.heap.objs.size (Obj.mapSeq (·.pop)) } := by
    refine I.laid (t' := s.toks) (fun b o e => oth b o (Nat.ne_of_lt (Heap.lt_size e)) (Heap.get?_push_of_some _ e)) (Nat.le_refl _) ?_
    exact ⟨Nat.zero_le _, [], _, .nil, hS₃⟩
  refine wpAny_pure ⟨plainId_quiet F.plain_extend_loop _, zip_loop (T := T) (M := M) (β := β) (H0 := H0) (S := s.heap.objs.size) (ds := ds) hA hne hl hlt r0 hJ hSf ds.length 0 _ _ rfl (Nat.zero_le _) I2 (fun b hb => ?_) (st1.keep fun b hb o e => oth b o (fun h => hSf (by rw [← h]; exact hb)) e)
    ⟨r0.tmped hn, Grow.celled r0 hn, [], upd_same, rfl, Reps.nil⟩ fun s' H' I' d => ?_⟩
  · obtain ⟨f1, f2⟩ := hf b hb
    have nb : b ≠ s.heap.objs.size := fun z => hSf (by rw [← z]; exact hb)
    exact ⟨by rw [upd_ne nb]; exact f1, f2⟩
  · obtain ⟨xs, e1, e2, e3⟩ := d.it
    obtain ⟨z, its, n, rv, hlen, hget⟩ := I'.lstM e1
    show wpAny _ A (load s.heap.objs.size >>= _) _ _ s'
    refine wpAny_bind (wpAny_load hget ?_)
    rw [List.take_length] at e3
    refine wpAny_pure ?_
    have := hQ s' H' s.heap.objs.size xs its I' rv d.rl d.gr e3
    simpa using this
end
end G48
set_option Elab.async false
set_option linter.all false
set_option maxRecDepth 100000
set_option maxHeartbeats 1000000
/-! G48: tuple(zip(..)). -/
namespace G48
open PySem PySem.Spec PyProof.Rows L2

/-- a zip has come -/
def ZIE (X : Cx) (pins : List (Addr × Obj)) (σ : L2.St) (R : It → Hp → Prop) (v : Value) (s : Shared) : Prop :=
  ∃ (N : Nat) (as : List (Addr × Bool)) (H : Hp), v = .ref (N + as.length + 2) ∧ as ≠ [] ∧ as.length ≤ 16 ∧ (∀ a ∈ as, a.1 < N) ∧ Inv X pins σ H s ∧ zAt N as 0 s.heap ∧ (∀ b ∈ fpZ N as, FpOk X pins H b) ∧ R (ItZ X.K as) H
def PZ (T : XT) (X : Cx) (W : WX) (e : Expr) (f : Env → Mem → R (List D)) : Prop :=
  ∀ (pins : List (Addr × Obj)) (s : Shared) (σ : L2.St) (H : Hp) (R : It → Hp → Prop), Inv X pins σ H s → rdI T W f σ H R → wpAny (model X.prog X.w) X.A (eval e X.env) (ZIE X pins σ R) X.xe s

section
variable {T : XT} {X : Cx} {W : WX} {pos p sp : Pos} {e a b : Expr} {es : List Expr} {f fa fb : Env → Mem → R D} {fs : Env → Mem → R (List D)}
theorem zip_ie {pins : List (Addr × Obj)} {σ : L2.St} {H : Hp} {s : Shared} {R : It → Hp → Prop} {E : Value → Shared → Prop} {M : Mem} {β : Nat → Addr} {ls : List (List D)} {as : List (Addr × Bool)} (I : Inv X pins σ H s) (r : Rl T M β H) (q : Paired (Src T M β H) ls as)
    (hne : as ≠ []) (hl : as.length ≤ 16) (hR : ∀ J, JOk T M β H (zipL ls) J → R J H) :
    wpAny (model X.prog X.w) X.A (call (.type "zip") (as.map fun a => Value.ref a.1)) (ZIE X pins σ R) E s := by
  have each : ∀ a ∈ as, SrcOk s.heap a ∧ a.1 < s.heap.objs.size := fun a ha => by
    obtain ⟨k, hk⟩ := List.mem_iff_getElem?.mp ha
    obtain ⟨l, _, h2⟩ := Paired.get2 q hk
    exact (len_of I h2).2
  have lens : ∀ l ∈ ls, l.length ≤ sizeLine := fun l hm => by
    obtain ⟨k, hk⟩ := List.mem_iff_getElem?.mp hm
    obtain ⟨a, _, h2⟩ := Paired.get q hk
    exact (len_of I h2).1
  have lne : ls ≠ [] := fun z => by subst z; cases q; exact hne rfl
  refine call_zipN hne hl (fun a ha => (each a ha).1) fun h' st hsz hk => ?_
  refine ⟨s.heap.objs.size, as, H, rfl, hne, hl, fun a ha => (each a ha).2, I.kept (t' := s.toks) hk, st, fun b hb => ?_, hR _ (jok_zip r q lne lens)⟩
  have hle := (fpZ_range hb).1
  exact I.fpOk hle (I.hok.fresh hle)
theorem pz_zip (hg : Gl X "zip") (hm : X.mg "zip" = none) (ha : SA T X W (e :: es) fs) (hn : (e :: es).all nst = true) : PZ T X W (.Call (.Name "zip" p) (e :: es) [] pos) fun ρ m => (fs ρ m).bind fun ds m => (R.of (zipD ds) m).bind fun ls m => .ok (zipL ls) m := by
  have hn' : nst e = true ∧ es.all nst = true := by simpa using hn
  refine fun pins s σ H R I ⟨ρ, M, β, l, r, o⟩ => ?_
  refine Call_ (ld_blt I hg hm PyProof.Rows.boot_zip (PyProof.Rows.callWith_type1 (thn (ha.run pos pins s σ H (fun vs H1 => ∃ m β1 ls as, vs = as.map (fun a : Addr × Bool => V.ref a.1) ∧ as ≠ [] ∧ as.length ≤ 16 ∧ Rl T m β1 H1 ∧ Paired (Src T m β1 H1) ls as ∧ ∀ J, JOk T m β1 H1 (zipL ls) J → R J H1) I
    ⟨ρ, M, β, l, r, Out.bind o fun ds m vs H1 β1 hx r1 g1 o1 => ?_⟩) fun us s1 ⟨vs, H1, I1, rv, m, β1, ls, as, e1, h1, h2, rl, h3, h4⟩ => ?_) (star_no hn'.1) (plain_args hn'.2)))
  · unfold zipD at o1
    split at o1
    · next h =>
      cases q : seqsD ds with
      | none => rw [q] at o1; exact o1.elim
      | some ls =>
        rw [q] at o1
        obtain ⟨as, e1, h3⟩ := srcs_of r1 q hx
        have hl : ds.length = as.length := by rw [hx.length, e1, List.length_map]
        exact ⟨m, β1, ls, as, e1, fun z => h.2 (by rw [z] at hl; exact List.length_eq_zero_iff.mp hl), by omega, r1, h3, fun J hJ => o1 J H1 β1 hJ r1 Grow.refl⟩
    · exact o1.elim
  · subst e1
    rw [vals_refs rv]
    exact zip_ie I1 rl h3 h1 h2 h4
theorem pz_zipS (hg : Gl X "zip") (hm : X.mg "zip" = none) (he : SE T X W e f) : PZ T X W (.Call (.Name "zip" p) [.Starred e sp] [] pos) fun ρ m => (f ρ m).bind fun x m => (R.of (seqD (peek m x)) m).bind fun ds m => (R.of (zipD ds) m).bind fun ls m => .ok (zipL ls) m := by
  refine fun pins s σ H R I ⟨ρ, M, β, l, r, o⟩ => ?_
  refine Call_ (ld_blt I hg hm PyProof.Rows.boot_zip ?_)
  show wpAny _ _ (callWith pos (.type "zip") [] (backTo pos (starEach [.Starred e sp] X.env)) []) _ _ _
  have main : wpAny (model X.prog X.w) X.A (eval e X.env) (fun v s1 => PySem.W.StarOf (model X.prog X.w) X.A X.xe v (fun us s2 => X.K.In s2.heap ∧ wpAny (model X.prog X.w) X.A (call (.type "zip") ([] ++ us)) (ZIE X pins σ R) X.xe s2) s1) X.xe s := by
    refine thn (he.pe.run pins s σ H (fun v H1 => ∃ a xs m β1 ls as, v = .ref a ∧ (SqT X.K H1 a xs ∨ SqL X.K H1 a xs) ∧ xs = as.map (fun a : Addr × Bool => V.ref a.1) ∧ as ≠ [] ∧ as.length ≤ 16 ∧ Rl T m β1 H1 ∧ Paired (Src T m β1 H1) ls as ∧ ∀ J, JOk T m β1 H1 (zipL ls) J → R J H1) I
      ⟨ρ, M, β, l, r, Out.bind o fun x m v H1 β1 hx r1 g1 o1 => ?_⟩) fun v s1 ⟨v', H1, I1, rv, a, xs, m, β1, ls, as, e0, hsq, e1, h1, h2, rl, h3, h4⟩ => ?_
    · have sn := Seen.peek r1 hx
      cases q0 : seqD (peek m x) with
      | none => rw [q0] at o1; exact o1.elim
      | some ds =>
        rw [q0] at o1
        simp only [G48.R.of_some, G48.R.bind_ok] at o1
        obtain ⟨a, xs, e0, hsq, hxs⟩ : ∃ a xs, v = .ref a ∧ (SqT X.K H1 a xs ∨ SqL X.K H1 a xs) ∧ Reps T m β1 H1 ds xs := by
          generalize peek m x = y at q0 sn
          cases y <;> simp only [seqD, reduceCtorEq] at q0
          · cases q0
            obtain ⟨a, zs, e1, h1, hz⟩ := sn.tup
            exact ⟨a, zs, e1, .inl (.of h1), hz⟩
          · cases q0
            obtain ⟨a, zs, e1, h1, hz⟩ := sn.lst
            exact ⟨a, zs, e1, .inr (.of h1), hz⟩
        unfold zipD at o1
        split at o1
        · next h =>
          cases q : seqsD ds with
          | none => rw [q] at o1; exact o1.elim
          | some ls =>
            rw [q] at o1
            obtain ⟨as, e1, h3⟩ := srcs_of r1 q hxs
            have hl : ds.length = as.length := by rw [hxs.length, e1, List.length_map]
            exact ⟨a, xs, m, β1, ls, as, e0, hsq, e1, fun z => h.2 (by rw [z] at hl; exact List.length_eq_zero_iff.mp hl), by omega, r1, h3, fun J hJ => o1 J H1 β1 hJ r1 Grow.refl⟩
        · exact o1.elim
    · subst e0
      cases rv
      refine StX.star_any I1 hsq fun us s2 I2 rv2 => ⟨I2.kIn, ?_⟩
      subst e1
      rw [vals_refs rv2]
      exact zip_ie I2 rl h3 h1 h2 h4
  have hs : starEach [.Starred e sp] X.env = [(true, eval e X.env)] := rfl
  rw [hs]
  exact PySem.W.ks_call (P := X.K.In) rfl (fun h _ => ⟨Keeper.machine, .inr (.inl rfl), fun A Q E s _ q => wpAny_pure q⟩) (PySem.W.ks_lone main)

/-! ### tuple of it -/
section
variable {A : Around} {E : Value → Shared → Prop} {pins : List (Addr × Obj)} {σ : L2.St} {s : Shared} {N : Nat} {as : List (Addr × Bool)} {M : Mem} {β : Nat → Addr} {H0 : Hp} {ds : List D}
theorem code_tuple_zip {Q₁ : Value → Shared → Prop} (hA : A.handled = none) (hne : as ≠ []) (hl : as.length ≤ 16) (hlt : ∀ a ∈ as, a.1 < N) (r0 : Rl T M β H0) (hJ : JOk T M β H0 ds (ItZ X.K as)) (I : Inv X pins σ H0 s) (hf : ∀ b ∈ fpZ N as, FpOk X pins H0 b) (st : zAt N as 0 s.heap)
    (h : ∀ s' H' S xs us, Inv X pins σ H' s' → Vals xs us → Rl T (M ++ [some .tmp]) (putB β M.length S) H' → Grow M β H0 (M ++ [some .tmp]) (putB β M.length S) H' → Reps T (M ++ [some .tmp]) (putB β M.length S) H' ds xs →
      Q₁ (.ref s'.heap.objs.size) { s' with heap := s'.heap.push { cls := .type "tuple", data := .seq us.toArray } }) :
    codeAny (model X.prog X.w) A (.call (.builtin "tuple.__new__") ⟨[.type "tuple", .ref (N + as.length + 2)], []⟩) (wants Q₁ E) s := by
  refine codeAny_of_tree ?_
  show wpAny _ A.in1 (do checkBuiltinCall "tuple.__new__" ⟨[.type "tuple", .ref (N + as.length + 2)], []⟩; again (.builtin "tuple.__new__" ⟨[.type "tuple", .ref (N + as.length + 2)], []⟩)) _ _ s
  refine wpAny_bind (wpAny_of_eq (F.newCall_tuple_1 _) (wpAny_pure ⟨plainId_quiet F.plain_tuple_new _, codeAny_builtin F.entry_tuple_new ?_⟩))
  rw [Around.under_plainId F.plain_tuple_new _]
  have hsub := sub_tuple_self
  have hinit := init_tuple_lookup
  have hmh := madeHere_tuple
  have hTI : s.TypeIs (.ref (N + as.length + 2)) "zip" := st.ty
  have hA1 : A.in1.handled = none := hA
  wp_walk using wpAny_typeOf hTI, zip_collect (A := A.in1) hA1 hne hl hlt r0 hJ I hf st
  intro s' H' S xs us I' rv rl gr rp
  have hus : us.length = ds.length := by rw [← rv.length, rp.length]
  show wpAny _ _ (Builtin.Tuple.tupleExact us.toArray >>= fun v => ret v) _ _ _
  unfold Builtin.Tuple.tupleExact
  refine wpAny_bind (wpAny_newObj_type ?_ (by show us.toArray.size ≤ sizeLine; rw [List.size_toArray, hus]; exact hJ.1))
  exact wpAny_pure (h s' H' S xs us I' rv rl gr rp)
theorem call_tuple_zip {Q : Value → Shared → Prop} (hA : A.handled = none) (hne : as ≠ []) (hl : as.length ≤ 16) (hlt : ∀ a ∈ as, a.1 < N) (r0 : Rl T M β H0) (hJ : JOk T M β H0 ds (ItZ X.K as)) (I : Inv X pins σ H0 s) (hf : ∀ b ∈ fpZ N as, FpOk X pins H0 b) (st : zAt N as 0 s.heap)
    (h : ∀ s' H' S xs us, Inv X pins σ H' s' → Vals xs us → Rl T (M ++ [some .tmp]) (putB β M.length S) H' → Grow M β H0 (M ++ [some .tmp]) (putB β M.length S) H' → Reps T (M ++ [some .tmp]) (putB β M.length S) H' ds xs →
      Q (.ref s'.heap.objs.size) { s' with heap := s'.heap.push { cls := .type "tuple", data := .seq us.toArray } }) :
    wpAny (model X.prog X.w) A (call (.type "tuple") [.ref (N + as.length + 2)]) Q E s := by
  refine callType_codes (Q₁ := fun obj s₁ => s₁.TypeIs obj "tuple" ∧ Q obj s₁) F.called_tuple (F.typeCall_tuple_1 _) F.entry_object_init
    (code_tuple_zip (A := A.in1) hA hne hl hlt r0 hJ I hf st fun s' H' S xs us I' rv rl gr rp => ⟨⟨_, Heap.get?_push_size _ rfl, rfl⟩, h s' H' S xs us I' rv rl gr rp⟩) fun obj s₁ h₁ => ?_
  exact ⟨h₁.1, F.args_object_init_2 obj _, object_init_meets F.called_tuple.init.lookup F.called_tuple.made (by decide) X.prog X.w A.in1 _ s₁ ⟨h₁.1, rfl, h₁.2⟩⟩
end
theorem take_push {M : Mem} {c : Option Cel} : (M ++ [c]).take M.length = M := by simp
mutual
theorem Rep.below {M : Mem} {β : Nat → Addr} {H : Hp} : ∀ (d : D) (v : V), Rep T M β H d v → below M.length d = true
  | .non, _, _ => rfl
  | .bl _, _, _ => rfl
  | .int _, _, _ => rfl
  | .str _, _, _ => rfl
  | .tup ds, v, h => by
    unfold Rep at h
    obtain ⟨a, xs, e, rd, q⟩ := h
    simp only [G48.below]
    exact Reps.below ds xs q
  | .lst ds, v, h => by
    unfold Rep at h
    obtain ⟨a, xs, e, rd, f, q⟩ := h
    simp only [G48.below]
    exact Reps.below ds xs q
  | .cell n, v, h => by
    unfold Rep at h
    simp [G48.below, h.2]
  | .exc c ds, v, h => by
    unfold Rep at h
    obtain ⟨a, xs, e, i, q⟩ := h
    simp only [G48.below]
    exact Reps.below ds xs q
  | .scr _, _, _ => rfl
theorem Reps.below {M : Mem} {β : Nat → Addr} {H : Hp} : ∀ (ds : List D) (vs : List V), Reps T M β H ds vs → belows M.length ds = true
  | [], _, _ => rfl
  | d :: ds, vs, h => by
    unfold Reps at h
    obtain ⟨v, q, e, h1, h2⟩ := h
    simp only [belows, Bool.and_eq_true]
    exact ⟨Rep.below d v h1, Reps.below ds q h2⟩
end

theorem zip_below {pins : List (Addr × Obj)} {σ : L2.St} {s : Shared} {as : List (Addr × Bool)} {M : Mem} {β : Nat → Addr} {H0 : Hp} (I : Inv X pins σ H0 s) (r0 : Rl T M β H0) : ∀ (ds : List D) (n : Nat), (∀ (i : Nat) (d : D), ds[i]? = some d → (ItZ X.K as).go (n + i) H0 ∧ ∀ x H2, (ItZ X.K as).yld (n + i) H0 x H2 → Rep T M β H2 d x) → belows M.length ds = true
  | [], _, _ => rfl
  | d :: ds, n, h => by
    simp only [belows, Bool.and_eq_true]
    refine ⟨?_, zip_below (as := as) I r0 ds (n + 1) fun i d' hd => ?_⟩
    · obtain ⟨⟨xss, ys, hp, hy⟩, h2⟩ := h 0 d rfl
      have hn : H0 s.heap.objs.size = none := I.hok.fresh (Nat.le_refl _)
      exact Rep.below d _ (h2 (.ref s.heap.objs.size) _ ⟨_, ys, rfl, hn, rfl, fun l hl => by rw [sqAs_inj I hl hp]; exact hy⟩)
    · have := h (i + 1) d' (by simpa using hd)
      have e : n + 1 + i = n + (i + 1) := by omega
      rw [e]; exact this
theorem pe_tupZ {fi : Env → Mem → R (List D)} (hc : X.calm = true) (hg : Gl X "tuple") (hm : X.mg "tuple" = none) (hz : PZ T X W e fi) (hn : nst e = true) :
    PE X (.Call (.Name "tuple" p) [e] [] pos) (rdE T W fun ρ m => (fi ρ m).bind fun ds m => .ok (.tup ds) m) := by
  refine ⟨fun pins s σ H Q I ⟨ρ, M, β, l, r, o⟩ => ?_⟩
  refine Call_ (ld_blt I hg hm boot_tuple (PyProof.Rows.callWith_type1 (args_cons (thn (hz pins s σ H (fun J H1 => ∃ m β1 ds, JOk T m β1 H1 ds J ∧ Rl T m β1 H1 ∧ (∀ v H2 β2, Rep T m β2 H2 (.tup ds) v → Rl T m β2 H2 → Grow m β1 H1 m β2 H2 → Q v H2)) I
    ⟨ρ, M, β, l, r, Out.bind o fun ds m J H1 β1 hJ r1 g1 o1 => ⟨m, β1, ds, hJ, r1, fun v H2 β2 hv r2 g2 => o1 v H2 β2 hv r2 g2⟩⟩) fun v s1 ⟨N, as, H1, ev, hne, hl, hlt, I1, st, hf, m, β1, ds, hJ, r1, hq⟩ => args_nil ?_) (star_no hn)) (star_no hn)))
  subst ev
  refine call_tuple_zip (I1.ok.hd hc) hne hl hlt r1 hJ I1 hf st fun s2 H2 S xs us I2 rv rl gr rp => ?_
  have hus : xs.length = ds.length := rp.length.symm
  have hb : belows m.length ds = true := zip_below (as := as) I1 r1 ds 0 fun i d hd => by
    obtain ⟨h1, h2⟩ := (hJ.2 i m β1 H1 Grow.refl.toGrow0 r1).1 d hd
    rw [Nat.zero_add]
    exact ⟨h1, fun x H3 hy => (h2 x H3 hy).1⟩
  have hn2 : H2 s2.heap.objs.size = none := I2.hok.fresh (Nat.le_refl _)
  have I3 : Inv X pins σ (upd H2 s2.heap.objs.size (.tup xs)) { s2 with heap := s2.heap.push { cls := .type "tuple", data := .seq us.toArray } } :=
    I2.laid (t' := s2.toks) (fun b o e => Heap.get?_push_of_some _ e) (Nat.le_refl _) (show ObjOk X.prog X.w _ _ _ (.tup xs) from ⟨by rw [hus]; exact hJ.1, us, rv, IsTup.new _ _⟩)
  have hlen : m.length ≤ (m ++ [some Cel.tmp]).length := by simp
  have rl' := rl.cut hlen
  have gr' := gr.cut
  have rp' := Reps.cut hlen _ _ hb rp
  rw [take_push] at rl' gr' rp'
  exact ⟨.ref s2.heap.objs.size, _, I3, rfl, hq _ _ _ (new_tup rl' hn2 rp') (rl'.laid hn2) (gr'.trans (Grow.laid rl' hn2))⟩
theorem se_tupZ {fi : Env → Mem → R (List D)} (hc : X.calm = true) (hg : Gl X "tuple") (hm : X.mg "tuple" = none) (hz : PZ T X W e fi) (hn : nst e = true) : SE T X W (.Call (.Name "tuple" p) [e] [] pos) fun ρ m => (fi ρ m).bind fun ds m => .ok (.tup ds) m := se_plain (pe_tupZ hc hg hm hz hn) (fun _ => rfl)
end
end G48
set_option Elab.async false
set_option linter.all false
set_option maxRecDepth 100000
set_option maxHeartbeats 1000000
/-! G48: list comprehensions of two clauses. -/
namespace G48
open PySem PySem.Spec PyProof.Rows L2

def step2 (t : Tg) (ρ : Env) (ft : Env → Mem → R Bool) (fi1 : Env → Mem → R (List D)) (t1 : Tg) (ft1 : Env → Mem → R Bool) (fe : Env → Mem → R D) (d : D) (m : Mem) : R (List D) :=
  (R.of (bindT t d ρ) m).bind fun ρ' m => (ft ρ' m).bind fun b m => if b then (fi1 ρ' m).bind fun ds1 m => compLoop (compStep t1 (wipe ρ' (tgv t1)) ft1 fe) ds1 m else .ok [] m
theorem conc_ok {r : R (List D)} {k : Mem → R (List D)} (h : conc r k ≠ .bad) : ∃ l m q m2, r = .ok l m ∧ k m = .ok q m2 ∧ conc r k = .ok (l ++ q) m2 := by
  cases r with
  | bad => exact absurd rfl h
  | exc x m => exact absurd rfl h
  | ok l m =>
    cases q : k m with
    | bad => simp [conc, q] at h
    | exc x m2 => simp [conc, q] at h
    | ok l2 m2 => exact ⟨l, m, l2, m2, rfl, q, by simp [conc, q]⟩
/-- what is left of the whole: the inner loop, then the outer one -/
def left2 (n : Nat) (xs : List D) (r : R (List D)) (k : Mem → R (List D)) : R D := compEnd2 n (pre xs (conc r k))
theorem left2_bad {n : Nat} {xs : List D} {r : R (List D)} {k : Mem → R (List D)} (h : left2 n xs r k ≠ .bad) : conc r k ≠ .bad := fun z => h (by simp [left2, z, pre, compEnd2])
theorem left2_inner {n : Nat} {xs : List D} {f : D → Mem → R (Option D)} {d : D} {ds : List D} {m : Mem} {k : Mem → R (List D)} (h : left2 n xs (compLoop f (d :: ds) m) k ≠ .bad) :
    ∃ o m1, f d m = .ok o m1 ∧ left2 n xs (compLoop f (d :: ds) m) k = left2 n (xs ++ o.toList) (compLoop f ds m1) k := by
  have h0 := left2_bad h
  rw [compLoop_cons] at h h0 ⊢
  cases q : f d m with
  | bad => rw [q] at h0; exact absurd rfl h0
  | exc x m2 => rw [q] at h0; exact absurd rfl h0
  | ok o m1 =>
    rw [q] at h h0
    refine ⟨o, m1, rfl, ?_⟩
    dsimp only at h h0 ⊢
    cases q2 : compLoop f ds m1 with
    | bad => rw [q2] at h0; exact absurd rfl h0
    | exc x m2 => rw [q2] at h0; exact absurd rfl h0
    | ok r m2 =>
      rw [q2] at h0
      obtain ⟨l, m3, q3, m4, e1, e2, e3⟩ := conc_ok h0
      cases e1
      simp only [left2, conc, e2, pre, R.bind_ok, List.append_assoc]
theorem left2_len {n : Nat} {xs : List D} {r : R (List D)} {k : Mem → R (List D)} (h : left2 n xs r k ≠ .bad) : xs.length ≤ BIG := by
  obtain ⟨l, m, q, m2, e1, e2, e3⟩ := conc_ok (left2_bad h)
  unfold left2 at h
  rw [e3] at h
  simp only [pre, R.bind_ok, compEnd2] at h
  by_cases hl : (xs ++ (l ++ q)).length ≤ BIG
  · rw [List.length_append] at hl; omega
  · rw [if_neg hl] at h; exact absurd rfl h
theorem left2_done {n : Nat} {xs : List D} {f : D → Mem → R (Option D)} {m : Mem} {k : Mem → R (List D)} (h : left2 n xs (compLoop f [] m) k ≠ .bad) : left2 n xs (compLoop f [] m) k = compEnd2 n (pre xs (k m)) := by
  have e : compLoop f [] m = .ok [] m := rfl
  rw [e] at h ⊢
  obtain ⟨l, m1, q, m2, e1, e2, e3⟩ := conc_ok (left2_bad h)
  cases e1
  unfold left2
  rw [e3, e2]
  rfl

theorem RlE.grow0 {T : XT} {M M1 : Mem} {β β1 : Nat → Addr} {H H1 : Hp} {ρ : Env} {σ : L2.St} (h : RlE T M β H ρ σ) (r : Rl T M β H) (g : Grow0 M β H M1 β1 H1) : RlE T M1 β1 H1 ρ σ :=
  ⟨h.1, fun i d e => let ⟨v, e', q⟩ := h.2 i d e; ⟨v, e', Rep.grow0 r g d v q⟩⟩
section
variable {T : XT} {X : Cx} {W : WX} {own : List (Str × Nat)} {t t1 : Tg} {fi fi1 : Env → Mem → R (List D)} {ft ft1 : Env → Mem → R Bool} {fe : Env → Mem → R D}
theorem lc_ask2 {σ : L2.St} {H : Hp} {Q : VK} (hv : own.map (·.2) = tgv t ++ tgv t1) (h : rdE T W (fun ρ m => (fi ρ m).bind fun ds m => compEnd2 m.length (compLoop2 (step2 t (wipe ρ (tgv t ++ tgv t1)) ft fi1 t1 ft1 fe) ds (m ++ [some .tmp]))) σ H Q) :
    tLc2 (rdI T W fi) (rdTg T t) (rdT T noW ft) (rdI T noW fi1) (rdTg T t1) (rdT T noW ft1) (rdE T noW fe) (own.map (·.2)) (tgv t1) σ H Q := by
  obtain ⟨ρ, M, β, l, r, o⟩ := h
  rw [hv]
  refine ⟨ρ, M, β, l, r, Out.bind o fun ds m0 J H0 β0 hJ r0 g0 o0 => ?_⟩
  have l0 := l.grow r g0
  intro L hL
  obtain ⟨hJl, hJ⟩ := hJ
  have big := big_size
  generalize hF : step2 t (wipe ρ (tgv t ++ tgv t1)) ft fi1 t1 ft1 fe = F at o0
  refine ⟨fun i k H2 => k = ds.length - i ∧ i ≤ ds.length ∧ ∃ m β' acc xs, Rl T m β' H2 ∧ Grow m0 β0 H0 m β' H2 ∧ m[m0.length]? = some (some .tmp) ∧ β' m0.length = L ∧ H2 L = some (.lst acc) ∧ Reps T m β' H2 xs acc ∧
      Out T (Rep T) m0 β0 H0 (compEnd2 m0.length (pre xs (compLoop2 F (ds.drop i) m))) Q (fun c d H' => W c d σ H'), ⟨ds.length, by simp, Nat.zero_le _, m0 ++ [some .tmp], putB β0 m0.length L, [], [], r0.tmped hL, Grow.celled r0 hL, by simp, putB_same, upd_same, Reps.nil, by rw [pre_nil, List.drop_zero]; exact o0⟩, ?_⟩
  rintro i k H2 ⟨rfl, hi, m, β', acc, xs, r2, g2, ht, hβ, hLa, hx, o2⟩
  obtain ⟨hgo, hstop⟩ := hJ i m β' H2 g2.toGrow0 r2
  by_cases hlt : i < ds.length
  · rw [List.drop_eq_getElem_cons hlt] at o2
    have o2 : Out T (Rep T) m0 β0 H0 (left2 m0.length xs (F ds[i] m) fun m => compLoop2 F (ds.drop (i + 1)) m) Q (fun c d H' => W c d σ H') := o2
    refine .inr ⟨(hgo ds[i] (List.getElem?_eq_getElem hlt)).1, _, fun H' p => ⟨ds.length - (i + 1), by omega, p⟩, fun x H3 hy => ?_⟩
    obtain ⟨hxr, r3, g3⟩ := (hgo ds[i] (List.getElem?_eq_getElem hlt)).2 x H3 hy
    obtain ⟨l1, m1, q1, m2, e1, e2, e3⟩ := conc_ok (left2_bad o2.not_bad)
    have hFd : F ds[i] m = step2 t (wipe ρ (tgv t ++ tgv t1)) ft fi1 t1 ft1 fe ds[i] m := by rw [hF]
    rw [hFd] at e1 o2
    unfold step2 at e1 o2
    have g23 := g2.trans g3
    cases qb : bindT t ds[i] (wipe ρ (tgv t ++ tgv t1)) with
    | none => rw [qb] at e1; cases e1
    | some ρ' =>
      rw [qb] at e1 o2
      simp only [R.of_some, R.bind_ok] at e1 o2
      have lw : RlE T m β' H3 (wipe ρ (tgv t ++ tgv t1)) (L2.wipe σ (tgv t ++ tgv t1)) := (l0.grow r0 g23).wiped _
      refine ⟨wipe ρ (tgv t ++ tgv t1), m, β', ds[i], ρ', lw, r3, hxr, qb, fun σ2 l2 s2 => ⟨by rw [(s2.mono fun j hj => List.mem_append_left _ hj).wiped, wipe_twice], ρ', m, β', l2, r3, ?_⟩⟩
      cases qf : ft ρ' m with
      | bad => rw [qf] at e1; cases e1
      | exc y mb => rw [qf] at e1; cases e1
      | ok b mb =>
        rw [qf] at e1 o2
        simp only [R.bind_ok] at e1 o2
        intro b' H4 β4 hbb r4 g4
        subst hbb
        have hL3 : H3 L = some (.lst acc) := by rw [← hβ, (g3.hid _ ht).2, hβ]; exact hLa
        have hL4 : H4 L = some (.lst acc) := by rw [← hβ, (g4.hid _ ht).2, hβ]; exact hL3
        have tb := (g4.hid _ ht).1
        have lt0 : m0.length < m.length := live_lt ht
        have hβ4 : β4 m0.length = L := by rw [g4.beq _ lt0]; exact hβ
        have hx4 : Reps T mb β4 H4 xs acc := Reps.grow r3 g4 _ _ (Reps.grow r2 g3 _ _ hx)
        have g24 := g23.trans g4
        cases b with
        | false =>
          rw [if_neg (by simp)]
          simp only [Bool.false_eq_true, if_false] at o2
          refine ⟨rfl, hlt, mb, β4, acc, xs, r4, g24, tb, hβ4, hL4, hx4, ?_⟩
          have e4 : left2 m0.length xs (.ok [] mb) (fun m => compLoop2 F (ds.drop (i + 1)) m) = compEnd2 m0.length (pre xs (compLoop2 F (ds.drop (i + 1)) mb)) := left2_done (f := fun _ _ => .bad) o2.not_bad
          rw [e4] at o2; exact o2
        | true =>
          rw [if_pos rfl]
          simp only [if_true] at e1 o2
          cases qi : fi1 ρ' mb with
          | bad => rw [qi] at e1; cases e1
          | exc y mc => rw [qi] at e1; cases e1
          | ok ds1 mc =>
            rw [qi] at e1 o2
            simp only [R.bind_ok] at e1 o2
            refine ⟨ρ', mb, β4, l2.grow r3 g4, r4, ?_⟩
            rw [qi]
            intro J1 H5 β5 hJ1 r5 g5
            obtain ⟨hJ1l, hJ1⟩ := hJ1
            have hL5 : H5 L = some (.lst acc) := by rw [← hβ4, (g5.hid _ tb).2, hβ4]; exact hL4
            have t5 := (g5.hid _ tb).1
            have hβ5 : β5 m0.length = L := by rw [g5.beq _ (live_lt tb)]; exact hβ4
            have hx5 : Reps T mc β5 H5 xs acc := Reps.grow r4 g5 _ _ hx4
            have l5 : RlE T mc β5 H5 ρ' σ2 := (l2.grow r3 g4).grow r4 g5
            refine ⟨fun j k H6 => k = ds1.length - j ∧ j ≤ ds1.length ∧ ∃ m6 β6 acc xs, Rl T m6 β6 H6 ∧ Grow0 mc β5 H5 m6 β6 H6 ∧ Grow m0 β0 H0 m6 β6 H6 ∧ m6[m0.length]? = some (some .tmp) ∧ β6 m0.length = L ∧ H6 L = some (.lst acc) ∧ Reps T m6 β6 H6 xs acc ∧
              Out T (Rep T) m0 β0 H0 (left2 m0.length xs (compLoop (compStep t1 (wipe ρ' (tgv t1)) ft1 fe) (ds1.drop j) m6) fun m => compLoop2 F (ds.drop (i + 1)) m) Q (fun c d H' => W c d σ H'),
              ⟨ds1.length, by simp, Nat.zero_le _, mc, β5, acc, xs, r5, Grow.refl.toGrow0, g24.trans g5, t5, hβ5, hL5, hx5, by rw [List.drop_zero]; exact o2⟩, ?_⟩
            rintro j k H6 ⟨rfl, hj, m6, β6, acc6, xs6, r6, g56, g6, t6, hβ6, hL6, hx6, o6⟩
            obtain ⟨hgo1, hstop1⟩ := hJ1 j m6 β6 H6 g56 r6
            by_cases hlt1 : j < ds1.length
            · refine .inr ⟨(hgo1 ds1[j] (List.getElem?_eq_getElem hlt1)).1, _, fun H' p => ⟨ds1.length - (j + 1), by omega, p⟩, fun x H7 hy1 => ?_⟩
              obtain ⟨hxr7, r7, g7⟩ := (hgo1 ds1[j] (List.getElem?_eq_getElem hlt1)).2 x H7 hy1
              rw [List.drop_eq_getElem_cons hlt1] at o6
              obtain ⟨od, m8, hst, heq⟩ := left2_inner o6.not_bad
              rw [heq] at o6
              obtain ⟨ρ'', b, mb8, hb8, hft8, hcase⟩ := compStep_ok hst
              have lw8 : RlE T m6 β6 H7 (wipe ρ' (tgv t1)) (L2.wipe σ2 (tgv t1)) := ((l5.grow0 r5 g56).grow r6 g7).wiped _
              refine ⟨wipe ρ' (tgv t1), m6, β6, ds1[j], ρ'', lw8, r7, hxr7, hb8, fun σ3 l3 s3 => ⟨by rw [s3.wiped, wipe_twice], ρ'', m6, β6, l3, r7, ?_⟩⟩
              rw [hft8]
              intro b' H8 β8 hbb r8 g8
              subst hbb
              have hL7 : H7 L = some (.lst acc6) := by rw [← hβ6, (g7.hid _ t6).2, hβ6]; exact hL6
              have hL8 : H8 L = some (.lst acc6) := by rw [← hβ6, (g8.hid _ t6).2, hβ6]; exact hL7
              have tb8 := (g8.hid _ t6).1
              have hβ8 : β8 m0.length = L := by rw [g8.beq _ (live_lt t6)]; exact hβ6
              have hx8 : Reps T mb8 β8 H8 xs6 acc6 := Reps.grow r7 g8 _ _ (Reps.grow r6 g7 _ _ hx6)
              rcases hcase with ⟨hbt, y, hfe, ho⟩ | ⟨hbf, hm, ho⟩
              · subst hbt
                rw [if_pos rfl]
                refine ⟨ρ'', mb8, β8, l3.grow r7 g8, r8, ?_⟩
                rw [hfe]
                intro yv H9 β9 hyv r9 g9
                have hL9 : H9 L = some (.lst acc6) := by rw [← hβ8, (g9.hid _ tb8).2, hβ8]; exact hL8
                have t9 := (g9.hid _ tb8).1
                have hβ9 : β9 m0.length = L := by rw [g9.beq _ (live_lt tb8)]; exact hβ8
                have hlen := left2_len o6.not_bad
                subst ho
                simp only [Option.toList, List.length_append, List.length_singleton] at hlen
                have hxl := hx6.length
                have ga : Grow m6 β6 H6 m8 β9 H9 := (g7.trans g8).trans g9
                refine ⟨acc6, hL9, by omega, by rfl, hlt1, m8, β9, acc6 ++ [yv], xs6 ++ [y], ?_, ?_, ?_, t9, hβ9, upd_same, ?_, o6⟩
                · rw [← hβ9]; exact r9.poke t9
                · rw [← hβ9]; exact (g56.trans ga.toGrow0).trans (Grow0.poke r9 t9)
                · rw [← hβ9]
                  have := Grow.poke (c' := .tmp) (o := .lst (acc6 ++ [yv])) (g6.trans ga) r9 r0 (Nat.le_refl _) t9
                  rw [set_same t9] at this; exact this
                · rw [← hβ9]
                  exact Reps.grow0 r9 (Grow0.poke r9 t9) _ _ ((Reps.grow r8 g9 _ _ hx8).append (Reps.cons hyv Reps.nil))
              · subst hbf
                rw [if_neg (by simp)]
                subst hm ho
                refine ⟨rfl, hlt1, m8, β8, acc6, xs6, r8, g56.trans (g7.trans g8).toGrow0, g6.trans (g7.trans g8), tb8, hβ8, hL8, hx8, ?_⟩
                have e : xs6 ++ (none : Option D).toList = xs6 := by simp
                rw [e] at o6; exact o6
            · have e : j = ds1.length := by omega
              subst e
              refine .inl ⟨hstop1 (Nat.le_refl _), ?_⟩
              rw [List.drop_length] at o6
              have o7 := left2_done o6.not_bad
              rw [o7] at o6
              exact ⟨rfl, hlt, m6, β6, acc6, xs6, r6, g6, t6, hβ6, hL6, hx6, o6⟩
  · have e : i = ds.length := by omega
    subst e
    refine .inl ⟨hstop (Nat.le_refl _), ?_⟩
    rw [List.drop_length] at o2
    have e2 : pre xs (compLoop2 F [] m) = .ok xs m := by simp [compLoop2, pre]
    rw [e2] at o2
    unfold compEnd2 at o2
    simp only [R.bind_ok] at o2
    by_cases hbig : xs.length ≤ BIG
    · rw [if_pos hbig] at o2
      have fz := r2.froze ht
      have gz := g2.frozeL r2 (Nat.le_refl _) ht
      have rz : Rep T (m.set m0.length none) β' H2 (.lst xs) (.ref L) := by
        rw [← hβ]
        exact r2.froze_tmp ht (by rw [hβ]; exact hLa) hx
      by_cases hb : belows m0.length xs = true
      · rw [if_pos hb] at o2
        have e3 : (m.set m0.length none).take m0.length = m.take m0.length := by
          rw [List.take_set, List.set_eq_of_length_le (List.length_take_le _ _)]
        have fz' := fz.cut (k := m0.length) gz.len
        have gz' := gz.cut
        have rz' := Rep.cut gz.len (.lst xs) _ (by simpa [below] using hb) rz
        rw [e3] at fz' gz' rz'
        exact o2 (.ref L) H2 β' rz' fz' gz'
      · rw [if_neg hb] at o2
        exact o2 (.ref L) H2 β' rz fz gz
    · rw [if_neg hbig] at o2; exact o2.elim
end
end G48
set_option Elab.async false
set_option linter.all false
set_option maxRecDepth 100000
set_option maxHeartbeats 1000000
/-! G48: enumerate of a zip. -/
namespace G48
open PySem PySem.Spec PyProof.Rows L2

section
variable {prog : Program} {w : World} {A : Around} {E : Value → Shared → Prop} {s : Shared}
/-- the next item of an enumerate over any iterator z -/
theorem enum_nextG {e z : Addr} {i : Nat} {old : Value} {Nx : Value → Heap → Prop} {Q : Value → Shared → Prop} (he : IsEnum s.heap e z i old)
    (hn : ∀ Q1 : Value → Shared → Prop, (∀ x h1, Nx x h1 → Q1 x { s with heap := h1 }) → wpAny (model prog w) A (Builtin.SmallTypes.nextOf (.ref z)) Q1 E s) (hk : ∀ x h1, Nx x h1 → IsEnum h1 e z i old)
    (hQ : ∀ x h1, Nx x h1 → ∀ h2, IsEnumOut h2 e z ((i : Int) + 1) x h1.objs.size → h2.get? h1.objs.size = some { cls := .type "tuple", data := .seq #[.int i s.toks, x] } → h2.objs.size = h1.objs.size + 1 →
      (∀ b o, b ≠ e → h1.get? b = some o → h2.get? b = some o) → Q (.ref h1.objs.size) { s with heap := h2, toks := s.toks + 1 }) :
    wpAny (model prog w) A (Builtin.«enumerate.__next__» ⟨[.ref e], []⟩) (fun fin s' => ∃ v, fin = .done (.ret v) ∧ Q v s') E s := by
  obtain ⟨hp, gg, dr, tk, osx⟩ := s
  show wpAny _ _ (field (.ref e) 2 >>= _) _ _ ⟨hp, gg, dr, tk, osx⟩
  refine wpAny_bind (wpAny_field he rfl (x := .ref z) rfl (wpAny_bind (hn _ fun x h1 nx => ?_)))
  have e1 := hk x h1 nx
  have fin := hQ x h1 nx
  clear hQ hk hn he
  show wpAny _ _ (field (.ref e) 3 >>= _) _ _ ⟨h1, gg, dr, tk, osx⟩
  refine wpAny_bind (wpAny_field e1 rfl (x := rawInt i) rfl ?_)
  show wpAny _ _ (field (.ref e) 4 >>= _) _ _ ⟨h1, gg, dr, tk, osx⟩
  refine wpAny_bind (wpAny_field e1 rfl (x := .none) rfl ?_)
  show wpAny _ _ (mkInt i >>= _) _ _ ⟨h1, gg, dr, tk, osx⟩
  refine wpAny_bind (wpAny_mkInt ?_)
  show wpAny _ _ (setField (.ref e) 3 (rawInt ((i : Int) + 1)) >>= _) _ _ ⟨h1, gg, dr, tk + 1, osx⟩
  refine wpAny_bind (wpAny_setField_rec e1 (by simp) fun k2 e2 b2 => ?_)
  have b2 : Heap.SameBut e h1 k2 := b2
  have e2 : IsEnum k2 e z ((i : Int) + 1) old := e2
  show wpAny _ _ (setField (.ref e) 4 .none >>= _) _ _ ⟨k2, gg, dr, tk + 1, osx⟩
  refine wpAny_bind (wpAny_setField_rec e2 (by simp) fun k3 e3 b3 => ?_)
  have b3 : Heap.SameBut e k2 k3 := b3
  have e3 : IsEnum k3 e z ((i : Int) + 1) old := e3
  show wpAny _ _ (newTuple [.int i tk, x] >>= _) _ _ ⟨k3, gg, dr, tk + 1, osx⟩
  refine wpAny_bind (wpAny_newTuple ?_)
  have sz : k3.objs.size = h1.objs.size := b3.1.trans b2.1
  have le : e < h1.objs.size := Heap.lt_size e1
  have e4 : IsEnum (k3.push { cls := .type "tuple", data := .seq #[.int i tk, x] }) e z ((i : Int) + 1) old := Heap.get?_push_of_some _ e3
  have t4 := Heap.get?_push_size k3 (o := { cls := .type "tuple", data := .seq #[.int i tk, x] }) rfl
  have z4 : (k3.push { cls := .type "tuple", data := .seq #[.int i tk, x] }).objs.size = h1.objs.size + 1 := by rw [Heap.size_push, sz]
  have s4 : ∀ b o, b ≠ e → h1.get? b = some o → (k3.push { cls := .type "tuple", data := .seq #[.int i tk, x] }).get? b = some o := fun b o nb q => Heap.get?_push_of_some _ (b3.extBut b o nb (b2.extBut b o nb q))
  rw [sz] at t4
  show wpAny _ _ (Builtin.SmallTypes.ownedTupleIsFree (.ref e) >>= _) _ _ ⟨k3.push { cls := .type "tuple", data := .seq #[.int i tk, x] }, gg, dr, tk + 1, osx⟩
  rw [sz]
  generalize k3.push { cls := .type "tuple", data := .seq #[.int i tk, x] } = k4 at e4 t4 z4 s4
  clear e3 b3 e2 b2 e1 sz
  refine wpAny_bind ?_
  unfold Builtin.SmallTypes.ownedTupleIsFree
  refine wpAny_bind (wpAny_field e4 rfl (x := .none) rfl (wpAny_pure ?_))
  simp only [if_true]
  refine wpAny_bind (wpAny_rule (wpAny_bind (wpAny_field e4 rfl (x := old) rfl ?_)))
  refine wpAny_bind (wpAny_setField_rec e4 (by simp) fun k5 e5 b5 => ?_)
  have b5 : Heap.SameBut e k4 k5 := b5
  have e5 : IsEnum k5 e z ((i : Int) + 1) x := e5
  show wpAny _ _ (Builtin.SmallTypes.ownedTupleHandOut (.ref e) (.ref h1.objs.size) >>= _) _ _ ⟨k5, gg, dr, tk + 1, osx⟩
  refine wpAny_bind ?_
  unfold Builtin.SmallTypes.ownedTupleHandOut
  refine wpAny_bind (wpAny_setField_rec e5 (by simp) fun k6 e6 b6 => ?_)
  have b6 : Heap.SameBut e k5 k6 := b6
  have e6 : IsEnumOut k6 e z ((i : Int) + 1) x h1.objs.size := e6
  refine wpAny_setField_rec e6 (by simp) fun k7 e7 b7 => ?_
  have b7 : Heap.SameBut e k6 k7 := b7
  have e7 : IsEnumOut k7 e z ((i : Int) + 1) x h1.objs.size := e7
  have ne : h1.objs.size ≠ e := Nat.ne_of_gt le
  have all : ∀ b o, b ≠ e → k4.get? b = some o → k7.get? b = some o := fun b o nb q => b7.extBut b o nb (b6.extBut b o nb (b5.extBut b o nb q))
  refine wpAny_bind (wpAny_letGo (wpAny_pure ⟨_, rfl, fin k7 e7 (all _ _ ne t4) ?_ fun b o nb q => all b o nb (s4 b o nb q)⟩))
  rw [b7.1, b6.1, b5.1, z4]
/-- the next item of a zip, asked from within -/
theorem nextOf_zipN {N y TI TO : Addr} {cs : List Cm} {src : Cm → Array Value} {i : Nat} {Q : Value → Shared → Prop} (hh : A.handled = none) (ap : Ap N y TI TO cs) (hne : cs ≠ []) (hl : cs.length ≤ sizeLine) (st : ZSt s.heap y TI TO cs i) (sr : ∀ c ∈ cs, SrcAt s.heap c (src c))
    (hQ : (∀ c ∈ cs, ∃ x, (src c)[i]? = some x) → ∀ (h' : Heap) (vs : List Value), vs.length = cs.length → (∀ (k : Nat) (c : Cm), cs[k]? = some c → (src c)[i]? = vs[k]?) → ZSt h' y TI TO cs (i + 1) → TupAt h' s.heap.objs.size vs.toArray → h'.objs.size = s.heap.objs.size + 1 → Kz y TO cs s.heap h' → Q (.ref s.heap.objs.size) { s with heap := h' })
    (hE : ∀ (h' : Heap) (x : Addr), (∃ c ∈ cs, (src c)[i]? = none) → Kz y TO cs s.heap h' → (∃ o, h'.get? x = some o ∧ o.cls = .type "StopIteration") → E (.ref x) { s with heap := h' }) :
    wpAny (model prog w) A (Builtin.SmallTypes.nextOf (.ref y)) Q E s := by
  obtain ⟨f0, b, hz, _⟩ := st.zip
  have hT : s.TypeIs (.ref y) "zip" := ⟨_, hz, rfl⟩
  unfold Builtin.SmallTypes.nextOf
  refine wpAny_bind (wpAny_callSpecial?_slot (name := Str.ofString "__next__") hT F.slot_zip_next (wpAny_call_entry F.slot_zip_next hT F.entry_zip_next (zipN_next hh ap hne hl st sr ?_ ?_) (F.args_zip_next_1 _)))
  · intro h' vs a1 a2 a3 a4 a5 a6
    refine wpAny_pure (hQ (fun c hc => ?_) h' vs a1 a2 a3 a4 a5 a6)
    obtain ⟨k, hk⟩ := List.mem_iff_getElem?.mp hc
    rw [a2 k c hk]
    have : k < vs.length := by rw [a1]; exact (List.getElem?_eq_some_iff.mp hk).1
    exact ⟨_, List.getElem?_eq_getElem this⟩
  · exact hE
end
/-- an enumerate made of what is its own iterator -/
theorem meets_enumI (z : Addr) (Hh : Heap → Prop) (self : ∀ (pr : Program) (wo : World) (A1 : Around) (Q1 E1 : Value → Shared → Prop) (s1 : Shared), Hh s1.heap → Q1 (.ref z) s1 → wpAny (model pr wo) A1 (pyIter (.ref z)) Q1 E1 s1) :
    Meets (Builtin.«enumerate.__new__» ⟨[.type "enumerate", .ref z], []⟩) (fun _ R s => Hh s.heap ∧
      R (.ok (.ret (.ref s.heap.objs.size))) { s with heap := s.heap.push { cls := .type "enumerate", data := .fields #[.none, .bool false, .ref z, rawInt 0, .none, .none] } }) :=
  .of_wp fun pr wo A R s h => by
    obtain ⟨hp, gl, dd, tk, os⟩ := s; obtain ⟨h1, h⟩ := h
    have hsub := sub_enumerate
    have q1 : ∀ {A1 : Around} {E1 : Value → Shared → Prop} {Q1 : Value → Shared → Prop}, Q1 (.ref z) ⟨hp, gl, dd, tk, os⟩ → wpAny (model pr wo) A1 (pyIter (.ref z)) Q1 E1 ⟨hp, gl, dd, tk, os⟩ :=
      fun q => self pr wo _ _ _ ⟨hp, gl, dd, tk, os⟩ h1 q
    wp_walk using q1
    refine wpAny_stack_any fun st => wpAny_pure ?_
    split
    · rename_i c _ _ _ _ _
      cases (c == Value.type "enumerate")
      · wp_walk using q1
        exact ⟨_, rfl, h⟩
      · wp_walk using q1
        exact ⟨_, rfl, h⟩
    · wp_walk using q1
      exact ⟨_, rfl, h⟩
theorem zip_self {pr : Program} {wo : World} {A1 : Around} {Q1 E1 : Value → Shared → Prop} {s1 : Shared} {z TI TO : Addr} {cs : List Cm} {i : Nat} (st : ZSt s1.heap z TI TO cs i) (h : Q1 (.ref z) s1) : wpAny (model pr wo) A1 (pyIter (.ref z)) Q1 E1 s1 := by
  obtain ⟨f0, b, hz, _⟩ := st.zip
  have hT : s1.TypeIs (.ref z) "zip" := ⟨_, hz, rfl⟩
  exact wpAny_pyIter_slot hT F.slot_zip_iter (wpAny_call_entry F.slot_zip_iter hT F.entry_zip_iter (wpAny_pure ⟨_, rfl, "zip", _, hT, F.slot_zip_next.lookup, h⟩) (F.args_zip_iter_1 _))
section
variable {prog : Program} {w : World} {A : Around} {E : Value → Shared → Prop} {s : Shared}
theorem enumZ {z TI TO : Addr} {cs : List Cm} {i : Nat} {Q : Value → Shared → Prop} (st : ZSt s.heap z TI TO cs i)
    (h : ∀ h2, IsEnum h2 s.heap.objs.size z 0 .none → h2.objs.size = s.heap.objs.size + 1 → (∀ b ob2, s.heap.get? b = some ob2 → h2.get? b = some ob2) → Q (.ref s.heap.objs.size) { s with heap := h2 }) :
    wpAny (model prog w) A (call (.type "enumerate") [.ref z]) Q E s := by
  refine callType_new F.called_enumerate (by decide) (F.typeCall_enumerate_1 _) (F.newCall_enumerate_1 _) (fun x => F.args_object_init_2 x _) F.entry_enumerate_new (meets_enumI z (fun hp => ZSt hp z TI TO cs i) fun pr wo A1 Q1 E1 s1 st1 q => zip_self st1 q) ⟨st, ?_⟩
  have he : IsEnum (s.heap.push { cls := .type "enumerate", data := .fields #[.none, .bool false, .ref z, rawInt 0, .none, .none] }) s.heap.objs.size z 0 .none := Heap.get?_push_size _ rfl
  exact ⟨⟨_, he, rfl⟩, h _ he (Heap.size_push ..) fun b ob2 q => Heap.get?_push_of_some _ q⟩
end
/-- the items of a zip with their places -/
def ItEZ (K : PySem.W.Frag) (as : List (Addr × Bool)) : It :=
  ⟨fun i H => ∃ xss ys, Paired (SqA K H) as xss ∧ col xss i = some ys,
   fun i H v H' => ∃ T t ys, v = .ref t ∧ H T = none ∧ H t = none ∧ t ≠ T ∧ H' = upd (upd H T (.tup ys)) t (.tup [.int (i : Nat), .ref T]) ∧ ∀ xss, Paired (SqA K H) as xss → col xss i = some ys,
   fun i H => ∃ xss, Paired (SqA K H) as xss ∧ col xss i = none⟩
def fpEZ (N : Nat) (as : List (Addr × Bool)) : List Addr := (N + as.length + 3) :: fpZ N as
theorem ZSt.keep {h h' : Heap} {N : Nat} {as : List (Addr × Bool)} {i : Nat} (st : ZSt h (N + as.length + 2) (N + as.length) (N + as.length + 1) (mkCs N as) i) (k : ∀ b ∈ fpZ N as, ∀ o, h.get? b = some o → h'.get? b = some o) : ZSt h' (N + as.length + 2) (N + as.length) (N + as.length + 1) (mkCs N as) i := by
  obtain ⟨⟨f0, bb, hz, hf⟩, hti, ⟨os, hto, ho⟩, hits⟩ := st
  refine ⟨⟨f0, bb, k _ (by simp [fpZ]) _ hz, hf⟩, k _ (by simp [fpZ]) _ hti, ⟨os, k _ (by simp [fpZ]) _ hto, ho⟩, fun c hc => (hits c hc).at fun o q => k _ ?_ o q⟩
  simp only [fpZ, List.mem_cons, List.mem_map]
  exact .inr (.inr (.inr ⟨c, hc, rfl⟩))
theorem ZSt.obj {h : Heap} {N : Nat} {as : List (Addr × Bool)} {i : Nat} (st : ZSt h (N + as.length + 2) (N + as.length) (N + as.length + 1) (mkCs N as) i) : ∀ b ∈ fpZ N as, ∃ o, h.get? b = some o ∧ ∀ v, o.data ≠ .cell v := fun b hb => by
  obtain ⟨⟨f0, bb, hz, _⟩, hti, ⟨os, hto, _⟩, hits⟩ := st
  simp only [fpZ, List.mem_cons, List.mem_map] at hb
  rcases hb with q | q | q | ⟨c, hc, q⟩
  · rw [q]; exact ⟨_, hz, fun v z => nomatch z⟩
  · rw [q]; exact ⟨_, hti, fun v z => nomatch z⟩
  · rw [q]; exact ⟨_, hto, fun v z => nomatch z⟩
  · rw [← q]; exact (hits c hc).obj
end G48
namespace G48
open PySem PySem.Spec PyProof.Rows L2
theorem turn_enumZ {P : Program} {w : World} {K : PySem.W.Frag} {elts : List Expr} {kk : Nat} {tpos : Pos} (N : Nat) (as : List (Addr × Bool)) (hne : as ≠ []) (hl : as.length ≤ 16) (hlt : ∀ a ∈ as, a.1 < N) :
    Turn P w K (.Tuple elts kk tpos) (ItEZ K as) (fpEZ N as) (N + as.length + 3) (fun i h => (∃ old, IsEnum h (N + as.length + 3) (N + as.length + 2) ((i : Nat) : Int) old) ∧ ZSt h (N + as.length + 2) (N + as.length) (N + as.length + 1) (mkCs N as) i) where
  mem := by simp [fpEZ]
  obj := fun i h st b hb => by
    obtain ⟨⟨old, he⟩, st⟩ := st
    rcases List.mem_cons.mp hb with q | q
    · rw [q]; exact ⟨_, he, fun v z => nomatch z⟩
    · exact st.obj b q
  keep := fun i h h' st k => by
    obtain ⟨⟨old, he⟩, st⟩ := st
    exact ⟨⟨old, k _ (by simp [fpEZ]) _ he⟩, st.keep fun b hb o q => k b (by simp [fpEZ, hb]) o q⟩
  item := by
    intro X hP hw hK hc i pins s σ H E I hf st hg
    subst hP hw hK
    obtain ⟨⟨old, he⟩, st⟩ := st
    obtain ⟨xss, ys, hp, hy⟩ := hg
    obtain ⟨hy1, hy2⟩ := col_some hy
    have hpl : as.length = xss.length := Paired.length hp
    have ap := mk_apart N as hlt
    have fact : ∀ (k : Nat) (c : Cm), (mkCs N as)[k]? = some c → ∃ xs, xss[k]? = some xs ∧ SrcAt s.heap c (srcOf s.heap c) ∧ Vals xs (srcOf s.heap c).toList := fun k c hk => by
      obtain ⟨xs, h1, h2⟩ := Paired.get hp (mkCs_get as N k c hk)
      obtain ⟨h3, h4, _⟩ := sqA_src I h2
      exact ⟨xs, h1, h3, h4⟩
    have cne : mkCs N as ≠ [] := fun z => hne (by cases as with | nil => rfl | cons _ _ => simp [mkCs] at z)
    have big : as.length ≤ sizeLine := Nat.le_trans hl (by rw [sizeLine_eq]; decide)
    have hT : s.TypeIs (.ref (N + as.length + 3)) "enumerate" := ⟨_, he, rfl⟩
    have elt : (N + as.length + 3 : Nat) < s.heap.objs.size := Heap.lt_size he
    have zne : ∀ b ∈ fpZ N as, b ≠ N + as.length + 3 := fun b hb z => by
      have := (fpZ_range hb).2
      rw [z] at this
      exact absurd this (Nat.lt_irrefl _)
    have zlt : ∀ b ∈ fpZ N as, b < s.heap.objs.size := fun b hb => by
      obtain ⟨o, ho, _⟩ := st.obj b hb
      exact Heap.lt_size ho
    unfold pyNext
    refine wpAny_bind (wpAny_attempt (wpAny_callSpecial?_slot (name := Str.ofString "__next__") hT F.slot_enumerate_next (wpAny_call_entry F.slot_enumerate_next hT F.entry_enumerate_next (enum_nextG (Nx := fun x h1 => ∃ vs : List Value, x = .ref s.heap.objs.size ∧ vs.length = (mkCs N as).length ∧ (∀ (k : Nat) (c : Cm), (mkCs N as)[k]? = some c → (srcOf s.heap c)[i]? = vs[k]?) ∧ ZSt h1 (N + as.length + 2) (N + as.length) (N + as.length + 1) (mkCs N as) (i + 1) ∧ TupAt h1 s.heap.objs.size vs.toArray ∧ h1.objs.size = s.heap.objs.size + 1 ∧ Kz (N + as.length + 2) (N + as.length + 1) (mkCs N as) s.heap h1) he (fun Q1 hq => ?_) (fun x h1 nx => ?_) fun x h1 nx h2 a1 a2 a3 a4 => ?_) (F.args_enumerate_next_1 _))))
    · refine nextOf_zipN (src := srcOf s.heap) (I.ok.hd hc) ap cne (by rw [mkCs_len]; exact big) st (fun c hcm => ?_) (fun _ h' vs a1 a2 a3 a4 a5 a6 => hq _ _ ⟨vs, rfl, a1, a2, a3, a4, a5, a6⟩) (fun h' x ⟨c, hcm, hx⟩ _ _ => ?_)
      · obtain ⟨k, hk⟩ := List.mem_iff_getElem?.mp hcm
        obtain ⟨_, _, h3, _⟩ := fact k c hk
        exact h3
      · exfalso
        obtain ⟨k, hk⟩ := List.mem_iff_getElem?.mp hcm
        obtain ⟨xs, e1, _, r1⟩ := fact k c hk
        obtain ⟨x, e2, _⟩ := hy2 k xs e1
        obtain ⟨u, e3, _⟩ := r1.get e2
        rw [Array.getElem?_toList, hx] at e3
        cases e3
    · obtain ⟨vs, _, _, _, _, _, _, kz⟩ := nx
      refine kz _ _ ?_ ?_ (fun d hd z => ?_) he
      · exact fun z => zne _ (by simp [fpZ]) z.symm
      · exact fun z => zne _ (by simp [fpZ]) z.symm
      · refine zne d.it ?_ z.symm
        simp only [fpZ, List.mem_cons, List.mem_map]
        exact .inr (.inr (.inr ⟨d, hd, rfl⟩))
    · obtain ⟨vs, rfl, b1, b2, b3, b4, b5, b6⟩ := nx
      refine wpAny_pure ⟨_, rfl, wpAny_letOwnedTupleGo_enum (s := { s with heap := h2, toks := s.toks + 1 }) a1 fun h3 he3 sb => ?_⟩
      have sz : s.heap.objs.size ≠ N + as.length + 3 := Nat.ne_of_gt elt
      have k13 : ∀ b o, b ≠ N + as.length + 3 → h1.get? b = some o → h3.get? b = some o := fun b o nb q => (sb.2 b nb).trans (a4 b o nb q)
      have rv : Vals ys vs := by
        refine vals_by (by rw [hy1, b1, mkCs_len, hpl]) fun k x u g1 g2 => ?_
        have hkl : k < (mkCs N as).length := by rw [← b1]; exact (List.getElem?_eq_some_iff.mp g2).1
        obtain ⟨xs, e1, _, r1⟩ := fact k _ (List.getElem?_eq_getElem hkl)
        obtain ⟨x', e2, e3⟩ := hy2 k xs e1
        rw [g1] at e3; cases e3
        obtain ⟨u', e4, r4⟩ := r1.get e2
        have e5 := b2 k _ (List.getElem?_eq_getElem hkl)
        rw [g2] at e5
        rw [Array.getElem?_toList] at e4
        rw [e4] at e5; cases e5
        exact r4
      have new1 : ObjOk X.prog X.w (upd H s.heap.objs.size (.tup ys)) h1 s.heap.objs.size (.tup ys) := ⟨by rw [hy1, ← hpl]; exact big, vs, rv, ⟨_, b4, rfl, _, rfl⟩⟩
      have fz : ∀ b ∈ fpZ N as, FpOk X pins H b := fun b hb => hf b (by simp [fpEZ, hb])
      have I1 : Inv X pins σ (upd H s.heap.objs.size (.tup ys)) { s with heap := h1 } :=
        I.turnedNew (t' := s.toks) (ch := fpZ N as) (fun c o hb q => by
          refine b6 c o (fun z => hb (by simp [fpZ, z])) (fun z => hb (by simp [fpZ, z])) (fun d hd z => hb ?_) q
          simp only [fpZ, List.mem_cons, List.mem_map]
          exact .inr (.inr (.inr ⟨d, hd, z.symm⟩))) fz (Nat.le_refl _) new1
      have fe : ∀ b ∈ [N + as.length + 3], FpOk X pins (upd H s.heap.objs.size (.tup ys)) b := fun b hb => by
        have eb : b = N + as.length + 3 := by simpa using hb
        have := hf b (by rw [eb]; simp [fpEZ])
        refine ⟨?_, this.2⟩
        rw [upd_ne (by rw [eb]; exact Ne.symm sz)]
        exact this.1
      have t3 : h3.get? h1.objs.size = some { cls := .type "tuple", data := .seq #[.int i s.toks, .ref s.heap.objs.size] } := (sb.2 _ (by rw [b5]; exact Nat.ne_of_gt (Nat.lt_succ_of_lt elt))).trans a2
      have new2 : ObjOk X.prog X.w (upd (upd H s.heap.objs.size (.tup ys)) h1.objs.size (.tup [.int (i : Nat), .ref s.heap.objs.size])) h3 h1.objs.size (.tup [.int (i : Nat), .ref s.heap.objs.size]) :=
        ⟨by show 2 ≤ sizeLine; decide, [.int i s.toks, .ref s.heap.objs.size], .cons ⟨_, rfl⟩ (.cons rfl .nil), ⟨_, t3, rfl, _, rfl⟩⟩
      have I2 := I1.turnedNew (t' := s.toks + 1) (ch := [N + as.length + 3]) (h' := h3) (fun b o hb q => k13 b o (by simpa using hb) q) fe (Nat.le_refl _) new2
      refine ⟨.ref h1.objs.size, _, I2, rfl, ⟨s.heap.objs.size, h1.objs.size, ys, rfl, I.hok.fresh (Nat.le_refl _), I.hok.fresh (by rw [b5]; exact Nat.le_succ _), by rw [b5]; exact Nat.succ_ne_self _, rfl, fun l hl => by rw [sqAs_inj I hl hp]; exact hy⟩, ⟨⟨.ref s.heap.objs.size, ?_⟩, b3.keep fun b hb o q => k13 b o (zne b hb) q⟩, fun b hb => ?_⟩
      · have e1 : ((i + 1 : Nat) : Int) = (i : Int) + 1 := by omega
        rw [e1]; exact he3
      · have lb : b < s.heap.objs.size := by
          rcases List.mem_cons.mp hb with z | z
          · rw [z]; exact elt
          · exact zlt b z
        rw [upd_ne (by rw [b5]; exact Nat.ne_of_lt (Nat.lt_succ_of_lt lb)), upd_ne (Nat.ne_of_lt lb)]
        exact (hf b hb).1
  done := by
    intro X hP hw hK hc i pins s σ H E I hf st hg
    subst hP hw hK
    obtain ⟨⟨old, he⟩, st⟩ := st
    obtain ⟨xss, hp, hy⟩ := hg
    obtain ⟨k0, xs0, hk0, hx0⟩ := col_none hy
    have hpl : as.length = xss.length := Paired.length hp
    have ap := mk_apart N as hlt
    have fact : ∀ (k : Nat) (c : Cm), (mkCs N as)[k]? = some c → ∃ xs, xss[k]? = some xs ∧ SrcAt s.heap c (srcOf s.heap c) ∧ Vals xs (srcOf s.heap c).toList := fun k c hk => by
      obtain ⟨xs, h1, h2⟩ := Paired.get hp (mkCs_get as N k c hk)
      obtain ⟨h3, h4, _⟩ := sqA_src I h2
      exact ⟨xs, h1, h3, h4⟩
    have cne : mkCs N as ≠ [] := fun z => hne (by cases as with | nil => rfl | cons _ _ => simp [mkCs] at z)
    have big : as.length ≤ sizeLine := Nat.le_trans hl (by rw [sizeLine_eq]; decide)
    have hT : s.TypeIs (.ref (N + as.length + 3)) "enumerate" := ⟨_, he, rfl⟩
    unfold pyNext
    refine wpAny_bind (wpAny_attempt (wpAny_callSpecial?_slot (name := Str.ofString "__next__") hT F.slot_enumerate_next (wpAny_call_entry F.slot_enumerate_next hT F.entry_enumerate_next ?_ (F.args_enumerate_next_1 _))))
    show wpAny (model X.prog X.w) X.A.in1 (field (.ref (N + as.length + 3)) 2 >>= _) _ _ s
    refine wpAny_bind (wpAny_field he rfl (x := .ref (N + as.length + 2)) rfl (wpAny_bind ?_))
    refine nextOf_zipN (src := srcOf s.heap) (I.ok.hd hc) ap cne (by rw [mkCs_len]; exact big) st (fun c hcm => ?_) (fun hall _ _ _ _ _ _ _ _ => ?_) (fun h' x _ kz hx => ?_)
    · obtain ⟨k, hk⟩ := List.mem_iff_getElem?.mp hcm
      obtain ⟨_, _, h3, _⟩ := fact k c hk
      exact h3
    · exfalso
      have hkl : k0 < (mkCs N as).length := by rw [mkCs_len, hpl]; exact (List.getElem?_eq_some_iff.mp hk0).1
      obtain ⟨xs, e1, _, r1⟩ := fact k0 _ (List.getElem?_eq_getElem hkl)
      rw [hk0] at e1; cases e1
      obtain ⟨x, hx⟩ := hall _ (List.getElem_mem hkl)
      have := r1.none_of hx0
      rw [Array.getElem?_toList, hx] at this
      cases this
    · obtain ⟨ob, ho, hcl⟩ := hx
      refine wpAny_bind (wpAny_isInstance (T := "StopIteration") (b := true) ⟨ob, ho, hcl⟩ isSubtype_stop (wpAny_pure ⟨rfl, ?_⟩))
      refine I.turnedL (t' := s.toks) (ch := fpZ N as) (fun c o hb q => kz c o (fun z => hb (by simp [fpZ, z])) (fun z => hb (by simp [fpZ, z])) (fun d hd z => hb ?_) q) fun b hb => hf b (by simp [fpEZ, hb])
      simp only [fpZ, List.mem_cons, List.mem_map]
      exact .inr (.inr (.inr ⟨d, hd, z.symm⟩))
  self := fun A i s Q E st h => let ⟨⟨_, he⟩, _⟩ := st; wpAny_pyIter_enum he h
end G48
namespace G48
open PySem PySem.Spec PyProof.Rows L2
section
variable {T : XT} {M : Mem} {β : Nat → Addr} {H : Hp}
theorem jok_enumZ {K : PySem.W.Frag} {ls : List (List D)} {as : List (Addr × Bool)} (r : Rl T M β H) (q : Paired (Src T M β H) ls as) (hne : ls ≠ []) (hl : ∀ l ∈ ls, l.length ≤ sizeLine) : JOk T M β H (enumL 0 (zipL ls)) (ItEZ K as) := by
  obtain ⟨l0, lr, e0⟩ : ∃ l r, ls = l :: r := by cases ls with | nil => exact absurd rfl hne | cons l r => exact ⟨l, r, rfl⟩
  refine ⟨by rw [enumL_len]; subst e0; exact Nat.le_trans zipL_len (hl _ (by simp)), fun i m β' H' g r' => ?_⟩
  have q' : Paired (Src T m β' H') ls as := Paired.imp (fun l a h => h.grow r g) q
  obtain ⟨xss, h1, h2⟩ := srcs_sq (K := K) q'
  have ez : zipL ls = zipN l0.length ls := by subst e0; rfl
  refine ⟨fun d hd => ?_, fun hi => ?_⟩
  · rw [enumL_get, ez] at hd
    obtain ⟨d0, hd0, e5⟩ := Option.map_eq_some_iff.mp hd
    obtain ⟨ds, e1, e2, e3⟩ := zipN_get _ _ _ _ hd0
    obtain ⟨ys, h3, h4⟩ := col_of h2 e2 e3
    refine ⟨⟨xss, ys, h1, h3⟩, fun x H2 ⟨t1, t2, zs, e4, n1, n2, ne, e6, h5⟩ => ?_⟩
    have := h5 xss h1
    rw [h3] at this; cases this
    subst e4 e6 e1 e5
    have r1 := r'.laid (o := .tup ys) n1
    have g1 : Grow m β' H' m β' (upd H' t1 (.tup ys)) := Grow.laid r' n1
    have n2' : upd H' t1 (.tup ys) t2 = none := by rw [upd_ne ne]; exact n2
    have w1 := new_tup (T := T) r' n1 h4
    refine ⟨new_tup r1 n2' (Reps.cons ?_ (Reps.cons w1 Reps.nil)), r1.laid n2', g1.trans (Grow.laid r1 n2')⟩
    rw [Int.zero_add]
    exact rep_int
  · rw [enumL_len, ez] at hi
    obtain ⟨k, l, h3, h4⟩ := zipN_end l0.length ls ⟨0, l0, by subst e0; rfl, Nat.le_refl _⟩ i hi
    obtain ⟨xs, h5, h6⟩ := Paired.get h2 h3
    exact ⟨xss, h1, col_end h5 (List.getElem?_eq_none (by rw [← h6.length]; exact h4))⟩
end
section
variable {T : XT} {X : Cx} {W : WX} {pos pos2 p p2 tpos : Pos} {kk : Nat} {e : Expr} {es elts : List Expr} {fs : Env → Mem → R (List D)}
theorem si_enumZip (hg : Gl X "enumerate") (hm : X.mg "enumerate" = none) (hgz : Gl X "zip") (hmz : X.mg "zip" = none) (ha : SA T X W (e :: es) fs) (hn : (e :: es).all nst = true) :
    SI T X W (.Tuple elts kk tpos) (.Call (.Name "enumerate" p) [.Call (.Name "zip" p2) (e :: es) [] pos2] [] pos) fun ρ m => (fs ρ m).bind fun ds m => (R.of (zipD ds) m).bind fun ls m => .ok (enumL 0 (zipL ls)) m := by
  have hn' : nst e = true ∧ es.all nst = true := by simpa using hn
  refine ⟨fun pins s σ H R I ⟨ρ, M, β, l, r, o⟩ => ?_⟩
  refine Call_ (ld_blt I hg hm boot_enumerate (PyProof.Rows.callWith_type1 ?_ rfl rfl))
  show wpAny _ _ (spliced [(false, eval (.Call (.Name "zip" p2) (e :: es) [] pos2) X.env)]) _ _ s
  refine Calls.spliced_cons ?_
  refine Call_ (ld_blt I hgz hmz PyProof.Rows.boot_zip (PyProof.Rows.callWith_type1 (thn (ha.run pos2 pins s σ H (fun vs H1 => ∃ m β1 ls as, vs = as.map (fun a : Addr × Bool => V.ref a.1) ∧ as ≠ [] ∧ as.length ≤ 16 ∧ Rl T m β1 H1 ∧ Paired (Src T m β1 H1) ls as ∧ ∀ J, JOk T m β1 H1 (enumL 0 (zipL ls)) J → R J H1) I
    ⟨ρ, M, β, l, r, Out.bind o fun ds m vs H1 β1 hx r1 g1 o1 => ?_⟩) fun us s1 ⟨vs, H1, I1, rv, m, β1, ls, as, e1, h1, h2, rl, h3, h4⟩ => ?_) (star_no hn'.1) (plain_args hn'.2)))
  · unfold zipD at o1
    split at o1
    · next h =>
      cases q : seqsD ds with
      | none => rw [q] at o1; exact o1.elim
      | some ls =>
        rw [q] at o1
        obtain ⟨as, e1, h3⟩ := srcs_of r1 q hx
        have hl : ds.length = as.length := by rw [hx.length, e1, List.length_map]
        exact ⟨m, β1, ls, as, e1, fun z => h.2 (by rw [z] at hl; exact List.length_eq_zero_iff.mp hl), by omega, r1, h3, fun J hJ => o1 J H1 β1 hJ r1 Grow.refl⟩
    · exact o1.elim
  · subst e1
    rw [vals_refs rv]
    have each : ∀ a ∈ as, SrcOk s1.heap a ∧ a.1 < s1.heap.objs.size := fun a ha => by
      obtain ⟨k, hk⟩ := List.mem_iff_getElem?.mp ha
      obtain ⟨l, _, h2⟩ := Paired.get2 h3 hk
      exact (len_of I1 h2).2
    have lens : ∀ l ∈ ls, l.length ≤ sizeLine := fun l hm => by
      obtain ⟨k, hk⟩ := List.mem_iff_getElem?.mp hm
      obtain ⟨a, _, h2⟩ := Paired.get h3 hk
      exact (len_of I1 h2).1
    have lne : ls ≠ [] := fun z => by subst z; cases h3; exact h1 rfl
    refine call_zipN h1 h2 (fun a ha => (each a ha).1) fun h' st hsz hk => ?_
    refine Calls.spliced_nil ?_
    have Tn := turn_enumZ (P := X.prog) (w := X.w) (K := X.K) (elts := elts) (kk := kk) (tpos := tpos) s1.heap.objs.size as h1 h2 (fun a ha => (each a ha).2)
    refine enumZ (s := { s1 with heap := h' }) st fun k2 he2 sz2 kp2 => ?_
    have sz2 : k2.objs.size = h'.objs.size + 1 := sz2
    have he2 : IsEnum k2 h'.objs.size (s1.heap.objs.size + as.length + 2) 0 .none := he2
    rw [hsz] at he2
    have st2 := st.keep (h' := k2) fun b _ o q => kp2 b o q
    show wpAny _ _ (pyIter (.ref h'.objs.size)) _ _ _
    rw [hsz]
    refine Tn.self X.A 0 _ _ _ ⟨⟨.none, he2⟩, st2⟩ ?_
    refine ⟨_, _, _, _, H1, rfl, I1.kept (t' := s1.toks) fun b o q => kp2 b o (hk b o q), Tn, ⟨⟨.none, he2⟩, st2⟩, fun b hb => ?_, h4 _ (jok_enumZ rl h3 lne lens)⟩
    have hle : s1.heap.objs.size ≤ b := by
      rcases List.mem_cons.mp hb with z | z
      · rw [z]; exact Nat.le_trans (Nat.le_add_right _ as.length) (Nat.le_add_right _ 3)
      · exact (fpZ_range z).1
    exact I1.fpOk hle (I1.hok.fresh hle)
end
end G48
set_option Elab.async false
set_option linter.all false
set_option maxRecDepth 100000
set_option maxHeartbeats 1000000
/-! G48: sum(xs, []) of a list of lists. -/
namespace G48
open PySem PySem.Spec PyProof.Rows L2
def LsAt (h : Heap) (a : Addr) (xs : List Value) : Prop := ∃ n, h.get? a = some { cls := .type "list", dict := none, data := .seq xs.toArray n, slots := #[] }
theorem LsAt.isList {h : Heap} {a : Addr} {xs : List Value} (q : LsAt h a xs) : h.IsList a xs.toArray := by
  obtain ⟨n, q⟩ := q
  exact ⟨_, q, rfl, n, rfl⟩
theorem LsAt.keep {h h' : Heap} {a : Addr} {xs : List Value} (q : LsAt h a xs) (k : ∀ o, h.get? a = some o → h'.get? a = some o) : LsAt h' a xs := let ⟨n, q⟩ := q; ⟨n, k _ q⟩
section
variable {prog : Program} {w : World} {A : Around} {R : Result → Shared → Prop}
/-- what the loop stands on: the iterator I over the list l, the state S, the sum so far at T -/
structure SumSt (h : Heap) (l I S T : Addr) (rows : List Addr) (ct : Addr → List Value) (acc : List Value) (i : Nat) : Prop where
  it : h.IsListIter I l i
  src : h.IsList l (rows.map Value.ref).toArray
  row : ∀ a ∈ rows, LsAt h a (ct a)
  st : ∃ c, h.get? S = some { cls := .type "list", dict := none, data := .seq #[.ref T] c, slots := #[] }
  tot : LsAt h T acc
theorem sumL_loop (hh : A.in1.handled = none) {l I S : Addr} {rows : List Addr} {ct : Addr → List Value} (n1 : l ≠ I) (n2 : l ≠ S) (n3 : I ≠ S) (n4 : ∀ a ∈ rows, a ≠ I ∧ a ≠ S) :
    ∀ (k i : Nat) (s : Shared) (T : Addr) (acc : List Value), rows.length - i = k → i ≤ rows.length → T ≠ I → T ≠ S → SumSt s.heap l I S T rows ct acc i → acc.length + ((rows.drop i).flatMap ct).length ≤ sizeLine →
    (∀ h' T', (∀ b o, b ≠ I → b ≠ S → s.heap.get? b = some o → h'.get? b = some o) → LsAt h' T' (acc ++ (rows.drop i).flatMap ct) → (T' = T ∨ s.heap.objs.size ≤ T') → R (.ok (.ret (.ref T'))) { s with heap := h' }) →
    codeAny (model prog w) A (.builtin "sum.loop" ⟨[.ref I, .ref S, rawInt 2, rawInt 0], []⟩) R s := by
  intro k
  induction k with
  | zero =>
    intro i s T acc hk hi t1 t2 st hz hR
    have hin : i = rows.length := by omega
    obtain ⟨c, hS⟩ := st.st
    refine codeAny_builtin F.entry_sum_loop ?_
    rw [Around.under_plainId F.plain_sum_loop _]
    show wpAny _ A.in1 (seqItems? (.ref S) >>= _) _ _ s
    refine wpAny_bind (wpAny_seqItems hS rfl ?_)
    show wpAny _ A.in1 (tryCatch (pyNext (.ref I)) _ >>= _) _ _ s
    refine wpAny_bind (wpAny_tryCatch (wpAny_pyNext_list_end hh st.it st.src (by subst hin; simp) fun h' eb => ?_))
    refine wpAny_pure (hR h' T (fun b o b1 _ q => eb b o b1 q) ?_ (.inl rfl))
    subst hin
    rw [List.drop_length, List.flatMap_nil, List.append_nil]
    exact st.tot.keep fun o q => eb T o t1 q
  | succ k ih =>
    intro i s T acc hk hi t1 t2 st hz hR
    have hlt : i < rows.length := by omega
    obtain ⟨c, hS⟩ := st.st
    refine codeAny_builtin F.entry_sum_loop ?_
    rw [Around.under_plainId F.plain_sum_loop _]
    show wpAny _ A.in1 (seqItems? (.ref S) >>= _) _ _ s
    refine wpAny_bind (wpAny_seqItems hS rfl ?_)
    show wpAny _ A.in1 (tryCatch (pyNext (.ref I)) _ >>= _) _ _ s
    refine wpAny_bind (wpAny_tryCatch (wpAny_pyNext_list_item st.it st.src (x := .ref rows[i]) (by simp [hlt]) fun h1 it1 sb1 => ?_))
    have hm : rows[i] ∈ rows := List.getElem_mem hlt
    have S1 := (sb1.2 S (Ne.symm n3)).trans hS
    have T1 : LsAt h1 T acc := st.tot.keep fun o q => (sb1.2 T t1).trans q
    have R1 : ∀ a ∈ rows, LsAt h1 a (ct a) := fun a ha => (st.row a ha).keep fun o q => (sb1.2 a (n4 a ha).1).trans q
    have L1 : h1.IsList l (rows.map Value.ref).toArray := by
      obtain ⟨o, q, r⟩ := st.src
      exact ⟨o, (sb1.2 l n1).trans q, r⟩
    have dz : ((rows.drop i).flatMap ct).length = (ct rows[i]).length + ((rows.drop (i + 1)).flatMap ct).length := by
      rw [List.drop_eq_getElem_cons hlt, List.flatMap_cons, List.length_append]
    show wpAny _ A.in1 ((holding [Value.ref rows[i]] (binaryOp .Add (.ref T) (.ref rows[i]))).attempt >>= _) _ _ { s with heap := h1 }
    obtain ⟨cT, qT⟩ := id T1
    obtain ⟨cr, qr⟩ := id (R1 _ hm)
    refine wpAny_bind (wpAny_attempt (wpAny_holding (PySem.P.add_list qT qr ?_ (by simp; omega))))
    have T2 := Heap.get?_push_size h1 (o := { cls := .type "list", data := .seq (acc.toArray ++ (ct rows[i]).toArray) }) rfl
    have kp2 : ∀ b o, h1.get? b = some o → (h1.push { cls := .type "list", data := .seq (acc.toArray ++ (ct rows[i]).toArray) }).get? b = some o := fun b o q => Heap.get?_push_of_some _ q
    generalize e2 : h1.push { cls := .type "list", data := .seq (acc.toArray ++ (ct rows[i]).toArray) } = h2 at T2 kp2
    have sI : I < h1.objs.size := by obtain ⟨o, q, _⟩ := it1; exact Heap.lt_size q
    have sS : S < h1.objs.size := Heap.lt_size S1
    have sz1 : h1.objs.size = s.heap.objs.size := sb1.1
    show wpAny _ A.in1 (updateSeq S (fun _ => #[.ref h1.objs.size]) >>= _) _ _ { s with heap := h2 }
    have S2 := kp2 _ _ S1
    refine wpAny_bind (wpAny_updateSeq S2 rfl ?_)
    have S3 := Heap.get?_update_self (Obj.mapSeq fun _ => #[Value.ref h1.objs.size]) S2 rfl
    refine wpAny_bind (wpAny_letGo ?_)
    refine wpAny_bind (wpAny_updateSeq S3 rfl ?_)
    have S4 := Heap.get?_update_self (Obj.mapSeq fun _ => #[Value.ref h1.objs.size]) S3 rfl
    have kp4 : ∀ b o, b ≠ S → h2.get? b = some o → ((h2.update S (Obj.mapSeq fun _ => #[Value.ref h1.objs.size])).update S (Obj.mapSeq fun _ => #[Value.ref h1.objs.size])).get? b = some o := fun b o nb q => (Heap.get?_update_other _ _ (Ne.symm nb)).trans ((Heap.get?_update_other _ _ (Ne.symm nb)).trans q)
    have z4 : ((h2.update S (Obj.mapSeq fun _ => #[Value.ref h1.objs.size])).update S (Obj.mapSeq fun _ => #[Value.ref h1.objs.size])).objs.size = h1.objs.size + 1 := by
      rw [(Heap.SameBut.update ..).1, (Heap.SameBut.update ..).1, ← e2, Heap.size_push]
    show wpAny _ _ _ _ _ { s with heap := (h2.update S (Obj.mapSeq fun _ => #[Value.ref h1.objs.size])).update S (Obj.mapSeq fun _ => #[Value.ref h1.objs.size]) }
    generalize (h2.update S (Obj.mapSeq fun _ => #[Value.ref h1.objs.size])).update S (Obj.mapSeq fun _ => #[Value.ref h1.objs.size]) = h4 at S4 kp4 z4
    have nT : h1.objs.size ≠ S := Nat.ne_of_gt sS
    have nTI : h1.objs.size ≠ I := Nat.ne_of_gt sI
    have k14 : ∀ b o, b ≠ S → h1.get? b = some o → h4.get? b = some o := fun b o nb q => kp4 b o nb (kp2 b o q)
    refine wpAny_pure ⟨plainId_quiet F.plain_sum_loop _, ih (i + 1) { s with heap := h4 } h1.objs.size (acc ++ ct rows[i]) (by omega) hlt nTI nT ⟨?_, ?_, fun a ha => (R1 a ha).keep fun o q => k14 a o (n4 a ha).2 q, ⟨_, S4⟩, ?_⟩ (by rw [List.length_append]; omega) fun h' T' kk lt ht => ?_⟩
    · obtain ⟨o, q, r⟩ := it1
      exact ⟨o, k14 I o n3 q, r⟩
    · obtain ⟨o, q, r⟩ := L1
      exact ⟨o, k14 l o n2 q, r⟩
    · have e3 : acc.toArray ++ (ct rows[i]).toArray = (acc ++ ct rows[i]).toArray := by simp
      rw [e3] at T2
      exact ⟨_, kp4 _ _ nT T2⟩
    · refine hR h' T' (fun b o b1 b2 q => kk b o b1 b2 (k14 b o b2 ((sb1.2 b b1).trans q))) ?_ (.inr ?_)
      · rw [List.drop_eq_getElem_cons hlt, List.flatMap_cons, ← List.append_assoc]
        exact lt
      · rcases ht with rfl | ht
        · exact Nat.le_of_eq sz1.symm
        · have ht : h4.objs.size ≤ T' := ht
          rw [z4, sz1] at ht
          exact Nat.le_of_succ_le ht
end
end G48
namespace G48
open PySem PySem.Spec PyProof.Rows L2
section
variable {prog : Program} {w : World} {A : Around} {E : Value → Shared → Prop} {s : Shared}
theorem args_sum2 (a b : Value) : argsOk "sum" ⟨[a, b], []⟩ := by unfold argsOk; kernel_rfl
theorem sub_lst_str : isSubtype (.type "list") (.type "str") = pure false := by rw [isSubtype_type]; kernel_rfl
theorem sub_lst_bytes : isSubtype (.type "list") (.type "bytes") = pure false := by rw [isSubtype_type]; kernel_rfl
theorem sub_lst_bytearray : isSubtype (.type "list") (.type "bytearray") = pure false := by rw [isSubtype_type]; kernel_rfl
theorem call_sumL {l T : Addr} {rows : List Addr} {ct : Addr → List Value} {Q : Value → Shared → Prop} (hh : A.in1.handled = none) (hl : LsAt s.heap l (rows.map Value.ref)) (hr : ∀ a ∈ rows, LsAt s.heap a (ct a)) (hT : LsAt s.heap T []) (hz : (rows.flatMap ct).length ≤ sizeLine)
    (hQ : ∀ h' T', (∀ b o, s.heap.get? b = some o → h'.get? b = some o) → LsAt h' T' (rows.flatMap ct) → (T' = T ∨ s.heap.objs.size ≤ T') → Q (.ref T') { s with heap := h' }) :
    wpAny (model prog w) A (call (.builtin "sum") [.ref l, .ref T]) Q E s := by
  refine call_function_tree F.kind_sum F.plain_sum F.entry_sum (args_sum2 _ _) ?_
  unfold Builtin.«sum»
  simp only [List.length_cons, List.length_nil]
  rw [if_neg (by decide)]
  refine wpAny_bind (wpAny_of_eq (show Builtin.Builtins.bindParams "sum" ["start"] 0 ⟨[.ref T], []⟩ = pure [some (.ref T)] from rfl) ?_)
  refine wpAny_bind (wpAny_pyIter_list hl.isList ?_)
  refine wpAny_bind (wpAny_pure ?_)
  have ity := Heap.get?_push_size s.heap (o := { cls := .type "list_iterator", data := .fields #[.ref l, .int 0 0] }) rfl
  have kp : ∀ b o, s.heap.get? b = some o → (s.heap.push { cls := .type "list_iterator", data := .fields #[.ref l, .int 0 0] }).get? b = some o := fun b o q => Heap.get?_push_of_some _ q
  have z1 : (s.heap.push { cls := .type "list_iterator", data := .fields #[.ref l, .int 0 0] }).objs.size = s.heap.objs.size + 1 := Heap.size_push ..
  generalize s.heap.push { cls := .type "list_iterator", data := .fields #[.ref l, .int 0 0] } = h1 at ity kp z1
  have T1 : LsAt h1 T [] := hT.keep fun o q => kp _ o q
  obtain ⟨nT, qT⟩ := id T1
  have ty : ∀ x : Shared, x.heap = h1 → x.TypeIs (.ref T) "list" := fun x e => ⟨_, by rw [e]; exact qT, rfl⟩
  simp only [List.forIn_cons, List.forIn_nil]
  refine wpAny_bind (wpAny_bind (wpAny_bind (wpAny_isInstance (T := "list") (b := false) (ty _ rfl) sub_lst_str ?_)))
  simp only [Bool.false_eq_true, if_false]
  refine wpAny_pure (wpAny_bind (wpAny_bind (wpAny_isInstance (T := "list") (b := false) (ty _ rfl) sub_lst_bytes ?_)))
  simp only [Bool.false_eq_true, if_false]
  refine wpAny_pure (wpAny_bind (wpAny_bind (wpAny_isInstance (T := "list") (b := false) (ty _ rfl) sub_lst_bytearray ?_)))
  simp only [Bool.false_eq_true, if_false]
  refine wpAny_pure (wpAny_pure (wpAny_bind (wpAny_newObj_type ?_)))
  have st2 := Heap.get?_push_size h1 (o := { cls := .type "list", data := .seq #[.ref T] }) rfl
  have kp2 : ∀ b o, h1.get? b = some o → (h1.push { cls := .type "list", data := .seq #[.ref T] }).get? b = some o := fun b o q => Heap.get?_push_of_some _ q
  generalize h1.push { cls := .type "list", data := .seq #[.ref T] } = h2 at st2 kp2
  have ll : l < s.heap.objs.size := by obtain ⟨n, q⟩ := hl; exact Heap.lt_size q
  have lT : T < s.heap.objs.size := by obtain ⟨n, q⟩ := hT; exact Heap.lt_size q
  have ne : ∀ b : Addr, b < s.heap.objs.size → b ≠ s.heap.objs.size ∧ b ≠ h1.objs.size := fun b hb => ⟨Nat.ne_of_lt hb, by rw [z1]; exact Nat.ne_of_lt (Nat.lt_succ_of_lt hb)⟩
  have nn : s.heap.objs.size ≠ h1.objs.size := by rw [z1]; exact Nat.ne_of_lt (Nat.lt_succ_self _)
  refine wpAny_pure ⟨plainId_quiet F.plain_sum_loop _, sumL_loop (ct := ct) (rows := rows) hh (ne l ll).1 (ne l ll).2 nn (fun a ha => ne a (by obtain ⟨n, q⟩ := hr a ha; exact Heap.lt_size q)) rows.length 0 _ T [] rfl (Nat.zero_le _) (ne T lT).1 (ne T lT).2 ⟨?_, ?_, fun a ha => (hr a ha).keep fun o q => kp2 _ o (kp _ o q), ⟨_, st2⟩, hT.keep fun o q => kp2 _ o (kp _ o q)⟩ (by simpa using hz) fun h' T' kk lt ht => ?_⟩
  · exact ⟨_, kp2 _ _ ity, rfl, rfl⟩
  · exact (hl.keep fun o q => kp2 _ o (kp _ o q)).isList
  · refine hQ h' T' (fun b o q => kk b o (ne b (Heap.lt_size q)).1 (ne b (Heap.lt_size q)).2 (kp2 _ o (kp _ o q))) (by simpa using lt) ?_
    rcases ht with rfl | ht
    · exact .inl rfl
    · refine .inr (Nat.le_trans (Nat.le_succ _) (Nat.le_trans (Nat.le_of_eq z1.symm) (Nat.le_trans ?_ ht)))
      show h1.objs.size ≤ h2.objs.size
      exact Nat.le_of_lt (Heap.lt_size st2)
end
end G48
namespace G48
open PySem PySem.Spec PyProof.Rows L2
/-- sum(xs, []): lists put together -/
def rSumL : List V → Hp → VK → Prop := fun vs H Q => ∃ (l t : Addr) (rows : List Addr) (ct : Addr → List V), vs = [.ref l, .ref t] ∧ H l = some (.lst (rows.map V.ref)) ∧ H t = some (.lst []) ∧ (∀ a ∈ rows, H a = some (.lst (ct a))) ∧ (rows.flatMap ct).length ≤ sizeLine ∧
  (rows.flatMap ct = [] → Q (.ref t) H) ∧ ∀ p, H p = none → Q (.ref p) (upd H p (.lst (rows.flatMap ct)))
def rawL (h : Heap) (a : Addr) : List Value := match h.get? a with
  | some o => match o.data with
    | .seq xs _ => xs.toList
    | _ => []
  | none => []
theorem vals_refsL : ∀ {rows : List Addr} {its : List Value}, Vals (rows.map V.ref) its → its = rows.map Value.ref
  | [], _, h => by cases h; rfl
  | a :: rows, _, h => by
    cases h with
    | cons h1 h2 => cases h1; rw [vals_refsL h2]; rfl
theorem vals_flat {ct : Addr → List V} {cv : Addr → List Value} : ∀ {rows : List Addr}, (∀ a ∈ rows, Vals (ct a) (cv a)) → Vals (rows.flatMap ct) (rows.flatMap cv)
  | [], _ => .nil
  | a :: rows, h => by
    rw [List.flatMap_cons, List.flatMap_cons]
    exact (h a (by simp)).append (vals_flat fun b hb => h b (by simp [hb]))
section
variable {X : Cx}
theorem cr_sumL (hc : X.calm = true) : CallR X (.builtin "sum") rSumL := by
  intro pins s σ H vs us Q I r h
  obtain ⟨l, t, rows, ct, rfl, hl, ht, hr, hz, q1, q2⟩ := h
  cases r with
  | cons r1 r2 =>
    cases r2 with
    | cons r3 r4 =>
      cases r4
      cases r1
      cases r3
      have raw : ∀ {a : Addr} {xs : List V}, H a = some (.lst xs) → LsAt s.heap a (rawL s.heap a) ∧ Vals xs (rawL s.heap a) := fun {a xs} e => by
        obtain ⟨_, its, n, rv, _, g⟩ := I.lstM e
        have : rawL s.heap a = its := by unfold rawL; rw [g]
        rw [this]
        exact ⟨⟨n, g⟩, rv⟩
      obtain ⟨l1, l2⟩ := raw hl
      rw [vals_refsL l2] at l1
      obtain ⟨t1, t2⟩ := raw ht
      have te : rawL s.heap t = [] := by
        generalize rawL s.heap t = z at t2
        cases t2
        rfl
      rw [te] at t1
      have vf : Vals (rows.flatMap ct) (rows.flatMap (rawL s.heap)) := vals_flat fun a ha => (raw (hr a ha)).2
      refine call_sumL (I.ok.hd hc) l1 (fun a ha => (raw (hr a ha)).1) t1 (by rw [← vf.length]; exact hz) fun h' T' kp lt hT => ?_
      rcases hT with rfl | hT
      · obtain ⟨n, g⟩ := t1
        obtain ⟨n', g'⟩ := lt
        rw [kp _ _ g] at g'
        have e0 : rows.flatMap (rawL s.heap) = [] := by
          injection g' with g'
          injection g' with _ _ g' _
          injection g' with g' _
          have := congrArg Array.toList g'
          simpa using this.symm
        rw [e0] at vf
        have e1 : rows.flatMap ct = [] := by
          generalize rows.flatMap ct = z at vf
          cases vf; rfl
        exact ⟨.ref T', H, I.kept (t' := s.toks) kp, rfl, q1 e1⟩
      · obtain ⟨n, g⟩ := lt
        exact ⟨.ref T', _, I.laid (t' := s.toks) (o := .lst (rows.flatMap ct)) kp hT ⟨hz, _, n, vf, g⟩, rfl, q2 _ (I.hok.fresh hT)⟩
end
section
variable {T : XT} {G : List FI} {ps : List Pat} {cs : List (Str × D)} {wf n : Nat} {X : Cx} {W : WX} {a : Expr} {f : Env → Mem → R D} {p p2 pos : Pos}
theorem reps_lsts {M : Mem} {β : Nat → Addr} {H : Hp} : ∀ {ds : List D} {ls : List (List D)} {xs : List V}, lstsD ds = some ls → Reps T M β H ds xs → ∃ (rows : List Addr) (ct : Addr → List V), xs = rows.map V.ref ∧ (∀ a ∈ rows, H a = some (.lst (ct a))) ∧ Reps T M β H ls.flatten (rows.flatMap ct)
  | [], ls, xs, h, q => by
    cases h
    unfold Reps at q
    subst q
    exact ⟨[], fun _ => [], rfl, by simp, Reps.nil⟩
  | d :: ds, ls, xs, h, q => by
    cases d <;> simp only [lstsD, Option.map_eq_some_iff, reduceCtorEq] at h
    obtain ⟨l2, h1, rfl⟩ := h
    unfold Reps at q
    obtain ⟨v, r, rfl, q1, q2⟩ := q
    obtain ⟨rows, ct, e1, e2, e3⟩ := reps_lsts h1 q2
    unfold Rep at q1
    obtain ⟨b, ys, rfl, hb, _, q3⟩ := q1
    subst e1
    have hc : ∀ c ∈ b :: rows, H c = some (.lst ((fun z => if z = b then ys else ct z) c)) := fun c hm => by
      by_cases e : c = b
      · subst e; simp [hb]
      · rcases List.mem_cons.mp hm with z | z
        · exact absurd z e
        · simp [e, e2 c z]
    refine ⟨b :: rows, fun z => if z = b then ys else ct z, rfl, hc, ?_⟩
    have e4 : rows.flatMap (fun z => if z = b then ys else ct z) = rows.flatMap ct := by
      rw [List.flatMap_def, List.flatMap_def]
      congr 1
      refine List.map_congr_left fun c hm => ?_
      have h5 := hc c (by simp [hm])
      rw [e2 c hm] at h5
      injection h5 with h5
      injection h5 with h5
      exact h5.symm
    rw [List.flatten_cons, List.flatMap_cons, e4]
    refine Reps.append ?_ e3
    simpa using q3
theorem se_sumL (C : Ctx T G ps cs wf n X W) (hg : Gl X "sum") (ha : SE T X W a f) (hn : nst a = true) : SE T X W (.Call (.Name "sum" p) [a, .List [] p2] [] pos) fun ρ m => (f ρ m).bind fun x m => .of (b1 .sumL (peek m x)) m := by
  refine se_plain ((pe_callB (cr_sumL C.calm) hg (C.blt "sum" (by decide +kernel)) (by decide +kernel) (pa_cons ha.pe (pa_cons (pe_lst pa_nil) pa_nil (star_no rfl)) (star_no hn)) (by decide) (by decide) (star_no hn) (plain_args rfl)).imp
    fun σ H Q ⟨ρ, M, β, l, r, o⟩ => ⟨ρ, M, β, l, r, Out.bind o fun x m v H1 β1 hx r1 g1 o1 => ?_⟩) (fun _ => rfl)
  obtain ⟨z, e, o2⟩ := o1.of
  have sn := Seen.peek r1 hx
  generalize peek m x = y at e sn
  cases y <;> simp only [b1, Option.bind_eq_some_iff, reduceCtorEq] at e
  obtain ⟨ls, h1, h2⟩ := e
  split at h2 <;> cases h2
  rename_i hz
  obtain ⟨l', xs, rfl, hl, hq⟩ := sn.lst
  obtain ⟨rows, ct, rfl, h3, h4⟩ := reps_lsts h1 hq
  refine ⟨Nat.zero_le _, fun t ht => ?_⟩
  have r2 := r1.laid (o := .lst []) ht
  have g2 : Grow m β1 H1 m β1 (upd H1 t (.lst [])) := Grow.laid r1 ht
  have keep : ∀ b o, H1 b = some o → upd H1 t (.lst []) b = some o := fun b o e => by rw [upd_ne (ne_of_none e ht)]; exact e
  have h4' := Reps.grow r1 g2 _ _ h4
  have hlen := h4.length
  refine ⟨l', t, rows, ct, rfl, keep _ _ hl, upd_same, fun b hb => keep _ _ (h3 b hb), by rw [← hlen]; exact Nat.le_trans hz big_size, fun e0 => ?_, fun p hp => ?_⟩
  · have e1 : ls.flatten = [] := List.length_eq_zero_iff.mp (by rw [hlen, e0]; rfl)
    rw [e1] at o2
    exact o2 _ _ _ (new_lst r1 ht Reps.nil) r2 g2
  · exact o2 _ _ _ (new_lst r2 hp h4') (r2.laid hp) (g2.trans (Grow.laid r2 hp))
end
end G48
set_option Elab.async false
set_option linter.all false
set_option maxRecDepth 100000
set_option maxHeartbeats 4000000
/-! G48: sorted(..) of a list of pairs of ints, of a tuple of ints. -/
namespace G48
open PySem PySem.Spec PyProof.Rows L2
theorem leP_no {p q : Int × Int} (h : leP p q = false) : leP q p = true := by
  simp only [leP, Bool.or_eq_false_iff, Bool.and_eq_false_iff, decide_eq_false_iff_not, Bool.or_eq_true, Bool.and_eq_true, decide_eq_true_eq] at h ⊢
  omega
theorem leP_trans {p q r : Int × Int} (h : leP p q = true) (k : leP q r = true) : leP p r = true := by
  simp only [leP, Bool.or_eq_true, Bool.and_eq_true, decide_eq_true_eq] at h k ⊢
  omega
theorem leP_anti {p q : Int × Int} (h : leP p q = true) (k : leP q p = true) : p = q := by
  simp only [leP, Bool.or_eq_true, Bool.and_eq_true, decide_eq_true_eq] at h k
  obtain ⟨a, b⟩ := p
  obtain ⟨c, d⟩ := q
  simp only at h k
  rw [Prod.mk.injEq]
  omega
theorem insP_perm (x : Int × Int) : ∀ l, (insP x l).Perm (x :: l)
  | [] => .refl _
  | y :: r => by
    unfold insP
    split
    · exact .refl _
    · exact ((insP_perm x r).cons y).trans (.swap x y r)
theorem srtP_perm : ∀ l, (srtP l).Perm l
  | [] => .refl _
  | x :: r => (insP_perm x (srtP r)).trans ((srtP_perm r).cons x)
theorem insP_up (x : Int × Int) : ∀ l : List (Int × Int), l.Pairwise (fun p q => leP p q = true) → (insP x l).Pairwise (fun p q => leP p q = true)
  | [], _ => by simp [insP]
  | y :: r, h => by
    unfold insP
    rw [List.pairwise_cons] at h
    split
    · next q =>
      refine List.pairwise_cons.mpr ⟨fun z hz => ?_, List.pairwise_cons.mpr h⟩
      rcases List.mem_cons.mp hz with e | e
      · subst e; exact q
      · exact leP_trans q (h.1 z e)
    · next q =>
      refine List.pairwise_cons.mpr ⟨fun z hz => ?_, insP_up x r h.2⟩
      rcases List.mem_cons.mp ((insP_perm x r).mem_iff.mp hz) with e | e
      · subst e; exact leP_no (by simpa using q)
      · exact h.1 z e
theorem srtP_up : ∀ l, (srtP l).Pairwise (fun p q => leP p q = true)
  | [] => List.Pairwise.nil
  | x :: r => insP_up x _ (srtP_up r)
theorem upP_unique : ∀ {a b : List (Int × Int)}, a.Pairwise (fun p q => leP p q = true) → b.Pairwise (fun p q => leP p q = true) → a.Perm b → a = b
  | [], b, _, _, p => p.nil_eq
  | x :: a, [], _, _, p => absurd p.length_eq (by simp)
  | x :: a, y :: b, ha, hb, p => by
    rw [List.pairwise_cons] at ha hb
    have e : x = y := by
      have h1 : x ∈ y :: b := p.mem_iff.mp (by simp)
      have h2 : y ∈ x :: a := p.mem_iff.mpr (by simp)
      rcases List.mem_cons.mp h1 with z | z
      · exact z
      · rcases List.mem_cons.mp h2 with u | u
        · exact u.symm
        · exact leP_anti (ha.1 y u) (hb.1 x z)
    subst e
    rw [upP_unique ha.2 hb.2 (List.Perm.cons_inv p)]
/-- the pair that a value is -/
def kfP (H : Hp) (v : V) : Int × Int := match v with
  | .ref t => match H t with
    | some (.tup [.int i, .int j]) => (i, j)
    | _ => (0, 0)
  | _ => (0, 0)
section
variable {T : XT} {M : Mem} {β : Nat → Addr} {H : Hp}
theorem reps_pairs : ∀ {ds : List D} {ns : List (Int × Int)} {ys : List V}, pairsD ds = some ns → Reps T M β H ds ys → ys.map (kfP H) = ns ∧ ∀ y ∈ ys, ∃ t, y = .ref t ∧ H t = some (.tup [.int (kfP H y).1, .int (kfP H y).2])
  | [], ns, ys, h, q => by
    cases h
    unfold Reps at q
    subst q
    exact ⟨rfl, by simp⟩
  | d :: ds, ns, ys, h, q => by
    unfold pairsD at h
    split at h
    · cases ‹d :: ds = []›
    · next i j r e =>
      cases e
      obtain ⟨ns2, h1, rfl⟩ := Option.map_eq_some_iff.mp h
      unfold Reps at q
      obtain ⟨v, r', rfl, q1, q2⟩ := q
      obtain ⟨e1, e2⟩ := reps_pairs h1 q2
      unfold Rep at q1
      obtain ⟨t, xs, rfl, ht, q3⟩ := q1
      have ex : xs = [.int i, .int j] := by
        unfold Reps at q3
        obtain ⟨a, b, rfl, p1, p2⟩ := q3
        unfold Reps at p2
        obtain ⟨c, d, rfl, p3, p4⟩ := p2
        unfold Reps at p4
        unfold Rep at p1 p3
        subst p1 p3 p4
        rfl
      subst ex
      have ek : kfP H (.ref t) = (i, j) := by simp [kfP, ht]
      refine ⟨by simp [ek, e1], fun y hy => ?_⟩
      rcases List.mem_cons.mp hy with z | z
      · subst z; exact ⟨t, rfl, by rw [ek]; exact ht⟩
      · exact e2 y z
    · cases h
theorem pairs_reps : ∀ {ys : List V}, (∀ y ∈ ys, ∃ t, y = .ref t ∧ H t = some (.tup [.int (kfP H y).1, .int (kfP H y).2])) → Reps T M β H ((ys.map (kfP H)).map prD2) ys
  | [], _ => Reps.nil
  | y :: ys, h => by
    obtain ⟨t, e, ht⟩ := h y (by simp)
    refine Reps.cons ?_ (pairs_reps fun z hz => h z (by simp [hz]))
    rw [e] at ht ⊢
    exact rep_tup ht (Reps.cons rep_int (Reps.cons rep_int Reps.nil))
end
section
variable {T : XT} {X : Cx}
theorem bd_sortedP : CallR X (.builtin "sorted") (rD1 T (b1 .sortedP)) := by
  refine cr_sortedPO.imp fun xs H Q h => ?_
  obtain ⟨M, β, d, x, z, e, r, s, q, k⟩ := rD1_some h
  cases d <;> simp only [b1, Option.map_eq_some_iff, reduceCtorEq] at q
  obtain ⟨ns, q1, q2⟩ := q
  subst q2
  obtain ⟨a, ys, e1, h1, q2⟩ := s.lst
  obtain ⟨e2, e3⟩ := reps_pairs q1 q2
  refine ⟨a, ys, kfP H, by rw [e, e1], .of h1, e3, fun zs p hs hb hn => ?_⟩
  have e4 : zs.map (kfP H) = srtP ns := by
    refine upP_unique (List.pairwise_map.mpr (hs.imp fun {u v} hh => ?_)) (srtP_up ns) (((hb.perm.map (kfP H)).trans (by rw [e2])).trans (srtP_perm ns).symm)
    have := SrtO.lexB_no.mp hh
    simp only [leP, Bool.or_eq_true, Bool.and_eq_true, decide_eq_true_eq]
    omega
  have e5 : ∀ y ∈ zs, ∃ t, y = .ref t ∧ H t = some (.tup [.int (kfP H y).1, .int (kfP H y).2]) := fun y hy => e3 y (hb.perm.mem_iff.mp hy)
  have q3 := pairs_reps (T := T) (M := M) (β := β) e5
  rw [e4] at q3
  exact k _ _ (new_lst r hn q3) (r.laid hn) (Grow.laid r hn)
end
end G48
namespace G48
open PySem PySem.Spec PyProof.Rows L2
section
variable {prog : Program} {w : World} {A : Around} {E : Value → Shared → Prop} {s : Shared}
theorem collect_tupG {l : Addr} {vs : List Value} {Q : List Value → Shared → Prop} (ht : s.heap.IsTuple l vs.toArray) (hz : vs.length ≤ sizeLine)
    (h : Q vs { s with heap := (s.heap.push (seqObj "list" #[] 0)).update s.heap.objs.size (Obj.mapSeq (· ++ vs.toArray)) }) : wpAny (model prog w) A (collect (.ref l)) Q E s := by
  obtain ⟨ob, g, cl, n, dt⟩ := id ht
  unfold collect
  refine wpAny_bind (wpAny_runValue (codeAny_builtin entry_proto_collect' ?_))
  show wpAny _ _ (do again (.builtin "list.__iadd__" ⟨[← newList [], .ref l], []⟩)) _ _ s
  refine wpAny_bind (wpAny_newList (wpAny_pure ⟨Code.quiet_builtin _ (by decide +kernel), codeAny_builtin entry_list_iadd' ?_⟩))
  show wpAny _ _ (Builtin.List.listExtendWith (.ref s.heap.objs.size) (.ref l) (.ref s.heap.objs.size)) _ _ { s with heap := s.heap.push (seqObj "list" #[] 0) }
  unfold Builtin.List.listExtendWith
  have g' : (s.heap.push (seqObj "list" #[] 0)).get? l = some ob := Heap.get?_push_of_some _ g
  refine wpAny_bind (wpAny_typeOf (T := "tuple") ⟨ob, g', cl⟩ ?_)
  have tt : (Value.type "tuple" == Value.type "tuple") = true := by rfl
  rw [if_pos (by rw [tt, Bool.or_true])]
  refine wpAny_bind (listItems_at g' dt ?_)
  have own := Heap.get?_push_size s.heap (o := seqObj "list" #[] 0) rfl
  refine wpAny_bind (listItems_at (xs := #[]) (n := 0) own rfl ?_)
  rw [if_neg (by simp)]
  refine wpAny_bind (listUpdate_at (xs := #[]) (n := 0) own rfl ?_ (Nat.zero_le _) (by show (#[] ++ vs.toArray).size ≤ sizeLine + 1; simp only [Array.size_append, List.size_toArray, List.length_nil]; omega))
  refine wpAny_pure ?_
  show wpAny (model prog w) A (load s.heap.objs.size >>= fun o => match o.data with
      | .seq xs _ => pure xs.toList
      | _ => unsupported "internal:collect") Q E { s with heap := (s.heap.push (seqObj "list" #[] 0)).update s.heap.objs.size (Obj.mapSeq (· ++ vs.toArray)) }
  refine wpAny_bind (wpAny_load (get?_update_seq own _) ?_)
  show wpAny _ _ (pure ((#[] : Array Value) ++ vs.toArray).toList) Q E _
  have ev : ((#[] : Array Value) ++ vs.toArray).toList = vs := by simp
  rw [ev]
  exact wpAny_pure h
/-- sorted(t), t a tuple -/
theorem sorted_tupG {l : Addr} {vs : List Value} {ltv : Value → Value → Bool} {Q : Value → Shared → Prop} (O : SrtO.Swo ltv) (ht : s.heap.IsTuple l vs.toArray) (hz : vs.length ≤ sizeLine)
    (hS : 2 ≤ vs.length → ∀ (k : Heap) (a : Addr), k.get? a = some (seqObj "list" vs.toArray 0) → (∀ b o, s.heap.get? b = some o → b ≠ a ∧ k.get? b = some o) → SrtO.SortableO prog w A.in1.in1 { s with heap := k } a vs ltv)
    (h : ∀ out : List Value, SrtO.Srtd ltv out → SrtO.Stb ltv out vs → Q (.ref (s.heap.objs.size + 1)) { s with heap := sortedAll s.heap vs out.toArray }) :
    wpAny (model prog w) A (call (.builtin "sorted") [.ref l]) Q E s := by
  refine Calls.call_function_entry kind_sorted plain_sorted entry_sorted (args_sorted1 _) ?_
  unfold Builtin.«sorted»
  refine wpAny_bind (m := checkCount "sorted" 1 1 _) (wpAny_pure (wpAny_bind (collect_tupG ht hz (wpAny_bind (wpAny_newList ?_ hz)))))
  generalize eh : (s.heap.push (seqObj "list" #[] 0)).update s.heap.objs.size (Obj.mapSeq (· ++ vs.toArray)) = k0
  have z0 : k0.objs.size = s.heap.objs.size + 1 := by rw [← eh, Heap.size_update, size_push']
  have old : ∀ b o, s.heap.get? b = some o → k0.get? b = some o := fun b o q => by
    have lt : b < s.heap.objs.size := Heap.lt_size q
    rw [← eh, Heap.get?_update_ne _ _ _ _ (Nat.ne_of_lt lt)]
    exact Heap.get?_push_of_some _ q
  have new : (k0.push (seqObj "list" vs.toArray 0)).get? (s.heap.objs.size + 1) = some (seqObj "list" vs.toArray 0) := by
    rw [← z0]
    exact Heap.get?_push_size _ rfl
  have both : ∀ b o, s.heap.get? b = some o → b ≠ s.heap.objs.size + 1 ∧ (k0.push (seqObj "list" vs.toArray 0)).get? b = some o := fun b o q =>
    ⟨Nat.ne_of_lt (Nat.lt_succ_of_lt (Heap.lt_size q)), Heap.get?_push_of_some _ (old b o q)⟩
  show wpAny _ _ _ _ _ { s with heap := k0.push (seqObj "list" vs.toArray 0) }
  rw [z0]
  refine wpAny_bind (wpAny_holding (wpAny_call_entry slot_list_sort ⟨_, new, rfl⟩ entry_list_sort (SrtO.list_sort_ord O new hz (fun two => hS two _ _ new both) fun out hs hb => ⟨_, rfl, ?_⟩) (args_list_sort _)))
  have fin := h out hs hb
  unfold sortedAll at fin
  rw [eh] at fin
  exact wpAny_pure ⟨_, rfl, fin⟩
end
section
variable {T : XT} {X : Cx}
def rSortedTI (K : PySem.W.Frag) : List V → Hp → VK → Prop := fun vs H Q => ∃ (a : Addr) (ns : List Int), vs = [V.ref a] ∧ SqT K H a (ns.map V.int) ∧ ∀ (ms : List Int) (p : Addr), ms.Perm ns → ms.Pairwise (· ≤ ·) → H p = none → Q (.ref p) (upd H p (.lst (ms.map V.int)))
theorem cr_sortedTI : CallR X (.builtin "sorted") (rSortedTI X.K) := by
  intro pins s σ H vs us Q I r h
  obtain ⟨a, ns, rfl, hs, q⟩ := h
  obtain ⟨its, rv, pt, hz⟩ := I.tuple hs
  rw [Vals.ref1 r]
  have isI := rv.ints
  refine sorted_tupG SrtO.swo_int pt (by rw [← rv.length]; exact hz) (fun two _ _ _ _ => SrtO.ints_sortable isI two) fun out h1 h2 => ?_
  obtain ⟨k1, k2, k3⟩ := SrtO.ints_out isI h1 h2
  obtain ⟨ep, at1⟩ := PyProof.Rows.sortedAll_at s.heap its out.toArray
  have short : ((out.map SrtO.iv).map V.int).length ≤ sizeLine := by
    have e := k2.length_eq
    rw [List.length_map] at hz ⊢
    omega
  exact ⟨.ref _, upd H (s.heap.objs.size + 1) (.lst ((out.map SrtO.iv).map V.int)), I.laid (t' := s.toks) (fun _ _ => PyProof.Rows.sortedAll_old) (Nat.le_succ _) ⟨short, out, ep, vals_of_ints k1, at1⟩, rfl, q _ _ k2 k3 (I.hok.fresh (Nat.le_succ _))⟩
theorem bd_sortedT : CallR X (.builtin "sorted") (rD1 T (b1 .sortedT)) := by
  refine cr_sortedTI.imp fun xs H Q h => ?_
  obtain ⟨M, β, d, x, z, e, r, s, q, k⟩ := rD1_some h
  cases d <;> simp only [b1, Option.map_eq_some_iff, reduceCtorEq] at q
  obtain ⟨ns, q1, q2⟩ := q
  have q1 := intsD_map q1
  subst q1 q2
  obtain ⟨a, ys, e1, h1, q1⟩ := s.tup
  rw [reps_ints_eq q1] at h1
  refine ⟨a, ns, by rw [e, e1], .of h1, fun zs p hp hs hn => ?_⟩
  have : zs = srt ns := up_unique hs (srt_up ns) (hp.trans (srt_perm ns).symm)
  subst this
  exact k _ _ (new_lst r hn (reps_ints _)) (r.laid hn) (Grow.laid r hn)
end
end G48
set_option Elab.async false
set_option linter.all false
set_option maxRecDepth 100000
set_option maxHeartbeats 2000000
/-! G48: soundness of expressions. -/
namespace G48
open PySem PySem.Spec PyProof.Rows L2

def noCompL : Expr → Bool
  | .ListComp _ _ _ _ => false
  | _ => true
/-- an expression does as f says; and/or also as a rest; a comprehension also as what a name is set to -/
def SX (T : XT) (X : Cx) (W : WX) (e : Expr) (f : Env → Mem → R D) : Prop := SE T X W e f ∧ (∀ op es pos, e = .BoolOp op es pos → SB T X W op es pos f) ∧
  (noCompL e = false → ∀ (i : Nat) (y : Str) (py spos : Pos), X.N[i]? = some y → X.env.scope.names.lookup y = some .local → swapsWith e (some (.Name y py)) spos.line X.env = pure true → PS X (.Assign [.Name y py] e spos) (tAsg (rdE T W f) (gName i)))
def plainX : Expr → Bool
  | .BoolOp _ _ _ => false
  | .ListComp _ _ _ _ => false
  | _ => true
section
variable {T : XT} {X : Cx} {W : WX} {e : Expr} {f : Env → Mem → R D} {sc : Scope} {N : List Str} {fc : Str → Bool} {c : Cfg} {wf n : Nat}
theorem SX.plain (h : SE T X W e f) (hb : plainX e = true) : SX T X W e f := ⟨h, fun op es pos z => by (subst z; cases hb), fun z => by cases e <;> first | (cases z; done) | (cases hb; done)⟩
theorem SX.bool {op : BoolOp} {es : List Expr} {pos : Pos} (h : SB T X W op es pos f) : SX T X W (.BoolOp op es pos) f := ⟨⟨h.pe, h.pw.pt⟩, fun op' es' pos' z => by (cases z; exact h), fun z => by cases z⟩
theorem SX.congr {g : Env → Mem → R D} (h : SX T X W e f) (k : ∀ ρ m, g ρ m = f ρ m) : SX T X W e g := by
  have : g = f := by funext ρ m; exact k ρ m
  rw [this]; exact h
theorem isE_eq {x y : Str} (h : isE x y = true) : x = y := of_decide_eq_true h
theorem glB_ok (P : At X sc N fc) {x : Str} (h : glB sc x = true) : Gl X x := by
  unfold Gl PySem.Env.kindOf
  rw [P.sc]
  exact isK_eq h
theorem visB_ok (P : At X sc N fc) {x : Str} (h : visB sc x = true) : Vis X.env.scope x := by
  unfold visB at h
  rw [P.sc]
  simp only [Bool.or_eq_true] at h
  rcases h with (h | h) | h
  · exact .inl (isK_eq h)
  · exact .inr (.inl (isK_eq h))
  · exact .inr (.inr (isK_eq h))
theorem okN_ok {x : Str} (h : okN x = true) : (x == ("__debug__" : Str)) = false ∧ (x == ("__classdict__" : Str)) = false := by
  unfold okN at h
  simpa [Bool.and_eq_true] using h
theorem opB_ok {o : Bop} {op : Operator} (h : opB o op = true) : OpR X (binaryOp op) (rD T (bop o)) := by
  cases o <;> cases op <;> simp only [opB, Bool.false_eq_true] at h
  · exact od_add
  · exact od_sub
  · exact od_mul
  · exact od_fdiv
  · exact od_mod
  · exact od_pow
theorem copB_ok {o : Cop} {op : CmpOp} (hr : Room n X.A) (h : copB o op = true) : OpR X (compareOp op) (rD T (cop o)) := by
  cases o <;> cases op <;> simp only [copB, Bool.false_eq_true] at h
  · exact od_eq hr
  · exact od_ne hr
  · exact od_lt
  · exact od_le
  · exact od_gt
  · exact od_ge
  · exact od_mem hr
  · exact od_nmem hr
theorem se_constE {x : Expr} {d : D} {v : V} (h : PE X x (tC v)) (hr : ∀ M β H, Rep T M β H d v) (he : ∀ whole, isTrue x X.env whole = (do let v ← whole; standAt x.pos; holding [v] (truthy v))) : SE T X W x fun _ m => .ok d m := se_plain (se_const h (fun _ _ => rfl) hr) he
theorem plainIx_ok {b : Expr} (h : plainIxB b = true) : PlainIx b := by
  cases b <;> first | (exact fun _ _ => rfl) | (simp [plainIxB] at h)
theorem noSet_ok {b : Expr} {env : PySem.Env} (h : noSet b = true) : ∀ x, foldedSetIterable b env x = pure x := by
  cases b <;> first | (exact fun _ => rfl) | (simp [noSet] at h)
theorem own_map {N : List Str} {t : Tg} : (ownOf N t).map (·.2) = tgv t := by
  unfold ownOf
  rw [List.map_map]
  exact List.map_id _
theorem evEs_len {cf : Nat → List D → Mem → R D} : ∀ {es : Es} {xs : List Expr} {ρ : Env} {m m' : Mem} {ds : List D}, chkEs c N es sc fc xs = true → xs.all nst = true → evEs cf es ρ m = .ok ds m' → ds.length = xs.length
  | .nil, [], ρ, m, m', ds, h, _, e => by simp only [evEs, R.ok.injEq] at e; rw [← e.1]; rfl
  | .nil, _ :: _, ρ, m, m', ds, h, _, e => by simp [chkEs] at h
  | .cons a r, [], ρ, m, m', ds, h, _, e => by simp [chkEs] at h
  | .cons a r, x :: xs, ρ, m, m', ds, h, hn, e => by
    simp only [chkEs, Bool.and_eq_true] at h
    simp only [List.all_cons, Bool.and_eq_true] at hn
    simp only [evEs] at e
    cases q : evE cf a ρ m with
    | bad => rw [q] at e; cases e
    | exc y m1 => rw [q] at e; cases e
    | ok d m1 =>
      rw [q] at e
      simp only [R.bind_ok] at e
      cases q2 : evEs cf r ρ m1 with
      | bad => rw [q2] at e; cases e
      | exc y m1 => rw [q2] at e; cases e
      | ok ds2 m2 =>
        rw [q2] at e
        simp only [R.bind_ok, R.ok.injEq] at e
        rw [← e.1, List.length_cons, evEs_len h.2 hn.2 q2, List.length_cons]
  | .star a r, [], ρ, m, m', ds, h, _, e => by simp [chkEs] at h
  | .star a r, x :: xs, ρ, m, m', ds, h, hn, e => by
    cases x <;> first | (simp [chkEs] at h; done) | (simp [nst] at hn)
theorem bind_congr {α β : Type} {r : R α} {f g : α → Mem → R β} (h : ∀ a m', r = .ok a m' → f a m' = g a m') : r.bind f = r.bind g := by
  cases r with
  | ok a m => exact h a m rfl
  | exc x m => rfl
  | bad => rfl
theorem rdI_congr {tg it : Expr} {f g : Env → Mem → R (List D)} (h : SI T X W tg it f) (k : ∀ ρ m, f ρ m = g ρ m) : SI T X W tg it g := by
  have : f = g := by funext ρ m; exact k ρ m
  rw [← this]; exact h
theorem se_comp (C : Ctx T c.G c.ps c.cs wf n X W) (P : At X sc N fc) {tg iter elt : Expr} {ifs : List Expr} {scope : Scope} {t : Tg} {cb : Bool} {pos : Pos} {fi : Env → Mem → R (List D)} {ft : Env → Mem → R Bool} {fe : Env → Mem → R D}
    (hi : SI T X W tg iter fi) (hs : noSet iter = true) (hb : blkC N sc scope (ownOf N t) = true) (hg : chkT (relS scope sc) N (fun y => isK scope y .cell) t tg = true)
    (he : ∀ X', Ctx T c.G c.ps c.cs wf n X' noW → At X' (relS scope sc) N (fun y => isK scope y .cell) → SE T X' noW elt fe) (ht : ∀ X', Ctx T c.G c.ps c.cs wf n X' noW → At X' (relS scope sc) N (fun y => isK scope y .cell) → PTs X' ifs (rdT T noW ft)) :
    SX T X W (.ListComp elt [⟨tg, iter, ifs, 0⟩] scope pos) (fun ρ m => (fi ρ m).bind fun ds m => compEnd cb m.length (compLoop (compStep t (wipe ρ (tgv t)) ft fe) ds (m ++ [some .tmp]))) := by
  refine ⟨?_, fun op es p z => (by cases z), fun _ i y py spos hy hyl hsw => (ps_setLc C.calm C.nd hy hyl hsw hi (blkOk_by (by rw [P.nm, P.sc]; exact hb)) (fun s H Ca cl fp => tg_ok (T := T) (P.blk s H scope Ca cl fp) C.nd C.calm t tg hg) (fun s H Ca cl fp => ht _ (C.blk s H scope _ fp) (P.blk s H scope Ca cl fp))
    (fun s H Ca cl fp => (he _ (C.blk s H scope _ fp) (P.blk s H scope Ca cl fp)).pe) (noSet_ok hs)).imp fun D σ H h => lc_ask own_map h⟩
  refine se_plain ((pe_lc C.calm C.nd hi (blkOk_by (by rw [P.nm, P.sc]; exact hb)) (fun s H Ca cl fp => tg_ok (T := T) (P.blk s H scope Ca cl fp) C.nd C.calm t tg hg) (fun s H Ca cl fp => ht _ (C.blk s H scope _ fp) (P.blk s H scope Ca cl fp))
    (fun s H Ca cl fp => (he _ (C.blk s H scope _ fp) (P.blk s H scope Ca cl fp)).pe) (noSet_ok hs)).imp fun σ H Q h => lc_ask own_map h) (fun _ => rfl)
theorem se_comp2 (C : Ctx T c.G c.ps c.cs wf n X W) (P : At X sc N fc) {tg iter tg1 iter1 elt : Expr} {ifs ifs1 : List Expr} {scope : Scope} {t t1 : Tg} {pos : Pos} {fi fi1 : Env → Mem → R (List D)} {ft ft1 : Env → Mem → R Bool} {fe : Env → Mem → R D}
    (hi : SI T X W tg iter fi) (hs : noSet iter = true) (hs1 : noSet iter1 = true) (hb : blkC N sc scope (ownOf N t ++ ownOf N t1) = true) (hg : chkT (relS scope sc) N (fun y => isK scope y .cell) t tg = true) (hg1 : chkT (relS scope sc) N (fun y => isK scope y .cell) t1 tg1 = true)
    (he : ∀ X', Ctx T c.G c.ps c.cs wf n X' noW → At X' (relS scope sc) N (fun y => isK scope y .cell) → SE T X' noW elt fe) (ht : ∀ X', Ctx T c.G c.ps c.cs wf n X' noW → At X' (relS scope sc) N (fun y => isK scope y .cell) → PTs X' ifs (rdT T noW ft))
    (hi1 : ∀ X', Ctx T c.G c.ps c.cs wf n X' noW → At X' (relS scope sc) N (fun y => isK scope y .cell) → SI T X' noW tg1 iter1 fi1) (ht1 : ∀ X', Ctx T c.G c.ps c.cs wf n X' noW → At X' (relS scope sc) N (fun y => isK scope y .cell) → PTs X' ifs1 (rdT T noW ft1)) :
    SX T X W (.ListComp elt [⟨tg, iter, ifs, 0⟩, ⟨tg1, iter1, ifs1, 0⟩] scope pos) (fun ρ m => (fi ρ m).bind fun ds m => compEnd2 m.length (compLoop2 (step2 t (wipe ρ (tgv t ++ tgv t1)) ft fi1 t1 ft1 fe) ds (m ++ [some .tmp]))) := by
  have om : (ownOf N t ++ ownOf N t1).map (·.2) = tgv t ++ tgv t1 := by rw [List.map_append, own_map, own_map]
  have hv : ∀ i ∈ tgv t1, i ∈ (ownOf N t ++ ownOf N t1).map (·.2) := fun i hi => by rw [om]; exact List.mem_append_right _ hi
  refine ⟨?_, fun op es p z => (by cases z), fun _ i y py spos hy hyl hsw => (ps_setLc2 C.calm C.nd hy hyl hsw hi (blkOk_by (by rw [P.nm, P.sc]; exact hb)) hv (fun s H Ca cl fp => tg_ok (T := T) (P.blk s H scope Ca cl fp) C.nd C.calm t tg hg) (fun s H Ca cl fp => ht _ (C.blk s H scope _ fp) (P.blk s H scope Ca cl fp))
    (fun s H Ca cl fp => hi1 _ (C.blk s H scope _ fp) (P.blk s H scope Ca cl fp)) (fun s H Ca cl fp => tg_ok (T := T) (P.blk s H scope Ca cl fp) C.nd C.calm t1 tg1 hg1) (fun s H Ca cl fp => ht1 _ (C.blk s H scope _ fp) (P.blk s H scope Ca cl fp))
    (fun s H Ca cl fp => (he _ (C.blk s H scope _ fp) (P.blk s H scope Ca cl fp)).pe) (noSet_ok hs) (fun env => noSet_ok hs1)).imp fun D σ H h => lc_ask2 om h⟩
  refine se_plain ((pe_lc2 C.calm C.nd hi (blkOk_by (by rw [P.nm, P.sc]; exact hb)) hv (fun s H Ca cl fp => tg_ok (T := T) (P.blk s H scope Ca cl fp) C.nd C.calm t tg hg) (fun s H Ca cl fp => ht _ (C.blk s H scope _ fp) (P.blk s H scope Ca cl fp))
    (fun s H Ca cl fp => hi1 _ (C.blk s H scope _ fp) (P.blk s H scope Ca cl fp)) (fun s H Ca cl fp => tg_ok (T := T) (P.blk s H scope Ca cl fp) C.nd C.calm t1 tg1 hg1) (fun s H Ca cl fp => ht1 _ (C.blk s H scope _ fp) (P.blk s H scope Ca cl fp))
    (fun s H Ca cl fp => (he _ (C.blk s H scope _ fp) (P.blk s H scope Ca cl fp)).pe) (noSet_ok hs) (fun env => noSet_ok hs1)).imp fun σ H Q h => lc_ask2 om h) (fun _ => rfl)
theorem tys_ok {ts : List Ty} : ∀ {zs : List Expr}, tysB ts zs sc = true → ∃ qs : List Pos, zs = tyNames ts qs ∧ ts.length = qs.length ∧ ts.all Ty.plain = true ∧ ∀ t ∈ ts, glB sc (tyName t) = true := by
  induction ts with
  | nil => intro zs h; cases zs with
    | nil => exact ⟨[], rfl, rfl, rfl, by simp⟩
    | cons z zs => simp [tysB] at h
  | cons t ts ih =>
    intro zs h
    cases zs with
    | nil => simp [tysB] at h
    | cons z zs =>
      cases z <;> simp only [tysB, Bool.and_eq_true, Bool.false_eq_true] at h
      rename_i x p
      obtain ⟨⟨⟨h1, h2⟩, h3⟩, h4⟩ := h
      obtain ⟨qs, e1, e2, e3, e4⟩ := ih h4
      have ex := isE_eq h1
      subst ex
      refine ⟨p :: qs, by rw [e1]; rfl, by simp [e2], by simp [h3, e3], fun t' ht => ?_⟩
      rcases List.mem_cons.mp ht with z | z
      · subst z; exact h2
      · exact e4 t' z
theorem se_bad {x : Expr} : SE T X W x fun _ _ => .bad := ⟨⟨fun pins s σ H Q I ⟨ρ, M, β, l, r, o⟩ => o.elim⟩, ⟨fun pins s σ H Q I ⟨ρ, M, β, l, r, o⟩ => o.elim⟩⟩
theorem SX.bad {x : Expr} : SX T X W x fun _ _ => .bad := ⟨se_bad, fun _ _ _ _ => ⟨⟨fun pins s σ H Q I ⟨ρ, M, β, l, r, o⟩ => o.elim⟩, ⟨fun wh pins s σ H Q I ⟨ρ, M, β, l, r, o⟩ => o.elim⟩⟩, fun _ i y py spos _ _ _ => ⟨fun pins s σ H D I ⟨ρ, M, β, l, r, o⟩ => o.elim⟩⟩
theorem kwName_len : ∀ {ks : List Keyword}, ks.all (·.arg.isSome) = true → ks.length = (kwName ks).length
  | [], _ => rfl
  | ⟨nm, v, p⟩ :: ks, h => by
    simp only [List.all_cons, Bool.and_eq_true] at h
    obtain ⟨w, hw⟩ : ∃ w, nm = some w := Option.isSome_iff_exists.mp h.1
    subst hw
    have := kwName_len h.2
    unfold kwName at this ⊢
    simp [this]
theorem chk_split : ∀ {xs ys : List Expr} {es : Es}, chkEs c N es sc fc (xs ++ ys) = true → chkEs c N (takeS xs.length es) sc fc xs = true ∧ chkEs c N (dropS xs.length es) sc fc ys = true
  | [], ys, es, h => ⟨by simp [takeS, chkEs], by simpa [dropS] using h⟩
  | x :: xs, ys, .nil, h => by simp [chkEs] at h
  | x :: xs, ys, .cons e r, h => by
    simp only [List.cons_append, chkEs, Bool.and_eq_true] at h
    obtain ⟨h1, h2⟩ := chk_split h.2
    exact ⟨by simp only [List.length_cons, takeS, chkEs, Bool.and_eq_true]; exact ⟨h.1, h1⟩, by simp only [List.length_cons, dropS]; exact h2⟩
  | x :: xs, ys, .star e r, h => by
    cases x <;> simp only [List.cons_append, chkEs, Bool.and_eq_true, Bool.false_eq_true] at h
    obtain ⟨h1, h2⟩ := chk_split h.2
    exact ⟨by simp only [List.length_cons, takeS, chkEs, Bool.and_eq_true]; exact ⟨h.1, h1⟩, by simp only [List.length_cons, dropS]; exact h2⟩
end
end G48
set_option linter.all false
set_option maxRecDepth 100000
/-! G48: a list and a list put together, as a list that may change -/
namespace G48
open PySem PySem.Spec PyProof.Rows L2
/-- a list and a list, put together -/
def addL (d e : D) : Option (List D) := match d, e with
  | .lst xs, .lst ys => if xs.length + ys.length ≤ BIG then some (xs ++ ys) else none
  | _, _ => none
theorem addL_cell {d e : D} {m : Mem} : ((R.of (bop .add d e) m).bind fun x m => match x with
    | .lst ds => newCell ds m
    | _ => .bad) = (R.of (addL d e) m).bind fun ds m => newCell ds m := by
  cases d <;> cases e <;> simp only [bop, addL] <;> first | rfl | (split <;> rfl)
section
variable {T : XT} {X : Cx} {W : WX} {pos : Pos} {a b : Expr} {fa fb : Env → Mem → R D}
theorem pf_add (ha : PE X a (rdE T W fa)) (hb : PE X b (rdE T W fb)) : PE X (.BinOp a .Add b pos) (rdF T W fun ρ m => (fa ρ m).bind fun x m => (fb ρ m).bind fun y m => .of (addL (peek m x) (peek m y)) m) := by
  refine (pe_op op_cat ha hb).imp fun σ H Q ⟨ρ, M, β, l, r, o⟩ => ?_
  refine ⟨ρ, M, β, l, r, Out.bind o fun x m v H1 β1 hx r1 g1 o1 => ?_⟩
  refine ⟨ρ, m, β1, l.grow r g1, r1, Out.bind o1 fun y m2 w H2 β2 hy r2 g2 o2 => ?_⟩
  have sx := Seen.peek r2 (Rep.grow r1 g2 x v hx)
  have sy := Seen.peek r2 hy
  obtain ⟨z, e1, o3⟩ := o2.of
  generalize peek m2 x = x' at e1 sx
  generalize peek m2 y = y' at e1 sy
  cases x' <;> cases y' <;> simp only [addL, reduceCtorEq] at e1
  split at e1
  · cases e1
    obtain ⟨a, xs, e2, h1, q1⟩ := sx.lst
    obtain ⟨b, ys, e3, h2, q2⟩ := sy.lst
    have l1 := q1.length
    have l2 := q2.length
    exact ⟨a, b, xs, ys, e2, e3, h1, h2, big_line (by omega), fun p hp => o3.val r2 (q1.append q2) p hp⟩
  · cases e1
/-- a list, so many times -/
def mulL (d e : D) : Option (List D) := match d, e with
  | .lst xs, .int k => if 0 ≤ k ∧ leB k BIG = true ∧ xs.length * k.toNat ≤ BIG then some (rep xs k.toNat) else none
  | _, _ => none
theorem mulL_cell {d e : D} {m : Mem} : ((R.of (bop .mul d e) m).bind fun x m => match x with
    | .lst ds => newCell ds m
    | _ => .bad) = (R.of (mulL d e) m).bind fun ds m => newCell ds m := by
  cases d <;> cases e <;> simp only [bop, mulL] <;> first | rfl | (split <;> rfl)
theorem pf_mul (ha : PE X a (rdE T W fa)) (hb : PE X b (rdE T W fb)) : PE X (.BinOp a .Mult b pos) (rdF T W fun ρ m => (fa ρ m).bind fun x m => (fb ρ m).bind fun y m => .of (mulL (peek m x) (peek m y)) m) := by
  refine (pe_op op_rep ha hb).imp fun σ H Q ⟨ρ, M, β, l, r, o⟩ => ?_
  refine ⟨ρ, M, β, l, r, Out.bind o fun x m v H1 β1 hx r1 g1 o1 => ?_⟩
  refine ⟨ρ, m, β1, l.grow r g1, r1, Out.bind o1 fun y m2 w H2 β2 hy r2 g2 o2 => ?_⟩
  have sx := Seen.peek r2 (Rep.grow r1 g2 x v hx)
  have sy := Seen.peek r2 hy
  obtain ⟨z, e1, o3⟩ := o2.of
  generalize peek m2 x = x' at e1 sx
  generalize peek m2 y = y' at e1 sy
  cases x' <;> cases y' <;> simp only [mulL, reduceCtorEq] at e1
  split at e1
  · next hk =>
    cases e1
    obtain ⟨a, xs, e2, h1, q1⟩ := sx.lst
    have l1 := q1.length
    have k2 := leB_le.mp hk.2.1
    have kb : (BIG : Int) < 2 ^ 63 := by decide
    refine ⟨a, _, xs, e2, sy.int, h1, by omega, by omega, big_line (by rw [← l1]; exact hk.2.2), fun p hp => o3.val r2 (q1.rep _) p hp⟩
  · cases e1
end
end G48
set_option linter.all false
set_option maxRecDepth 100000
/-! G48: tuple(range(..)) -/
namespace G48
open PySem PySem.Spec PyProof.Rows L2
section
variable {T : XT} {X : Cx} {W : WX} {pos pos2 p p2 : Pos} {a b : Expr} {f g : Env → Mem → R D}
theorem rngL_V {M : Mem} {β : Nat → Addr} {H : Hp} : ∀ (n : Nat) (lo : Int) (k : Nat), Reps T M β H (rngL (lo + k) 1 n) ((List.range' k n).map fun i => V.int (lo + (i : Nat)))
  | 0, lo, k => Reps.nil
  | n + 1, lo, k => by
    have ih := rngL_V (M := M) (β := β) (H := H) n lo (k + 1)
    rw [List.range'_succ, List.map_cons, rngL]
    unfold Reps
    refine ⟨_, _, rfl, rep_int, ?_⟩
    rw [show lo + ((k + 1 : Nat) : Int) = lo + k + 1 by omega] at ih
    exact ih
theorem rngL_rgV {M : Mem} {β : Nat → Addr} {H : Hp} {i j : Int} : Reps T M β H (rngL i 1 (j - i).toNat) (rgV i j) := by
  have := rngL_V (T := T) (M := M) (β := β) (H := H) (j - i).toNat i 0
  unfold rgV
  rw [List.range_eq_range']
  simpa using this
theorem se_tupR1 (hc : X.calm = true) (hg : Gl X "tuple") (hm : X.mg "tuple" = none) (hg2 : Gl X "range") (hm2 : X.mg "range" = none) (ha : SE T X W a f) (hn : nst a = true) :
    SE T X W (.Call (.Name "tuple" p) [.Call (.Name "range" p2) [a] [] pos2] [] pos) fun ρ m => (f ρ m).bind fun x m => (R.of (rngD [x]) m).bind fun ds m => .ok (.tup ds) m := by
  refine se_plain ((pe_tupRg hc hg hm (prg_1 hg2 hm2 ha.pe (star_no hn))).imp fun σ H Q ⟨ρ, M, β, l, r, o⟩ => ?_) (fun _ => rfl)
  refine ⟨ρ, M, β, l, r, Out.bind o fun x m v H1 β1 hx r1 g1 o1 => ?_⟩
  cases x <;> simp only [rngD] at o1
  all_goals first | exact o1.elim | skip
  split at o1
  · next i h =>
    have e1 : v = .int i := by simpa [Rep] using hx
    have g1 := leB_le.mp h.1
    have g2 := leB_le.mp h.2
    have g3 : ((2 ^ 62 : Nat) : Int) = 2 ^ 62 := by decide
    have g4 : (BIG : Int) = 1000000 := rfl
    refine ⟨i, e1, ⟨by omega, by omega, by omega, by omega, by omega⟩, fun q hq => ?_⟩
    have rp := rngL_rgV (T := T) (M := m) (β := β1) (H := H1) (i := 0) (j := i)
    rw [Int.sub_zero] at rp
    exact o1 _ _ _ (new_tup r1 hq rp) (r1.laid hq) (Grow.laid r1 hq)
  · exact o1.elim
theorem se_tupR2 (hc : X.calm = true) (hg : Gl X "tuple") (hm : X.mg "tuple" = none) (hg2 : Gl X "range") (hm2 : X.mg "range" = none) (ha : SE T X W a f) (hb : SE T X W b g) (hn : nst a = true) (hn2 : nst b = true) :
    SE T X W (.Call (.Name "tuple" p) [.Call (.Name "range" p2) [a, b] [] pos2] [] pos) fun ρ m => (f ρ m).bind fun x m => (g ρ m).bind fun y m => (R.of (rngD [x, y]) m).bind fun ds m => .ok (.tup ds) m := by
  refine se_plain ((pe_tupRg hc hg hm (prg_2 hg2 hm2 ha.pe hb.pe (star_no hn) (star_no hn2) (plain_args (by simp [hn2])))).imp fun σ H Q h => ?_) (fun _ => rfl)
  refine two h fun x y m v w H2 β2 hx hy r2 o2 => ?_
  cases x <;> cases y <;> simp only [rngD] at o2
  all_goals first | exact o2.elim | skip
  split at o2
  · next i j h =>
    have e1 : v = .int i := by simpa [Rep] using hx
    have e2 : w = .int j := by simpa [Rep] using hy
    obtain ⟨k1, k2, k3, k4, k5⟩ := h
    have g1 := leB_le.mp k1
    have g2 := leB_le.mp k2
    have g3 := leB_le.mp k3
    have g4 := leB_le.mp k4
    have g5 := leB_le.mp k5
    have g6 : ((2 ^ 62 : Nat) : Int) = 2 ^ 62 := by decide
    have g7 : ((2 ^ 62 - 1 : Nat) : Int) = 2 ^ 62 - 1 := by decide
    have g8 : (BIG : Int) = 1000000 := rfl
    refine ⟨i, j, e1, e2, ⟨by omega, by omega, by omega, by omega, by omega⟩, fun q hq => ?_⟩
    exact o2 _ _ _ (new_tup r2 hq rngL_rgV) (r2.laid hq) (Grow.laid r2 hq)
  · exact o2.elim
end
end G48
set_option Elab.async false
set_option linter.all false
set_option maxRecDepth 100000
set_option maxHeartbeats 4000000
/-! G48: soundness of expressions, all of them. -/
namespace G48
open PySem PySem.Spec PyProof.Rows L2
section
variable {T : XT} {c : Cfg} {N : List Str} {wf n : Nat}
/-- positional and keyword arguments, one after the other -/
theorem evEs_split {cf : Nat → List D → Mem → R D} : ∀ (k : Nat) (es : Es) (ρ : Env) (m : Mem), evEs cf es ρ m = (evEs cf (takeS k es) ρ m).bind fun ds m => (evEs cf (dropS k es) ρ m).bind fun xs m => .ok (ds ++ xs) m
  | 0, es, ρ, m => by
    simp only [takeS, dropS, evEs, R.bind_ok, List.nil_append]
    cases evEs cf es ρ m <;> rfl
  | k + 1, .nil, ρ, m => by simp [takeS, dropS, evEs]
  | k + 1, .cons e r, ρ, m => by
    simp only [takeS, dropS, evEs]
    cases q : evE cf e ρ m with
    | bad => rfl
    | exc y m1 => rfl
    | ok d m1 =>
      simp only [R.bind_ok]
      rw [evEs_split k r ρ m1]
      cases q2 : evEs cf (takeS k r) ρ m1 with
      | bad => rfl
      | exc y m2 => rfl
      | ok ds m2 =>
        simp only [R.bind_ok]
        cases q3 : evEs cf (dropS k r) ρ m2 <;> rfl
  | k + 1, .star e r, ρ, m => by
    simp only [takeS, dropS, evEs]
    cases q : evE cf e ρ m with
    | bad => rfl
    | exc y m1 => rfl
    | ok d m1 =>
      simp only [R.bind_ok]
      cases q0 : seqD (peek m1 d) with
      | none => rfl
      | some ys =>
        simp only [R.of_some, R.bind_ok]
        rw [evEs_split k r ρ m1]
        cases q2 : evEs cf (takeS k r) ρ m1 with
        | bad => rfl
        | exc y m2 => rfl
        | ok ds m2 =>
          simp only [R.bind_ok]
          cases q3 : evEs cf (dropS k r) ρ m2 with
          | bad => rfl
          | exc y m2 => rfl
          | ok xs m3 => simp only [R.bind_ok, List.append_assoc]
theorem b1_ok {X : Cx} {W : WX} {sc : Scope} {fc : Str → Bool} {a : Expr} {f : Env → Mem → R D} {p pos : Pos} (C : Ctx T c.G c.ps c.cs wf n X W) (P : At X sc N fc) (o : B1) (hs : (o == .lenSet || o == .sortSet) = false) (hs2 : (!(o == .sumL)) = true) (hg : Gl X (b1N o)) (ha : SE T X W a f) (hn : nst a = true) :
    SE T X W (.Call (.Name (b1N o) p) [a] [] pos) fun ρ m => (f ρ m).bind fun x m => .of (b1 o (peek m x)) m := by
  cases o with
  | len => exact se_bltn C bd_len (by decide +kernel) hg (by decide +kernel) (by decide) (by decide) ha hn
  | abs => exact se_bltn C bd_abs (by decide +kernel) hg (by decide +kernel) (by decide) (by decide) ha hn
  | int => exact se_bltT C bd_int (by decide +kernel) hg (by decide +kernel) (by decide) (by decide) ha hn
  | sum => exact se_bltn C (bd_sum C.calm) (by decide +kernel) hg (by decide +kernel) (by decide) (by decide) ha hn
  | all => exact se_bltn C (bd_all C.calm) (by decide +kernel) hg (by decide +kernel) (by decide) (by decide) ha hn
  | any => exact se_bltn C (bd_any C.calm) (by decide +kernel) hg (by decide +kernel) (by decide) (by decide) ha hn
  | tuple => exact se_bltT C bd_tuple (by decide +kernel) hg (by decide +kernel) (by decide) (by decide) ha hn
  | list => exact se_bltT C bd_list (by decide +kernel) hg (by decide +kernel) (by decide) (by decide) ha hn
  | min => exact se_bltn C (bd_min C.calm C.room) (by decide +kernel) hg (by decide +kernel) (by decide) (by decide) ha hn
  | max => exact se_bltn C (bd_max C.calm C.room) (by decide +kernel) hg (by decide +kernel) (by decide) (by decide) ha hn
  | sorted => exact se_bltn C bd_sorted (by decide +kernel) hg (by decide +kernel) (by decide) (by decide) ha hn
  | lenSet => cases hs
  | sortSet => cases hs
  | sumL => cases hs2
  | sortedP => exact se_bltn C bd_sortedP (by decide +kernel) hg (by decide +kernel) (by decide) (by decide) ha hn
  | sortedT => exact se_bltn C bd_sortedT (by decide +kernel) hg (by decide +kernel) (by decide) (by decide) ha hn
end

section
variable {T : XT} {c : Cfg} {N : List Str} {wf n : Nat}
mutual
theorem sndE : ∀ (e : E) (X : Cx) (W : WX) (sc : Scope) (fc : Str → Bool) (x : Expr), Ctx T c.G c.ps c.cs wf n X W → At X sc N fc → chkE c N e sc fc x = true → SX T X W x (evE (callF (FT c.G) wf n) e)
  | .var i, X, W, sc, fc, x, C, P, h => by
    cases x <;> simp only [chkE, Bool.and_eq_true, Bool.false_eq_true] at h
    obtain ⟨⟨h1, h2⟩, h3⟩ := h
    obtain ⟨h4, h5⟩ := okN_ok h3
    exact .plain (se_plain (se_var (i := i) (pe_var (by rw [P.nm]; exact nmB_eq h1) (visB_ok P h2) h4 h5) (fun ρ m => by simp only [evE] <;> rfl)) (fun _ => rfl)) rfl
  | .int k, X, W, sc, fc, x, C, P, h => by
    cases x <;> simp only [chkE, Bool.false_eq_true] at h
    rename_i v kk pos
    cases v <;> simp only [Bool.false_eq_true, decide_eq_true_eq] at h
    subst h
    exact .plain ((se_constE pe_int (fun _ _ _ => rep_int) (fun _ => rfl)).congr fun _ _ => by simp only [evE]) rfl
  | .bl b, X, W, sc, fc, x, C, P, h => by
    cases x <;> simp only [chkE, Bool.false_eq_true] at h
    rename_i v kk pos
    cases v <;> simp only [Bool.false_eq_true, beq_iff_eq] at h
    subst h
    exact .plain ((se_constE pe_bl (fun _ _ _ => rep_bl) (fun _ => rfl)).congr fun _ _ => by simp only [evE]) rfl
  | .non, X, W, sc, fc, x, C, P, h => by
    cases x <;> simp only [chkE, Bool.false_eq_true] at h
    rename_i v kk pos
    cases v <;> simp only [Bool.false_eq_true] at h
    exact .plain ((se_constE pe_non (fun _ _ _ => rep_non) (fun _ => rfl)).congr fun _ _ => by simp only [evE]) rfl
  | .str s, X, W, sc, fc, x, C, P, h => by
    cases x <;> simp only [chkE, Bool.false_eq_true] at h
    rename_i v kk pos
    cases v <;> simp only [Bool.false_eq_true, decide_eq_true_eq] at h
    subst h
    exact .plain ((se_constE pe_str (fun _ _ _ => rep_str) (fun _ => rfl)).congr fun _ _ => by simp only [evE]) rfl
  | .gl y d, X, W, sc, fc, x, C, P, h => by
    cases x <;> simp only [chkE, Bool.and_eq_true, Bool.false_eq_true] at h
    rename_i z pos
    obtain ⟨⟨⟨h1, h2⟩, h3⟩, h4⟩ := h
    obtain ⟨q, hq, h5⟩ := List.any_eq_true.1 h4
    rw [Bool.and_eq_true] at h5
    have e1 : q.1 = z := of_decide_eq_true h5.1
    have e2 : q.2 = d := dB_eq h5.2
    obtain ⟨v, u, hm, hr, rp⟩ := C.cst q hq
    rw [e1] at hm
    rw [e2] at rp
    have h6 : (z == ("__debug__" : Str)) = false := by
      unfold okN at h3
      rw [Bool.and_eq_true] at h3
      simpa using h3.1
    exact .plain ((se_constE (pe_glob (glB_ok P h2) hm hr h6) rp (fun _ => rfl)).congr fun _ _ => by simp only [evE]) rfl
  | .bin o a b, X, W, sc, fc, x, C, P, h => by
    cases x <;> simp only [chkE, Bool.and_eq_true, Bool.false_eq_true] at h
    obtain ⟨⟨h1, h2⟩, h3⟩ := h
    exact .plain ((se_plain (se_bin (opB_ok h1) (sndE a X W sc fc _ C P h2).1.pe (sndE b X W sc fc _ C P h3).1.pe) (fun _ => rfl)).congr fun _ _ => by simp only [evE]) rfl
  | .neg a, X, W, sc, fc, x, C, P, h => by
    cases x <;> simp only [chkE, Bool.false_eq_true] at h
    rename_i op _ _
    cases op <;> simp only [Bool.false_eq_true] at h
    exact .plain ((se_neg (sndE a X W sc fc _ C P h).1).congr fun _ _ => by simp only [evE] <;> rfl) rfl
  | .not a, X, W, sc, fc, x, C, P, h => by
    cases x <;> simp only [chkE, Bool.false_eq_true] at h
    rename_i op _ _
    cases op <;> simp only [Bool.false_eq_true] at h
    exact .plain ((se_not (sndE a X W sc fc _ C P h).1).congr fun _ _ => by simp only [evE]) rfl
  | .and a b, X, W, sc, fc, x, C, P, h => by
    cases x <;> simp only [chkE, Bool.false_eq_true] at h
    rename_i op vs pos
    cases op <;> first | (simp at h; done) | skip
    cases vs with
    | nil => simp at h
    | cons a' vs =>
      cases vs with
      | nil => simp at h
      | cons b' rest =>
        simp only [Bool.and_eq_true] at h
        obtain ⟨h1, h2⟩ := h
        have ha := (sndE a X W sc fc _ C P h1).1
        have e : evE (callF (FT c.G) wf n) (.and a b) = fun ρ m => (evE (callF (FT c.G) wf n) a ρ m).bind fun x m => match truth (peek m x) with
            | some true => evE (callF (FT c.G) wf n) b ρ m
            | some false => .ok x m
            | none => .bad := by funext ρ m; simp only [evE] <;> rfl
        rw [e]
        cases rest with
        | nil => exact .bool (sb_and ha (sb_one (sndE b X W sc fc _ C P h2).1))
        | cons d r => exact .bool (sb_and ha ((sndE b X W sc fc _ C P h2).2.1 _ _ _ rfl))
  | .or a b, X, W, sc, fc, x, C, P, h => by
    cases x <;> simp only [chkE, Bool.false_eq_true] at h
    rename_i op vs pos
    cases op <;> first | (simp at h; done) | skip
    cases vs with
    | nil => simp at h
    | cons a' vs =>
      cases vs with
      | nil => simp at h
      | cons b' rest =>
        simp only [Bool.and_eq_true] at h
        obtain ⟨h1, h2⟩ := h
        have ha := (sndE a X W sc fc _ C P h1).1
        have e : evE (callF (FT c.G) wf n) (.or a b) = fun ρ m => (evE (callF (FT c.G) wf n) a ρ m).bind fun x m => match truth (peek m x) with
            | some true => .ok x m
            | some false => evE (callF (FT c.G) wf n) b ρ m
            | none => .bad := by funext ρ m; simp only [evE] <;> rfl
        rw [e]
        cases rest with
        | nil => exact .bool (sb_or ha (sb_one (sndE b X W sc fc _ C P h2).1))
        | cons d r => exact .bool (sb_or ha ((sndE b X W sc fc _ C P h2).2.1 _ _ _ rfl))
  | .cmp o a b, X, W, sc, fc, x, C, P, h => by
    unfold chkE at h
    split at h
    · simp only [Bool.and_eq_true, Bool.not_eq_true'] at h
      obtain ⟨⟨⟨h1, h2⟩, h3⟩, h4⟩ := h
      exact .plain ((se_cmp2 (copB_ok C.room h1) (fun _ _ _ q => cop_bl q) (sndE a X W sc fc _ C P h2).1 (sndE b X W sc fc _ C P h3).1 h4).congr fun _ _ => by simp only [evE]) rfl
    · cases h
  | .chain o o2 a b d, X, W, sc, fc, x, C, P, h => by
    unfold chkE at h
    split at h
    · simp only [Bool.and_eq_true, Bool.not_eq_true'] at h
      obtain ⟨⟨⟨⟨⟨h1, h2⟩, h3⟩, h4⟩, h5⟩, h6⟩ := h
      exact .plain ((se_chain (copB_ok C.room h1) (copB_ok C.room h2) (fun _ _ _ q => cop_bl q) (fun _ _ _ q => cop_bl q) (sndE a X W sc fc _ C P h3).1 (sndE b X W sc fc _ C P h4).1 (sndE d X W sc fc _ C P h5).1 h6).congr fun _ _ => by simp only [evE] <;> rfl) rfl
    · cases h
  | .isN a, X, W, sc, fc, x, C, P, h => by
    unfold chkE at h
    split at h
    · exact .plain ((se_isN (sndE a X W sc fc _ C P h).1).congr fun _ _ => by simp only [evE]) rfl
    · cases h
  | .notN a, X, W, sc, fc, x, C, P, h => by
    unfold chkE at h
    split at h
    · exact .plain ((se_notN (sndE a X W sc fc _ C P h).1).congr fun _ _ => by simp only [evE]) rfl
    · cases h
  | .ife d a b, X, W, sc, fc, x, C, P, h => by
    cases x <;> simp only [chkE, Bool.and_eq_true, Bool.false_eq_true] at h
    obtain ⟨⟨h1, h2⟩, h3⟩ := h
    exact .plain ((se_ife (sndE d X W sc fc _ C P h1).1 (sndE a X W sc fc _ C P h2).1 (sndE b X W sc fc _ C P h3).1).congr fun _ _ => by simp only [evE]) rfl
  | .tup es, X, W, sc, fc, x, C, P, h => by
    cases x <;> simp only [chkE, Bool.false_eq_true] at h
    exact .plain ((se_tup (sndEs es X W sc fc _ C P h)).congr fun _ _ => by simp only [evE]) rfl
  | .lst es, X, W, sc, fc, x, C, P, h => by
    cases x <;> simp only [chkE, Bool.false_eq_true] at h
    refine .plain ((se_plain (fresh_lst (pf_lst (sndEs es X W sc fc _ C P h))) (fun _ => rfl)).congr fun ρ m => ?_) rfl
    simp only [evE]
    cases evEs (callF (FT c.G) wf n) es ρ m with
    | ok ds m1 => simp only [R.bind_ok]; split <;> rfl
    | exc y m1 => rfl
    | bad => rfl
  | .cel es, X, W, sc, fc, x, C, P, h => by
    cases x <;> simp only [chkE, Bool.false_eq_true] at h
    refine .plain ((se_plain (fresh_cell (pf_lst (sndEs es X W sc fc _ C P h))) (fun _ => rfl)).congr fun ρ m => ?_) rfl
    simp only [evE]
    cases evEs (callF (FT c.G) wf n) es ρ m with
    | ok ds m1 => simp only [R.bind_ok]; split <;> rfl
    | exc y m1 => rfl
    | bad => rfl
  | .ix a i, X, W, sc, fc, x, C, P, h => by
    cases x <;> simp only [chkE, Bool.and_eq_true, Bool.false_eq_true] at h
    obtain ⟨⟨h1, h2⟩, h3⟩ := h
    exact .plain ((se_ix (sndE a X W sc fc _ C P h1).1 (sndE i X W sc fc _ C P h2).1 (plainIx_ok h3) (fun _ => rfl)).congr fun _ _ => by simp only [evE]) rfl
  | .slice a lo hi, X, W, sc, fc, x, C, P, h => by
    unfold chkE at h
    split at h
    · next a' lo' hi' p1 p2 =>
      simp only [Bool.and_eq_true] at h
      obtain ⟨⟨⟨⟨h1, h2⟩, h3⟩, h4⟩, h5⟩ := h
      exact .plain ((se_slice (sndE a X W sc fc _ C P h1).1 (sndO lo X W sc fc lo' C P h2 h4) (sndO hi X W sc fc hi' C P h3 h5)).congr fun _ _ => by simp only [evE]) rfl
    · cases h
  | .rev a, X, W, sc, fc, x, C, P, h => by
    unfold chkE at h
    split at h
    · simp only [Bool.and_eq_true, decide_eq_true_eq] at h
      obtain ⟨h1, h2⟩ := h
      subst h1
      exact .plain ((se_rev (sndE a X W sc fc _ C P h2).1).congr fun _ _ => by simp only [evE]) rfl
    · cases h
  | .call f es, X, W, sc, fc, x, C, P, h => by
    unfold chkE at h
    split at h
    · next y p xs pos =>
      simp only [Bool.and_eq_true] at h
      obtain ⟨⟨⟨h1, h2⟩, h3⟩, h4⟩ := h
      split at h1
      · next g hg =>
        simp only [Bool.and_eq_true] at h1
        have ey := isE_eq h1.1
        subst ey
        have hd := (okN_ok h1.2).1
        have hs := sndEs es X W sc fc _ C P h3
        cases xs with
        | nil =>
          cases es with
          | nil => exact .plain ((se_call0 C hg (glB_ok P h2) hd).congr fun _ _ => by simp only [evE, evEs]) rfl
          | cons _ _ => simp [chkEs] at h3
          | star _ _ => simp [chkEs] at h3
        | cons z zs => exact .plain ((se_call C hg (glB_ok P h2) hd hs h4).congr fun _ _ => by simp only [evE]) rfl
      · cases h1
    · cases h
  | .callA f es arr, X, W, sc, fc, x, C, P, h => by
    unfold chkE at h
    split at h
    · next y p xs ks pos =>
      simp only [Bool.and_eq_true, Bool.not_eq_true'] at h
      obtain ⟨⟨⟨⟨⟨⟨⟨h1, h2⟩, h3⟩, h4⟩, h5⟩, h6⟩, h7⟩, h8⟩ := h
      split at h1
      · next g hg =>
        simp only [Bool.and_eq_true] at h1
        have ey := isE_eq h1.1
        subst ey
        have hd := (okN_ok h1.2).1
        unfold patB at h7
        rw [List.any_eq_true] at h7
        obtain ⟨q, hq, h7⟩ := h7
        simp only [Bool.and_eq_true, decide_eq_true_eq] at h7
        obtain ⟨⟨⟨q1, q2⟩, q3⟩, q4⟩ := h7
        have q4 := arB_eq q4
        have hk := sndK es X W sc fc xs ks C P h3 h5
        obtain ⟨hc1, hc2⟩ := chk_split h3
        have h5' : (ks.map (·.value)).all nst = true := by rw [List.all_map]; exact h5
        have hl2 : ∀ ρ m ds m', evEs (callF (FT c.G) wf n) (dropS xs.length es) ρ m = .ok ds m' → ds.length = ks.length := fun ρ m ds m' e => by rw [evEs_len hc2 h5' e, List.length_map]
        have hl1 : ∀ ρ m ds m', evEs (callF (FT c.G) wf n) (takeS xs.length es) ρ m = .ok ds m' → ds.length = xs.length := fun ρ m ds m' e => evEs_len hc1 h4 e
        have ev : ∀ ρ m, evE (callF (FT c.G) wf n) (.callA f es arr) ρ m = (evEs (callF (FT c.G) wf n) (takeS xs.length es) ρ m).bind fun ds m => (evEs (callF (FT c.G) wf n) (dropS xs.length es) ρ m).bind fun zs m => (R.of (arrange q.arr (ds ++ zs)) m).bind fun ds m => callF (FT c.G) wf n f ds m := fun ρ m => by
          simp only [evE]
          rw [evEs_split xs.length es ρ m, q4]
          cases evEs (callF (FT c.G) wf n) (takeS xs.length es) ρ m with
          | bad => rfl
          | exc y m1 => rfl
          | ok ds m1 =>
            simp only [R.bind_ok]
            cases evEs (callF (FT c.G) wf n) (dropS xs.length es) ρ m1 <;> rfl
        have kl : ks.length = q.ks.length := by rw [q3]; exact kwName_len h6
        cases xs with
        | nil =>
          refine .plain ((se_callK0 C hq q1 hg (glB_ok P h2) hd (by rw [q2]; rfl) hk.2 h6 q3.symm (fun ρ m ds m' e => by rw [hl2 ρ m ds m' e, kl])).congr fun ρ m => ?_) rfl
          rw [ev]
          simp only [List.length_nil, takeS, evEs, R.bind_ok, List.nil_append]
        | cons z zs =>
          refine .plain ((se_callK C hq q1 hg (glB_ok P h2) hd hk.1 h4 hk.2 h6 q3.symm (fun ρ m ds m' e => by rw [hl1 ρ m ds m' e, q2]) (fun ρ m ds m' e => by rw [hl2 ρ m ds m' e, kl])).congr fun ρ m => ?_) rfl
          rw [ev]
      · cases h1
    · cases h
  | .b1 f a, X, W, sc, fc, x, C, P, h => by
    unfold chkE at h
    split at h
    · simp only [Bool.and_eq_true, beq_iff_eq] at h
      obtain ⟨⟨⟨⟨h0, h1⟩, h2⟩, h3⟩, h4⟩ := h
      have ey := isE_eq h1
      subst ey h0
      exact .plain ((se_sumL C (glB_ok P h2) (sndE a X W sc fc _ C P h3).1 h4).congr fun _ _ => by simp only [evE]) rfl
    · simp only [Bool.and_eq_true] at h
      obtain ⟨⟨⟨h0, h1⟩, h2⟩, h3⟩ := h
      have ey := isE_eq h1
      subst ey
      split at h3
      · next hf =>
        split at h3
        · simp only [Bool.and_eq_true] at h3
          obtain ⟨⟨⟨k1, k2⟩, k3⟩, k4⟩ := h3
          have ez := isE_eq k1
          subst ez
          simp only [Bool.or_eq_true, beq_iff_eq] at hf
          rcases hf with rfl | rfl
          · exact .plain ((se_lenSet C (glB_ok P h2) (glB_ok P k2) (sndE a X W sc fc _ C P k3).1 k4).congr fun _ _ => by simp only [evE]) rfl
          · exact .plain ((se_sortSet C (glB_ok P h2) (glB_ok P k2) (sndE a X W sc fc _ C P k3).1 k4).congr fun _ _ => by simp only [evE]) rfl
        · cases h3
      · next hf =>
        simp only [Bool.and_eq_true] at h3
        exact .plain ((b1_ok C P f (by simpa using hf) h0 (glB_ok P h2) (sndE a X W sc fc _ C P h3.1).1 h3.2).congr fun _ _ => by simp only [evE]) rfl
    · cases h
  | .min2 a b, X, W, sc, fc, x, C, P, h => by
    unfold chkE at h
    split at h
    · simp only [Bool.and_eq_true] at h
      obtain ⟨⟨⟨⟨⟨h1, h2⟩, h3⟩, h4⟩, h5⟩, h6⟩ := h
      have ey := isE_eq h1
      subst ey
      exact .plain ((se_min2 C (glB_ok P h2) (sndE a X W sc fc _ C P h3).1 (sndE b X W sc fc _ C P h4).1 ⟨h5, h6⟩).congr fun _ _ => by simp only [evE] <;> rfl) rfl
    · cases h
  | .max2 a b, X, W, sc, fc, x, C, P, h => by
    unfold chkE at h
    split at h
    · simp only [Bool.and_eq_true] at h
      obtain ⟨⟨⟨⟨⟨h1, h2⟩, h3⟩, h4⟩, h5⟩, h6⟩ := h
      have ey := isE_eq h1
      subst ey
      exact .plain ((se_max2 C (glB_ok P h2) (sndE a X W sc fc _ C P h3).1 (sndE b X W sc fc _ C P h4).1 ⟨h5, h6⟩).congr fun _ _ => by simp only [evE] <;> rfl) rfl
    · cases h
  | .isin a ts, X, W, sc, fc, x, C, P, h => by
    unfold chkE at h
    split at h
    · simp only [Bool.and_eq_true] at h
      obtain ⟨⟨⟨⟨h1, h2⟩, h3⟩, h4⟩, h5⟩ := h
      have ey := isE_eq h1
      subst ey
      split at h5
      · next t =>
        simp only [Bool.and_eq_true] at h5
        have ez := isE_eq h5.1.1
        subst ez
        cases hp : t.plain with
        | true => exact .plain ((se_isin1 C hp (glB_ok P h2) (glB_ok P h5.1.2) (sndE a X W sc fc _ C P h3).1 h4).congr fun _ _ => by simp only [evE]) rfl
        | false =>
          have ht : t = .valErr ∨ t = .lookErr := by
            have := h5.2
            rw [hp] at this
            simpa using this
          exact .plain ((se_isinX C ht (glB_ok P h2) (glB_ok P h5.1.2) (sndE a X W sc fc _ C P h3).1 h4).congr fun _ _ => by simp only [evE]) rfl
      · cases h5
    · simp only [Bool.and_eq_true, decide_eq_true_eq] at h
      obtain ⟨⟨⟨⟨⟨h1, h2⟩, h3⟩, h4⟩, h5⟩, h6⟩ := h
      have ey := isE_eq h1
      subst ey
      obtain ⟨qs, e1, e2, e3, e4⟩ := tys_ok h5
      subst e1
      exact .plain ((se_isinT C e2 h6 e3 (glB_ok P h2) (fun t ht => glB_ok P (e4 t ht)) (sndE a X W sc fc _ C P h3).1 h4).congr fun _ _ => by simp only [evE]) rfl
    · cases h
  | .seqI t (.zip es), X, W, sc, fc, x, C, P, h => by
    unfold chkE at h
    split at h
    · simp only [Bool.and_eq_true] at h
      obtain ⟨⟨⟨⟨⟨h1, h2⟩, h3⟩, h4⟩, h5⟩, h6⟩ := h
      subst h1
      have ey := isE_eq h2
      subst ey
      unfold chkI at h6
      split at h6
      · simp only [Bool.and_eq_true] at h6
        obtain ⟨⟨⟨k1, k2⟩, k3⟩, k4⟩ := h6
        have ez := isE_eq k1
        subst ez
        exact .plain ((se_tupZ C.calm (glB_ok P h3) (C.blt "tuple" (by decide +kernel)) (pz_zip (glB_ok P k2) (C.blt "zip" (by decide +kernel)) (sndEs es X W sc fc _ C P k3) k4) h5).congr fun _ _ => by simp only [evE, evI, if_true]) rfl
      · cases h6
    · cases h
  | .seqI t (.zipS e), X, W, sc, fc, x, C, P, h => by
    unfold chkE at h
    split at h
    · simp only [Bool.and_eq_true] at h
      obtain ⟨⟨⟨⟨⟨h1, h2⟩, h3⟩, h4⟩, h5⟩, h6⟩ := h
      subst h1
      have ey := isE_eq h2
      subst ey
      unfold chkI at h6
      split at h6
      · simp only [Bool.and_eq_true] at h6
        obtain ⟨⟨k1, k2⟩, k3⟩ := h6
        have ez := isE_eq k1
        subst ez
        exact .plain ((se_tupZ C.calm (glB_ok P h3) (C.blt "tuple" (by decide +kernel)) (pz_zipS (glB_ok P k2) (C.blt "zip" (by decide +kernel)) (sndE e X W sc fc _ C P k3).1) h5).congr fun _ _ => by simp only [evE, evI, if_true]) rfl
      · cases h6
    · cases h
  | .seqI t (.of _), X, W, sc, fc, x, C, P, h => by
    unfold chkE at h
    split at h
    · simp [zipI] at h
    · cases h
  | .seqI t (.rng .nil), X, W, sc, fc, x, C, P, h => by
    unfold chkE at h
    split at h
    · simp [zipI] at h
    · cases h
  | .seqI t (.rng (.star _ _)), X, W, sc, fc, x, C, P, h => by
    unfold chkE at h
    split at h
    · simp [zipI] at h
    · cases h
  | .seqI t (.rng (.cons e .nil)), X, W, sc, fc, x, C, P, h => by
    unfold chkE at h
    split at h
    · simp only [Bool.and_eq_true] at h
      obtain ⟨⟨⟨⟨⟨h1, h2⟩, h3⟩, h4⟩, h5⟩, h6⟩ := h
      subst h1
      have ey := isE_eq h2
      subst ey
      unfold chkI at h6
      split at h6
      · simp only [Bool.and_eq_true] at h6
        obtain ⟨⟨⟨⟨k1, k2⟩, k3⟩, k4⟩, k5⟩ := h6
        have ez := isE_eq k1
        subst ez
        unfold chkEs at k3
        split at k3
        · simp only [Bool.and_eq_true] at k3
          obtain ⟨⟨n1, c1⟩, c2⟩ := k3
          unfold chkEs at c2
          split at c2
          · refine .plain ((se_tupR1 C.calm (glB_ok P h3) (C.blt "tuple" (by decide +kernel)) (glB_ok P k2) (C.blt "range" (by decide +kernel)) (sndE e X W sc fc _ C P c1).1 n1).congr fun ρ m => ?_) rfl
            simp only [evE, evI, evEs]
            cases evE (callF (FT c.G) wf n) e ρ m <;> rfl
          · cases c2
        · cases k3
      · cases h6
    · cases h
  | .seqI t (.rng (.cons _ (.star _ _))), X, W, sc, fc, x, C, P, h => by
    unfold chkE at h
    split at h
    · simp [zipI] at h
    · cases h
  | .seqI t (.rng (.cons e (.cons e2 .nil))), X, W, sc, fc, x, C, P, h => by
    unfold chkE at h
    split at h
    · simp only [Bool.and_eq_true] at h
      obtain ⟨⟨⟨⟨⟨h1, h2⟩, h3⟩, h4⟩, h5⟩, h6⟩ := h
      subst h1
      have ey := isE_eq h2
      subst ey
      unfold chkI at h6
      split at h6
      · simp only [Bool.and_eq_true] at h6
        obtain ⟨⟨⟨⟨k1, k2⟩, k3⟩, k4⟩, k5⟩ := h6
        have ez := isE_eq k1
        subst ez
        unfold chkEs at k3
        split at k3
        · simp only [Bool.and_eq_true] at k3
          obtain ⟨⟨n1, c1⟩, c2⟩ := k3
          unfold chkEs at c2
          split at c2
          · simp only [Bool.and_eq_true] at c2
            obtain ⟨⟨n2, d1⟩, d2⟩ := c2
            unfold chkEs at d2
            split at d2
            · refine .plain ((se_tupR2 C.calm (glB_ok P h3) (C.blt "tuple" (by decide +kernel)) (glB_ok P k2) (C.blt "range" (by decide +kernel)) (sndE e X W sc fc _ C P c1).1 (sndE e2 X W sc fc _ C P d1).1 n1 n2).congr fun ρ m => ?_) rfl
              simp only [evE, evI, evEs]
              cases evE (callF (FT c.G) wf n) e ρ m with
              | bad => rfl
              | exc y m1 => rfl
              | ok d m1 =>
                simp only [R.bind_ok]
                cases evE (callF (FT c.G) wf n) e2 ρ m1 <;> rfl
            · cases d2
          · cases c2
        · cases k3
      · cases h6
    · cases h
  | .seqI t (.rng (.cons _ (.cons _ (.cons _ _)))), X, W, sc, fc, x, C, P, h => by
    unfold chkE at h
    split at h
    · simp [zipI] at h
    · cases h
  | .seqI t (.rng (.cons _ (.cons _ (.star _ _)))), X, W, sc, fc, x, C, P, h => by
    unfold chkE at h
    split at h
    · simp [zipI] at h
    · cases h
  | .seqI t (.enum _), X, W, sc, fc, x, C, P, h => by
    unfold chkE at h
    split at h
    · simp [zipI] at h
    · cases h
  | .seqI t (.enumZip _), X, W, sc, fc, x, C, P, h => by
    unfold chkE at h
    split at h
    · simp [zipI] at h
    · cases h
  | .comp cb e t i fs, X, W, sc, fc, x, C, P, h => by
    unfold chkE at h
    split at h
    · next elt tg iter ifs as scope pos =>
      simp only [Bool.and_eq_true, decide_eq_true_eq] at h
      obtain ⟨⟨⟨⟨⟨⟨h0, h1⟩, h2⟩, h3⟩, h4⟩, h5⟩, h6⟩ := h
      subst h0
      have hi := sndI i X W sc fc tg iter C P h2
      cases fs with
      | nil =>
        have ei : ifs = [] := by
          cases ifs with
          | nil => rfl
          | cons _ _ => simp [chkEs] at h6
        subst ei
        refine SX.congr (se_comp (cb := cb) (ft := fun _ m => .ok true m) (fe := evE (callF (FT c.G) wf n) e) C P hi h1 h3 h4 (fun X' C' P' => (sndE e X' noW _ _ _ C' P' h5).1) (fun X' C' P' => ⟨fun pins s σ H Q I ⟨ρ, M, β, l, r, o⟩ => pts_nil.run pins s σ H Q I (o true H β rfl r Grow.refl)⟩)) fun ρ m => ?_
        simp only [evE]
        rfl
      | cons f r =>
        cases r with
        | nil =>
          obtain ⟨fx, ei⟩ : ∃ fx, ifs = [fx] := by
            cases ifs with
            | nil => simp [chkEs] at h6
            | cons a r =>
              cases r with
              | nil => exact ⟨a, rfl⟩
              | cons _ _ => simp [chkEs] at h6
          subst ei
          have h6 : chkE c N f (relS scope sc) (fun y => isK scope y .cell) fx = true := by
            simp only [chkEs, Bool.and_eq_true] at h6; exact h6.1.2
          refine SX.congr (se_comp (cb := cb) (ft := fun ρ m => tst (evE (callF (FT c.G) wf n) f ρ m)) (fe := evE (callF (FT c.G) wf n) e) C P hi h1 h3 h4 (fun X' C' P' => (sndE e X' noW _ _ _ C' P' h5).1) (fun X' C' P' => pts_one (sndE f X' noW _ _ _ C' P' h6).1.pt)) fun ρ m => ?_
          simp only [evE]
          rfl
        | cons _ _ => exact SX.bad.congr fun _ _ => by simp only [evE]
        | star _ _ => exact SX.bad.congr fun _ _ => by simp only [evE]
      | star _ _ => exact SX.bad.congr fun _ _ => by simp only [evE]
    · cases h
  | .comp2 e t i fs t1 i1 fs1, X, W, sc, fc, x, C, P, h => by
    unfold chkE at h
    split at h
    · next elt tg iter ifs as tg1 iter1 ifs1 as1 scope pos =>
      simp only [Bool.and_eq_true, decide_eq_true_eq] at h
      obtain ⟨⟨⟨⟨⟨⟨⟨⟨⟨⟨⟨h0, h01⟩, h1⟩, h11⟩, h2⟩, h3⟩, h4⟩, h41⟩, h5⟩, h6⟩, h7⟩, h8⟩ := h
      subst h0 h01
      refine SX.congr (se_comp2 (ft := evT (callF (FT c.G) wf n) fs) (ft1 := evT (callF (FT c.G) wf n) fs1) (fi1 := evI (callF (FT c.G) wf n) i1) (fe := evE (callF (FT c.G) wf n) e) C P (sndI i X W sc fc tg iter C P h2) h1 h11 h3 h4 h41 (fun X' C' P' => (sndE e X' noW _ _ _ C' P' h5).1) (fun X' C' P' => sndT fs X' noW _ _ _ C' P' h6)
        (fun X' C' P' => sndI i1 X' noW _ _ _ _ C' P' h7) (fun X' C' P' => sndT fs1 X' noW _ _ _ C' P' h8)) fun ρ m => ?_
      simp only [evE]
      rfl
    · cases h
  | .cellOf a, X, W, sc, fc, x, C, P, h => by
    unfold chkE at h
    split at h
    · next e =>
      split at h
      · simp only [Bool.and_eq_true] at h
        obtain ⟨⟨⟨h1, h2⟩, h3⟩, h4⟩ := h
        have ey := isE_eq h1
        subst ey
        refine .plain ((se_plain (fresh_cell (pf_list C (glB_ok P h2) (sndE e X W sc fc _ C P h3).1 h4)) (fun _ => rfl)).congr fun ρ m => ?_) rfl
        simp only [evE]
        cases evE (callF (FT c.G) wf n) e ρ m with
        | bad => rfl
        | exc y m1 => rfl
        | ok d m1 =>
          simp only [R.bind_ok, b1]
          cases seqD (peek m1 d) <;> rfl
      · cases h
    · next e1 e2 =>
      split at h
      · simp only [Bool.and_eq_true] at h
        obtain ⟨h1, h2⟩ := h
        refine .plain ((se_plain (fresh_cell (pf_add (sndE e1 X W sc fc _ C P h1).1.pe (sndE e2 X W sc fc _ C P h2).1.pe)) (fun _ => rfl)).congr fun ρ m => ?_) rfl
        simp only [evE]
        cases evE (callF (FT c.G) wf n) e1 ρ m with
        | bad => rfl
        | exc y m1 => rfl
        | ok d m1 =>
          simp only [R.bind_ok]
          cases evE (callF (FT c.G) wf n) e2 ρ m1 with
          | bad => rfl
          | exc y m2 => rfl
          | ok d2 m2 =>
            simp only [R.bind_ok]
            exact addL_cell
      · cases h
    · next e1 e2 =>
      split at h
      · simp only [Bool.and_eq_true] at h
        obtain ⟨h1, h2⟩ := h
        refine .plain ((se_plain (fresh_cell (pf_mul (sndE e1 X W sc fc _ C P h1).1.pe (sndE e2 X W sc fc _ C P h2).1.pe)) (fun _ => rfl)).congr fun ρ m => ?_) rfl
        simp only [evE]
        cases evE (callF (FT c.G) wf n) e1 ρ m with
        | bad => rfl
        | exc y m1 => rfl
        | ok d m1 =>
          simp only [R.bind_ok]
          cases evE (callF (FT c.G) wf n) e2 ρ m1 with
          | bad => rfl
          | exc y m2 => rfl
          | ok d2 m2 =>
            simp only [R.bind_ok]
            exact mulL_cell
      · cases h
    · cases h
  | .attr a f, X, W, sc, fc, x, C, P, h => by simp [chkE] at h
theorem sndT : ∀ (es : Es) (X : Cx) (W : WX) (sc : Scope) (fc : Str → Bool) (xs : List Expr), Ctx T c.G c.ps c.cs wf n X W → At X sc N fc → chkEs c N es sc fc xs = true → PTs X xs (rdT T W (evT (callF (FT c.G) wf n) es))
  | .nil, X, W, sc, fc, xs, C, P, h => by
    cases xs with
    | nil => exact ⟨fun pins s σ H Q I ⟨ρ, M, β, l, r, o⟩ => pts_nil.run pins s σ H Q I (by simp only [evT] at o; exact o true H β rfl r Grow.refl)⟩
    | cons _ _ => simp [chkEs] at h
  | .cons f .nil, X, W, sc, fc, xs, C, P, h => by
    cases xs with
    | nil => simp [chkEs] at h
    | cons a r =>
      cases r with
      | nil =>
        simp only [chkEs, Bool.and_eq_true] at h
        have := pts_one (sndE f X W sc fc a C P h.1.2).1.pt
        have e : evT (callF (FT c.G) wf n) (.cons f .nil) = fun ρ m => tst (evE (callF (FT c.G) wf n) f ρ m) := by funext ρ m; simp only [evT]
        rw [e]; exact this
      | cons _ _ => simp [chkEs] at h
  | .cons _ (.cons _ _), X, W, sc, fc, xs, C, P, h => ⟨fun pins s σ H Q I ⟨ρ, M, β, l, r, o⟩ => by simp only [evT] at o; exact o.elim⟩
  | .cons _ (.star _ _), X, W, sc, fc, xs, C, P, h => ⟨fun pins s σ H Q I ⟨ρ, M, β, l, r, o⟩ => by simp only [evT] at o; exact o.elim⟩
  | .star _ _, X, W, sc, fc, xs, C, P, h => ⟨fun pins s σ H Q I ⟨ρ, M, β, l, r, o⟩ => by simp only [evT] at o; exact o.elim⟩
theorem sndEs : ∀ (es : Es) (X : Cx) (W : WX) (sc : Scope) (fc : Str → Bool) (xs : List Expr), Ctx T c.G c.ps c.cs wf n X W → At X sc N fc → chkEs c N es sc fc xs = true → SA T X W xs (evEs (callF (FT c.G) wf n) es)
  | .nil, X, W, sc, fc, xs, C, P, h => by
    cases xs with
    | nil => exact sa_nil
    | cons _ _ => simp [chkEs] at h
  | .cons e r, X, W, sc, fc, xs, C, P, h => by
    cases xs with
    | nil => simp [chkEs] at h
    | cons x xs =>
      simp only [chkEs, Bool.and_eq_true] at h
      exact sa_cons (sndE e X W sc fc _ C P h.1.2).1 (sndEs r X W sc fc _ C P h.2) h.1.1
  | .star e r, X, W, sc, fc, xs, C, P, h => by
    cases xs with
    | nil => simp [chkEs] at h
    | cons x xs =>
      cases x <;> simp only [chkEs, Bool.and_eq_true, Bool.false_eq_true] at h
      exact sa_star (sndE e X W sc fc _ C P h.1).1 (sndEs r X W sc fc _ C P h.2)
theorem sndO : ∀ (es : Es) (X : Cx) (W : WX) (sc : Scope) (fc : Str → Bool) (xs : Option Expr), Ctx T c.G c.ps c.cs wf n X W → At X sc N fc → chkEs c N es sc fc xs.toList = true → xs.toList.all nst = true → SO T X W xs (evEs (callF (FT c.G) wf n) es)
  | .nil, X, W, sc, fc, none, C, P, h, _ => so_none
  | .cons _ _, X, W, sc, fc, none, C, P, h, _ => by simp [chkEs] at h
  | .star _ _, X, W, sc, fc, none, C, P, h, _ => by simp [chkEs] at h
  | .nil, X, W, sc, fc, some x, C, P, h, _ => by simp [chkEs] at h
  | .cons e r, X, W, sc, fc, some x, C, P, h, _ => by
    simp only [Option.toList, chkEs, Bool.and_eq_true] at h
    cases r with
    | nil => exact so_some (sndE e X W sc fc _ C P h.1.2).1
    | cons _ _ => simp [chkEs] at h
    | star _ _ => simp [chkEs] at h
  | .star e r, X, W, sc, fc, some x, C, P, h, hn => by
    cases x <;> first | (simp [chkEs] at h; done) | (simp [nst] at hn)
theorem sndK : ∀ (es : Es) (X : Cx) (W : WX) (sc : Scope) (fc : Str → Bool) (xs : List Expr) (ks : List Keyword), Ctx T c.G c.ps c.cs wf n X W → At X sc N fc → chkEs c N es sc fc (xs ++ ks.map (·.value)) = true → ks.all (fun k => nst k.value) = true →
    SA T X W xs (evEs (callF (FT c.G) wf n) (takeS xs.length es)) ∧ SK T X W ks (evEs (callF (FT c.G) wf n) (dropS xs.length es))
  | .nil, X, W, sc, fc, [], [], C, P, h, hn => ⟨sa_nil, sk_nil⟩
  | .nil, X, W, sc, fc, [], _ :: _, C, P, h, hn => by simp [chkEs] at h
  | .nil, X, W, sc, fc, _ :: _, _, C, P, h, hn => by simp [chkEs] at h
  | .cons e r, X, W, sc, fc, [], [], C, P, h, hn => by simp [chkEs] at h
  | .cons e r, X, W, sc, fc, [], ⟨nm, v, kp⟩ :: ks, C, P, h, hn => by
    simp only [List.nil_append, List.map_cons, chkEs, Bool.and_eq_true] at h
    simp only [List.all_cons, Bool.and_eq_true] at hn
    have h2 := sndK r X W sc fc [] ks C P (by simpa using h.2) hn.2
    exact ⟨sa_nil, sk_cons (sndE e X W sc fc _ C P h.1.2).1 h2.2⟩
  | .cons e r, X, W, sc, fc, x :: xs, ks, C, P, h, hn => by
    simp only [List.cons_append, chkEs, Bool.and_eq_true] at h
    have h2 := sndK r X W sc fc xs ks C P h.2 hn
    exact ⟨sa_cons (sndE e X W sc fc _ C P h.1.2).1 h2.1 h.1.1, h2.2⟩
  | .star e r, X, W, sc, fc, [], [], C, P, h, hn => by simp [chkEs] at h
  | .star e r, X, W, sc, fc, [], ⟨nm, v, kp⟩ :: ks, C, P, h, hn => by
    simp only [List.nil_append, List.map_cons, chkEs] at h
    simp only [List.all_cons, Bool.and_eq_true] at hn
    cases v <;> first | (simp at h; done) | (simp [nst] at hn)
  | .star e r, X, W, sc, fc, x :: xs, ks, C, P, h, hn => by
    cases x <;> simp only [List.cons_append, chkEs, Bool.and_eq_true, Bool.false_eq_true] at h
    have h2 := sndK r X W sc fc xs ks C P h.2 hn
    exact ⟨sa_star (sndE e X W sc fc _ C P h.1).1 h2.1, h2.2⟩
theorem sndI : ∀ (i : I) (X : Cx) (W : WX) (sc : Scope) (fc : Str → Bool) (tg x : Expr), Ctx T c.G c.ps c.cs wf n X W → At X sc N fc → chkI c N i sc fc tg x = true → SI T X W tg x (evI (callF (FT c.G) wf n) i)
  | .of e, X, W, sc, fc, tg, x, C, P, h => by
    simp only [chkI] at h
    exact rdI_congr (si_of (sndE e X W sc fc _ C P h).1) fun _ _ => by simp only [evI]
  | .rng es, X, W, sc, fc, tg, x, C, P, h => by
    unfold chkI at h
    split at h
    · next y p xs pos =>
      simp only [Bool.and_eq_true, decide_eq_true_eq] at h
      obtain ⟨⟨⟨⟨h1, h2⟩, h3⟩, h4⟩, h5⟩ := h
      have ey := isE_eq h1
      subst ey
      have hs := sndEs es X W sc fc _ C P h3
      have hm : X.mg "range" = none := C.blt "range" (by decide +kernel)
      rcases h5 with h5 | h5
      · obtain ⟨a, e1⟩ : ∃ a, xs = [a] := List.length_eq_one_iff.mp h5
        subst e1
        refine rdI_congr (si_rng1 (glB_ok P h2) hm hs (by simpa using h4)) fun ρ m => ?_
        simp only [evI]
        refine bind_congr fun ds m' e => ?_
        have hl : ds.length = 1 := evEs_len h3 h4 e
        rw [if_pos hl]; rfl
      · obtain ⟨a, b, e1⟩ : ∃ a b, xs = [a, b] := by
          match xs, h5 with
          | [a, b], _ => exact ⟨a, b, rfl⟩
        subst e1
        have h4' : nst a = true ∧ nst b = true := by simpa using h4
        refine rdI_congr (si_rng2 (glB_ok P h2) hm hs h4'.1 h4'.2) fun ρ m => ?_
        simp only [evI]
        refine bind_congr fun ds m' e => ?_
        have hl : ds.length = 2 := evEs_len h3 h4 e
        rw [if_pos hl]; rfl
    · cases h
  | .enum e, X, W, sc, fc, tg, x, C, P, h => by
    unfold chkI at h
    split at h
    · simp only [Bool.and_eq_true] at h
      obtain ⟨⟨⟨⟨h1, h2⟩, h3⟩, h4⟩, h5⟩ := h
      have ey := isE_eq h1
      subst ey
      cases tg <;> simp only [tupT, Bool.false_eq_true] at h5
      exact rdI_congr (si_enum (glB_ok P h2) (C.blt "enumerate" (by decide +kernel)) (sndE e X W sc fc _ C P h3).1 h4) fun _ _ => by simp only [evI]
    · cases h
  | .zip es, X, W, sc, fc, tg, x, C, P, h => by
    unfold chkI at h
    split at h
    · simp only [Bool.and_eq_true] at h
      obtain ⟨⟨⟨h1, h2⟩, h3⟩, h4⟩ := h
      have ey := isE_eq h1
      subst ey
      exact rdI_congr (si_zip (glB_ok P h2) (C.blt "zip" (by decide +kernel)) (sndEs es X W sc fc _ C P h3) h4) fun _ _ => by simp only [evI]
    · cases h
  | .zipS e, X, W, sc, fc, tg, x, C, P, h => by
    unfold chkI at h
    split at h
    · simp only [Bool.and_eq_true] at h
      obtain ⟨⟨h1, h2⟩, h3⟩ := h
      have ey := isE_eq h1
      subst ey
      exact rdI_congr (si_zipS (glB_ok P h2) (C.blt "zip" (by decide +kernel)) (sndE e X W sc fc _ C P h3).1) fun _ _ => by simp only [evI]
    · cases h
  | .enumZip es, X, W, sc, fc, tg, x, C, P, h => by
    unfold chkI at h
    split at h
    · simp only [Bool.and_eq_true] at h
      obtain ⟨⟨⟨⟨⟨⟨h1, h2⟩, h3⟩, h4⟩, h5⟩, h6⟩, h7⟩ := h
      have ey := isE_eq h1
      have ey2 := isE_eq h3
      subst ey ey2
      cases tg <;> simp only [tupT, Bool.false_eq_true] at h7
      exact rdI_congr (si_enumZip (glB_ok P h2) (C.blt "enumerate" (by decide +kernel)) (glB_ok P h4) (C.blt "zip" (by decide +kernel)) (sndEs es X W sc fc _ C P h5) h6) fun _ _ => by simp only [evI]
    · cases h
end
end
end G48
set_option Elab.async false
set_option linter.all false
set_option maxRecDepth 100000
set_option maxHeartbeats 4000000
/-! G48: the text's statements beside the small language's. -/
namespace G48
open PySem PySem.Spec PyProof.Rows L2

def swN (sc : Scope) (ts : List Expr) : List Str := ts.filterMap fun | .Name id pos => if (sc.names.lookup id == some .local && pos.line == (ts.head?.map (·.pos.line)).getD 0) = true then some id else none | _ => none
/-- how several names are stored -/
def swpB (sc : Scope) (ts vs : List Expr) : Option (Option (List Str)) :=
  if (!(ts.length == 2 || ts.length == 3) || vs.length != ts.length) = true then some none else
  if (vs.any fun | .Starred .. => true | _ => false) = true then some none else
  if ((swN sc ts).length != ts.length || (swN sc ts).eraseDups.length != (swN sc ts).length) = true then some none else
  if vs.all (foldedForSure 8) = true then some none else
  if vs.all (constantsAlone 8) = true then none else some (some (swN sc ts))
theorem swp_ok {ts vs : List Expr} {k k2 : Nat} {p p2 : Pos} {env : PySem.Env} {sc : Scope} {r : Option (List Str)} (hs : env.scope = sc) (hk : sc.kind = .function) (h : swpB sc ts vs = some r) : swappedStores [.Tuple ts k p] (.Tuple vs k2 p2) env = pure r := by
  have hb : env.blockKind = .function := by unfold Env.blockKind; rw [hs, hk]; rfl
  subst hs
  have e : swappedStores [.Tuple ts k p] (.Tuple vs k2 p2) env =
    (if (!(ts.length == 2 || ts.length == 3) || vs.length != ts.length || env.blockKind != .function) = true then pure none else
    if (vs.any fun | .Starred .. => true | _ => false) = true then pure none else
    if ((swN env.scope ts).length != ts.length || (swN env.scope ts).eraseDups.length != (swN env.scope ts).length) = true then pure none else
    if vs.all (foldedForSure 8) = true then pure none else
    if vs.all (constantsAlone 8) = true then (do unsupported "assign.tuple-of-constant-expressions:order-of-the-stores"; pure (some (swN env.scope ts))) else
    pure (some (swN env.scope ts))) := rfl
  rw [e]
  have hb' : (env.blockKind != .function) = false := by rw [hb]; rfl
  rw [hb', Bool.or_false]
  unfold swpB at h
  split at h
  · next q => rw [if_pos q]; cases h; rfl
  · next q =>
    rw [if_neg q]
    split at h
    · next q => rw [if_pos q]; cases h; rfl
    · next q =>
      rw [if_neg q]
      split at h
      · next q => rw [if_pos q]; cases h; rfl
      · next q =>
        rw [if_neg q]
        split at h
        · next q => rw [if_pos q]; cases h; rfl
        · next q =>
          rw [if_neg q]
          split at h
          · cases h
          · next q => rw [if_neg q]; cases h; rfl
theorem swp_no {t e : Expr} {env : PySem.Env} (h : (match e with | .Tuple _ _ _ => false | _ => true) = true) : swappedStores [t] e env = pure none := by
  cases e <;> first | (cases h; done) | (cases t <;> rfl)
theorem swp_sub {o i e : Expr} {p : Pos} {env : PySem.Env} : swappedStores [.Subscript o i p] e env = pure none := by cases e <;> rfl
def swL (sc : Scope) (x : Str) (p pos : Pos) (scope : Scope) : Bool := isK sc x .local && (p.line == pos.line) && !(scope.names.any fun (n, k) => n == x && (k == .local || k == .cell))
theorem swL_ok {elt : Expr} {gs : List Comprehension} {scope sc : Scope} {x : Str} {p pos : Pos} {l : Nat} {env : PySem.Env} (hs : env.scope = sc) (hk : sc.kind = .function) : swapsWith (.ListComp elt gs scope pos) (some (.Name x p)) l env = pure (swL sc x p pos scope) := by
  have hb : env.blockKind = .function := by unfold Env.blockKind; rw [hs, hk]; rfl
  have e : swapsWith (.ListComp elt gs scope pos) (some (.Name x p)) l env = pure (env.blockKind == .function && env.kindOf x == some .local && p.line == pos.line && !(scope.names.any fun (n, k) => n == x && (k == .local || k == .cell))) := rfl
  rw [e, hb]
  subst hs
  rfl
def tgsOf : List Nat → Tgs
  | [] => .nil
  | i :: is => .cons (.nm i) (tgsOf is)
theorem setAll_eq : ∀ (is : List Nat) (ds : List D) (ρ : Env), bindTs (tgsOf is) ds ρ = setAll is ds ρ
  | [], [], _ => rfl
  | [], _ :: _, _ => rfl
  | _ :: _, [], _ => rfl
  | i :: is, d :: ds, ρ => by simp only [tgsOf, bindTs, bindT, setAll, Option.bind_some]; exact setAll_eq is ds _
theorem tgsOf_v : ∀ (is : List Nat), tgvs (tgsOf is) = is
  | [] => rfl
  | i :: is => by simp [tgsOf, tgvs, tgv, tgsOf_v is]
def isOne : Expr → Bool
  | .Constant (.str _) _ _ => true
  | _ => false
def parB (sc : Scope) (N : List Str) (is : List Nat) (ts : List Expr) : Bool := match is, ts with
  | [i, j], [.Name x _, .Name y _] => nmB N i x && nmB N j y && isK sc x .local && isK sc y .local && decide (i ≠ j)
  | [i, j, k], [.Name x _, .Name y _, .Name z _] => nmB N i x && nmB N j y && nmB N k z && isK sc x .local && isK sc y .local && isK sc z .local && decide (i ≠ j) && decide (i ≠ k) && decide (j ≠ k)
  | _, _ => false
def nameL : List Expr → List Str
  | .Name x _ :: r => x :: nameL r
  | _ => []

/-- a class of errors by its number and name -/
def clsB (c : Cfg) (k : Nat) (y : Str) : Bool := c.xs.any fun q => decide (q.1 = k) && decide (q.2 = y)
theorem clsB_ok {c : Cfg} {k : Nat} {y : Str} (h : clsB c k y = true) : (k, y) ∈ c.xs := by
  unfold clsB at h
  rw [List.any_eq_true] at h
  obtain ⟨q, h1, h2⟩ := h
  simp only [Bool.and_eq_true, decide_eq_true_eq] at h2
  obtain ⟨a, b⟩ := q
  obtain ⟨rfl, rfl⟩ := h2
  exact h1
def chkSub (c : Cfg) (N : List Str) (sc : Scope) (fc : Str → Bool) : Es → Es → List Expr → Bool
  | .cons a as, .cons i is, ts => match ts with
    | .Subscript a' i' _ :: r => chkE c N a sc fc a' && chkE c N i sc fc i' && plainIxB i' && chkSub c N sc fc as is r
    | _ => false
  | .nil, .nil, [] => true
  | _, _, _ => false
def allSub : List Expr → Bool
  | [] => true
  | .Subscript _ _ _ :: r => allSub r
  | _ => false
mutual
def chkS (c : Cfg) (N : List Str) (fr : List Nat) (sc : Scope) (fc : Str → Bool) : S → Stmt → Bool
  | .set i e, s => match s with
    | .Assign [.Name x _] v _ => nmB N i x && stoB sc fc x && chkE c N e sc fc v && fr.contains i && (noComp v || !noCompL v)
    | _ => false
  | .setT t e, s => match s with
    | .Assign [tg] v _ => chkT sc N fc t tg && tupT tg && chkE c N e sc fc v && (tgv t).all fr.contains && (match tg, v with
      | .Tuple ts _ _, .Tuple vs _ _ => swpB sc ts vs == some none
      | _, .Tuple _ _ _ => false
      | _, _ => true)
    | _ => false
  | .par is es, s => match s with
    | .Assign [.Tuple ts _ _] (.Tuple vs _ _) _ => chkEs c N es sc fc vs && is.all fr.contains && vs.all nst && decide (vs.length ≤ 1000) && ((swpB sc ts vs == some none && chkTs sc N fc (tgsOf is) ts) || (swpB sc ts vs == some (some (nameL ts)) && parB sc N is ts))
    | _ => false
  | .setIx a i e, s => match s with
    | .Assign [.Subscript a' i' _] v _ => chkE c N a sc fc a' && chkE c N i sc fc i' && chkE c N e sc fc v && plainIxB i' && noComp v
    | _ => false
  | .subs as is es, s => match s with
    | .Assign [.Tuple ts _ _] (.Tuple vs _ _) _ => chkEs c N es sc fc vs && vs.all nst && decide (vs.length ≤ 1000) && chkSub c N sc fc as is ts && allSub ts && decide (vs.length = ts.length)
    | _ => false
  | .aug i o e, s => match s with
    | .AugAssign (.Name x _) op v _ => nmB N i x && stoB sc fc x && chkE c N e sc fc v && fr.contains i && (match o, op with
      | .add, .Add => true
      | .sub, .Sub => true
      | _, _ => false)
    | _ => false
  | .expr e, s => match s with
    | .Expr v _ => chkE c N e sc fc v && noComp v
    | _ => false
  | .app a e, s => match s with
    | .Expr (.Call (.Attribute o nm ap) [v] [] p) _ => isE nm "append" && chkE c N a sc fc o && chkE c N e sc fc v && nst v && noCall o && (ap.endLine == p.line)
    | _ => false
  | .ext a e, s => match s with
    | .Expr (.Call (.Attribute o nm ap) [v] [] p) _ => isE nm "extend" && chkE c N a sc fc o && chkE c N e sc fc v && nst v && noCall o && (ap.endLine == p.line)
    | _ => false
  | .iff e a b, s => match s with
    | .If t sa sb _ => chkE c N e sc fc t && chkSs c N fr sc fc a sa && chkSs c N fr sc fc b sb
    | _ => false
  | .for_ t i b _, s => match s with
    | .For tg it sb [] _ => chkI c N i sc fc tg it && chkT sc N fc t tg && chkSs c N fr sc fc b sb && noSet it && (tgv t).all fr.contains
    | _ => false
  | .whil e b _, s => match s with
    | .While t sb [] _ => chkE c N e sc fc t && chkSs c N fr sc fc b sb
    | _ => false
  | .ret e, s => match s with
    | .Return (some v) _ => chkE c N e sc fc v
    | _ => false
  | .retN, s => match s with
    | .Return none _ => true
    | _ => false
  | .brk, s => match s with
    | .Break _ => true
    | _ => false
  | .cont, s => match s with
    | .Continue _ => true
    | _ => false
  | .pass, s => match s with
    | .Pass _ => true
    | .Expr v _ => isOne v
    | _ => false
  | .raise k es, s => match s with
    | .Raise (some (.Call (.Name y _) [] [] _)) none _ => (match es with
      | .nil => true
      | _ => false) && clsB c k y && glB sc y && okN y && (match mkExc k [] with
      | some [] => true
      | _ => false)
    | _ => false
  | .tryx b ks i j wp, s => match s with
    | .Try bd [.ExceptHandler (some (.Name x _)) (some nm) [.Assign [.Name y _] (.Name nm2 _) _] _] [] [] _ => (match ks with
      | [k] => clsB c k x
      | _ => false) && glB sc x && okN x && nmB N i nm && nmB N j y && isK sc nm .local && isK sc y .local && okN nm && decide (nm = nm2) && fr.contains i && fr.contains j && wp.all fr.contains && decide (i ≠ j) && chkSs c N wp sc fc b bd
    | _ => false
  | .stuck, _ => true
  | .frz _, _ => false
  | .frzD _, _ => false
def chkSs (c : Cfg) (N : List Str) (fr : List Nat) (sc : Scope) (fc : Str → Bool) : Ss → List Stmt → Bool
  | .nil, ss => match ss with
    | [] => true
    | _ => false
  | .cons s r, ss => match s with
    | .frz _ => chkSs c N fr sc fc r ss
    | .frzD _ => chkSs c N fr sc fc r ss
    | s => match ss with
      | x :: xs => chkS c N fr sc fc s x && chkSs c N fr sc fc r xs
      | _ => false
end

section
variable {T : XT} {c : Cfg} {N : List Str} {wf n : Nat} {fr : List Nat} {sc : Scope} {fc : Str → Bool} {X : Cx} {W : WX}
theorem all_mem {l fr : List Nat} (h : l.all fr.contains = true) : ∀ j, j ∈ l → j ∈ fr := fun j hj => by
  rw [List.all_eq_true] at h
  exact List.contains_iff_mem.mp (h j hj)
theorem aug_ok {e : Expr} {f : Env → Mem → R D} {i : Nat} {x : Str} {p pos : Pos} (C : Ctx T c.G c.ps c.cs wf n X W) (P : At X sc N fc) (hi : nmB N i x = true) (hx : stoB sc fc x = true) (he : SE T X W e f) (hfr : i ∈ fr) (o : Bop) (op : Operator)
    (h : (match o, op with | .add, .Add => true | .sub, .Sub => true | _, _ => false) = true) : SS T X W fr (.AugAssign (.Name x p) op e pos) fun ρ m => match ρ[i]? with
    | some (some x) => (f ρ m).bind fun y m => match x, y with
      | .int _, .int _ => (R.of (bop o x y) m).bind fun z m => .ok (.nx, ρ.set i (some z)) m
      | _, _ => .bad
    | _ => .bad := by
  cases o <;> cases op <;> first | (cases h; done) | skip
  · exact ss_aug P C.nd hi hx he hfr ip_add fun _ _ => rfl
  · exact ss_aug P C.nd hi hx he hfr ip_sub fun _ _ => rfl
theorem par_ok {es : Es} {is : List Nat} {ts vs : List Expr} {k k2 : Nat} {p p2 pos : Pos} (C : Ctx T c.G c.ps c.cs wf n X W) (P : At X sc N fc) (hk : sc.kind = .function) (h1 : chkEs c N es sc fc vs = true) (h2 : is.all fr.contains = true) (h3 : vs.all nst = true) (h4 : vs.length ≤ 1000)
    (h5 : (swpB sc ts vs == some none && chkTs sc N fc (tgsOf is) ts || swpB sc ts vs == some (some (nameL ts)) && parB sc N is ts) = true) :
    SS T X W fr (.Assign [.Tuple ts k p] (.Tuple vs k2 p2) pos) fun ρ m => (evEs (callF (FT c.G) wf n) es ρ m).bind fun ds m => (R.of (setAll is ds ρ) m).bind fun ρ m => .ok (.nx, ρ) m := by
  have hs := sndEs es X W sc fc _ C P h1
  simp only [Bool.or_eq_true, Bool.and_eq_true, beq_iff_eq] at h5
  rcases h5 with ⟨h5, h6⟩ | ⟨h5, h6⟩
  · have := ss_setT (T := T) (W := W) (fr := fr) (t := .tp (tgsOf is)) (pos := pos) (tg := .Tuple ts k p) P C.nd C.calm h6 rfl (se_tup (k := k2) (pos := p2) hs) (swp_ok P.sc hk h5) (fun j hj => by
      have e : tgv (.tp (tgsOf is)) = is := tgsOf_v is
      rw [e] at hj; exact all_mem h2 j hj)
    refine this.imp fun D σ H ⟨ρ, M, β, l, r, o⟩ => ⟨ρ, M, β, l, r, ?_⟩
    have e : ((evEs (callF (FT c.G) wf n) es ρ M).bind fun ds m => if ds.length ≤ BIG then R.ok (.tup ds) m else .bad).bind (fun d m => (R.of (bindT (.tp (tgsOf is)) d ρ) m).bind fun ρ m => R.ok (Fl.nx, ρ) m) = (evEs (callF (FT c.G) wf n) es ρ M).bind fun ds m => (R.of (setAll is ds ρ) m).bind fun ρ m => .ok (.nx, ρ) m := by
      cases q : evEs (callF (FT c.G) wf n) es ρ M with
      | bad => rfl
      | exc y m1 => rfl
      | ok ds m1 =>
        have hl := evEs_len h1 h3 q
        simp only [R.bind_ok]
        rw [if_pos (by rw [hl]; exact Nat.le_trans h4 (by decide))]
        simp only [R.bind_ok, bindT, seqD, Option.bind_some, setAll_eq]
    dsimp only
    rw [e]; exact o
  · unfold parB at h6
    split at h6
    · next i j x px y py =>
      simp only [Bool.and_eq_true, decide_eq_true_eq] at h6
      obtain ⟨⟨⟨⟨a1, a2⟩, a3⟩, a4⟩, a5⟩ := h6
      match vs, h1, h3, h4, h5, hs with
      | [a, b], h1, h3, h4, h5, hs =>
        refine (ps_par C.calm C.nd (by rw [P.nm]; exact nmB_eq a1) (by rw [P.nm]; exact nmB_eq a2) a5 (by rw [P.sc]; exact isK_eq a3) (by rw [P.sc]; exact isK_eq a4) hs (swp_ok P.sc hk h5) rfl).imp fun D σ H ⟨ρ, M, β, l, r, o⟩ => ⟨ρ, M, β, l, r, OutS.bind o fun ds m us H1 β1 hx r1 g1 o1 => ?_⟩
        match ds, hx, o1 with
        | [d, d'], hx, o1 =>
          unfold Reps at hx
          obtain ⟨v, q, e2, hv, h2'⟩ := hx
          unfold Reps at h2'
          obtain ⟨v', q', e3, hv', h4'⟩ := h2'
          unfold Reps at h4'
          subst e2 e3 h4'
          refine ⟨v, v', rfl, o1.now r1 (((l.grow r g1).set i hv).set j hv') ?_⟩
          have m1 := all_mem h2
          exact (Same.set.mono fun t ht => by simp at ht; subst ht; exact m1 _ (by simp)).trans (Same.set.mono fun t ht => by simp at ht; subst ht; exact m1 _ (by simp))
        | [], hx, o1 => exact o1.elim
        | [_], hx, o1 => exact o1.elim
        | _ :: _ :: _ :: _, hx, o1 => exact o1.elim
      | [], h1, h3, h4, h5, hs => simp [swpB] at h5
      | [_], h1, h3, h4, h5, hs => simp [swpB] at h5
      | _ :: _ :: _ :: _, h1, h3, h4, h5, hs => simp [swpB] at h5
    · next i j k x px y py z pz =>
      simp only [Bool.and_eq_true, decide_eq_true_eq] at h6
      obtain ⟨⟨⟨⟨⟨⟨⟨⟨a1, a2⟩, a3⟩, a4⟩, a5⟩, a6⟩, a7⟩, a8⟩, a9⟩ := h6
      match vs, h1, h3, h4, h5, hs with
      | [a, b, d], h1, h3, h4, h5, hs =>
        refine (ps_par3 C.calm C.nd (by rw [P.nm]; exact nmB_eq a1) (by rw [P.nm]; exact nmB_eq a2) (by rw [P.nm]; exact nmB_eq a3) a7 a8 a9 (by rw [P.sc]; exact isK_eq a4) (by rw [P.sc]; exact isK_eq a5) (by rw [P.sc]; exact isK_eq a6) hs (swp_ok P.sc hk h5) rfl).imp fun D σ H ⟨ρ, M, β, l, r, o⟩ => ⟨ρ, M, β, l, r, OutS.bind o fun ds m us H1 β1 hx r1 g1 o1 => ?_⟩
        match ds, hx, o1 with
        | [d1, d2, d3], hx, o1 =>
          unfold Reps at hx
          obtain ⟨v, q, e2, hv, h2'⟩ := hx
          unfold Reps at h2'
          obtain ⟨v', q', e3, hv', h4'⟩ := h2'
          unfold Reps at h4'
          obtain ⟨v3, q3, e4, hv3, h6'⟩ := h4'
          unfold Reps at h6'
          subst e2 e3 e4 h6'
          refine ⟨v, v', v3, rfl, o1.now r1 ((((l.grow r g1).set i hv).set j hv').set k hv3) ?_⟩
          have m1 := all_mem h2
          exact ((Same.set.mono fun t ht => by simp at ht; subst ht; exact m1 _ (by simp)).trans (Same.set.mono fun t ht => by simp at ht; subst ht; exact m1 _ (by simp))).trans (Same.set.mono fun t ht => by simp at ht; subst ht; exact m1 _ (by simp))
        | [], hx, o1 => exact o1.elim
        | [_], hx, o1 => exact o1.elim
        | [_, _], hx, o1 => exact o1.elim
        | _ :: _ :: _ :: _ :: _, hx, o1 => exact o1.elim
      | [], h1, h3, h4, h5, hs => simp [swpB] at h5
      | [_], h1, h3, h4, h5, hs => simp [swpB] at h5
      | [_, _], h1, h3, h4, h5, hs => simp [swpB] at h5
      | _ :: _ :: _ :: _ :: _, h1, h3, h4, h5, hs => simp [swpB] at h5
    · cases h6
end
end G48
set_option Elab.async false
set_option linter.all false
set_option maxRecDepth 100000
set_option maxHeartbeats 4000000
/-! G48: a[i], b[j], .. = .. -/
namespace G48
open PySem PySem.Spec PyProof.Rows L2
theorem sub_plain {o i : Expr} {p : Pos} {env : PySem.Env} (h : plainIxB i = true) : ∀ v, assign (.Subscript o i p) env v = (do
      let ov ← holding [v] (eval o env)
      let iv ← holding [v, ov] (eval i env)
      standAt p
      holding [v, ov, iv] (setItem ov iv v)
      release [v, ov, iv] []) := by
  cases i <;> first | (exact fun _ => rfl) | (simp [plainIxB] at h)
section
variable {T : XT} {c : Cfg} {N : List Str} {wf n : Nat} {fr : List Nat} {sc : Scope} {fc : Str → Bool} {X : Cx} {W : WX}
def rpU : RpT Unit Unit := fun _ _ _ _ _ => True
def rdSub (T : XT) (W : WX) (cf : Nat → List D → Mem → R D) (as is : Es) : TGs := fun vs σ H Q => ∃ ρ M β ds, RlE T M β H ρ σ ∧ Rl T M β H ∧ Reps T M β H ds vs ∧ Out T rpU M β H (evSubs cf as is ds ρ M) (fun _ H' => Q σ H') (fun c d H' => W c d σ H')
theorem subs_ok (C : Ctx T c.G c.ps c.cs wf n X W) (P : At X sc N fc) : ∀ (as is : Es) (ts : List Expr), chkSub c N sc fc as is ts = true → PGs X ts (rdSub T W (callF (FT c.G) wf n) as is)
  | .nil, .nil, [], _ => ⟨fun pins s σ H vs us Q I r ⟨ρ, M, β, ds, l, rl, hd, o⟩ => by
      refine pgs_nil.run pins s σ H vs us Q I r ?_
      cases ds with
      | nil => unfold Reps at hd; simp only [evSubs] at o; exact ⟨hd, o () H β trivial rl Grow.refl⟩
      | cons d ds => simp only [evSubs] at o; exact o.elim⟩
  | .cons a as, .cons i is, ts0, h => by
    unfold chkSub at h
    split at h
    case h_2 => cases h
    rename_i a' i' p ts
    simp only [Bool.and_eq_true] at h
    obtain ⟨⟨⟨h1, h2⟩, h3⟩, h4⟩ := h
    have hs := subs_ok C P as is ts h4
    refine ⟨fun pins s σ H vs us Q I rv ⟨ρ, M, β, ds, l, rl, hd, o⟩ => (pgs_cons (pg_sub (sndE a X W sc fc _ C P h1).1.pe (sndE i X W sc fc _ C P h2).1.pe set_list (sub_plain h3)) hs rfl).run pins s σ H vs us Q I rv ?_⟩
    cases ds with
    | nil => simp only [evSubs] at o; exact o.elim
    | cons d ds =>
      unfold Reps at hd
      obtain ⟨v, vr, e1, hd1, hd2⟩ := hd
      simp only [evSubs] at o
      refine ⟨v, vr, e1, ρ, M, β, l, rl, Out.bind o fun x m xv H1 β1 hx r1 g1 o1 => ?_⟩
      refine ⟨ρ, m, β1, l.grow rl g1, r1, Out.bind o1 fun k m3 kv H3 β3 hk r3 g3 o3 => ?_⟩
      have l3 := (l.grow rl g1).grow r1 g3
      have hv3 := Rep.grow r1 g3 _ _ (Rep.grow rl g1 _ _ hd1)
      have hr3 := Reps.grow r1 g3 _ _ (Reps.grow rl g1 _ _ hd2)
      have hx3 := Rep.grow r1 g3 _ _ hx
      cases q : setIxD x k d m3 with
      | none => rw [q] at o3; exact o3.elim
      | some m4 =>
        rw [q] at o3
        dsimp only at o3
        unfold setIxD at q
        split at q
        · next n' kk =>
          split at q
          · next xs hm =>
            split at q
            · next hb =>
              simp only [Option.map_eq_some_iff] at q
              obtain ⟨jj, hj, e4⟩ := q
              obtain ⟨b0, ys, e5, hys⟩ := r3.cell n' _ hm
              unfold Rep at hx3 hk
              subst e4
              have hj2 : ixN ys.length kk = some jj := by rw [← hys.length, ← pyIx_ixN]; exact hj
              refine ⟨β3 n', ys, kk, jj, hx3.1, hk, e5, hj2, ?_⟩
              have g4 := Grow.wrote (c' := .lst (xs.set jj d)) (o := .lst (ys.set jj v)) r3 hm
              have r4 := r3.wrote hm (belows_set b0 hb) (hys.set jj hv3)
              exact ⟨ρ, _, β3, ds, l3.grow r3 g4, r4, Reps.grow r3 g4 _ _ hr3, Out.step g4 o3⟩
            · cases q
          · cases q
        · cases q
  | .nil, .nil, _ :: _, h => by simp [chkSub] at h
  | .nil, .cons _ _, _, h => by simp [chkSub] at h
  | .nil, .star _ _, _, h => by simp [chkSub] at h
  | .star _ _, _, _, h => by simp [chkSub] at h
  | .cons _ _, .nil, _, h => by simp [chkSub] at h
  | .cons _ _, .star _ _, _, h => by simp [chkSub] at h
theorem swN_sub : ∀ {ts : List Expr} {f : Expr → Option Str}, (∀ o i p, f (.Subscript o i p) = none) → allSub ts = true → ts.filterMap f = []
  | [], _, _, _ => rfl
  | x :: ts, f, hf, h => by
    cases x <;> first | (simp [allSub] at h; done) | skip
    rw [List.filterMap_cons, hf]
    exact swN_sub hf h
theorem swp_subs {ts vs : List Expr} (h : allSub ts = true) : swpB sc ts vs = some none := by
  have e : swN sc ts = [] := swN_sub (fun _ _ _ => rfl) h
  unfold swpB
  rw [e]
  split
  · rfl
  · next q =>
    split
    · rfl
    · rw [if_pos]
      cases ts with
      | nil => simp at q
      | cons x r => rfl
theorem asg_sub {env : PySem.Env} : ∀ {ts : List Expr}, allSub ts = true → (assignEach ts env).length = ts.length ∧ (assignEach ts env).findIdx? (·.1) = none
  | [], _ => ⟨rfl, rfl⟩
  | x :: ts, h => by
    cases x <;> first | (simp [allSub] at h; done) | skip
    obtain ⟨h1, h2⟩ := asg_sub (env := env) (ts := ts) h
    rw [asg_no rfl]
    exact ⟨by simp [h1], by rw [List.findIdx?_cons]; simp [h2]⟩
theorem ss_subs {es as is : Es} {ts vs : List Expr} {k k2 : Nat} {p p2 pos : Pos} (C : Ctx T c.G c.ps c.cs wf n X W) (P : At X sc N fc) (hk : sc.kind = .function) (h1 : chkEs c N es sc fc vs = true) (h3 : vs.all nst = true) (h4 : vs.length ≤ 1000) (h5 : chkSub c N sc fc as is ts = true) (h6 : allSub ts = true) (h7 : vs.length = ts.length) :
    SS T X W fr (.Assign [.Tuple ts k p] (.Tuple vs k2 p2) pos) fun ρ m => (evEs (callF (FT c.G) wf n) es ρ m).bind fun ds m => (evSubs (callF (FT c.G) wf n) as is ds ρ m).bind fun _ m => .ok (.nx, ρ) m := by
  obtain ⟨a1, a2⟩ := asg_sub (env := X.env) h6
  have hsw : swapsWithSole [.Tuple ts k p] (.Tuple vs k2 p2) pos.line X.env = pure false := sw_tgt (.inl rfl)
  refine (ps_asg (se_tup (k := k2) (pos := p2) (sndEs es X W sc fc _ C P h1)).pe (pg_tup C.calm (subs_ok C P as is ts h5) a1 a2) hsw (swp_ok P.sc hk (swp_subs h6)) rfl).imp fun D σ H ⟨ρ, M, β, l, r, o⟩ => ?_
  have big : (1000 : Nat) ≤ BIG := by decide
  have e : (evEs (callF (FT c.G) wf n) es ρ M).bind (fun ds m => if ds.length ≤ BIG then R.ok (G48.D.tup ds) m else .bad) = (evEs (callF (FT c.G) wf n) es ρ M).bind fun ds m => R.ok (G48.D.tup ds) m := bind_congr fun ds m' q => by
    rw [if_pos (by rw [evEs_len h1 h3 q]; omega)]
  have el : ∀ ds m', evEs (callF (FT c.G) wf n) es ρ M = .ok ds m' → ds.length = ts.length := fun ds m' q => (evEs_len h1 h3 q).trans h7
  refine ⟨ρ, M, β, l, r, ?_⟩
  dsimp only at o ⊢
  rw [e]
  generalize evEs (callF (FT c.G) wf n) es ρ M = r0 at o el
  cases r0 with
  | bad => exact o.elim
  | exc y m1 => exact fun c d H' β' a b g => o c d H' β' σ a b g Same.refl
  | ok ds m1 =>
    have hl := el ds m1 rfl
    simp only [R.bind_ok] at o ⊢
    intro v H1 β1 hv r1 g1
    unfold Rep at hv
    obtain ⟨a, xs, e1, e2, e3⟩ := hv
    refine ⟨a, xs, e1, .of e2, by rw [← e3.length]; exact hl, ρ, m1, β1, ds, l.grow r g1, r1, e3, ?_⟩
    exact OutS.bind (OutS.step g1 o) fun u m2 w H2 β2 _ r2 g2 o2 => o2.now r2 ((l.grow r g1).grow r1 g2) Same.refl
end
end G48
set_option Elab.async false
set_option linter.all false
set_option maxRecDepth 100000
set_option maxHeartbeats 4000000
/-! G48: soundness of statements. -/
namespace G48
open PySem PySem.Spec PyProof.Rows L2
section
variable {T : XT} {c : Cfg} {N : List Str} {wf n : Nat} {sc : Scope} {fc : Str → Bool}
theorem SS.congr {fr : List Nat} {X : Cx} {W : WX} {st : Stmt} {f g : Env → Mem → R (Fl × Env)} (h : SS T X W fr st f) (k : ∀ ρ m, g ρ m = f ρ m) : SS T X W fr st g := by
  have : g = f := by funext ρ m; exact k ρ m
  rw [this]; exact h
theorem SSs.congr {fr : List Nat} {X : Cx} {W : WX} {st : List Stmt} {f g : Env → Mem → R (Fl × Env)} (h : SSs T X W fr st f) (k : ∀ ρ m, g ρ m = f ρ m) : SSs T X W fr st g := by
  have : g = f := by funext ρ m; exact k ρ m
  rw [this]; exact h
theorem ss_stuck {fr : List Nat} {X : Cx} {W : WX} {st : Stmt} : SS T X W fr st fun _ _ => .bad := ⟨fun pins s σ H D I h => by
  obtain ⟨ρ, M, β, l, r, o⟩ := h
  exact o.elim⟩
/-- what a frame must be for its errors to be caught -/
structure Own (X : Cx) : Prop where
  ps : PassesOwn (model X.prog X.w) X.A X.env X.xe
  st : X.stack = X.env :: X.outer
  fr : X.env.frame = some X.env.locals
  ex : X.ex = []
mutual
theorem sndS (hX : T.cls = c.xs) (hk : sc.kind = .function) : ∀ (s : S) (fr : List Nat) (X : Cx) (W : WX) (x : Stmt), Ctx T c.G c.ps c.cs wf n X W → At X sc N fc → Own X → chkS c N fr sc fc s x = true → SS T X W fr x (evS wf (callF (FT c.G) wf n) s)
  | .set i e, fr, X, W, x, C, P, O, h => by
    unfold chkS at h
    split at h
    · next y p v pos =>
      simp only [Bool.and_eq_true] at h
      obtain ⟨⟨⟨⟨h1, h2⟩, h3⟩, h4⟩, h5⟩ := h
      have hfr := List.contains_iff_mem.mp h4
      have he := sndE e X W sc fc v C P h3
      have fin : swapsWith v (some (.Name y p)) pos.line X.env = pure false → SS T X W fr (.Assign [.Name y p] v pos) (evS wf (callF (FT c.G) wf n) (.set i e)) := fun hsw =>
        SS.congr (ss_set P C.nd h1 h2 he.1 hsw hfr) fun _ _ => by simp only [evS]
      cases q : noCompL v with
      | true => exact fin (sw_plain (by simpa [q] using h5))
      | false =>
        cases v <;> simp only [noCompL, reduceCtorEq] at q
        rename_i elt gs scope p2
        have hsw := swL_ok (elt := elt) (gs := gs) (scope := scope) (x := y) (p := p) (pos := p2) (l := pos.line) P.sc hk
        cases q2 : swL sc y p p2 scope with
        | false => rw [q2] at hsw; exact fin hsw
        | true =>
          rw [q2] at hsw
          have hl : sc.names.lookup y = some .local := by
            unfold swL at q2
            simp only [Bool.and_eq_true] at q2
            exact isK_eq q2.1.1
          have := he.2.2 rfl i y p pos (by rw [P.nm]; exact nmB_eq h1) (by rw [P.sc]; exact hl) hsw
          refine SS.congr (f := fun ρ m => (evE (callF (FT c.G) wf n) e ρ m).bind fun d m => .ok (.nx, ρ.set i (some d)) m) (this.imp fun D σ H ⟨ρ, M, β, l, r, o⟩ => ⟨ρ, M, β, l, r, OutS.bind o fun d m v H1 β1 hv r1 g1 o1 => ?_⟩) fun _ _ => by simp only [evS]
          exact o1.now r1 ((l.grow r g1).set i hv) (Same.set.mono fun j hj => by simp at hj; subst hj; exact hfr)
    · cases h
  | .setT t e, fr, X, W, x, C, P, O, h => by
    unfold chkS at h
    split at h
    · next tg v pos =>
      simp only [Bool.and_eq_true] at h
      obtain ⟨⟨⟨⟨h1, h2⟩, h3⟩, h4⟩, h5⟩ := h
      have he := sndE e X W sc fc v C P h3
      refine SS.congr (ss_setT P C.nd C.calm h1 (by cases tg <;> first | rfl | (cases h2)) he.1 ?_ (all_mem h4)) fun _ _ => by simp only [evS]
      cases v <;> first | exact swp_no rfl | skip
      cases tg <;> first | (cases h2; done) | skip
      exact swp_ok P.sc hk (by simpa using h5)
    · cases h
  | .par is es, fr, X, W, x, C, P, O, h => by
    unfold chkS at h
    split at h
    · simp only [Bool.and_eq_true, decide_eq_true_eq] at h
      obtain ⟨⟨⟨⟨h1, h2⟩, h3⟩, h4⟩, h5⟩ := h
      exact SS.congr (par_ok C P hk h1 h2 h3 h4 h5) fun _ _ => by simp only [evS]
    · cases h
  | .setIx a i e, fr, X, W, x, C, P, O, h => by
    unfold chkS at h
    split at h
    · simp only [Bool.and_eq_true] at h
      obtain ⟨⟨⟨⟨h1, h2⟩, h3⟩, h4⟩, h5⟩ := h
      exact SS.congr (ss_setIx (sndE a X W sc fc _ C P h1).1 (sndE i X W sc fc _ C P h2).1 (sndE e X W sc fc _ C P h3).1 (plainIx_ok h4) h5 (sub_plain h4) swp_sub) fun _ _ => by simp only [evS] <;> rfl
    · cases h
  | .aug i o e, fr, X, W, x, C, P, O, h => by
    unfold chkS at h
    split at h
    · simp only [Bool.and_eq_true] at h
      obtain ⟨⟨⟨⟨h1, h2⟩, h3⟩, h4⟩, h5⟩ := h
      exact SS.congr (aug_ok C P h1 h2 (sndE e X W sc fc _ C P h3).1 (List.contains_iff_mem.mp h4) o _ (by split at h5 <;> first | rfl | cases h5)) fun _ _ => by simp only [evS] <;> rfl
    · cases h
  | .expr e, fr, X, W, x, C, P, O, h => by
    unfold chkS at h
    split at h
    · simp only [Bool.and_eq_true] at h
      exact SS.congr (ss_expr (sndE e X W sc fc _ C P h.1).1 h.2) fun _ _ => by simp only [evS]
    · cases h
  | .app a e, fr, X, W, x, C, P, O, h => by
    unfold chkS at h
    split at h
    · simp only [Bool.and_eq_true] at h
      obtain ⟨⟨⟨⟨⟨h0, h1⟩, h2⟩, h3⟩, h4⟩, h5⟩ := h
      have ex := isE_eq h0
      subst ex
      exact SS.congr (ss_app (sndE a X W sc fc _ C P h1).1 (sndE e X W sc fc _ C P h2).1 h3 h4 h5) fun _ _ => by simp only [evS] <;> rfl
    · cases h
  | .ext a e, fr, X, W, x, C, P, O, h => by
    unfold chkS at h
    split at h
    · simp only [Bool.and_eq_true] at h
      obtain ⟨⟨⟨⟨⟨h0, h1⟩, h2⟩, h3⟩, h4⟩, h5⟩ := h
      have ex := isE_eq h0
      subst ex
      exact SS.congr (ss_ext (sndE a X W sc fc _ C P h1).1 (sndE e X W sc fc _ C P h2).1 h3 h4 h5) fun _ _ => by simp only [evS] <;> rfl
    · cases h
  | .iff e a b, fr, X, W, x, C, P, O, h => by
    unfold chkS at h
    split at h
    · simp only [Bool.and_eq_true] at h
      exact SS.congr (ss_if (sndE e X W sc fc _ C P h.1.1).1 (sndSs hX hk a fr X W _ C P O h.1.2) (sndSs hX hk b fr X W _ C P O h.2)) fun _ _ => by simp only [evS]
    · cases h
  | .for_ t i b wp, fr, X, W, x, C, P, O, h => by
    unfold chkS at h
    split at h
    · simp only [Bool.and_eq_true] at h
      obtain ⟨⟨⟨⟨h1, h2⟩, h3⟩, h4⟩, h5⟩ := h
      exact SS.congr (ss_for (wp := wp) O.ps C.calm (sndI i X W sc fc _ _ C P h1) (tg_ok (T := T) P C.nd C.calm t _ h2) (sndSs hX hk b fr X W _ C P O h3) (noSet_ok h4) (all_mem h5)) fun _ _ => by simp only [evS]
    · cases h
  | .whil e b wp, fr, X, W, x, C, P, O, h => by
    unfold chkS at h
    split at h
    · simp only [Bool.and_eq_true] at h
      exact SS.congr (ss_while (wp := wp) (wf := wf) O.ps (sndE e X W sc fc _ C P h.1).1 (sndSs hX hk b fr X W _ C P O h.2)) fun _ _ => by simp only [evS]
    · cases h
  | .ret e, fr, X, W, x, C, P, O, h => by
    unfold chkS at h
    split at h
    · exact SS.congr (ss_ret (sndE e X W sc fc _ C P h).1) fun _ _ => by simp only [evS]
    · cases h
  | .retN, fr, X, W, x, C, P, O, h => by
    unfold chkS at h
    split at h
    · exact SS.congr ss_retN fun _ _ => by simp only [evS]
    · cases h
  | .brk, fr, X, W, x, C, P, O, h => by
    unfold chkS at h
    split at h
    · exact SS.congr ss_brk fun _ _ => by simp only [evS]
    · cases h
  | .cont, fr, X, W, x, C, P, O, h => by
    unfold chkS at h
    split at h
    · exact SS.congr ss_cont fun _ _ => by simp only [evS]
    · cases h
  | .pass, fr, X, W, x, C, P, O, h => by
    unfold chkS at h
    split at h
    · exact SS.congr ss_pass fun _ _ => by simp only [evS]
    · next v pos =>
      cases v <;> simp only [isOne, Bool.false_eq_true] at h
      rename_i k kk p
      cases k <;> simp only [Bool.false_eq_true] at h
      exact SS.congr ss_doc fun _ _ => by simp only [evS]
    · cases h
  | .raise k es, fr, X, W, x, C, P, O, h => by
    unfold chkS at h
    split at h
    · next y q1 q2 q3 =>
      simp only [Bool.and_eq_true] at h
      obtain ⟨⟨⟨⟨h0, h1⟩, h2⟩, h3⟩, h4⟩ := h
      cases es <;> simp only [Bool.false_eq_true] at h0
      have hm : mkExc k [] = some [] := by
        split at h4
        · assumption
        · cases h4
      exact SS.congr (ss_raise C (by rw [hX]; exact clsB_ok h1) (glB_ok P h2) (okN_ok h3).1) fun ρ m => by simp only [evS, evEs, R.bind_ok, hm, R.of_some]
    · cases h
  | .tryx b ks i j wp, fr, X, W, x, C, P, O, h => by
    unfold chkS at h
    split at h
    · next bd x q1 nm y q4 nm2 q5 q6 q2 q3 =>
      simp only [Bool.and_eq_true, decide_eq_true_eq] at h
      obtain ⟨⟨⟨⟨⟨⟨⟨⟨⟨⟨⟨⟨⟨h0, h1⟩, h2⟩, h3⟩, h4⟩, h5⟩, h6⟩, h7⟩, h8⟩, h9⟩, h10⟩, h11⟩, h12⟩, h13⟩ := h
      subst h8
      split at h0
      · next k =>
        have kn : X.env.kindOf nm = some .local := by
          unfold PySem.Env.kindOf
          rw [P.sc]
          exact isK_eq h5
        have ky : X.env.scope.names.lookup y = some .local := by rw [P.sc]; exact isK_eq h6
        have hi : X.N[i]? = some nm := by rw [P.nm]; exact nmB_eq h3
        have hj : X.N[j]? = some y := by rw [P.nm]; exact nmB_eq h4
        obtain ⟨n1, n2⟩ := okN_ok h7
        refine SS.congr (ss_try (fb := evSs wf (callF (FT c.G) wf n) b) (wp := wp) C O.st O.fr O.ex (by rw [hX]; exact clsB_ok h0) (glB_ok P h1) (okN_ok h2).1 hi hj kn ky n1 n2 (List.contains_iff_mem.mp h9) (List.contains_iff_mem.mp h10) (all_mem h11) h12 (List.getElem?_eq_some_iff.mp hj).1 (fun W' pn xe tk po => ?_)) fun ρ m => ?_
        · exact sndSs hX hk b wp (X.tr pn xe) W' bd ⟨C.nd, C.calm, C.room, tk, C.blt, C.fns, C.cst, C.xk, C.xm⟩ ⟨P.sc, P.nm, P.fc⟩ ⟨po, O.st, O.fr, O.ex⟩ h13
        · simp only [evS]
          cases evSs wf (callF (FT c.G) wf n) b ρ m with
          | bad => rfl
          | ok p m' => rfl
          | exc z m' =>
            cases z <;> first | rfl | skip
            next c' vs =>
            simp only [List.contains_cons, List.contains_nil, Bool.or_false, beq_iff_eq]
      · cases h0
    · cases h
  | .subs as is es, fr, X, W, x, C, P, O, h => by
    unfold chkS at h
    split at h
    · simp only [Bool.and_eq_true, decide_eq_true_eq] at h
      obtain ⟨⟨⟨⟨⟨h1, h2⟩, h3⟩, h4⟩, h5⟩, h6⟩ := h
      exact SS.congr (ss_subs C P hk h1 h2 h3 h4 h5 h6) fun _ _ => by simp only [evS]
    · cases h
  | .stuck, fr, X, W, x, C, P, O, h => SS.congr (f := fun _ _ => .bad) ss_stuck fun _ _ => by simp only [evS]
  | .frz _, fr, X, W, x, C, P, O, h => by simp [chkS] at h
  | .frzD _, fr, X, W, x, C, P, O, h => by simp [chkS] at h
theorem sndSs (hX : T.cls = c.xs) (hk : sc.kind = .function) : ∀ (s : Ss) (fr : List Nat) (X : Cx) (W : WX) (x : List Stmt), Ctx T c.G c.ps c.cs wf n X W → At X sc N fc → Own X → chkSs c N fr sc fc s x = true → SSs T X W fr x (evSs wf (callF (FT c.G) wf n) s)
  | .nil, fr, X, W, x, C, P, O, h => by
    cases x with
    | nil => exact SSs.congr ss_nil fun _ _ => by simp only [evSs]
    | cons _ _ => simp [chkSs] at h
  | .cons s r, fr, X, W, x, C, P, O, h => by
    unfold chkSs at h
    split at h
    · next i => exact SSs.congr (ss_frz (i := i) (sndSs hX hk r fr X W x C P O h)) fun _ _ => by simp only [evSs, evS] <;> rfl
    · next i => exact SSs.congr (ss_frzD (i := i) (sndSs hX hk r fr X W x C P O h)) fun _ _ => by simp only [evSs, evS] <;> rfl
    · next hne =>
      split at h
      · next y ys =>
        simp only [Bool.and_eq_true] at h
        exact SSs.congr (ss_cons (sndS hX hk s fr X W y C P O h.1) (sndSs hX hk r fr X W ys C P O h.2)) fun _ _ => by simp only [evSs] <;> rfl
      · cases h
end
end
end G48
set_option Elab.async false
set_option linter.all false
set_option maxRecDepth 100000
set_option maxHeartbeats 4000000
/-! G48: functions. -/
namespace G48
open PySem PySem.Spec PyProof.Rows L2

def nodupB : List Str → Bool
  | [] => true
  | x :: xs => !(xs.contains x) && nodupB xs
theorem nodupB_ok : ∀ {xs : List Str}, nodupB xs = true → xs.Nodup
  | [], _ => List.nodup_nil
  | x :: xs, h => by
    simp only [nodupB, Bool.and_eq_true, Bool.not_eq_true'] at h
    refine List.nodup_cons.mpr ⟨fun z => ?_, nodupB_ok h.2⟩
    have := List.contains_iff_mem.mpr z
    rw [h.1] at this; cases this
def scpB (N ps : List Str) (sc : Scope) : Bool := (match sc.kind with
  | .function => true
  | _ => false) && !sc.isCoroutine && !sc.isGenerator && nodupB N && decide (N.take ps.length = ps) && (ps.all fun x => isK sc x .local || isK sc x .cell) && sc.names.all fun y => !(y.2 == .free)
theorem scpB_ok {N ps : List Str} {sc : Scope} (h : scpB N ps sc = true) : FnScope N ps sc := by
  unfold scpB at h
  simp only [Bool.and_eq_true, Bool.not_eq_true', decide_eq_true_eq] at h
  obtain ⟨⟨⟨⟨⟨⟨h1, h2⟩, h3⟩, h4⟩, h5⟩, h6⟩, h7⟩ := h
  refine ⟨?_, h2, h3, nodupB_ok h4, h5, fun x hx => ?_, fun y hy z => ?_⟩
  · split at h1
    · assumption
    · cases h1
  · have := List.all_eq_true.mp h6 x hx
    simp only [Bool.or_eq_true] at this
    exact this.imp isK_eq isK_eq
  · have := List.all_eq_true.mp h7 y hy
    rw [z] at this; cases this
/-- a def beside its function of the small language -/
def fnB (c : Cfg) (g : FI) : Bool := scpB g.N g.ps g.sc && decide (g.fn.np = g.ps.length) && decide (g.fn.ns = g.N.length) && decide (g.ps.length ≤ g.N.length) && chkSs c g.N (List.range g.N.length) g.sc (fun _ => true) g.fn.body g.body
/-- where a def lies -/
structure Has (c : Cfg) (K : PySem.W.Frag) (mg : Str → Option Value) (i : Nat) (g : FI) (f : Addr) (fd : FuncData) : Prop where
  gl : mg g.name = some (.ref f)
  fn : ∃ qual params dvs kws, FunD K g.name qual params g.body g.sc dvs kws f fd
  bd : Binds K fd g.ps []
  kb : ∀ p ∈ c.ps, p.f = i → KB K fd g.ps p

section
variable {T : XT} {c : Cfg} {P : Program} {w : World} {K : PySem.W.Frag} {mg : Str → Option Value} {base : Heap} {wf : Nat}
theorem reps_start {M : Mem} {β : Nat → Addr} {H : Hp} {N : List Str} {ds : List D} {vs : List V} {n : Nat} (q : Reps T M β H ds vs) (hn : n = N.length) (hl : ds.length ≤ n) : RlE T M β H (startE n ds) (L2.start N vs) := by
  have hv := q.length
  refine ⟨?_, fun i d e => ?_⟩
  · unfold startE L2.start
    simp only [List.length_append, List.length_map, List.length_replicate]
    omega
  · unfold startE at e
    by_cases hi : i < ds.length
    · rw [List.getElem?_append_left (by simpa using hi), List.getElem?_map] at e
      cases e1 : ds[i]? with
      | none => rw [e1] at e; cases e
      | some d' =>
        rw [e1] at e
        cases e
        obtain ⟨v, e2, r⟩ := q.get e1
        refine ⟨v, ?_, r⟩
        unfold L2.start
        rw [List.getElem?_append_left (by rw [List.length_map, ← hv]; exact hi), List.getElem?_map, e2]
        rfl
    · rw [List.getElem?_append_right (by simpa using hi), List.getElem?_replicate] at e
      split at e <;> cases e
theorem fn_all (hf : ∀ (i : Nat) (g : FI), c.G[i]? = some g → ∃ f fd, Has c K mg i g f fd) (hc : c.G.all (fnB c) = true) (hb : ∀ x ∈ blts, mg x = none) (hcs : ∀ q ∈ c.cs, ∃ v u, mg q.1 = some u ∧ RelV v u ∧ ∀ M β H, Rep T M β H q.2 v) (hX : T.cls = c.xs) (hxk : K = T.K) (hxm : ∀ k x, (k, x) ∈ T.cls → mg x = some (.ref (T.ad x))) :
    ∀ (n i : Nat) (g : FI) (f : Addr) (fd : FuncData), c.G[i]? = some g → Has c K mg i g f fd → FnOk P w K mg base (CX P w) n f fd g.ps (spF T c.G wf n i)
  | 0, i, g, f, fd, _, _ => ⟨fun vs H Q E ⟨ds, M, β, _, _, o⟩ => o.elim, fun A outer s H args us vs Q E _ _ _ _ ⟨ds, M, β, _, _, o⟩ => o.elim⟩
  | n + 1, i, g, f, fd, hi, h => by
    have ih := fn_all hf hc hb hcs hX hxk hxm n
    have hg : fnB c g = true := List.all_eq_true.mp hc g (List.mem_of_getElem? hi)
    unfold fnB at hg
    simp only [Bool.and_eq_true, decide_eq_true_eq] at hg
    obtain ⟨⟨⟨⟨h1, h2⟩, h3⟩, h4⟩, h5⟩ := hg
    have S := scpB_ok h1
    obtain ⟨qual, params, dvs, kws, F⟩ := h.fn
    have hT : (FT c.G)[i]? = some g.fn := by unfold FT; rw [List.getElem?_map, hi]; rfl
    refine F.ok S (fun vs H Q E ⟨ds, M, β, q, r, o⟩ => ?_) (fun cdv A outer s H vs Q E hr ⟨ds, M, β, q, r, o⟩ => ?_)
    · unfold callF at o
      rw [hT] at o
      dsimp only at o
      split at o
      · next e => rw [← q.length, e, h2]
      · exact o.elim
    · unfold callF at o
      rw [hT] at o
      dsimp only at o
      split at o
      · next e =>
        let X := cxOf (CX P w) P w K mg base g.N qual g.sc f cdv A outer s H E
        have C : Ctx T c.G c.ps c.cs wf n X (fun cls d _ H => E cls d H) :=
          ⟨S.nd, rfl, hr, takes_of rfl rfl rfl rfl, hb, fun j g' hj => by
            obtain ⟨f', fd', h'⟩ := hf j g' hj
            obtain ⟨_, _, _, _, F'⟩ := h'.fn
            exact ⟨f', fd', h'.gl, F'.kp, ih j g' f' fd' hj h', h'.bd, h'.kb⟩, hcs, hxk, hxm⟩
        have Pl : At X g.sc g.N (fun _ => true) := ⟨rfl, rfl, fun _ _ => rfl⟩
        refine ⟨_, sndSs hX S.kind g.fn.body (List.range g.N.length) X (fun cls d _ H => E cls d H) g.body C Pl ⟨passes_of rfl, rfl, rfl, rfl⟩ h5, startE g.fn.ns ds, M, β, reps_start q h3 (by omega), r, ?_⟩
        cases qe : evSs wf (callF (FT c.G) wf n) g.fn.body (startE g.fn.ns ds) M with
        | bad => rw [qe] at o; exact o.elim
        | exc x m =>
          rw [qe] at o
          simp only [fin] at o
          split at o
          · next hb =>
            intro cls d H' β' σ' hfl rl gr _
            refine o cls d H' β' ?_ (rl.cut gr.len) gr.cut
            cases x <;> first | trivial | skip
            obtain ⟨xs, h6, h7⟩ := hfl
            exact ⟨xs, h6, Reps.cut gr.len _ _ (by simpa [below] using hb) h7⟩
          · exact o.elim
        | ok p m =>
          obtain ⟨fl, ρ⟩ := p
          rw [qe] at o
          intro σ' H' β' le rl gr _
          cases fl with
          | nx =>
            simp only [fin] at o
            exact o .non H' β' rep_non (rl.cut gr.len) gr.cut
          | bk => exact o.elim
          | ct => exact o.elim
          | rt d =>
            intro v hv
            simp only [fin] at o
            split at o
            · next hb => exact o v H' β' (Rep.cut gr.len d v hb hv) (rl.cut gr.len) gr.cut
            · exact o v H' β' hv rl gr
      · exact o.elim

/-! ### how arguments are bound -/
def arrU (arr : List Ar) (us : List Value) : List Value := arr.filterMap fun
  | .arg k => us[k]?
  | .dft _ => none
def noDft : List Ar → Bool
  | [] => true
  | .arg _ :: r => noDft r
  | .dft _ :: _ => false
theorem arrU_ok : ∀ {arr : List Ar} {vs xs : List V} {us : List Value}, noDft arr = true → Vals vs us → arrV arr vs = some xs → Vals xs (arrU arr us)
  | [], vs, xs, us, _, _, h => by simp only [arrV, Option.some.injEq] at h; subst h; exact .nil
  | .arg k :: r, vs, xs, us, hn, q, h => by
    simp only [arrV, Option.bind_eq_some_iff, Option.map_eq_some_iff] at h
    obtain ⟨v, h1, ys, h2, h3⟩ := h
    subst h3
    obtain ⟨u, e, rv⟩ := q.get h1
    have := arrU_ok (arr := r) hn q h2
    unfold arrU at this ⊢
    rw [List.filterMap_cons]
    simp only [e]
    exact .cons rv this
  | .dft _ :: _, _, _, _, hn, _, _ => by cases hn
theorem kb_of {x qual : Str} {params : Arguments} {body : List Stmt} {scope : Scope} {kws : List (Str × V)} {f : Addr} {fd : FuncData} {ps : List Str} {p : Pat} (F : FunD K x qual params body scope [] kws f fd) (hn : noDft p.arr = true)
    (h : ∀ (kV doc pm : Value) (an : Option Addr) (cdv ct : Value) (us ws : List Value), us.length = p.np → ws.length = p.ks.length → bindArgs (PySem.W.fnOf x qual params body scope .none kV doc pm an cdv ct) ⟨us, p.ks.zip ws⟩ = pure (ps.zip (arrU p.arr (us ++ ws)))) : KB K fd ps p := by
  obtain ⟨oc, od, dV, kV, doc, pm, an, cdv, ct, osl, rfl, lk, hcd, hD, hK⟩ := F.ex
  rcases hD with ⟨_, rfl⟩ | ⟨e, _⟩
  · intro s us ws vs zs xs _ rv rz l1 l2 hx
    exact ⟨_, arrU_ok hn (rv.append rz) hx, .of_eq (h kV doc pm an cdv ct us ws (rv.length.symm.trans l1) (rz.length.symm.trans l2))⟩
  · exact absurd rfl e
end
end G48
set_option Elab.async false
set_option linter.all false
set_option maxRecDepth 100000
set_option maxHeartbeats 4000000
/-! G48: the end of a law. -/
namespace G48
open PySem PySem.Spec PyProof.Rows L2

/-- one def of the text -/
structure FD where
  g : FI
  params : Arguments
  dfl : List He.Dv
def FD.dd (x : FD) : He.DefD := ⟨(x.g.name, none), x.g.name, x.g.name, x.params, x.g.body, x.g.sc, x.dfl, []⟩
def parNames (a : Arguments) : List Str := a.args.map (·.arg)
def nmOf (s : Stmt) : Str := match s with
  | .FunctionDef n _ _ _ _ _ _ _ _ _ => n
  | _ => ""
def fdOf (s : Stmt) (N : List Str) (fn : Fn) (dfl : List He.Dv := []) : FD := ⟨⟨nmOf s, parNames (defArgs s), N, defScope s, defBody s, fn⟩, defArgs s, dfl⟩

/-- objects that are no list -/
def noList (K : PySem.W.Frag) : Bool := K.all fun p => match p.2.cls with
  | .type c => !(c == "list")
  | _ => true
theorem mem_lk {a : Addr} {o : Obj} : ∀ {K : PySem.W.Frag}, K.lookup a = some o → (a, o) ∈ K
  | [], e => nomatch (show (none : Option Obj) = some o from e)
  | (b, u) :: r, e => by
    have e2 : (match a == b with | true => some u | false => List.lookup a r) = some o := e
    cases q : (a == b) with
    | true =>
      rw [q] at e2
      have : u = o := Option.some.inj e2
      rw [beq_iff_eq.mp q, this]
      exact List.mem_cons_self
    | false =>
      rw [q] at e2
      exact List.mem_cons_of_mem _ (mem_lk (K := r) e2)
theorem noList_ok {K : PySem.W.Frag} (h : noList K = true) {a : Addr} {o : Obj} (e : K.lookup a = some o) (hc : o.cls = .type "list") : False := by
  have := List.all_eq_true.mp h (a, o) (mem_lk e)
  dsimp only at this
  rw [hc] at this
  exact absurd this (by decide)
/-- the classes of errors stand as they should -/
def xAll (xs : List (Nat × Str)) (K : PySem.W.Frag) : Bool := (xs.all fun q => (He.Fa.glo q.2).ok K && xcB K (He.ga K q.2) q.1) && xs.all fun q => xs.all fun q' => xpB K (He.ga K q.2) (He.ga K q'.2) q.1 q'.1
def noL (xs : List (Nat × Str)) (K : PySem.W.Frag) : Bool := noList K && xAll xs K
def hookG (n : Nat) (fa : List He.Fa) (fn : List He.DefD) (xs : List (Nat × Str)) : PySem.W.Hook where
  α := He.AlD × Bool
  obs := fun s => (He.obsDG n fa fn s.heap.get?, noL xs (He.frG s.heap.get? (He.asD s.heap.get? n)))
  val := fun _ => (He.valD fn, true)
  says := fun _ h => ∃ K : PySem.W.Frag, K.In h ∧ He.SaysD fa fn K ∧ noL xs K = true
  of := fun _ _ e => ⟨_, He.frG_in, congrArg Prod.fst e, congrArg Prod.snd e⟩
  keeps := fun _ _ _ ⟨K, hK, c⟩ k => ⟨K, PySem.W.Frag.In.keeps hK k, c⟩
def obG (n : Nat) (fa : List He.Fa) (fn : List He.DefD) (xs : List (Nat × Str)) (s : PySem.W.SharedT) : He.AlD × Bool := (He.obsDG n fa fn (HandSHeadRun.getT s), noL xs (He.frG (HandSHeadRun.getT s) (He.asD (HandSHeadRun.getT s) n)))
theorem obG_eq {n : Nat} {fa : List He.Fa} {fn : List He.DefD} {xs : List (Nat × Str)} (s : PySem.W.SharedT) : obG n fa fn xs s = (hookG n fa fn xs).obs s.abs := by
  have e : HandSHeadRun.getT s = s.abs.heap.get? := funext fun a => HandSHeadRun.getT_eq s a
  unfold obG
  rw [e]
  rfl

theorem xAll_ok {xs : List (Nat × Str)} {K : PySem.W.Frag} (h : xAll xs K = true) : (∀ c x, (c, x) ∈ xs → (He.Fa.glo x).ok K = true ∧ XcOk K (He.ga K x) c) ∧ ∀ c x c' x', (c, x) ∈ xs → (c', x') ∈ xs → PySem.W.exmOne K (.ref (He.ga K x)) (.ref (He.ga K x')) = some (c == c') ∧ PySem.W.kitOne K (.ref (He.ga K x)) (.ref (He.ga K x')) = some (c == c') := by
  unfold xAll at h
  rw [Bool.and_eq_true] at h
  refine ⟨fun c x hm => ?_, fun c x c' x' h1 h2 => ?_⟩
  · have := List.all_eq_true.mp h.1 (c, x) hm
    rw [Bool.and_eq_true] at this
    exact ⟨this.1, xcB_ok this.2⟩
  · have := List.all_eq_true.mp (List.all_eq_true.mp h.2 (c, x) h1) (c', x') h2
    unfold xpB at this
    simp only [Bool.and_eq_true, decide_eq_true_eq] at this
    exact this
/-- the classes of a law -/
def TX (xs : List (Nat × Str)) (K : PySem.W.Frag) (h : xAll xs K = true) : XT := ⟨xs, He.ga K, K, fun c x m => ((xAll_ok h).1 c x m).2, (xAll_ok h).2⟩

def BdOk (x : FD) : Prop := x.dfl = [] ∧ ∀ (kV doc pm : Value) (an : Option Addr) (cdv ct : Value) (us : List Value), us.length = x.g.ps.length → bindArgs (PySem.W.fnOf x.g.name x.g.name x.params x.g.body x.g.sc .none kV doc pm an cdv ct) ⟨us, []⟩ = pure (x.g.ps.zip us)
def KbOk (x : FD) (p : Pat) : Prop := noDft p.arr = true ∧ ∀ (kV doc pm : Value) (an : Option Addr) (cdv ct : Value) (us ws : List Value), us.length = p.np → ws.length = p.ks.length → bindArgs (PySem.W.fnOf x.g.name x.g.name x.params x.g.body x.g.sc .none kV doc pm an cdv ct) ⟨us, p.ks.zip ws⟩ = pure (x.g.ps.zip (arrU p.arr (us ++ ws)))
def AllP {α : Type} (P : α → Prop) : List α → Prop
  | [] => True
  | x :: r => P x ∧ AllP P r
theorem AllP.get {α : Type} {P : α → Prop} : ∀ {l : List α} {i : Nat} {x : α}, AllP P l → l[i]? = some x → P x
  | [], i, x, _, e => by simp at e
  | y :: l, 0, x, h, e => by simp at e; subst e; exact h.1
  | y :: l, i + 1, x, h, e => AllP.get (i := i) h.2 (by simpa using e)
theorem AllP.mem {α : Type} {P : α → Prop} {l : List α} {x : α} (h : AllP P l) (e : x ∈ l) : P x := by
  obtain ⟨i, hi⟩ := List.mem_iff_getElem?.mp e
  exact h.get hi

/-- what a name of the text holds -/
inductive KV where
  | i (n : Int)
  | s (x : Str)
def KV.d : KV → D
  | .i n => .int n
  | .s x => .str x
def KV.fa (x : Str) : KV → He.Fa
  | .i n => .int x n
  | .s z => .str x z
def cfgOf (L : List FD) (ps : List Pat) (xs : List (Nat × Str)) (ks : List (Str × KV) := []) : Cfg := ⟨L.map (·.g), ps, ks.map fun q => (q.1, q.2.d), xs⟩
def faOf (L : List FD) (ks : List (Str × KV) := []) : List He.Fa := blts.map He.Fa.free ++ ((L.map fun x => He.Fa.glo x.g.name) ++ ks.map fun q => q.2.fa q.1)

section
variable {T : XT} {L : List FD} {ps : List Pat} {cs : List (Nat × Str)} {ks : List (Str × KV)} {K : PySem.W.Frag} {mg : Str → Option Value} {h : Heap}
theorem facts_mem {fa : List He.Fa} {fn : List He.DefD} (c : He.SaysD fa fn K) {f : He.Fa} (e : f ∈ fa) : f.ok K = true := by
  obtain ⟨i, hi⟩ := List.mem_iff_getElem?.mp e
  exact c.fact i hi
theorem has_all {x : FD} (X : K.In h) (G : h.Ns mainGlobals mg) (c : He.SaysD (faOf L ks) (L.map FD.dd) K) (hb : AllP BdOk L) (hk : AllP (fun p => ∀ x, L[p.f]? = some x → KbOk x p) ps) (i : Nat) (g : FI) (hi : (cfgOf L ps cs ks).G[i]? = some g) : ∃ f fd, Has (cfgOf L ps cs ks) K mg i g f fd := by
  have hi : (L.map (·.g))[i]? = some g := hi
  rw [List.getElem?_map] at hi
  cases e : L[i]? with
  | none => rw [e] at hi; cases hi
  | some x =>
    rw [e] at hi
    cases hi
    obtain ⟨fd, F⟩ := c.def_ i (d := x.dd) (by rw [List.getElem?_map, e]; rfl)
    have hg : mg x.g.name = some (.ref (He.ga K x.g.name)) := He.glo_ok X G (facts_mem c (by
      unfold faOf
      exact List.mem_append_right _ (List.mem_append_left _ (List.mem_map.mpr ⟨x, List.mem_of_getElem? e, rfl⟩))))
    have F : FunD K x.g.name x.g.name x.params x.g.body x.g.sc (x.dd.dvs K) [] (He.ga K x.g.name) fd := F
    have F' := F
    obtain ⟨oc, od, dV, kV, doc, pm, an, cdv, ct, osl, ef, lk, hcd, hD, hK⟩ := F'.ex
    subst ef
    obtain ⟨hd0, hb0⟩ := hb.get e
    have ed : dV = .none := by
      rcases hD with ⟨_, z⟩ | ⟨z, _⟩
      · exact z
      · exact absurd (by show List.map _ x.dfl = []; rw [hd0]; rfl) z
    subst ed
    refine ⟨_, _, hg, ⟨_, _, _, _, F⟩, ?_, fun p hp hpi => ?_⟩
    · exact .all (hb0 kV doc pm an cdv ct)
    · obtain ⟨k1, k2⟩ := hk.mem hp x (by rw [hpi]; exact e)
      intro s us ws vs zs xs _ rv rz l1 l2 hx
      exact ⟨_, arrU_ok k1 (rv.append rz) hx, .of_eq (k2 kV doc pm an cdv ct us ws (rv.length.symm.trans l1) (rz.length.symm.trans l2))⟩
end

/-- the law's end, from a run of the small language -/
theorem law_by {l : PySem.W.OpenLaw} {q : Program} {loose : List Str} {XP : (Str → Option Value) → Heap → Prop} {d : DefRec} {x : Str} {L : List FD} {ps : List Pat} {xs : List (Nat × Str)} {ks : List (Str × KV)} {wf k li hn : Nat} {z : FD}
    (hm : l.most = some 63) (hdf : d.params.defaults = []) (hr : Room k callerA) (hz : L[li]? = some z) (hzp : z.g.ps = [x]) (hzn : z.g.name = d.name)
    (hb : AllP BdOk L) (hk : AllP (fun p => ∀ x, L[p.f]? = some x → KbOk x p) ps) (hc : (cfgOf L ps xs ks).G.all (fnB (cfgOf L ps xs ks)) = true)
    (run : ∀ ns : List Int, ns.length ≤ 63 → ∃ m, callF (L.map (·.g.fn)) wf k li [.scr ns] [] = .ok (.bl true) m) :
    PySem.W.WalkO q loose XP (hookG hn (faOf L ks) (L.map FD.dd) xs).says l.row.toRowW d [] (fun f vs => PySem.call f vs) := by
  have big : 63 ≤ sizeLine := by rw [sizeLine_eq]; decide
  refine Att.attach_call hm hdf fun w s₀ s₁ mg mb fa o pm cd doc a vs ns G Y ho hd hcd hmg hobj hints hlen hg => ?_
  obtain ⟨K, KX, c, nlx⟩ := Y
  obtain ⟨nl, hxA⟩ := Bool.and_eq_true_iff.mp nlx
  let T0 : XT := TX xs K hxA
  have hxm : ∀ k y, (k, y) ∈ T0.cls → mg y = some (.ref (T0.ad y)) := fun k y hm => He.glo_ok KX G.T.g ((xAll_ok hxA).1 k y hm).1
  have hG : (cfgOf L ps xs ks).G[li]? = some z.g := by show (L.map (·.g))[li]? = _; rw [List.getElem?_map, hz]; rfl
  have hf : ∀ (i : Nat) (g : FI), (cfgOf L ps xs ks).G[i]? = some g → ∃ f fd, Has (cfgOf L ps xs ks) K mg i g f fd := has_all (x := z) KX G.T.g c hb hk
  have hbl : ∀ x ∈ blts, mg x = none := fun x hx => He.free_ok KX G.T.g (facts_mem c (by
    unfold faOf
    exact List.mem_append_left _ (List.mem_map.mpr ⟨x, hx, rfl⟩)))
  have hcs : ∀ q ∈ (cfgOf L ps xs ks).cs, ∃ v u, mg q.1 = some u ∧ RelV v u ∧ ∀ M β H, Rep T0 M β H q.2 v := fun q hq => by
    obtain ⟨q0, hq0, rfl⟩ := List.mem_map.mp hq
    have hfa := facts_mem c (f := q0.2.fa q0.1) (by
      unfold faOf
      exact List.mem_append_right _ (List.mem_append_right _ (List.mem_map.mpr ⟨q0, hq0, rfl⟩)))
    obtain ⟨x0, k0⟩ := q0
    cases k0 with
    | i n =>
      obtain ⟨t, ht⟩ := He.int_ok KX G.T.g hfa
      exact ⟨.int n, _, ht, ⟨_, rfl⟩, fun _ _ _ => rep_int⟩
    | s z0 =>
      obtain ⟨t, ht⟩ := He.str_ok KX G.T.g hfa
      exact ⟨.str z0, _, ht, ⟨_, rfl⟩, fun _ _ _ => rep_str⟩
  obtain ⟨f, fd, H⟩ := hf li z.g hG
  have ef : f = fa := by
    have := H.gl
    rw [hzn, hmg] at this
    cases this; rfl
  subst ef
  have hF : ∀ base : Heap, K.In base → base.Ns mainGlobals mg → FnOk l.prog w K mg base (CX l.prog w) k f fd [x] (spF T0 (cfgOf L ps xs ks).G wf k li) := fun base _ _ => by
    have := fn_all (T := T0) (P := l.prog) (w := w) (base := base) (wf := wf) hf hc hbl hcs rfl rfl hxm k li z.g f fd hG H
    rw [hzp] at this; exact this
  have hbd : ∀ (s : Shared) (u : Value), BindsTo s fd ⟨[u], []⟩ [(x, u)] := fun s u => by
    obtain ⟨_, _, _, _, F⟩ := H.fn
    obtain ⟨oc, od, dV, kV, doc, pm, an, cdv, ct, osl, e1, lk, _⟩ := F.ex
    obtain ⟨fd2, F2⟩ := c.def_ li (d := z.dd) (by rw [List.getElem?_map, hz]; rfl)
    obtain ⟨oc2, od2, dV2, kV2, doc2, pm2, an2, cdv2, ct2, osl2, e2, lk2, _, hD2, _⟩ := F2.ex
    obtain ⟨hd0, hb0⟩ := hb.get hz
    have ed : dV2 = .none := by
      rcases hD2 with ⟨_, z2⟩ | ⟨z2, _⟩
      · exact z2
      · exact absurd (by show List.map _ z.dfl = []; rw [hd0]; rfl) z2
    subst ed
    have eg : He.fAd K z.dd.at_ = f := by
      have h1 : mg z.g.name = some (.ref (He.ga K z.g.name)) := He.glo_ok KX G.T.g (facts_mem c (by
        unfold faOf
        exact List.mem_append_right _ (List.mem_append_left _ (List.mem_map.mpr ⟨z, List.mem_of_getElem? hz, rfl⟩))))
      rw [hzn, hmg] at h1
      cases h1
      show He.ga K z.g.name = _
      rw [hzn]
    rw [eg, lk] at lk2
    cases lk2
    rw [e2]
    have := hb0 kV2 doc2 pm2 an2 cdv2 ct2 [u] (by rw [hzp]; rfl)
    rw [hzp] at this
    exact .of_eq this
  refine law_call (CX := CX l.prog w) KX G.T.g G.T.b G.T.builtins G.T.nolimit hg hobj hints (Nat.le_trans hlen big) hr hF hbd (fun H' hO hS => ?_) fun H' e s' hx => ?_
  · obtain ⟨m, hm⟩ := run ns hlen
    refine ⟨[.scr ns], [], fun _ => 0, Reps.cons ?_ Reps.nil, ⟨fun n c e => by simp at e, fun n k c e h1 => by simp at h1⟩, ?_⟩
    · unfold Rep
      rcases hS with hS | ⟨ob, its, n, hk, hc, _⟩
      · rcases hS with hS | ⟨ob, hS⟩
        · rcases hO a with z | ⟨_, _, z⟩
          · rw [z] at hS; cases hS
          · rw [z] at hS; cases hS
        · exact ⟨a, ob, rfl, hS⟩
      · exact (noList_ok nl hk hc).elim
    · have e : FT (cfgOf L ps xs ks).G = L.map (·.g.fn) := by
        show (L.map (·.g)).map (·.fn) = _
        rw [List.map_map]
        rfl
      rw [e, hm]
      intro v H2 β2 hv _ _
      unfold Rep at hv
      exact hv
  · obtain ⟨_, _, _, _, _, _, _, _, _, _, _, _, zz⟩ := hx
    exact zz
end G48
set_option linter.all false
set_option maxRecDepth 100000
namespace Gk24
open PySem G48
/- 0 running : 0=numbers 1=found 2=number -/
def fn_running : Fn := ⟨1, 3, (.cons (.set 1 (.cel (.cons (.int 0) .nil))) (.cons (.for_ (.nm 2) (.of (.var 0)) (.cons (.app (.var 1) (.bin .add (.ix (.var 1) (.neg (.int 1))) (.var 2))) .nil) [2]) (.cons (.frz 1) (.cons (.ret (.b1 .tuple (.var 1))) .nil))))⟩
/- 1 sizes : 0=plan -/
def fn_sizes : Fn := ⟨1, 1, (.cons (.ret (.tup (.cons (.b1 .len (.var 0)) (.cons (.b1 .len (.ix (.var 0) (.int 0))) .nil)))) .nil)⟩
/- 2 sums_of : 0=plan 1=row 2=column -/
def fn_sums_of : Fn := ⟨1, 3, (.cons (.ret (.tup (.cons (.b1 .tuple (.comp false (.b1 .sum (.var 1)) (.nm 1) (.of (.var 0)) .nil)) (.cons (.b1 .tuple (.comp false (.b1 .sum (.var 2)) (.nm 2) (.zipS (.var 0)) .nil)) .nil)))) .nil)⟩
/- 3 corners : 0=plan 1=found 2=row 3=above 4=own -/
def fn_corners : Fn := ⟨1, 5, (.cons (.set 1 (.cel (.cons (.b1 .tuple (.bin .mul (.lst (.cons (.int 0) .nil)) (.bin .add (.b1 .len (.ix (.var 0) (.int 0))) (.int 1)))) .nil))) (.cons (.for_ (.nm 2) (.of (.var 0)) (.cons (.app (.var 1) (.b1 .tuple (.comp false (.bin .add (.var 3) (.var 4)) (.tp (.cons (.nm 3) (.cons (.nm 4) .nil))) (.zip (.cons (.ix (.var 1) (.neg (.int 1))) (.cons (.call 0 (.cons (.var 2) .nil)) .nil))) .nil))) .nil) [2]) (.cons (.frz 1) (.cons (.ret (.b1 .tuple (.var 1))) .nil))))⟩
/- 4 toll : 0=price 1=way 2=square 3=bends 4=where 5=weight -/
def fn_toll : Fn := ⟨2, 6, (.cons (.setT (.tp (.cons (.nm 2) (.cons (.nm 3) .nil))) (.var 0)) (.cons (.ret (.bin .add (.bin .mul (.bin .mul (.var 2) (.var 1)) (.var 1)) (.b1 .sum (.comp false (.bin .mul (.var 5) (.b1 .abs (.bin .sub (.var 1) (.var 4)))) (.tp (.cons (.nm 4) (.cons (.nm 5) .nil))) (.of (.var 3)) .nil)))) .nil))⟩
/- 5 check_road : 0=plan 1=road -/
def fn_check_road : Fn := ⟨2, 2, (.cons (.iff (.cmp .ne (.call 1 (.cons (.var 0) .nil)) (.tup (.cons (.b1 .len (.ix (.var 1) (.int 0))) (.cons (.b1 .len (.ix (.var 1) (.int 1))) .nil)))) (.cons (.raise 0 .nil) .nil) .nil) .nil)⟩
/- 6 cost : 0=plan 1=road 2=price 3=total 4=begin 5=row 6=end 7=many -/
def fn_cost : Fn := ⟨3, 8, (.cons (.expr (.call 5 (.cons (.var 0) (.cons (.var 1) .nil)))) (.cons (.set 3 (.int 0)) (.cons (.for_ (.tp (.cons (.nm 4) (.cons (.nm 5) .nil))) (.zip (.cons (.ix (.var 1) (.int 0)) (.cons (.var 0) .nil))) (.cons (.set 3 (.bin .add (.var 3) (.b1 .sum (.comp false (.bin .mul (.var 7) (.call 4 (.cons (.var 2) (.cons (.bin .sub (.var 6) (.var 4)) .nil)))) (.tp (.cons (.nm 6) (.cons (.nm 7) .nil))) (.zip (.cons (.ix (.var 1) (.int 1)) (.cons (.var 5) .nil))) .nil)))) .nil) [4, 5]) (.cons (.ret (.var 3)) .nil))))⟩
/- 7 how_many_by : 0=places 1=spot 2=place -/
def fn_how_many_by : Fn := ⟨2, 3, (.cons (.ret (.b1 .len (.comp false (.var 2) (.nm 2) (.of (.var 0)) (.cons (.cmp .le (.var 2) (.var 1)) .nil)))) .nil)⟩
/- 8 passings : 0=plan 1=road 2=table 3=lots 4=found 5=spots 6=begin 7=end 8=many 9=bakers 10=shops -/
def fn_passings : Fn := ⟨2, 11, (.cons (.expr (.call 5 (.cons (.var 0) (.cons (.var 1) .nil)))) (.cons (.par [2, 3, 4] (.cons (.call 3 (.cons (.var 0) .nil)) (.cons (.call 2 (.cons (.var 0) .nil)) (.cons (.cel .nil) .nil)))) (.cons (.set 5 (.b1 .sortSet (.lst (.star (.ix (.var 1) (.int 0)) (.star (.ix (.var 1) (.int 1)) .nil))))) (.cons (.for_ (.tp (.cons (.nm 6) (.cons (.nm 7) .nil))) (.zip (.cons (.var 5) (.cons (.slice (.var 5) (.cons (.int 1) .nil) .nil) .nil))) (.cons (.par [9, 10] (.cons (.call 7 (.cons (.ix (.var 1) (.int 0)) (.cons (.var 6) .nil))) (.cons (.call 7 (.cons (.ix (.var 1) (.int 1)) (.cons (.var 6) .nil))) .nil))) (.cons (.set 8 (.bin .sub (.bin .add (.b1 .sum (.slice (.ix (.var 3) (.int 0)) .nil (.cons (.var 9) .nil))) (.b1 .sum (.slice (.ix (.var 3) (.int 1)) .nil (.cons (.var 10) .nil)))) (.bin .mul (.int 2) (.ix (.ix (.var 2) (.var 9)) (.var 10))))) (.cons (.app (.var 4) (.tup (.cons (.var 6) (.cons (.var 7) (.cons (.var 8) .nil))))) .nil))) [6, 7, 8, 9, 10]) (.cons (.frz 4) (.cons (.ret (.var 4)) .nil))))))⟩
/- 9 _law_box : 0=_law_script 1=_law_k 2=_law_cell -/
def fn_law_box : Fn := ⟨2, 3, (.cons (.set 2 (.ife (.cmp .lt (.var 1) (.b1 .len (.var 0))) (.ix (.var 0) (.var 1)) (.int 0))) (.cons (.ret (.cel (.cons (.bin .mul (.b1 .abs (.var 2)) (.b1 .int (.cmp .ge (.b1 .abs (.var 2)) (.bin .pow (.int 10) (.int 18))))) (.cons (.bin .add (.bin .add (.bin .mod (.b1 .int (.var 2)) (.int 2305843009213693951)) (.bin .mul (.int 39373) (.var 1))) (.int 32547)) (.cons (.int 0) .nil))))) .nil))⟩
/- 10 _law_take : 0=_law_box_here 1=_law_below_so 2=_law_drawn_so 3=_law_once 4=_law_far_so 5=_law_twice_so -/
def fn_law_take : Fn := ⟨2, 6, (.cons (.iff (.cmp .gt (.ix (.var 0) (.int 0)) (.int 0)) (.cons (.set 2 (.bin .mod (.b1 .int (.ix (.var 0) (.int 0))) (.var 1))) (.cons (.setIx (.var 0) (.int 0) (.bin .fdiv (.ix (.var 0) (.int 0)) (.var 1))) (.cons (.ret (.var 2)) .nil))) .nil) (.cons (.setIx (.var 0) (.int 2) (.bin .add (.ix (.var 0) (.int 2)) (.int 1))) (.cons (.set 3 (.bin .mod (.b1 .int (.bin .mul (.bin .add (.ix (.var 0) (.int 1)) (.bin .mul (.int 48271) (.ix (.var 0) (.int 2)))) (.bin .add (.int 39373) (.ix (.var 0) (.int 2))))) (.int 2147483647))) (.cons (.set 4 (.bin .add (.bin .mod (.b1 .int (.var 3)) (.int 40009)) (.int 7))) (.cons (.set 5 (.bin .mod (.b1 .int (.bin .mul (.bin .add (.bin .add (.var 3) (.ix (.var 0) (.int 2))) (.bin .fdiv (.ix (.var 0) (.int 1)) (.int 1000003))) (.var 4))) (.int 2147483629))) (.cons (.ret (.bin .mod (.b1 .int (.bin .fdiv (.bin .mod (.b1 .int (.bin .add (.bin .mul (.var 5) (.int 48271)) (.var 3))) (.int 2147483587)) (.int 64))) (.var 1))) .nil))))))⟩
/- 11 _law_cells : 0=_law_script 1=_law_most_so 2=_law_cells_here 3=_law_k 4=_law_cell 5=_law_at_so -/
def fn_law_cells : Fn := ⟨2, 6, (.cons (.set 2 (.or (.cellOf (.b1 .list (.slice (.var 0) .nil (.cons (.var 1) .nil)))) (.cel (.cons (.int 0) .nil)))) (.cons (.for_ (.tp (.cons (.nm 3) (.cons (.nm 4) .nil))) (.enum (.slice (.var 0) (.cons (.var 1) .nil) (.cons (.int 63) .nil))) (.cons (.set 5 (.bin .mod (.b1 .int (.var 3)) (.var 1))) (.cons (.setIx (.var 2) (.var 5) (.bin .add (.ix (.var 2) (.var 5)) (.bin .mul (.var 4) (.bin .add (.var 3) (.int 2))))) .nil)) [3, 4, 5]) (.cons (.frz 2) (.cons (.ret (.var 2)) .nil))))⟩
/- 12 _law_of : 0=_law_box_here 1=_law_pool_so -/
def fn_law_of : Fn := ⟨2, 2, (.cons (.ret (.ix (.var 1) (.call 10 (.cons (.var 0) (.cons (.b1 .len (.var 1)) .nil))))) .nil)⟩
/- 13 _law_lists : 0=_law_matter 1=_law_bit -/
def fn_law_lists : Fn := ⟨1, 2, (.cons (.ret (.ife (.isin (.var 0) [.list, .tuple]) (.comp false (.call 13 (.cons (.var 1) .nil)) (.nm 1) (.of (.var 0)) .nil) (.var 0))) .nil)⟩
/- 14 _law_same : 0=_law_got 1=_law_due_so 2=_law_mine 3=_law_its -/
def fn_law_same : Fn := ⟨2, 4, (.cons (.iff (.isin (.var 1) [.list, .tuple]) (.cons (.iff (.or (.cmp .ne (.isin (.var 0) [.list]) (.isin (.var 1) [.list])) (.cmp .ne (.isin (.var 0) [.tuple]) (.isin (.var 1) [.tuple]))) (.cons (.ret (.bl false)) .nil) .nil) (.cons (.ret (.and (.cmp .eq (.b1 .len (.var 0)) (.b1 .len (.var 1))) (.b1 .all (.comp false (.call 14 (.cons (.var 2) (.cons (.var 3) .nil))) (.tp (.cons (.nm 2) (.cons (.nm 3) .nil))) (.zip (.cons (.var 0) (.cons (.var 1) .nil))) .nil)))) .nil)) .nil) (.cons (.iff (.or (.isN (.var 1)) (.isin (.var 1) [.bool, .str])) (.cons (.ret (.and (.cmp .eq (.var 0) (.var 1)) (.and (.cmp .eq (.isin (.var 0) [.bool]) (.isin (.var 1) [.bool])) (.cmp .eq (.isN (.var 0)) (.isN (.var 1)))))) .nil) .nil) (.cons (.ret (.and (.isin (.var 0) [.int]) (.and (.not (.isin (.var 0) [.bool])) (.cmp .eq (.var 0) (.var 1))))) .nil)))⟩
/- 15 _law_plan : 0=_law_box_here 1=_law_many_so 2=_law_wide_so 3=_law_top_so 4=_law_sort_so 5=_law_found 6=_law_k 7=_law_row_so 8=_law_j -/
def fn_law_plan : Fn := ⟨4, 9, (.cons (.par [4, 5] (.cons (.call 10 (.cons (.var 0) (.cons (.int 4) .nil))) (.cons (.cel .nil) .nil))) (.cons (.for_ (.nm 6) (.rng (.cons (.var 1) .nil)) (.cons (.set 7 (.comp false (.ife (.or (.cmp .lt (.var 4) (.int 2)) (.cmp .eq (.call 10 (.cons (.var 0) (.cons (.int 2) .nil))) (.int 0))) (.call 10 (.cons (.var 0) (.cons (.bin .add (.var 3) (.int 1)) .nil))) (.int 0)) (.nm 8) (.rng (.cons (.var 2) .nil)) .nil)) (.cons (.app (.var 5) (.b1 .tuple (.var 7))) .nil)) [6, 7, 8]) (.cons (.frz 5) (.cons (.ret (.b1 .tuple (.var 5))) .nil))))⟩
/- 16 _law_road : 0=_law_box_here 1=_law_many_so 2=_law_wide_so 3=_law_high_so 4=_law_lots_so 5=_law_size_so 6=_law_some 7=_law_k -/
def fn_law_road : Fn := ⟨4, 8, (.cons (.set 4 (.cel .nil)) (.cons (.for_ (.nm 5) (.of (.tup (.cons (.var 1) (.cons (.var 2) .nil)))) (.cons (.set 6 (.comp false (.bin .sub (.call 10 (.cons (.var 0) (.cons (.bin .add (.var 3) (.int 4)) .nil))) (.int 3)) (.nm 7) (.rng (.cons (.var 5) .nil)) .nil)) (.cons (.app (.var 4) (.b1 .tuple (.b1 .sorted (.var 6)))) .nil)) [5, 6, 7]) (.cons (.frz 4) (.cons (.ret (.b1 .tuple (.var 4))) .nil))))⟩
/- 17 _law_due : 0=_law_plan_so 1=_law_road_so 2=_law_spots_so 3=_law_found 4=_law_k 5=_law_total_so 6=_law_i 7=_law_row_so 8=_law_j 9=_law_many_so 10=_law_ends_so -/
def fn_law_due : Fn := ⟨2, 11, (.cons (.par [2, 3] (.cons (.b1 .sortSet (.bin .add (.ix (.var 1) (.int 0)) (.ix (.var 1) (.int 1)))) (.cons (.cel .nil) .nil))) (.cons (.for_ (.nm 4) (.rng (.cons (.bin .sub (.b1 .len (.var 2)) (.int 1)) .nil)) (.cons (.set 5 (.int 0)) (.cons (.for_ (.tp (.cons (.nm 6) (.cons (.nm 7) .nil))) (.enum (.var 0)) (.cons (.for_ (.tp (.cons (.nm 8) (.cons (.nm 9) .nil))) (.enum (.var 7)) (.cons (.set 10 (.b1 .sorted (.lst (.cons (.ix (.ix (.var 1) (.int 0)) (.var 6)) (.cons (.ix (.ix (.var 1) (.int 1)) (.var 8)) .nil))))) (.cons (.set 5 (.bin .add (.var 5) (.bin .mul (.var 9) (.b1 .int (.and (.cmp .le (.ix (.var 10) (.int 0)) (.ix (.var 2) (.var 4))) (.cmp .le (.ix (.var 2) (.bin .add (.var 4) (.int 1))) (.ix (.var 10) (.int 1)))))))) .nil)) [8, 9, 10]) .nil) [6, 7, 8, 9, 10]) (.cons (.app (.var 3) (.tup (.cons (.ix (.var 2) (.var 4)) (.cons (.ix (.var 2) (.bin .add (.var 4) (.int 1))) (.cons (.var 5) .nil))))) .nil))) [4, 5, 6, 7, 8, 9, 10]) (.cons (.frz 3) (.cons (.ret (.var 3)) .nil))))⟩
/- 18 _law_by_hand_right : 0=_law_near_so 1=_law_far_so 2=_law_road_so 3=_law_high_so 4=_law_got 5=_law_due_here 6=_law_eight_so 7=_law_i 8=_law_j 9=_law_k 10=_law_one_so -/
def fn_law_by_hand_right : Fn := ⟨0, 11, (.cons (.par [0, 1, 2, 3] (.cons (.tup (.cons (.tup (.cons (.int 2) (.cons (.int 1) .nil))) (.cons (.tup (.cons (.int 0) (.cons (.int 2) .nil))) .nil))) (.cons (.tup (.cons (.tup (.cons (.int 1) (.cons (.int 2) .nil))) (.cons (.tup (.cons (.int 1) (.cons (.int 1) .nil))) .nil))) (.cons (.tup (.cons (.tup (.cons (.int 0) (.cons (.int 4) .nil))) (.cons (.tup (.cons (.int 1) (.cons (.int 6) .nil))) .nil))) (.cons (.bin .pow (.int 10) (.int 40)) .nil))))) (.cons (.set 4 (.cel (.cons (.call 8 (.cons (.var 0) (.cons (.var 2) .nil))) (.cons (.call 8 (.cons (.var 1) (.cons (.var 2) .nil))) .nil)))) (.cons (.frz 4) (.cons (.set 5 (.cel (.cons (.lst (.cons (.tup (.cons (.int 0) (.cons (.int 1) (.cons (.int 3) .nil)))) (.cons (.tup (.cons (.int 1) (.cons (.int 4) (.cons (.int 1) .nil)))) (.cons (.tup (.cons (.int 4) (.cons (.int 6) (.cons (.int 3) .nil)))) .nil)))) (.cons (.lst (.cons (.tup (.cons (.int 0) (.cons (.int 1) (.cons (.int 3) .nil)))) (.cons (.tup (.cons (.int 1) (.cons (.int 4) (.cons (.int 3) .nil)))) (.cons (.tup (.cons (.int 4) (.cons (.int 6) (.cons (.int 3) .nil)))) .nil)))) .nil)))) (.cons (.frz 5) (.cons (.set 4 (.cellOf (.bin .add (.var 4) (.lst (.cons (.callA 8 (.cons (.lst (.cons (.lst (.cons (.int 3) (.cons (.int 3) .nil))) (.cons (.lst (.cons (.int 3) (.cons (.int 3) .nil))) .nil))) (.cons (.lst (.cons (.lst (.cons (.int 2) (.cons (.int 1) .nil))) (.cons (.lst (.cons (.int 0) (.cons (.int 2) .nil))) .nil))) .nil)) [.arg 1, .arg 0]) (.cons (.call 8 (.cons (.var 0) (.cons (.tup (.cons (.tup (.cons (.int 5) (.cons (.int 5) .nil))) (.cons (.tup (.cons (.int 0) (.cons (.int 0) .nil))) .nil))) .nil))) .nil)))))) (.cons (.frz 4) (.cons (.set 5 (.cellOf (.bin .add (.var 5) (.lst (.cons (.lst .nil) (.cons (.lst (.cons (.tup (.cons (.int 0) (.cons (.int 5) (.cons (.int 5) .nil)))) .nil)) .nil)))))) (.cons (.frz 5) (.cons (.set 4 (.cellOf (.bin .add (.var 4) (.lst (.cons (.call 8 (.cons (.var 0) (.cons (.tup (.cons (.tup (.cons (.int 0) (.cons (.int 9) .nil))) (.cons (.tup (.cons (.int 9) (.cons (.int 9) .nil))) .nil))) .nil))) (.cons (.call 8 (.cons (.var 0) (.cons (.tup (.cons (.tup (.cons (.int 0) (.cons (.int 4) .nil))) (.cons (.tup (.cons (.int 0) (.cons (.int 4) .nil))) .nil))) .nil))) .nil)))))) (.cons (.app (.var 4) (.call 8 (.cons (.tup (.cons (.tup (.cons (.int 7) .nil)) .nil)) (.cons (.tup (.cons (.tup (.cons (.int 2) .nil)) (.cons (.tup (.cons (.neg (.int 1)) .nil)) .nil))) .nil)))) (.cons (.set 5 (.cellOf (.bin .add (.var 5) (.lst (.cons (.lst (.cons (.tup (.cons (.int 0) (.cons (.int 9) (.cons (.int 3) .nil)))) .nil)) (.cons (.lst (.cons (.tup (.cons (.int 0) (.cons (.int 4) (.cons (.int 1) .nil)))) .nil)) (.cons (.lst (.cons (.tup (.cons (.neg (.int 1)) (.cons (.int 2) (.cons (.int 7) .nil)))) .nil)) .nil))))))) (.cons (.app (.var 4) (.call 8 (.cons (.tup (.cons (.tup (.cons (.int 0) (.cons (.int 0) .nil))) (.cons (.tup (.cons (.int 0) (.cons (.int 0) .nil))) .nil))) (.cons (.tup (.cons (.tup (.cons (.int 0) (.cons (.int 1) .nil))) (.cons (.tup (.cons (.int 2) (.cons (.int 3) .nil))) .nil))) .nil)))) (.cons (.app (.var 5) (.lst (.cons (.tup (.cons (.int 0) (.cons (.int 1) (.cons (.int 0) .nil)))) (.cons (.tup (.cons (.int 1) (.cons (.int 2) (.cons (.int 0) .nil)))) (.cons (.tup (.cons (.int 2) (.cons (.int 3) (.cons (.int 0) .nil)))) .nil))))) (.cons (.app (.var 4) (.call 8 (.cons (.tup (.cons (.tup (.cons (.var 3) (.cons (.int 0) .nil))) (.cons (.tup (.cons (.int 0) (.cons (.var 3) .nil))) .nil))) (.cons (.tup (.cons (.tup (.cons (.neg (.var 3)) (.cons (.int 0) .nil))) (.cons (.tup (.cons (.int 0) (.cons (.var 3) .nil))) .nil))) .nil)))) (.cons (.app (.var 5) (.lst (.cons (.tup (.cons (.neg (.var 3)) (.cons (.int 0) (.cons (.var 3) .nil)))) (.cons (.tup (.cons (.int 0) (.cons (.var 3) (.cons (.var 3) .nil)))) .nil)))) (.cons (.set 6 (.b1 .tuple (.comp false (.b1 .tuple (.comp false (.b1 .int (.cmp .eq (.bin .add (.var 7) (.var 8)) (.int 7))) (.nm 8) (.rng (.cons (.int 8) .nil)) .nil)) (.nm 7) (.rng (.cons (.int 8) .nil)) .nil))) (.cons (.app (.var 4) (.call 8 (.cons (.var 6) (.cons (.tup (.cons (.seqI true (.rng (.cons (.int 8) .nil))) (.cons (.seqI true (.rng (.cons (.int 8) .nil))) .nil))) .nil)))) (.cons (.frz 4) (.cons (.app (.var 5) (.comp false (.tup (.cons (.var 9) (.cons (.bin .add (.var 9) (.int 1)) (.cons (.bin .mul (.int 2) (.min2 (.bin .add (.var 9) (.int 1)) (.bin .sub (.int 7) (.var 9)))) .nil)))) (.nm 9) (.rng (.cons (.int 7) .nil)) .nil)) (.cons (.frz 5) (.cons (.set 10 (.call 20 (.cons (.var 0) (.cons (.var 2) .nil)))) (.cons (.app (.var 10) (.str "x")) (.cons (.ret (.call 14 (.cons (.bin .add (.var 4) (.lst (.cons (.call 8 (.cons (.var 0) (.cons (.var 2) .nil))) .nil))) (.cons (.bin .add (.var 5) (.lst (.cons (.ix (.var 5) (.int 0)) .nil))) .nil)))) .nil))))))))))))))))))))))))⟩
/- 19 _law_right : 0=_law_box_here 1=_law_turn 2=_law_plan_so 3=_law_road_so 4=_law_told_so 5=_law_total_so 6=_law_again_so 7=_law_due_here 8=_law_own -/
def fn_law_right : Fn := ⟨1, 9, (.cons (.for_ (.nm 1) (.rng (.cons (.int 8) .nil)) (.cons (.set 2 (.call 15 (.cons (.var 0) (.cons (.bin .add (.int 1) (.call 10 (.cons (.var 0) (.cons (.int 5) .nil)))) (.cons (.bin .add (.int 1) (.call 10 (.cons (.var 0) (.cons (.int 5) .nil)))) (.cons (.call 12 (.cons (.var 0) (.cons (.lst (.cons (.int 3) (.cons (.int 9) (.cons (.bin .pow (.int 10) (.int 38)) .nil)))) .nil))) .nil)))))) (.cons (.set 3 (.call 16 (.cons (.var 0) (.cons (.b1 .len (.var 2)) (.cons (.b1 .len (.ix (.var 2) (.int 0))) (.cons (.call 12 (.cons (.var 0) (.cons (.lst (.cons (.int 1) (.cons (.int 4) (.cons (.int 12) .nil)))) .nil))) .nil)))))) (.cons (.set 4 (.call 8 (.cons (.var 2) (.cons (.var 3) .nil)))) (.cons (.par [6, 7] (.cons (.call 8 (.cons (.call 13 (.cons (.var 2) .nil)) (.cons (.call 13 (.cons (.var 3) .nil)) .nil))) (.cons (.call 17 (.cons (.var 2) (.cons (.var 3) .nil))) .nil))) (.cons (.iff (.not (.call 14 (.cons (.lst (.cons (.var 4) (.cons (.var 6) .nil))) (.cons (.lst (.cons (.var 7) (.cons (.var 7) .nil))) .nil)))) (.cons (.ret (.bl false)) .nil) .nil) (.cons (.set 5 (.b1 .sum (.comp false (.bin .mul (.bin .sub (.ix (.var 8) (.int 1)) (.ix (.var 8) (.int 0))) (.ix (.var 8) (.int 2))) (.nm 8) (.of (.var 4)) .nil))) (.cons (.iff (.not (.call 14 (.cons (.call 6 (.cons (.var 2) (.cons (.var 3) (.cons (.tup (.cons (.int 0) (.cons (.tup (.cons (.tup (.cons (.int 0) (.cons (.int 1) .nil))) .nil)) .nil))) .nil)))) (.cons (.var 5) .nil)))) (.cons (.ret (.bl false)) .nil) .nil) .nil))))))) [1, 2, 3, 4, 5, 6, 7]) (.cons (.ret (.bl true)) .nil))⟩
/- 20 passings : 0=plan 1=road 2=table 3=lots 4=found 5=spots 6=begin 7=end 8=many 9=bakers 10=shops -/
def fn_passings_new : Fn := ⟨2, 11, (.cons (.expr (.call 5 (.cons (.var 0) (.cons (.var 1) .nil)))) (.cons (.par [2, 3, 4] (.cons (.call 3 (.cons (.var 0) .nil)) (.cons (.call 2 (.cons (.var 0) .nil)) (.cons (.cel .nil) .nil)))) (.cons (.set 5 (.b1 .sortSet (.lst (.star (.ix (.var 1) (.int 0)) (.star (.ix (.var 1) (.int 1)) .nil))))) (.cons (.for_ (.tp (.cons (.nm 6) (.cons (.nm 7) .nil))) (.zip (.cons (.var 5) (.cons (.slice (.var 5) (.cons (.int 1) .nil) .nil) .nil))) (.cons (.par [9, 10] (.cons (.call 7 (.cons (.ix (.var 1) (.int 0)) (.cons (.var 6) .nil))) (.cons (.call 7 (.cons (.ix (.var 1) (.int 1)) (.cons (.var 6) .nil))) .nil))) (.cons (.set 8 (.bin .sub (.bin .add (.b1 .sum (.slice (.ix (.var 3) (.int 0)) .nil (.cons (.var 9) .nil))) (.b1 .sum (.slice (.ix (.var 3) (.int 1)) .nil (.cons (.var 10) .nil)))) (.bin .mul (.int 2) (.ix (.ix (.var 2) (.var 9)) (.var 10))))) (.cons (.app (.var 4) (.tup (.cons (.var 6) (.cons (.var 7) (.cons (.var 8) .nil))))) .nil))) [6, 7, 8, 9, 10]) (.cons (.ret (.var 4)) .nil)))))⟩
/- 21 law : 0=_law_script 1=_law_cells_here 2=_law_k -/
def fn_law : Fn := ⟨1, 3, (.cons (.iff (.not (.call 18 .nil)) (.cons (.ret (.bl false)) .nil) .nil) (.cons (.set 1 (.call 11 (.cons (.var 0) (.cons (.int 3) .nil)))) (.cons (.ret (.b1 .all (.comp false (.call 19 (.cons (.call 9 (.cons (.var 1) (.cons (.var 2) .nil))) .nil)) (.nm 2) (.rng (.cons (.b1 .len (.var 1)) .nil)) .nil))) .nil)))⟩
abbrev ix_running : Nat := 0
abbrev ix_sizes : Nat := 1
abbrev ix_sums_of : Nat := 2
abbrev ix_corners : Nat := 3
abbrev ix_toll : Nat := 4
abbrev ix_check_road : Nat := 5
abbrev ix_cost : Nat := 6
abbrev ix_how_many_by : Nat := 7
abbrev ix_passings : Nat := 8
abbrev ix_law_box : Nat := 9
abbrev ix_law_take : Nat := 10
abbrev ix_law_cells : Nat := 11
abbrev ix_law_of : Nat := 12
abbrev ix_law_lists : Nat := 13
abbrev ix_law_same : Nat := 14
abbrev ix_law_plan : Nat := 15
abbrev ix_law_road : Nat := 16
abbrev ix_law_due : Nat := 17
abbrev ix_law_by_hand_right : Nat := 18
abbrev ix_law_right : Nat := 19
abbrev ix_passings_new : Nat := 20
abbrev ix_law : Nat := 21
def T : List Fn := [fn_running, fn_sizes, fn_sums_of, fn_corners, fn_toll, fn_check_road, fn_cost, fn_how_many_by, fn_passings, fn_law_box, fn_law_take, fn_law_cells, fn_law_of, fn_law_lists, fn_law_same, fn_law_plan, fn_law_road, fn_law_due, fn_law_by_hand_right, fn_law_right, fn_passings_new, fn_law]
end Gk24
set_option Elab.async false
set_option linter.all false
set_option maxRecDepth 100000
set_option maxHeartbeats 0
namespace Gk24
open PySem G48
def top (i : Nat) : Stmt := PySem.Challenge.pw_roadloaves_k24_loaves_that_pass.main.body.getD i (.Pass ⟨0, 0, 0, 0⟩)
def fd_running : FD := fdOf (top 3) ["numbers", "found", "number"] fn_running
def fd_sizes : FD := fdOf (top 5) ["plan"] fn_sizes
def fd_sums_of : FD := fdOf (top 6) ["plan", "row", "column"] fn_sums_of
def fd_corners : FD := fdOf (top 7) ["plan", "found", "row", "above", "own"] fn_corners
def fd_toll : FD := fdOf (top 9) ["price", "way", "square", "bends", "where", "weight"] fn_toll
def fd_check_road : FD := fdOf (top 10) ["plan", "road"] fn_check_road
def fd_cost : FD := fdOf (top 11) ["plan", "road", "price", "total", "begin", "row", "end", "many"] fn_cost
def fd_how_many_by : FD := fdOf (top 12) ["places", "spot", "place"] fn_how_many_by
def fd_passings : FD := fdOf (top 13) ["plan", "road", "table", "lots", "found", "spots", "begin", "end", "many", "bakers", "shops"] fn_passings
def fd_law_box : FD := fdOf (top 15) ["_law_script", "_law_k", "_law_cell"] fn_law_box
def fd_law_take : FD := fdOf (top 16) ["_law_box_here", "_law_below_so", "_law_drawn_so", "_law_once", "_law_far_so", "_law_twice_so"] fn_law_take
def fd_law_cells : FD := fdOf (top 17) ["_law_script", "_law_most_so", "_law_cells_here", "_law_k", "_law_cell", "_law_at_so"] fn_law_cells
def fd_law_of : FD := fdOf (top 18) ["_law_box_here", "_law_pool_so"] fn_law_of
def fd_law_lists : FD := fdOf (top 19) ["_law_matter", "_law_bit"] fn_law_lists
def fd_law_same : FD := fdOf (top 20) ["_law_got", "_law_due_so", "_law_mine", "_law_its"] fn_law_same
def fd_law_plan : FD := fdOf (top 21) ["_law_box_here", "_law_many_so", "_law_wide_so", "_law_top_so", "_law_sort_so", "_law_found", "_law_k", "_law_row_so", "_law_j"] fn_law_plan
def fd_law_road : FD := fdOf (top 22) ["_law_box_here", "_law_many_so", "_law_wide_so", "_law_high_so", "_law_lots_so", "_law_size_so", "_law_some", "_law_k"] fn_law_road
def fd_law_due : FD := fdOf (top 23) ["_law_plan_so", "_law_road_so", "_law_spots_so", "_law_found", "_law_k", "_law_total_so", "_law_i", "_law_row_so", "_law_j", "_law_many_so", "_law_ends_so"] fn_law_due
def fd_law_by_hand_right : FD := fdOf (top 24) ["_law_near_so", "_law_far_so", "_law_road_so", "_law_high_so", "_law_got", "_law_due_here", "_law_eight_so", "_law_i", "_law_j", "_law_k", "_law_one_so"] fn_law_by_hand_right
def fd_law_right : FD := fdOf (top 25) ["_law_box_here", "_law_turn", "_law_plan_so", "_law_road_so", "_law_told_so", "_law_total_so", "_law_again_so", "_law_due_here", "_law_own"] fn_law_right
def fd_passings_new : FD := fdOf (top 13) ["plan", "road", "table", "lots", "found", "spots", "begin", "end", "many", "bakers", "shops"] fn_passings_new
def fd_law : FD := fdOf (top 26) ["_law_script", "_law_cells_here", "_law_k"] fn_law
def L : List FD := [fd_running, fd_sizes, fd_sums_of, fd_corners, fd_toll, fd_check_road, fd_cost, fd_how_many_by, fd_passings, fd_law_box, fd_law_take, fd_law_cells, fd_law_of, fd_law_lists, fd_law_same, fd_law_plan, fd_law_road, fd_law_due, fd_law_by_hand_right, fd_law_right, fd_passings_new, fd_law]
def ps : List Pat := [⟨8, 0, ["road", "plan"], [.arg 1, .arg 0]⟩]
def xs : List (Nat × PySem.Str) := [(0, "Unlike")]
theorem bds : AllP BdOk L := ⟨⟨rfl, fun _ _ _ _ _ _ us hl => match us, hl with | [_], _ => by kernel_rfl⟩, ⟨rfl, fun _ _ _ _ _ _ us hl => match us, hl with | [_], _ => by kernel_rfl⟩, ⟨rfl, fun _ _ _ _ _ _ us hl => match us, hl with | [_], _ => by kernel_rfl⟩, ⟨rfl, fun _ _ _ _ _ _ us hl => match us, hl with | [_], _ => by kernel_rfl⟩, ⟨rfl, fun _ _ _ _ _ _ us hl => match us, hl with | [_, _], _ => by kernel_rfl⟩, ⟨rfl, fun _ _ _ _ _ _ us hl => match us, hl with | [_, _], _ => by kernel_rfl⟩, ⟨rfl, fun _ _ _ _ _ _ us hl => match us, hl with | [_, _, _], _ => by kernel_rfl⟩, ⟨rfl, fun _ _ _ _ _ _ us hl => match us, hl with | [_, _], _ => by kernel_rfl⟩, ⟨rfl, fun _ _ _ _ _ _ us hl => match us, hl with | [_, _], _ => by kernel_rfl⟩, ⟨rfl, fun _ _ _ _ _ _ us hl => match us, hl with | [_, _], _ => by kernel_rfl⟩, ⟨rfl, fun _ _ _ _ _ _ us hl => match us, hl with | [_, _], _ => by kernel_rfl⟩, ⟨rfl, fun _ _ _ _ _ _ us hl => match us, hl with | [_, _], _ => by kernel_rfl⟩, ⟨rfl, fun _ _ _ _ _ _ us hl => match us, hl with | [_, _], _ => by kernel_rfl⟩, ⟨rfl, fun _ _ _ _ _ _ us hl => match us, hl with | [_], _ => by kernel_rfl⟩, ⟨rfl, fun _ _ _ _ _ _ us hl => match us, hl with | [_, _], _ => by kernel_rfl⟩, ⟨rfl, fun _ _ _ _ _ _ us hl => match us, hl with | [_, _, _, _], _ => by kernel_rfl⟩, ⟨rfl, fun _ _ _ _ _ _ us hl => match us, hl with | [_, _, _, _], _ => by kernel_rfl⟩, ⟨rfl, fun _ _ _ _ _ _ us hl => match us, hl with | [_, _], _ => by kernel_rfl⟩, ⟨rfl, fun _ _ _ _ _ _ us hl => match us, hl with | [], _ => by kernel_rfl⟩, ⟨rfl, fun _ _ _ _ _ _ us hl => match us, hl with | [_], _ => by kernel_rfl⟩, ⟨rfl, fun _ _ _ _ _ _ us hl => match us, hl with | [_, _], _ => by kernel_rfl⟩, ⟨rfl, fun _ _ _ _ _ _ us hl => match us, hl with | [_], _ => by kernel_rfl⟩, trivial⟩
theorem kbs : AllP (fun p => ∀ x, L[p.f]? = some x → KbOk x p) ps := ⟨fun x hx => by (cases hx; exact ⟨rfl, fun _ _ _ _ _ _ us ws h1 h2 => match us, ws, h1, h2 with | [], [_, _], _, _ => by kernel_rfl⟩), trivial⟩
end Gk24

namespace Gk24
open PySem PySem.W PyProof.Rows G48
def ks : List (PySem.Str × KV) := []
theorem chk : (cfgOf L ps xs ks).G.all (fnB (cfgOf L ps xs ks)) = true := by decide +kernel
abbrev R : OpenRow := OpenLaw.row PySem.Challenge.rw_roadloaves_k24_loaves_that_pass
abbrev hk : Hook := hookG 4 (faOf L ks) (L.map FD.dd) xs
def names : List PySem.Str := (L.dropLast).map (·.g.name) ++ (["Unlike"] : List PySem.Str)
theorem run (w : World) : HandSHeadRun.RunEq R (view R.prog [26]) hk (obG 4 (faOf L ks) (L.map FD.dd) xs) 2000 names w := by
  intro os
  kernel_rfl
end Gk24
set_option linter.all false
set_option maxRecDepth 100000
/-! G48: how a run of the small language is followed, in plain Lean. -/
namespace G48
open PySem

theorem callF_eq {T : List Fn} {wf n i : Nat} {fn : Fn} {ds : List D} {m : Mem} (h : T[i]? = some fn) (hl : ds.length = fn.np) : callF T wf (n + 1) i ds m = fin m.length (evSs wf (callF T wf n) fn.body (startE fn.ns ds) m) := by
  rw [callF, h]
  simp only [hl, if_true]

/-! ### lists and memory -/
@[simp] theorem peek_non {m : Mem} : peek m .non = .non := rfl
@[simp] theorem peek_bl {m : Mem} {b : Bool} : peek m (.bl b) = .bl b := rfl
@[simp] theorem peek_int {m : Mem} {i : Int} : peek m (.int i) = .int i := rfl
@[simp] theorem peek_str {m : Mem} {s : Str} : peek m (.str s) = .str s := rfl
@[simp] theorem peek_tup {m : Mem} {xs : List D} : peek m (.tup xs) = .tup xs := rfl
@[simp] theorem peek_lst {m : Mem} {xs : List D} : peek m (.lst xs) = .lst xs := rfl
@[simp] theorem peek_scr {m : Mem} {xs : List Int} : peek m (.scr xs) = .scr xs := rfl
@[simp] theorem peek_exc {m : Mem} {c : Nat} {xs : List D} : peek m (.exc c xs) = .exc c xs := rfl

theorem peek_cell {m : Mem} {b : Nat} {xs : List D} (h : m[b]? = some (some (.lst xs))) : peek m (.cell b) = .lst xs := by simp only [peek, h]
/-! ### one step at a time -/
/-- what is not looked into as yet -/
class Hid {α : Sort _} (x : α) : Type where
instance hidAll {α : Sort _} (x : α) : Hid x := ⟨⟩
def R.bk {α β : Type} (r : R α) (f : α → Mem → R β) [Hid f] : R β := r.bind f
@[simp] theorem R.bk_ok {α β : Type} {a : α} {m : Mem} {f : α → Mem → R β} [Hid f] : (R.ok a m).bk f = f a m := rfl
@[simp] theorem R.bk_exc {α β : Type} {x : D} {m : Mem} {f : α → Mem → R β} [Hid f] : (R.exc x m : R α).bk f = .exc x m := rfl
theorem bindA {α β γ : Type} {r : R α} {f : α → Mem → R β} {g : β → Mem → R γ} [Hid f] [Hid g] : (r.bk f).bk g = r.bk fun a m => (f a m).bk g := by cases r <;> rfl
def stepE (cf : Nat → List D → Mem → R D) (e : E) (t : Tg) (ρ : Env) (d : D) (m : Mem) : R (Option D) := (R.of (bindT t d (wipe ρ (tgv t))) m).bk fun ρ' m => (evE cf e ρ' m).bk fun x m => .ok (some x) m
def stepI (cf : Nat → List D → Mem → R D) (e f : E) (t : Tg) (ρ : Env) (d : D) (m : Mem) : R (Option D) := (R.of (bindT t d (wipe ρ (tgv t))) m).bk fun ρ' m => (tst (evE cf f ρ' m)).bk fun b m => if b then (evE cf e ρ' m).bk fun x m => .ok (some x) m else .ok none m
def stepL (wf : Nat) (cf : Nat → List D → Mem → R D) (t : Tg) (b : Ss) (wp : List Nat) (d : D) (ρ : Env) (m : Mem) : R (Fl × Env) := wipeR wp ((R.of (bindT t d ρ) m).bk fun ρ m => evSs wf cf b ρ m)
def testW (cf : Nat → List D → Mem → R D) (c : E) (ρ : Env) (m : Mem) : R Bool := tst (evE cf c ρ m)
def stepW (wf : Nat) (cf : Nat → List D → Mem → R D) (b : Ss) (wp : List Nat) (ρ : Env) (m : Mem) : R (Fl × Env) := wipeR wp (evSs wf cf b ρ m)
section
variable {wf : Nat} {cf : Nat → List D → Mem → R D} {ρ : Env} {m : Mem} {a b c e f : E} {es : Es} {ss : Ss} {t : Tg} {i : I} {wp : List Nat}
def varR (o : Option (Option D)) (m : Mem) : R D := match o with
  | some (some d) => .ok d m
  | _ => .bad
@[simp] theorem varR_some {d : D} {m : Mem} : varR (some (some d)) m = .ok d m := rfl
theorem ev_var {i : Nat} : evE cf (.var i) ρ m = varR ρ[i]? m := by simp only [evE] <;> rfl
theorem ev_int {k : Int} : evE cf (.int k) ρ m = .ok (.int k) m := by simp only [evE] <;> rfl
theorem ev_bl {k : Bool} : evE cf (.bl k) ρ m = .ok (.bl k) m := by simp only [evE] <;> rfl
theorem ev_non : evE cf .non ρ m = .ok .non m := by simp only [evE] <;> rfl
theorem ev_str {k : Str} : evE cf (.str k) ρ m = .ok (.str k) m := by simp only [evE] <;> rfl
theorem ev_gl {x : Str} {d : D} : evE cf (.gl x d) ρ m = .ok d m := by simp only [evE] <;> rfl
theorem ev_bin {o : Bop} : evE cf (.bin o a b) ρ m = (evE cf a ρ m).bk fun x m => (evE cf b ρ m).bk fun y m => .of (bop o (peek m x) (peek m y)) m := by simp only [evE] <;> rfl
def negD (x : D) (m : Mem) : R D := match x with
  | .int i => .ok (.int (-i)) m
  | _ => .bad
@[simp] theorem negD_int {i : Int} : negD (.int i) m = .ok (.int (-i)) m := rfl
theorem ev_neg : evE cf (.neg a) ρ m = (evE cf a ρ m).bk fun x m => negD x m := by simp only [evE] <;> rfl
theorem ev_not : evE cf (.not a) ρ m = (tst (evE cf a ρ m)).bk fun b m => .ok (.bl (!b)) m := by simp only [evE] <;> rfl
def andR (o : Option Bool) (x : D) (m : Mem) (k : R D) [Hid k] : R D := match o with
  | some true => k
  | some false => .ok x m
  | none => .bad
def orR (o : Option Bool) (x : D) (m : Mem) (k : R D) [Hid k] : R D := match o with
  | some true => .ok x m
  | some false => k
  | none => .bad
@[simp] theorem andR_t {x : D} {m : Mem} {k : R D} [Hid k] : andR (some true) x m k = k := rfl
@[simp] theorem andR_f {x : D} {m : Mem} {k : R D} [Hid k] : andR (some false) x m k = .ok x m := rfl
@[simp] theorem orR_t {x : D} {m : Mem} {k : R D} [Hid k] : orR (some true) x m k = .ok x m := rfl
@[simp] theorem orR_f {x : D} {m : Mem} {k : R D} [Hid k] : orR (some false) x m k = k := rfl
theorem ev_and : evE cf (.and a b) ρ m = (evE cf a ρ m).bk fun x m => andR (truth (peek m x)) x m (evE cf b ρ m) := by simp only [evE] <;> rfl
theorem ev_or : evE cf (.or a b) ρ m = (evE cf a ρ m).bk fun x m => orR (truth (peek m x)) x m (evE cf b ρ m) := by simp only [evE] <;> rfl
theorem ev_cmp {o : Cop} : evE cf (.cmp o a b) ρ m = (evE cf a ρ m).bk fun x m => (evE cf b ρ m).bk fun y m => .of (cop o (peek m x) (peek m y)) m := by simp only [evE] <;> rfl
def chR (r : D) (m : Mem) (k : R D) [Hid k] : R D := match r with
  | .bl true => k
  | .bl false => .ok (.bl false) m
  | _ => .bad
@[simp] theorem chR_t {m : Mem} {k : R D} [Hid k] : chR (.bl true) m k = k := rfl
@[simp] theorem chR_f {m : Mem} {k : R D} [Hid k] : chR (.bl false) m k = .ok (.bl false) m := rfl
theorem ev_chain {o o' : Cop} : evE cf (.chain o o' a b c) ρ m = (evE cf a ρ m).bk fun x m => (evE cf b ρ m).bk fun y m => (R.of (cop o (peek m x) (peek m y)) m).bk fun r m => chR r m ((evE cf c ρ m).bk fun z m => .of (cop o' (peek m y) (peek m z)) m) := by simp only [evE] <;> rfl
theorem ev_isN : evE cf (.isN a) ρ m = (evE cf a ρ m).bk fun x m => .ok (.bl (isNon x)) m := by simp only [evE] <;> rfl
theorem ev_notN : evE cf (.notN a) ρ m = (evE cf a ρ m).bk fun x m => .ok (.bl (!isNon x)) m := by simp only [evE] <;> rfl
def iteR {α : Type} (t : Bool) (a b : R α) [Hid a] [Hid b] : R α := if t then a else b
@[simp] theorem iteR_t {α : Type} {a b : R α} [Hid a] [Hid b] : iteR true a b = a := rfl
@[simp] theorem iteR_f {α : Type} {a b : R α} [Hid a] [Hid b] : iteR false a b = b := rfl
theorem ev_ife : evE cf (.ife c a b) ρ m = (tst (evE cf c ρ m)).bk fun t m => iteR t (evE cf a ρ m) (evE cf b ρ m) := by simp only [evE] <;> rfl
theorem ev_tup : evE cf (.tup es) ρ m = (evEs cf es ρ m).bk fun ds m => iteR (decide (ds.length ≤ BIG)) (.ok (.tup ds) m) .bad := by
  simp only [evE, iteR, R.bk, decide_eq_true_eq]
theorem ev_lst : evE cf (.lst es) ρ m = (evEs cf es ρ m).bk fun ds m => iteR (decide (ds.length ≤ BIG)) (.ok (.lst ds) m) .bad := by
  simp only [evE, iteR, R.bk, decide_eq_true_eq]
theorem ev_cel : evE cf (.cel es) ρ m = (evEs cf es ρ m).bk fun ds m => iteR (decide (ds.length ≤ BIG)) (newCell ds m) .bad := by
  simp only [evE, iteR, R.bk, decide_eq_true_eq]
theorem ev_ix : evE cf (.ix a b) ρ m = (evE cf a ρ m).bk fun x m => (evE cf b ρ m).bk fun y m => .of (ixD (peek m x) y) m := by simp only [evE] <;> rfl
theorem ev_slice {lo hi : Es} : evE cf (.slice a lo hi) ρ m = (evE cf a ρ m).bk fun x m => (opt (evEs cf lo ρ m)).bk fun l m => (opt (evEs cf hi ρ m)).bk fun h m => .of (sliceD (peek m x) l h) m := by simp only [evE] <;> rfl
theorem ev_rev : evE cf (.rev a) ρ m = (evE cf a ρ m).bk fun x m => .of (revD (peek m x)) m := by simp only [evE] <;> rfl
theorem ev_call {f : Nat} : evE cf (.call f es) ρ m = (evEs cf es ρ m).bk fun ds m => cf f ds m := by simp only [evE] <;> rfl
theorem ev_callA {f : Nat} {arr : List Ar} : evE cf (.callA f es arr) ρ m = (evEs cf es ρ m).bk fun ds m => (R.of (arrange arr ds) m).bk fun ds m => cf f ds m := by simp only [evE] <;> rfl
theorem ev_b1 {f : B1} : evE cf (.b1 f a) ρ m = (evE cf a ρ m).bk fun x m => .of (b1 f (peek m x)) m := by simp only [evE] <;> rfl
def min2D (x y : D) (m : Mem) : R D := match x, y with
  | .int i, .int j => .ok (.int (if j < i then j else i)) m
  | _, _ => .bad
def max2D (x y : D) (m : Mem) : R D := match x, y with
  | .int i, .int j => .ok (.int (if j > i then j else i)) m
  | _, _ => .bad
@[simp] theorem min2D_int {i j : Int} : min2D (.int i) (.int j) m = .ok (.int (if j < i then j else i)) m := rfl
@[simp] theorem max2D_int {i j : Int} : max2D (.int i) (.int j) m = .ok (.int (if j > i then j else i)) m := rfl
theorem ev_min2 : evE cf (.min2 a b) ρ m = (evE cf a ρ m).bk fun x m => (evE cf b ρ m).bk fun y m => min2D x y m := by simp only [evE] <;> rfl
theorem ev_max2 : evE cf (.max2 a b) ρ m = (evE cf a ρ m).bk fun x m => (evE cf b ρ m).bk fun y m => max2D x y m := by simp only [evE] <;> rfl
theorem ev_isin {ts : List Ty} : evE cf (.isin a ts) ρ m = (evE cf a ρ m).bk fun x m => .of (isinD (peek m x) ts) m := by simp only [evE] <;> rfl
theorem ev_seqI {t : Bool} : evE cf (.seqI t i) ρ m = (evI cf i ρ m).bk fun ds m => .ok (if t then .tup ds else .lst ds) m := by simp only [evE] <;> rfl
theorem ev_comp {k : Bool} : evE cf (.comp k e t i .nil) ρ m = (evI cf i ρ m).bk fun ds m => compEnd k m.length (compLoop (stepE cf e t ρ) ds (m ++ [some .tmp])) := by simp only [evE] <;> rfl
theorem ev_compI {k : Bool} : evE cf (.comp k e t i (.cons f .nil)) ρ m = (evI cf i ρ m).bk fun ds m => compEnd k m.length (compLoop (stepI cf e f t ρ) ds (m ++ [some .tmp])) := by simp only [evE] <;> rfl
def cellR (x : D) (m : Mem) : R D := match x with
  | .lst ds => newCell ds m
  | _ => .bad
@[simp] theorem cellR_lst {ds : List D} : cellR (.lst ds) m = newCell ds m := rfl
theorem ev_cellOf : evE cf (.cellOf a) ρ m = (evE cf a ρ m).bk fun x m => cellR x m := by simp only [evE] <;> rfl
def attrR (x : D) (f : Str) (m : Mem) : R D := match x with
  | .exc c vs => .of (fldD c f vs) m
  | _ => .bad
@[simp] theorem attrR_exc {c : Nat} {vs : List D} {f : Str} : attrR (.exc c vs) f m = .of (fldD c f vs) m := rfl
theorem ev_attr {f : Str} : evE cf (.attr a f) ρ m = (evE cf a ρ m).bk fun x m => attrR x f m := by simp only [evE] <;> rfl
theorem evs_nil : evEs cf .nil ρ m = .ok [] m := by simp only [evEs] <;> rfl
theorem evs_cons : evEs cf (.cons e es) ρ m = (evE cf e ρ m).bk fun x m => (evEs cf es ρ m).bk fun xs m => .ok (x :: xs) m := by simp only [evEs] <;> rfl
theorem evs_star : evEs cf (.star e es) ρ m = (evE cf e ρ m).bk fun x m => (R.of (seqD (peek m x)) m).bk fun ys m => (evEs cf es ρ m).bk fun xs m => .ok (ys ++ xs) m := by simp only [evEs] <;> rfl
theorem evi_of : evI cf (.of e) ρ m = (evE cf e ρ m).bk fun x m => .of (seqD x) m := by simp only [evI] <;> rfl
theorem evi_rng : evI cf (.rng es) ρ m = (evEs cf es ρ m).bk fun ds m => .of (rngD ds) m := by simp only [evI] <;> rfl
theorem evi_enum : evI cf (.enum e) ρ m = (evE cf e ρ m).bk fun x m => (R.of (seqD x) m).bk fun xs m => .ok (enumL 0 xs) m := by simp only [evI] <;> rfl
theorem evi_zip : evI cf (.zip es) ρ m = (evEs cf es ρ m).bk fun ds m => (R.of (zipD ds) m).bk fun ls m => .ok (zipL ls) m := by simp only [evI] <;> rfl
theorem evi_zipS : evI cf (.zipS e) ρ m = (evE cf e ρ m).bk fun x m => (R.of (seqD (peek m x)) m).bk fun ds m => (R.of (zipD ds) m).bk fun ls m => .ok (zipL ls) m := by simp only [evI] <;> rfl
theorem evi_enumZip : evI cf (.enumZip es) ρ m = (evEs cf es ρ m).bk fun ds m => (R.of (zipD ds) m).bk fun ls m => .ok (enumL 0 (zipL ls)) m := by simp only [evI] <;> rfl
theorem tst_eq {r : R D} : tst r = r.bk fun d m => .of (truth (peek m d)) m := rfl
theorem opt_eq {r : R (List D)} : opt r = r.bk fun l m => .of (optE l) m := rfl
theorem wipeR_eq {r : R (Fl × Env)} : wipeR wp r = r.bk fun p m => .ok (p.1, wipe p.2 wp) m := rfl
theorem st_set {i : Nat} : evS wf cf (.set i e) ρ m = (evE cf e ρ m).bk fun d m => .ok (.nx, ρ.set i (some d)) m := by simp only [evS] <;> rfl
theorem st_setT : evS wf cf (.setT t e) ρ m = (evE cf e ρ m).bk fun d m => (R.of (bindT t d ρ) m).bk fun ρ m => .ok (.nx, ρ) m := by simp only [evS] <;> rfl
theorem st_par {is : List Nat} : evS wf cf (.par is es) ρ m = (evEs cf es ρ m).bk fun ds m => (R.of (setAll is ds ρ) m).bk fun ρ m => .ok (.nx, ρ) m := by simp only [evS] <;> rfl
def memR (o : Option Mem) (ρ : Env) : R (Fl × Env) := match o with
  | some m => .ok (.nx, ρ) m
  | none => .bad
@[simp] theorem memR_some : memR (some m) ρ = .ok (.nx, ρ) m := rfl
theorem st_setIx : evS wf cf (.setIx a b e) ρ m = (evE cf e ρ m).bk fun d m => (evE cf a ρ m).bk fun x m => (evE cf b ρ m).bk fun k m => memR (setIxD x k d m) ρ := by simp only [evS] <;> rfl
def augR (i : Nat) (o : Bop) (x y : D) (ρ : Env) (m : Mem) : R (Fl × Env) := match x, y with
  | .int _, .int _ => (R.of (bop o x y) m).bk fun z m => .ok (.nx, ρ.set i (some z)) m
  | _, _ => .bad
@[simp] theorem augR_int {i : Nat} {o : Bop} {x y : Int} : augR i o (.int x) (.int y) ρ m = (R.of (bop o (.int x) (.int y)) m).bk fun z m => .ok (.nx, ρ.set i (some z)) m := rfl
theorem st_aug {i : Nat} {o : Bop} : evS wf cf (.aug i o e) ρ m = (varR ρ[i]? m).bk fun x m => (evE cf e ρ m).bk fun y m => augR i o x y ρ m := by
  simp only [evS]
  rcases h : ρ[i]? with _ | (_ | x) <;> rfl
theorem st_expr : evS wf cf (.expr e) ρ m = (evE cf e ρ m).bk fun _ m => .ok (.nx, ρ) m := by simp only [evS] <;> rfl
theorem st_app : evS wf cf (.app a e) ρ m = (evE cf a ρ m).bk fun x m => iteR (liveL x m) ((evE cf e ρ m).bk fun d m => memR (appD x d m) ρ) .bad := by simp only [evS] <;> rfl
theorem st_ext : evS wf cf (.ext a e) ρ m = (evE cf a ρ m).bk fun x m => iteR (liveL x m) ((evE cf e ρ m).bk fun d m => memR (extD x d m) ρ) .bad := by simp only [evS] <;> rfl
theorem st_iff {a b : Ss} : evS wf cf (.iff c a b) ρ m = (tst (evE cf c ρ m)).bk fun t m => iteR t (evSs wf cf a ρ m) (evSs wf cf b ρ m) := by simp only [evS] <;> rfl
theorem st_for : evS wf cf (.for_ t i ss wp) ρ m = (evI cf i ρ m).bk fun ds m => forLoop (stepL wf cf t ss wp) ds ρ m := by simp only [evS] <;> rfl
theorem st_whil : evS wf cf (.whil c ss wp) ρ m = whileLoop (testW cf c) (stepW wf cf ss wp) wf ρ m := by simp only [evS] <;> rfl
theorem st_ret : evS wf cf (.ret e) ρ m = (evE cf e ρ m).bk fun d m => .ok (.rt d, ρ) m := by simp only [evS] <;> rfl
theorem st_retN : evS wf cf .retN ρ m = .ok (.rt .non, ρ) m := by simp only [evS] <;> rfl
theorem st_raise {c : Nat} : evS wf cf (.raise c es) ρ m = (evEs cf es ρ m).bk fun ds m => (R.of (mkExc c ds) m).bk fun vs m => .exc (.exc c vs) m := by simp only [evS] <;> rfl
def tryR (cs : List Nat) (r : R (Fl × Env)) (ρ : Env) (i j : Nat) (wp : List Nat) : R (Fl × Env) := match r with
  | .exc (.exc c vs) m' => if cs.contains c then .ok (.nx, ((wipe ρ wp).set i none).set j (some (.exc c vs))) m' else .bad
  | .exc _ _ => .bad
  | .ok p m' => .ok p m'
  | .bad => .bad
theorem st_tryx {cs : List Nat} {i j : Nat} : evS wf cf (.tryx ss cs i j wp) ρ m = tryR cs (evSs wf cf ss ρ m) ρ i j wp := by simp only [evS] <;> rfl
theorem st_frzD {i : Nat} : evS wf cf (.frzD i) ρ m = frzDR i ρ[i]? ρ m := by simp only [evS] <;> rfl
theorem st_subs {as is : Es} : evS wf cf (.subs as is es) ρ m = (evEs cf es ρ m).bk fun ds m => (evSubs cf as is ds ρ m).bk fun _ m => .ok (.nx, ρ) m := by simp only [evS] <;> rfl
theorem st_stuck : evS wf cf .stuck ρ m = .bad := by simp only [evS] <;> rfl
theorem st_brk : evS wf cf .brk ρ m = .ok (.bk, ρ) m := by simp only [evS] <;> rfl
theorem st_cont : evS wf cf .cont ρ m = .ok (.ct, ρ) m := by simp only [evS] <;> rfl
theorem st_pass : evS wf cf .pass ρ m = .ok (.nx, ρ) m := by simp only [evS] <;> rfl
def frzR (i : Nat) (o : Option (Option D)) (ρ : Env) (m : Mem) : R (Fl × Env) := match o with
  | some (some (.cell n)) => match m[n]? with
    | some (some (.lst xs)) => .ok (.nx, ρ.set i (some (.lst xs))) (m.set n none)
    | _ => .bad
  | _ => .bad
theorem frzR_ok {i n : Nat} {xs : List D} (h : m[n]? = some (some (.lst xs))) : frzR i (some (some (.cell n))) ρ m = .ok (.nx, ρ.set i (some (.lst xs))) (m.set n none) := by simp only [frzR, h]
theorem st_frz {i : Nat} : evS wf cf (.frz i) ρ m = frzR i ρ[i]? ρ m := by
  simp only [evS]
  rcases h : ρ[i]? with _ | (_ | x)
  · rfl
  · rfl
  · cases x <;> rfl
def flR (p : Fl × Env) (m : Mem) (k : R (Fl × Env)) [Hid k] : R (Fl × Env) := match p.1 with
  | .nx => k
  | _ => .ok p m
@[simp] theorem flR_nx {k : R (Fl × Env)} [Hid k] : flR (.nx, ρ) m k = k := rfl
@[simp] theorem flR_rt {d : D} {k : R (Fl × Env)} [Hid k] : flR (.rt d, ρ) m k = .ok (.rt d, ρ) m := rfl
@[simp] theorem flR_bk {k : R (Fl × Env)} [Hid k] : flR (.bk, ρ) m k = .ok (.bk, ρ) m := rfl
@[simp] theorem flR_ct {k : R (Fl × Env)} [Hid k] : flR (.ct, ρ) m k = .ok (.ct, ρ) m := rfl
theorem ss_nil0 : evSs wf cf .nil ρ m = .ok (.nx, ρ) m := by simp only [evSs] <;> rfl
theorem ss_cons0 {s : S} : evSs wf cf (.cons s ss) ρ m = (evS wf cf s ρ m).bk fun p m => flR p m (evSs wf cf ss p.2 m) := by simp only [evSs] <;> rfl
theorem fin_rt {k : Nat} {d : D} : fin k (.ok (.rt d, ρ) m) = .ok d (if below k d then m.take k else m) := rfl
theorem fin_nx {k : Nat} : fin k (.ok (.nx, ρ) m) = .ok .non (m.take k) := rfl
theorem fin_exc {k : Nat} {x : D} : fin k (.exc x m) = if below k x then .exc x (m.take k) else .bad := rfl
end

/-- data that cannot change, of a depth -/
inductive Pu : Nat → D → Prop
  | non {n : Nat} : Pu n .non
  | bl {n : Nat} {b : Bool} : Pu n (.bl b)
  | int {n : Nat} {i : Int} : Pu n (.int i)
  | str {n : Nat} {s : Str} : Pu n (.str s)
  | tup {n : Nat} {xs : List D} : (∀ x ∈ xs, Pu n x) → Pu (n + 1) (.tup xs)
  | lst {n : Nat} {xs : List D} : (∀ x ∈ xs, Pu n x) → Pu (n + 1) (.lst xs)
theorem Pu.mono {n k : Nat} {d : D} (h : Pu n d) (hk : n ≤ k) : Pu k d := by
  induction h generalizing k with
  | non => exact .non
  | bl => exact .bl
  | int => exact .int
  | str => exact .str
  | tup _ ih =>
    cases k with
    | zero => omega
    | succ k => exact .tup fun x hx => ih x hx (by omega)
  | lst _ ih =>
    cases k with
    | zero => omega
    | succ k => exact .lst fun x hx => ih x hx (by omega)
@[simp] theorem Pu.peek {n : Nat} {d : D} {m : Mem} (h : Pu n d) : G48.peek m d = d := by cases h <;> rfl
theorem belows_all {k : Nat} : ∀ {xs : List D}, (∀ x ∈ xs, below k x = true) → belows k xs = true
  | [], _ => rfl
  | x :: xs, h => by
    simp only [belows, Bool.and_eq_true]
    exact ⟨h x (by simp), belows_all fun y hy => h y (by simp [hy])⟩
theorem Pu.bw {n : Nat} {d : D} {k : Nat} (h : Pu n d) : G48.below k d = true := by
  induction h with
  | non => rfl
  | bl => rfl
  | int => rfl
  | str => rfl
  | tup _ ih => simp only [G48.below]; exact belows_all fun x hx => ih x hx
  | lst _ ih => simp only [G48.below]; exact belows_all fun x hx => ih x hx
theorem Pu.bws {n k : Nat} {xs : List D} (h : ∀ x ∈ xs, Pu n x) : belows k xs = true := belows_all fun x hx => (h x hx).bw
theorem Pu.okd {n : Nat} {d : D} (h : Pu n d) : G48.okd n d = true := by
  induction h with
  | @non n => cases n <;> rfl
  | @bl n => cases n <;> rfl
  | @int n => cases n <;> rfl
  | @str n => cases n <;> rfl
  | tup _ ih => simp only [G48.okd, List.all_eq_true]; exact fun x hx => ih x hx
  | lst _ ih => simp only [G48.okd, List.all_eq_true]; exact fun x hx => ih x hx
theorem fin_pu {n : Nat} {d : D} {ρ : Env} {m : Mem} (h : Pu n d) : fin m.length (.ok (.rt d, ρ) m) = .ok d m := by
  rw [fin_rt, if_pos h.bw, List.take_length]
theorem deqs_refl {xs : List D} (h : ∀ x ∈ xs, deq x x = true) : deqs xs xs = true := by
  induction xs with
  | nil => rfl
  | cons x xs ih => simp only [deqs, Bool.and_eq_true]; exact ⟨h x (by simp), ih fun y hy => h y (by simp [hy])⟩
theorem Pu.deq {n : Nat} {d : D} (h : Pu n d) : G48.deq d d = true := by
  induction h with
  | non => rfl
  | bl => simp [G48.deq]
  | int => simp [G48.deq]
  | str => simp [G48.deq]
  | tup _ ih => simp only [G48.deq]; exact deqs_refl fun x hx => ih x hx
  | lst _ ih => simp only [G48.deq]; exact deqs_refl fun x hx => ih x hx
theorem cop_eq_refl {n : Nat} {d : D} (h : Pu n d) (hn : n ≤ 60) : cop .eq d d = some (.bl true) := by
  have h := h.mono hn
  simp [cop, h.okd, h.deq]

/-! ### comprehensions -/
theorem compLoop_map {f : D → Mem → R (Option D)} {g : D → D} {m : Mem} : ∀ {ds : List D}, (∀ d ∈ ds, f d m = .ok (some (g d)) m) → compLoop f ds m = .ok (ds.map g) m
  | [], _ => rfl
  | d :: ds, h => by
    have ih := compLoop_map (ds := ds) fun x hx => h x (by simp [hx])
    simp only [compLoop, h d (by simp), ih, Option.toList, List.map_cons, List.cons_append, List.nil_append]
/-- over the images of another list -/
theorem compLoop_mapL {α : Type} {f : D → Mem → R (Option D)} {e : α → D} {g : α → D} {m : Mem} : ∀ {xs : List α}, (∀ x ∈ xs, f (e x) m = .ok (some (g x)) m) → compLoop f (xs.map e) m = .ok (xs.map g) m
  | [], _ => rfl
  | d :: ds, h => by
    have ih := compLoop_mapL (xs := ds) fun x hx => h x (by simp [hx])
    simp only [List.map_cons, compLoop, h d (by simp), ih, Option.toList, List.cons_append, List.nil_append]
theorem compLoop_filterL {α : Type} {f : D → Mem → R (Option D)} {e : α → D} {g : α → Option D} {m : Mem} : ∀ {xs : List α}, (∀ x ∈ xs, f (e x) m = .ok (g x) m) → compLoop f (xs.map e) m = .ok (xs.filterMap g) m
  | [], _ => rfl
  | d :: ds, h => by
    have ih := compLoop_filterL (xs := ds) fun x hx => h x (by simp [hx])
    simp only [List.map_cons, compLoop, h d (by simp), ih, List.filterMap_cons]
    cases g d <;> rfl
@[simp] theorem take_tmp {m : Mem} {c : Option Cel} : (m ++ [c]).take m.length = m := by simp
@[simp] theorem take_setM {m : Mem} {b : Nat} {x : Option Cel} : (m.set b x).take m.length = m.set b x := List.take_of_length_le (by simp)
theorem compEnd_ok {xs : List D} {m : Mem} {c : Option Cel} (h : belows m.length xs = true) : compEnd false m.length (.ok xs (m ++ [c])) = .ok (.lst xs) m := by
  simp [compEnd, h]
/-- a comprehension over the images of a list, nothing kept -/
theorem comp_mapL {α : Type} {f : D → Mem → R (Option D)} {e : α → D} {g : α → D} {m : Mem} {xs : List α} (h : ∀ x ∈ xs, f (e x) (m ++ [some .tmp]) = .ok (some (g x)) (m ++ [some .tmp])) (hb : ∀ x ∈ xs, below m.length (g x) = true) :
    compEnd false m.length (compLoop f (xs.map e) (m ++ [some .tmp])) = .ok (.lst (xs.map g)) m := by
  rw [compLoop_mapL h, compEnd_ok]
  exact belows_all fun y hy => by
    obtain ⟨x, hx, rfl⟩ := List.mem_map.mp hy
    exact hb x hx
theorem comp_mapD {f : D → Mem → R (Option D)} {g : D → D} {m : Mem} {ds : List D} (h : ∀ d ∈ ds, f d (m ++ [some .tmp]) = .ok (some (g d)) (m ++ [some .tmp])) (hb : ∀ d ∈ ds, below m.length (g d) = true) :
    compEnd false m.length (compLoop f ds (m ++ [some .tmp])) = .ok (.lst (ds.map g)) m := by
  rw [compLoop_map h, compEnd_ok]
  exact belows_all fun y hy => by
    obtain ⟨x, hx, rfl⟩ := List.mem_map.mp hy
    exact hb x hx
/-- ranges as images -/
theorem rngL_map : ∀ (n : Nat) (lo : Int), rngL lo 1 n = (List.range n).map fun (k : Nat) => D.int (lo + k)
  | 0, _ => rfl
  | n + 1, lo => by
    rw [rngL, rngL_map n, List.range_succ_eq_map, List.map_cons, List.map_map]
    congr 1
    · simp
    · refine List.map_congr_left fun k _ => ?_
      simp only [Function.comp, Nat.succ_eq_add_one, Int.natCast_add]
      congr 1
      omega
theorem rng_nat {n : Nat} (h : n ≤ BIG) : rngD [.int (n : Int)] = some ((List.range n).map fun (k : Nat) => D.int k) := by
  have h2 : leB (n : Int) BIG = true := leB_le.mpr (by omega)
  have h3 : leB (-(n : Int)) (2 ^ 62) = true := leB_le.mpr (by omega)
  simp only [rngD]
  rw [if_pos ⟨h3, h2⟩, Int.toNat_natCast, rngL_map]
  simp

end G48
set_option linter.all false
set_option maxRecDepth 100000
/-! G48: sequences; draws. -/
namespace G48
open PySem

/-! ### a list or a tuple -/
def sq (t : Bool) (xs : List D) : D := if t then .tup xs else .lst xs
@[simp] theorem sq_true {xs : List D} : sq true xs = .tup xs := rfl
@[simp] theorem sq_false {xs : List D} : sq false xs = .lst xs := rfl
@[simp] theorem peek_sq {m : Mem} {t : Bool} {xs : List D} : peek m (sq t xs) = sq t xs := by cases t <;> rfl
@[simp] theorem seqD_sq {t : Bool} {xs : List D} : seqD (sq t xs) = some xs := by cases t <;> rfl
@[simp] theorem revD_sq {t : Bool} {xs : List D} : revD (sq t xs) = some (sq t xs.reverse) := by cases t <;> rfl
@[simp] theorem len_sq {t : Bool} {xs : List D} : b1 .len (sq t xs) = some (.int xs.length) := by cases t <;> rfl
@[simp] theorem tuple_sq {t : Bool} {xs : List D} : b1 .tuple (sq t xs) = some (.tup xs) := by cases t <;> rfl
theorem Pu.sq {n : Nat} {t : Bool} {xs : List D} (h : ∀ x ∈ xs, Pu n x) : Pu (n + 1) (G48.sq t xs) := by
  cases t
  · exact .lst h
  · exact .tup h
theorem ix_nat {xs : List D} {i : Nat} {d : D} (h : xs[i]? = some d) : pyIx xs.length (i : Int) = some i := by
  have hl : i < xs.length := (List.getElem?_eq_some_iff.mp h).1
  unfold pyIx
  rw [if_pos (by omega), if_pos (by omega), Int.toNat_natCast]
theorem ixD_sq {t : Bool} {xs : List D} {i : Nat} {d : D} (h : xs[i]? = some d) : ixD (sq t xs) (.int (i : Int)) = some d := by
  cases t <;> simp only [sq_true, sq_false, ixD, ix_nat h, Option.bind_some, h]
theorem ixD_tup {xs : List D} {i : Nat} {d : D} (h : xs[i]? = some d) : ixD (.tup xs) (.int (i : Int)) = some d := ixD_sq (t := true) h
theorem ixD_lst {xs : List D} {i : Nat} {d : D} (h : xs[i]? = some d) : ixD (.lst xs) (.int (i : Int)) = some d := ixD_sq (t := false) h

/-! ### draws: the state of a box at cell b, at most c draws by number -/
def Bx (b c : Nat) (m : Mem) : Prop := ∃ x0 x1 x2 : Int, m[b]? = some (some (.lst [.int x0, .int x1, .int x2])) ∧ 0 ≤ x0 ∧ 0 ≤ x1 ∧ x1 < 2 ^ 63 ∧ 0 ≤ x2 ∧ x2 ≤ c
/-- nothing but the cell b differs -/
structure But (b : Nat) (m m' : Mem) : Prop where
  len : m'.length = m.length
  get : ∀ j, j ≠ b → m'[j]? = m[j]?
theorem But.refl {b : Nat} {m : Mem} : But b m m := ⟨rfl, fun _ _ => rfl⟩
theorem But.trans {b : Nat} {m m' m'' : Mem} (h : But b m m') (k : But b m' m'') : But b m m'' := ⟨k.len.trans h.len, fun j hj => (k.get j hj).trans (h.get j hj)⟩
theorem But.set {b : Nat} {m : Mem} {x : Option Cel} : But b m (m.set b x) := ⟨by simp, fun j hj => List.getElem?_set_ne (Ne.symm hj)⟩
theorem Bx.mono {b c c' : Nat} {m : Mem} (h : Bx b c m) (hc : c ≤ c') : Bx b c' m := by
  obtain ⟨x0, x1, x2, e, h0, h1, h2, h3, h4⟩ := h
  exact ⟨x0, x1, x2, e, h0, h1, h2, h3, by omega⟩
theorem Bx.lt {b c : Nat} {m : Mem} (h : Bx b c m) : b < m.length := by
  obtain ⟨x0, x1, x2, e, _⟩ := h
  exact (List.getElem?_eq_some_iff.mp e).1
theorem Bx.push {b c : Nat} {m : Mem} {x : Mem} (h : Bx b c m) : Bx b c (m ++ x) := by
  have hl := h.lt
  obtain ⟨x0, x1, x2, e, r⟩ := h
  exact ⟨x0, x1, x2, by rw [List.getElem?_append_left hl]; exact e, r⟩
theorem Bx.cut {b c k : Nat} {m : Mem} (h : Bx b c m) (hk : b < k) : Bx b c (m.take k) := by
  obtain ⟨x0, x1, x2, e, r⟩ := h
  exact ⟨x0, x1, x2, by rw [List.getElem?_take, if_pos hk]; exact e, r⟩
theorem But.cut {b : Nat} {m x m' : Mem} (h : But b (m ++ x) m') : But b m (m'.take m.length) := by
  have hl := h.len
  rw [List.length_append] at hl
  refine ⟨by rw [List.length_take]; omega, fun j hj => ?_⟩
  rw [List.getElem?_take]
  split
  · next hk => rw [h.get j hj, List.getElem?_append_left hk]
  · next hk => rw [List.getElem?_eq_none (by omega)]
theorem But.eqCut {b : Nat} {m m' : Mem} (h : But b m m') : m'.take m.length = m' := List.take_of_length_le (by rw [h.len]; exact Nat.le_refl _)
/-- a run that draws: it ends well, its value is as P says, at most N draws -/
def Dr {α : Type} (b c : Nat) (m : Mem) (N : Nat) (P : α → Prop) (r : R α) : Prop := ∃ v m', r = .ok v m' ∧ P v ∧ Bx b (c + N) m' ∧ But b m m'
theorem Dr.ok {α : Type} {b c : Nat} {m : Mem} {P : α → Prop} {v : α} (h : Bx b c m) (hp : P v) : Dr b c m 0 P (.ok v m) := ⟨v, m, rfl, hp, h, But.refl⟩
theorem Dr.mono {α : Type} {b c : Nat} {m : Mem} {N N' : Nat} {P P' : α → Prop} {r : R α} (h : Dr b c m N P r) (hn : N ≤ N') (hp : ∀ v, P v → P' v) : Dr b c m N' P' r := by
  obtain ⟨v, m', e, p, x, k⟩ := h
  exact ⟨v, m', e, hp v p, x.mono (by omega), k⟩
theorem Dr.bind {α β : Type} {b c : Nat} {m : Mem} {N N' : Nat} {P : α → Prop} {P' : β → Prop} {r : R α} {f : α → Mem → R β} (h : Dr b c m N P r) (k : ∀ v m', P v → Bx b (c + N) m' → But b m m' → Dr b (c + N) m' N' P' (f v m')) : Dr b c m (N + N') P' (r.bk f) := by
  obtain ⟨v, m', e, p, x, bt⟩ := h
  subst e
  obtain ⟨w, m'', e, p', x', bt'⟩ := k v m' p x bt
  exact ⟨w, m'', e, p', by rw [← Nat.add_assoc]; exact x', bt.trans bt'⟩
mutual
theorem bw0 {k : Nat} : ∀ (y : D), below 0 y = true → below k y = true
  | .non, _ => rfl
  | .bl _, _ => rfl
  | .int _, _ => rfl
  | .str _, _ => rfl
  | .scr _, _ => rfl
  | .tup xs, h => bws0 xs h
  | .lst xs, h => bws0 xs h
  | .exc _ xs, h => bws0 xs h
  | .cell n, h => by simp [below] at h
theorem bws0 {k : Nat} : ∀ (ys : List D), belows 0 ys = true → belows k ys = true
  | [], _ => rfl
  | y :: ys, h => by
    simp only [belows, Bool.and_eq_true] at h ⊢
    exact ⟨bw0 y h.1, bws0 ys h.2⟩
end
/-- a comprehension that draws -/
theorem Dr.loop {b N : Nat} {P : D → Prop} {f : D → Mem → R (Option D)} : ∀ {ds : List D} {c : Nat} {m : Mem}, Bx b c m → (∀ d ∈ ds, ∀ c' m', c' ≤ c + ds.length * N → Bx b c' m' → m'.length = m.length → Dr b c' m' N (fun o => ∃ x, o = some x ∧ P x) (f d m')) →
    Dr b c m (ds.length * N) (fun os => os.length = ds.length ∧ ∀ o ∈ os, P o) (compLoop f ds m)
  | [], c, m, hb, _ => by simp only [compLoop, List.length_nil, Nat.zero_mul]; exact Dr.ok hb ⟨rfl, by simp⟩
  | d :: ds, c, m, hb, h => by
    obtain ⟨o, m1, e1, ⟨x, ex, px⟩, x1, b1⟩ := h d (by simp) c m (by omega) hb rfl
    have hlen : (d :: ds).length * N = N + ds.length * N := by rw [List.length_cons, Nat.succ_mul]; omega
    obtain ⟨os, m2, e2, ⟨hl, hp⟩, x2, b2⟩ := Dr.loop (ds := ds) (c := c + N) (m := m1) (P := P) (f := f) x1 fun d' hd c' m' hc hx hlm => h d' (by simp [hd]) c' m' (by rw [hlen]; omega) hx (hlm.trans b1.len)
    subst ex
    refine ⟨x :: os, m2, ?_, ⟨by simp [hl], fun y hy => ?_⟩, by rw [hlen, ← Nat.add_assoc]; exact x2, b1.trans b2⟩
    · simp only [compLoop, e1, e2, Option.toList, List.cons_append, List.nil_append]
    · rcases List.mem_cons.mp hy with z | z
      · subst z; exact px
      · exact hp y z
theorem Dr.comp {b c N : Nat} {P : D → Prop} {f : D → Mem → R (Option D)} {ds : List D} {m : Mem} (hb : Bx b c m) (h : ∀ d ∈ ds, ∀ c' m', c' ≤ c + ds.length * N → Bx b c' m' → m'.length = m.length + 1 → Dr b c' m' N (fun o => ∃ x, o = some x ∧ P x) (f d m')) (hp : ∀ x, P x → below 0 x = true) :
    Dr b c m (ds.length * N) (fun r => ∃ os, r = .lst os ∧ os.length = ds.length ∧ ∀ o ∈ os, P o) (compEnd false m.length (compLoop f ds (m ++ [some .tmp]))) := by
  have hl := hb.lt
  obtain ⟨os, m', e, ⟨h1, h2⟩, x, bt⟩ := Dr.loop (P := P) (f := f) (ds := ds) (N := N) (hb.push (x := [some .tmp])) fun d hd c' m' hc hx hm => h d hd c' m' hc hx (by simpa using hm)
  have hb0 : belows m.length os = true := belows_all fun y hy => by
    have := hp y (h2 y hy)
    exact bw0 y this
  refine ⟨.lst os, m'.take m.length, ?_, ⟨os, rfl, h1, h2⟩, x.cut hl, bt.cut⟩
  simp only [compEnd, e, R.bind_ok, Bool.false_eq_true, if_false, hb0, if_true]
end G48
namespace G48
open PySem
mutual
/-- with lists in the place of tuples -/
def dl : D → D
  | .tup xs => .lst (dls xs)
  | .lst xs => .lst (dls xs)
  | d => d
def dls : List D → List D
  | [] => []
  | x :: xs => dl x :: dls xs
end
theorem dls_map : ∀ xs : List D, dls xs = xs.map dl
  | [] => rfl
  | x :: xs => by simp [dls, dls_map xs]
theorem Pu.dl {n : Nat} {d : D} (h : Pu n d) : Pu n (G48.dl d) := by
  induction h with
  | non => exact .non
  | bl => exact .bl
  | int => exact .int
  | str => exact .str
  | tup _ ih =>
    simp only [G48.dl, dls_map]
    exact .lst fun x hx => by
      obtain ⟨y, hy, rfl⟩ := List.mem_map.mp hx
      exact ih y hy
  | lst _ ih =>
    simp only [G48.dl, dls_map]
    exact .lst fun x hx => by
      obtain ⟨y, hy, rfl⟩ := List.mem_map.mp hx
      exact ih y hy
end G48
namespace G48
open PySem
/-! ### zip of two, of many -/
theorem zipN2 : ∀ (n : Nat) (xs ys : List D), xs.length ≤ n → zipN n [xs, ys] = (xs.zip ys).map fun p => .tup [p.1, p.2]
  | 0, xs, ys, h => by
    have : xs = [] := List.length_eq_zero_iff.mp (by omega)
    subst this
    rfl
  | n + 1, [], ys, h => by simp [zipN, heads]
  | n + 1, x :: xs, [], h => by simp [zipN, heads]
  | n + 1, x :: xs, y :: ys, h => by
    have := zipN2 n xs ys (by simpa using h)
    simp [zipN, heads, this]
theorem zipL2 (xs ys : List D) : zipL [xs, ys] = (xs.zip ys).map fun p => .tup [p.1, p.2] := zipN2 _ _ _ (Nat.le_refl _)
theorem zipD2 {t u : Bool} {xs ys : List D} : zipD [sq t xs, sq u ys] = some [xs, ys] := by simp [zipD, seqsD]
theorem boolsD_mp {α : Type} (f : α → Bool) : ∀ xs : List α, boolsD (xs.map fun x => D.bl (f x)) = some (xs.map f)
  | [] => rfl
  | x :: xs => by simp [boolsD, boolsD_mp f xs]
theorem all_map {α : Type} (f : α → Bool) (xs : List α) : b1 .all (.lst (xs.map fun x => D.bl (f x))) = some (.bl (xs.all f)) := by
  simp only [b1, boolsD_mp, Option.map_some, List.all_map]
  congr 2
theorem any_map {α : Type} (f : α → Bool) (xs : List α) : b1 .any (.lst (xs.map fun x => D.bl (f x))) = some (.bl (xs.any f)) := by
  simp only [b1, boolsD_mp, Option.map_some, List.any_map]
  congr 2
theorem cop_ne_bl (a b : Bool) : cop .ne (.bl a) (.bl b) = some (.bl (a != b)) := by cases a <;> cases b <;> rfl
theorem cop_eq_bl (a b : Bool) : cop .eq (.bl a) (.bl b) = some (.bl (a == b)) := by cases a <;> cases b <;> rfl
theorem cop_eq_int (a b : Int) : cop .eq (.int a) (.int b) = some (.bl (a == b)) := rfl
theorem cop_ne_int (a b : Int) : cop .ne (.int a) (.int b) = some (.bl (!(a == b))) := rfl
end G48
namespace G48
open PySem
/-! ### loops -/
theorem forLoop_inv {step : D → Env → Mem → R (Fl × Env)} {I : Nat → Env → Mem → Prop} : ∀ (ds : List D) (i : Nat) (ρ : Env) (m : Mem), I i ρ m → (∀ j d, ds[j]? = some d → ∀ ρ m, I (i + j) ρ m → ∃ ρ' m', step d ρ m = .ok (.nx, ρ') m' ∧ I (i + j + 1) ρ' m') →
    ∃ ρ' m', forLoop step ds ρ m = .ok (.nx, ρ') m' ∧ I (i + ds.length) ρ' m'
  | [], i, ρ, m, h, _ => ⟨ρ, m, rfl, h⟩
  | d :: ds, i, ρ, m, h, hs => by
    obtain ⟨ρ1, m1, e1, h1⟩ := hs 0 d rfl ρ m h
    obtain ⟨ρ2, m2, e2, h2⟩ := forLoop_inv (step := step) (I := I) ds (i + 1) ρ1 m1 h1 fun j d' hd ρ' m' hI => by
      have e : i + 1 + j = i + (j + 1) := by omega
      rw [e] at hI ⊢
      exact hs (j + 1) d' (by simpa using hd) ρ' m' hI
    refine ⟨ρ2, m2, ?_, ?_⟩
    · simp only [forLoop, e1, R.bind_ok]; exact e2
    · have e : i + (d :: ds).length = i + 1 + ds.length := by simp; omega
      rw [e]; exact h2
/-! ### plans -/
def dI (r : List Int) : D := .tup (r.map .int)
def dP (p : List (List Int)) : D := .tup (p.map dI)
theorem Pu.dI {r : List Int} : Pu 1 (dI r) := .tup fun x hx => by
  obtain ⟨y, _, rfl⟩ := List.mem_map.mp hx
  exact .int
theorem Pu.dP {p : List (List Int)} : Pu 2 (dP p) := .tup fun x hx => by
  obtain ⟨y, _, rfl⟩ := List.mem_map.mp hx
  exact Pu.dI
/-- many rows of wide numbers from 0 to top -/
def IsPl (many wide : Nat) (top : Int) (p : List (List Int)) : Prop := p.length = many ∧ ∀ r ∈ p, r.length = wide ∧ ∀ x ∈ r, 0 ≤ x ∧ x ≤ top
theorem ints_of {P : Int → Prop} : ∀ {os : List D}, (∀ o ∈ os, ∃ i : Int, o = .int i ∧ P i) → ∃ r : List Int, os = r.map .int ∧ ∀ x ∈ r, P x
  | [], _ => ⟨[], rfl, by simp⟩
  | o :: os, h => by
    obtain ⟨i, e, p⟩ := h o (by simp)
    obtain ⟨r, e2, p2⟩ := ints_of (os := os) fun x hx => h x (by simp [hx])
    exact ⟨i :: r, by simp [e, e2], fun x hx => by
      rcases List.mem_cons.mp hx with z | z
      · subst z; exact p
      · exact p2 x z⟩
end G48
namespace G48
open PySem
/-! ### a run ends well -/
def W {α : Type} (r : R α) (Q : α → Mem → Prop) [Hid Q] : Prop := ∃ v m, r = .ok v m ∧ Q v m
theorem W.ok {α : Type} {v : α} {m : Mem} {Q : α → Mem → Prop} (h : Q v m) : W (.ok v m) Q := ⟨v, m, rfl, h⟩
@[simp] theorem W_ok {α : Type} {v : α} {m : Mem} {Q : α → Mem → Prop} : W (.ok v m) Q = Q v m := by
  refine propext ⟨fun ⟨_, _, e, q⟩ => ?_, W.ok⟩
  cases e; exact q
theorem W.bind {α β : Type} {r : R α} {f : α → Mem → R β} {Q : β → Mem → Prop} (h : W r fun v m => W (f v m) Q) : W (r.bk f) Q := by
  obtain ⟨v, m, e, w, m', e', q⟩ := h
  exact ⟨w, m', by rw [e, R.bk_ok, e'], q⟩
theorem W.mono {α : Type} {r : R α} {Q Q' : α → Mem → Prop} (h : W r Q) (k : ∀ v m, Q v m → Q' v m) : W r Q' := by
  obtain ⟨v, m, e, q⟩ := h
  exact ⟨v, m, e, k v m q⟩
theorem W.then {α β : Type} {r : R α} {f : α → Mem → R β} {Q : β → Mem → Prop} {P : α → Mem → Prop} (h : W r P) (k : ∀ v m, P v m → W (f v m) Q) : W (r.bk f) Q := W.bind (h.mono k)
theorem W.for {step : D → Env → Mem → R (Fl × Env)} {ds : List D} {ρ : Env} {m : Mem} {Q : Fl × Env → Mem → Prop} (I : Nat → Env → Mem → Prop) (h0 : I 0 ρ m)
    (hs : ∀ j d ρ m, ds[j]? = some d → I j ρ m → W (step d ρ m) fun p m => p.1 = .nx ∧ I (j + 1) p.2 m) (hq : ∀ ρ m, I ds.length ρ m → Q (.nx, ρ) m) : W (forLoop step ds ρ m) Q := by
  obtain ⟨ρ', m', e, h⟩ := forLoop_inv (step := step) (I := I) ds 0 ρ m h0 fun j d hd ρ m hI => by
    rw [Nat.zero_add] at hI ⊢
    obtain ⟨⟨fl, ρ'⟩, m', e, e1, h⟩ := hs j d ρ m hd hI
    simp only at e1 h
    subst e1
    exact ⟨ρ', m', e, h⟩
  rw [Nat.zero_add] at h
  exact ⟨_, m', e, hq ρ' m' h⟩
theorem W.forT {β : Type} {step : D → Env → Mem → R (Fl × Env)} {ds : List D} {ρ : Env} {m : Mem} {f : Fl × Env → Mem → R β} {Q : β → Mem → Prop} (I : Nat → Env → Mem → Prop) (h0 : I 0 ρ m)
    (hs : ∀ j d ρ m, ds[j]? = some d → I j ρ m → W (step d ρ m) fun p m => p.1 = .nx ∧ I (j + 1) p.2 m) (hq : ∀ ρ m, I ds.length ρ m → W (f (.nx, ρ) m) Q) : W ((forLoop step ds ρ m).bk f) Q := W.bind (W.for I h0 hs hq)
theorem W.fin {k : Nat} {r : R (Fl × Env)} {Q : D → Mem → Prop} (h : W r fun p m => ∃ d, p.1 = .rt d ∧ Q d (if below k d then m.take k else m)) : W (fin k r) Q := by
  obtain ⟨⟨fl, ρ⟩, m, e, d, e1, q⟩ := h
  simp only at e1
  subst e1 e
  exact ⟨d, _, rfl, q⟩
/-- a comprehension, step by step: what is gathered -/
theorem W.loop {f : D → Mem → R (Option D)} (I : Nat → List D → Mem → Prop) : ∀ {ds : List D} (i : Nat) (xs : List D) (m : Mem), I i xs m → (∀ j d xs m, ds[j]? = some d → I (i + j) xs m → W (f d m) fun o m => I (i + j + 1) (xs ++ o.toList) m) →
    W (compLoop f ds m) fun os m => I (i + ds.length) (xs ++ os) m
  | [], i, xs, m, h, _ => ⟨[], m, rfl, by simpa using h⟩
  | d :: ds, i, xs, m, h, hs => by
    obtain ⟨o, m1, e1, h1⟩ := hs 0 d xs m rfl h
    obtain ⟨os, m2, e2, h2⟩ := W.loop I (ds := ds) (i + 1) (xs ++ o.toList) m1 h1 fun j d' xs' m' hd hI => by
      have e : i + 1 + j = i + (j + 1) := by omega
      rw [e] at hI ⊢
      exact hs (j + 1) d' xs' m' (by simpa using hd) hI
    refine ⟨o.toList ++ os, m2, ?_, ?_⟩
    · simp only [compLoop, e1, e2]
    · have e : i + (d :: ds).length = i + 1 + ds.length := by simp; omega
      show I (i + (d :: ds).length) (xs ++ (o.toList ++ os)) m2
      rw [e, ← List.append_assoc]; exact h2
theorem W.comp {f : D → Mem → R (Option D)} {ds : List D} {m : Mem} {Q : D → Mem → Prop} (I : Nat → List D → Mem → Prop) (h0 : I 0 [] (m ++ [some .tmp])) (hs : ∀ j d xs m, ds[j]? = some d → I j xs m → W (f d m) fun o m => I (j + 1) (xs ++ o.toList) m)
    (hq : ∀ xs m', I ds.length xs m' → belows m.length xs = true ∧ Q (.lst xs) (m'.take m.length)) : W (compEnd false m.length (compLoop f ds (m ++ [some .tmp]))) Q := by
  obtain ⟨os, m', e, h⟩ := W.loop I (ds := ds) 0 [] _ h0 fun j d xs m hd hI => by rw [Nat.zero_add] at hI ⊢; exact hs j d xs m hd hI
  rw [Nat.zero_add, List.nil_append] at h
  obtain ⟨h1, h2⟩ := hq os m' h
  exact ⟨.lst os, _, by simp only [compEnd, e, R.bind_ok, Bool.false_eq_true, if_false, h1, if_true], h2⟩
theorem mem_range_map {n : Nat} {α : Type} {f : Nat → α} {j : Nat} {d : α} (h : ((List.range n).map f)[j]? = some d) : j < n ∧ d = f j := by
  rw [List.getElem?_map] at h
  cases q : (List.range n)[j]? with
  | none => rw [q] at h; cases h
  | some y =>
    rw [q] at h
    obtain ⟨h1, h2⟩ := List.getElem?_eq_some_iff.mp q
    simp at h1 h2
    subst h2
    cases h
    exact ⟨h1, rfl⟩
end G48
namespace G48
open PySem
theorem enumL_gt : ∀ {xs : List D} {k : Int} {j : Nat} {d : D}, (enumL k xs)[j]? = some d → ∃ x, xs[j]? = some x ∧ d = .tup [.int (k + j), x]
  | [], _, _, _, h => by simp [enumL] at h
  | x :: xs, k, 0, d, h => by simp [enumL] at h; exact ⟨x, rfl, by rw [← h]; simp⟩
  | x :: xs, k, j + 1, d, h => by
    obtain ⟨y, e, ed⟩ := enumL_gt (xs := xs) (k := k + 1) (j := j) (by simpa [enumL] using h)
    refine ⟨y, by simpa using e, ?_⟩
    rw [ed]
    congr 3
    omega
theorem set_int {cs : List Int} {i : Nat} {z : Int} : (cs.map D.int).set i (.int z) = (cs.set i z).map .int := by
  rw [List.map_set]
theorem ints_below {k : Nat} {cs : List Int} : belows k (cs.map .int) = true := belows_all fun x hx => by
  obtain ⟨y, _, rfl⟩ := List.mem_map.mp hx
  rfl
end G48
namespace G48
open PySem
/-- a row, a cell -/
def rowP (p : List (List Int)) (i : Nat) : List Int := p.getD i []
def cl (r : List Int) (j : Nat) : Int := r.getD j 0
theorem rowP_mem {p : List (List Int)} {i : Nat} (h : i < p.length) : rowP p i ∈ p := by
  have e : rowP p i = p[i] := by simp [rowP, List.getD, List.getElem?_eq_getElem h]
  rw [e]; exact List.getElem_mem h
/-- a plan as tuples or as lists -/
def dQ (t : Bool) (p : List (List Int)) : D := sq t (p.map fun r => sq t (r.map .int))
theorem dQ_true {p : List (List Int)} : dQ true p = dP p := rfl
theorem dl_int (r : List Int) : dls (r.map .int) = r.map .int := by
  rw [dls_map, List.map_map]
  exact List.map_congr_left fun x _ => rfl
theorem dl_dP {p : List (List Int)} : dl (dP p) = dQ false p := by
  simp only [dP, dl, dls_map, List.map_map, dQ, sq_false]
  congr 1
  exact List.map_congr_left fun r _ => by simp [dI, dl, dl_int]
theorem Pu.dQ {t : Bool} {p : List (List Int)} : Pu 2 (dQ t p) := Pu.sq fun x hx => by
  obtain ⟨y, _, rfl⟩ := List.mem_map.mp hx
  exact Pu.sq fun x hx => by
    obtain ⟨y, _, rfl⟩ := List.mem_map.mp hx
    exact .int
/-- shops for bakers -/
def trP (w : Nat) (p : List (List Int)) : List (List Int) := (List.range w).map fun j => p.map fun r => cl r j
theorem heads_ints : ∀ {ls : List (List Int)}, (∀ r ∈ ls, r ≠ []) → heads (ls.map fun r => r.map .int) = some (ls.map fun r => D.int (cl r 0), ls.map fun r => r.tail.map .int)
  | [], _ => rfl
  | r :: ls, h => by
    cases r with
    | nil => exact absurd rfl (h [] (by simp))
    | cons x xs =>
      have ih := heads_ints (ls := ls) fun r hr => h r (by simp [hr])
      simp [heads, ih, cl]
theorem zipN_ints : ∀ (n : Nat) {ls : List (List Int)}, (∀ r ∈ ls, r.length = n) → zipN n (ls.map fun r => r.map .int) = (List.range n).map fun j => D.tup (ls.map fun r => D.int (cl r j))
  | 0, _, _ => rfl
  | n + 1, ls, h => by
    rw [zipN, heads_ints fun r hr e => by have := h r hr; rw [e] at this; cases this]
    have ih := zipN_ints n (ls := ls.map List.tail) fun r hr => by
      obtain ⟨r', hr', rfl⟩ := List.mem_map.mp hr
      rw [List.length_tail, h r' hr']; rfl
    rw [List.map_map] at ih
    simp only [Function.comp_def] at ih
    dsimp only
    rw [ih, List.range_succ_eq_map, List.map_cons, List.map_map]
    congr 1
    refine List.map_congr_left fun j _ => ?_
    simp only [Function.comp_def, List.map_map]
    congr 1
    refine List.map_congr_left fun r hr => ?_
    have := h r hr
    cases r with
    | nil => cases this
    | cons x xs => rfl
theorem seqsD_sq {t : Bool} : ∀ (ls : List (List Int)), seqsD (ls.map fun r => sq t (r.map .int)) = some (ls.map fun r => r.map .int)
  | [] => rfl
  | r :: ls => by simp [seqsD, seqsD_sq ls]
theorem zip_rows {t : Bool} {w : Nat} {p : List (List Int)} (h0 : p ≠ []) (h16 : p.length ≤ 16) (hw : ∀ r ∈ p, r.length = w) : ∃ ls, zipD (p.map fun r => sq t (r.map .int)) = some ls ∧ zipL ls = (trP w p).map dI := by
  refine ⟨p.map fun r => r.map .int, ?_, ?_⟩
  · unfold zipD
    rw [if_pos ⟨by simpa using h16, by simpa using h0⟩, seqsD_sq]
  · cases p with
    | nil => exact absurd rfl h0
    | cons r ls =>
      have e : (r.map D.int).length = w := by rw [List.length_map]; exact hw r (by simp)
      show zipN (r.map D.int).length ((r :: ls).map fun r => r.map .int) = _
      rw [e, zipN_ints w hw]
      unfold trP
      rw [List.map_map]
      refine List.map_congr_left fun j _ => ?_
      simp [dI]
theorem map_range_get {α : Type} (xs : List α) (d : α) : (List.range xs.length).map (fun i => xs.getD i d) = xs := by
  apply List.ext_getElem
  · simp
  · intro i h1 h2
    simp [List.getD, List.getElem?_eq_getElem h2]
theorem map_range_rev {α : Type} (xs : List α) (d : α) : (List.range xs.length).map (fun i => xs.getD (xs.length - 1 - i) d) = xs.reverse := by
  apply List.ext_getElem
  · simp
  · intro i h1 h2
    simp at h1
    have h3 : xs.length - 1 - i < xs.length := by omega
    simp [List.getD, List.getElem?_eq_getElem h3]
theorem ix_dQ {t : Bool} {p : List (List Int)} {i : Nat} (h : i < p.length) : ixD (dQ t p) (.int (i : Int)) = some (sq t ((rowP p i).map .int)) := ixD_sq (by simp [List.getElem?_map, List.getElem?_eq_getElem h, rowP, cl, List.getD])
theorem ix_ints {t : Bool} {r : List Int} {i : Nat} (h : i < r.length) : ixD (sq t (r.map .int)) (.int (i : Int)) = some (.int (cl r i)) := ixD_sq (by simp [List.getElem?_map, List.getElem?_eq_getElem h, rowP, cl, List.getD])
end G48
namespace G48
open PySem
/-- a comprehension whose step leaves the memory, whatever it is -/
theorem comp_pure {α : Type} {f : D → Mem → R (Option D)} {e : α → D} {m : Mem} {xs : List α} (g : α → D) (h : ∀ x ∈ xs, ∀ m', f (e x) m' = .ok (some (g x)) m') (hb : ∀ x ∈ xs, ∀ k, below k (g x) = true) :
    compEnd false m.length (compLoop f (xs.map e) (m ++ [some .tmp])) = .ok (.lst (xs.map g)) m := comp_mapL (fun x hx => h x hx _) fun x hx => hb x hx _
end G48
namespace G48
theorem div_ok {k : Int} (h : k < DIVB) : leB k DIVN = true := by
  have e : DIVB = (DIVN : Int) := by decide +kernel
  rw [e] at h
  exact leB_le.mpr (Int.le_of_lt h)
def okTrue : R D → Bool
  | .ok (.bl true) _ => true
  | _ => false
theorem okTrue_ok {r : R D} (h : okTrue r = true) : ∃ m, r = .ok (.bl true) m := by
  unfold okTrue at h
  split at h
  · exact ⟨_, rfl⟩
  · cases h
end G48
namespace G48
open PySem
theorem But.same {b : Nat} {m m1 : Mem} (h : But b m m1) {p : Prop} [Decidable p] : (if p then m1.take m.length else m1) = m1 := by
  split
  · exact h.eqCut
  · rfl
/-! ### prefix sums and differences -/
def runI (a : Int) : List Int → List Int
  | [] => [a]
  | x :: xs => a :: runI (a + x) xs
theorem runI_len (a : Int) (xs : List Int) : (runI a xs).length = xs.length + 1 := by
  induction xs generalizing a with
  | nil => rfl
  | cons x xs ih => simp [runI, ih]
/-- the running sums, item by item from behind -/
def lastI (a : Int) (xs : List Int) : Int := a + xs.sum
theorem runI_snoc (a : Int) (xs : List Int) (x : Int) : runI a (xs ++ [x]) = runI a xs ++ [a + xs.sum + x] := by
  induction xs generalizing a with
  | nil => simp [runI]
  | cons y ys ih =>
    simp only [List.cons_append, runI, ih, List.sum_cons]
    rw [show a + y + ys.sum + x = a + (y + ys.sum) + x by omega]
theorem runI_last (a : Int) (xs : List Int) : (runI a xs)[xs.length]? = some (a + xs.sum) := by
  induction xs generalizing a with
  | nil => simp [runI]
  | cons y ys ih =>
    simp only [runI, List.length_cons, List.getElem?_cons_succ, ih, List.sum_cons]
    congr 1
    omega
/-- the last item -/
theorem ix_last {xs : List D} {d : D} : ixD (.lst (xs ++ [d])) (.int (-1)) = some d := by
  have h : pyIx (xs ++ [d]).length (-1) = some xs.length := by
    unfold pyIx
    rw [if_neg (by omega), if_pos (by simp; omega)]
    congr 1
    simp
    omega
  simp only [ixD, h, Option.bind_some]
  simp
mutual
/-- with tuples in the place of lists -/
def dt : D → D
  | .tup xs => .tup (dts xs)
  | .lst xs => .tup (dts xs)
  | d => d
def dts : List D → List D
  | [] => []
  | x :: xs => dt x :: dts xs
end
theorem dts_map : ∀ xs : List D, dts xs = xs.map dt
  | [] => rfl
  | x :: xs => by simp [dts, dts_map xs]
theorem Pu.dt {n : Nat} {d : D} (h : Pu n d) : Pu n (G48.dt d) := by
  induction h with
  | non => exact .non
  | bl => exact .bl
  | int => exact .int
  | str => exact .str
  | tup _ ih =>
    simp only [G48.dt, dts_map]
    exact .tup fun x hx => by
      obtain ⟨y, hy, rfl⟩ := List.mem_map.mp hx
      exact ih y hy
  | lst _ ih =>
    simp only [G48.dt, dts_map]
    exact .tup fun x hx => by
      obtain ⟨y, hy, rfl⟩ := List.mem_map.mp hx
      exact ih y hy
theorem dt_dQ {t : Bool} {p : List (List Int)} : dt (dQ t p) = dP p := by
  have key : ∀ r : List Int, dt (sq t (r.map .int)) = dI r := fun r => by
    cases t <;> simp only [sq_true, sq_false, dt, dts_map, List.map_map, dI] <;> congr 1 <;> exact List.map_congr_left fun x _ => rfl
  cases t
  · simp only [dQ, sq_false, dt, dts_map, List.map_map, dP]
    congr 1
    exact List.map_congr_left fun r _ => key r
  · simp only [dQ, sq_true, dt, dts_map, List.map_map, dP]
    congr 1
    exact List.map_congr_left fun r _ => key r
end G48
namespace G48
open PySem
def addI (a b : List Int) : List Int := List.zipWith (· + ·) a b
def corFrom (a : List Int) : List (List Int) → List (List Int)
  | [] => [a]
  | r :: rs => a :: corFrom (addI a (runI 0 r)) rs
/-- all corners -/
def corP (w : Nat) (p : List (List Int)) : List (List Int) := corFrom (List.replicate (w + 1) 0) p
/-- the last row of corners -/
def corLast (a : List Int) : List (List Int) → List Int
  | [] => a
  | r :: rs => corLast (addI a (runI 0 r)) rs
theorem corFrom_snoc (a : List Int) (p : List (List Int)) (r : List Int) : corFrom a (p ++ [r]) = corFrom a p ++ [addI (corLast a p) (runI 0 r)] := by
  induction p generalizing a with
  | nil => simp [corFrom, corLast]
  | cons q p ih => simp [corFrom, corLast, ih]
theorem corFrom_split (a : List Int) (p : List (List Int)) : ∃ xs, corFrom a p = xs ++ [corLast a p] := by
  induction p generalizing a with
  | nil => exact ⟨[], rfl⟩
  | cons q p ih =>
    obtain ⟨xs, e⟩ := ih (addI a (runI 0 q))
    exact ⟨a :: xs, by simp [corFrom, corLast, e]⟩
theorem corFrom_len (a : List Int) (p : List (List Int)) : (corFrom a p).length = p.length + 1 := by
  induction p generalizing a with
  | nil => rfl
  | cons q p ih => simp [corFrom, ih]
theorem addI_len {a b : List Int} (h : a.length = b.length) : (addI a b).length = a.length := by
  simp [addI, List.length_zipWith, h]
theorem corLast_len {w : Nat} {p : List (List Int)} (h : ∀ r ∈ p, r.length = w) {a : List Int} (ha : a.length = w + 1) : (corLast a p).length = w + 1 := by
  induction p generalizing a with
  | nil => exact ha
  | cons q p ih =>
    refine ih (fun r hr => h r (by simp [hr])) ?_
    rw [addI_len (by rw [runI_len, ha, h q (by simp)]), ha]
theorem corFrom_rect {w : Nat} {p : List (List Int)} (h : ∀ r ∈ p, r.length = w) {a : List Int} (ha : a.length = w + 1) : ∀ r ∈ corFrom a p, r.length = w + 1 := by
  induction p generalizing a with
  | nil => intro r hr; simp [corFrom] at hr; subst hr; exact ha
  | cons q p ih =>
    intro r hr
    simp only [corFrom, List.mem_cons] at hr
    rcases hr with z | z
    · subst z; exact ha
    · exact ih (fun r hr => h r (by simp [hr])) (by rw [addI_len (by rw [runI_len, ha, h q (by simp)]), ha]) r z
theorem rep_ints {k : Nat} : rep [D.int 0] k = (List.replicate k (0 : Int)).map .int := by
  induction k with
  | zero => rfl
  | succ k ih => simp [rep, ih, List.replicate_succ]
/-- zip of two rows of numbers -/
theorem zip_ints (a b : List Int) : (a.map D.int).zip (b.map D.int) = (a.zip b).map fun p => (D.int p.1, D.int p.2) := by
  induction a generalizing b with
  | nil => rfl
  | cons x a ih => cases b with
    | nil => rfl
    | cons y b => simp [ih]
theorem zipWith_zip (f : Int → Int → Int) (a b : List Int) : (a.zip b).map (fun p => f p.1 p.2) = List.zipWith f a b := by
  induction a generalizing b with
  | nil => rfl
  | cons x a ih => cases b with
    | nil => rfl
    | cons y b => simp [ih]
theorem take_succ_get {α : Type} {xs : List α} {i : Nat} {x : α} (h : xs[i]? = some x) : xs.take (i + 1) = xs.take i ++ [x] := by
  rw [List.take_succ, h]; rfl
end G48
namespace G48
open PySem
theorem zipD_dI {a b : List Int} : zipD [dI a, dI b] = some [a.map .int, b.map .int] := by simp [zipD, seqsD, dI, seqD]
theorem zipD_lI {a b : List Int} : zipD [.lst (a.map .int), .lst (b.map .int)] = some [a.map .int, b.map .int] := by simp [zipD, seqsD, seqD]
theorem zipL_I {a b : List Int} : zipL [a.map .int, b.map .int] = (a.zip b).map fun p => D.tup [.int p.1, .int p.2] := by
  rw [zipL2, zip_ints, List.map_map]; rfl
@[simp] theorem peek_dI {m : Mem} {r : List Int} : peek m (dI r) = dI r := rfl
@[simp] theorem peek_dP {m : Mem} {p : List (List Int)} : peek m (dP p) = dP p := rfl
@[simp] theorem peek_dQ {m : Mem} {t : Bool} {p : List (List Int)} : peek m (dQ t p) = dQ t p := Pu.dQ.peek
theorem seqD_dI {r : List Int} : seqD (dI r) = some (r.map .int) := rfl
theorem seqD_dP {p : List (List Int)} : seqD (dP p) = some (p.map dI) := rfl
theorem seqD_dQ {t : Bool} {p : List (List Int)} : seqD (dQ t p) = some (p.map fun r => sq t (r.map .int)) := by simp [dQ]
theorem len_dQ {t : Bool} {p : List (List Int)} : b1 .len (dQ t p) = some (.int p.length) := by simp [dQ]
theorem len_dI {r : List Int} : b1 .len (dI r) = some (.int r.length) := by simp [dI, b1]
theorem len_dP {p : List (List Int)} : b1 .len (dP p) = some (.int p.length) := by simp [dP, b1]
theorem bw_dI {k : Nat} {r : List Int} : below k (dI r) = true := Pu.dI.bw
theorem bw_dP {k : Nat} {p : List (List Int)} : below k (dP p) = true := Pu.dP.bw
theorem bws_dI {k : Nat} {p : List (List Int)} : belows k (p.map dI) = true := by
  have := (Pu.dP (p := p)).bw (k := k)
  simpa [dP, below] using this
end G48
namespace G48
open PySem
def subI (a b : List Int) : List Int := List.zipWith (· - ·) a b
/-- each number less the one ahead of it -/
def difI (l : List Int) : List Int := List.zipWith (fun ahead own => own - ahead) l l.tail
def difP (q : List (List Int)) : List (List Int) := (q.zip q.tail).map fun p => difI (subI p.2 p.1)
/-- what plan_of tells -/
def poD (q : List (List Int)) : D :=
  if (rowP q 0).any (fun x => !(x == 0)) || q.any (fun r => !(cl r 0 == 0)) then .non else if (difP q).all (fun r => r.all fun x => decide (0 ≤ x)) then dP (difP q) else .non
end G48
namespace G48
open PySem
theorem mul_zeros {k : Nat} (h : k ≤ 1000) : bop .mul (.lst [.int 0]) (.int (k : Int)) = some (.lst ((List.replicate k (0 : Int)).map .int)) := by
  have hb : (1000 : Nat) ≤ BIG := by decide
  have h1 : leB (k : Int) BIG = true := leB_le.mpr (by omega)
  have h2 : [D.int 0].length * (k : Int).toNat ≤ BIG := by simp; omega
  simp only [bop]
  rw [if_pos ⟨by omega, h1, h2⟩, Int.toNat_natCast, rep_ints]
end G48
namespace G48
open PySem
theorem bop_add (a b : Int) : bop .add (.int a) (.int b) = some (.int (a + b)) := by simp only [bop]
theorem bop_sub (a b : Int) : bop .sub (.int a) (.int b) = some (.int (a - b)) := by simp only [bop]
end G48
namespace G48
open PySem
/-! ### two clauses -/
def stepC1 (cf : Nat → List D → Mem → R D) (e : E) (t1 : Tg) (fs1 : Es) (ρ : Env) (d : D) (m : Mem) : R (Option D) := (R.of (bindT t1 d (wipe ρ (tgv t1))) m).bk fun ρ' m => (evT cf fs1 ρ' m).bk fun b m => iteR b ((evE cf e ρ' m).bk fun x m => .ok (some x) m) (.ok none m)
def stepC2 (cf : Nat → List D → Mem → R D) (e : E) (t : Tg) (fs : Es) (t1 : Tg) (i1 : I) (fs1 : Es) (ρ : Env) (d : D) (m : Mem) : R (List D) := (R.of (bindT t d (wipe ρ (tgv t ++ tgv t1))) m).bk fun ρ' m => (evT cf fs ρ' m).bk fun b m => iteR b ((evI cf i1 ρ' m).bk fun ds m => compLoop (stepC1 cf e t1 fs1 ρ') ds m) (.ok [] m)
section
variable {cf : Nat → List D → Mem → R D} {ρ : Env} {m : Mem} {e f : E} {t t1 : Tg} {i i1 : I} {fs fs1 : Es}
theorem ev_comp2 : evE cf (.comp2 e t i fs t1 i1 fs1) ρ m = (evI cf i ρ m).bk fun ds m => compEnd2 m.length (compLoop2 (stepC2 cf e t fs t1 i1 fs1 ρ) ds (m ++ [some .tmp])) := by simp only [evE] <;> rfl
theorem evt_nil : evT cf .nil ρ m = .ok true m := by simp only [evT]
theorem evt_one : evT cf (.cons f .nil) ρ m = (evE cf f ρ m).bk fun d m => .of (truth (peek m d)) m := by simp only [evT] <;> rfl
end
theorem compLoop2_pure {α : Type} {f : D → Mem → R (List D)} {e : α → D} {g : α → List D} {m : Mem} : ∀ {xs : List α}, (∀ x ∈ xs, f (e x) m = .ok (g x) m) → compLoop2 f (xs.map e) m = .ok (xs.flatMap g) m
  | [], _ => rfl
  | x :: xs, h => by
    have ih := compLoop2_pure (xs := xs) fun y hy => h y (by simp [hy])
    simp only [List.map_cons, compLoop2, h x (by simp), conc, ih, List.flatMap_cons]
theorem comp2_pure {α : Type} {f : D → Mem → R (List D)} {e : α → D} {m : Mem} {xs : List α} (g : α → List D) (h : ∀ x ∈ xs, ∀ m', f (e x) m' = .ok (g x) m') (hb : ∀ x ∈ xs, ∀ y ∈ g x, ∀ k, below k y = true) (hl : (xs.flatMap g).length ≤ BIG) :
    compEnd2 m.length (compLoop2 f (xs.map e) (m ++ [some .tmp])) = .ok (.lst (xs.flatMap g)) m := by
  rw [compLoop2_pure fun x hx => h x hx _]
  have hb' : belows m.length (xs.flatMap g) = true := belows_all fun y hy => by
    obtain ⟨x, hx, hy⟩ := List.mem_flatMap.mp hy
    exact hb x hx y hy _
  simp only [compEnd2, R.bind_ok, if_pos hl, if_pos hb', take_tmp]
theorem cut_tail {α : Type} {xs : List α} (h : xs ≠ []) : cutL xs (some 1) none = xs.tail := by
  have hp : 0 < xs.length := List.length_pos_iff.mpr h
  have e : cutIx xs.length 0 (some 1) = 1 := by
    have : min (1 : Int).toNat xs.length = 1 := by
      have : (1 : Int).toNat = 1 := rfl
      omega
    simp only [cutIx]
    rw [if_pos (by omega)]; exact this
  unfold cutL
  rw [e, show cutIx xs.length xs.length none = xs.length from rfl, List.take_length, List.drop_one]
theorem slice_tail {q : List (List Int)} (h : q ≠ []) : sliceD (dP q) (some 1) none = some (dP q.tail) := by
  have : cutL (q.map dI) (some 1) none = q.tail.map dI := by rw [cut_tail (by simpa using h), List.map_tail]
  simp only [dP, sliceD, this]
theorem slice_tailI {r : List Int} (h : r ≠ []) : sliceD (.lst (r.map .int)) (some 1) none = some (.lst (r.tail.map .int)) := by
  have : cutL (r.map D.int) (some 1) none = r.tail.map .int := by rw [cut_tail (by simpa using h), List.map_tail]
  simp only [sliceD, this]
theorem zipD_dP {a b : List (List Int)} : zipD [dP a, dP b] = some [a.map dI, b.map dI] := by simp [zipD, seqsD, dP, seqD]
theorem zipL_P {a b : List (List Int)} : zipL [a.map dI, b.map dI] = (a.zip b).map fun p => D.tup [dI p.1, dI p.2] := by
  rw [zipL2]
  induction a generalizing b with
  | nil => rfl
  | cons x a ih => cases b with
    | nil => rfl
    | cons y b => simp [ih]
theorem cop_ge_int (a b : Int) : cop .ge (.int a) (.int b) = some (.bl (decide (b ≤ a))) := rfl
end G48
namespace G48
open PySem
theorem zipL_Pt {q : List (List Int)} : zipL [q.map dI, (q.map dI).tail] = (q.zip q.tail).map fun p => D.tup [dI p.1, dI p.2] := by rw [← List.map_tail, zipL_P]
theorem zipL_It {r : List Int} : zipL [r.map .int, (r.map D.int).tail] = (r.zip r.tail).map fun p => D.tup [.int p.1, .int p.2] := by rw [← List.map_tail, zipL_I]
theorem zipD_lIt {a : List Int} : zipD [.lst (a.map .int), .lst (a.map D.int).tail] = some [a.map .int, (a.map D.int).tail] := by rw [← List.map_tail, zipD_lI]
end G48
namespace G48
open PySem
theorem flat_len {α β : Type} {xs : List α} {g : α → List β} {B : Nat} (h : ∀ x ∈ xs, (g x).length ≤ B) : (xs.flatMap g).length ≤ xs.length * B := by
  induction xs with
  | nil => simp
  | cons x xs ih =>
    have h1 := h x (by simp)
    have h2 := ih fun y hy => h y (by simp [hy])
    rw [List.flatMap_cons, List.length_append, List.length_cons, Nat.succ_mul]
    omega
theorem flat_map {α : Type} (f : α → D) : ∀ xs : List (List α), (xs.flatMap fun r => r.map f) = xs.flatten.map f
  | [] => rfl
  | x :: xs => by simp [flat_map f xs]
theorem all_flat {α : Type} (f : α → Bool) (xs : List (List α)) : b1 .all (.lst (xs.flatMap fun r => r.map fun x => D.bl (f x))) = some (.bl (xs.all fun r => r.all f)) := by
  rw [flat_map, all_map, List.all_flatten]
theorem difI_len {l : List Int} : (difI l).length ≤ l.length := by
  unfold difI
  rw [List.length_zipWith]
  exact Nat.min_le_left _ _
end G48
namespace G48
open PySem
def lI (r : List Int) : D := .lst (r.map .int)
theorem Pu.lI {r : List Int} : Pu 1 (lI r) := .lst fun x hx => by
  obtain ⟨y, _, rfl⟩ := List.mem_map.mp hx
  exact .int
@[simp] theorem peek_lI {m : Mem} {r : List Int} : peek m (lI r) = lI r := rfl
theorem bw_lI {k : Nat} {r : List Int} : below k (lI r) = true := Pu.lI.bw
theorem dQ_false {p : List (List Int)} : dQ false p = .lst (p.map lI) := rfl
theorem bws_lI {k : Nat} {p : List (List Int)} : belows k (p.map lI) = true := belows_all fun x hx => by
  obtain ⟨y, _, rfl⟩ := List.mem_map.mp hx
  exact bw_lI
theorem ix_lI {r : List Int} {i : Nat} (h : i < r.length) : ixD (lI r) (.int (i : Int)) = some (.int (cl r i)) := ix_ints (t := false) h
theorem zipWith_snoc {f : Int → Int → Int} : ∀ {a b : List Int} {x : Int}, b.length < a.length → List.zipWith f a (b ++ [x]) = List.zipWith f a b ++ [f (cl a b.length) x]
  | [], b, x, h => by simp at h
  | y :: a, [], x, h => by simp [cl]
  | y :: a, z :: b, x, h => by
    have ih := zipWith_snoc (f := f) (a := a) (b := b) (x := x) (by simpa using h)
    simp [ih, cl]
theorem corLast_head {p : List (List Int)} {a : List Int} (ha : a.head? = some 0) : (corLast a p).head? = some 0 := by
  induction p generalizing a with
  | nil => exact ha
  | cons q p ih =>
    refine ih ?_
    cases a with
    | nil => cases ha
    | cons x a =>
      simp at ha
      subst ha
      cases q <;> simp [addI, runI]
theorem corFrom_head {p : List (List Int)} {a : List Int} (ha : a.head? = some 0) : ∀ r ∈ corFrom a p, r.head? = some 0 := by
  induction p generalizing a with
  | nil => intro r hr; simp [corFrom] at hr; subst hr; exact ha
  | cons q p ih =>
    intro r hr
    simp only [corFrom, List.mem_cons] at hr
    rcases hr with z | z
    · subst z; exact ha
    · refine ih ?_ r z
      cases a with
      | nil => cases ha
      | cons x a =>
        simp at ha
        subst ha
        cases q <;> simp [addI, runI]
end G48
namespace G48
theorem enum_len : ∀ {xs : List D} {k : Int}, (enumL k xs).length = xs.length
  | [], _ => rfl
  | x :: xs, k => by simp [enumL, enum_len]
end G48
set_option linter.all false
set_option maxRecDepth 100000
/-! G48: the same runs, with lists that grow held as values (no memory but what is passed in). -/
namespace G48
open PySem

/-- slots; true: a list that grows here -/
abbrev QEnv := List (Option (Bool × D))
def qvar (pk : Bool) (o : Option (Option (Bool × D))) (m : Mem) : R D := match o with
  | some (some (false, d)) => .ok d m
  | some (some (true, d)) => if pk then .ok d m else .bad
  | _ => .bad
@[simp] theorem qvar_val {pk : Bool} {d : D} {m : Mem} : qvar pk (some (some (false, d))) m = .ok d m := rfl
@[simp] theorem qvar_acc {d : D} {m : Mem} : qvar true (some (some (true, d))) m = .ok d m := rfl
mutual
def qbT : Tg → D → QEnv → Option QEnv
  | .nm i, d, ρ => some (ρ.set i (some (false, d)))
  | .tp ts, d, ρ => (seqD d).bind fun ds => qbTs ts ds ρ
def qbTs : Tgs → List D → QEnv → Option QEnv
  | .nil, [], ρ => some ρ
  | .cons t r, d :: ds, ρ => (qbT t d ρ).bind fun ρ' => qbTs r ds ρ'
  | _, _, _ => none
end
def qwipe : QEnv → List Nat → QEnv
  | ρ, [] => ρ
  | ρ, v :: vs => qwipe (ρ.set v none) vs
def cloop (f : D → Mem → R (Option D)) [Hid f] (ds : List D) (m : Mem) : R (List D) := compLoop f ds m
def cloop2 (f : D → Mem → R (List D)) [Hid f] (ds : List D) (m : Mem) : R (List D) := compLoop2 f ds m

def okF : Es → Bool
  | .nil => true
  | .cons _ .nil => true
  | _ => false
@[simp] theorem okF_nil : okF .nil = true := rfl
@[simp] theorem okF_one {e : E} : okF (.cons e .nil) = true := rfl
mutual
def qE (cq : Nat → List D → Mem → R D) : Bool → E → QEnv → Mem → R D
  | pk, .var i, ρ, m => qvar pk ρ[i]? m
  | _, .int n, _, m => .ok (.int n) m
  | _, .bl b, _, m => .ok (.bl b) m
  | _, .non, _, m => .ok .non m
  | _, .str s, _, m => .ok (.str s) m
  | _, .gl _ d, _, m => if below 0 d = true then .ok d m else .bad
  | _, .bin o a b, ρ, m => (qE cq true a ρ m).bk fun x m => (qE cq true b ρ m).bk fun y m => .of (bop o (peek m x) (peek m y)) m
  | _, .neg a, ρ, m => (qE cq false a ρ m).bk fun x m => negD x m
  | _, .not a, ρ, m => (tst (qE cq true a ρ m)).bk fun b m => .ok (.bl (!b)) m
  | pk, .and a b, ρ, m => (qE cq pk a ρ m).bk fun x m => andR (truth (peek m x)) x m (qE cq pk b ρ m)
  | pk, .or a b, ρ, m => (qE cq pk a ρ m).bk fun x m => orR (truth (peek m x)) x m (qE cq pk b ρ m)
  | _, .cmp o a b, ρ, m => (qE cq true a ρ m).bk fun x m => (qE cq true b ρ m).bk fun y m => .of (cop o (peek m x) (peek m y)) m
  | _, .chain o o' a b c, ρ, m => (qE cq true a ρ m).bk fun x m => (qE cq true b ρ m).bk fun y m => (R.of (cop o (peek m x) (peek m y)) m).bk fun r m => chR r m ((qE cq true c ρ m).bk fun z m => .of (cop o' (peek m y) (peek m z)) m)
  | _, .isN a, ρ, m => (qE cq false a ρ m).bk fun x m => .ok (.bl (isNon x)) m
  | _, .notN a, ρ, m => (qE cq false a ρ m).bk fun x m => .ok (.bl (!isNon x)) m
  | pk, .ife c a b, ρ, m => (tst (qE cq true c ρ m)).bk fun t m => iteR t (qE cq pk a ρ m) (qE cq pk b ρ m)
  | _, .tup es, ρ, m => (qEs cq es ρ m).bk fun ds m => iteR (decide (ds.length ≤ BIG)) (.ok (.tup ds) m) .bad
  | _, .lst es, ρ, m => (qEs cq es ρ m).bk fun ds m => iteR (decide (ds.length ≤ BIG)) (.ok (.lst ds) m) .bad
  | _, .cel _, _, _ => .bad
  | _, .ix a i, ρ, m => (qE cq true a ρ m).bk fun x m => (qE cq false i ρ m).bk fun y m => .of (ixD (peek m x) y) m
  | _, .slice a lo hi, ρ, m => (qE cq true a ρ m).bk fun x m => (opt (qEs cq lo ρ m)).bk fun l m => (opt (qEs cq hi ρ m)).bk fun h m => .of (sliceD (peek m x) l h) m
  | _, .rev a, ρ, m => (qE cq true a ρ m).bk fun x m => .of (revD (peek m x)) m
  | _, .call f es, ρ, m => (qEs cq es ρ m).bk fun ds m => cq f ds m
  | _, .callA f es arr, ρ, m => (qEs cq es ρ m).bk fun ds m => (R.of (arrange arr ds) m).bk fun ds m => cq f ds m
  | _, .b1 f a, ρ, m => (qE cq true a ρ m).bk fun x m => .of (b1 f (peek m x)) m
  | _, .min2 a b, ρ, m => (qE cq false a ρ m).bk fun x m => (qE cq false b ρ m).bk fun y m => min2D x y m
  | _, .max2 a b, ρ, m => (qE cq false a ρ m).bk fun x m => (qE cq false b ρ m).bk fun y m => max2D x y m
  | _, .isin a ts, ρ, m => (qE cq true a ρ m).bk fun x m => .of (isinD (peek m x) ts) m
  | _, .seqI t i, ρ, m => (qI cq i ρ m).bk fun ds m => .ok (if t then .tup ds else .lst ds) m
  | _, .comp false e t i fs, ρ, m => iteR (okF fs) ((qI cq i ρ m).bk fun ds m =>
    (cloop (fun d m => (R.of (qbT t d (qwipe ρ (tgv t))) m).bk fun ρ' m => (qT cq fs ρ' m).bk fun b m => iteR b ((qE cq false e ρ' m).bk fun x m => .ok (some x) m) (.ok none m)) ds m).bk fun xs m => .ok (.lst xs) m) .bad
  | _, .comp true _ _ _ _, _, _ => .bad
  | _, .comp2 e t i fs t1 i1 fs1, ρ, m => (qI cq i ρ m).bk fun ds m =>
    (cloop2 (fun d m => (R.of (qbT t d (qwipe ρ (tgv t ++ tgv t1))) m).bk fun ρ' m => (qT cq fs ρ' m).bk fun b m => iteR b ((qI cq i1 ρ' m).bk fun ds1 m =>
      cloop (fun d m => (R.of (qbT t1 d (qwipe ρ' (tgv t1))) m).bk fun ρ'' m => (qT cq fs1 ρ'' m).bk fun b m => iteR b ((qE cq false e ρ'' m).bk fun x m => .ok (some x) m) (.ok none m)) ds1 m) (.ok [] m)) ds m).bk fun xs m => iteR (decide (xs.length ≤ BIG)) (.ok (.lst xs) m) .bad
  | _, .cellOf _, _, _ => .bad
  | _, .attr a f, ρ, m => (qE cq false a ρ m).bk fun x m => attrR x f m
def qT (cq : Nat → List D → Mem → R D) : Es → QEnv → Mem → R Bool
  | .nil, _, m => .ok true m
  | .cons f .nil, ρ, m => tst (qE cq true f ρ m)
  | .cons _ (.cons _ _), _, _ => .bad
  | .cons _ (.star _ _), _, _ => .bad
  | .star _ _, _, _ => .bad
def qEs (cq : Nat → List D → Mem → R D) : Es → QEnv → Mem → R (List D)
  | .nil, _, m => .ok [] m
  | .cons e r, ρ, m => (qE cq false e ρ m).bk fun x m => (qEs cq r ρ m).bk fun xs m => .ok (x :: xs) m
  | .star e r, ρ, m => (qE cq true e ρ m).bk fun x m => (R.of (seqD (peek m x)) m).bk fun ys m => (qEs cq r ρ m).bk fun xs m => .ok (ys ++ xs) m
def qI (cq : Nat → List D → Mem → R D) : I → QEnv → Mem → R (List D)
  | .of e, ρ, m => (qE cq false e ρ m).bk fun x m => .of (seqD x) m
  | .rng es, ρ, m => (qEs cq es ρ m).bk fun ds m => .of (rngD ds) m
  | .enum e, ρ, m => (qE cq false e ρ m).bk fun x m => (R.of (seqD x) m).bk fun xs m => .ok (enumL 0 xs) m
  | .zip es, ρ, m => (qEs cq es ρ m).bk fun ds m => (R.of (zipD ds) m).bk fun ls m => .ok (zipL ls) m
  | .zipS e, ρ, m => (qE cq true e ρ m).bk fun x m => (R.of (seqD (peek m x)) m).bk fun ds m => (R.of (zipD ds) m).bk fun ls m => .ok (zipL ls) m
  | .enumZip es, ρ, m => (qEs cq es ρ m).bk fun ds m => (R.of (zipD ds) m).bk fun ls m => .ok (enumL 0 (zipL ls)) m
end

/-! ### statements -/
def isMk : E → Bool
  | .cel _ => true
  | .cellOf _ => true
  | .comp true _ _ _ _ => true
  | _ => false
def accR (o : Option (List D)) (m : Mem) : R (List D) := match o with
  | some ds => .ok ds m
  | none => .bad
/-- a list that may grow is made -/
def mkL (ds : List D) : Option (List D) := if belows 0 ds = true then some ds else none
def lstO (x : D) : Option (List D) := match x with
  | .lst ds => some ds
  | _ => none
def qC (cq : Nat → List D → Mem → R D) : E → QEnv → Mem → R (List D)
  | .cel es, ρ, m => (qEs cq es ρ m).bk fun ds m => iteR (decide (ds.length ≤ BIG)) (.of (mkL ds) m) .bad
  | .cellOf a, ρ, m => (qE cq false a ρ m).bk fun x m => (R.of (lstO x) m).bk fun ds m => .of (mkL ds) m
  | .comp true e t i fs, ρ, m => iteR (okF fs) ((qI cq i ρ m).bk fun ds m =>
    (cloop (fun d m => (R.of (qbT t d (qwipe ρ (tgv t))) m).bk fun ρ' m => (qT cq fs ρ' m).bk fun b m => iteR b ((qE cq false e ρ' m).bk fun x m => .ok (some x) m) (.ok none m)) ds m).bk fun xs m => .of (mkL xs) m) .bad
  | _, _, _ => .bad
/-- what a slot is set to -/
def qV (cq : Nat → List D → Mem → R D) (e : E) (ρ : QEnv) (m : Mem) : R (Bool × D) :=
  if isMk e then (qC cq e ρ m).bk fun ds m => .ok (true, .lst ds) m else (qE cq false e ρ m).bk fun d m => .ok (false, d) m
def qVs (cq : Nat → List D → Mem → R D) : Es → QEnv → Mem → R (List (Bool × D))
  | .nil, _, m => .ok [] m
  | .cons e r, ρ, m => (qV cq e ρ m).bk fun x m => (qVs cq r ρ m).bk fun xs m => .ok (x :: xs) m
  | .star _ _, _, _ => .bad
def qsetAll : List Nat → List (Bool × D) → QEnv → Option QEnv
  | [], [], ρ => some ρ
  | i :: is, d :: ds, ρ => qsetAll is ds (ρ.set i (some d))
  | _, _, _ => none
def varOf : E → Option Nat
  | .var j => some j
  | _ => none
def accO (o : Option (Option (Bool × D))) : Option (List D) := match o with
  | some (some (true, .lst xs)) => some xs
  | _ => none
/-- x[k] = d for a list that grows here -/
def setAcc (xs : List D) (k d : D) : Option (List D) := match k with
  | .int k => if below 0 d = true then (pyIx xs.length k).map fun j => xs.set j d else none
  | _ => none
def appAcc (xs : List D) (d : D) : Option (List D) := if xs.length < BIG ∧ below 0 d = true then some (xs ++ [d]) else none
def extAcc (xs : List D) (d : D) : Option (List D) := match d with
  | .lst ys => if xs.length + ys.length ≤ BIG ∧ belows 0 ys = true then some (xs ++ ys) else none
  | _ => none
def envR (o : Option (List D)) (ρ : QEnv) (j : Nat) (m : Mem) : R (Fl × QEnv) := match o with
  | some xs => .ok (.nx, ρ.set j (some (true, .lst xs))) m
  | none => .bad
@[simp] theorem envR_some {xs : List D} {ρ : QEnv} {j : Nat} {m : Mem} : envR (some xs) ρ j m = .ok (.nx, ρ.set j (some (true, .lst xs))) m := rfl
def memQ (o : Option Mem) (ρ : QEnv) : R (Fl × QEnv) := match o with
  | some m => .ok (.nx, ρ) m
  | none => .bad
@[simp] theorem memQ_some {m : Mem} {ρ : QEnv} : memQ (some m) ρ = .ok (.nx, ρ) m := rfl
/-- the two ways of x[k] = d -/
def setQ (o : Option (Option (Bool × D))) (j : Nat) (k d : D) (ρ : QEnv) (m : Mem) : R (Fl × QEnv) := match o with
  | some (some (true, .lst xs)) => envR (setAcc xs k d) ρ j m
  | some (some (false, x)) => memQ (setIxD x k d m) ρ
  | _ => .bad
@[simp] theorem setQ_acc {xs : List D} {j : Nat} {k d : D} {ρ : QEnv} {m : Mem} : setQ (some (some (true, .lst xs))) j k d ρ m = envR (setAcc xs k d) ρ j m := rfl
@[simp] theorem setQ_val {x : D} {j : Nat} {k d : D} {ρ : QEnv} {m : Mem} : setQ (some (some (false, x))) j k d ρ m = memQ (setIxD x k d m) ρ := rfl
def accQ (o : Option (Option (Bool × D))) (m : Mem) : R (List D) := .of (accO o) m
@[simp] theorem accO_acc {xs : List D} : accO (some (some (true, .lst xs))) = some xs := rfl
def augQ (i : Nat) (o : Bop) (x y : D) (ρ : QEnv) (m : Mem) : R (Fl × QEnv) := match x, y with
  | .int _, .int _ => (R.of (bop o x y) m).bk fun z m => .ok (.nx, ρ.set i (some (false, z))) m
  | _, _ => .bad
@[simp] theorem augQ_int {i : Nat} {o : Bop} {x y : Int} {ρ : QEnv} {m : Mem} : augQ i o (.int x) (.int y) ρ m = (R.of (bop o (.int x) (.int y)) m).bk fun z m => .ok (.nx, ρ.set i (some (false, z))) m := rfl
def unacc : QEnv → QEnv
  | [] => []
  | some (true, _) :: r => none :: unacc r
  | x :: r => x :: unacc r
def tryQ (cs : List Nat) (r : R (Fl × QEnv)) (ρ : QEnv) (i j : Nat) (wp : List Nat) : R (Fl × QEnv) := match r with
  | .exc (.exc c vs) m' => if cs.contains c then .ok (.nx, ((qwipe (unacc ρ) wp).set i none).set j (some (false, .exc c vs))) m' else .bad
  | .exc _ _ => .bad
  | .ok p m' => .ok p m'
  | .bad => .bad
@[simp] theorem tryQ_ok {cs : List Nat} {p : Fl × QEnv} {m : Mem} {ρ : QEnv} {i j : Nat} {wp : List Nat} : tryQ cs (.ok p m) ρ i j wp = .ok p m := rfl
theorem tryQ_exc {cs : List Nat} {c : Nat} {vs : List D} {m : Mem} {ρ : QEnv} {i j : Nat} {wp : List Nat} (h : cs.contains c = true) : tryQ cs (.exc (.exc c vs) m) ρ i j wp = .ok (.nx, ((qwipe (unacc ρ) wp).set i none).set j (some (false, .exc c vs))) m := by simp only [tryQ, h, if_true]
def flQ (p : Fl × QEnv) (m : Mem) (k : R (Fl × QEnv)) [Hid k] : R (Fl × QEnv) := match p.1 with
  | .nx => k
  | _ => .ok p m
@[simp] theorem flQ_nx {ρ : QEnv} {m : Mem} {k : R (Fl × QEnv)} [Hid k] : flQ (.nx, ρ) m k = k := rfl
@[simp] theorem flQ_rt {ρ : QEnv} {m : Mem} {d : D} {k : R (Fl × QEnv)} [Hid k] : flQ (.rt d, ρ) m k = .ok (.rt d, ρ) m := rfl
@[simp] theorem flQ_bk {ρ : QEnv} {m : Mem} {k : R (Fl × QEnv)} [Hid k] : flQ (.bk, ρ) m k = .ok (.bk, ρ) m := rfl
@[simp] theorem flQ_ct {ρ : QEnv} {m : Mem} {k : R (Fl × QEnv)} [Hid k] : flQ (.ct, ρ) m k = .ok (.ct, ρ) m := rfl
def floopR (step : D → QEnv → Mem → R (Fl × QEnv)) : List D → QEnv → Mem → R (Fl × QEnv)
  | [], ρ, m => .ok (.nx, ρ) m
  | x :: xs, ρ, m => (step x ρ m).bk fun p m => match p.1 with
    | .nx => floopR step xs p.2 m
    | .ct => floopR step xs p.2 m
    | .bk => .ok (.nx, p.2) m
    | .rt d => .ok (.rt d, p.2) m
def floop (step : D → QEnv → Mem → R (Fl × QEnv)) [Hid step] (ds : List D) (ρ : QEnv) (m : Mem) : R (Fl × QEnv) := floopR step ds ρ m
def wloopR (test : QEnv → Mem → R Bool) (step : QEnv → Mem → R (Fl × QEnv)) : Nat → QEnv → Mem → R (Fl × QEnv)
  | 0, _, _ => .bad
  | n + 1, ρ, m => (test ρ m).bk fun b m => if b then (step ρ m).bk fun p m => match p.1 with
      | .nx => wloopR test step n p.2 m
      | .ct => wloopR test step n p.2 m
      | .bk => .ok (.nx, p.2) m
      | .rt d => .ok (.rt d, p.2) m
    else .ok (.nx, ρ) m
def wloop (test : QEnv → Mem → R Bool) (step : QEnv → Mem → R (Fl × QEnv)) [Hid test] [Hid step] (n : Nat) (ρ : QEnv) (m : Mem) : R (Fl × QEnv) := wloopR test step n ρ m
def qwipeR (wp : List Nat) (r : R (Fl × QEnv)) : R (Fl × QEnv) := r.bk fun p m => .ok (p.1, qwipe p.2 wp) m
mutual
def qS (wf : Nat) (cq : Nat → List D → Mem → R D) : S → QEnv → Mem → R (Fl × QEnv)
  | .set i e, ρ, m => (qV cq e ρ m).bk fun d m => .ok (.nx, ρ.set i (some d)) m
  | .setT t e, ρ, m => (qE cq false e ρ m).bk fun d m => (R.of (qbT t d ρ) m).bk fun ρ m => .ok (.nx, ρ) m
  | .par is es, ρ, m => (qVs cq es ρ m).bk fun ds m => (R.of (qsetAll is ds ρ) m).bk fun ρ m => .ok (.nx, ρ) m
  | .setIx a i e, ρ, m => (R.of (varOf a) m).bk fun j m => (qE cq false e ρ m).bk fun d m => (qvar true ρ[j]? m).bk fun _ m => (qE cq false i ρ m).bk fun k m => setQ ρ[j]? j k d ρ m
  | .aug i o e, ρ, m => (qvar false ρ[i]? m).bk fun x m => (qE cq false e ρ m).bk fun y m => augQ i o x y ρ m
  | .expr e, ρ, m => (qE cq false e ρ m).bk fun _ m => .ok (.nx, ρ) m
  | .app a e, ρ, m => (R.of (varOf a) m).bk fun j m => (accQ ρ[j]? m).bk fun xs m => (qE cq false e ρ m).bk fun d m => envR (appAcc xs d) ρ j m
  | .ext a e, ρ, m => (R.of (varOf a) m).bk fun j m => (accQ ρ[j]? m).bk fun xs m => (qE cq false e ρ m).bk fun d m => envR (extAcc xs d) ρ j m
  | .iff c a b, ρ, m => (tst (qE cq true c ρ m)).bk fun t m => iteR t (qSs wf cq a ρ m) (qSs wf cq b ρ m)
  | .for_ t i b wp, ρ, m => (qI cq i ρ m).bk fun ds m => floop (fun d ρ m => qwipeR wp ((R.of (qbT t d ρ) m).bk fun ρ m => qSs wf cq b ρ m)) ds ρ m
  | .whil c b wp, ρ, m => wloop (fun ρ m => tst (qE cq true c ρ m)) (fun ρ m => qwipeR wp (qSs wf cq b ρ m)) wf ρ m
  | .ret e, ρ, m => (qE cq false e ρ m).bk fun d m => .ok (.rt d, ρ) m
  | .retN, ρ, m => .ok (.rt .non, ρ) m
  | .brk, ρ, m => .ok (.bk, ρ) m
  | .cont, ρ, m => .ok (.ct, ρ) m
  | .pass, ρ, m => .ok (.nx, ρ) m
  | .raise c es, ρ, m => (qEs cq es ρ m).bk fun ds m => (R.of (mkExc c ds) m).bk fun vs m => .exc (.exc c vs) m
  | .tryx b cs i j wp, ρ, m => tryQ cs (qSs wf cq b ρ m) ρ i j wp
  | .frz i, ρ, m => (accQ ρ[i]? m).bk fun xs m => .ok (.nx, ρ.set i (some (false, .lst xs))) m
  | .stuck, _, _ => .bad
  | .subs _ _ _, _, _ => .bad
  | .frzD _, _, _ => .bad
def qSs (wf : Nat) (cq : Nat → List D → Mem → R D) : Ss → QEnv → Mem → R (Fl × QEnv)
  | .nil, ρ, m => .ok (.nx, ρ) m
  | .cons s r, ρ, m => (qS wf cq s ρ m).bk fun p m => flQ p m (qSs wf cq r p.2 m)
end
def finQ (r : R (Fl × QEnv)) : R D :=
  match r with
  | .ok (.rt d, _) m => .ok d m
  | .ok (.nx, _) m => .ok .non m
  | .ok _ _ => .bad
  | .exc x m => .exc x m
  | .bad => .bad
@[simp] theorem finQ_rt {d : D} {ρ : QEnv} {m : Mem} : finQ (.ok (.rt d, ρ) m) = .ok d m := rfl
@[simp] theorem finQ_nx {ρ : QEnv} {m : Mem} : finQ (.ok (.nx, ρ) m) = .ok .non m := rfl
@[simp] theorem finQ_exc {x : D} {m : Mem} : finQ (.exc x m) = .exc x m := rfl
def startQ (n : Nat) (ds : List D) : QEnv := ds.map (fun d => some (false, d)) ++ List.replicate (n - ds.length) none
/-- what is told of a function beforehand -/
abbrev Orc := Nat → Option (Nat → List D → Mem → R D)
def callQ (T : List Fn) (wf : Nat) (ex : Orc) : Nat → Nat → List D → Mem → R D
  | 0, _, _, _ => .bad
  | n + 1, i, ds, m => match ex i with
    | some g => g (n + 1) ds m
    | none => match T[i]? with
      | none => .bad
      | some fn => if ds.length = fn.np then finQ (qSs wf (callQ T wf ex n) fn.body (startQ fn.ns ds) m) else .bad
end G48
set_option linter.all false
set_option maxRecDepth 100000
/-! G48: runs by values are runs. -/
namespace G48
open PySem

/-! ### no cells from k on -/
mutual
theorem bwm {k l : Nat} (h : k ≤ l) : ∀ (y : D), below k y = true → below l y = true
  | .non, _ => rfl
  | .bl _, _ => rfl
  | .int _, _ => rfl
  | .str _, _ => rfl
  | .scr _, _ => rfl
  | .tup xs, q => bwsm h xs q
  | .lst xs, q => bwsm h xs q
  | .exc _ xs, q => bwsm h xs q
  | .cell n, q => by simp only [below, decide_eq_true_eq] at q ⊢; omega
theorem bwsm {k l : Nat} (h : k ≤ l) : ∀ (ys : List D), belows k ys = true → belows l ys = true
  | [], _ => rfl
  | y :: ys, q => by
    simp only [belows, Bool.and_eq_true] at q ⊢
    exact ⟨bwm h y q.1, bwsm h ys q.2⟩
end
theorem belows_iff {k : Nat} : ∀ {xs : List D}, belows k xs = true ↔ ∀ x ∈ xs, below k x = true
  | [] => by simp [belows]
  | x :: xs => by simp [belows, belows_iff (xs := xs)]
theorem bws_app {k : Nat} {xs ys : List D} (h : belows k xs = true) (h' : belows k ys = true) : belows k (xs ++ ys) = true := belows_iff.mpr fun x hx => by
  rcases List.mem_append.mp hx with z | z
  · exact belows_iff.mp h x z
  · exact belows_iff.mp h' x z
theorem bws_rep {k : Nat} {xs : List D} (h : belows k xs = true) : ∀ n, belows k (rep xs n) = true
  | 0 => rfl
  | n + 1 => bws_app h (bws_rep h n)
theorem bws_sub {k : Nat} {xs ys : List D} (h : belows k xs = true) (q : ∀ y ∈ ys, y ∈ xs) : belows k ys = true := belows_iff.mpr fun y hy => belows_iff.mp h y (q y hy)
theorem bw_bop {k : Nat} {o : Bop} {x y z : D} (h : bop o x y = some z) (hx : below k x = true) (hy : below k y = true) : below k z = true := by
  unfold bop at h
  split at h <;> first
    | (cases h; rfl)
    | (split at h <;> cases h; rfl)
    | (split at h <;> cases h; exact bws_app hx hy)
    | (split at h <;> cases h; exact bws_rep hx _)
    | cases h
theorem bw_cop {k : Nat} {o : Cop} {x y z : D} (h : cop o x y = some z) : below k z = true := by
  unfold cop at h
  split at h <;> first
    | (cases h; rfl)
    | (split at h <;> cases h; rfl)
    | cases h
theorem bw_ix {k : Nat} {x y z : D} (h : ixD x y = some z) (hx : below k x = true) : below k z = true := by
  unfold ixD at h
  split at h
  · obtain ⟨j, _, h⟩ := Option.bind_eq_some_iff.mp h
    exact belows_iff.mp hx _ (List.mem_of_getElem? h)
  · obtain ⟨j, _, h⟩ := Option.bind_eq_some_iff.mp h
    exact belows_iff.mp hx _ (List.mem_of_getElem? h)
  · cases h
theorem mem_cut {α : Type} {xs : List α} {lo hi : Option Int} {y : α} (h : y ∈ cutL xs lo hi) : y ∈ xs := by
  unfold cutL at h
  exact List.mem_of_mem_take (List.mem_of_mem_drop h)
theorem bw_slice {k : Nat} {x z : D} {lo hi : Option Int} (h : sliceD x lo hi = some z) (hx : below k x = true) : below k z = true := by
  unfold sliceD at h
  split at h <;> cases h
  · exact bws_sub hx fun y hy => mem_cut hy
  · exact bws_sub hx fun y hy => mem_cut hy
  · exact belows_iff.mpr fun y hy => by
      obtain ⟨i, _, rfl⟩ := List.mem_map.mp hy
      rfl
theorem bw_rev {k : Nat} {x z : D} (h : revD x = some z) (hx : below k x = true) : below k z = true := by
  unfold revD at h
  split at h <;> cases h
  · exact bws_sub hx fun y hy => List.mem_reverse.mp hy
  · exact bws_sub hx fun y hy => List.mem_reverse.mp hy
theorem bw_seq {k : Nat} {x : D} {ys : List D} (h : seqD x = some ys) (hx : below k x = true) : belows k ys = true := by
  unfold seqD at h
  split at h <;> cases h <;> exact hx
theorem bws_intL {k : Nat} {ns : List Int} : belows k (ns.map D.int) = true := belows_iff.mpr fun x hx => by
  obtain ⟨i, _, rfl⟩ := List.mem_map.mp hx
  rfl
theorem bws_pr {k : Nat} {l : List (Int × Int)} : belows k (l.map prD2) = true := belows_all fun x hx => by
  obtain ⟨p, _, rfl⟩ := List.mem_map.mp hx
  rfl
theorem bw_lsts {k : Nat} : ∀ {xs : List D} {ls : List (List D)}, lstsD xs = some ls → belows k xs = true → belows k ls.flatten = true
  | [], _, h, _ => by cases h; rfl
  | x :: r, ls, h, b => by
    cases x <;> simp only [lstsD, Option.map_eq_some_iff, reduceCtorEq] at h
    obtain ⟨l2, h1, rfl⟩ := h
    simp only [belows, Bool.and_eq_true] at b
    have b1 := b.1
    rw [below] at b1
    have ih := bw_lsts h1 b.2
    rw [List.flatten_cons]
    refine belows_all fun y hy => ?_
    rcases List.mem_append.mp hy with z | z
    · exact belows_iff.mp b1 y z
    · exact belows_iff.mp ih y z
theorem bw_b1 {k : Nat} {o : B1} {x z : D} (h : b1 o x = some z) (hx : below k x = true) : below k z = true := by
  unfold b1 at h
  split at h <;> first
    | (cases h; rfl)
    | (obtain ⟨xs, h1, h2⟩ := Option.map_eq_some_iff.mp h; subst h2; exact bw_seq h1 hx)
    | (obtain ⟨xs, h1, h2⟩ := Option.bind_eq_some_iff.mp h; obtain ⟨ns, h3, h4⟩ := Option.map_eq_some_iff.mp h2; subst h4; rfl)
    | (obtain ⟨xs, h1, h2⟩ := Option.map_eq_some_iff.mp h; subst h2; rfl)
    | (obtain ⟨xs, h1, h2⟩ := Option.map_eq_some_iff.mp h; subst h2; exact bws_intL)
    | (obtain ⟨xs, h1, h2⟩ := Option.map_eq_some_iff.mp h; subst h2; exact bws_pr)
    | (obtain ⟨xs, h1, h2⟩ := Option.bind_eq_some_iff.mp h; split at h2 <;> cases h2; exact bw_lsts h1 hx)
    | (obtain ⟨xs, h1, h2⟩ := Option.bind_eq_some_iff.mp h; split at h2 <;> cases h2; first | rfl | exact bws_intL)
    | (obtain ⟨xs, h1, h2⟩ := Option.bind_eq_some_iff.mp h; cases xs <;> simp [minL, maxL] at h2; subst h2; rfl)
    | cases h
theorem bw_isin {k : Nat} {x z : D} {ts : List Ty} (h : isinD x ts = some z) : below k z = true := by
  unfold isinD at h
  split at h <;> first
    | (split at h <;> cases h; rfl)
    | cases h
theorem mem_lookup {f : Str} {v : D} : ∀ {xs : List (Str × D)}, xs.lookup f = some v → v ∈ xs.map (·.2)
  | [], h => by cases h
  | (g, w) :: xs, h => by
    rw [List.lookup_cons] at h
    split at h
    · cases h; simp
    · simp only [List.map_cons, List.mem_cons]; exact .inr (mem_lookup h)
theorem bw_fld {k c : Nat} {f : Str} {vs : List D} {z : D} (h : fldD c f vs = some z) (hx : belows k vs = true) : below k z = true := by
  unfold fldD at h
  have := mem_lookup h
  refine belows_iff.mp hx _ ?_
  obtain ⟨⟨a, b⟩, hp, e⟩ := List.mem_map.mp this
  simp only at e
  subst e
  exact (List.of_mem_zip hp).2
theorem bw_mkExc {k c : Nat} {ds vs : List D} (h : mkExc c ds = some vs) (hx : belows k ds = true) : belows k vs = true := by
  unfold mkExc at h
  split at h
  · split at h
    · split at h
      · obtain ⟨xs, h1, h2⟩ := Option.map_eq_some_iff.mp h
        subst h2
        simp only [belows, Bool.and_true] at hx ⊢
        exact bw_seq h1 hx
      · cases h
    · cases h; exact hx
  · cases h
theorem bws_rng {k : Nat} {ds xs : List D} (h : rngD ds = some xs) : belows k xs = true := by
  have key : ∀ (n : Nat) (lo st : Int), belows k (rngL lo st n) = true := by
    intro n
    induction n with
    | zero => intro _ _; rfl
    | succ n ih => intro lo st; simp only [rngL, belows, below, Bool.true_and]; exact ih _ _
  unfold rngD at h
  split at h <;> first
    | (split at h <;> cases h; exact key _ _ _)
    | cases h
theorem bws_enum {k : Nat} : ∀ {xs : List D} {i : Int}, belows k xs = true → belows k (enumL i xs) = true
  | [], _, _ => rfl
  | x :: xs, i, h => by
    simp only [belows, Bool.and_eq_true] at h
    simp only [enumL, belows, below, Bool.true_and, Bool.and_true, Bool.and_eq_true]
    exact ⟨h.1, bws_enum h.2⟩
theorem bws_heads {k : Nat} : ∀ {ls : List (List D)} {ds : List D} {rs : List (List D)}, heads ls = some (ds, rs) → (∀ l ∈ ls, belows k l = true) → belows k ds = true ∧ ∀ l ∈ rs, belows k l = true
  | [], ds, rs, h, _ => by simp [heads] at h; obtain ⟨rfl, rfl⟩ := h; exact ⟨rfl, by simp⟩
  | [] :: _, ds, rs, h, _ => by simp [heads] at h
  | (d :: r) :: ls, ds, rs, h, q => by
    simp only [heads, Option.map_eq_some_iff] at h
    obtain ⟨⟨ds', rs'⟩, h1, h2⟩ := h
    have ih := bws_heads h1 fun l hl => q l (by simp [hl])
    have hq := q (d :: r) (by simp)
    simp only [belows, Bool.and_eq_true] at hq
    cases h2
    refine ⟨by simp only [belows, Bool.and_eq_true]; exact ⟨hq.1, ih.1⟩, fun l hl => ?_⟩
    rcases List.mem_cons.mp hl with z | z
    · subst z; exact hq.2
    · exact ih.2 l z
theorem bws_zipN {k : Nat} : ∀ (n : Nat) {ls : List (List D)}, (∀ l ∈ ls, belows k l = true) → belows k (zipN n ls) = true
  | 0, _, _ => rfl
  | n + 1, ls, h => by
    unfold zipN
    split
    · rfl
    · next ds rs q =>
      obtain ⟨h1, h2⟩ := bws_heads q h
      simp only [belows, below, Bool.and_eq_true]
      exact ⟨h1, bws_zipN n h2⟩
theorem bws_zipL {k : Nat} {ls : List (List D)} (h : ∀ l ∈ ls, belows k l = true) : belows k (zipL ls) = true := by
  cases ls with
  | nil => rfl
  | cons l ls => exact bws_zipN _ h
theorem bws_seqs {k : Nat} : ∀ {ds : List D} {ls : List (List D)}, seqsD ds = some ls → belows k ds = true → ∀ l ∈ ls, belows k l = true
  | [], ls, h, _ => by simp [seqsD] at h; subst h; simp
  | d :: ds, ls, h, q => by
    simp only [seqsD, Option.bind_eq_some_iff, Option.map_eq_some_iff] at h
    obtain ⟨l, h1, ls', h2, h3⟩ := h
    simp only [belows, Bool.and_eq_true] at q
    subst h3
    intro l' hl
    rcases List.mem_cons.mp hl with z | z
    · subst z; exact bw_seq h1 q.1
    · exact bws_seqs h2 q.2 l' z
theorem bws_zipD {k : Nat} {ds : List D} {ls : List (List D)} (h : zipD ds = some ls) (q : belows k ds = true) : belows k (zipL ls) = true := by
  unfold zipD at h
  split at h
  · exact bws_zipL (bws_seqs h q)
  · cases h
theorem bw_flat {k : Nat} {d : D} (h : flatD d = true) : below k d = true := by cases d <;> first | rfl | cases h
theorem bws_arr {k : Nat} : ∀ {arr : List Ar} {ds es : List D}, arrange arr ds = some es → belows k ds = true → belows k es = true
  | [], ds, es, h, _ => by simp [arrange] at h; subst h; rfl
  | .arg j :: r, ds, es, h, q => by
    simp only [arrange, Option.bind_eq_some_iff, Option.map_eq_some_iff] at h
    obtain ⟨d, h1, es', h2, h3⟩ := h
    subst h3
    simp only [belows, Bool.and_eq_true]
    exact ⟨belows_iff.mp q _ (List.mem_of_getElem? h1), bws_arr h2 q⟩
  | .dft d :: r, ds, es, h, q => by
    simp only [arrange] at h
    split at h
    · next hf =>
      obtain ⟨es', h2, h3⟩ := Option.map_eq_some_iff.mp h
      subst h3
      simp only [belows, Bool.and_eq_true]
      exact ⟨bw_flat hf, bws_arr h2 q⟩
    · cases h

/-! ### memory, values, slots -/
structure MOk (L : Nat) (m : Mem) : Prop where
  len : m.length = L
  cel : ∀ (n : Nat) (xs : List D), m[n]? = some (some (.lst xs)) → belows 0 xs = true
/-- a value by values beside the run's value -/
def Vq (L : Nat) (X : Mem) (pk : Bool) (d v : D) : Prop := (v = d ∧ below L d = true) ∨ (pk = true ∧ ∃ n xs, v = .cell (L + n) ∧ d = .lst xs ∧ X[n]? = some (some (.lst xs)) ∧ belows 0 xs = true)
theorem Vq.no {L : Nat} {X : Mem} {d v : D} (h : Vq L X false d v) : v = d ∧ below L d = true := by
  rcases h with h | ⟨h, _⟩
  · exact h
  · cases h
theorem get_ext {L : Nat} {m X : Mem} (h : m.length = L) (n : Nat) : (m ++ X)[L + n]? = X[n]? := by
  rw [← h, List.getElem?_append_right (by omega)]
  congr 1
  omega
theorem Vq.pk {L : Nat} {X m : Mem} {pk : Bool} {d v : D} (o : MOk L m) (h : Vq L X pk d v) : peek (m ++ X) v = peek m d ∧ below L (peek m d) = true := by
  rcases h with ⟨h1, h2⟩ | ⟨_, n, xs, h1, h2, h3, h4⟩
  · subst h1
    cases v <;> first | exact ⟨rfl, h2⟩ | skip
    next n =>
    have hn : n < L := by simpa [below] using h2
    have e : (m ++ X)[n]? = m[n]? := List.getElem?_append_left (by rw [o.len]; exact hn)
    unfold peek
    simp only [e]
    refine ⟨trivial, ?_⟩
    split
    · next q => exact bwsm (Nat.zero_le _) _ (o.cel _ _ q)
    · exact h2
  · subst h1 h2
    unfold peek
    simp only [get_ext o.len, h3]
    exact ⟨trivial, bwsm (Nat.zero_le _) _ h4⟩
structure RelX (L : Nat) (X : Mem) (ρq : QEnv) (ρ : Env) : Prop where
  len : ρ.length = ρq.length
  val : ∀ (i : Nat) (d : D), ρq[i]? = some (some (false, d)) → ρ[i]? = some (some d) ∧ below L d = true
  acc : ∀ (i : Nat) (d : D), ρq[i]? = some (some (true, d)) → ∃ n xs, d = .lst xs ∧ ρ[i]? = some (some (.cell (L + n))) ∧ X[n]? = some (some (.lst xs)) ∧ belows 0 xs = true
section
variable {L : Nat} {X : Mem} {ρq : QEnv} {ρ : Env}
theorem qget_set {α : Type} {l : List α} {i j : Nat} {x y : α} (h : (l.set i x)[j]? = some y) : (i = j ∧ i < l.length ∧ x = y) ∨ (i ≠ j ∧ l[j]? = some y) := by
  by_cases e : i = j
  · subst e
    by_cases hl : i < l.length
    · rw [List.getElem?_set_self hl] at h
      exact .inl ⟨rfl, hl, by cases h; rfl⟩
    · rw [List.getElem?_eq_none (by simpa using hl)] at h; cases h
  · rw [List.getElem?_set_ne e] at h
    exact .inr ⟨e, h⟩
theorem RelX.set (h : RelX L X ρq ρ) (i : Nat) {d : D} (hd : below L d = true) : RelX L X (ρq.set i (some (false, d))) (ρ.set i (some d)) where
  len := by simp [h.len]
  val := fun j e hj => by
    rcases qget_set hj with ⟨e1, e2, e3⟩ | ⟨e1, e2⟩
    · subst e1; cases e3
      exact ⟨List.getElem?_set_self (by rw [h.len]; exact e2), hd⟩
    · rw [List.getElem?_set_ne e1]; exact h.val j e e2
  acc := fun j e hj => by
    rcases qget_set hj with ⟨e1, e2, e3⟩ | ⟨e1, e2⟩
    · cases e3
    · rw [List.getElem?_set_ne e1]; exact h.acc j e e2
theorem RelX.unset (h : RelX L X ρq ρ) (i : Nat) : RelX L X (ρq.set i none) (ρ.set i none) where
  len := by simp [h.len]
  val := fun j e hj => by
    rcases qget_set hj with ⟨e1, e2, e3⟩ | ⟨e1, e2⟩
    · cases e3
    · rw [List.getElem?_set_ne e1]; exact h.val j e e2
  acc := fun j e hj => by
    rcases qget_set hj with ⟨e1, e2, e3⟩ | ⟨e1, e2⟩
    · cases e3
    · rw [List.getElem?_set_ne e1]; exact h.acc j e e2
theorem RelX.wipe (h : RelX L X ρq ρ) : ∀ vs : List Nat, RelX L X (qwipe ρq vs) (G48.wipe ρ vs) := by
  intro vs
  induction vs generalizing ρq ρ with
  | nil => exact h
  | cons v vs ih => exact ih (h.unset v)
theorem RelX.ext (h : RelX L X ρq ρ) (Y : Mem) : RelX L (X ++ Y) ρq ρ := ⟨h.len, h.val, fun i d e => by
  obtain ⟨n, xs, h1, h2, h3, h4⟩ := h.acc i d e
  exact ⟨n, xs, h1, h2, by rw [List.getElem?_append_left (List.getElem?_eq_some_iff.mp h3).1]; exact h3, h4⟩⟩
mutual
theorem RelX.bindT : ∀ (t : Tg) (d : D) {ρq ρq' : QEnv} {ρ : Env}, RelX L X ρq ρ → below L d = true → qbT t d ρq = some ρq' → ∃ ρ', G48.bindT t d ρ = some ρ' ∧ RelX L X ρq' ρ'
  | .nm i, d, ρq, ρq', ρ, h, hd, e => by simp only [qbT, Option.some.injEq] at e; subst e; exact ⟨_, rfl, h.set i hd⟩
  | .tp ts, d, ρq, ρq', ρ, h, hd, e => by
    simp only [qbT, Option.bind_eq_some_iff] at e
    obtain ⟨ds, e1, e2⟩ := e
    obtain ⟨ρ', e3, r⟩ := RelX.bindTs ts ds h (bw_seq e1 hd) e2
    exact ⟨ρ', by simp only [G48.bindT, e1, Option.bind_some]; exact e3, r⟩
theorem RelX.bindTs : ∀ (ts : Tgs) (ds : List D) {ρq ρq' : QEnv} {ρ : Env}, RelX L X ρq ρ → belows L ds = true → qbTs ts ds ρq = some ρq' → ∃ ρ', G48.bindTs ts ds ρ = some ρ' ∧ RelX L X ρq' ρ'
  | .nil, [], ρq, ρq', ρ, h, hd, e => by simp only [qbTs, Option.some.injEq] at e; subst e; exact ⟨_, rfl, h⟩
  | .nil, _ :: _, ρq, ρq', ρ, h, hd, e => by simp [qbTs] at e
  | .cons t r, [], ρq, ρq', ρ, h, hd, e => by simp [qbTs] at e
  | .cons t r, d :: ds, ρq, ρq', ρ, h, hd, e => by
    simp only [qbTs, Option.bind_eq_some_iff] at e
    simp only [belows, Bool.and_eq_true] at hd
    obtain ⟨ρ1, e1, e2⟩ := e
    obtain ⟨ρ', e3, r3⟩ := RelX.bindT t d h hd.1 e1
    obtain ⟨ρ'', e4, r4⟩ := RelX.bindTs r ds r3 hd.2 e2
    exact ⟨ρ'', by simp only [G48.bindTs, e3, Option.bind_some]; exact e4, r4⟩
end
end

/-! ### results -/
def QR {α υ : Type} (L : Nat) (X : Mem) (P : α → υ → Prop) (rq : R α) (rr : R υ) : Prop := match rq with
  | .ok a m => MOk L m ∧ ∃ v, rr = .ok v (m ++ X) ∧ P a v
  | .exc x m => MOk L m ∧ rr = .exc x (m ++ X) ∧ below L x = true
  | .bad => True
section
variable {α υ γ ω : Type} {L : Nat} {X m : Mem} {P : α → υ → Prop} {P' : γ → ω → Prop}
theorem QR.ok {a : α} {v : υ} (o : MOk L m) (p : P a v) : QR L X P (.ok a m) (.ok v (m ++ X)) := ⟨o, v, rfl, p⟩
theorem QR.bind {rq : R α} {rr : R υ} {f : α → Mem → R γ} {g : υ → Mem → R ω} [Hid f] [Hid g] (h : QR L X P rq rr) (k : ∀ a v m, MOk L m → P a v → QR L X P' (f a m) (g v (m ++ X))) : QR L X P' (rq.bk f) (rr.bk g) := by
  cases rq with
  | ok a m =>
    obtain ⟨o, v, e, p⟩ := h
    subst e
    exact k a v m o p
  | exc x m =>
    obtain ⟨o, e, p⟩ := h
    subst e
    exact ⟨o, rfl, p⟩
  | bad => exact True.intro
theorem QR.mono {rq : R α} {rr : R υ} {Q : α → υ → Prop} (h : QR L X P rq rr) (k : ∀ a v, P a v → Q a v) : QR L X Q rq rr := by
  cases rq with
  | ok a m =>
    obtain ⟨o, v, e, p⟩ := h
    exact ⟨o, v, e, k _ _ p⟩
  | exc x m => exact h
  | bad => exact True.intro
theorem QR.of {o : Option α} {o' : Option υ} (k : MOk L m) (h : ∀ a, o = some a → ∃ v, o' = some v ∧ P a v) : QR L X P (R.of o m) (R.of o' (m ++ X)) := by
  cases o with
  | none => exact True.intro
  | some a =>
    obtain ⟨v, e, p⟩ := h a rfl
    subst e
    exact QR.ok k p
/-- a plain value -/
def Eqv (L : Nat) (d v : D) : Prop := v = d ∧ below L d = true
def Eqs (L : Nat) (d v : List D) : Prop := v = d ∧ belows L d = true
theorem Eqv.vq {pk : Bool} {d v : D} (h : Eqv L d v) : Vq L X pk d v := .inl h
theorem QR.ofV {o : Option D} {pk : Bool} (k : MOk L m) (h : ∀ a, o = some a → below L a = true) : QR L X (Vq L X pk) (R.of o m) (R.of o (m ++ X)) := QR.of k fun a e => ⟨a, e, .inl ⟨rfl, h a e⟩⟩
end
/-- calls -/
def Cs (L : Nat) (cq cf : Nat → List D → Mem → R D) : Prop := ∀ (f : Nat) (ds : List D) (m X : Mem), belows L ds = true → MOk L m → QR L X (Eqv L) (cq f ds m) (cf f ds (m ++ X))
theorem QR.loop {L : Nat} {X : Mem} {fq fr : D → Mem → R (Option D)} (h : ∀ d m, below L d = true → MOk L m → QR L X (fun a v => v = a ∧ ∀ x, a = some x → below L x = true) (fq d m) (fr d (m ++ X))) : ∀ (ds : List D) (m : Mem), belows L ds = true → MOk L m → QR L X (Eqs L) (compLoop fq ds m) (compLoop fr ds (m ++ X))
  | [], m, _, o => QR.ok o ⟨rfl, rfl⟩
  | d :: ds, m, hb, o => by
    simp only [belows, Bool.and_eq_true] at hb
    have h1 := h d m hb.1 o
    unfold compLoop
    cases q : fq d m with
    | bad => exact True.intro
    | exc x m1 => exact True.intro
    | ok a m1 =>
      rw [q] at h1
      obtain ⟨o1, v, e, e1, p⟩ := h1
      subst e1
      have ih := QR.loop h ds m1 hb.2 o1
      simp only [e]
      cases q2 : compLoop fq ds m1 with
      | bad => exact True.intro
      | exc x m2 => exact True.intro
      | ok r m2 =>
        rw [q2] at ih
        obtain ⟨o2, r', e2, e3, p2⟩ := ih
        subst e3
        simp only [e2]
        refine QR.ok o2 ⟨rfl, bws_app ?_ p2⟩
        cases v with
        | none => rfl
        | some x => simp only [Option.toList, belows, Bool.and_true]; exact p x rfl
theorem QR.loop2 {L : Nat} {X : Mem} {fq fr : D → Mem → R (List D)} (h : ∀ d m, below L d = true → MOk L m → QR L X (Eqs L) (fq d m) (fr d (m ++ X))) : ∀ (ds : List D) (m : Mem), belows L ds = true → MOk L m → QR L X (Eqs L) (compLoop2 fq ds m) (compLoop2 fr ds (m ++ X))
  | [], m, _, o => QR.ok o ⟨rfl, rfl⟩
  | d :: ds, m, hb, o => by
    simp only [belows, Bool.and_eq_true] at hb
    have h1 := h d m hb.1 o
    unfold compLoop2 conc
    cases q : fq d m with
    | bad => exact True.intro
    | exc x m1 => exact True.intro
    | ok a m1 =>
      rw [q] at h1
      obtain ⟨o1, v, e, e1, p⟩ := h1
      subst e1
      have ih := QR.loop2 h ds m1 hb.2 o1
      simp only [e]
      cases q2 : compLoop2 fq ds m1 with
      | bad => exact True.intro
      | exc x m2 => exact True.intro
      | ok r m2 =>
        rw [q2] at ih
        obtain ⟨o2, r', e2, e3, p2⟩ := ih
        subst e3
        simp only [e2]
        exact QR.ok o2 ⟨rfl, bws_app p p2⟩
end G48
set_option linter.all false
set_option maxRecDepth 100000
set_option maxHeartbeats 2000000
/-! G48: runs by values are runs: expressions. -/
namespace G48
open PySem
section
variable {L : Nat} {cq cf : Nat → List D → Mem → R D}
theorem two_ok {X : Mem} {rx : R D} {gx : R D} {fy gy : Mem → R D} {pk : Bool} {op : D → D → Option D} (h1 : QR L X (Vq L X true) rx gx) (h2 : ∀ m, MOk L m → QR L X (Vq L X true) (fy m) (gy (m ++ X)))
    (hb : ∀ x y z, op x y = some z → below L x = true → below L y = true → below L z = true) :
    QR L X (Vq L X pk) (rx.bk fun x m => (fy m).bk fun y m => .of (op (peek m x) (peek m y)) m) (gx.bk fun x m => (gy m).bk fun y m => .of (op (peek m x) (peek m y)) m) := by
  refine QR.bind h1 fun a v m o p => QR.bind (h2 m o) fun b w m o q => ?_
  obtain ⟨e1, b1⟩ := p.pk o
  obtain ⟨e2, b2⟩ := q.pk o
  rw [e1, e2]
  exact QR.ofV o fun z hz => hb _ _ z hz b1 b2
theorem tst_ok {X : Mem} {rx gx : R D} (h : QR L X (Vq L X true) rx gx) : QR L X (fun a v => v = a) (tst rx) (tst gx) := by
  rw [tst_eq, tst_eq]
  refine QR.bind h fun a v m o p => ?_
  obtain ⟨e1, b1⟩ := p.pk o
  rw [e1]
  exact QR.of o fun b hb => ⟨b, hb, rfl⟩
theorem opt_ok {X : Mem} {rx gx : R (List D)} (h : QR L X (Eqs L) rx gx) : QR L X (fun a v => v = a) (opt rx) (opt gx) := by
  rw [opt_eq, opt_eq]
  refine QR.bind h fun a v m o p => ?_
  obtain ⟨e1, b1⟩ := p
  subst e1
  exact QR.of o fun b hb => ⟨b, hb, rfl⟩
theorem iteR_ok {α υ : Type} {X : Mem} {P : α → υ → Prop} {t t' : Bool} {a b : R α} {a' b' : R υ} (e : t' = t) (h1 : t = true → QR L X P a a') (h2 : t = false → QR L X P b b') : QR L X P (iteR t a b) (iteR t' a' b') := by
  subst e
  cases t'
  · exact h2 rfl
  · exact h1 rfl
theorem QR.bad {α υ : Type} {X : Mem} {P : α → υ → Prop} {r : R υ} : QR L X P .bad r := True.intro
/-- one step of a comprehension -/
theorem step_ok {X : Mem} {ρq : QEnv} {ρ : Env} {t : Tg} {ws : List Nat} (h : RelX L X ρq ρ) {ft : QEnv → Mem → R Bool} {gt : Env → Mem → R Bool} {fe : QEnv → Mem → R D} {ge : Env → Mem → R D}
    (h1 : ∀ ρq ρ m, RelX L X ρq ρ → MOk L m → QR L X (fun a v => v = a) (ft ρq m) (gt ρ (m ++ X))) (h2 : ∀ ρq ρ m, RelX L X ρq ρ → MOk L m → QR L X (Vq L X false) (fe ρq m) (ge ρ (m ++ X))) (d : D) (m : Mem) (hd : below L d = true) (o : MOk L m) :
    QR L X (fun a v => v = a ∧ ∀ x, a = some x → below L x = true) ((R.of (qbT t d (qwipe ρq ws)) m).bk fun ρ' m => (ft ρ' m).bk fun b m => iteR b ((fe ρ' m).bk fun x m => .ok (some x) m) (.ok none m))
      ((R.of (bindT t d (wipe ρ ws)) (m ++ X)).bk fun ρ' m => (gt ρ' m).bk fun b m => iteR b ((ge ρ' m).bk fun x m => .ok (some x) m) (.ok none m)) := by
  refine QR.bind (P := RelX L X) (QR.of o fun ρ' e => ?_) fun ρq' ρ' m o r => QR.bind (h1 _ _ m r o) fun b b' m o eb => iteR_ok eb (fun _ => QR.bind (h2 _ _ m r o) fun x y m o p => ?_) fun _ => ?_
  · obtain ⟨ρ2, e1, r2⟩ := RelX.bindT t d (h.wipe ws) hd e
    exact ⟨ρ2, e1, r2⟩
  · obtain ⟨e, hx⟩ := p.no
    subst e
    exact QR.ok o ⟨rfl, fun z hz => by cases hz; exact hx⟩
  · exact QR.ok o ⟨rfl, fun z hz => by cases hz⟩
theorem take_app {m X Y : Mem} : (m ++ (X ++ Y)).take (m ++ X).length = m ++ X := by
  rw [← List.append_assoc, List.take_left]
theorem loop_ne {f : D → Mem → R (Option D)} {x : D} {m' : Mem} : ∀ {ds : List D} {m : Mem}, compLoop f ds m ≠ .exc x m'
  | [], m => by simp [compLoop]
  | d :: ds, m => by
    unfold compLoop
    cases f d m with
    | bad => simp
    | exc _ _ => simp
    | ok a m1 => cases q : compLoop f ds m1 <;> simp [q]
theorem loop2_ne {f : D → Mem → R (List D)} {x : D} {m' : Mem} : ∀ {ds : List D} {m : Mem}, compLoop2 f ds m ≠ .exc x m'
  | [], m => by simp [compLoop2]
  | d :: ds, m => by
    unfold compLoop2 conc
    cases f d m with
    | bad => simp
    | exc _ _ => simp
    | ok a m1 => cases q : compLoop2 f ds m1 <;> simp [q]
/-- a comprehension's end -/
theorem end_ok {X : Mem} {n : Nat} {rq rr : R (List D)} {pk : Bool} (hne : ∀ x m, rq ≠ .exc x m) (hn : n = L + X.length) (h : QR L (X ++ [some .tmp]) (Eqs L) rq rr) : QR L X (Vq L X pk) (rq.bk fun xs m => .ok (.lst xs) m) (compEnd false n rr) := by
  cases rq with
  | bad => exact True.intro
  | exc x m' =>
    exact absurd rfl (hne x m')
  | ok xs m' =>
    obtain ⟨o, v, e, e1, p⟩ := h
    subst e1 e
    have hb : belows n v = true := bwsm (by omega) _ p
    have ht : (m' ++ (X ++ [some Cel.tmp])).take n = m' ++ X := by
      rw [hn, ← o.len, ← List.length_append]; exact take_app
    simp only [compEnd, R.bind_ok, Bool.false_eq_true, if_false, hb, if_true, ht, R.bk_ok]
    exact QR.ok o (.inl ⟨rfl, p⟩)
theorem end2_ok {X : Mem} {n : Nat} {rq rr : R (List D)} {pk : Bool} (hne : ∀ x m, rq ≠ .exc x m) (hn : n = L + X.length) (h : QR L (X ++ [some .tmp]) (Eqs L) rq rr) : QR L X (Vq L X pk) (rq.bk fun xs m => iteR (decide (xs.length ≤ BIG)) (.ok (.lst xs) m) .bad) (compEnd2 n rr) := by
  cases rq with
  | bad => exact True.intro
  | exc x m' => exact absurd rfl (hne x m')
  | ok xs m' =>
    obtain ⟨o, v, e, e1, p⟩ := h
    subst e1 e
    have hb : belows n v = true := bwsm (by omega) _ p
    have ht : (m' ++ (X ++ [some Cel.tmp])).take n = m' ++ X := by
      rw [hn, ← o.len, ← List.length_append]; exact take_app
    simp only [compEnd2, R.bind_ok, R.bk_ok]
    by_cases hl : v.length ≤ BIG
    · rw [decide_eq_true hl, iteR_t, if_pos hl, if_pos hb, ht]
      exact QR.ok o (.inl ⟨rfl, p⟩)
    · rw [decide_eq_false hl, iteR_f]; exact True.intro
theorem len_ext {X m : Mem} (o : MOk L m) : (m ++ X).length = L + X.length := by rw [List.length_append, o.len]
theorem ev_compT {cf : Nat → List D → Mem → R D} {k : Bool} {e : E} {t : Tg} {i : I} {fs : Es} {ρ : Env} {m : Mem} (h : ∃ f, fs = .nil ∨ fs = .cons f .nil) : evE cf (.comp k e t i fs) ρ m = (evI cf i ρ m).bk fun ds m => compEnd k m.length (compLoop (fun d m => (R.of (bindT t d (wipe ρ (tgv t))) m).bk fun ρ' m => (evT cf fs ρ' m).bk fun b m => iteR b ((evE cf e ρ' m).bk fun x m => .ok (some x) m) (.ok none m)) ds (m ++ [some .tmp])) := by
  obtain ⟨f, h | h⟩ := h
  · subst h
    simp only [evE, evT]
    rfl
  · subst h
    simp only [evE, evT]
    rfl
theorem okF_ok {fs : Es} (h : okF fs = true) : ∃ f, fs = .nil ∨ fs = .cons f .nil := by
  cases fs with
  | nil => exact ⟨.non, .inl rfl⟩
  | cons f g => cases g with
    | nil => exact ⟨f, .inr rfl⟩
    | cons _ _ => cases h
    | star _ _ => cases h
  | star _ _ => cases h
theorem ev_comp2' {cf : Nat → List D → Mem → R D} {e : E} {t t1 : Tg} {i i1 : I} {fs fs1 : Es} {ρ : Env} {m : Mem} : evE cf (.comp2 e t i fs t1 i1 fs1) ρ m = (evI cf i ρ m).bk fun ds m => compEnd2 m.length (compLoop2 (fun d m => (R.of (bindT t d (wipe ρ (tgv t ++ tgv t1))) m).bk fun ρ' m => (evT cf fs ρ' m).bk fun b m => iteR b ((evI cf i1 ρ' m).bk fun ds1 m =>
      compLoop (fun d m => (R.of (bindT t1 d (wipe ρ' (tgv t1))) m).bk fun ρ'' m => (evT cf fs1 ρ'' m).bk fun b m => iteR b ((evE cf e ρ'' m).bk fun x m => .ok (some x) m) (.ok none m)) ds1 m) (.ok [] m)) ds (m ++ [some .tmp])) := by simp only [evE] <;> rfl
mutual
theorem sE (hc : Cs L cq cf) : ∀ (e : E) (pk : Bool) (ρq : QEnv) (ρ : Env) (X m : Mem), RelX L X ρq ρ → MOk L m → QR L X (Vq L X pk) (qE cq pk e ρq m) (evE cf e ρ (m ++ X))
  | .var i, pk, ρq, ρ, X, m, r, o => by
    rw [ev_var, qE]
    rcases q : ρq[i]? with _ | (_ | ⟨fl, d⟩)
    · exact True.intro
    · exact True.intro
    · cases fl with
      | false =>
        obtain ⟨e, b⟩ := r.val i d q
        rw [e]
        exact QR.ok o (.inl ⟨rfl, b⟩)
      | true =>
        obtain ⟨n, xs, e1, e2, e3, e4⟩ := r.acc i d q
        rw [e2]
        cases pk with
        | false => exact True.intro
        | true => exact QR.ok o (.inr ⟨rfl, n, xs, rfl, e1, e3, e4⟩)
  | .int k, pk, ρq, ρ, X, m, r, o => by rw [ev_int, qE]; exact QR.ok o (.inl ⟨rfl, rfl⟩)
  | .bl k, pk, ρq, ρ, X, m, r, o => by rw [ev_bl, qE]; exact QR.ok o (.inl ⟨rfl, rfl⟩)
  | .non, pk, ρq, ρ, X, m, r, o => by rw [ev_non, qE]; exact QR.ok o (.inl ⟨rfl, rfl⟩)
  | .str k, pk, ρq, ρ, X, m, r, o => by rw [ev_str, qE]; exact QR.ok o (.inl ⟨rfl, rfl⟩)
  | .gl x d, pk, ρq, ρ, X, m, r, o => by
    rw [ev_gl, qE]
    by_cases h : below 0 d = true
    · rw [if_pos h]; exact QR.ok o (.inl ⟨rfl, bwm (Nat.zero_le _) _ h⟩)
    · rw [if_neg h]; exact True.intro
  | .bin p a b, pk, ρq, ρ, X, m, r, o => by
    rw [ev_bin, qE]
    exact two_ok (op := bop p) (sE hc a true ρq ρ X m r o) (fun m o => sE hc b true ρq ρ X m r o) fun x y z h hx hy => bw_bop h hx hy
  | .neg a, pk, ρq, ρ, X, m, r, o => by
    rw [ev_neg, qE]
    refine QR.bind (sE hc a false ρq ρ X m r o) fun x v m o p => ?_
    obtain ⟨e, b⟩ := p.no
    subst e
    cases v <;> first | exact True.intro | exact QR.ok o (.inl ⟨rfl, rfl⟩)
  | .not a, pk, ρq, ρ, X, m, r, o => by
    rw [ev_not, qE]
    refine QR.bind (tst_ok (sE hc a true ρq ρ X m r o)) fun x v m o p => ?_
    subst p
    exact QR.ok o (.inl ⟨rfl, rfl⟩)
  | .and a b, pk, ρq, ρ, X, m, r, o => by
    rw [ev_and, qE]
    refine QR.bind (sE hc a pk ρq ρ X m r o) fun x v m o p => ?_
    obtain ⟨e1, _⟩ := p.pk o
    rw [e1]
    rcases truth (peek m x) with _ | (_ | _)
    · exact True.intro
    · exact QR.ok o p
    · exact sE hc b pk ρq ρ X m r o
  | .or a b, pk, ρq, ρ, X, m, r, o => by
    rw [ev_or, qE]
    refine QR.bind (sE hc a pk ρq ρ X m r o) fun x v m o p => ?_
    obtain ⟨e1, _⟩ := p.pk o
    rw [e1]
    rcases truth (peek m x) with _ | (_ | _)
    · exact True.intro
    · exact sE hc b pk ρq ρ X m r o
    · exact QR.ok o p
  | .cmp p a b, pk, ρq, ρ, X, m, r, o => by
    rw [ev_cmp, qE]
    exact two_ok (op := cop p) (sE hc a true ρq ρ X m r o) (fun m o => sE hc b true ρq ρ X m r o) fun x y z h hx hy => bw_cop h
  | .chain p p' a b c, pk, ρq, ρ, X, m, r, o => by
    rw [ev_chain, qE]
    refine QR.bind (sE hc a true ρq ρ X m r o) fun x v m o px => QR.bind (sE hc b true ρq ρ X m r o) fun y w m o py => ?_
    obtain ⟨e1, _⟩ := px.pk o
    obtain ⟨e2, _⟩ := py.pk o
    rw [e1, e2]
    refine QR.bind (P := fun a v => v = a ∧ below L a = true) (QR.of o fun z hz => ⟨z, hz, rfl, bw_cop hz⟩) fun z z' m o pz => ?_
    obtain ⟨e, b⟩ := pz
    subst e
    cases z' <;> first | exact True.intro | skip
    next k =>
    cases k
    · exact QR.ok o (.inl ⟨rfl, rfl⟩)
    · refine QR.bind (sE hc c true ρq ρ X m r o) fun u u' m o pu => ?_
      obtain ⟨e3, _⟩ := pu.pk o
      obtain ⟨e4, _⟩ := py.pk o
      rw [e3, e4]
      exact QR.ofV o fun z hz => bw_cop hz
  | .isN a, pk, ρq, ρ, X, m, r, o => by
    rw [ev_isN, qE]
    refine QR.bind (sE hc a false ρq ρ X m r o) fun x v m o p => ?_
    obtain ⟨e, b⟩ := p.no
    subst e
    exact QR.ok o (.inl ⟨rfl, rfl⟩)
  | .notN a, pk, ρq, ρ, X, m, r, o => by
    rw [ev_notN, qE]
    refine QR.bind (sE hc a false ρq ρ X m r o) fun x v m o p => ?_
    obtain ⟨e, b⟩ := p.no
    subst e
    exact QR.ok o (.inl ⟨rfl, rfl⟩)
  | .ife c a b, pk, ρq, ρ, X, m, r, o => by
    rw [ev_ife, qE]
    exact QR.bind (tst_ok (sE hc c true ρq ρ X m r o)) fun x v m o p => iteR_ok p (fun _ => sE hc a pk ρq ρ X m r o) fun _ => sE hc b pk ρq ρ X m r o
  | .tup es, pk, ρq, ρ, X, m, r, o => by
    rw [ev_tup, qE]
    refine QR.bind (sEs hc es ρq ρ X m r o) fun x v m o p => ?_
    obtain ⟨e, b⟩ := p
    subst e
    exact iteR_ok rfl (fun _ => QR.ok o (.inl ⟨rfl, b⟩)) fun _ => True.intro
  | .lst es, pk, ρq, ρ, X, m, r, o => by
    rw [ev_lst, qE]
    refine QR.bind (sEs hc es ρq ρ X m r o) fun x v m o p => ?_
    obtain ⟨e, b⟩ := p
    subst e
    exact iteR_ok rfl (fun _ => QR.ok o (.inl ⟨rfl, b⟩)) fun _ => True.intro
  | .cel es, pk, ρq, ρ, X, m, r, o => by rw [qE]; exact True.intro
  | .ix a i, pk, ρq, ρ, X, m, r, o => by
    rw [ev_ix, qE]
    refine QR.bind (sE hc a true ρq ρ X m r o) fun x v m o px => QR.bind (sE hc i false ρq ρ X m r o) fun y w m o py => ?_
    obtain ⟨e1, b1⟩ := px.pk o
    obtain ⟨e2, _⟩ := py.no
    rw [e1, e2]
    exact QR.ofV o fun z hz => bw_ix hz b1
  | .slice a lo hi, pk, ρq, ρ, X, m, r, o => by
    rw [ev_slice, qE]
    refine QR.bind (sE hc a true ρq ρ X m r o) fun x v m o px => QR.bind (opt_ok (sEs hc lo ρq ρ X m r o)) fun y w m o py => QR.bind (opt_ok (sEs hc hi ρq ρ X m r o)) fun y2 w2 m o py2 => ?_
    obtain ⟨e1, b1⟩ := px.pk o
    rw [e1, py, py2]
    exact QR.ofV o fun z hz => bw_slice hz b1
  | .rev a, pk, ρq, ρ, X, m, r, o => by
    rw [ev_rev, qE]
    refine QR.bind (sE hc a true ρq ρ X m r o) fun x v m o px => ?_
    obtain ⟨e1, b1⟩ := px.pk o
    rw [e1]
    exact QR.ofV o fun z hz => bw_rev hz b1
  | .call f es, pk, ρq, ρ, X, m, r, o => by
    rw [ev_call, qE]
    refine QR.bind (sEs hc es ρq ρ X m r o) fun x v m o p => ?_
    obtain ⟨e, b⟩ := p
    subst e
    exact (hc f v m X b o).mono fun a w h => .inl h
  | .callA f es arr, pk, ρq, ρ, X, m, r, o => by
    rw [ev_callA, qE]
    refine QR.bind (sEs hc es ρq ρ X m r o) fun x v m o p => ?_
    obtain ⟨e, b⟩ := p
    subst e
    refine QR.bind (P := Eqs L) (QR.of o fun z hz => ⟨z, hz, rfl, bws_arr hz b⟩) fun x v m o p => ?_
    obtain ⟨e, b⟩ := p
    subst e
    exact (hc f v m X b o).mono fun a w h => .inl h
  | .b1 f a, pk, ρq, ρ, X, m, r, o => by
    rw [ev_b1, qE]
    refine QR.bind (sE hc a true ρq ρ X m r o) fun x v m o px => ?_
    obtain ⟨e1, b1⟩ := px.pk o
    rw [e1]
    exact QR.ofV o fun z hz => bw_b1 hz b1
  | .min2 a b, pk, ρq, ρ, X, m, r, o => by
    rw [ev_min2, qE]
    refine QR.bind (sE hc a false ρq ρ X m r o) fun x v m o px => QR.bind (sE hc b false ρq ρ X m r o) fun y w m o py => ?_
    obtain ⟨e1, _⟩ := px.no
    obtain ⟨e2, _⟩ := py.no
    subst e1 e2
    cases v <;> first | exact True.intro | skip
    cases w <;> first | exact True.intro | exact QR.ok o (.inl ⟨rfl, rfl⟩)
  | .max2 a b, pk, ρq, ρ, X, m, r, o => by
    rw [ev_max2, qE]
    refine QR.bind (sE hc a false ρq ρ X m r o) fun x v m o px => QR.bind (sE hc b false ρq ρ X m r o) fun y w m o py => ?_
    obtain ⟨e1, _⟩ := px.no
    obtain ⟨e2, _⟩ := py.no
    subst e1 e2
    cases v <;> first | exact True.intro | skip
    cases w <;> first | exact True.intro | exact QR.ok o (.inl ⟨rfl, rfl⟩)
  | .isin a ts, pk, ρq, ρ, X, m, r, o => by
    rw [ev_isin, qE]
    refine QR.bind (sE hc a true ρq ρ X m r o) fun x v m o px => ?_
    obtain ⟨e1, b1⟩ := px.pk o
    rw [e1]
    exact QR.ofV o fun z hz => bw_isin hz
  | .seqI t i, pk, ρq, ρ, X, m, r, o => by
    rw [ev_seqI, qE]
    refine QR.bind (sI hc i ρq ρ X m r o) fun x v m o p => ?_
    obtain ⟨e, b⟩ := p
    subst e
    refine QR.ok o (.inl ⟨rfl, ?_⟩)
    cases t <;> exact b
  | .comp false e t i fs, pk, ρq, ρ, X, m, r, o => by
    rw [qE]
    by_cases hf : okF fs = true
    · rw [ev_compT (okF_ok hf), hf, iteR_t]
      refine QR.bind (sI hc i ρq ρ X m r o) fun x v m o p => ?_
      obtain ⟨e', b⟩ := p
      subst e'
      rw [List.append_assoc]
      exact end_ok (fun _ _ => loop_ne) (len_ext o) (QR.loop (fun d m hd o => step_ok (r.ext _) (fun ρq ρ m r o => sT hc fs ρq ρ _ m r o) (fun ρq ρ m r o => sE hc e false ρq ρ _ m r o) d m hd o) v m b o)
    · rw [Bool.not_eq_true] at hf
      rw [hf, iteR_f]; exact True.intro
  | .comp true e t i fs, pk, ρq, ρ, X, m, r, o => by rw [qE]; exact True.intro
  | .comp2 e t i fs t1 i1 fs1, pk, ρq, ρ, X, m, r, o => by
    rw [qE, ev_comp2']
    refine QR.bind (sI hc i ρq ρ X m r o) fun x v m o p => ?_
    obtain ⟨e', b⟩ := p
    subst e'
    rw [List.append_assoc]
    refine end2_ok (fun _ _ => loop2_ne) (len_ext o) (QR.loop2 (fun d m hd o => ?_) v m b o)
    refine QR.bind (P := RelX L (X ++ [some .tmp])) (QR.of o fun ρ' e => ?_) fun ρq' ρ' m o r => QR.bind (sT hc fs ρq' ρ' _ m r o) fun b b' m o eb => iteR_ok eb (fun _ => QR.bind (sI hc i1 ρq' ρ' _ m r o) fun x v m o p => ?_) fun _ => QR.ok o ⟨rfl, rfl⟩
    · obtain ⟨ρ2, e1, r2⟩ := RelX.bindT t d ((r.ext _).wipe (tgv t ++ tgv t1)) hd e
      exact ⟨ρ2, e1, r2⟩
    · obtain ⟨e', b⟩ := p
      subst e'
      exact QR.loop (fun d m hd o => step_ok r (fun ρq ρ m r o => sT hc fs1 ρq ρ _ m r o) (fun ρq ρ m r o => sE hc e false ρq ρ _ m r o) d m hd o) v m b o
  | .cellOf a, pk, ρq, ρ, X, m, r, o => by rw [qE]; exact True.intro
  | .attr a f, pk, ρq, ρ, X, m, r, o => by
    rw [ev_attr, qE]
    refine QR.bind (sE hc a false ρq ρ X m r o) fun x v m o p => ?_
    obtain ⟨e, b⟩ := p.no
    subst e
    cases v <;> first | exact True.intro | exact QR.ofV o fun z hz => bw_fld hz b
theorem sT (hc : Cs L cq cf) : ∀ (fs : Es) (ρq : QEnv) (ρ : Env) (X m : Mem), RelX L X ρq ρ → MOk L m → QR L X (fun a v => v = a) (qT cq fs ρq m) (evT cf fs ρ (m ++ X))
  | .nil, ρq, ρ, X, m, r, o => by simp only [evT, qT]; exact QR.ok o rfl
  | .cons f .nil, ρq, ρ, X, m, r, o => by simp only [evT, qT]; exact tst_ok (sE hc f true ρq ρ X m r o)
  | .cons _ (.cons _ _), ρq, ρ, X, m, r, o => by simp only [qT]; exact True.intro
  | .cons _ (.star _ _), ρq, ρ, X, m, r, o => by simp only [qT]; exact True.intro
  | .star _ _, ρq, ρ, X, m, r, o => by simp only [qT]; exact True.intro
theorem sEs (hc : Cs L cq cf) : ∀ (es : Es) (ρq : QEnv) (ρ : Env) (X m : Mem), RelX L X ρq ρ → MOk L m → QR L X (Eqs L) (qEs cq es ρq m) (evEs cf es ρ (m ++ X))
  | .nil, ρq, ρ, X, m, r, o => by rw [evs_nil, qEs]; exact QR.ok o ⟨rfl, rfl⟩
  | .cons e es, ρq, ρ, X, m, r, o => by
    rw [evs_cons, qEs]
    refine QR.bind (sE hc e false ρq ρ X m r o) fun x v m o p => QR.bind (sEs hc es ρq ρ X m r o) fun y w m o q => ?_
    obtain ⟨e1, b1⟩ := p.no
    obtain ⟨e2, b2⟩ := q
    subst e1 e2
    exact QR.ok o ⟨rfl, by simp only [belows, b1, b2, Bool.and_self]⟩
  | .star e es, ρq, ρ, X, m, r, o => by
    rw [evs_star, qEs]
    refine QR.bind (sE hc e true ρq ρ X m r o) fun x v m o p => ?_
    obtain ⟨e1, b1⟩ := p.pk o
    rw [e1]
    refine QR.bind (P := Eqs L) (QR.of o fun z hz => ⟨z, hz, rfl, bw_seq hz b1⟩) fun x v m o p => QR.bind (sEs hc es ρq ρ X m r o) fun y w m o q => ?_
    obtain ⟨e1, b1⟩ := p
    obtain ⟨e2, b2⟩ := q
    subst e1 e2
    exact QR.ok o ⟨rfl, bws_app b1 b2⟩
theorem sI (hc : Cs L cq cf) : ∀ (i : I) (ρq : QEnv) (ρ : Env) (X m : Mem), RelX L X ρq ρ → MOk L m → QR L X (Eqs L) (qI cq i ρq m) (evI cf i ρ (m ++ X))
  | .of e, ρq, ρ, X, m, r, o => by
    rw [evi_of, qI]
    refine QR.bind (sE hc e false ρq ρ X m r o) fun x v m o p => ?_
    obtain ⟨e1, b1⟩ := p.no
    subst e1
    exact QR.of o fun z hz => ⟨z, hz, rfl, bw_seq hz b1⟩
  | .rng es, ρq, ρ, X, m, r, o => by
    rw [evi_rng, qI]
    refine QR.bind (sEs hc es ρq ρ X m r o) fun x v m o p => ?_
    obtain ⟨e1, b1⟩ := p
    subst e1
    exact QR.of o fun z hz => ⟨z, hz, rfl, bws_rng hz⟩
  | .enum e, ρq, ρ, X, m, r, o => by
    rw [evi_enum, qI]
    refine QR.bind (sE hc e false ρq ρ X m r o) fun x v m o p => ?_
    obtain ⟨e1, b1⟩ := p.no
    subst e1
    refine QR.bind (P := Eqs L) (QR.of o fun z hz => ⟨z, hz, rfl, bw_seq hz b1⟩) fun x v m o p => ?_
    obtain ⟨e1, b1⟩ := p
    subst e1
    exact QR.ok o ⟨rfl, bws_enum b1⟩
  | .zip es, ρq, ρ, X, m, r, o => by
    rw [evi_zip, qI]
    refine QR.bind (sEs hc es ρq ρ X m r o) fun x v m o p => ?_
    obtain ⟨e1, b1⟩ := p
    subst e1
    refine QR.bind (P := fun a v => v = a ∧ belows L (zipL a) = true) (QR.of o fun z hz => ⟨z, hz, rfl, bws_zipD hz b1⟩) fun x v m o p => ?_
    obtain ⟨e1, b1⟩ := p
    subst e1
    exact QR.ok o ⟨rfl, b1⟩
  | .zipS e, ρq, ρ, X, m, r, o => by
    rw [evi_zipS, qI]
    refine QR.bind (sE hc e true ρq ρ X m r o) fun x v m o p => ?_
    obtain ⟨e1, b1⟩ := p.pk o
    rw [e1]
    refine QR.bind (P := Eqs L) (QR.of o fun z hz => ⟨z, hz, rfl, bw_seq hz b1⟩) fun x v m o p => ?_
    obtain ⟨e1, b1⟩ := p
    subst e1
    refine QR.bind (P := fun a v => v = a ∧ belows L (zipL a) = true) (QR.of o fun z hz => ⟨z, hz, rfl, bws_zipD hz b1⟩) fun x v m o p => ?_
    obtain ⟨e1, b1⟩ := p
    subst e1
    exact QR.ok o ⟨rfl, b1⟩
  | .enumZip es, ρq, ρ, X, m, r, o => by
    rw [evi_enumZip, qI]
    refine QR.bind (sEs hc es ρq ρ X m r o) fun x v m o p => ?_
    obtain ⟨e1, b1⟩ := p
    subst e1
    refine QR.bind (P := fun a v => v = a ∧ belows L (zipL a) = true) (QR.of o fun z hz => ⟨z, hz, rfl, bws_zipD hz b1⟩) fun x v m o p => ?_
    obtain ⟨e1, b1⟩ := p
    subst e1
    exact QR.ok o ⟨rfl, bws_enum b1⟩
end
end
end G48
set_option linter.all false
set_option maxRecDepth 100000
set_option maxHeartbeats 2000000
/-! G48: runs by values are runs: statements, functions. -/
namespace G48
open PySem
/-- slots, with lists that grow apart from each other and from what lies below K -/
structure RelS (L K : Nat) (X : Mem) (ρq : QEnv) (ρ : Env) : Prop extends RelX L X ρq ρ where
  own : ∀ (i n : Nat) (d : D), ρq[i]? = some (some (true, d)) → ρ[i]? = some (some (.cell (L + n))) → K ≤ n
  inj : ∀ (i j n : Nat) (d e : D), ρq[i]? = some (some (true, d)) → ρq[j]? = some (some (true, e)) → ρ[i]? = some (some (.cell (L + n))) → ρ[j]? = some (some (.cell (L + n))) → i = j
def flOk (L : Nat) : Fl → Prop
  | .rt d => below L d = true
  | _ => True
def QS (L K : Nat) (X0 : Mem) (rq : R (Fl × QEnv)) (rr : R (Fl × Env)) : Prop := match rq with
  | .ok p m => MOk L m ∧ ∃ ρ X, rr = .ok (p.1, ρ) (m ++ X) ∧ RelS L K X p.2 ρ ∧ X.take K = X0 ∧ K ≤ X.length ∧ flOk L p.1
  | .exc x m => MOk L m ∧ ∃ X, rr = .exc x (m ++ X) ∧ X.take K = X0 ∧ K ≤ X.length ∧ below L x = true
  | .bad => True
section
variable {L K : Nat} {X X0 m : Mem} {ρq : QEnv} {ρ : Env}
theorem RelS.set (h : RelS L K X ρq ρ) (i : Nat) {d : D} (hd : below L d = true) : RelS L K X (ρq.set i (some (false, d))) (ρ.set i (some d)) where
  toRelX := h.toRelX.set i hd
  own := fun j n e hj hr => by
    rcases qget_set hj with ⟨e1, e2, e3⟩ | ⟨e1, e2⟩
    · cases e3
    · rw [List.getElem?_set_ne e1] at hr; exact h.own j n e e2 hr
  inj := fun j k n e f hj hk hr hs => by
    rcases qget_set hj with ⟨e1, e2, e3⟩ | ⟨e1, e2⟩
    · cases e3
    · rcases qget_set hk with ⟨f1, f2, f3⟩ | ⟨f1, f2⟩
      · cases f3
      · rw [List.getElem?_set_ne e1] at hr
        rw [List.getElem?_set_ne f1] at hs
        exact h.inj j k n e f e2 f2 hr hs
theorem RelS.unset (h : RelS L K X ρq ρ) (i : Nat) : RelS L K X (ρq.set i none) (ρ.set i none) where
  toRelX := h.toRelX.unset i
  own := fun j n e hj hr => by
    rcases qget_set hj with ⟨e1, e2, e3⟩ | ⟨e1, e2⟩
    · cases e3
    · rw [List.getElem?_set_ne e1] at hr; exact h.own j n e e2 hr
  inj := fun j k n e f hj hk hr hs => by
    rcases qget_set hj with ⟨e1, e2, e3⟩ | ⟨e1, e2⟩
    · cases e3
    · rcases qget_set hk with ⟨f1, f2, f3⟩ | ⟨f1, f2⟩
      · cases f3
      · rw [List.getElem?_set_ne e1] at hr
        rw [List.getElem?_set_ne f1] at hs
        exact h.inj j k n e f e2 f2 hr hs
theorem RelS.wipe (h : RelS L K X ρq ρ) : ∀ vs : List Nat, RelS L K X (qwipe ρq vs) (G48.wipe ρ vs) := by
  intro vs
  induction vs generalizing ρq ρ with
  | nil => exact h
  | cons v vs ih => exact ih (h.unset v)
mutual
theorem RelS.bindT : ∀ (t : Tg) (d : D) {ρq ρq' : QEnv} {ρ : Env}, RelS L K X ρq ρ → below L d = true → qbT t d ρq = some ρq' → ∃ ρ', G48.bindT t d ρ = some ρ' ∧ RelS L K X ρq' ρ'
  | .nm i, d, ρq, ρq', ρ, h, hd, e => by simp only [qbT, Option.some.injEq] at e; subst e; exact ⟨_, rfl, h.set i hd⟩
  | .tp ts, d, ρq, ρq', ρ, h, hd, e => by
    simp only [qbT, Option.bind_eq_some_iff] at e
    obtain ⟨ds, e1, e2⟩ := e
    obtain ⟨ρ', e3, r⟩ := RelS.bindTs ts ds h (bw_seq e1 hd) e2
    exact ⟨ρ', by simp only [G48.bindT, e1, Option.bind_some]; exact e3, r⟩
theorem RelS.bindTs : ∀ (ts : Tgs) (ds : List D) {ρq ρq' : QEnv} {ρ : Env}, RelS L K X ρq ρ → belows L ds = true → qbTs ts ds ρq = some ρq' → ∃ ρ', G48.bindTs ts ds ρ = some ρ' ∧ RelS L K X ρq' ρ'
  | .nil, [], ρq, ρq', ρ, h, hd, e => by simp only [qbTs, Option.some.injEq] at e; subst e; exact ⟨_, rfl, h⟩
  | .nil, _ :: _, ρq, ρq', ρ, h, hd, e => by simp [qbTs] at e
  | .cons t r, [], ρq, ρq', ρ, h, hd, e => by simp [qbTs] at e
  | .cons t r, d :: ds, ρq, ρq', ρ, h, hd, e => by
    simp only [qbTs, Option.bind_eq_some_iff] at e
    simp only [belows, Bool.and_eq_true] at hd
    obtain ⟨ρ1, e1, e2⟩ := e
    obtain ⟨ρ', e3, r3⟩ := RelS.bindT t d h hd.1 e1
    obtain ⟨ρ'', e4, r4⟩ := RelS.bindTs r ds r3 hd.2 e2
    exact ⟨ρ'', by simp only [G48.bindTs, e3, Option.bind_some]; exact e4, r4⟩
end
theorem RelS.ext (h : RelS L K X ρq ρ) (Y : Mem) : RelS L K (X ++ Y) ρq ρ := ⟨h.toRelX.ext Y, h.own, h.inj⟩
/-- a new list that grows, at the end of X -/
theorem RelS.acc_new (h : RelS L K X ρq ρ) (hK : K ≤ X.length) (i : Nat) {xs : List D} (hx : belows 0 xs = true) {n : Nat} (hn : n = X.length) : RelS L K (X ++ [some (.lst xs)]) (ρq.set i (some (true, .lst xs))) (ρ.set i (some (.cell (L + n)))) := by
  subst hn
  have old : ∀ (j : Nat) (e : D) (n : Nat), ρq[j]? = some (some (true, e)) → ρ[j]? = some (some (.cell (L + n))) → n < X.length := fun j e n h1 h2 => by
    obtain ⟨n', ys, _, q1, q2, _⟩ := h.acc j e h1
    rw [h2] at q1
    simp only [Option.some.injEq, D.cell.injEq] at q1
    have : n = n' := by omega
    subst this
    exact (List.getElem?_eq_some_iff.mp q2).1
  refine ⟨⟨by simp [h.len], fun j e hj => ?_, fun j e hj => ?_⟩, fun j k e hj hr => ?_, fun j k n e f hj hk hr hs => ?_⟩
  · rcases qget_set hj with ⟨e1, e2, e3⟩ | ⟨e1, e2⟩
    · cases e3
    · rw [List.getElem?_set_ne e1]; exact h.val j e e2
  · rcases qget_set hj with ⟨e1, e2, e3⟩ | ⟨e1, e2⟩
    · subst e1; cases e3
      exact ⟨X.length, xs, rfl, List.getElem?_set_self (by rw [h.len]; exact e2), by simp, hx⟩
    · rw [List.getElem?_set_ne e1]
      obtain ⟨n, ys, h1, h2, h3, h4⟩ := h.acc j e e2
      exact ⟨n, ys, h1, h2, by rw [List.getElem?_append_left (List.getElem?_eq_some_iff.mp h3).1]; exact h3, h4⟩
  · rcases qget_set hj with ⟨e1, e2, e3⟩ | ⟨e1, e2⟩
    · subst e1
      rw [List.getElem?_set_self (by rw [h.len]; exact e2)] at hr
      simp only [Option.some.injEq, D.cell.injEq] at hr; omega
    · rw [List.getElem?_set_ne e1] at hr; exact h.own j k e e2 hr
  · rcases qget_set hj with ⟨e1, e2, e3⟩ | ⟨e1, e2⟩
    · rcases qget_set hk with ⟨f1, f2, f3⟩ | ⟨f1, f2⟩
      · omega
      · subst e1
        rw [List.getElem?_set_self (by rw [h.len]; exact e2)] at hr
        rw [List.getElem?_set_ne f1] at hs
        have := old k f n f2 hs
        simp only [Option.some.injEq, D.cell.injEq] at hr; omega
    · rcases qget_set hk with ⟨f1, f2, f3⟩ | ⟨f1, f2⟩
      · subst f1
        rw [List.getElem?_set_self (by rw [h.len]; exact f2)] at hs
        rw [List.getElem?_set_ne e1] at hr
        have := old j e n e2 hr
        simp only [Option.some.injEq, D.cell.injEq] at hs; omega
      · rw [List.getElem?_set_ne e1] at hr
        rw [List.getElem?_set_ne f1] at hs
        exact h.inj j k n e f e2 f2 hr hs
/-- a list that grows is changed -/
theorem RelS.acc_put (h : RelS L K X ρq ρ) {i n : Nat} {xs ys : List D} (hi : ρq[i]? = some (some (true, .lst xs))) (hr : ρ[i]? = some (some (.cell (L + n)))) (hn : n < X.length) (hy : belows 0 ys = true) : RelS L K (X.set n (some (.lst ys))) (ρq.set i (some (true, .lst ys))) ρ := by
  have hil : i < ρq.length := (List.getElem?_eq_some_iff.mp hi).1
  refine ⟨⟨by simp [h.len], fun j e hj => ?_, fun j e hj => ?_⟩, fun j k e hj hr' => ?_, fun j k n' e f hj hk hr1 hs => ?_⟩
  · rcases qget_set hj with ⟨e1, e2, e3⟩ | ⟨e1, e2⟩
    · cases e3
    · exact h.val j e e2
  · rcases qget_set hj with ⟨e1, e2, e3⟩ | ⟨e1, e2⟩
    · subst e1; cases e3
      exact ⟨n, ys, rfl, hr, List.getElem?_set_self hn, hy⟩
    · obtain ⟨n', zs, h1, h2, h3, h4⟩ := h.acc j e e2
      refine ⟨n', zs, h1, h2, ?_, h4⟩
      rw [List.getElem?_set_ne fun z => ?_]
      · exact h3
      · subst z
        exact e1 (h.inj i j n _ _ hi e2 hr h2)
  · rcases qget_set hj with ⟨e1, e2, e3⟩ | ⟨e1, e2⟩
    · subst e1; exact h.own i k _ hi hr'
    · exact h.own j k e e2 hr'
  · have old : ∀ (j : Nat) (e : D), (ρq.set i (some (true, .lst ys)))[j]? = some (some (true, e)) → ∃ e', ρq[j]? = some (some (true, e')) := fun j e q => by
      rcases qget_set q with ⟨e1, e2, e3⟩ | ⟨e1, e2⟩
      · subst e1; exact ⟨_, hi⟩
      · exact ⟨e, e2⟩
    obtain ⟨e', he⟩ := old j e hj
    obtain ⟨f', hf⟩ := old k f hk
    exact h.inj j k n' e' f' he hf hr1 hs
theorem take_set' {X : Mem} {K n : Nat} {x : Option Cel} (h : K ≤ n) : (X.set n x).take K = X.take K := by
  apply List.ext_getElem?
  intro j
  rw [List.getElem?_take, List.getElem?_take]
  split
  · rw [List.getElem?_set_ne (by omega)]
  · rfl
theorem QS.nx (o : MOk L m) (r : RelS L K X ρq ρ) (h1 : X.take K = X0) (h2 : K ≤ X.length) : QS L K X0 (.ok (.nx, ρq) m) (.ok (.nx, ρ) (m ++ X)) := ⟨o, ρ, X, rfl, r, h1, h2, trivial⟩
theorem QS.bindE {α υ : Type} {P : α → υ → Prop} {rq : R α} {rr : R υ} {f : α → Mem → R (Fl × QEnv)} {g : υ → Mem → R (Fl × Env)} [Hid f] [Hid g] (h1 : X.take K = X0) (h2 : K ≤ X.length) (h : QR L X P rq rr) (k : ∀ a v m, MOk L m → P a v → QS L K X0 (f a m) (g v (m ++ X))) : QS L K X0 (rq.bk f) (rr.bk g) := by
  cases rq with
  | ok a m =>
    obtain ⟨o, v, e, p⟩ := h
    subst e
    exact k a v m o p
  | exc x m =>
    obtain ⟨o, e, p⟩ := h
    subst e
    exact ⟨o, X, rfl, h1, h2, p⟩
  | bad => exact True.intro
theorem QS.bind {rq : R (Fl × QEnv)} {rr : R (Fl × Env)} {f : Fl × QEnv → Mem → R (Fl × QEnv)} {g : Fl × Env → Mem → R (Fl × Env)} [Hid f] [Hid g] (h : QS L K X0 rq rr) (k : ∀ fl ρq ρ X m, MOk L m → RelS L K X ρq ρ → X.take K = X0 → K ≤ X.length → flOk L fl → QS L K X0 (f (fl, ρq) m) (g (fl, ρ) (m ++ X))) : QS L K X0 (rq.bk f) (rr.bk g) := by
  cases rq with
  | ok p m =>
    obtain ⟨o, ρ, X, e, r, h1, h2, h3⟩ := h
    subst e
    exact k p.1 p.2 ρ X m o r h1 h2 h3
  | exc x m =>
    obtain ⟨o, X, e, h1, h2, h3⟩ := h
    subst e
    exact ⟨o, X, rfl, h1, h2, h3⟩
  | bad => exact True.intro
theorem QS.bad {rr : R (Fl × Env)} : QS L K X0 .bad rr := True.intro
end
end G48
set_option linter.all false
set_option maxRecDepth 100000
set_option maxHeartbeats 2000000
/-! G48: runs by values are runs: statements, functions. -/
namespace G48
open PySem
section
variable {L K : Nat} {X0 : Mem} {cq cf : Nat → List D → Mem → R D} {wf : Nat}
/-- what a slot is set to, beside the run's: X may have grown -/
def It (L : Nat) (X X' : Mem) (p : Bool × D) (v : D) : Prop := match p with
  | (false, d) => X' = X ∧ v = d ∧ below L d = true
  | (true, d) => ∃ xs, d = .lst xs ∧ belows 0 xs = true ∧ X' = X ++ [some (.lst xs)] ∧ v = .cell (L + X.length)
def QV (L : Nat) (X : Mem) (rq : R (Bool × D)) (rr : R D) : Prop := match rq with
  | .ok p m => MOk L m ∧ ∃ v X', rr = .ok v (m ++ X') ∧ It L X X' p v
  | .exc x m => MOk L m ∧ rr = .exc x (m ++ X) ∧ below L x = true
  | .bad => True
theorem newCell_ok {X m : Mem} {ds : List D} (o : MOk L m) : QV L X ((R.of (mkL ds) m).bk fun ds m => .ok (true, .lst ds) m) (newCell ds (m ++ X)) := by
  unfold mkL newCell
  by_cases h : belows 0 ds = true
  · rw [if_pos h, if_pos h]
    exact ⟨o, _, X ++ [some (.lst ds)], by rw [List.append_assoc], ds, rfl, h, rfl, by rw [len_ext o]⟩
  · rw [if_neg h]; exact True.intro
theorem QV.bindE {α υ : Type} {X : Mem} {P : α → υ → Prop} {rq : R α} {rr : R υ} {f : α → Mem → R (Bool × D)} {g : υ → Mem → R D} [Hid f] [Hid g] (h : QR L X P rq rr) (k : ∀ a v m, MOk L m → P a v → QV L X (f a m) (g v (m ++ X))) : QV L X (rq.bk f) (rr.bk g) := by
  cases rq with
  | ok a m =>
    obtain ⟨o, v, e, p⟩ := h
    subst e
    exact k a v m o p
  | exc x m =>
    obtain ⟨o, e, p⟩ := h
    subst e
    exact ⟨o, rfl, p⟩
  | bad => exact True.intro
theorem end_mk {X : Mem} {n : Nat} {rq rr : R (List D)} (hne : ∀ x m, rq ≠ .exc x m) (hn : n = L + X.length) (h : QR L (X ++ [some .tmp]) (Eqs L) rq rr) : QV L X (rq.bk fun xs m => (R.of (mkL xs) m).bk fun ds m => .ok (true, .lst ds) m) (compEnd true n rr) := by
  cases rq with
  | bad => exact True.intro
  | exc x m' => exact absurd rfl (hne x m')
  | ok xs m' =>
    obtain ⟨o', w, e1, e2, p⟩ := h
    subst e2 e1
    show QV L X ((R.of (mkL w) m').bk fun ds m => .ok (true, .lst ds) m) _
    unfold mkL
    simp only [compEnd, R.bind_ok, if_true]
    by_cases hb : belows 0 w = true
    · rw [if_pos hb, if_pos hb]
      refine ⟨o', .cell n, X ++ [some (.lst w)], ?_, w, rfl, hb, rfl, by rw [hn]⟩
      congr 1
      rw [hn, ← List.append_assoc, ← List.append_assoc]
      rw [show L + X.length = (m' ++ X).length by rw [len_ext o']]
      simp
    · rw [if_neg hb]; exact True.intro
theorem sV (hc : Cs L cq cf) (e : E) (ρq : QEnv) (ρ : Env) (X m : Mem) (r : RelX L X ρq ρ) (o : MOk L m) : QV L X (qV cq e ρq m) (evE cf e ρ (m ++ X)) := by
  unfold qV
  by_cases hm : isMk e = true
  · rw [if_pos hm]
    cases e <;> first | (cases hm; done) | skip
    · next es =>
      rw [ev_cel]
      show QV L X (R.bk ((qEs cq es ρq m).bk _) _) _
      rw [bindA]
      refine QV.bindE (sEs hc es ρq ρ X m r o) fun x v m o p => ?_
      obtain ⟨e, b⟩ := p
      subst e
      by_cases hl : v.length ≤ BIG
      · rw [decide_eq_true hl, iteR_t, iteR_t]; exact newCell_ok o
      · rw [decide_eq_false hl, iteR_f]; exact True.intro
    · next k e t i fs =>
      cases k
      · cases hm
      · show QV L X (R.bk (iteR (okF fs) _ _) _) _
        by_cases hf : okF fs = true
        · rw [ev_compT (okF_ok hf), hf, iteR_t, bindA]
          refine QV.bindE (sI hc i ρq ρ X m r o) fun x v m o p => ?_
          obtain ⟨e', b⟩ := p
          subst e'
          rw [List.append_assoc, bindA]
          exact end_mk (fun _ _ => loop_ne) (len_ext o) (QR.loop (fun d m hd o => step_ok (r.ext _) (fun ρq ρ m r o => sT hc fs ρq ρ _ m r o) (fun ρq ρ m r o => sE hc e false ρq ρ _ m r o) d m hd o) v m b o)
        · rw [Bool.not_eq_true] at hf
          rw [hf, iteR_f]; exact True.intro
    · next a =>
      rw [ev_cellOf]
      show QV L X (R.bk ((qE cq false a ρq m).bk _) _) _
      rw [bindA]
      refine QV.bindE (sE hc a false ρq ρ X m r o) fun x v m o p => ?_
      obtain ⟨e, b⟩ := p.no
      subst e
      cases v <;> first | exact True.intro | exact newCell_ok o
  · rw [if_neg hm]
    have h := sE hc e false ρq ρ X m r o
    revert h
    generalize qE cq false e ρq m = rq
    generalize evE cf e ρ (m ++ X) = rr
    intro h
    cases rq with
    | bad => exact True.intro
    | exc x m' => exact h
    | ok d m' =>
      obtain ⟨o', v, e, p⟩ := h
      exact ⟨o', v, X, e, rfl, p.no⟩
def Its (L : Nat) (X X' : Mem) : List (Bool × D) → List D → Prop
  | [], [] => X' = X
  | p :: ps, v :: vs => ∃ X1, It L X X1 p v ∧ Its L X1 X' ps vs
  | _, _ => False
def QVs (L : Nat) (X : Mem) (rq : R (List (Bool × D))) (rr : R (List D)) : Prop := match rq with
  | .ok ps m => MOk L m ∧ ∃ vs X', rr = .ok vs (m ++ X') ∧ Its L X X' ps vs
  | .exc x m => MOk L m ∧ ∃ Y, rr = .exc x (m ++ (X ++ Y)) ∧ below L x = true
  | .bad => True
theorem It.ext {X X' : Mem} {p : Bool × D} {v : D} (h : It L X X' p v) : ∃ Y, X' = X ++ Y := by
  obtain ⟨b, d⟩ := p
  cases b
  · exact ⟨[], by rw [h.1, List.append_nil]⟩
  · obtain ⟨xs, _, _, e, _⟩ := h
    exact ⟨_, e⟩
theorem sVs (hc : Cs L cq cf) : ∀ (es : Es) (ρq : QEnv) (ρ : Env) (X m : Mem), RelX L X ρq ρ → MOk L m → QVs L X (qVs cq es ρq m) (evEs cf es ρ (m ++ X))
  | .nil, ρq, ρ, X, m, r, o => by rw [evs_nil, qVs]; exact ⟨o, [], X, rfl, rfl⟩
  | .star _ _, ρq, ρ, X, m, r, o => by rw [qVs]; exact True.intro
  | .cons e es, ρq, ρ, X, m, r, o => by
    rw [evs_cons, qVs]
    have h := sV hc e ρq ρ X m r o
    cases q : qV cq e ρq m with
    | bad => exact True.intro
    | exc x m1 =>
      rw [q] at h
      obtain ⟨o1, e1, b1⟩ := h
      rw [e1]
      exact ⟨o1, [], by rw [List.append_nil]; rfl, b1⟩
    | ok p m1 =>
      rw [q] at h
      obtain ⟨o1, v, X1, e1, it⟩ := h
      rw [e1, R.bk_ok, R.bk_ok]
      obtain ⟨Y, eY⟩ := it.ext
      have h2 := sVs hc es ρq ρ X1 m1 (by rw [eY]; exact r.ext Y) o1
      cases q2 : qVs cq es ρq m1 with
      | bad => exact True.intro
      | exc x m2 =>
        rw [q2] at h2
        obtain ⟨o2, Z, e2, b2⟩ := h2
        rw [e2]
        exact ⟨o2, Y ++ Z, by rw [eY, List.append_assoc]; rfl, b2⟩
      | ok ps m2 =>
        rw [q2] at h2
        obtain ⟨o2, vs, X2, e2, its⟩ := h2
        rw [e2]
        exact ⟨o2, v :: vs, X2, rfl, X1, it, its⟩
theorem RelS.it {X X' : Mem} {ρq : QEnv} {ρ : Env} {p : Bool × D} {v : D} (h : RelS L K X ρq ρ) (hK : K ≤ X.length) (i : Nat) (it : It L X X' p v) : RelS L K X' (ρq.set i (some p)) (ρ.set i (some v)) ∧ X'.take K = X.take K ∧ K ≤ X'.length := by
  obtain ⟨b, d⟩ := p
  cases b
  · obtain ⟨e1, e2, e3⟩ := it
    subst e1 e2
    exact ⟨h.set i e3, rfl, hK⟩
  · obtain ⟨xs, e1, e2, e3, e4⟩ := it
    subst e1 e3 e4
    exact ⟨h.acc_new hK i e2 rfl, List.take_append_of_le_length hK, by rw [List.length_append]; omega⟩
theorem RelS.its : ∀ {is : List Nat} {ps : List (Bool × D)} {vs : List D} {X X' : Mem} {ρq ρq' : QEnv} {ρ : Env}, RelS L K X ρq ρ → K ≤ X.length → Its L X X' ps vs → qsetAll is ps ρq = some ρq' → ∃ ρ', setAll is vs ρ = some ρ' ∧ RelS L K X' ρq' ρ' ∧ X'.take K = X.take K ∧ K ≤ X'.length
  | [], [], [], X, X', ρq, ρq', ρ, h, hK, it, e => by
    have it : X' = X := it
    simp only [qsetAll, Option.some.injEq] at e
    subst it e
    exact ⟨ρ, rfl, h, rfl, hK⟩
  | i :: is, p :: ps, v :: vs, X, X', ρq, ρq', ρ, h, hK, it, e => by
    obtain ⟨X1, i1, i2⟩ := it
    simp only [qsetAll] at e
    obtain ⟨h1, h2, h3⟩ := h.it hK i i1
    obtain ⟨ρ', e', r, h4, h5⟩ := RelS.its h1 h3 i2 e
    exact ⟨ρ', e', r, h4.trans h2, h5⟩
  | [], _ :: _, _, X, X', ρq, ρq', ρ, h, hK, it, e => by simp [qsetAll] at e
  | _ :: _, [], _, X, X', ρq, ρq', ρ, h, hK, it, e => by simp [qsetAll] at e
  | _, [], _ :: _, X, X', ρq, ρq', ρ, h, hK, it, e => by simp [Its] at it
  | _, _ :: _, [], X, X', ρq, ρq', ρ, h, hK, it, e => by simp [Its] at it
theorem QS.bindV {X : Mem} {rq : R (Bool × D)} {rr : R D} {f : Bool × D → Mem → R (Fl × QEnv)} {g : D → Mem → R (Fl × Env)} [Hid f] [Hid g] (h1 : X.take K = X0) (h2 : K ≤ X.length) (h : QV L X rq rr) (k : ∀ p v X' m, MOk L m → It L X X' p v → QS L K X0 (f p m) (g v (m ++ X'))) : QS L K X0 (rq.bk f) (rr.bk g) := by
  cases rq with
  | ok a m =>
    obtain ⟨o, v, X', e, p⟩ := h
    subst e
    exact k a v X' m o p
  | exc x m =>
    obtain ⟨o, e, p⟩ := h
    subst e
    exact ⟨o, X, rfl, h1, h2, p⟩
  | bad => exact True.intro
theorem QS.iteR {X : Mem} {t t' : Bool} {a b : R (Fl × QEnv)} {a' b' : R (Fl × Env)} (e : t' = t) (h1 : t = true → QS L K X0 a a') (h2 : t = false → QS L K X0 b b') : QS L K X0 (iteR t a b) (iteR t' a' b') := by
  subst e
  cases t'
  · exact h2 rfl
  · exact h1 rfl
theorem set_ext {m X : Mem} {n : Nat} {x : Option Cel} (o : MOk L m) : (m ++ X).set (L + n) x = m ++ X.set n x := by
  rw [← o.len, List.set_append, if_neg (by omega)]
  congr 2
  omega
theorem set_low {m X : Mem} {n : Nat} {x : Option Cel} (h : n < m.length) : (m ++ X).set n x = m.set n x ++ X := by rw [List.set_append, if_pos h]
theorem RelS.frz {X : Mem} {ρq : QEnv} {ρ : Env} (h : RelS L K X ρq ρ) {i n : Nat} {xs : List D} (hi : ρq[i]? = some (some (true, .lst xs))) (hr : ρ[i]? = some (some (.cell (L + n)))) (hx : belows 0 xs = true) : RelS L K (X.set n none) (ρq.set i (some (false, .lst xs))) (ρ.set i (some (.lst xs))) := by
  have hb : below L (.lst xs) = true := bwsm (Nat.zero_le _) _ hx
  have h1 := h.set i hb
  refine ⟨⟨h1.len, h1.val, fun j e hj => ?_⟩, h1.own, h1.inj⟩
  obtain ⟨n', ys, q1, q2, q3, q4⟩ := h1.acc j e hj
  refine ⟨n', ys, q1, q2, ?_, q4⟩
  rcases qget_set hj with ⟨e1, e2, e3⟩ | ⟨e1, e2⟩
  · cases e3
  · rw [List.getElem?_set_ne fun z => ?_]
    · exact q3
    · subst z
      rw [List.getElem?_set_ne e1] at q2
      exact e1 (h.inj i j n _ _ hi e2 hr q2)
theorem unacc_get : ∀ {ρ : QEnv} {i : Nat} {p : Bool × D}, (unacc ρ)[i]? = some (some p) → p.1 = false ∧ ρ[i]? = some (some p)
  | [], i, p, h => by simp [unacc] at h
  | none :: r, 0, p, h => by simp [unacc] at h
  | some (true, d) :: r, 0, p, h => by simp [unacc] at h
  | some (false, d) :: r, 0, p, h => by simp [unacc] at h; subst h; exact ⟨rfl, rfl⟩
  | none :: r, i + 1, p, h => by simp only [unacc, List.getElem?_cons_succ] at h ⊢; exact unacc_get h
  | some (true, d) :: r, i + 1, p, h => by simp only [unacc, List.getElem?_cons_succ] at h ⊢; exact unacc_get h
  | some (false, d) :: r, i + 1, p, h => by simp only [unacc, List.getElem?_cons_succ] at h ⊢; exact unacc_get h
theorem unacc_len : ∀ {ρ : QEnv}, (unacc ρ).length = ρ.length
  | [] => rfl
  | none :: r => by simp [unacc, unacc_len]
  | some (true, _) :: r => by simp [unacc, unacc_len]
  | some (false, _) :: r => by simp [unacc, unacc_len]
theorem RelS.unacc {X X' : Mem} {ρq : QEnv} {ρ : Env} (h : RelS L K X ρq ρ) : RelS L K X' (G48.unacc ρq) ρ where
  len := by rw [unacc_len]; exact h.len
  val := fun i d e => h.val i d (unacc_get e).2
  acc := fun i d e => by have := (unacc_get e).1; cases this
  own := fun i n d e => by have := (unacc_get e).1; cases this
  inj := fun i j n d e q => by have := (unacc_get q).1; cases this
end
end G48
set_option linter.all false
set_option maxRecDepth 100000
set_option maxHeartbeats 2000000
/-! G48: runs by values are runs: statements, functions. -/
namespace G48
open PySem
section
variable {L K : Nat} {X0 : Mem} {cq cf : Nat → List D → Mem → R D} {wf : Nat}
theorem QS.for {sq : D → QEnv → Mem → R (Fl × QEnv)} {sr : D → Env → Mem → R (Fl × Env)}
    (h : ∀ d ρq ρ X m, below L d = true → RelS L K X ρq ρ → X.take K = X0 → K ≤ X.length → MOk L m → QS L K X0 (sq d ρq m) (sr d ρ (m ++ X))) :
    ∀ (ds : List D) (ρq : QEnv) (ρ : Env) (X m : Mem), belows L ds = true → RelS L K X ρq ρ → X.take K = X0 → K ≤ X.length → MOk L m → QS L K X0 (floopR sq ds ρq m) (forLoop sr ds ρ (m ++ X))
  | [], ρq, ρ, X, m, _, r, h1, h2, o => QS.nx o r h1 h2
  | d :: ds, ρq, ρ, X, m, hb, r, h1, h2, o => by
    simp only [belows, Bool.and_eq_true] at hb
    unfold floopR forLoop
    show QS L K X0 ((sq d ρq m).bk _) ((sr d ρ (m ++ X)).bk _)
    refine QS.bind (h d ρq ρ X m hb.1 r h1 h2 o) fun fl ρq ρ X m o r h1 h2 hf => ?_
    cases fl with
    | nx => exact QS.for h ds ρq ρ X m hb.2 r h1 h2 o
    | ct => exact QS.for h ds ρq ρ X m hb.2 r h1 h2 o
    | bk => exact QS.nx o r h1 h2
    | rt d => exact ⟨o, ρ, X, rfl, r, h1, h2, hf⟩
theorem QS.while {tq : QEnv → Mem → R Bool} {tr : Env → Mem → R Bool} {sq : QEnv → Mem → R (Fl × QEnv)} {sr : Env → Mem → R (Fl × Env)}
    (ht : ∀ ρq ρ X m, RelS L K X ρq ρ → MOk L m → QR L X (fun a v => v = a) (tq ρq m) (tr ρ (m ++ X)))
    (h : ∀ ρq ρ X m, RelS L K X ρq ρ → X.take K = X0 → K ≤ X.length → MOk L m → QS L K X0 (sq ρq m) (sr ρ (m ++ X))) :
    ∀ (n : Nat) (ρq : QEnv) (ρ : Env) (X m : Mem), RelS L K X ρq ρ → X.take K = X0 → K ≤ X.length → MOk L m → QS L K X0 (wloopR tq sq n ρq m) (whileLoop tr sr n ρ (m ++ X))
  | 0, ρq, ρ, X, m, r, h1, h2, o => True.intro
  | n + 1, ρq, ρ, X, m, r, h1, h2, o => by
    unfold wloopR whileLoop
    show QS L K X0 ((tq ρq m).bk _) ((tr ρ (m ++ X)).bk _)
    refine QS.bindE h1 h2 (ht ρq ρ X m r o) fun a v m o e => ?_
    subst e
    cases v
    · exact QS.nx o r h1 h2
    · show QS L K X0 ((sq ρq m).bk _) ((sr ρ (m ++ X)).bk _)
      refine QS.bind (h ρq ρ X m r h1 h2 o) fun fl ρq ρ X m o r h1 h2 hf => ?_
      cases fl with
      | nx => exact QS.while ht h n ρq ρ X m r h1 h2 o
      | ct => exact QS.while ht h n ρq ρ X m r h1 h2 o
      | bk => exact QS.nx o r h1 h2
      | rt d => exact ⟨o, ρ, X, rfl, r, h1, h2, hf⟩
theorem QS.wipe {rq : R (Fl × QEnv)} {rr : R (Fl × Env)} (wp : List Nat) (h : QS L K X0 rq rr) : QS L K X0 (qwipeR wp rq) (wipeR wp rr) := by
  rw [wipeR_eq]
  unfold qwipeR
  exact QS.bind h fun fl ρq ρ X m o r h1 h2 hf => ⟨o, _, X, rfl, r.wipe wp, h1, h2, hf⟩
theorem acc_of {X : Mem} {ρq : QEnv} {ρ : Env} {j : Nat} {xs : List D} (r : RelS L K X ρq ρ) (h : accO ρq[j]? = some xs) : ρq[j]? = some (some (true, .lst xs)) ∧ ∃ n, K ≤ n ∧ n < X.length ∧ ρ[j]? = some (some (.cell (L + n))) ∧ X[n]? = some (some (.lst xs)) ∧ belows 0 xs = true := by
  unfold accO at h
  split at h
  · next q =>
    cases h
    obtain ⟨n, ys, e1, e2, e3, e4⟩ := r.acc j _ q
    cases e1
    exact ⟨q, n, r.own j n _ q e2, (List.getElem?_eq_some_iff.mp e3).1, e2, e3, e4⟩
  · cases h
/-- a list that grows gets a new value -/
theorem put_ok {X m : Mem} {ρq : QEnv} {ρ : Env} {j n : Nat} {xs ys : List D} (o : MOk L m) (r : RelS L K X ρq ρ) (h1 : X.take K = X0) (h2 : K ≤ X.length) (hj : ρq[j]? = some (some (true, .lst xs))) (hK : K ≤ n) (hn : n < X.length) (e : ρ[j]? = some (some (.cell (L + n)))) (hy : belows 0 ys = true) :
    QS L K X0 (.ok (.nx, ρq.set j (some (true, .lst ys))) m) (.ok (.nx, ρ) (setCell (m ++ X) (L + n) ys)) := by
  unfold setCell
  rw [set_ext o]
  exact ⟨o, ρ, _, rfl, r.acc_put hj e hn hy, by rw [take_set' hK]; exact h1, by rw [List.length_set]; exact h2, trivial⟩
theorem set_mem {X m m' : Mem} {x k d : D} (o : MOk L m) (hx : below L x = true) (h : setIxD x k d m = some m') : setIxD x k d (m ++ X) = some (m' ++ X) ∧ MOk L m' := by
  unfold setIxD at h ⊢
  split at h
  · next n k =>
    have hn : n < L := by simpa [below] using hx
    have hn' : n < m.length := by rw [o.len]; exact hn
    have e : (m ++ X)[n]? = m[n]? := List.getElem?_append_left hn'
    split at h
    · next xs q =>
      simp only [e, q]
      split at h
      · next hb =>
        rw [if_pos hb]
        obtain ⟨j, h1, h2⟩ := Option.map_eq_some_iff.mp h
        subst h2
        refine ⟨by simp only [h1, Option.map_some, setCell, set_low hn'], ?_⟩
        refine ⟨by simp only [setCell, List.length_set, o.len], fun n' ys hy => ?_⟩
        unfold setCell at hy
        rcases qget_set hy with ⟨e1, e2, e3⟩ | ⟨e1, e2⟩
        · cases e3
          refine belows_iff.mpr fun y hy => ?_
          rcases List.mem_or_eq_of_mem_set hy with z | z
          · exact belows_iff.mp (o.cel _ _ q) y z
          · subst z; exact hb
        · exact o.cel _ _ e2
      · cases h
    · cases h
  · cases h
mutual
theorem sS (hc : Cs L cq cf) : ∀ (s : S) (ρq : QEnv) (ρ : Env) (X m : Mem), RelS L K X ρq ρ → X.take K = X0 → K ≤ X.length → MOk L m → QS L K X0 (qS wf cq s ρq m) (evS wf cf s ρ (m ++ X))
  | .set i e, ρq, ρ, X, m, r, h1, h2, o => by
    rw [st_set, qS]
    refine QS.bindV h1 h2 (sV hc e ρq ρ X m r.toRelX o) fun p v X' m o it => ?_
    obtain ⟨r', h3, h4⟩ := r.it h2 i it
    exact QS.nx o r' (h3.trans h1) h4
  | .setT t e, ρq, ρ, X, m, r, h1, h2, o => by
    rw [st_setT, qS]
    refine QS.bindE h1 h2 (sE hc e false ρq ρ X m r.toRelX o) fun d v m o p => ?_
    obtain ⟨e, b⟩ := p.no
    subst e
    refine QS.bindE (P := RelS L K X) h1 h2 (QR.of o fun ρ' e => ?_) fun ρq' ρ' m o r => QS.nx o r h1 h2
    obtain ⟨ρ2, e1, r2⟩ := RelS.bindT t v r b e
    exact ⟨ρ2, e1, r2⟩
  | .par is es, ρq, ρ, X, m, r, h1, h2, o => by
    rw [st_par, qS]
    have h := sVs hc es ρq ρ X m r.toRelX o
    cases q : qVs cq es ρq m with
    | bad => exact True.intro
    | exc x m1 =>
      rw [q] at h
      obtain ⟨o1, Y, e1, b1⟩ := h
      rw [e1]
      exact ⟨o1, X ++ Y, rfl, by rw [List.take_append_of_le_length h2]; exact h1, by rw [List.length_append]; omega, b1⟩
    | ok ps m1 =>
      rw [q] at h
      obtain ⟨o1, vs, X1, e1, its⟩ := h
      rw [e1, R.bk_ok, R.bk_ok]
      cases q2 : qsetAll is ps ρq with
      | none => exact True.intro
      | some ρq' =>
        obtain ⟨ρ', e2, r2, h3, h4⟩ := r.its h2 its q2
        rw [e2]
        exact QS.nx o1 r2 (h3.trans h1) h4
  | .setIx a i e, ρq, ρ, X, m, r, h1, h2, o => by
    rw [st_setIx, qS]
    cases a <;> first | exact True.intro | skip
    next j =>
    show QS L K X0 ((qE cq false e ρq m).bk _) _
    refine QS.bindE h1 h2 (sE hc e false ρq ρ X m r.toRelX o) fun d v m o p => ?_
    obtain ⟨e1, b⟩ := p.no
    subst e1
    rw [ev_var]
    rcases q : ρq[j]? with _ | (_ | ⟨fl, x⟩)
    · exact True.intro
    · exact True.intro
    · cases fl with
      | false =>
        obtain ⟨e2, b2⟩ := r.val j x q
        rw [e2, qvar_val, varR_some, R.bk_ok, R.bk_ok]
        refine QS.bindE h1 h2 (sE hc i false ρq ρ X m r.toRelX o) fun k w m o p => ?_
        obtain ⟨e3, b3⟩ := p.no
        subst e3
        rw [setQ_val]
        cases q2 : setIxD x w v m with
        | none => exact True.intro
        | some m' =>
          obtain ⟨e4, o4⟩ := set_mem (X := X) o b2 q2
          rw [e4]
          exact QS.nx o4 r h1 h2
      | true =>
        obtain ⟨n, xs, e1, e2, e3, e4⟩ := r.acc j x q
        subst e1
        rw [e2, qvar_acc, varR_some, R.bk_ok, R.bk_ok]
        refine QS.bindE h1 h2 (sE hc i false ρq ρ X m r.toRelX o) fun k w m o p => ?_
        obtain ⟨e5, b3⟩ := p.no
        subst e5
        rw [setQ_acc]
        unfold setAcc setIxD
        cases w <;> first | exact True.intro | skip
        next k =>
        simp only [get_ext o.len, e3]
        by_cases hb : below 0 v = true
        · rw [if_pos hb, if_pos hb]
          cases q3 : pyIx xs.length k with
          | none => exact True.intro
          | some y =>
            refine put_ok o r h1 h2 q (r.own j n _ q e2) (List.getElem?_eq_some_iff.mp e3).1 e2 (belows_iff.mpr fun y hy => ?_)
            rcases List.mem_or_eq_of_mem_set hy with z | z
            · exact belows_iff.mp e4 y z
            · subst z; exact hb
        · rw [if_neg hb]; exact True.intro
  | .aug i p e, ρq, ρ, X, m, r, h1, h2, o => by
    rw [st_aug, qS]
    rcases q : ρq[i]? with _ | (_ | ⟨fl, x⟩)
    · exact True.intro
    · exact True.intro
    · cases fl with
      | true => exact True.intro
      | false =>
        obtain ⟨e2, b2⟩ := r.val i x q
        rw [e2, qvar_val, varR_some, R.bk_ok, R.bk_ok]
        refine QS.bindE h1 h2 (sE hc e false ρq ρ X m r.toRelX o) fun k w m o p => ?_
        obtain ⟨e3, b3⟩ := p.no
        subst e3
        cases x <;> first | exact True.intro | skip
        cases w <;> first | exact True.intro | skip
        rw [augQ_int, augR_int]
        exact QS.bindE (P := Eqv L) h1 h2 (QR.of o fun z hz => ⟨z, hz, rfl, bw_bop hz rfl rfl⟩) fun z z' m o hz => by
          obtain ⟨e, b⟩ := hz
          subst e
          exact QS.nx o (r.set i b) h1 h2
  | .expr e, ρq, ρ, X, m, r, h1, h2, o => by
    rw [st_expr, qS]
    exact QS.bindE h1 h2 (sE hc e false ρq ρ X m r.toRelX o) fun d v m o p => QS.nx o r h1 h2
  | .app a e, ρq, ρ, X, m, r, h1, h2, o => by
    rw [st_app, qS]
    cases a <;> first | exact True.intro | skip
    next j =>
    show QS L K X0 ((accQ ρq[j]? m).bk _) _
    unfold accQ
    cases q : accO ρq[j]? with
    | none => exact True.intro
    | some xs =>
      obtain ⟨q1, n, hK, hn, e2, e3, e4⟩ := acc_of r q
      rw [ev_var, e2, R.of_some, varR_some, R.bk_ok, R.bk_ok]
      have hl : liveL (.cell (L + n)) (m ++ X) = true := by simp only [liveL, get_ext o.len, e3]
      rw [hl, iteR_t]
      refine QS.bindE h1 h2 (sE hc e false ρq ρ X m r.toRelX o) fun d v m o p => ?_
      obtain ⟨e5, b5⟩ := p.no
      subst e5
      unfold appAcc appD
      simp only [get_ext o.len, e3]
      by_cases hb : xs.length < BIG ∧ below 0 v = true
      · rw [if_pos hb, if_pos hb]
        exact put_ok o r h1 h2 q1 hK hn e2 (bws_app e4 (by simp only [belows, hb.2, Bool.and_self]))
      · rw [if_neg hb]; exact True.intro
  | .ext a e, ρq, ρ, X, m, r, h1, h2, o => by
    rw [st_ext, qS]
    cases a <;> first | exact True.intro | skip
    next j =>
    show QS L K X0 ((accQ ρq[j]? m).bk _) _
    unfold accQ
    cases q : accO ρq[j]? with
    | none => exact True.intro
    | some xs =>
      obtain ⟨q1, n, hK, hn, e2, e3, e4⟩ := acc_of r q
      rw [ev_var, e2, R.of_some, varR_some, R.bk_ok, R.bk_ok]
      have hl : liveL (.cell (L + n)) (m ++ X) = true := by simp only [liveL, get_ext o.len, e3]
      rw [hl, iteR_t]
      refine QS.bindE h1 h2 (sE hc e false ρq ρ X m r.toRelX o) fun d v m o p => ?_
      obtain ⟨e5, b5⟩ := p.no
      subst e5
      unfold extAcc extD
      cases v <;> first | exact True.intro | skip
      next ys =>
      simp only [get_ext o.len, e3]
      by_cases hb : xs.length + ys.length ≤ BIG ∧ belows 0 ys = true
      · rw [if_pos hb, if_pos hb]
        exact put_ok o r h1 h2 q1 hK hn e2 (bws_app e4 hb.2)
      · rw [if_neg hb]; exact True.intro
  | .iff c a b, ρq, ρ, X, m, r, h1, h2, o => by
    rw [st_iff, qS]
    exact QS.bindE h1 h2 (tst_ok (sE hc c true ρq ρ X m r.toRelX o)) fun x v m o p => QS.iteR (X := X) p (fun _ => sSs hc a ρq ρ X m r h1 h2 o) fun _ => sSs hc b ρq ρ X m r h1 h2 o
  | .for_ t i b wp, ρq, ρ, X, m, r, h1, h2, o => by
    rw [st_for, qS]
    refine QS.bindE h1 h2 (sI hc i ρq ρ X m r.toRelX o) fun x v m o p => ?_
    obtain ⟨e, b'⟩ := p
    subst e
    refine QS.for (fun d ρq ρ X m hd r h1 h2 o => QS.wipe wp ?_) v ρq ρ X m b' r h1 h2 o
    refine QS.bindE (P := RelS L K X) h1 h2 (QR.of o fun ρ' e => ?_) fun ρq' ρ' m o r => sSs hc b ρq' ρ' X m r h1 h2 o
    obtain ⟨ρ2, e1, r2⟩ := RelS.bindT t d r hd e
    exact ⟨ρ2, e1, r2⟩
  | .whil c b wp, ρq, ρ, X, m, r, h1, h2, o => by
    rw [st_whil, qS]
    exact QS.while (fun ρq ρ X m r o => tst_ok (sE hc c true ρq ρ X m r.toRelX o)) (fun ρq ρ X m r h1 h2 o => QS.wipe wp (sSs hc b ρq ρ X m r h1 h2 o)) wf ρq ρ X m r h1 h2 o
  | .ret e, ρq, ρ, X, m, r, h1, h2, o => by
    rw [st_ret, qS]
    refine QS.bindE h1 h2 (sE hc e false ρq ρ X m r.toRelX o) fun d v m o p => ?_
    obtain ⟨e, b⟩ := p.no
    subst e
    exact ⟨o, ρ, X, rfl, r, h1, h2, b⟩
  | .retN, ρq, ρ, X, m, r, h1, h2, o => by rw [st_retN, qS]; exact ⟨o, ρ, X, rfl, r, h1, h2, rfl⟩
  | .brk, ρq, ρ, X, m, r, h1, h2, o => by rw [st_brk, qS]; exact ⟨o, ρ, X, rfl, r, h1, h2, trivial⟩
  | .cont, ρq, ρ, X, m, r, h1, h2, o => by rw [st_cont, qS]; exact ⟨o, ρ, X, rfl, r, h1, h2, trivial⟩
  | .pass, ρq, ρ, X, m, r, h1, h2, o => by rw [st_pass, qS]; exact QS.nx o r h1 h2
  | .raise c es, ρq, ρ, X, m, r, h1, h2, o => by
    rw [st_raise, qS]
    refine QS.bindE h1 h2 (sEs hc es ρq ρ X m r.toRelX o) fun x v m o p => ?_
    obtain ⟨e, b⟩ := p
    subst e
    refine QS.bindE (P := Eqs L) h1 h2 (QR.of o fun z hz => ⟨z, hz, rfl, bw_mkExc hz b⟩) fun x v m o p => ?_
    obtain ⟨e, b⟩ := p
    subst e
    exact ⟨o, X, rfl, h1, h2, b⟩
  | .tryx b cs i j wp, ρq, ρ, X, m, r, h1, h2, o => by
    rw [st_tryx, qS]
    have h := sSs hc b ρq ρ X m r h1 h2 o
    cases q : qSs wf cq b ρq m with
    | bad => exact True.intro
    | ok p m1 =>
      rw [q] at h
      obtain ⟨o1, ρ1, X1, e1, rest⟩ := h
      rw [e1]
      exact ⟨o1, ρ1, X1, rfl, rest⟩
    | exc x m1 =>
      rw [q] at h
      obtain ⟨o1, X1, e1, h3, h4, b1⟩ := h
      rw [e1]
      unfold tryQ tryR
      cases x <;> first | exact True.intro | skip
      next c vs =>
      by_cases hcs : cs.contains c = true
      · simp only [hcs, if_true]
        exact QS.nx o1 ((((r.unacc (X' := X1)).wipe wp).unset i).set j b1) h3 h4
      · simp only [hcs]; exact True.intro
  | .stuck, ρq, ρ, X, m, r, h1, h2, o => by rw [st_stuck, qS]; exact True.intro
  | .frzD _, ρq, ρ, X, m, r, h1, h2, o => by rw [qS]; exact True.intro
  | .subs _ _ _, ρq, ρ, X, m, r, h1, h2, o => by rw [qS]; exact True.intro
  | .frz i, ρq, ρ, X, m, r, h1, h2, o => by
    rw [st_frz, qS]
    unfold accQ
    cases q : accO ρq[i]? with
    | none => exact True.intro
    | some xs =>
      obtain ⟨q1, n, hK, hn, e2, e3, e4⟩ := acc_of r q
      rw [e2, frzR_ok (by rw [get_ext o.len]; exact e3), set_ext o]
      exact ⟨o, _, _, rfl, r.frz q1 e2 e4, by rw [take_set' hK]; exact h1, by rw [List.length_set]; exact h2, trivial⟩
theorem sSs (hc : Cs L cq cf) : ∀ (ss : Ss) (ρq : QEnv) (ρ : Env) (X m : Mem), RelS L K X ρq ρ → X.take K = X0 → K ≤ X.length → MOk L m → QS L K X0 (qSs wf cq ss ρq m) (evSs wf cf ss ρ (m ++ X))
  | .nil, ρq, ρ, X, m, r, h1, h2, o => by rw [ss_nil0, qSs]; exact QS.nx o r h1 h2
  | .cons s ss, ρq, ρ, X, m, r, h1, h2, o => by
    rw [ss_cons0, qSs]
    refine QS.bind (sS hc s ρq ρ X m r h1 h2 o) fun fl ρq ρ X m o r h1 h2 hf => ?_
    cases fl with
    | nx => exact sSs hc ss ρq ρ X m r h1 h2 o
    | ct => exact ⟨o, ρ, X, rfl, r, h1, h2, hf⟩
    | bk => exact ⟨o, ρ, X, rfl, r, h1, h2, hf⟩
    | rt d => exact ⟨o, ρ, X, rfl, r, h1, h2, hf⟩
end
end
end G48
set_option linter.all false
set_option maxRecDepth 100000
set_option maxHeartbeats 2000000
/-! G48: runs by values are runs: functions. -/
namespace G48
open PySem
/-- what is told of functions beforehand holds -/
def XS (T : List Fn) (wf : Nat) (ex : Orc) (L : Nat) : Prop := ∀ i g, ex i = some g → ∀ n ds m X, belows L ds = true → MOk L m → QR L X (Eqv L) (g n ds m) (callF T wf n i ds (m ++ X))
theorem start_rel {L K n : Nat} {X : Mem} {ds : List D} (h : belows L ds = true) : RelS L K X (startQ n ds) (startE n ds) where
  len := by simp [startQ, startE]
  val := fun i d e => by
    unfold startQ at e
    unfold startE
    by_cases hi : i < ds.length
    · rw [List.getElem?_append_left (by simpa using hi), List.getElem?_map, List.getElem?_eq_getElem hi] at e
      simp only [Option.map_some, Option.some.injEq, Prod.mk.injEq, true_and] at e
      rw [List.getElem?_append_left (by simpa using hi), List.getElem?_map, List.getElem?_eq_getElem hi]
      subst e
      exact ⟨rfl, belows_iff.mp h _ (List.getElem_mem hi)⟩
    · rw [List.getElem?_append_right (by simpa using hi), List.getElem?_replicate] at e
      split at e <;> cases e
  acc := fun i d e => by
    unfold startQ at e
    by_cases hi : i < ds.length
    · rw [List.getElem?_append_left (by simpa using hi), List.getElem?_map, List.getElem?_eq_getElem hi] at e
      simp at e
    · rw [List.getElem?_append_right (by simpa using hi), List.getElem?_replicate] at e
      split at e <;> cases e
  own := fun i k d e => by
    unfold startQ at e
    by_cases hi : i < ds.length
    · rw [List.getElem?_append_left (by simpa using hi), List.getElem?_map, List.getElem?_eq_getElem hi] at e
      simp at e
    · rw [List.getElem?_append_right (by simpa using hi), List.getElem?_replicate] at e
      split at e <;> cases e
  inj := fun i j k d f e => by
    unfold startQ at e
    by_cases hi : i < ds.length
    · rw [List.getElem?_append_left (by simpa using hi), List.getElem?_map, List.getElem?_eq_getElem hi] at e
      simp at e
    · rw [List.getElem?_append_right (by simpa using hi), List.getElem?_replicate] at e
      split at e <;> cases e
theorem qcut_ok {L : Nat} {m X X' : Mem} (o : MOk L m) (h : X'.take X.length = X) : (m ++ X').take (L + X.length) = m ++ X := by
  rw [← o.len, List.take_append]
  rw [List.take_of_length_le (by omega)]
  congr 1
  rw [show m.length + X.length - m.length = X.length by omega]
  exact h
theorem callQ_ok {T : List Fn} {wf L : Nat} {ex : Orc} (hx : XS T wf ex L) : ∀ n, Cs L (callQ T wf ex n) (callF T wf n)
  | 0 => fun f ds m X _ _ => True.intro
  | n + 1 => fun f ds m X hb o => by
    unfold callQ
    cases q : ex f with
    | some g => exact hx f g q (n + 1) ds m X hb o
    | none =>
      dsimp only
      cases q1 : T[f]? with
      | none => exact True.intro
      | some fn =>
        dsimp only
        by_cases hl : ds.length = fn.np
        · rw [if_pos hl, callF_eq q1 hl, len_ext o]
          have h := sSs (K := X.length) (X0 := X) (wf := wf) (callQ_ok hx n) fn.body (startQ fn.ns ds) (startE fn.ns ds) X m (start_rel hb) List.take_length (Nat.le_refl _) o
          cases q2 : qSs wf (callQ T wf ex n) fn.body (startQ fn.ns ds) m with
          | bad => exact True.intro
          | exc x m1 =>
            rw [q2] at h
            obtain ⟨o1, X1, e1, h3, h4, b1⟩ := h
            rw [e1, finQ_exc, fin_exc, if_pos (bwm (by omega) _ b1), qcut_ok o1 h3]
            exact ⟨o1, rfl, b1⟩
          | ok p m1 =>
            rw [q2] at h
            obtain ⟨o1, ρ1, X1, e1, r1, h3, h4, b1⟩ := h
            rw [e1]
            obtain ⟨fl, ρq⟩ := p
            cases fl with
            | bk => exact True.intro
            | ct => exact True.intro
            | nx =>
              rw [finQ_nx, fin_nx, qcut_ok o1 h3]
              exact QR.ok o1 ⟨rfl, rfl⟩
            | rt d =>
              have b1 : below L d = true := b1
              rw [finQ_rt, fin_rt, if_pos (bwm (by omega) _ b1), qcut_ok o1 h3]
              exact QR.ok o1 ⟨rfl, b1⟩
        · rw [if_neg hl]; exact True.intro
/-- a run by values is a run -/
theorem callQ_run {T : List Fn} {wf n i : Nat} {ex : Orc} {ds : List D} {m m' : Mem} {d : D} (hx : XS T wf ex m.length) (hm : ∀ (n : Nat) (xs : List D), m[n]? = some (some (.lst xs)) → belows 0 xs = true) (hb : belows m.length ds = true) (h : callQ T wf ex n i ds m = .ok d m') : callF T wf n i ds m = .ok d m' := by
  have := callQ_ok hx n i ds m [] hb ⟨rfl, hm⟩
  rw [h] at this
  obtain ⟨_, v, e, e1, _⟩ := this
  subst e1
  simpa using e
theorem callQ_eq {T : List Fn} {wf n i : Nat} {ex : Orc} {fn : Fn} {ds : List D} {m : Mem} (hx : ex i = none) (h : T[i]? = some fn) (hl : ds.length = fn.np) : callQ T wf ex (n + 1) i ds m = finQ (qSs wf (callQ T wf ex n) fn.body (startQ fn.ns ds) m) := by
  rw [callQ, hx, h]
  simp only [hl, if_true]
end G48
set_option linter.all false
set_option maxRecDepth 100000
/-! G48: runs by values: comprehensions, loops, draws. -/
namespace G48
open PySem
section
variable {α : Type} {m : Mem}
theorem cloop_pure {f : D → Mem → R (Option D)} {e : α → D} {xs : List α} (g : α → D) (h : ∀ x ∈ xs, f (e x) m = .ok (some (g x)) m) : cloop f (xs.map e) m = .ok (xs.map g) m := compLoop_mapL h
theorem cloop_filter {f : D → Mem → R (Option D)} {e : α → D} {xs : List α} (g : α → Option D) (h : ∀ x ∈ xs, f (e x) m = .ok (g x) m) : cloop f (xs.map e) m = .ok (xs.filterMap g) m := compLoop_filterL h
theorem cloop_D {f : D → Mem → R (Option D)} {ds : List D} (g : D → D) (h : ∀ d ∈ ds, f d m = .ok (some (g d)) m) : cloop f ds m = .ok (ds.map g) m := compLoop_map h
theorem cloop2_pure {f : D → Mem → R (List D)} {e : α → D} {xs : List α} (g : α → List D) (h : ∀ x ∈ xs, f (e x) m = .ok (g x) m) : cloop2 f (xs.map e) m = .ok (xs.flatMap g) m := compLoop2_pure h
/-- a loop, turn by turn -/
theorem floop_at {step : D → QEnv → Mem → R (Fl × QEnv)} {e : α → D} : ∀ {xs : List α} (ρ : Nat → QEnv) (i : Nat), (∀ j x, xs[j]? = some x → step (e x) (ρ (i + j)) m = .ok (.nx, ρ (i + j + 1)) m) → floopR step (xs.map e) (ρ i) m = .ok (.nx, ρ (i + xs.length)) m
  | [], ρ, i, h => rfl
  | x :: xs, ρ, i, h => by
    have h0 := h 0 x rfl
    have ih := floop_at (step := step) (e := e) (xs := xs) ρ (i + 1) fun j y hy => by
      have := h (j + 1) y (by simpa using hy)
      rw [show i + (j + 1) = i + 1 + j by omega] at this
      exact this
    simp only [List.map_cons, floopR]
    rw [Nat.add_zero] at h0
    rw [h0, R.bk_ok]
    show floopR step (xs.map e) (ρ (i + 1)) m = _
    rw [ih, List.length_cons, show i + 1 + xs.length = i + (xs.length + 1) by omega]
theorem floop_ix {step : D → QEnv → Mem → R (Fl × QEnv)} {e : α → D} {xs : List α} {ρ0 : QEnv} (ρ : Nat → QEnv) (h0 : ρ0 = ρ 0) (h : ∀ j x, xs[j]? = some x → step (e x) (ρ j) m = .ok (.nx, ρ (j + 1)) m) : floop step (xs.map e) ρ0 m = .ok (.nx, ρ xs.length) m := by
  have := floop_at (step := step) (e := e) (xs := xs) (m := m) ρ 0 fun j x hx => by rw [Nat.zero_add]; exact h j x hx
  rw [Nat.zero_add, ← h0] at this
  exact this
end
theorem runI_split (a : Int) (xs : List Int) : ∃ ys, runI a xs = ys ++ [a + xs.sum] := by
  induction xs generalizing a with
  | nil => exact ⟨[], by simp [runI]⟩
  | cons x xs ih =>
    obtain ⟨ys, e⟩ := ih (a + x)
    exact ⟨a :: ys, by rw [runI, e, List.cons_append, List.sum_cons, Int.add_assoc]⟩
theorem ix_lastI {xs : List Int} {ys : List Int} {z : Int} (h : xs = ys ++ [z]) : ixD (.lst (xs.map .int)) (.int (-1)) = some (.int z) := by
  rw [h, List.map_append]; exact ix_last
end G48
set_option linter.all false
set_option maxRecDepth 100000
/-! G48: runs by values: draws that count down, loops with draws, indices. -/
namespace G48
open PySem
/-- a box at b from which f more draws may come -/
def Bd (b f : Nat) (m : Mem) : Prop := ∃ x0 x1 x2 : Int, m[b]? = some (some (.lst [.int x0, .int x1, .int x2])) ∧ 0 ≤ x0 ∧ 0 ≤ x1 ∧ x1 < 2 ^ 63 ∧ 0 ≤ x2 ∧ x2 + f ≤ 1000000000
theorem Bd.mono {b f f' : Nat} {m : Mem} (h : Bd b f m) (hf : f' ≤ f) : Bd b f' m := by
  obtain ⟨x0, x1, x2, e, g0, g1, g2, g3, g4⟩ := h
  exact ⟨x0, x1, x2, e, g0, g1, g2, g3, by omega⟩
theorem Bd.lt {b f : Nat} {m : Mem} (h : Bd b f m) : b < m.length := by
  obtain ⟨x0, x1, x2, e, _⟩ := h
  exact (List.getElem?_eq_some_iff.mp e).1
theorem W.finQ {r : R (Fl × QEnv)} {Q : D → Mem → Prop} (h : W r fun p m => ∃ d, p.1 = .rt d ∧ Q d m) : W (finQ r) Q := by
  obtain ⟨⟨fl, ρ⟩, m, e, d, e1, q⟩ := h
  simp only at e1
  subst e1 e
  exact ⟨d, _, rfl, q⟩
theorem floopR_inv {step : D → QEnv → Mem → R (Fl × QEnv)} {I : Nat → QEnv → Mem → Prop} : ∀ (ds : List D) (i : Nat) (ρ : QEnv) (m : Mem), I i ρ m → (∀ j d, ds[j]? = some d → ∀ ρ m, I (i + j) ρ m → ∃ ρ' m', step d ρ m = .ok (.nx, ρ') m' ∧ I (i + j + 1) ρ' m') →
    ∃ ρ' m', floopR step ds ρ m = .ok (.nx, ρ') m' ∧ I (i + ds.length) ρ' m'
  | [], i, ρ, m, h, _ => ⟨ρ, m, rfl, h⟩
  | d :: ds, i, ρ, m, h, hs => by
    obtain ⟨ρ1, m1, e1, h1⟩ := hs 0 d rfl ρ m h
    obtain ⟨ρ2, m2, e2, h2⟩ := floopR_inv (step := step) (I := I) ds (i + 1) ρ1 m1 h1 fun j d' hd ρ' m' hI => by
      have e : i + 1 + j = i + (j + 1) := by omega
      rw [e] at hI ⊢
      exact hs (j + 1) d' (by simpa using hd) ρ' m' hI
    refine ⟨ρ2, m2, ?_, ?_⟩
    · simp only [floopR, e1, R.bk_ok]; exact e2
    · have e : i + (d :: ds).length = i + 1 + ds.length := by simp; omega
      rw [e]; exact h2
/-- a loop with draws, by what holds ahead of each turn -/
theorem W.floop {β : Type} {step : D → QEnv → Mem → R (Fl × QEnv)} {ds : List D} {ρ : QEnv} {m : Mem} {f : Fl × QEnv → Mem → R β} {Q : β → Mem → Prop} (I : Nat → QEnv → Mem → Prop) (h0 : I 0 ρ m)
    (hs : ∀ j d ρ m, ds[j]? = some d → I j ρ m → W (step d ρ m) fun p m => p.1 = .nx ∧ I (j + 1) p.2 m) (hq : ∀ ρ m, I ds.length ρ m → W (f (.nx, ρ) m) Q) : W ((floop step ds ρ m).bk f) Q := by
  obtain ⟨ρ', m', e, h⟩ := floopR_inv (step := step) (I := I) ds 0 ρ m h0 fun j d hd ρ m hI => by
    rw [Nat.zero_add] at hI ⊢
    obtain ⟨⟨fl, ρ'⟩, m', e, e1, h⟩ := hs j d ρ m hd hI
    simp only at e1 h
    subst e1
    exact ⟨ρ', m', e, h⟩
  rw [Nat.zero_add] at h
  show W ((floopR step ds ρ m).bk f) Q
  rw [e, R.bk_ok]
  exact hq ρ' m' h
/-- a comprehension with draws -/
theorem W.cl {f : D → Mem → R (Option D)} {b N g : Nat} {P : D → Prop} : ∀ {ds : List D} {m : Mem}, Bd b (ds.length * N + g) m → (∀ d ∈ ds, ∀ f' m', Bd b (f' + N) m' → W (f d m') fun o m'' => (∃ x, o = some x ∧ P x) ∧ Bd b f' m'') →
    W (cloop f ds m) fun xs m' => xs.length = ds.length ∧ (∀ x ∈ xs, P x) ∧ Bd b g m'
  | [], m, hb, _ => ⟨[], m, rfl, rfl, by simp, by simpa using hb⟩
  | d :: ds, m, hb, h => by
    have e : (d :: ds).length * N + g = ds.length * N + g + N := by rw [List.length_cons, Nat.succ_mul]; omega
    rw [e] at hb
    obtain ⟨o, m1, e1, ⟨x, ex, px⟩, b1⟩ := h d (by simp) _ m hb
    obtain ⟨xs, m2, e2, h1, h2, h3⟩ := W.cl (ds := ds) b1 fun d' hd => h d' (by simp [hd])
    subst ex
    have e2 : compLoop f ds m1 = .ok xs m2 := e2
    refine ⟨x :: xs, m2, ?_, by simp [h1], fun y hy => ?_, h3⟩
    · show compLoop f (d :: ds) m = _
      simp only [compLoop, e1, e2, Option.toList, List.cons_append, List.nil_append]
    · rcases List.mem_cons.mp hy with z | z
      · subst z; exact px
      · exact h2 y z
/-- .. and what is gathered, turn by turn -/
theorem W.clI {f : D → Mem → R (Option D)} (I : Nat → List D → Mem → Prop) {ds : List D} {m : Mem} (h0 : I 0 [] m) (hs : ∀ j d xs m, ds[j]? = some d → I j xs m → W (f d m) fun o m => I (j + 1) (xs ++ o.toList) m) : W (cloop f ds m) fun os m => I ds.length os m := by
  obtain ⟨os, m', e, h⟩ := W.loop I (ds := ds) 0 [] _ h0 fun j d xs m hd hI => by rw [Nat.zero_add] at hI ⊢; exact hs j d xs m hd hI
  rw [Nat.zero_add, List.nil_append] at h
  exact ⟨os, m', e, h⟩
/-! ### indices -/
theorem pyIx_of {n : Nat} {i : Int} (h0 : 0 ≤ i) (h1 : i < n) : pyIx n i = some i.toNat := by
  unfold pyIx; rw [if_pos h0, if_pos h1]
theorem pyIx_neg {n : Nat} {i : Int} (h0 : i < 0) (h1 : 0 ≤ n + i) : pyIx n i = some (n + i).toNat := by
  unfold pyIx; rw [if_neg (by omega), if_pos h1]
theorem ix_sqm {α : Type} {t : Bool} {e : α → D} {xs : List α} {z : α} {i : Int} (h0 : 0 ≤ i) (h1 : i < xs.length) : ixD (sq t (xs.map e)) (.int i) = some (e (xs.getD i.toNat z)) := by
  have hi : i.toNat < xs.length := by omega
  have := ixD_sq (t := t) (xs := xs.map e) (i := i.toNat) (d := e (xs.getD i.toNat z)) (by simp [List.getElem?_eq_getElem hi, List.getD])
  rwa [Int.toNat_of_nonneg h0] at this
theorem ix_sqn {α : Type} {t : Bool} {e : α → D} {xs : List α} {z : α} {i : Int} (h0 : i < 0) (h1 : 0 ≤ xs.length + i) : ixD (sq t (xs.map e)) (.int i) = some (e (xs.getD (xs.length + i).toNat z)) := by
  have hi : (xs.length + i).toNat < xs.length := by omega
  have hp : pyIx (xs.map e).length i = some (xs.length + i).toNat := by rw [List.length_map]; exact pyIx_neg h0 h1
  have hg : (xs.map e)[(xs.length + i).toNat]? = some (e (xs.getD (xs.length + i).toNat z)) := by simp [List.getElem?_eq_getElem hi, List.getD]
  cases t <;> simp only [sq, ixD, hp, hg, Option.bind_some, if_true, if_false, Bool.false_eq_true]
theorem ix_dI {r : List Int} {i : Int} (h0 : 0 ≤ i) (h1 : i < r.length) : ixD (dI r) (.int i) = some (.int (cl r i.toNat)) := ix_sqm (t := true) h0 h1
theorem ix_lIz {r : List Int} {i : Int} (h0 : 0 ≤ i) (h1 : i < r.length) : ixD (lI r) (.int i) = some (.int (cl r i.toNat)) := ix_sqm (t := false) h0 h1
theorem ix_dP {p : List (List Int)} {i : Int} (h0 : 0 ≤ i) (h1 : i < p.length) : ixD (dP p) (.int i) = some (dI (rowP p i.toNat)) := ix_sqm (t := true) h0 h1
theorem ix_dQz {t : Bool} {p : List (List Int)} {i : Int} (h0 : 0 ≤ i) (h1 : i < p.length) : ixD (dQ t p) (.int i) = some (sq t ((rowP p i.toNat).map .int)) := ix_sqm (t := t) h0 h1
theorem ix_dP1 {p : List (List Int)} (h : p ≠ []) : ixD (dP p) (.int (-1)) = some (dI (rowP p (p.length - 1))) := by
  have hl : 0 < p.length := List.length_pos_iff.mpr h
  have := ix_sqn (t := true) (e := dI) (xs := p) (z := []) (i := -1) (by omega) (by omega)
  rwa [show ((p.length : Int) + -1).toNat = p.length - 1 by omega] at this
theorem ix_dI1 {p : List Int} (h : p ≠ []) : ixD (dI p) (.int (-1)) = some (.int (cl p (p.length - 1))) := by
  have hl : 0 < p.length := List.length_pos_iff.mpr h
  have := ix_sqn (t := true) (e := D.int) (xs := p) (z := 0) (i := -1) (by omega) (by omega)
  rwa [show ((p.length : Int) + -1).toNat = p.length - 1 by omega] at this
theorem rowP_len {w : Nat} {p : List (List Int)} (hw : ∀ r ∈ p, r.length = w) {i : Nat} (h : i < p.length) : (rowP p i).length = w := hw _ (rowP_mem h)
end G48
set_option linter.all false
set_option maxRecDepth 100000
/-! G48: what operators and built-ins give, by the kinds of their arguments. -/
namespace G48
open PySem
section
variable {xs ys : List D} {i j : Int} {b c : Bool} {s z : Str} {t u : Bool} {m : Mem} {r q : List Int} {p : List (List Int)} {d : D}
@[simp] theorem seqD_tup : seqD (.tup xs) = some xs := rfl
@[simp] theorem seqD_lst : seqD (.lst xs) = some xs := rfl
@[simp] theorem seqD_dI' : seqD (dI r) = some (r.map .int) := rfl
@[simp] theorem seqD_lI : seqD (lI r) = some (r.map .int) := rfl
@[simp] theorem seqD_dP' : seqD (dP p) = some (p.map dI) := rfl
@[simp] theorem seqD_dQ' : seqD (dQ t p) = some (p.map fun r => sq t (r.map .int)) := seqD_dQ
@[simp] theorem len_tup : b1 .len (.tup xs) = some (.int xs.length) := rfl
@[simp] theorem len_lst : b1 .len (.lst xs) = some (.int xs.length) := rfl
@[simp] theorem len_scr : b1 .len (.scr r) = some (.int r.length) := rfl
@[simp] theorem len_dI' : b1 .len (dI r) = some (.int r.length) := len_dI
@[simp] theorem len_lI : b1 .len (lI r) = some (.int r.length) := by simp [lI, b1]
@[simp] theorem len_dP' : b1 .len (dP p) = some (.int p.length) := len_dP
@[simp] theorem len_dQ' : b1 .len (dQ t p) = some (.int p.length) := len_dQ
@[simp] theorem tuple_tup : b1 .tuple (.tup xs) = some (.tup xs) := rfl
@[simp] theorem tuple_lst : b1 .tuple (.lst xs) = some (.tup xs) := rfl
@[simp] theorem tuple_dI : b1 .tuple (dI r) = some (dI r) := rfl
@[simp] theorem tuple_lI : b1 .tuple (lI r) = some (dI r) := rfl
@[simp] theorem tuple_dP : b1 .tuple (dP p) = some (dP p) := rfl
@[simp] theorem list_tup : b1 .list (.tup xs) = some (.lst xs) := rfl
@[simp] theorem list_lst : b1 .list (.lst xs) = some (.lst xs) := rfl
@[simp] theorem list_sq : b1 .list (sq t xs) = some (.lst xs) := by cases t <;> rfl
@[simp] theorem list_dI : b1 .list (dI r) = some (lI r) := rfl
@[simp] theorem list_lI : b1 .list (lI r) = some (lI r) := rfl
@[simp] theorem abs_int : b1 .abs (.int i) = some (.int (if i < 0 then -i else i)) := rfl
@[simp] theorem int_int : b1 .int (.int i) = some (.int i) := rfl
@[simp] theorem int_bl : b1 .int (.bl b) = some (.int (if b then 1 else 0)) := rfl
theorem intsD_mapI : ∀ (r : List Int), intsD (r.map .int) = some r
  | [] => rfl
  | i :: r => by simp [intsD, intsD_mapI r]
theorem intsD_mapf {α : Type} (f : α → Int) : ∀ (l : List α), intsD (l.map fun x => D.int (f x)) = some (l.map f)
  | [] => rfl
  | x :: l => by simp [intsD, intsD_mapf f l]
@[simp] theorem sum_sq : b1 .sum (sq t (r.map .int)) = some (.int r.sum) := by simp [b1, intsD_mapI]
@[simp] theorem sum_dI : b1 .sum (dI r) = some (.int r.sum) := sum_sq (t := true)
@[simp] theorem sum_lI : b1 .sum (lI r) = some (.int r.sum) := sum_sq (t := false)
@[simp] theorem sum_lst : b1 .sum (.lst (r.map .int)) = some (.int r.sum) := sum_sq (t := false)
@[simp] theorem sum_tup : b1 .sum (.tup (r.map .int)) = some (.int r.sum) := sum_sq (t := true)
theorem sum_mapf {α : Type} (f : α → Int) (l : List α) : b1 .sum (.lst (l.map fun x => D.int (f x))) = some (.int (l.map f).sum) := by simp [b1, seqD, intsD_mapf]
@[simp] theorem rev_tup : revD (.tup xs) = some (.tup xs.reverse) := rfl
@[simp] theorem rev_lst : revD (.lst xs) = some (.lst xs.reverse) := rfl
@[simp] theorem rev_dI : revD (dI r) = some (dI r.reverse) := by simp [dI, revD]
@[simp] theorem rev_dP : revD (dP p) = some (dP p.reverse) := by simp [dP, revD]
@[simp] theorem bop_add' : bop .add (.int i) (.int j) = some (.int (i + j)) := rfl
@[simp] theorem bop_sub' : bop .sub (.int i) (.int j) = some (.int (i - j)) := rfl
theorem bop_mul (h : mulOk i j = true) : bop .mul (.int i) (.int j) = some (.int (i * j)) := by simp only [bop, h, if_true]
theorem bop_addL (h : xs.length + ys.length ≤ BIG) : bop .add (.lst xs) (.lst ys) = some (.lst (xs ++ ys)) := by simp only [bop, h, if_true]
theorem bop_addT (h : xs.length + ys.length ≤ BIG) : bop .add (.tup xs) (.tup ys) = some (.tup (xs ++ ys)) := by simp only [bop, h, if_true]
theorem bop_adddI (h : r.length + q.length ≤ BIG) : bop .add (dI r) (dI q) = some (dI (r ++ q)) := by simp only [dI, bop, List.length_map, h, if_true, List.map_append]
theorem bop_adddP {p' : List (List Int)} (h : p.length + p'.length ≤ BIG) : bop .add (dP p) (dP p') = some (dP (p ++ p')) := by simp only [dP, bop, List.length_map, h, if_true, List.map_append]
theorem bop_mod (h : 0 < j) : bop .mod (.int i) (.int j) = some (.int (i % j)) := by simp only [bop, h, if_true]
@[simp] theorem cop_lt' : cop .lt (.int i) (.int j) = some (.bl (decide (i < j))) := rfl
@[simp] theorem cop_le' : cop .le (.int i) (.int j) = some (.bl (decide (i ≤ j))) := rfl
@[simp] theorem cop_gt' : cop .gt (.int i) (.int j) = some (.bl (decide (j < i))) := rfl
@[simp] theorem cop_ge' : cop .ge (.int i) (.int j) = some (.bl (decide (j ≤ i))) := rfl
@[simp] theorem cop_eqi : cop .eq (.int i) (.int j) = some (.bl (decide (i = j))) := by
  rw [cop_eq_int]; congr 2
@[simp] theorem cop_nei : cop .ne (.int i) (.int j) = some (.bl (decide (i ≠ j))) := by
  rw [cop_ne_int]; congr 2; by_cases h : i = j <;> simp [h]
@[simp] theorem cop_eqb : cop .eq (.bl b) (.bl c) = some (.bl (b == c)) := cop_eq_bl _ _
@[simp] theorem cop_neb : cop .ne (.bl b) (.bl c) = some (.bl (b != c)) := cop_ne_bl _ _
@[simp] theorem truth_non : truth .non = some false := rfl
@[simp] theorem truth_bl : truth (.bl b) = some b := rfl
@[simp] theorem truth_int : truth (.int i) = some (decide (i ≠ 0)) := rfl
@[simp] theorem truth_tup : truth (.tup xs) = some (!xs.isEmpty) := rfl
@[simp] theorem truth_lst : truth (.lst xs) = some (!xs.isEmpty) := rfl
@[simp] theorem isNon_non : isNon .non = true := rfl
@[simp] theorem isNon_bl : isNon (.bl b) = false := rfl
@[simp] theorem isNon_int : isNon (.int i) = false := rfl
@[simp] theorem isNon_str : isNon (.str s) = false := rfl
@[simp] theorem isNon_tup : isNon (.tup xs) = false := rfl
@[simp] theorem isNon_lst : isNon (.lst xs) = false := rfl
@[simp] theorem isNon_exc {k : Nat} : isNon (.exc k xs) = false := rfl
@[simp] theorem isNon_dI : isNon (dI r) = false := rfl
@[simp] theorem isNon_dP : isNon (dP p) = false := rfl
@[simp] theorem isNon_sq : isNon (sq t xs) = false := by cases t <;> rfl
@[simp] theorem bw_int {k : Nat} : below k (.int i) = true := rfl
@[simp] theorem bw_bl {k : Nat} : below k (.bl b) = true := rfl
@[simp] theorem bw_non {k : Nat} : below k .non = true := rfl
@[simp] theorem bw_str {k : Nat} : below k (.str s) = true := rfl
@[simp] theorem bw_tup {k : Nat} : below k (.tup xs) = belows k xs := rfl
@[simp] theorem bw_lst {k : Nat} : below k (.lst xs) = belows k xs := rfl
@[simp] theorem bw_dI' {k : Nat} : below k (dI r) = true := bw_dI
@[simp] theorem bw_lI' {k : Nat} : below k (lI r) = true := bw_lI
@[simp] theorem bw_dP' {k : Nat} : below k (dP p) = true := bw_dP
@[simp] theorem bw_dQ' {k : Nat} : below k (dQ t p) = true := Pu.dQ.bw
@[simp] theorem bws_nil {k : Nat} : belows k [] = true := rfl
@[simp] theorem bws_cons {k : Nat} : belows k (d :: xs) = (below k d && belows k xs) := rfl
@[simp] theorem bws_appd {k : Nat} : belows k (xs ++ ys) = (belows k xs && belows k ys) := by
  induction xs with
  | nil => simp
  | cons x xs ih => simp [ih, Bool.and_assoc]
@[simp] theorem bws_ints {k : Nat} : belows k (r.map .int) = true := ints_below
@[simp] theorem bws_dIs {k : Nat} : belows k (p.map dI) = true := bws_dI
@[simp] theorem bws_lIs {k : Nat} : belows k (p.map lI) = true := bws_lI
theorem bws_map {α : Type} {k : Nat} {f : α → D} {l : List α} (h : ∀ x ∈ l, below k (f x) = true) : belows k (l.map f) = true := belows_all fun x hx => by
  obtain ⟨y, hy, rfl⟩ := List.mem_map.mp hx
  exact h y hy
@[simp] theorem bws_mapi {α : Type} {k : Nat} {f : α → Int} {l : List α} : belows k (l.map fun x => .int (f x)) = true := bws_map fun _ _ => rfl
@[simp] theorem isin_non {ts : List Ty} : isinD .non ts = if ts.all Ty.plain then some (.bl (ts.any (isT .non))) else none := rfl
@[simp] theorem isin_bl {ts : List Ty} : isinD (.bl b) ts = if ts.all Ty.plain then some (.bl (ts.any (isT (.bl b)))) else none := rfl
@[simp] theorem isin_int {ts : List Ty} : isinD (.int i) ts = if ts.all Ty.plain then some (.bl (ts.any (isT (.int i)))) else none := rfl
@[simp] theorem isin_str {ts : List Ty} : isinD (.str s) ts = if ts.all Ty.plain then some (.bl (ts.any (isT (.str s)))) else none := rfl
@[simp] theorem isin_tup {ts : List Ty} : isinD (.tup xs) ts = if ts.all Ty.plain then some (.bl (ts.any (isT (.tup xs)))) else none := rfl
@[simp] theorem isin_lst {ts : List Ty} : isinD (.lst xs) ts = if ts.all Ty.plain then some (.bl (ts.any (isT (.lst xs)))) else none := rfl
@[simp] theorem isin_exc {k : Nat} {ts : List Ty} : isinD (.exc k xs) ts = if ts.all Ty.exc && !ts.isEmpty then some (.bl (ts.any (isT (.exc k xs)))) else none := rfl
@[simp] theorem isin_dI {ts : List Ty} : isinD (dI r) ts = isinD (.tup (r.map .int)) ts := rfl
@[simp] theorem isin_dP {ts : List Ty} : isinD (dP p) ts = isinD (.tup (p.map dI)) ts := rfl
@[simp] theorem isin_lt : isinD (sq t xs) [.list, .tuple] = some (.bl true) := by cases t <;> rfl
@[simp] theorem isin_l : isinD (sq t xs) [.list] = some (.bl (!t)) := by cases t <;> rfl
@[simp] theorem isin_t : isinD (sq t xs) [.tuple] = some (.bl t) := by cases t <;> rfl
@[simp] theorem slice_sq {lo hi : Option Int} : sliceD (sq t xs) lo hi = some (sq t (cutL xs lo hi)) := by cases t <;> rfl
@[simp] theorem slice_tup {lo hi : Option Int} : sliceD (.tup xs) lo hi = some (.tup (cutL xs lo hi)) := rfl
@[simp] theorem slice_lst {lo hi : Option Int} : sliceD (.lst xs) lo hi = some (.lst (cutL xs lo hi)) := rfl
theorem cut_map {α β : Type} (f : α → β) (l : List α) (lo hi : Option Int) : cutL (l.map f) lo hi = (cutL l lo hi).map f := by simp [cutL, List.map_take, List.map_drop]
@[simp] theorem slice_dI {lo hi : Option Int} : sliceD (dI r) lo hi = some (dI (cutL r lo hi)) := by simp [dI, cut_map]
@[simp] theorem slice_lI {lo hi : Option Int} : sliceD (lI r) lo hi = some (lI (cutL r lo hi)) := by simp [lI, cut_map]
@[simp] theorem slice_dP {lo hi : Option Int} : sliceD (dP p) lo hi = some (dP (cutL p lo hi)) := by simp [dP, cut_map]
@[simp] theorem slice_dQ {lo hi : Option Int} : sliceD (dQ t p) lo hi = some (dQ t (cutL p lo hi)) := by simp [dQ, cut_map]
theorem cut_none {α : Type} (l : List α) {i : Int} (h0 : 0 ≤ i) (h1 : i ≤ l.length) : cutL l (some i) none = l.drop i.toNat := by
  simp only [cutL, cutIx]
  rw [if_pos h0, List.take_length, Nat.min_eq_left (by omega)]
theorem cut_to {α : Type} (l : List α) {i : Int} (h0 : 0 ≤ i) (h1 : i ≤ l.length) : cutL l none (some i) = l.take i.toNat := by
  simp only [cutL, cutIx]
  rw [if_pos h0, Nat.min_eq_left (by omega), List.drop_zero]
theorem cut_mid {α : Type} (l : List α) {i j : Int} (h0 : 0 ≤ i) (h1 : i ≤ l.length) (h2 : 0 ≤ j) (h3 : j ≤ l.length) : cutL l (some i) (some j) = (l.take j.toNat).drop i.toNat := by
  simp only [cutL, cutIx]
  rw [if_pos h0, if_pos h2, Nat.min_eq_left (by omega), Nat.min_eq_left (by omega)]
theorem cut_1 {α : Type} (l : List α) : cutL l (some 1) none = l.tail := by
  cases l with
  | nil => rfl
  | cons x l => exact cut_tail (by simp)
theorem cut_m1 {α : Type} (l : List α) : cutL l none (some (-1)) = l.dropLast := by
  simp only [cutL, cutIx]
  rw [if_neg (by decide), List.drop_zero, List.dropLast_eq_take]
  congr 1; omega
theorem cut_1m1 {α : Type} (l : List α) : cutL l (some 1) (some (-1)) = l.dropLast.tail := by
  cases l with
  | nil => rfl
  | cons x l =>
    have e : ((↑(x :: l).length : Int) + -1).toNat = l.length := by simp only [List.length_cons]; omega
    have e1 : cutIx (x :: l).length (x :: l).length (some (-1)) = l.length := e
    have e2 : cutIx (x :: l).length 0 (some 1) = 1 := by
      show min (Int.toNat 1) (l.length + 1) = 1
      have : Int.toNat 1 = 1 := rfl
      omega
    unfold cutL
    rw [e1, e2, List.dropLast_eq_take, List.drop_one, List.length_cons, Nat.add_sub_cancel]
end
@[simp] theorem zipD_sq2 {t u : Bool} {xs ys : List D} : zipD [sq t xs, sq u ys] = some [xs, ys] := zipD2
@[simp] theorem zipD_tt {xs ys : List D} : zipD [.tup xs, .tup ys] = some [xs, ys] := zipD2 (t := true) (u := true)
@[simp] theorem zipD_tl {xs ys : List D} : zipD [.tup xs, .lst ys] = some [xs, ys] := zipD2 (t := true) (u := false)
@[simp] theorem zipD_lt {xs ys : List D} : zipD [.lst xs, .tup ys] = some [xs, ys] := zipD2 (t := false) (u := true)
@[simp] theorem zipD_ll {xs ys : List D} : zipD [.lst xs, .lst ys] = some [xs, ys] := zipD2 (t := false) (u := false)
/-- zip of images -/
theorem zipL_mm {α β : Type} (f : α → D) (g : β → D) (xs : List α) (ys : List β) : zipL [xs.map f, ys.map g] = (xs.zip ys).map fun p => D.tup [f p.1, g p.2] := by
  rw [zipL2, List.zip_map, List.map_map]; rfl
theorem enumL_map {α : Type} (f : α → D) : ∀ (xs : List α) (k : Nat), enumL (k : Int) (xs.map f) = (List.zip (List.range' k xs.length) xs).map fun p => D.tup [.int (p.1 : Nat), f p.2]
  | [], k => rfl
  | x :: xs, k => by
    have := enumL_map f xs (k + 1)
    simp only [Int.natCast_add, Int.cast_ofNat_Int] at this
    simp [enumL, List.range'_succ, this]
end G48
namespace G48
open PySem
/-- a loop whose slots are told by a predicate -/
theorem floop_inv {α : Type} {m : Mem} {β : Type} {step : D → QEnv → Mem → R (Fl × QEnv)} {e : α → D} {xs : List α} {ρ0 : QEnv} {f : Fl × QEnv → Mem → R β} {r : R β} (I : Nat → QEnv → Prop) (h0 : I 0 ρ0) (h : ∀ j x ρ, xs[j]? = some x → I j ρ → ∃ ρ', step (e x) ρ m = .ok (.nx, ρ') m ∧ I (j + 1) ρ') (k : ∀ ρ, I xs.length ρ → f (.nx, ρ) m = r) : (floop step (xs.map e) ρ0 m).bk f = r := by
  obtain ⟨ρ', m', e1, h1, h2⟩ := floopR_inv (step := step) (I := fun j ρ mm => I j ρ ∧ mm = m) (xs.map e) 0 ρ0 m ⟨h0, rfl⟩ fun j d hd ρ mm ⟨hI, em⟩ => by
    subst em
    rw [Nat.zero_add] at hI ⊢
    rw [List.getElem?_map] at hd
    cases q : xs[j]? with
    | none => rw [q] at hd; cases hd
    | some x =>
      rw [q] at hd
      cases hd
      obtain ⟨ρ', e1, h1⟩ := h j x ρ q hI
      exact ⟨ρ', _, e1, h1, rfl⟩
  subst h2
  rw [Nat.zero_add, List.length_map] at h1
  show (floopR step (xs.map e) ρ0 _).bk f = r
  rw [e1, R.bk_ok]
  exact k ρ' h1
end G48
namespace G48
theorem zipD_lI' {a b : List Int} : zipD [lI a, lI b] = some [a.map .int, b.map .int] := zipD_lI
end G48
namespace G48
open PySem
theorem floop_fin {α : Type} {m : Mem} {step : D → QEnv → Mem → R (Fl × QEnv)} {e : α → D} {xs : List α} {ρ0 : QEnv} {f : Fl × QEnv → Mem → R (Fl × QEnv)} {r : R D} (I : Nat → QEnv → Prop) (h0 : I 0 ρ0) (h : ∀ j x ρ, xs[j]? = some x → I j ρ → ∃ ρ', step (e x) ρ m = .ok (.nx, ρ') m ∧ I (j + 1) ρ') (k : ∀ ρ, I xs.length ρ → finQ (f (.nx, ρ) m) = r) : finQ ((floop step (xs.map e) ρ0 m).bk f) = r := by
  have : ∀ ρ, I xs.length ρ → ∃ q, f (.nx, ρ) m = q ∧ finQ q = r := fun ρ hρ => ⟨_, rfl, k ρ hρ⟩
  obtain ⟨q, hq, e1⟩ : ∃ q, (floop step (xs.map e) ρ0 m).bk f = q ∧ finQ q = r := by
    obtain ⟨ρ', m', e1, h1, h2⟩ := floopR_inv (step := step) (I := fun j ρ mm => I j ρ ∧ mm = m) (xs.map e) 0 ρ0 m ⟨h0, rfl⟩ fun j d hd ρ mm ⟨hI, em⟩ => by
      subst em
      rw [Nat.zero_add] at hI ⊢
      rw [List.getElem?_map] at hd
      cases q : xs[j]? with
      | none => rw [q] at hd; cases hd
      | some x =>
        rw [q] at hd
        cases hd
        obtain ⟨ρ', e1, h1⟩ := h j x ρ q hI
        exact ⟨ρ', _, e1, h1, rfl⟩
    subst h2
    rw [Nat.zero_add, List.length_map] at h1
    refine ⟨_, ?_, k ρ' h1⟩
    show (floopR step (xs.map e) ρ0 _).bk f = _
    rw [e1, R.bk_ok]
  rw [hq, e1]
end G48
namespace G48
open PySem
theorem zip_range_get {α : Type} {xs : List α} {i k : Nat} {pr : Nat × α} (h : (List.zip (List.range' k xs.length) xs)[i]? = some pr) : pr.1 = k + i ∧ xs[i]? = some pr.2 := by
  obtain ⟨hi, e⟩ := List.getElem?_eq_some_iff.mp h
  rw [List.getElem_zip] at e
  rw [← e]
  simp at hi
  exact ⟨by simp, by simp [List.getElem?_eq_getElem hi]⟩
theorem floop_enum {α : Type} {m : Mem} {step : D → QEnv → Mem → R (Fl × QEnv)} {e : α → D} {xs : List α} {ρ0 : QEnv} (ρ : Nat → QEnv) (h0 : ρ0 = ρ 0) (h : ∀ j x, xs[j]? = some x → step (.tup [.int (j : Nat), e x]) (ρ j) m = .ok (.nx, ρ (j + 1)) m) : floop step (enumL 0 (xs.map e)) ρ0 m = .ok (.nx, ρ xs.length) m := by
  have e0 := enumL_map e xs 0
  rw [show enumL 0 (xs.map e) = _ from e0]
  have := floop_ix (step := step) (m := m) (e := fun p : Nat × α => D.tup [.int (p.1 : Nat), e p.2]) (xs := List.zip (List.range' 0 xs.length) xs) ρ h0 fun j pr hx => by
    obtain ⟨h1, h2⟩ := zip_range_get hx
    rw [Nat.zero_add] at h1
    rw [h1]
    exact h j pr.2 h2
  rw [this]
  simp
theorem cloop_enum {α : Type} {m : Mem} {f : D → Mem → R (Option D)} {e : α → D} {xs : List α} (g : Nat → α → D) (h : ∀ j x, xs[j]? = some x → f (.tup [.int (j : Nat), e x]) m = .ok (some (g j x)) m) : cloop f (enumL 0 (xs.map e)) m = .ok ((List.zip (List.range' 0 xs.length) xs).map fun p => g p.1 p.2) m := by
  have e0 := enumL_map e xs 0
  rw [show enumL 0 (xs.map e) = _ from e0]
  refine cloop_pure (fun p : Nat × α => g p.1 p.2) fun pr hp => ?_
  obtain ⟨i, hi⟩ := List.mem_iff_getElem?.mp hp
  obtain ⟨h1, h2⟩ := zip_range_get hi
  rw [Nat.zero_add] at h1
  rw [h1]
  exact h i pr.2 h2
end G48
set_option linter.all false
set_option maxRecDepth 100000
/-! G48: equality, ranges, least and greatest. -/
namespace G48
open PySem
theorem deqs_ints : ∀ (a b : List Int), deqs (a.map .int) (b.map .int) = decide (a = b)
  | [], [] => rfl
  | [], _ :: _ => rfl
  | _ :: _, [] => rfl
  | x :: a, y :: b => by
    have ih := deqs_ints a b
    simp only [List.map_cons, deqs, deq, ih]
    by_cases h : x = y <;> by_cases h2 : a = b <;> simp [h, h2]
theorem deq_dI (a b : List Int) : deq (dI a) (dI b) = decide (a = b) := deqs_ints a b
theorem deqs_dI : ∀ (a b : List (List Int)), deqs (a.map dI) (b.map dI) = decide (a = b)
  | [], [] => rfl
  | [], _ :: _ => rfl
  | _ :: _, [] => rfl
  | x :: a, y :: b => by
    have ih := deqs_dI a b
    simp only [List.map_cons, deqs, deq_dI, ih]
    by_cases h : x = y <;> by_cases h2 : a = b <;> simp [h, h2]
theorem deq_dP (a b : List (List Int)) : deq (dP a) (dP b) = decide (a = b) := deqs_dI a b
@[simp] theorem cop_eq_dI {a b : List Int} : cop .eq (dI a) (dI b) = some (.bl (decide (a = b))) := by
  have h1 := (Pu.dI (r := a)).mono (k := 60) (by omega)
  have h2 := (Pu.dI (r := b)).mono (k := 60) (by omega)
  simp only [cop, h1.okd, h2.okd, Bool.and_self, if_true, deq_dI]
@[simp] theorem cop_ne_dI {a b : List Int} : cop .ne (dI a) (dI b) = some (.bl (!decide (a = b))) := by
  have h1 := (Pu.dI (r := a)).mono (k := 60) (by omega)
  have h2 := (Pu.dI (r := b)).mono (k := 60) (by omega)
  simp only [cop, h1.okd, h2.okd, Bool.and_self, if_true, deq_dI]
@[simp] theorem cop_eq_dP {a b : List (List Int)} : cop .eq (dP a) (dP b) = some (.bl (decide (a = b))) := by
  have h1 := (Pu.dP (p := a)).mono (k := 60) (by omega)
  have h2 := (Pu.dP (p := b)).mono (k := 60) (by omega)
  simp only [cop, h1.okd, h2.okd, Bool.and_self, if_true, deq_dP]
@[simp] theorem cop_ne_dP {a b : List (List Int)} : cop .ne (dP a) (dP b) = some (.bl (!decide (a = b))) := by
  have h1 := (Pu.dP (p := a)).mono (k := 60) (by omega)
  have h2 := (Pu.dP (p := b)).mono (k := 60) (by omega)
  simp only [cop, h1.okd, h2.okd, Bool.and_self, if_true, deq_dP]
theorem deqs_nil (xs : List D) : deqs xs [] = xs.isEmpty := by cases xs <;> rfl
theorem cop_ne_nil {n : Nat} {xs : List D} (h : ∀ x ∈ xs, Pu n x) (hn : n + 1 ≤ 60) : cop .ne (.lst xs) (.lst []) = some (.bl (!xs.isEmpty)) := by
  have h1 := (Pu.lst h).mono (k := 60) hn
  have h2 : okd 60 (.lst []) = true := rfl
  simp only [cop, h1.okd, h2, Bool.and_self, if_true, deq, deqs_nil]
theorem rng2 {a b : Int} (h : b - a ≤ BIG) (h1 : -(2 ^ 62) ≤ a) (h2 : a ≤ 2 ^ 62 - 1) (h3 : -(2 ^ 62) ≤ b) (h4 : b ≤ 2 ^ 62 - 1) : rngD [.int a, .int b] = some ((List.range (b - a).toNat).map fun (k : Nat) => D.int (a + k)) := by
  simp only [rngD]
  rw [if_pos ⟨leB_le.mpr h, leB_le.mpr (by omega), leB_le.mpr (by omega), leB_le.mpr (by omega), leB_le.mpr (by omega)⟩, rngL_map]
def mnI : List Int → Int
  | [] => 0
  | x :: xs => minI x xs
def mxI : List Int → Int
  | [] => 0
  | x :: xs => maxI x xs
theorem min_sq {t : Bool} {r : List Int} (h : r ≠ []) : b1 .min (sq t (r.map .int)) = some (.int (mnI r)) := by
  cases r with
  | nil => exact absurd rfl h
  | cons x r => cases t <;> simp [b1, intsD, intsD_mapI, minL, mnI]
theorem max_sq {t : Bool} {r : List Int} (h : r ≠ []) : b1 .max (sq t (r.map .int)) = some (.int (mxI r)) := by
  cases r with
  | nil => exact absurd rfl h
  | cons x r => cases t <;> simp [b1, intsD, intsD_mapI, maxL, mxI]
theorem min_dI {r : List Int} (h : r ≠ []) : b1 .min (dI r) = some (.int (mnI r)) := min_sq (t := true) h
theorem min_lI {r : List Int} (h : r ≠ []) : b1 .min (lI r) = some (.int (mnI r)) := min_sq (t := false) h
theorem max_dI {r : List Int} (h : r ≠ []) : b1 .max (dI r) = some (.int (mxI r)) := max_sq (t := true) h
theorem max_lI {r : List Int} (h : r ≠ []) : b1 .max (lI r) = some (.int (mxI r)) := max_sq (t := false) h
theorem minI_le (k : Int) : ∀ (a : Int) (r : List Int), k ≤ minI a r ↔ k ≤ a ∧ ∀ x ∈ r, k ≤ x
  | a, [] => by simp [minI]
  | a, b :: r => by
    rw [minI, minI_le k _ r]
    simp only [List.mem_cons, forall_eq_or_imp]
    split <;> constructor <;> intro h
    · exact ⟨by omega, h.1, h.2⟩
    · exact ⟨h.2.1, h.2.2⟩
    · exact ⟨h.1, by omega, h.2⟩
    · exact ⟨h.1, h.2.2⟩
theorem maxI_le (k : Int) : ∀ (a : Int) (r : List Int), maxI a r ≤ k ↔ a ≤ k ∧ ∀ x ∈ r, x ≤ k
  | a, [] => by simp [maxI]
  | a, b :: r => by
    rw [maxI, maxI_le k _ r]
    simp only [List.mem_cons, forall_eq_or_imp]
    split <;> constructor <;> intro h
    · exact ⟨by omega, h.1, h.2⟩
    · exact ⟨h.2.1, h.2.2⟩
    · exact ⟨h.1, by omega, h.2⟩
    · exact ⟨h.1, h.2.2⟩
theorem mnI_le {k : Int} {r : List Int} (h : r ≠ []) : k ≤ mnI r ↔ ∀ x ∈ r, k ≤ x := by
  cases r with
  | nil => exact absurd rfl h
  | cons x r => rw [mnI, minI_le]; simp
theorem mxI_le {k : Int} {r : List Int} (h : r ≠ []) : mxI r ≤ k ↔ ∀ x ∈ r, x ≤ k := by
  cases r with
  | nil => exact absurd rfl h
  | cons x r => rw [mxI, maxI_le]; simp
theorem minI_mem : ∀ (a : Int) (r : List Int), minI a r = a ∨ minI a r ∈ r
  | a, [] => .inl rfl
  | a, b :: r => by
    rw [minI]
    rcases minI_mem (if b < a then b else a) r with h | h
    · rw [h]; split
      · exact .inr (by simp)
      · exact .inl rfl
    · exact .inr (by simp [h])
theorem maxI_mem : ∀ (a : Int) (r : List Int), maxI a r = a ∨ maxI a r ∈ r
  | a, [] => .inl rfl
  | a, b :: r => by
    rw [maxI]
    rcases maxI_mem (if b > a then b else a) r with h | h
    · rw [h]; split
      · exact .inr (by simp)
      · exact .inl rfl
    · exact .inr (by simp [h])
theorem mnI_mem {r : List Int} (h : r ≠ []) : mnI r ∈ r := by
  cases r with
  | nil => exact absurd rfl h
  | cons x r => rcases minI_mem x r with q | q <;> simp [mnI, q]
theorem mxI_mem {r : List Int} (h : r ≠ []) : mxI r ∈ r := by
  cases r with
  | nil => exact absurd rfl h
  | cons x r => rcases maxI_mem x r with q | q <;> simp [mxI, q]
theorem rep_map {α β : Type} (f : α → β) (xs : List α) : ∀ n, rep (xs.map f) n = (rep xs n).map f
  | 0 => rfl
  | n + 1 => by simp [rep, rep_map f xs n]
theorem rep_one {α : Type} (x : α) : ∀ n, rep [x] n = List.replicate n x
  | 0 => rfl
  | n + 1 => by simp [rep, rep_one x n, List.replicate_succ]
/-- lists by their places -/
theorem map_getD {α β : Type} (xs : List α) (z : α) (f : α → β) : (List.range xs.length).map (fun i => f (xs.getD i z)) = xs.map f := by
  have := congrArg (List.map f) (map_range_get xs z)
  rwa [List.map_map] at this
theorem zipWith_range {α β γ : Type} (f : α → β → γ) (xs : List α) (ys : List β) (a : α) (b : β) : List.zipWith f xs ys = (List.range (min xs.length ys.length)).map fun i => f (xs.getD i a) (ys.getD i b) := by
  apply List.ext_getElem
  · simp
  · intro i h1 h2
    simp at h1
    have h3 : i < xs.length := by omega
    have h4 : i < ys.length := by omega
    simp [List.getD, List.getElem?_eq_getElem h3, List.getElem?_eq_getElem h4]
theorem tail_getD {α : Type} (xs : List α) (i : Nat) (z : α) : xs.tail.getD i z = xs.getD (i + 1) z := by cases xs <;> simp [List.getD]
theorem zipWith_getD {f : Int → Int → Int} {a b : List Int} {i : Nat} (h1 : i < a.length) (h2 : i < b.length) : cl (List.zipWith f a b) i = f (cl a i) (cl b i) := by
  simp [cl, List.getD, List.getElem?_zipWith, List.getElem?_eq_getElem h1, List.getElem?_eq_getElem h2]
end G48
namespace G48
open PySem
/-- the numbers below n, not looked into -/
def rgN (n : Nat) : List D := (List.range n).map fun (k : Nat) => D.int k
theorem rgN_ok {n : Nat} (h : n ≤ BIG) : rngD [.int (n : Int)] = some (rgN n) := rng_nat h
@[simp] theorem rgN_len {n : Nat} : (rgN n).length = n := by simp [rgN]
theorem rgN_get {n j : Nat} {d : D} (h : (rgN n)[j]? = some d) : j < n ∧ d = .int j := mem_range_map h
theorem rg2 : rngD [.int 2] = some (rgN 2) := rgN_ok (n := 2) (by decide)
theorem rg3 : rngD [.int 3] = some (rgN 3) := rgN_ok (n := 3) (by decide)
theorem rg4 : rngD [.int 4] = some (rgN 4) := rgN_ok (n := 4) (by decide)
theorem rg5 : rngD [.int 5] = some (rgN 5) := rgN_ok (n := 5) (by decide)
theorem rg6 : rngD [.int 6] = some (rgN 6) := rgN_ok (n := 6) (by decide)
theorem rg8 : rngD [.int 8] = some (rgN 8) := rgN_ok (n := 8) (by decide)
theorem rg10 : rngD [.int 10] = some (rgN 10) := rgN_ok (n := 10) (by decide)
theorem rg12 : rngD [.int 12] = some (rgN 12) := rgN_ok (n := 12) (by decide)
theorem rg20 : rngD [.int 20] = some (rgN 20) := rgN_ok (n := 20) (by decide)
/-- cells that hold no cells -/
def PureM (m : Mem) : Prop := ∀ (n : Nat) (xs : List D), m[n]? = some (some (.lst xs)) → belows 0 xs = true
theorem PureM.push {m : Mem} {c : Option Cel} (h : PureM m) (hc : ∀ xs, c = some (.lst xs) → belows 0 xs = true) : PureM (m ++ [c]) := fun n xs e => by
  by_cases hn : n < m.length
  · rw [List.getElem?_append_left hn] at e; exact h n xs e
  · rw [List.getElem?_append_right (by omega)] at e
    have hl := (List.getElem?_eq_some_iff.mp e).1
    simp at hl
    have : n - m.length = 0 := by omega
    rw [this] at e
    simp at e
    exact hc xs e
theorem callQ_W {T : List Fn} {wf n i : Nat} {ex : Orc} {ds : List D} {m : Mem} {Q : D → Mem → Prop} (hx : XS T wf ex m.length) (hm : PureM m) (hb : belows m.length ds = true) (h : W (callQ T wf ex n i ds m) Q) : W (callF T wf n i ds m) fun v m' => Q v m' ∧ PureM m' ∧ m'.length = m.length := by
  obtain ⟨d, m', e, q⟩ := h
  have := callQ_ok hx n i ds m [] hb ⟨rfl, hm⟩
  rw [e] at this
  obtain ⟨o, v, e2, e1, _⟩ := this
  rw [e1] at e2
  exact ⟨d, m', by simpa using e2, q, o.2, o.1⟩
theorem XS_none {T : List Fn} {wf L : Nat} : XS T wf (fun _ => none) L := fun i g h => by cases h
end G48
namespace G48
open PySem
theorem subI_addI : ∀ {a s : List Int}, a.length = s.length → subI (addI a s) a = s
  | [], [], _ => rfl
  | [], _ :: _, h => by simp at h
  | _ :: _, [], h => by simp at h
  | x :: a, y :: s, h => by
    have := subI_addI (a := a) (s := s) (by simpa using h)
    simp only [subI, addI, List.zipWith_cons_cons] at this ⊢
    rw [this]
    congr 1
    omega
theorem difI_runI : ∀ (r : List Int) (c : Int), difI (runI c r) = r
  | [], c => rfl
  | x :: r, c => by
    have := difI_runI r (c + x)
    cases r with
    | nil => simp [runI, difI]; omega
    | cons y r =>
      simp only [runI, difI, List.tail_cons, List.zipWith_cons_cons] at this ⊢
      rw [this]
      congr 1
      omega
theorem difP_corFrom {w : Nat} : ∀ {p : List (List Int)} {a : List Int}, a.length = w + 1 → (∀ r ∈ p, r.length = w) → difP (corFrom a p) = p
  | [], a, _, _ => rfl
  | r :: p, a, ha, hw => by
    have hr : r.length = w := hw r (by simp)
    have hb : (addI a (runI 0 r)).length = w + 1 := by rw [addI_len (by rw [runI_len, ha, hr]), ha]
    have ih := difP_corFrom (p := p) hb fun q hq => hw q (by simp [hq])
    obtain ⟨c, rest, e⟩ : ∃ c rest, corFrom (addI a (runI 0 r)) p = c :: rest ∧ c = addI a (runI 0 r) := by cases p <;> exact ⟨_, _, rfl, rfl⟩
    show difP (a :: corFrom (addI a (runI 0 r)) p) = r :: p
    rw [e.1] at ih ⊢
    have : difP (a :: c :: rest) = difI (subI c a) :: difP (c :: rest) := by simp [difP]
    rw [this, ih, e.2, subI_addI (by rw [runI_len, ha, hr]), difI_runI]
theorem poD_cor {w : Nat} {p : List (List Int)} (hw : ∀ r ∈ p, r.length = w) (h0 : ∀ r ∈ p, ∀ x ∈ r, 0 ≤ x) : poD (corP w p) = dP p := by
  have e1 : (rowP (corP w p) 0).any (fun x => !(x == 0)) = false := by
    have : rowP (corP w p) 0 = List.replicate (w + 1) 0 := by cases p <;> rfl
    rw [this]; simp
  have e2 : (corP w p).any (fun r => !(cl r 0 == 0)) = false := by
    rw [List.any_eq_false]
    intro r hr
    have := corFrom_head (p := p) (a := List.replicate (w + 1) 0) (by simp [List.replicate_succ]) r hr
    cases r with
    | nil => cases this
    | cons x r => simp at this; subst this; simp [cl]
  have e3 : difP (corP w p) = p := difP_corFrom (by simp) hw
  unfold poD
  rw [e1, e2, e3]
  have e4 : p.all (fun r => r.all fun x => decide (0 ≤ x)) = true := by
    rw [List.all_eq_true]
    intro r hr
    rw [List.all_eq_true]
    intro x hx
    exact decide_eq_true (h0 r hr x hx)
  rw [e4]; rfl
theorem Pu.poD {q : List (List Int)} : Pu 2 (poD q) := by
  unfold G48.poD
  split
  · exact .non
  · split
    · exact Pu.dP
    · exact .non
theorem bop_addI1 {r : List Int} {z : Int} (h : r.length + 1 ≤ BIG) : bop .add (dI r) (.tup [.int z]) = some (dI (r ++ [z])) := bop_adddI (q := [z]) (by simpa using h)
theorem bop_addP1 {q : List (List Int)} {r : List Int} (h : q.length + 1 ≤ BIG) : bop .add (dP q) (.tup [dI r]) = some (dP (q ++ [r])) := bop_adddP (p' := [r]) (by simpa using h)
theorem mul_two {d : D} : bop .mul (.lst [d]) (.int 2) = some (.lst [d, d]) := rfl
end G48
namespace G48
def okTrueN : R D → Bool
  | .ok (.bl true) [] => true
  | _ => false
theorem okTrueN_ok {r : R D} (h : okTrueN r = true) : r = .ok (.bl true) [] := by
  unfold okTrueN at h
  split at h
  · rfl
  · cases h
end G48
set_option linter.all false
set_option maxRecDepth 100000
/-! G48: things of all kinds. -/
namespace G48
open PySem
def isNumD : D → Bool
  | .int _ => true
  | _ => false
def natD : D → Bool
  | .int i => decide (0 ≤ i)
  | _ => false
def lenT : D → Nat
  | .tup xs => xs.length
  | .lst xs => xs.length
  | _ => 0
def isRowD : D → Bool
  | .tup xs => !xs.isEmpty && xs.all natD
  | _ => false
def isPlanD : D → Bool
  | .tup xs => !xs.isEmpty && (xs.all isRowD && xs.all fun r => decide (lenT r = lenT (xs.headD .non)))
  | _ => false
theorem srtS_one (x : Int) (r : List Int) : (srtS (x :: r)).length = 1 ↔ ∀ y ∈ r, y = x := by
  constructor
  · intro h y hy
    obtain ⟨z, hz⟩ := List.length_eq_one_iff.mp h
    have h1 := (srtS_mem x (x :: r)).mpr (by simp)
    have h2 := (srtS_mem y (x :: r)).mpr (by simp [hy])
    rw [hz] at h1 h2
    simp at h1 h2
    rw [h1, h2]
  · intro h
    have : srtS (x :: r) = [x] := strict_unique (srtS_up _) (by simp) fun k => by
      rw [srtS_mem]
      simp only [List.mem_cons, List.not_mem_nil, or_false]
      exact ⟨fun z => z.elim id (h k), .inl⟩
    rw [this]; rfl
/-- data of a depth, no list of which is longer than n -/
inductive Ps (n : Nat) : Nat → D → Prop
  | non {k : Nat} : Ps n k .non
  | bl {k : Nat} {b : Bool} : Ps n k (.bl b)
  | int {k : Nat} {i : Int} : Ps n k (.int i)
  | str {k : Nat} {s : Str} : Ps n k (.str s)
  | tup {k : Nat} {xs : List D} : xs.length ≤ n → (∀ x ∈ xs, Ps n k x) → Ps n (k + 1) (.tup xs)
  | lst {k : Nat} {xs : List D} : xs.length ≤ n → (∀ x ∈ xs, Ps n k x) → Ps n (k + 1) (.lst xs)
theorem Ps.pu {n k : Nat} {d : D} (h : Ps n k d) : Pu k d := by
  induction h with
  | non => exact .non
  | bl => exact .bl
  | int => exact .int
  | str => exact .str
  | tup _ _ ih => exact .tup ih
  | lst _ _ ih => exact .lst ih
theorem Ps.mono {n n' k k' : Nat} {d : D} (h : Ps n k d) (hn : n ≤ n') (hk : k ≤ k') : Ps n' k' d := by
  induction h generalizing k' with
  | non => exact .non
  | bl => exact .bl
  | int => exact .int
  | str => exact .str
  | tup hl _ ih =>
    cases k' with
    | zero => omega
    | succ k' => exact .tup (by omega) fun x hx => ih x hx (by omega)
  | lst hl _ ih =>
    cases k' with
    | zero => omega
    | succ k' => exact .lst (by omega) fun x hx => ih x hx (by omega)
theorem Ps.dI {n : Nat} {r : List Int} (h : r.length ≤ n) : Ps n 1 (dI r) := .tup (by simpa using h) fun x hx => by
  obtain ⟨i, _, rfl⟩ := List.mem_map.mp hx
  exact .int
theorem Ps.dP {n : Nat} {p : List (List Int)} (h : p.length ≤ n) (hr : ∀ r ∈ p, r.length ≤ n) : Ps n 2 (dP p) := .tup (by simpa using h) fun x hx => by
  obtain ⟨r, hr', rfl⟩ := List.mem_map.mp hx
  exact Ps.dI (hr r hr')
theorem deqT_nil (xs : List D) : deq (.tup xs) (.tup []) = xs.isEmpty := by cases xs <;> rfl
theorem cop_eq_nilT {n : Nat} {d : D} (h : Pu n d) (hn : n ≤ 60) : cop .eq d (.tup []) = some (.bl (deq d (.tup []))) := by
  have h1 := (h.mono hn).okd
  have h2 : okd 60 (.tup []) = true := rfl
  simp only [cop, h1, h2, Bool.and_self, if_true]
theorem cop_ne_nilT {n : Nat} {d : D} (h : Pu n d) (hn : n ≤ 60) : cop .ne d (.tup []) = some (.bl (!deq d (.tup []))) := by
  have h1 := (h.mono hn).okd
  have h2 : okd 60 (.tup []) = true := rfl
  simp only [cop, h1, h2, Bool.and_self, if_true]
/-- a loop that may end early with False -/
theorem floop_all {α : Type} {m : Mem} {step : D → QEnv → Mem → R (Fl × QEnv)} {e : α → D} {ρ : QEnv} {f : Fl × QEnv → Mem → R (Fl × QEnv)} {d : D} (P : α → Bool) : ∀ {xs : List α}, (∀ x ∈ xs, (P x = true → step (e x) ρ m = .ok (.nx, ρ) m) ∧ (P x = false → ∃ ρ', step (e x) ρ m = .ok (.rt d, ρ') m)) → (∀ ρ', f (.rt d, ρ') m = .ok (.rt d, ρ') m) →
    finQ ((floop step (xs.map e) ρ m).bk f) = if xs.all P then finQ (f (.nx, ρ) m) else .ok d m
  | [], _, _ => by simp [floop, floopR, R.bk, R.bind]
  | x :: xs, h, hf => by
    have ih := floop_all (xs := xs) P (fun y hy => h y (by simp [hy])) hf
    obtain ⟨h1, h2⟩ := h x (by simp)
    rw [List.map_cons, List.all_cons]
    cases hp : P x with
    | true =>
      have e1 : floop step (e x :: xs.map e) ρ m = floop step (xs.map e) ρ m := by
        show floopR step (e x :: xs.map e) ρ m = floopR step (xs.map e) ρ m
        simp only [floopR, h1 hp, R.bk_ok]
      rw [e1, ih, Bool.true_and]
    | false =>
      obtain ⟨ρ', e2⟩ := h2 hp
      have e1 : floop step (e x :: xs.map e) ρ m = .ok (.rt d, ρ') m := by
        show floopR step (e x :: xs.map e) ρ m = _
        simp only [floopR, e2, R.bk_ok]
      rw [e1, R.bk_ok, hf]
      simp
end G48
namespace G48
open PySem
theorem floop_first {m : Mem} {step : D → QEnv → Mem → R (Fl × QEnv)} {x : D} {xs : List D} {ρ ρ' : QEnv} {d : D} (h : step x ρ m = .ok (.rt d, ρ') m) : floop step (x :: xs) ρ m = .ok (.rt d, ρ') m := by
  show floopR step (x :: xs) ρ m = _
  simp only [floopR, h, R.bk_ok]
theorem cloop_filterD {m : Mem} {f : D → Mem → R (Option D)} {ds : List D} (g : D → Option D) (h : ∀ d ∈ ds, f d m = .ok (g d) m) : cloop f ds m = .ok (ds.filterMap g) m := by
  have := cloop_filter (f := f) (m := m) (e := id) (xs := ds) g h
  rwa [List.map_id] at this
theorem floop_allD {m : Mem} {step : D → QEnv → Mem → R (Fl × QEnv)} {ρ : QEnv} {f : Fl × QEnv → Mem → R (Fl × QEnv)} {d : D} (P : D → Bool) {xs : List D} (h : ∀ x ∈ xs, (P x = true → step x ρ m = .ok (.nx, ρ) m) ∧ (P x = false → ∃ ρ', step x ρ m = .ok (.rt d, ρ') m)) (hf : ∀ ρ', f (.rt d, ρ') m = .ok (.rt d, ρ') m) :
    finQ ((floop step xs ρ m).bk f) = if xs.all P then finQ (f (.nx, ρ) m) else .ok d m := by
  have := floop_all (e := id) (xs := xs) P h hf
  rwa [List.map_id] at this
theorem filter_nat (ys : List D) : (ys.filterMap fun x => if natD x then none else some x).isEmpty = ys.all natD := by
  induction ys with
  | nil => rfl
  | cons y ys ih =>
    rw [List.filterMap_cons, List.all_cons]
    cases h : natD y with
    | true => simpa using ih
    | false => simp
end G48
namespace G48
open PySem
theorem cut_len {α : Type} (xs : List α) (lo hi : Option Int) : (cutL xs lo hi).length ≤ xs.length := by
  simp only [cutL, List.length_drop, List.length_take]; omega
theorem mul_tup2 {xs : List D} (h : xs.length ≤ 1000) : bop .mul (.tup xs) (.int 2) = some (.tup (xs ++ xs)) := by
  have h1 : leB 2 1000 = true := by decide
  have h2 : Int.toNat 2 = 2 := rfl
  simp only [bop, h1, h, h2, rep, List.append_nil]
  rfl
theorem Ps.cut {n k : Nat} {xs : List D} (hl : xs.length ≤ n) (hx : ∀ x ∈ xs, Ps n k x) (lo hi : Option Int) : Ps n (k + 1) (.tup (cutL xs lo hi)) := .tup (Nat.le_trans (cut_len xs lo hi) hl) fun x h => hx x (mem_cut h)
/-- what stands for another value -/
def poolD : List D := [.non, .bl true, .bl false, .int 0, .int 1, .int (-1), .str "", .str "1", .tup [], .lst [], .tup [.int 0], .tup [.int 1, .int 2], .tup [.tup [.int 1]], .int 100000000000000000000000000000000000000000000000000]
theorem poolD_ps {n k : Nat} (hn : 2 ≤ n) (hk : 2 ≤ k) : ∀ v ∈ poolD, Ps n k v := by
  intro v hv
  have key : Ps 2 2 v := by
    simp only [poolD, List.mem_cons, List.not_mem_nil, or_false] at hv
    rcases hv with rfl | rfl | rfl | rfl | rfl | rfl | rfl | rfl | rfl | rfl | rfl | rfl | rfl | rfl
    · exact .non
    · exact .bl
    · exact .bl
    · exact .int
    · exact .int
    · exact .int
    · exact .str
    · exact .str
    · exact .tup (by simp) (by simp)
    · exact .lst (by simp) (by simp)
    · exact .tup (by simp) fun x hx => by simp at hx; subst hx; exact .int
    · exact .tup (by simp) fun x hx => by simp at hx; rcases hx with rfl | rfl <;> exact .int
    · exact .tup (by simp) fun x hx => by simp at hx; subst hx; exact .tup (by simp) fun y hy => by simp at hy; subst hy; exact .int
    · exact .int
  exact key.mono hn hk
end G48
set_option linter.all false
set_option maxRecDepth 100000
set_option maxHeartbeats 400000
/-! G48: rows that change, held by cells behind the memory (for runs by callF). -/
namespace G48
open PySem
/-- one number of a table is changed by v -/
def addQ (q : List (List Int)) (a t : Nat) (v : Int) : List (List Int) := q.set a ((rowP q a).set t (cl (rowP q a) t + v))
/-- memory m, what lies behind it, and the rows' own cells -/
def MM (m X : Mem) (q : List (List Int)) : Mem := m ++ (X ++ none :: q.map fun r => some (.lst (r.map .int)))
def cellsL (base n : Nat) : List D := (List.range n).map fun i => D.cell (base + i)
theorem MM_get {m X : Mem} {q : List (List Int)} {i : Nat} (h : i < q.length) : (MM m X q)[m.length + X.length + 1 + i]? = some (some (.lst ((rowP q i).map .int))) := by
  unfold MM
  rw [List.getElem?_append_right (by omega), List.getElem?_append_right (by omega)]
  rw [show m.length + X.length + 1 + i - m.length - X.length = i + 1 by omega, List.getElem?_cons_succ, List.getElem?_map, List.getElem?_eq_getElem h]
  simp [rowP, List.getD, List.getElem?_eq_getElem h]
theorem MM_set {m X : Mem} {q : List (List Int)} {i : Nat} {r : List Int} (h : i < q.length) : (MM m X q).set (m.length + X.length + 1 + i) (some (.lst (r.map .int))) = MM m X (q.set i r) := by
  unfold MM
  rw [List.set_append_right _ _ (by omega), List.set_append_right _ _ (by omega)]
  rw [show m.length + X.length + 1 + i - m.length - X.length = i + 1 by omega, List.set_cons_succ]
  congr 3
  rw [List.map_set]
theorem cellsL_ix {base n : Nat} {i : Nat} (h : i < n) : ixD (.lst (cellsL base n)) (.int (i : Int)) = some (.cell (base + i)) := ixD_lst (by simp [cellsL, h])
theorem addQ_len {q : List (List Int)} {a t : Nat} {v : Int} : (addQ q a t v).length = q.length := by simp [addQ]
theorem rowP_set {q : List (List Int)} {a i : Nat} {r : List Int} (ha : a < q.length) : rowP (q.set a r) i = if a = i then r else rowP q i := by
  unfold rowP
  by_cases h : a = i
  · subst h; simp [List.getD, ha]
  · rw [if_neg h]; simp [List.getD, List.getElem?_set_ne h]
theorem cl_set {r : List Int} {t j : Nat} {v : Int} (ht : t < r.length) : cl (r.set t v) j = if t = j then v else cl r j := by
  unfold cl
  by_cases h : t = j
  · subst h; simp [List.getD, ht]
  · rw [if_neg h]; simp [List.getD, List.getElem?_set_ne h]
theorem addQ_row {q : List (List Int)} {a t i : Nat} {v : Int} (ha : a < q.length) : rowP (addQ q a t v) i = if a = i then (rowP q a).set t (cl (rowP q a) t + v) else rowP q i := rowP_set ha
theorem addQ_rect {w : Nat} {q : List (List Int)} {a t : Nat} {v : Int} (ha : a < q.length) (h : ∀ r ∈ q, r.length = w) : ∀ r ∈ addQ q a t v, r.length = w := fun r hr => by
  rcases List.mem_or_eq_of_mem_set hr with h1 | h1
  · exact h r h1
  · rw [h1, List.length_set]; exact h _ (rowP_mem ha)
theorem addQ_cell {w : Nat} {q : List (List Int)} {a t i j : Nat} {v : Int} (ha : a < q.length) (h : ∀ r ∈ q, r.length = w) (ht : t < w) : cl (rowP (addQ q a t v) i) j = cl (rowP q i) j + (if a = i ∧ t = j then v else 0) := by
  rw [addQ_row ha]
  have hl : (rowP q a).length = w := h _ (rowP_mem ha)
  by_cases h1 : a = i
  · subst h1
    rw [if_pos rfl, cl_set (by omega)]
    by_cases h2 : t = j
    · subst h2; simp
    · simp [h2]
  · simp [h1]
end G48
namespace G48
open PySem
theorem sum_set : ∀ {r : List Int} {t : Nat} {v : Int}, t < r.length → (r.set t v).sum = r.sum - cl r t + v
  | [], t, v, h => by simp at h
  | x :: r, 0, v, _ => by simp [cl]; omega
  | x :: r, t + 1, v, h => by
    have := sum_set (r := r) (t := t) (v := v) (by simpa using h)
    simp only [List.set_cons_succ, List.sum_cons, this]
    have : cl (x :: r) (t + 1) = cl r t := by simp [cl]
    omega
/-- the sum of a column -/
def colS (q : List (List Int)) (j : Nat) : Int := (q.map fun r => cl r j).sum
theorem addQ_rowS {w : Nat} {q : List (List Int)} {a t i : Nat} {v : Int} (ha : a < q.length) (h : ∀ r ∈ q, r.length = w) (ht : t < w) : (rowP (addQ q a t v) i).sum = (rowP q i).sum + (if a = i then v else 0) := by
  rw [addQ_row ha]
  by_cases h1 : a = i
  · subst h1
    rw [if_pos rfl, if_pos rfl, sum_set (by rw [h _ (rowP_mem ha)]; exact ht)]
    omega
  · simp [h1]
theorem addQ_colS {w : Nat} {q : List (List Int)} {a t j : Nat} {v : Int} (ha : a < q.length) (h : ∀ r ∈ q, r.length = w) (ht : t < w) : colS (addQ q a t v) j = colS q j + (if t = j then v else 0) := by
  have hl : (rowP q a).length = w := h _ (rowP_mem ha)
  unfold colS addQ
  have e : (q.set a ((rowP q a).set t (cl (rowP q a) t + v))).map (fun r => cl r j) = (q.map fun r => cl r j).set a (cl ((rowP q a).set t (cl (rowP q a) t + v)) j) := List.map_set ..
  rw [e, sum_set (by simpa using ha), cl_set (by omega)]
  have : cl (q.map fun r => cl r j) a = cl (rowP q a) j := by
    simp [cl, rowP, List.getD, List.getElem?_map, List.getElem?_eq_getElem ha]
  rw [this]
  by_cases h1 : t = j
  · subst h1; simp; omega
  · simp [h1]
theorem pos_of_cl {w : Nat} {q : List (List Int)} (h : ∀ r ∈ q, r.length = w) (hp : ∀ i j, i < q.length → j < w → 0 ≤ cl (rowP q i) j) : ∀ r ∈ q, ∀ x ∈ r, 0 ≤ x := fun r hr x hx => by
  obtain ⟨i, hi, rfl⟩ := List.mem_iff_getElem.mp hr
  obtain ⟨j, hj, rfl⟩ := List.mem_iff_getElem.mp hx
  have := hp i j hi (by rw [← h _ hr]; exact hj)
  simpa [cl, rowP, List.getD, List.getElem?_eq_getElem hi, List.getElem?_eq_getElem hj] using this
theorem cl_of_pos {w : Nat} {q : List (List Int)} (h : ∀ r ∈ q, r.length = w) (hp : ∀ r ∈ q, ∀ x ∈ r, 0 ≤ x) {i j : Nat} (hi : i < q.length) (hj : j < w) : 0 ≤ cl (rowP q i) j := by
  have h1 := rowP_mem hi
  have h2 : j < (rowP q i).length := by rw [h _ h1]; exact hj
  refine hp _ h1 _ ?_
  simp [cl, List.getD, List.getElem?_eq_getElem h2]
/-- a table with the same sums, no number below 0 -/
structure Mate (w : Nat) (p q : List (List Int)) : Prop where
  len : q.length = p.length
  rect : ∀ r ∈ q, r.length = w
  pos : ∀ r ∈ q, ∀ x ∈ r, 0 ≤ x
  row : ∀ i, (rowP q i).sum = (rowP p i).sum
  col : ∀ j, colS q j = colS p j
theorem Mate.refl {w : Nat} {p : List (List Int)} (h : ∀ r ∈ p, r.length = w) (hp : ∀ r ∈ p, ∀ x ∈ r, 0 ≤ x) : Mate w p p := ⟨rfl, h, hp, fun _ => rfl, fun _ => rfl⟩
theorem Mate.trans {w : Nat} {p q s : List (List Int)} (h : Mate w p q) (k : Mate w q s) : Mate w p s := ⟨k.len.trans h.len, k.rect, k.pos, fun i => (k.row i).trans (h.row i), fun j => (k.col j).trans (h.col j)⟩
/-- some loaves change their shops -/
theorem Mate.shift {w : Nat} {q : List (List Int)} {i k j l : Nat} {v : Int} (h : ∀ r ∈ q, r.length = w) (hp : ∀ r ∈ q, ∀ x ∈ r, 0 ≤ x) (hi : i < q.length) (hk : k < q.length) (hj : j < w) (hl : l < w) (hik : i ≠ k) (hjl : j ≠ l) (hv : 0 ≤ v) (h1 : v ≤ cl (rowP q i) l) (h2 : v ≤ cl (rowP q k) j) :
    Mate w q (addQ (addQ (addQ (addQ q i l (-1 * v)) k j (-1 * v)) i j (1 * v)) k l (1 * v)) := by
  have r1 := addQ_rect (t := l) (v := -1 * v) hi h
  have a1 : (addQ q i l (-1 * v)).length = q.length := addQ_len
  generalize e1 : addQ q i l (-1 * v) = q1 at r1 a1 ⊢
  have r2 := addQ_rect (a := k) (t := j) (v := -1 * v) (by omega) r1
  have a2 : (addQ q1 k j (-1 * v)).length = q.length := addQ_len.trans a1
  generalize e2 : addQ q1 k j (-1 * v) = q2 at r2 a2 ⊢
  have r3 := addQ_rect (a := i) (t := j) (v := 1 * v) (by omega) r2
  have a3 : (addQ q2 i j (1 * v)).length = q.length := addQ_len.trans a2
  generalize e3 : addQ q2 i j (1 * v) = q3 at r3 a3 ⊢
  have r4 := addQ_rect (a := k) (t := l) (v := 1 * v) (by omega) r3
  refine ⟨addQ_len.trans a3, r4, pos_of_cl r4 fun x y hx hy => ?_, fun x => ?_, fun y => ?_⟩
  · rw [addQ_len, a3] at hx
    rw [addQ_cell (by omega) r3 hl, ← e3, addQ_cell (by omega) r2 hj, ← e2, addQ_cell (by omega) r1 hj, ← e1, addQ_cell hi h hl]
    have := cl_of_pos h hp hx hy
    by_cases x1 : i = x <;> by_cases x2 : k = x <;> by_cases y1 : j = y <;> by_cases y2 : l = y <;> simp only [x1, x2, y1, y2, and_true, true_and, and_self, if_true, if_false, and_false, false_and] <;> first | omega | skip
    all_goals (subst_vars; first | omega | (simp_all; omega))
  · rw [addQ_rowS (by omega) r3 hl, ← e3, addQ_rowS (by omega) r2 hj, ← e2, addQ_rowS (by omega) r1 hj, ← e1, addQ_rowS hi h hl]
    by_cases x1 : i = x <;> by_cases x2 : k = x <;> simp only [x1, x2, if_true, if_false] <;> omega
  · rw [addQ_colS (by omega) r3 hl, ← e3, addQ_colS (by omega) r2 hj, ← e2, addQ_colS (by omega) r1 hj, ← e1, addQ_colS hi h hl]
    by_cases y1 : j = y <;> by_cases y2 : l = y <;> simp only [y1, y2, if_true, if_false] <;> omega
theorem forLoop_nx {step : D → Env → Mem → R (Fl × Env)} {x : D} {xs : List D} {ρ ρ' : Env} {m m' : Mem} (h : step x ρ m = .ok (.nx, ρ') m') : forLoop step (x :: xs) ρ m = forLoop step xs ρ' m' := by
  rw [forLoop, h, R.bind_ok]
end G48
set_option linter.all false
set_option maxRecDepth 100000
namespace G48
open PySem
/-! tolls, roads, prices -/
def absI (i : Int) : Int := if i < 0 then -i else i
theorem abs_absI {i : Int} : b1 .abs (.int i) = some (.int (absI i)) := rfl
theorem absI_nat {i : Int} : (absI i).natAbs = i.natAbs := by unfold absI; split <;> omega
def tollP (s : Int) (bs : List (Int × Int)) (w : Int) : Int := s * w * w + (bs.map fun z => z.2 * absI (w - z.1)).sum
def prD (t : Bool) (s : Int) (bs : List (Int × Int)) : D := sq t [.int s, sq t (bs.map fun z => sq t [.int z.1, .int z.2])]
def rbP (s : Int) (bs : List (Int × Int)) (b : List Int) (g : Int) (row : List Int) : Int := (List.zipWith (fun e k => k * tollP s bs (e - g)) b row).sum
def billP (s : Int) (bs : List (Int × Int)) (a b : List Int) (p : List (List Int)) : Int := (List.zipWith (fun g row => rbP s bs b g row) a p).sum
structure PrOk (s : Int) (bs : List (Int × Int)) : Prop where
  sq : s.natAbs ≤ 1000
  len : bs.length ≤ 60
  wh : ∀ z ∈ bs, z.1.natAbs ≤ 1000000
  wt : ∀ z ∈ bs, z.2.natAbs ≤ 1000
  nn : 0 ≤ s
  wn : ∀ z ∈ bs, 0 ≤ z.2
def RdOk (r : List Int) : Prop := ∀ x ∈ r, x.natAbs ≤ 1000000
theorem mulOk_r {a b : Int} (h : b.natAbs < 2 ^ 64) : mulOk a b = true := by simp [mulOk, h]
theorem mulOk_l {a b : Int} (h : a.natAbs < 2 ^ 64) : mulOk a b = true := by simp [mulOk, h]
theorem sum_small {k : Nat} : ∀ {r : List Int}, (∀ x ∈ r, x.natAbs ≤ k) → r.sum.natAbs ≤ r.length * k
  | [], _ => by simp
  | a :: r, h => by
    have i := sum_small (r := r) fun x hx => h x (by simp [hx])
    have ha := h a (by simp)
    rw [List.sum_cons, List.length_cons, Nat.succ_mul]
    omega
theorem tollP_small {s : Int} {bs : List (Int × Int)} {w : Int} (h : PrOk s bs) (hw : w.natAbs ≤ 2000000) : (tollP s bs w).natAbs < 2 ^ 64 := by
  unfold tollP
  have h1 : (s * w * w).natAbs ≤ 1000 * 2000000 * 2000000 := by
    rw [Int.natAbs_mul, Int.natAbs_mul]
    exact Nat.mul_le_mul (Nat.mul_le_mul h.sq hw) hw
  have h2 := sum_small (k := 1000 * 3000000) (r := bs.map fun z => z.2 * absI (w - z.1)) fun x hx => by
    obtain ⟨z, hz, rfl⟩ := List.mem_map.1 hx
    rw [Int.natAbs_mul, absI_nat]
    have := h.wh z hz
    exact Nat.mul_le_mul (h.wt z hz) (by omega)
  rw [List.length_map] at h2
  have h3 : bs.length * (1000 * 3000000) ≤ 60 * (1000 * 3000000) := Nat.mul_le_mul_right _ h.len
  omega
theorem zipWith_take_succ {α β γ : Type} (f : α → β → γ) {a : List α} {p : List β} {j : Nat} {x : β} {y : α} (hx : p[j]? = some x) (hy : a[j]? = some y) : List.zipWith f a (p.take (j + 1)) = List.zipWith f a (p.take j) ++ [f y x] := by
  induction j generalizing a p with
  | zero =>
    cases p with
    | nil => simp at hx
    | cons b p => cases a with
      | nil => simp at hy
      | cons c a => simp at hx hy; subst hx hy; simp
  | succ j ih =>
    cases p with
    | nil => simp at hx
    | cons b p => cases a with
      | nil => simp at hy
      | cons c a =>
        have := ih (a := a) (p := p) (by simpa using hx) (by simpa using hy)
        simp only [List.take_succ_cons, List.zipWith_cons_cons, this, List.cons_append]
theorem billP_snoc {s : Int} {bs : List (Int × Int)} {a b : List Int} {p : List (List Int)} {j : Nat} {r : List Int} (hx : p[j]? = some r) (hj : j < a.length) : billP s bs a b (p.take (j + 1)) = billP s bs a b (p.take j) + rbP s bs b (cl a j) r := by
  unfold billP
  rw [zipWith_take_succ _ hx (y := cl a j) (by rw [List.getElem?_eq_getElem hj]; simp [cl, List.getD, List.getElem?_eq_getElem hj]), List.sum_append]
  simp
theorem rbP_snoc {s : Int} {bs : List (Int × Int)} {b : List Int} {g : Int} {r : List Int} {j : Nat} {k : Int} (hx : r[j]? = some k) (hj : j < b.length) : rbP s bs b g (r.take (j + 1)) = rbP s bs b g (r.take j) + k * tollP s bs (cl b j - g) := by
  unfold rbP
  rw [zipWith_take_succ _ hx (y := cl b j) (by rw [List.getElem?_eq_getElem hj]; simp [cl, List.getD, List.getElem?_eq_getElem hj]), List.sum_append]
  simp
theorem cl_mem {r : List Int} {j : Nat} (h : j < r.length) : cl r j ∈ r := by simp [cl, List.getD, List.getElem?_eq_getElem h]
theorem dl_pr {s : Int} {bs : List (Int × Int)} : dl (prD true s bs) = prD false s bs := by
  simp [prD, sq, dl, dls, dls_map]
theorem pu_pr {t : Bool} {s : Int} {bs : List (Int × Int)} : Pu 3 (prD t s bs) := by
  refine Pu.sq fun x hx => ?_
  simp at hx
  rcases hx with rfl | rfl
  · exact .int
  · refine Pu.sq fun x hx => ?_
    obtain ⟨z, _, rfl⟩ := List.mem_map.1 hx
    refine Pu.sq fun x hx => ?_
    simp at hx
    rcases hx with rfl | rfl <;> exact .int
end G48
namespace G48
open PySem
/-- rows' sums and columns' sums -/
def smP (w : Nat) (p : List (List Int)) : List (List Int) := [p.map List.sum, (trP w p).map List.sum]
theorem smP_mate {w : Nat} {p q : List (List Int)} (h : Mate w p q) : smP w q = smP w p := by
  unfold smP
  congr 1
  · refine List.ext_getElem (by simp [h.len]) fun i h1 h2 => ?_
    simp at h1 h2
    have := h.row i
    simp [rowP, List.getD, List.getElem?_eq_getElem h1, List.getElem?_eq_getElem h2] at this
    simpa using this
  · congr 1
    unfold trP
    rw [List.map_map, List.map_map]
    refine List.map_congr_left fun j _ => ?_
    exact h.col j
theorem smP_ne {w w' : Nat} {p q : List (List Int)} (h : (rowP p 0).sum ≠ (rowP q 0).sum) (hp : p ≠ []) (hq : q ≠ []) : smP w p ≠ smP w' q := by
  intro e
  unfold smP at e
  simp only [List.cons.injEq, and_true] at e
  obtain ⟨e, _⟩ := e
  cases p with
  | nil => exact hp rfl
  | cons r p => cases q with
    | nil => exact hq rfl
    | cons r' q =>
      simp at e
      exact h (by simpa [rowP, List.getD] using e.1)
end G48
namespace G48
open PySem
theorem reps_of {α : Type} {e : α → D} {P : α → Prop} : ∀ {os : List D}, (∀ o ∈ os, ∃ a, o = e a ∧ P a) → ∃ l : List α, os = l.map e ∧ ∀ a ∈ l, P a
  | [], _ => ⟨[], rfl, by simp⟩
  | o :: os, h => by
    obtain ⟨a, ea, pa⟩ := h o (by simp)
    obtain ⟨l, el, pl⟩ := reps_of (os := os) fun x hx => h x (by simp [hx])
    refine ⟨a :: l, by rw [ea, el]; rfl, fun x hx => ?_⟩
    rcases List.mem_cons.1 hx with rfl | hx
    · exact pa
    · exact pl x hx
theorem insS_le (x : Int) : ∀ l : List Int, (insS x l).length ≤ l.length + 1
  | [] => by simp [insS]
  | y :: l => by
    have := insS_le x l
    simp only [insS]
    split
    · simp
    · split <;> simp <;> omega
theorem srtS_le : ∀ l : List Int, (srtS l).length ≤ l.length
  | [] => by simp [srtS]
  | y :: l => by
    have := srtS_le l
    have := insS_le y (srtS l)
    simp only [srtS, List.length_cons]
    omega
end G48
set_option linter.all false
set_option maxRecDepth 100000
/-! sums by index; Abel's way, once and twice -/
namespace G48
def sN (n : Nat) (f : Nat → Int) : Int := ((List.range n).map f).sum
theorem sN_zero {f : Nat → Int} : sN 0 f = 0 := rfl
theorem sN_succ {n : Nat} {f : Nat → Int} : sN (n + 1) f = sN n f + f n := by
  unfold sN
  rw [List.range_succ, List.map_append, List.sum_append]
  simp
theorem sN_congr {n : Nat} {f g : Nat → Int} (h : ∀ i, i < n → f i = g i) : sN n f = sN n g := by
  unfold sN
  rw [List.map_congr_left fun i hi => h i (List.mem_range.1 hi)]
theorem sN_add {n : Nat} {f g : Nat → Int} : sN n (fun i => f i + g i) = sN n f + sN n g := by
  induction n with
  | zero => rfl
  | succ n ih => rw [sN_succ, sN_succ, sN_succ, ih]; omega
theorem sN_sub {n : Nat} {f g : Nat → Int} : sN n (fun i => f i - g i) = sN n f - sN n g := by
  induction n with
  | zero => rfl
  | succ n ih => rw [sN_succ, sN_succ, sN_succ, ih]; omega
theorem sN_0 {n : Nat} : sN n (fun _ => 0) = 0 := by
  induction n with
  | zero => rfl
  | succ n ih => rw [sN_succ, ih]; rfl
theorem sN_comm {n k : Nat} {f : Nat → Nat → Int} : sN n (fun i => sN k fun j => f i j) = sN k fun j => sN n fun i => f i j := by
  induction n with
  | zero => rw [sN_zero]; exact (sN_0).symm
  | succ n ih =>
    rw [sN_succ, ih, ← sN_add]
    exact sN_congr fun j _ => sN_succ.symm
theorem abel {n : Nat} {d g : Nat → Int} : sN (n + 1) (fun i => d i * g i) = sN (n + 1) d * g n + sN n fun i => sN (i + 1) d * (g i - g (i + 1)) := by
  induction n with
  | zero => simp [sN_succ, sN_zero]
  | succ n ih =>
    rw [sN_succ, ih, sN_succ (n := n + 1) (f := d), sN_succ (n := n) (f := fun i => sN (i + 1) d * (g i - g (i + 1))), Int.add_mul, Int.mul_sub]
    omega
theorem abel2 {a w : Nat} {D g : Nat → Nat → Int} (hr : ∀ i, i < a + 1 → sN (w + 1) (D i) = 0) (hc : ∀ j, j < w + 1 → sN (a + 1) (fun i => D i j) = 0) :
    sN (a + 1) (fun i => sN (w + 1) fun j => D i j * g i j) = sN a fun i => sN w fun j => sN (i + 1) (fun i' => sN (j + 1) (D i')) * (g i j - g i (j + 1) - (g (i + 1) j - g (i + 1) (j + 1))) := by
  have h1 : sN (a + 1) (fun i => sN (w + 1) fun j => D i j * g i j) = sN (a + 1) fun i => sN w fun j => sN (j + 1) (D i) * (g i j - g i (j + 1)) := sN_congr fun i hi => by
    rw [abel, hr i hi, Int.zero_mul, Int.zero_add]
  rw [h1, sN_comm, sN_comm (n := a)]
  refine sN_congr fun j hj => ?_
  have h2 : sN (a + 1) (fun i => sN (j + 1) (D i)) = 0 := by
    rw [sN_comm]
    rw [sN_congr (g := fun _ => 0) fun j' hj' => hc j' (by omega)]
    exact sN_0
  rw [abel (d := fun i => sN (j + 1) (D i)) (g := fun i => g i j - g i (j + 1)), h2, Int.zero_mul, Int.zero_add]
end G48
namespace G48
open PySem
theorem sN_front {n : Nat} {f : Nat → Int} : sN (n + 1) f = f 0 + sN n fun i => f (i + 1) := by
  induction n with
  | zero => simp [sN_succ, sN_zero]
  | succ n ih => rw [sN_succ, ih, sN_succ (n := n) (f := fun i => f (i + 1))]; omega
theorem cl_runI : ∀ (r : List Int) (c : Int) (j : Nat), j ≤ r.length → cl (runI c r) j = c + sN j (cl r)
  | [], c, j, h => by
    have : j = 0 := by simpa using h
    subst this
    simp [runI, cl, List.getD, sN_zero]
  | x :: r, c, 0, h => by simp [runI, cl, List.getD, sN_zero]
  | x :: r, c, j + 1, h => by
    have ih := cl_runI r (c + x) j (by simpa using h)
    rw [sN_front]
    have e : cl (runI c (x :: r)) (j + 1) = cl (runI (c + x) r) j := by simp [runI, cl, List.getD]
    have e2 : cl (x :: r) 0 = x := rfl
    have e3 : (fun i => cl (x :: r) (i + 1)) = cl r := by funext i; simp [cl, List.getD]
    rw [e, ih, e2, e3]
    omega
theorem cell_corFrom {w : Nat} : ∀ (p : List (List Int)) (a : List Int) (i j : Nat), a.length = w + 1 → (∀ r ∈ p, r.length = w) → i ≤ p.length → j ≤ w → cl (rowP (corFrom a p) i) j = cl a j + sN i fun k => sN j (cl (rowP p k))
  | [], a, i, j, ha, hp, hi, hj => by
    have : i = 0 := by simpa using hi
    subst this
    simp [corFrom, rowP, List.getD, sN_zero]
  | r :: p, a, 0, j, ha, hp, hi, hj => by simp [corFrom, rowP, List.getD, sN_zero]
  | r :: p, a, i + 1, j, ha, hp, hi, hj => by
    have hr : r.length = w := hp r (by simp)
    have hl : (addI a (runI 0 r)).length = w + 1 := by simp [addI, runI_len, ha, hr]
    have ih := cell_corFrom p (addI a (runI 0 r)) i j hl (fun x hx => hp x (by simp [hx])) (by simpa using hi) hj
    have e : rowP (corFrom a (r :: p)) (i + 1) = rowP (corFrom (addI a (runI 0 r)) p) i := by simp [corFrom, rowP, List.getD]
    have e2 : cl (addI a (runI 0 r)) j = cl a j + cl (runI 0 r) j := zipWith_getD (by omega) (by rw [runI_len]; omega)
    rw [e, ih, e2, cl_runI r 0 j (by omega), sN_front (n := i)]
    have e3 : rowP (r :: p) 0 = r := rfl
    have e4 : (fun k => sN j (cl (rowP (r :: p) (k + 1)))) = fun k => sN j (cl (rowP p k)) := by funext k; simp [rowP, List.getD]
    rw [e3, e4]
    omega
theorem cell_corP {w : Nat} {p : List (List Int)} {i j : Nat} (hp : ∀ r ∈ p, r.length = w) (hi : i ≤ p.length) (hj : j ≤ w) : cl (rowP (corP w p) i) j = sN i fun k => sN j (cl (rowP p k)) := by
  unfold corP
  rw [cell_corFrom p _ i j (by simp) hp hi hj]
  have : cl (List.replicate (w + 1) (0 : Int)) j = 0 := by
    have h : j < w + 1 := by omega
    simp [cl, List.getD, List.getElem?_replicate, h]
  omega
theorem billP_sN {s : Int} {bs : List (Int × Int)} {a b : List Int} {p : List (List Int)} (hl : p.length = a.length) (hw : ∀ r ∈ p, r.length = b.length) : billP s bs a b p = sN a.length fun i => sN b.length fun j => cl (rowP p i) j * tollP s bs (cl b j - cl a i) := by
  unfold billP
  rw [zipWith_range _ a p 0 [], hl, Nat.min_self]
  show sN a.length _ = _
  refine sN_congr fun i hi => ?_
  have hr : (rowP p i).length = b.length := hw _ (rowP_mem (by omega))
  show rbP s bs b (cl a i) (rowP p i) = _
  unfold rbP
  rw [zipWith_range _ b (rowP p i) 0 0, hr, Nat.min_self]
  rfl
theorem sum_sN {r : List Int} : r.sum = sN r.length (cl r) := by
  unfold sN
  have := map_getD r (0 : Int) (fun x => x)
  simp only [List.map_id'] at this
  conv => lhs; rw [← this]
  rfl
theorem colS_sN {p : List (List Int)} {j : Nat} : colS p j = sN p.length fun i => cl (rowP p i) j := by
  unfold colS sN
  have := map_getD p ([] : List Int) (fun r => cl r j)
  rw [← this]
  rfl
end G48
set_option linter.all false
set_option maxRecDepth 100000
/-! what a corner is worth -/
namespace G48
open PySem
/-- the price of a corner -/
def cpP (s : Int) (bs : List (Int × Int)) (near far left right : Int) : Int := tollP s bs (right - near) + tollP s bs (left - far) - tollP s bs (left - near) - tollP s bs (right - far)
theorem absI_cross {near far left right x : Int} (h1 : near ≤ far) (h2 : left ≤ right) : 0 ≤ absI (right - near - x) + absI (left - far - x) - absI (left - near - x) - absI (right - far - x) := by
  unfold absI
  split <;> split <;> split <;> split <;> omega
theorem sq_cross {near far left right : Int} (h1 : near ≤ far) (h2 : left ≤ right) : 0 ≤ (right - near) * (right - near) + (left - far) * (left - far) - (left - near) * (left - near) - (right - far) * (right - far) := by
  have : (right - near) * (right - near) + (left - far) * (left - far) - (left - near) * (left - near) - (right - far) * (right - far) = 2 * ((far - near) * (right - left)) := by grind
  rw [this]
  have := Int.mul_nonneg (show 0 ≤ far - near by omega) (show 0 ≤ right - left by omega)
  omega
theorem cpP_nn {s : Int} {bs : List (Int × Int)} {near far left right : Int} (hs : 0 ≤ s) (hb : ∀ z ∈ bs, 0 ≤ z.2) (h1 : near ≤ far) (h2 : left ≤ right) : 0 ≤ cpP s bs near far left right := by
  have k1 : 0 ≤ s * ((right - near) * (right - near) + (left - far) * (left - far) - (left - near) * (left - near) - (right - far) * (right - far)) := Int.mul_nonneg hs (sq_cross h1 h2)
  have k2 : ∀ bs : List (Int × Int), (∀ z ∈ bs, 0 ≤ z.2) → 0 ≤ (bs.map fun z => z.2 * absI (right - near - z.1)).sum + (bs.map fun z => z.2 * absI (left - far - z.1)).sum - (bs.map fun z => z.2 * absI (left - near - z.1)).sum - (bs.map fun z => z.2 * absI (right - far - z.1)).sum := by
    intro bs
    induction bs with
    | nil => simp
    | cons z bs ih =>
      intro hb
      have i1 := ih fun y hy => hb y (by simp [hy])
      have i2 := Int.mul_nonneg (hb z (by simp)) (absI_cross (x := z.1) h1 h2)
      rw [Int.mul_sub, Int.mul_sub, Int.mul_add] at i2
      simp only [List.map_cons, List.sum_cons]
      omega
  have k3 := k2 bs hb
  have e : s * ((right - near) * (right - near) + (left - far) * (left - far) - (left - near) * (left - near) - (right - far) * (right - far)) = s * (right - near) * (right - near) + s * (left - far) * (left - far) - s * (left - near) * (left - near) - s * (right - far) * (right - far) := by
    rw [Int.mul_sub, Int.mul_sub, Int.mul_add, Int.mul_assoc, Int.mul_assoc, Int.mul_assoc, Int.mul_assoc]
  rw [e] at k1
  unfold cpP tollP
  omega
/-- the gain, by corners -/
theorem gain_abel {s : Int} {bs : List (Int × Int)} {a b : List Int} {A B : Nat} {p q : List (List Int)} (ha : a.length = A + 1) (hb : b.length = B + 1) (hl : p.length = A + 1) (hp : ∀ r ∈ p, r.length = B + 1) (M : Mate (B + 1) p q) :
    billP s bs a b q - billP s bs a b p = sN A fun i => sN B fun j => cpP s bs (cl a i) (cl a (i + 1)) (cl b j) (cl b (j + 1)) * (cl (rowP (corP (B + 1) p) (i + 1)) (j + 1) - cl (rowP (corP (B + 1) q) (i + 1)) (j + 1)) := by
  have hql : q.length = A + 1 := by rw [M.len, hl]
  rw [billP_sN (p := q) (by omega) (fun r hr => by rw [M.rect r hr, hb]), billP_sN (p := p) (by omega) (fun r hr => by rw [hp r hr, hb]), ha, hb]
  have h := abel2 (a := A) (w := B) (D := fun i j => cl (rowP p i) j - cl (rowP q i) j) (g := fun i j => tollP s bs (cl b j - cl a i)) (fun i hi => by
      rw [sN_sub]
      have e1 := sum_sN (r := rowP p i)
      have e2 := sum_sN (r := rowP q i)
      have r1 : (rowP p i).length = B + 1 := hp _ (rowP_mem (by omega))
      have r2 : (rowP q i).length = B + 1 := M.rect _ (rowP_mem (by omega))
      rw [r1] at e1
      rw [r2] at e2
      have := M.row i
      show sN (B + 1) (cl (rowP p i)) - sN (B + 1) (cl (rowP q i)) = 0
      omega) (fun j hj => by
      rw [sN_sub]
      have e1 := colS_sN (p := p) (j := j)
      have e2 := colS_sN (p := q) (j := j)
      rw [hl] at e1
      rw [hql] at e2
      have := M.col j
      omega)
  have l1 : sN (A + 1) (fun i => sN (B + 1) fun j => (cl (rowP p i) j - cl (rowP q i) j) * tollP s bs (cl b j - cl a i)) = sN (A + 1) (fun i => sN (B + 1) fun j => cl (rowP p i) j * tollP s bs (cl b j - cl a i)) - sN (A + 1) (fun i => sN (B + 1) fun j => cl (rowP q i) j * tollP s bs (cl b j - cl a i)) := by
    rw [← sN_sub]
    refine sN_congr fun i _ => ?_
    rw [← sN_sub]
    exact sN_congr fun j _ => Int.sub_mul ..
  rw [l1] at h
  have l2 : (sN A fun i => sN B fun j => cpP s bs (cl a i) (cl a (i + 1)) (cl b j) (cl b (j + 1)) * (cl (rowP (corP (B + 1) p) (i + 1)) (j + 1) - cl (rowP (corP (B + 1) q) (i + 1)) (j + 1))) = 0 - sN A fun i => sN B fun j => sN (i + 1) (fun i' => sN (j + 1) fun j' => cl (rowP p i') j' - cl (rowP q i') j') * (tollP s bs (cl b j - cl a i) - tollP s bs (cl b (j + 1) - cl a i) - (tollP s bs (cl b j - cl a (i + 1)) - tollP s bs (cl b (j + 1) - cl a (i + 1)))) := by
    rw [← sN_0 (n := A), ← sN_sub]
    refine sN_congr fun i hi => ?_
    rw [← sN_0 (n := B), ← sN_sub]
    refine sN_congr fun j hj => ?_
    rw [cell_corP hp (by omega) (by omega), cell_corP M.rect (by omega) (by omega)]
    have e : sN (i + 1) (fun i' => sN (j + 1) fun j' => cl (rowP p i') j' - cl (rowP q i') j') = sN (i + 1) (fun k => sN (j + 1) (cl (rowP p k))) - sN (i + 1) fun k => sN (j + 1) (cl (rowP q k)) := by
      rw [← sN_sub]
      exact sN_congr fun k _ => sN_sub
    rw [e]
    generalize sN (i + 1) (fun k => sN (j + 1) (cl (rowP p k))) - sN (i + 1) (fun k => sN (j + 1) (cl (rowP q k))) = F
    unfold cpP
    generalize tollP s bs (cl b j - cl a i) = t1
    generalize tollP s bs (cl b (j + 1) - cl a i) = t2
    generalize tollP s bs (cl b j - cl a (i + 1)) = t3
    generalize tollP s bs (cl b (j + 1) - cl a (i + 1)) = t4
    grind
  rw [l2]
  omega
end G48
namespace G48
open PySem
/-- all corners' prices -/
def cpM (s : Int) (bs : List (Int × Int)) (a b : List Int) : List (List Int) := (a.zip a.tail).map fun x => (b.zip b.tail).map fun y => cpP s bs x.1 x.2 y.1 y.2
theorem zip_tail_range {β : Type} {a : List Int} (f : Int × Int → β) : (a.zip a.tail).map f = (List.range (a.length - 1)).map fun i => f (cl a i, cl a (i + 1)) := by
  refine List.ext_getElem (by simp) fun i h1 h2 => ?_
  simp at h1 h2
  have h3 : i < a.length := by omega
  have h4 : i + 1 < a.length := by omega
  simp [cl, List.getD, List.getElem?_eq_getElem h3, List.getElem?_eq_getElem h4]
theorem cpM_range {s : Int} {bs : List (Int × Int)} {a b : List Int} : cpM s bs a b = (List.range (a.length - 1)).map fun i => (List.range (b.length - 1)).map fun j => cpP s bs (cl a i) (cl a (i + 1)) (cl b j) (cl b (j + 1)) := by
  unfold cpM
  rw [zip_tail_range]
  refine List.map_congr_left fun i _ => ?_
  rw [zip_tail_range]
theorem worth_bill {s : Int} {bs : List (Int × Int)} {x y z w : Int} : billP s bs [x, y] [z, w] [[0, 1], [1, 0]] - billP s bs [x, y] [z, w] [[1, 0], [0, 1]] = cpP s bs x y z w := by
  simp [billP, rbP, cpP]
  omega
theorem cut_two {a : List Int} {i : Nat} (h : i + 1 < a.length) : cutL a (some (i : Int)) (some ((i : Int) + 2)) = [cl a i, cl a (i + 1)] := by
  have h0 : i < a.length := by omega
  have e : (i : Int) + 2 = ((i + 2 : Nat) : Int) := by omega
  rw [e, cut_mid a (by omega) (by omega) (by omega) (by omega), Int.toNat_natCast, Int.toNat_natCast]
  refine List.ext_getElem (by simp; omega) fun k h1 h2 => ?_
  simp at h2
  rcases (by omega : k = 0 ∨ k = 1) with rfl | rfl
  · simp [cl, List.getD, List.getElem?_eq_getElem h0]
  · simp [cl, List.getD, List.getElem?_eq_getElem h]
end G48
namespace G48
open PySem
/-- a list that grows as a given list is taken -/
theorem app_take {l : List D} {j : Nat} {d : D} (h : l[j]? = some d) (hl : l.length ≤ 1000) (hb : below 0 d = true) : appAcc (l.take j) d = some (l.take (j + 1)) := by
  have h1 : (l.take j).length < BIG := by
    have : BIG = 1000000 := rfl
    rw [List.length_take]; omega
  rw [take_succ_get h]
  simp only [appAcc, h1, hb, and_self, if_true]
end G48
namespace G48
open PySem
def subP (P Q : List (List Int)) : List (List Int) := (P.zip Q).map fun x => (x.1.zip x.2).map fun y => y.1 - y.2
theorem subP_cell {P Q : List (List Int)} {w i j : Nat} (h1 : i < P.length) (h2 : i < Q.length) (hp : ∀ r ∈ P, r.length = w) (hq : ∀ r ∈ Q, r.length = w) (hj : j < w) : (rowP (subP P Q) i).length = w ∧ cl (rowP (subP P Q) i) j = cl (rowP P i) j - cl (rowP Q i) j := by
  have e : rowP (subP P Q) i = ((rowP P i).zip (rowP Q i)).map fun y => y.1 - y.2 := by
    have z : (P.zip Q)[i]? = some (P[i], Q[i]) := List.getElem?_zip_eq_some.2 ⟨List.getElem?_eq_getElem h1, List.getElem?_eq_getElem h2⟩
    simp [subP, rowP, List.getD, List.getElem?_eq_getElem h1, List.getElem?_eq_getElem h2, z]
  have l1 : (rowP P i).length = w := hp _ (rowP_mem h1)
  have l2 : (rowP Q i).length = w := hq _ (rowP_mem h2)
  rw [e]
  refine ⟨by simp [l1, l2], ?_⟩
  have h3 : j < (rowP P i).length := by omega
  have h4 : j < (rowP Q i).length := by omega
  have z : ((rowP P i).zip (rowP Q i))[j]? = some ((rowP P i)[j], (rowP Q i)[j]) := List.getElem?_zip_eq_some.2 ⟨List.getElem?_eq_getElem h3, List.getElem?_eq_getElem h4⟩
  simp [cl, List.getD, List.getElem?_eq_getElem h3, List.getElem?_eq_getElem h4, z]
theorem tollP_le {s : Int} {bs : List (Int × Int)} {w : Int} (h : PrOk s bs) (hw : w.natAbs ≤ 2000000) : (tollP s bs w).natAbs ≤ 5000000000000000 := by
  unfold tollP
  have h1 : (s * w * w).natAbs ≤ 1000 * 2000000 * 2000000 := by
    rw [Int.natAbs_mul, Int.natAbs_mul]
    exact Nat.mul_le_mul (Nat.mul_le_mul h.sq hw) hw
  have h2 := sum_small (k := 1000 * 3000000) (r := bs.map fun z => z.2 * absI (w - z.1)) fun x hx => by
    obtain ⟨z, hz, rfl⟩ := List.mem_map.1 hx
    rw [Int.natAbs_mul, absI_nat]
    have := h.wh z hz
    exact Nat.mul_le_mul (h.wt z hz) (by omega)
  rw [List.length_map] at h2
  have h3 : bs.length * (1000 * 3000000) ≤ 60 * (1000 * 3000000) := Nat.mul_le_mul_right _ h.len
  omega
theorem cpP_small {s : Int} {bs : List (Int × Int)} {x y z w : Int} (h : PrOk s bs) (hx : x.natAbs ≤ 1000000) (hy : y.natAbs ≤ 1000000) (hz : z.natAbs ≤ 1000000) (hw : w.natAbs ≤ 1000000) : (cpP s bs x y z w).natAbs < 2 ^ 64 := by
  have t1 := tollP_le h (w := w - x) (by omega)
  have t2 := tollP_le h (w := z - y) (by omega)
  have t3 := tollP_le h (w := z - x) (by omega)
  have t4 := tollP_le h (w := w - y) (by omega)
  unfold cpP
  omega
end G48
namespace G48
open PySem
theorem enumX_get {α : Type} {e : α → D} {xs : List α} {j : Nat} {d : D} (h : (enumL 0 (xs.map e))[j]? = some d) : ∃ x, xs[j]? = some x ∧ d = .tup [.int (j : Int), e x] := by
  rw [show enumL 0 (xs.map e) = _ from enumL_map e xs 0, List.getElem?_map, Option.map_eq_some_iff] at h
  obtain ⟨pr, h1, h2⟩ := h
  obtain ⟨h3, h4⟩ := zip_range_get h1
  rw [Nat.zero_add] at h3
  exact ⟨pr.2, h4, by rw [← h2, h3]⟩
theorem enumX_len : ∀ (xs : List D) (k : Int), (enumL k xs).length = xs.length
  | [], _ => rfl
  | x :: xs, k => by simp [enumL, enumX_len xs]
theorem up_le {r : List Int} {i : Nat} (h : r.Pairwise (· ≤ ·)) (hi : i + 1 < r.length) : cl r i ≤ cl r (i + 1) := by
  have h0 : i < r.length := by omega
  have := (List.pairwise_iff_getElem.1 h) i (i + 1) h0 hi (by omega)
  simpa [cl, List.getD, List.getElem?_eq_getElem h0, List.getElem?_eq_getElem hi] using this
end G48
namespace G48
open PySem
theorem enum_sum {r : List Int} {F : Nat → Int → Int} : ((List.zip (List.range' 0 r.length) r).map fun p => F p.1 p.2).sum = sN r.length fun k => F k (cl r k) := by
  unfold sN
  congr 1
  refine List.ext_getElem (by simp) fun k h1 h2 => ?_
  simp at h1 h2
  simp [cl, List.getD, List.getElem?_eq_getElem h2]
end G48
set_option linter.all false
set_option maxRecDepth 100000
/-! filling from the first corner; the greatest and the least corners -/
namespace G48
/-- what two lots have in common -/
def ov (A A' B B' : Int) : Int := if max A B < min A' B' then min A' B' - max A B else 0
theorem ov_min {A A' B B' : Int} (h1 : A ≤ A') (h2 : B ≤ B') : ov A A' B B' = (min A' B' - min A B') - (min A' B - min A B) := by
  unfold ov
  split <;> omega
def fillM (a b : List Int) : List (List Int) := (List.range a.length).map fun i => (List.range b.length).map fun j => ov (sN i (cl a)) (sN (i + 1) (cl a)) (sN j (cl b)) (sN (j + 1) (cl b))
theorem rowP_map {n : Nat} {f : Nat → List Int} {i : Nat} (h : i < n) : rowP ((List.range n).map f) i = f i := by simp [rowP, List.getD, h]
theorem cl_map {n : Nat} {f : Nat → Int} {i : Nat} (h : i < n) : cl ((List.range n).map f) i = f i := by simp [cl, List.getD, h]
theorem fillM_len {a b : List Int} : (fillM a b).length = a.length := by simp [fillM]
theorem fillM_rect {a b : List Int} : ∀ r ∈ fillM a b, r.length = b.length := fun r hr => by
  simp [fillM] at hr
  obtain ⟨i, _, rfl⟩ := hr
  simp
theorem fillM_cell {a b : List Int} {i j : Nat} (hi : i < a.length) (hj : j < b.length) : cl (rowP (fillM a b) i) j = ov (sN i (cl a)) (sN (i + 1) (cl a)) (sN j (cl b)) (sN (j + 1) (cl b)) := by
  unfold fillM
  rw [rowP_map hi, cl_map hj]
theorem cl_nn {a : List Int} (h : ∀ x ∈ a, 0 ≤ x) (i : Nat) : 0 ≤ cl a i := by
  by_cases hi : i < a.length
  · exact h _ (cl_mem hi)
  · simp [cl, List.getD, List.getElem?_eq_none (Nat.le_of_not_lt hi)]
theorem sN_nn {n : Nat} {f : Nat → Int} (h : ∀ i, i < n → 0 ≤ f i) : 0 ≤ sN n f := by
  induction n with
  | zero => exact Int.le_refl _
  | succ n ih => rw [sN_succ]; have := h n (by omega); have := ih fun i hi => h i (by omega); omega
theorem sN_mono {f : Nat → Int} (h : ∀ i, 0 ≤ f i) {i j : Nat} (hij : i ≤ j) : sN i f ≤ sN j f := by
  induction hij with
  | refl => exact Int.le_refl _
  | step _ ih => rw [sN_succ]; have := h ‹_›; omega
theorem sN_le {n : Nat} {f g : Nat → Int} (h : ∀ i, i < n → f i ≤ g i) : sN n f ≤ sN n g := by
  induction n with
  | zero => exact Int.le_refl _
  | succ n ih => rw [sN_succ, sN_succ]; have := h n (by omega); have := ih fun i hi => h i (by omega); omega
theorem sN_tele {n : Nat} {g : Nat → Int} : (sN n fun i => g (i + 1) - g i) = g n - g 0 := by
  induction n with
  | zero => rw [sN_zero]; omega
  | succ n ih => rw [sN_succ, ih]; omega
/-- the corners of a filled plan -/
theorem fillM_cor {a b : List Int} (ha : ∀ x ∈ a, 0 ≤ x) (hb : ∀ x ∈ b, 0 ≤ x) {i j : Nat} (hi : i ≤ a.length) (hj : j ≤ b.length) : (sN i fun k => sN j (cl (rowP (fillM a b) k))) = min (sN i (cl a)) (sN j (cl b)) := by
  have na := cl_nn ha
  have nb := cl_nn hb
  have e : ∀ k, k < i → sN j (cl (rowP (fillM a b) k)) = (fun z => min (sN z (cl a)) (sN j (cl b))) (k + 1) - (fun z => min (sN z (cl a)) (sN j (cl b))) k := fun k hk => by
    have e2 : ∀ l, l < j → cl (rowP (fillM a b) k) l = (fun z => min (sN (k + 1) (cl a)) (sN z (cl b)) - min (sN k (cl a)) (sN z (cl b))) (l + 1) - (fun z => min (sN (k + 1) (cl a)) (sN z (cl b)) - min (sN k (cl a)) (sN z (cl b))) l := fun l hl => by
      rw [fillM_cell (by omega) (by omega), ov_min (sN_mono na (by omega)) (sN_mono nb (by omega))]
    rw [sN_congr e2, sN_tele (g := fun z => min (sN (k + 1) (cl a)) (sN z (cl b)) - min (sN k (cl a)) (sN z (cl b)))]
    have p1 := sN_nn (n := k) (f := cl a) fun i _ => na i
    have p2 := sN_nn (n := k + 1) (f := cl a) fun i _ => na i
    simp only [sN_zero]
    omega
  rw [sN_congr e, sN_tele (g := fun z => min (sN z (cl a)) (sN j (cl b)))]
  have p3 := sN_nn (n := j) (f := cl b) fun i _ => nb i
  simp only [sN_zero]
  omega
theorem fillM_nn {a b : List Int} : ∀ r ∈ fillM a b, ∀ x ∈ r, 0 ≤ x := fun r hr x hx => by
  simp [fillM] at hr
  obtain ⟨i, _, rfl⟩ := hr
  simp at hx
  obtain ⟨j, _, rfl⟩ := hx
  unfold ov
  split <;> omega
/-- tables by all cells -/
theorem tab_ext {w : Nat} {p q : List (List Int)} (hl : p.length = q.length) (hp : ∀ r ∈ p, r.length = w) (hq : ∀ r ∈ q, r.length = w) (h : ∀ i j, i < p.length → j < w → cl (rowP p i) j = cl (rowP q i) j) : p = q := by
  refine List.ext_getElem hl fun i h1 h2 => ?_
  have e1 : rowP p i = p[i] := by simp [rowP, List.getD, List.getElem?_eq_getElem h1]
  have e2 : rowP q i = q[i] := by simp [rowP, List.getD, List.getElem?_eq_getElem h2]
  have l1 : p[i].length = w := hp _ (List.getElem_mem h1)
  have l2 : q[i].length = w := hq _ (List.getElem_mem h2)
  refine List.ext_getElem (by omega) fun j h3 h4 => ?_
  have := h i j h1 (by omega)
  rw [e1, e2] at this
  simpa [cl, List.getD, List.getElem?_eq_getElem h3, List.getElem?_eq_getElem h4] using this
/-- a table of what stands at all corners -/
def lotsM (h : Int → Int → Int) (a b : List Int) : List (List Int) := (runI 0 a).map fun x => (runI 0 b).map fun y => h x y
theorem lotsM_cor {h : Int → Int → Int} {a b : List Int} {F : List (List Int)} (hl : F.length = a.length) (hw : ∀ r ∈ F, r.length = b.length) (hc : ∀ i j, i ≤ a.length → j ≤ b.length → h (sN i (cl a)) (sN j (cl b)) = sN i fun k => sN j (cl (rowP F k))) : lotsM h a b = corP b.length F := by
  refine tab_ext (w := b.length + 1) (by simp [lotsM, runI_len, corP, corFrom_len, hl]) (fun r hr => ?_) (corFrom_rect hw (by simp)) fun i j hi hj => ?_
  · simp [lotsM] at hr
    obtain ⟨x, _, rfl⟩ := hr
    simp [runI_len]
  · simp [lotsM, runI_len] at hi
    rw [cell_corP hw (by omega) (by omega), ← hc i j (by omega) (by omega)]
    have i1 : i < (runI 0 a).length := by rw [runI_len]; omega
    have j1 : j < (runI 0 b).length := by rw [runI_len]; omega
    have c1 := cl_runI a 0 i (by omega)
    have c2 := cl_runI b 0 j (by omega)
    simp [cl, List.getD, List.getElem?_eq_getElem i1] at c1
    simp [cl, List.getD, List.getElem?_eq_getElem j1] at c2
    have e1 : rowP (lotsM h a b) i = (runI 0 b).map fun y => h ((runI 0 a)[i]) y := by simp [lotsM, rowP, List.getD, List.getElem?_eq_getElem i1]
    rw [e1]
    simp [cl, List.getD, List.getElem?_eq_getElem j1, c1, c2]
theorem difP_lots {h : Int → Int → Int} {a b : List Int} {F : List (List Int)} (hl : F.length = a.length) (hw : ∀ r ∈ F, r.length = b.length) (hc : ∀ i j, i ≤ a.length → j ≤ b.length → h (sN i (cl a)) (sN j (cl b)) = sN i fun k => sN j (cl (rowP F k))) : difP (lotsM h a b) = F := by
  rw [lotsM_cor hl hw hc]
  exact difP_corFrom (by simp) hw
/-- sums of the first numbers of a list from behind -/
theorem sN_rev {n : Nat} {f : Nat → Int} {i : Nat} (h : i ≤ n) : (sN i fun k => f (n - 1 - k)) = sN n f - sN (n - i) f := by
  induction i with
  | zero => simp [sN_zero]
  | succ i ih =>
    rw [sN_succ, ih (by omega)]
    have e : n - i = (n - (i + 1)) + 1 := by omega
    rw [e, sN_succ]
    have : n - 1 - i = n - (i + 1) := by omega
    rw [this]
    omega
theorem cl_rev {a : List Int} {i : Nat} (h : i < a.length) : cl a.reverse i = cl a (a.length - 1 - i) := by
  simp [cl, List.getD, List.getElem?_reverse h]
theorem rowP_rev {a : List (List Int)} {i : Nat} (h : i < a.length) : rowP a.reverse i = rowP a (a.length - 1 - i) := by
  simp [rowP, List.getD, List.getElem?_reverse h]
/-- the dearest plan: filled with the bakers from behind -/
def leastM (a b : List Int) : List (List Int) := (fillM a.reverse b).reverse
theorem leastM_len {a b : List Int} : (leastM a b).length = a.length := by simp [leastM, fillM_len]
theorem leastM_rect {a b : List Int} : ∀ r ∈ leastM a b, r.length = b.length := fun r hr => fillM_rect r (by simpa [leastM] using hr)
theorem leastM_nn {a b : List Int} : ∀ r ∈ leastM a b, ∀ x ∈ r, 0 ≤ x := fun r hr => fillM_nn r (by simpa [leastM] using hr)
theorem leastM_cor {a b : List Int} (ha : ∀ x ∈ a, 0 ≤ x) (hb : ∀ x ∈ b, 0 ≤ x) (hs : sN a.length (cl a) = sN b.length (cl b)) {i j : Nat} (hi : i ≤ a.length) (hj : j ≤ b.length) : (sN i fun k => sN j (cl (rowP (leastM a b) k))) = max 0 (sN i (cl a) + sN j (cl b) - sN a.length (cl a)) := by
  have e1 : (sN i fun k => sN j (cl (rowP (leastM a b) k))) = sN i fun k => (fun z => sN j (cl (rowP (fillM a.reverse b) z))) (a.length - 1 - k) := sN_congr fun k hk => by
    have := rowP_rev (a := fillM a.reverse b) (i := k) (by simp [fillM_len]; omega)
    simp [fillM_len] at this
    simp only [leastM, this]
  have hra : ∀ x ∈ a.reverse, 0 ≤ x := fun x hx => ha x (by simpa using hx)
  rw [e1, sN_rev (f := fun z => sN j (cl (rowP (fillM a.reverse b) z))) hi, fillM_cor hra hb (by simp) hj, fillM_cor hra hb (by simp) hj]
  have rv : ∀ z, z ≤ a.length → sN z (cl a.reverse) = sN a.length (cl a) - sN (a.length - z) (cl a) := fun z hz => by
    rw [← sN_rev hz]
    exact sN_congr fun k hk => cl_rev (by omega)
  rw [rv _ (Nat.le_refl _), rv _ (Nat.sub_le _ _)]
  have e2 : a.length - (a.length - i) = i := by omega
  rw [e2, Nat.sub_self, sN_zero]
  have b1 := sN_mono (cl_nn hb) hj
  omega
end G48
namespace G48
open PySem
/-- what stands at a corner -/
def cP (p : List (List Int)) (i j : Nat) : Int := sN i fun k => sN j (cl (rowP p k))
def rsP (p : List (List Int)) : List Int := p.map List.sum
def csP (w : Nat) (p : List (List Int)) : List Int := (trP w p).map List.sum
theorem smP_eq {w : Nat} {p : List (List Int)} : smP w p = [rsP p, csP w p] := rfl
theorem rsP_len {p : List (List Int)} : (rsP p).length = p.length := by simp [rsP]
theorem csP_len {w : Nat} {p : List (List Int)} : (csP w p).length = w := by simp [csP, trP]
theorem cl_rsP {p : List (List Int)} {i : Nat} : cl (rsP p) i = (rowP p i).sum := by
  by_cases h : i < p.length
  · simp [cl, rsP, rowP, List.getD, List.getElem?_eq_getElem h]
  · simp [cl, rsP, rowP, List.getD, List.getElem?_eq_none (Nat.le_of_not_lt h)]
theorem cl_csP {w : Nat} {p : List (List Int)} {j : Nat} (h : j < w) : cl (csP w p) j = colS p j := by
  simp [cl, csP, trP, List.getD, h, colS]
theorem rsP_A {w : Nat} {p : List (List Int)} (hw : ∀ r ∈ p, r.length = w) {i : Nat} (hi : i ≤ p.length) : sN i (cl (rsP p)) = cP p i w := sN_congr fun k hk => by
  rw [cl_rsP, sum_sN, hw _ (rowP_mem (by omega))]
theorem csP_B {w : Nat} {p : List (List Int)} {j : Nat} (hj : j ≤ w) : sN j (cl (csP w p)) = cP p p.length j := by
  unfold cP
  rw [sN_comm]
  exact sN_congr fun k hk => by rw [cl_csP (by omega), colS_sN]
theorem cl_rect_nn {w : Nat} {p : List (List Int)} (hp : ∀ r ∈ p, ∀ x ∈ r, 0 ≤ x) (i j : Nat) : 0 ≤ cl (rowP p i) j := by
  by_cases h : i < p.length
  · exact cl_nn (hp _ (rowP_mem h)) j
  · simp [rowP, List.getD, List.getElem?_eq_none (Nat.le_of_not_lt h), cl]
theorem cP_hi {w : Nat} {p : List (List Int)} (hp : ∀ r ∈ p, ∀ x ∈ r, 0 ≤ x) {i j : Nat} (hj : j ≤ w) (hi : i ≤ p.length) : cP p i j ≤ cP p i w ∧ cP p i j ≤ cP p p.length j ∧ 0 ≤ cP p i j ∧ cP p i w + cP p p.length j - cP p p.length w ≤ cP p i j := by
  have nn := cl_rect_nn (w := w) hp
  have h1 : ∀ k, sN j (cl (rowP p k)) ≤ sN w (cl (rowP p k)) := fun k => sN_mono (nn k) hj
  refine ⟨sN_le fun k _ => h1 k, sN_mono (fun k => sN_nn fun i _ => nn k i) hi, sN_nn fun k _ => sN_nn fun i _ => nn k i, ?_⟩
  have h2 := sN_mono (f := fun k => sN w (cl (rowP p k)) - sN j (cl (rowP p k))) (fun k => by have := h1 k; omega) hi
  rw [sN_sub, sN_sub] at h2
  unfold cP
  omega
theorem rsP_nn {p : List (List Int)} (hp : ∀ r ∈ p, ∀ x ∈ r, 0 ≤ x) : ∀ x ∈ rsP p, 0 ≤ x := fun x hx => by
  obtain ⟨r, hr, rfl⟩ := List.mem_map.1 hx
  rw [sum_sN]
  exact sN_nn fun i _ => cl_nn (hp r hr) i
theorem csP_nn {w : Nat} {p : List (List Int)} (hp : ∀ r ∈ p, ∀ x ∈ r, 0 ≤ x) : ∀ x ∈ csP w p, 0 ≤ x := fun x hx => by
  obtain ⟨r, hr, rfl⟩ := List.mem_map.1 hx
  simp [trP] at hr
  obtain ⟨j, _, rfl⟩ := hr
  rw [sum_sN]
  refine sN_nn fun i _ => cl_nn (fun y hy => ?_) i
  obtain ⟨r, hr, rfl⟩ := List.mem_map.1 hy
  exact cl_nn (hp r hr) j
theorem rsP_csP {w : Nat} {p : List (List Int)} (hw : ∀ r ∈ p, r.length = w) : sN (rsP p).length (cl (rsP p)) = sN (csP w p).length (cl (csP w p)) := by
  rw [rsP_len, csP_len, rsP_A hw (Nat.le_refl _), csP_B (Nat.le_refl _)]
/-- a table with given corners at its far sides is a mate -/
theorem mate_of_cor {w : Nat} {p F : List (List Int)} (hw : ∀ r ∈ p, r.length = w) (hl : F.length = p.length) (hF : ∀ r ∈ F, r.length = w) (hn : ∀ r ∈ F, ∀ x ∈ r, 0 ≤ x) (h1 : ∀ i, i ≤ p.length → cP F i w = cP p i w) (h2 : ∀ j, j ≤ w → cP F p.length j = cP p p.length j) : Mate w p F := by
  refine ⟨hl, hF, hn, fun i => ?_, fun j => ?_⟩
  · by_cases hi : i < p.length
    · have a1 := h1 i (by omega)
      have a2 := h1 (i + 1) (by omega)
      unfold cP at a1 a2
      rw [sN_succ, sN_succ] at a2
      rw [sum_sN (r := rowP F i), sum_sN (r := rowP p i), hF _ (rowP_mem (by omega)), hw _ (rowP_mem hi)]
      omega
    · have h3 : F.length ≤ i := by omega
      simp [rowP, List.getD, List.getElem?_eq_none (Nat.le_of_not_lt hi), List.getElem?_eq_none h3]
  · by_cases hj : j < w
    · have a1 := h2 j (by omega)
      have a2 := h2 (j + 1) (by omega)
      unfold cP at a1 a2
      rw [sN_congr (g := fun k => sN j (cl (rowP F k)) + cl (rowP F k) j) fun k _ => sN_succ, sN_add, sN_congr (f := fun k => sN (j + 1) (cl (rowP p k))) (g := fun k => sN j (cl (rowP p k)) + cl (rowP p k) j) fun k _ => sN_succ, sN_add] at a2
      rw [colS_sN, colS_sN, hl]
      omega
    · have z : ∀ q : List (List Int), (∀ r ∈ q, r.length = w) → colS q j = 0 := fun q hq => by
        rw [colS_sN]
        rw [sN_congr (g := fun _ => 0) fun i hi => ?_]
        · exact sN_0
        · have := hq _ (rowP_mem hi)
          simp [cl, List.getD, List.getElem?_eq_none (by omega : (rowP q i).length ≤ j)]
      rw [z F hF, z p hw]
theorem fillM_mate {w : Nat} {p : List (List Int)} (hw : ∀ r ∈ p, r.length = w) (hp : ∀ r ∈ p, ∀ x ∈ r, 0 ≤ x) : Mate w p (fillM (rsP p) (csP w p)) := by
  have e := fun i j hi hj => fillM_cor (i := i) (j := j) (rsP_nn hp) (csP_nn (w := w) hp) hi hj
  rw [rsP_len, csP_len] at e
  refine mate_of_cor hw (by rw [fillM_len, rsP_len]) (fun r hr => by rw [fillM_rect r hr, csP_len]) fillM_nn (fun i hi => ?_) fun j hj => ?_
  · show (sN i fun k => _) = _
    rw [e i w hi (Nat.le_refl _), rsP_A hw hi, csP_B (Nat.le_refl _)]
    have := (cP_hi (w := w) hp (i := i) (Nat.le_refl _) hi).2.1
    omega
  · show (sN p.length fun k => _) = _
    rw [e _ j (Nat.le_refl _) hj, rsP_A hw (Nat.le_refl _), csP_B hj]
    have := (cP_hi (w := w) hp (i := p.length) hj (Nat.le_refl _)).1
    omega
theorem leastM_mate {w : Nat} {p : List (List Int)} (hw : ∀ r ∈ p, r.length = w) (hp : ∀ r ∈ p, ∀ x ∈ r, 0 ≤ x) : Mate w p (leastM (rsP p) (csP w p)) := by
  have e := fun i j hi hj => leastM_cor (i := i) (j := j) (rsP_nn hp) (csP_nn (w := w) hp) (rsP_csP hw) hi hj
  rw [rsP_len, csP_len] at e
  refine mate_of_cor hw (by rw [leastM_len, rsP_len]) (fun r hr => by rw [leastM_rect r hr, csP_len]) leastM_nn (fun i hi => ?_) fun j hj => ?_
  · show (sN i fun k => _) = _
    rw [e i w hi (Nat.le_refl _), rsP_A hw hi, csP_B (Nat.le_refl _), rsP_A hw (Nat.le_refl _)]
    have := (cP_hi (w := w) hp (i := i) (Nat.le_refl _) hi).2.2.1
    omega
  · show (sN p.length fun k => _) = _
    rw [e _ j (Nat.le_refl _) hj, rsP_A hw (Nat.le_refl _), csP_B hj]
    have := (cP_hi (w := w) hp (i := p.length) hj (Nat.le_refl _)).2.2.1
    omega
theorem Mate.cP_w {w : Nat} {p q : List (List Int)} (hw : ∀ r ∈ p, r.length = w) (M : Mate w p q) {i : Nat} (hi : i ≤ p.length) : cP q i w = cP p i w := sN_congr fun k hk => by
  have := M.row k
  rw [sum_sN, sum_sN, hw _ (rowP_mem (by omega)), M.rect _ (rowP_mem (by rw [M.len]; omega))] at this
  exact this
theorem Mate.cP_l {w : Nat} {p q : List (List Int)} (M : Mate w p q) {j : Nat} : cP q p.length j = cP p p.length j := by
  unfold cP
  rw [sN_comm, sN_comm (n := p.length)]
  exact sN_congr fun k hk => by
    have := M.col k
    rw [colS_sN, colS_sN, M.len] at this
    exact this
/-- all mates' corners lie between those of the filled ones -/
theorem cor_between {w : Nat} {p q : List (List Int)} (hw : ∀ r ∈ p, r.length = w) (hp : ∀ r ∈ p, ∀ x ∈ r, 0 ≤ x) (M : Mate w p q) {i j : Nat} (hi : i ≤ p.length) (hj : j ≤ w) :
    cP q i j ≤ cP (fillM (rsP p) (csP w p)) i j ∧ cP (leastM (rsP p) (csP w p)) i j ≤ cP q i j := by
  have e1 : cP (fillM (rsP p) (csP w p)) i j = _ := fillM_cor (i := i) (j := j) (rsP_nn hp) (csP_nn (w := w) hp) (by rw [rsP_len]; exact hi) (by rw [csP_len]; exact hj)
  have e2 : cP (leastM (rsP p) (csP w p)) i j = _ := leastM_cor (i := i) (j := j) (rsP_nn hp) (csP_nn (w := w) hp) (rsP_csP hw) (by rw [rsP_len]; exact hi) (by rw [csP_len]; exact hj)
  rw [e1, e2, rsP_len, rsP_A hw hi, csP_B hj, rsP_A hw (Nat.le_refl _)]
  obtain ⟨h1, h2, h3, h4⟩ := cP_hi (w := w) M.pos (i := i) hj (by rw [M.len]; exact hi)
  rw [M.len] at h2 h4
  rw [M.cP_w hw hi] at h1 h4
  rw [M.cP_l] at h2 h4
  rw [M.cP_w hw (Nat.le_refl _)] at h4
  omega
theorem Mate.via {w : Nat} {p F q : List (List Int)} (h : Mate w p F) (k : Mate w p q) : Mate w F q := ⟨k.len.trans h.len.symm, k.rect, k.pos, fun i => (k.row i).trans (h.row i).symm, fun j => (k.col j).trans (h.col j).symm⟩
/-- greater corners, a lesser bill -/
theorem bill_le {s : Int} {bs : List (Int × Int)} {a b : List Int} {w : Nat} {p q : List (List Int)} (ho : PrOk s bs) (sa : a.Pairwise (· ≤ ·)) (sb : b.Pairwise (· ≤ ·)) (ha : a.length = p.length) (hb : b.length = w) (h0 : 1 ≤ p.length) (h1 : 1 ≤ w) (hp : ∀ r ∈ p, r.length = w) (M : Mate w p q) (hc : ∀ i j, i ≤ p.length → j ≤ w → cP q i j ≤ cP p i j) : billP s bs a b p ≤ billP s bs a b q := by
  obtain ⟨A, hA⟩ : ∃ A, p.length = A + 1 := ⟨p.length - 1, by omega⟩
  obtain ⟨B, rfl⟩ : ∃ B, w = B + 1 := ⟨w - 1, by omega⟩
  have g := gain_abel (s := s) (bs := bs) (a := a) (b := b) (A := A) (B := B) (by omega) hb hA hp M
  have : 0 ≤ billP s bs a b q - billP s bs a b p := by
    rw [g]
    refine sN_nn fun i hi => sN_nn fun j hj => Int.mul_nonneg (cpP_nn ho.nn ho.wn (up_le sa (by omega)) (up_le sb (by omega))) ?_
    rw [cell_corP hp (by omega) (by omega), cell_corP M.rect (by rw [M.len]; omega) (by omega)]
    have := hc (i + 1) (j + 1) (by omega) (by omega)
    unfold cP at this
    omega
  omega
end G48
set_option linter.all false
set_option maxRecDepth 100000
/-! differences of corners; which of two plans is never dearer -/
namespace G48
open PySem
/-- numbered items -/
def numL {α : Type} (xs : List α) : List (Nat × α) := List.zip (List.range' 0 xs.length) xs
def tD (x : Int × Int × Int) : D := .tup [.int x.1, .int x.2.1, .int x.2.2]
def dfRow (i : Nat) (r s : List Int) : List (Int × Int × Int) := (numL (r.zip s)).map fun p => ((i : Int), (p.1 : Int), p.2.1 - p.2.2)
def dfP (P Q : List (List Int)) : List (Int × Int × Int) := (numL (P.zip Q)).flatMap fun p => dfRow p.1 p.2.1 p.2.2
theorem numL_len {α : Type} {xs : List α} : (numL xs).length = xs.length := by simp [numL]
theorem numL_get {α : Type} {xs : List α} {j : Nat} {x : α} (h : xs[j]? = some x) : (numL xs)[j]? = some (j, x) := by
  have hj := (List.getElem?_eq_some_iff.1 h).1
  refine List.getElem?_zip_eq_some.2 ⟨?_, h⟩
  simp [hj]
theorem numL_snd {α : Type} (xs : List α) : (numL xs).map (·.2) = xs := by
  unfold numL
  rw [List.map_snd_zip]
  simp
theorem dfRow_val {i : Nat} {r s : List Int} : (dfRow i r s).map (·.2.2) = (r.zip s).map fun y => y.1 - y.2 := by
  unfold dfRow
  rw [List.map_map]
  have : ((fun x : Int × Int × Int => x.2.2) ∘ fun p : Nat × Int × Int => ((i : Int), (p.1 : Int), p.2.1 - p.2.2)) = (fun y : Int × Int => y.1 - y.2) ∘ fun p : Nat × Int × Int => p.2 := rfl
  rw [this, ← List.map_map, numL_snd]
theorem dfP_val {P Q : List (List Int)} : (dfP P Q).map (·.2.2) = (subP P Q).flatten := by
  unfold dfP subP
  rw [List.map_flatMap]
  have : (numL (P.zip Q)).flatMap (fun p => (dfRow p.1 p.2.1 p.2.2).map (·.2.2)) = (numL (P.zip Q)).flatMap fun p => (p.2.1.zip p.2.2).map fun y => y.1 - y.2 := by
    congr 1
    funext p
    exact dfRow_val
  rw [this, List.flatMap_def]
  congr 1
  have h2 : (fun p : Nat × List Int × List Int => (p.2.1.zip p.2.2).map fun y => y.1 - y.2) = (fun x : List Int × List Int => (x.1.zip x.2).map fun y => y.1 - y.2) ∘ fun p => p.2 := rfl
  rw [h2, ← List.map_map, numL_snd]
theorem all_df {P Q : List (List Int)} (f : Int → Bool) : (dfP P Q).all (fun x => f x.2.2) = (subP P Q).flatten.all f := by
  rw [← dfP_val, List.all_map]
  rfl
theorem bw_tD {k : Nat} {x : Int × Int × Int} : below k (tD x) = true := rfl
theorem bws_tD {k : Nat} {l : List (Int × Int × Int)} : belows k (l.map tD) = true := belows_all fun x hx => by
  obtain ⟨p, _, rfl⟩ := List.mem_map.mp hx
  rfl
theorem dfRow_len {i : Nat} {r s : List Int} : (dfRow i r s).length ≤ r.length := by
  simp [dfRow, numL_len]
  omega
/-- how one plan is told beside another -/
def ndB (F : List Int) : Bool := F.all fun x => decide (0 ≤ x)
def cmpS (F : List Int) : Str := if F.all (fun x => decide (x = 0)) then "alike" else if F.all (fun x => decide (0 ≤ x)) then "cheaper" else if F.all (fun x => decide (x ≤ 0)) then "dearer" else "neither"
theorem mn_zero {F : List Int} (h : 0 ∈ F) : (mnI F = 0) = (ndB F = true) := by
  have hn : F ≠ [] := fun z => by rw [z] at h; simp at h
  have h1 := mnI_mem hn
  have h2 := (mnI_le (k := mnI F) hn).1 (Int.le_refl _) 0 h
  unfold ndB
  rw [List.all_eq_true]
  refine propext ⟨fun e x hx => ?_, fun e => ?_⟩
  · have := (mnI_le (k := mnI F) hn).1 (Int.le_refl _) x hx
    rw [e] at this
    exact decide_eq_true this
  · have := of_decide_eq_true (e _ h1)
    omega
theorem mx_zero {F : List Int} (h : 0 ∈ F) : (mxI F = 0) = (F.all (fun x => decide (x ≤ 0)) = true) := by
  have hn : F ≠ [] := fun z => by rw [z] at h; simp at h
  have h1 := mxI_mem hn
  have h2 := (mxI_le (k := mxI F) hn).1 (Int.le_refl _) 0 h
  rw [List.all_eq_true]
  refine propext ⟨fun e x hx => ?_, fun e => ?_⟩
  · have := (mxI_le (k := mxI F) hn).1 (Int.le_refl _) x hx
    rw [e] at this
    exact decide_eq_true this
  · have := of_decide_eq_true (e _ h1)
    omega
theorem all_zero {F : List Int} : F.all (fun x => decide (x = 0)) = (ndB F && F.all (fun x => decide (x ≤ 0))) := by
  unfold ndB
  induction F with
  | nil => rfl
  | cons x F ih =>
    simp only [List.all_cons, ih]
    by_cases h1 : x = 0
    · subst h1; simp
    · by_cases h2 : 0 ≤ x
      · have h3 : ¬ x ≤ 0 := by omega
        simp [h1, h2, h3]
      · simp [h1, h2]
theorem zero_in {w : Nat} {p q : List (List Int)} (hp : ∀ r ∈ p, r.length = w) (hq : ∀ r ∈ q, r.length = w) : 0 ∈ (subP (corP w p) (corP w q)).flatten := by
  have e : ∀ p, ∃ c, corP w p = List.replicate (w + 1) 0 :: c := fun p => by
    unfold corP
    cases p with
    | nil => exact ⟨[], rfl⟩
    | cons r p => exact ⟨_, rfl⟩
  obtain ⟨c, ec⟩ := e p
  obtain ⟨d, ed⟩ := e q
  rw [ec, ed]
  simp [subP, List.replicate_succ]
theorem lsts_lI : ∀ {ls : List (List Int)}, lstsD (ls.map lI) = some (ls.map fun r => r.map D.int)
  | [] => rfl
  | r :: ls => by simp [lstsD, lI, lsts_lI (ls := ls)]
theorem sumL_ok {ls : List (List Int)} (h : ls.flatten.length ≤ BIG) : b1 .sumL (dQ false ls) = some (lI ls.flatten) := by
  have e : dQ false ls = .lst (ls.map lI) := rfl
  have e2 : (ls.map fun r => r.map D.int).flatten = ls.flatten.map D.int := by rw [List.map_flatten]
  rw [e]
  simp only [b1, lsts_lI, Option.bind_some, e2, List.length_map, h, if_true]
  rfl
theorem subP_flat_len {P Q : List (List Int)} {w : Nat} (hp : ∀ r ∈ P, r.length = w) : (subP P Q).flatten.length ≤ P.length * w := by
  unfold subP
  rw [← List.flatMap_def]
  refine Nat.le_trans (flat_len (B := w) fun x hx => ?_) (Nat.mul_le_mul_right _ (by simp; omega))
  have := hp _ (List.of_mem_zip hx).1
  simp
  omega
theorem df_len {P Q : List (List Int)} {w : Nat} (hp : ∀ r ∈ P, r.length = w) {j : Nat} : (((numL (P.zip Q)).take j).flatMap fun p => dfRow p.1 p.2.1 p.2.2).length ≤ P.length * w := by
  refine Nat.le_trans (flat_len (B := w) fun x hx => ?_) (Nat.mul_le_mul_right _ (by simp [numL_len]; omega))
  obtain ⟨y, z⟩ := x
  have h1 : z ∈ P.zip Q := by
    have := List.mem_of_mem_take hx
    exact (List.of_mem_zip this).2
  have := hp _ (List.of_mem_zip h1).1
  exact Nat.le_trans dfRow_len (Nat.le_of_eq this)
/-- columns added up -/
def colF (a : List Int) : List (List Int) → List Int
  | [] => a
  | r :: p => colF (List.zipWith (· + ·) a r) p
theorem colF_cl {w : Nat} : ∀ {p : List (List Int)} {a : List Int}, a.length = w → (∀ r ∈ p, r.length = w) → (colF a p).length = w ∧ ∀ j, j < w → cl (colF a p) j = cl a j + colS p j
  | [], a, ha, _ => ⟨ha, fun j _ => by simp [colF, colS]⟩
  | r :: p, a, ha, hp => by
    have hr := hp r (by simp)
    have hl : (List.zipWith (· + ·) a r).length = w := by simp; omega
    obtain ⟨h1, h2⟩ := colF_cl (p := p) hl fun x hx => hp x (by simp [hx])
    refine ⟨h1, fun j hj => ?_⟩
    rw [colF, h2 j hj, zipWith_getD (by omega) (by omega)]
    simp [colS]
    omega
theorem colF_csP {w : Nat} {p : List (List Int)} (hp : ∀ r ∈ p, r.length = w) : colF (List.replicate w 0) p = csP w p := by
  obtain ⟨h1, h2⟩ := colF_cl (p := p) (a := List.replicate w 0) (by simp) hp
  refine List.ext_getElem (by rw [h1, csP_len]) fun j h3 h4 => ?_
  have hj : j < w := by omega
  have e1 := h2 j hj
  have e2 := cl_csP (p := p) hj
  have e0 : cl (List.replicate w (0 : Int)) j = 0 := by simp [cl, List.getD, List.getElem?_replicate, hj]
  rw [e0] at e1
  simp [cl, List.getD, List.getElem?_eq_getElem h3, List.getElem?_eq_getElem h4] at e1 e2
  omega
theorem colF_take {p : List (List Int)} {a : List Int} {j : Nat} {r : List Int} (h : p[j]? = some r) : colF a (p.take (j + 1)) = List.zipWith (· + ·) (colF a (p.take j)) r := by
  induction p generalizing a j with
  | nil => simp at h
  | cons x p ih =>
    cases j with
    | zero => simp at h; subst h; simp [colF]
    | succ j => simp only [List.take_succ_cons, colF]; exact ih (by simpa using h)
end G48
set_option linter.all false
set_option maxRecDepth 100000
/-! several plans beside one another -/
namespace G48
open PySem
def FF (w : Nat) (p q : List (List Int)) : List Int := (subP (corP w p) (corP w q)).flatten
theorem zip_swap' {α β : Type} : ∀ (a : List α) (b : List β), b.zip a = (a.zip b).map fun x => (x.2, x.1)
  | [], b => by simp
  | a :: as, [] => by simp
  | a :: as, b :: bs => by simp [zip_swap' as bs]
theorem subP_neg {P Q : List (List Int)} : subP Q P = (subP P Q).map fun r => r.map fun x => -x := by
  unfold subP
  rw [zip_swap' P Q, List.map_map, List.map_map]
  refine List.map_congr_left fun x _ => ?_
  simp only [Function.comp]
  rw [zip_swap' x.1 x.2, List.map_map, List.map_map]
  refine List.map_congr_left fun y _ => ?_
  simp only [Function.comp]
  omega
theorem FF_neg {w : Nat} {p q : List (List Int)} : FF w q p = (FF w p q).map fun x => -x := by
  unfold FF
  rw [subP_neg, List.map_flatten]
theorem nd_neg {w : Nat} {p q : List (List Int)} : ndB (FF w q p) = (FF w p q).all fun x => decide (x ≤ 0) := by
  unfold ndB
  rw [FF_neg, List.all_map]
  congr 1
  funext x
  simp only [Function.comp]
  congr 1
  exact propext (by omega)
theorem fm_congr {α β : Type} {f g : α → Option β} : ∀ {xs : List α}, (∀ x ∈ xs, f x = g x) → xs.filterMap f = xs.filterMap g
  | [], _ => rfl
  | x :: xs, h => by
    rw [List.filterMap_cons, List.filterMap_cons, h x (by simp), fm_congr fun y hy => h y (by simp [hy])]
/-- places of what is chosen -/
def selL {α : Type} (f : α → Bool) (xs : List α) : List Int := (numL xs).filterMap fun p => if f p.2 then some (p.1 : Int) else none
def optI : List Int → D
  | [] => .non
  | x :: _ => .int x
theorem selL_congr {α : Type} {f g : α → Bool} {xs : List α} (h : ∀ x ∈ xs, f x = g x) : selL f xs = selL g xs := by
  unfold selL
  refine fm_congr fun p hp => ?_
  rw [h p.2 (List.of_mem_zip hp).2]
theorem selL_len {α : Type} {f : α → Bool} {xs : List α} : (selL f xs).length ≤ xs.length := by
  unfold selL
  exact Nat.le_trans (List.length_filterMap_le _ _) (by rw [numL_len]; exact Nat.le_refl _)
theorem selL_take {α : Type} {f : α → Bool} {xs : List α} {j : Nat} {x : α} (h : xs[j]? = some x) : ((numL xs).take (j + 1)).filterMap (fun p => if f p.2 then some (p.1 : Int) else none) = ((numL xs).take j).filterMap (fun p => if f p.2 then some (p.1 : Int) else none) ++ (if f x then [(j : Int)] else []) := by
  rw [take_succ_get (numL_get h), List.filterMap_append]
  congr 1
  cases q : f x <;> simp [q]
def dT (t : Bool) (P : List (List (List Int))) : D := sq t (P.map (dQ t))
theorem Pu.dT {t : Bool} {P : List (List (List Int))} : Pu 3 (dT t P) := Pu.sq fun x hx => by
  obtain ⟨p, _, rfl⟩ := List.mem_map.1 hx
  exact Pu.dQ
theorem dl_dT {P : List (List (List Int))} : dl (dT true P) = dT false P := by
  simp only [dT, sq_true, sq_false, dl, dls_map, List.map_map]
  congr 1
  refine List.map_congr_left fun p _ => ?_
  simp only [Function.comp, dQ_true, dl_dP]
@[simp] theorem peek_dT {m : Mem} {t : Bool} {P : List (List (List Int))} : peek m (dT t P) = dT t P := Pu.dT.peek
@[simp] theorem seqD_dT {t : Bool} {P : List (List (List Int))} : seqD (dT t P) = some (P.map (dQ t)) := by simp [dT]
theorem ix_dT0 {t : Bool} {p : List (List Int)} {P : List (List (List Int))} : ixD (dT t (p :: P)) (.int 0) = some (dQ t p) := by
  unfold dT
  exact ixD_sq (i := 0) rfl
theorem floopR_exc {α : Type} {step : D → QEnv → Mem → R (Fl × QEnv)} {e : α → D} {ρ : QEnv} {m : Mem} {z : D} : ∀ {xs : List α}, (∃ x ∈ xs, step (e x) ρ m = .exc z m) → (∀ x ∈ xs, step (e x) ρ m = .ok (.nx, ρ) m ∨ step (e x) ρ m = .exc z m) → floopR step (xs.map e) ρ m = .exc z m
  | [], ⟨x, hx, _⟩, _ => by simp at hx
  | y :: ys, ⟨x, hx, ex⟩, h => by
    simp only [List.map_cons, floopR]
    rcases h y (by simp) with h1 | h1
    · rw [h1, R.bk_ok]
      show floopR step (ys.map e) ρ m = _
      refine floopR_exc ?_ fun x hx => h x (by simp [hx])
      rcases List.mem_cons.1 hx with q | q
      · subst q; rw [h1] at ex; cases ex
      · exact ⟨x, q, ex⟩
    · rw [h1, R.bk_exc]
theorem floop_exc {α : Type} {step : D → QEnv → Mem → R (Fl × QEnv)} {e : α → D} {ρ : QEnv} {m : Mem} {z : D} {xs : List α} (h1 : ∃ x ∈ xs, step (e x) ρ m = .exc z m) (h2 : ∀ x ∈ xs, step (e x) ρ m = .ok (.nx, ρ) m ∨ step (e x) ρ m = .exc z m) : floop step (xs.map e) ρ m = .exc z m := floopR_exc h1 h2
theorem cloop_enumF {α : Type} {m : Mem} {f : D → Mem → R (Option D)} {e : α → D} {xs : List α} (g : Nat → α → Option D) (h : ∀ j x, xs[j]? = some x → f (.tup [.int (j : Nat), e x]) m = .ok (g j x) m) : cloop f (enumL 0 (xs.map e)) m = .ok ((numL xs).filterMap fun p => g p.1 p.2) m := by
  have e0 := enumL_map e xs 0
  rw [show enumL 0 (xs.map e) = _ from e0]
  refine cloop_filter (fun p : Nat × α => g p.1 p.2) fun pr hp => ?_
  obtain ⟨i, hi⟩ := List.mem_iff_getElem?.mp hp
  obtain ⟨h1, h2⟩ := zip_range_get hi
  rw [Nat.zero_add] at h1
  rw [h1]
  exact h i pr.2 h2
theorem sel_ints {α : Type} {f : α → Bool} {xs : List α} : (numL xs).filterMap (fun p => if f p.2 then some (D.int (p.1 : Int)) else none) = (selL f xs).map .int := by
  unfold selL
  rw [List.map_filterMap]
  refine fm_congr fun p _ => ?_
  cases f p.2 <;> rfl
theorem ix0_lI {r : List Int} (h : 0 < r.length) : ixD (lI r) (.int 0) = some (optI r) := by
  cases r with
  | nil => simp at h
  | cons x r => exact ixD_lst (i := 0) rfl
theorem cmp_cheap {F : List Int} : (cmpS F == ("cheaper" : Str)) = (ndB F && !(F.all fun x => decide (x ≤ 0))) := by
  have e3 := all_zero (F := F)
  have a1 : (("alike" : Str) == ("cheaper" : Str)) = false := by decide
  have a2 : (("cheaper" : Str) == ("cheaper" : Str)) = true := by decide
  have a3 : (("dearer" : Str) == ("cheaper" : Str)) = false := by decide
  have a4 : (("neither" : Str) == ("cheaper" : Str)) = false := by decide
  unfold cmpS
  rw [e3]
  have : (F.all fun x => decide (0 ≤ x)) = ndB F := rfl
  rw [this]
  generalize F.all (fun x => decide (x ≤ 0)) = le
  cases ndB F <;> cases le <;> simp [a1, a2, a3, a4]
end G48
namespace G48
open PySem
theorem cop_eq_nil {n : Nat} {xs : List D} (h : ∀ x ∈ xs, Pu n x) (hn : n + 1 ≤ 60) : cop .eq (.lst xs) (.lst []) = some (.bl xs.isEmpty) := by
  have h1 := (Pu.lst h).mono (k := 60) hn
  have h2 : okd 60 (.lst []) = true := rfl
  simp only [cop, h1.okd, h2, Bool.and_self, if_true, deq, deqs_nil]
theorem cop_ne_lI {r : List Int} : cop .ne (lI r) (.lst []) = some (.bl (!r.isEmpty)) := by
  have := cop_ne_nil (xs := r.map D.int) (n := 0) (fun x hx => by obtain ⟨i, _, rfl⟩ := List.mem_map.1 hx; exact .int) (by omega)
  rw [List.isEmpty_map] at this
  exact this
theorem mnI_all {α : Type} {P : List α} {f : α → List Int} (hP : P ≠ []) (h : ∀ q ∈ P, 0 ∈ f q) : (mnI (P.map fun q => mnI (f q)) = 0) = ((P.all fun q => ndB (f q)) = true) := by
  have hn : (P.map fun q => mnI (f q)) ≠ [] := by simpa using hP
  have le : ∀ q ∈ P, mnI (f q) ≤ 0 := fun q hq => by
    have hf : f q ≠ [] := fun z => by have := h q hq; rw [z] at this; simp at this
    exact (mnI_le (k := mnI (f q)) hf).1 (Int.le_refl _) 0 (h q hq)
  rw [List.all_eq_true]
  refine propext ⟨fun e q hq => ?_, fun e => ?_⟩
  · have h1 := (mnI_le (k := mnI (P.map fun q => mnI (f q))) hn).1 (Int.le_refl _) (mnI (f q)) (List.mem_map.2 ⟨q, hq, rfl⟩)
    rw [e] at h1
    have h2 := le q hq
    have : mnI (f q) = 0 := by omega
    rwa [mn_zero (h q hq)] at this
  · have h1 := mnI_mem hn
    obtain ⟨q, hq, e1⟩ := List.mem_map.1 h1
    have h2 := e q hq
    rw [← mn_zero (h q hq)] at h2
    omega
theorem mxI_all {α : Type} {P : List α} {f : α → List Int} (hP : P ≠ []) (h : ∀ q ∈ P, 0 ∈ f q) : (mxI (P.map fun q => mxI (f q)) = 0) = ((P.all fun q => (f q).all fun x => decide (x ≤ 0)) = true) := by
  have hn : (P.map fun q => mxI (f q)) ≠ [] := by simpa using hP
  have le : ∀ q ∈ P, 0 ≤ mxI (f q) := fun q hq => by
    have hf : f q ≠ [] := fun z => by have := h q hq; rw [z] at this; simp at this
    exact (mxI_le (k := mxI (f q)) hf).1 (Int.le_refl _) 0 (h q hq)
  rw [List.all_eq_true]
  refine propext ⟨fun e q hq => ?_, fun e => ?_⟩
  · have h1 := (mxI_le (k := mxI (P.map fun q => mxI (f q))) hn).1 (Int.le_refl _) (mxI (f q)) (List.mem_map.2 ⟨q, hq, rfl⟩)
    rw [e] at h1
    have h2 := le q hq
    have : mxI (f q) = 0 := by omega
    rwa [mx_zero (h q hq)] at this
  · have h1 := mxI_mem hn
    obtain ⟨q, hq, e1⟩ := List.mem_map.1 h1
    have h2 := e q hq
    rw [← mx_zero (h q hq)] at h2
    omega
theorem mn_neg {F : List Int} (h : 0 ∈ F) : (mnI F < 0) = (ndB F = false) := by
  have hF : F ≠ [] := fun z => by rw [z] at h; simp at h
  have h1 := (mnI_le (k := mnI F) hF).1 (Int.le_refl _) 0 h
  have h2 := mn_zero h
  refine propext ⟨fun e => ?_, fun e => ?_⟩
  · cases q : ndB F with
    | false => rfl
    | true => rw [← h2] at q; omega
  · rcases Int.lt_or_eq_of_le h1 with z | z
    · exact z
    · rw [h2, e] at z; cases z
theorem fm_dec {α : Type} {e : α → D} {f : α → Bool} {P : List α} : (P.filterMap fun p => if f p then some (e p) else none).isEmpty = !(P.any f) := by
  induction P with
  | nil => rfl
  | cons x P ih =>
    rw [List.filterMap_cons, List.any_cons]
    cases q : f x
    · simpa [q] using ih
    · simp
end G48
set_option linter.all false
set_option maxRecDepth 100000
/-! G48: stretches of a road, the corners that it sees. -/
namespace G48
open PySem
def cntL (r : List Int) (h : Int) : Nat := (r.filter fun x => decide (x ≤ h)).length
def ztL (S : List Int) : List (Int × Int) := S.zip S.tail
theorem zt_mem {S : List Int} {z : Int × Int} (h : z ∈ ztL S) : z.1 ∈ S ∧ z.2 ∈ S := by
  obtain ⟨h1, h2⟩ := List.of_mem_zip h
  exact ⟨h1, List.mem_of_mem_tail h2⟩
theorem zt_pw : ∀ {S : List Int}, S.Pairwise (· < ·) → (ztL S).Pairwise (fun p q => p.1 < q.1)
  | [], _ => by simp [ztL]
  | [x], _ => by simp [ztL]
  | x :: y :: r, h => by
    have h2 := List.pairwise_cons.1 h
    have ih := zt_pw h2.2
    show ((x, y) :: ztL (y :: r)).Pairwise _
    exact List.pairwise_cons.2 ⟨fun q hq => h2.1 _ (zt_mem hq).1, ih⟩
theorem zt_next : ∀ {S : List Int}, S.Pairwise (· < ·) → ∀ {h s : Int}, h ∈ S → s ∈ S → h < s → ∃ t, (h, t) ∈ ztL S
  | [], _, h, s, h1, _, _ => by simp at h1
  | [x], _, h, s, h1, h2, h3 => by
    simp at h1 h2
    omega
  | x :: y :: r, hp, h, s, h1, h2, h3 => by
    have h4 := List.pairwise_cons.1 hp
    rcases List.mem_cons.1 h1 with rfl | h1'
    · exact ⟨y, by simp [ztL]⟩
    · have : s ∈ y :: r := by
        rcases List.mem_cons.1 h2 with rfl | h2'
        · have := h4.1 h h1'
          omega
        · exact h2'
      obtain ⟨t, ht⟩ := zt_next h4.2 h1' this h3
      exact ⟨t, by show _ ∈ (x, y) :: ztL (y :: r); exact List.mem_cons_of_mem _ ht⟩
theorem zt_lt : ∀ {S : List Int}, S.Pairwise (· < ·) → ∀ z ∈ ztL S, z.1 < z.2
  | [], _, z, h => by simp [ztL] at h
  | [x], _, z, h => by simp [ztL] at h
  | x :: y :: r, hp, z, h => by
    have h4 := List.pairwise_cons.1 hp
    have h' : z ∈ (x, y) :: ztL (y :: r) := h
    rcases List.mem_cons.1 h' with rfl | h'
    · exact h4.1 y (by simp)
    · exact zt_lt h4.2 z h'
/-- all that lies behind a spot -/
theorem zt_tele : ∀ {S : List Int}, S.Pairwise (· < ·) → ∀ {x : Int}, x ∈ S → ((ztL S).map fun z => if x ≤ z.1 then z.2 - z.1 else 0).sum = S.getLastD 0 - x
  | [], _, x, h => by simp at h
  | [a], _, x, h => by
    simp at h
    simp [ztL, h]
  | a :: y :: r, hp, x, h => by
    have h4 := List.pairwise_cons.1 hp
    have e : ztL (a :: y :: r) = (a, y) :: ztL (y :: r) := rfl
    have el : (a :: y :: r).getLastD 0 = (y :: r).getLastD 0 := by simp [List.getLastD]
    rw [e, List.map_cons, List.sum_cons, el]
    rcases List.mem_cons.1 h with rfl | h'
    · have ih := zt_tele h4.2 (x := y) (by simp)
      have e2 : ((ztL (y :: r)).map fun z => if x ≤ z.1 then z.2 - z.1 else 0) = (ztL (y :: r)).map fun z => if y ≤ z.1 then z.2 - z.1 else 0 := by
        refine List.map_congr_left fun z hz => ?_
        have h1 := (zt_mem hz).1
        have h2 := h4.1 _ h1
        have h3 : y ≤ z.1 := by
          rcases List.mem_cons.1 h1 with e | e
          · omega
          · have := (List.pairwise_cons.1 h4.2).1 _ e
            omega
        rw [if_pos (by omega), if_pos h3]
      rw [e2, ih]
      simp
      omega
    · have ih := zt_tele h4.2 h'
      have := h4.1 x h'
      rw [ih]
      simp only [show ¬ x ≤ a by omega, if_false]
      omega
def spots (a b : List Int) : List Int := srtS (a ++ b)
theorem spots_up {a b : List Int} : (spots a b).Pairwise (· < ·) := srtS_up _
theorem spots_mem {a b : List Int} {x : Int} : x ∈ spots a b ↔ x ∈ a ∨ x ∈ b := by
  rw [spots, srtS_mem, List.mem_append]
theorem absI_max {x y : Int} : absI (y - x) = 2 * max x y - x - y := by
  unfold absI
  split <;> omega
/-- counting in a row that does not fall -/
theorem cnt_iff : ∀ {a : List Int} {h : Int}, a.Pairwise (· ≤ ·) → ∀ {i : Nat}, i < a.length → (cl a i ≤ h ↔ i < cntL a h)
  | [], h, _, i, hi => by simp at hi
  | x :: a, h, hp, i, hi => by
    have h2 := List.pairwise_cons.1 hp
    by_cases hx : x ≤ h
    · have ec : cntL (x :: a) h = cntL a h + 1 := by simp [cntL, hx]
      rw [ec]
      cases i with
      | zero =>
        have : cl (x :: a) 0 = x := rfl
        rw [this]
        exact ⟨fun _ => by omega, fun _ => hx⟩
      | succ i =>
        have e : cl (x :: a) (i + 1) = cl a i := rfl
        rw [e, cnt_iff h2.2 (by simpa using hi)]
        omega
    · have ec : cntL (x :: a) h = 0 := by
        unfold cntL
        rw [List.length_eq_zero_iff, List.filter_eq_nil_iff]
        intro y hy
        rcases List.mem_cons.1 hy with rfl | hy
        · simpa using hx
        · have := h2.1 y hy
          simp
          omega
      rw [ec]
      have : x ≤ cl (x :: a) i := by
        cases i with
        | zero => exact Int.le_refl _
        | succ i => exact h2.1 _ (cl_mem (by simpa using hi))
      omega
theorem cnt_le {a : List Int} {h : Int} : cntL a h ≤ a.length := List.length_filter_le _ _
def lS {α : Type} (L : List α) (f : α → Int) : Int := (L.map f).sum
theorem lS_sN {α : Type} {n : Nat} {f : α → Nat → Int} : ∀ {L : List α}, lS L (fun x => sN n (f x)) = sN n fun i => lS L fun x => f x i
  | [] => (sN_0).symm
  | x :: L => by
    have ih := lS_sN (f := f) (L := L) (n := n)
    show sN n (f x) + lS L (fun x => sN n (f x)) = sN n fun i => f x i + lS L fun x => f x i
    rw [ih, sN_add]
theorem lS_congr {α : Type} {f g : α → Int} {L : List α} (h : ∀ x ∈ L, f x = g x) : lS L f = lS L g := by
  unfold lS
  rw [List.map_congr_left h]
theorem lS_mul {α : Type} {f : α → Int} {k : Int} : ∀ {L : List α}, lS L (fun x => k * f x) = k * lS L f
  | [] => by simp [lS]
  | x :: L => by
    have ih := lS_mul (f := f) (k := k) (L := L)
    show k * f x + lS L (fun x => k * f x) = k * (f x + lS L f)
    rw [ih, Int.mul_add]
theorem sN_mulr {n : Nat} {f : Nat → Int} {k : Int} : sN n (fun i => k * f i) = k * sN n f := by
  induction n with
  | zero => simp [sN_zero]
  | succ n ih => rw [sN_succ, sN_succ, ih, Int.mul_add]
theorem sN_cut {n k : Nat} {f : Nat → Int} (h : k ≤ n) : sN n (fun i => if i < k then f i else 0) = sN k f := by
  induction n with
  | zero => have : k = 0 := by omega
            rw [this]; rfl
  | succ n ih =>
    rw [sN_succ]
    by_cases hk : k ≤ n
    · rw [ih hk, if_neg (by omega)]; omega
    · have : k = n + 1 := by omega
      subst this
      rw [if_pos (by omega), sN_succ]
      congr 1
      exact sN_congr fun i hi => by rw [if_pos (by omega)]
theorem toll_abs {x : Int} : tollP 0 [(0, 1)] x = absI x := by
  simp [tollP]
theorem box_sum {A B I J : Nat} {c : Int} {E : Nat → Nat → Int} (hI : I ≤ A) (hJ : J ≤ B) : (sN A fun i => sN B fun j => E i j * (if i < I ∧ j < J then c else 0)) = c * sN I fun i => sN J (E i) := by
  have h1 : (sN A fun i => sN B fun j => E i j * (if i < I ∧ j < J then c else 0)) = sN A fun i => if i < I then c * sN J (E i) else 0 := sN_congr fun i _ => by
    by_cases hi : i < I
    · rw [if_pos hi, ← sN_mulr, ← sN_cut hJ]
      refine sN_congr fun j _ => ?_
      by_cases hj : j < J
      · rw [if_pos ⟨hi, hj⟩, if_pos hj, Int.mul_comm]
      · rw [if_neg (fun z => hj z.2), if_neg hj, Int.mul_zero]
    · rw [if_neg hi]
      rw [sN_congr (g := fun _ => 0) fun j _ => by rw [if_neg (fun z => hi z.1), Int.mul_zero]]
      exact sN_0
  rw [h1, sN_cut hI, sN_mulr]
/-- the bills of two mates differ by the corners that the stretches see -/
theorem bill_str {a b : List Int} {w : Nat} {p q : List (List Int)} (sa : a.Pairwise (· ≤ ·)) (sb : b.Pairwise (· ≤ ·)) (ha : a.length = p.length) (hb : b.length = w) (hp : ∀ r ∈ p, r.length = w) (M : Mate w p q) :
    billP 0 [(0, 1)] a b q = billP 0 [(0, 1)] a b p + lS (ztL (spots a b)) fun z => 2 * (z.2 - z.1) * (cP p (cntL a z.1) (cntL b z.1) - cP q (cntL a z.1) (cntL b z.1)) := by
  have hlq : q.length = a.length := by rw [M.len, ha]
  rw [billP_sN (p := q) hlq (fun r hr => by rw [M.rect r hr, hb]), billP_sN (p := p) ha.symm (fun r hr => by rw [hp r hr, hb])]
  let E : Nat → Nat → Int := fun i j => cl (rowP p i) j - cl (rowP q i) j
  let last : Int := (spots a b).getLastD 0
  have s1 : (lS (ztL (spots a b)) fun z => 2 * (z.2 - z.1) * (cP p (cntL a z.1) (cntL b z.1) - cP q (cntL a z.1) (cntL b z.1))) = sN a.length fun i => sN b.length fun j => E i j * (2 * (last - max (cl a i) (cl b j))) := by
    have e1 : ∀ z ∈ ztL (spots a b), 2 * (z.2 - z.1) * (cP p (cntL a z.1) (cntL b z.1) - cP q (cntL a z.1) (cntL b z.1)) = sN a.length fun i => sN b.length fun j => E i j * (if max (cl a i) (cl b j) ≤ z.1 then 2 * (z.2 - z.1) else 0) := fun z hz => by
      have e2 : (sN a.length fun i => sN b.length fun j => E i j * (if max (cl a i) (cl b j) ≤ z.1 then 2 * (z.2 - z.1) else 0)) = sN a.length fun i => sN b.length fun j => E i j * (if i < cntL a z.1 ∧ j < cntL b z.1 then 2 * (z.2 - z.1) else 0) := sN_congr fun i hi => sN_congr fun j hj => by
        have c1 := cnt_iff (h := z.1) sa hi
        have c2 := cnt_iff (h := z.1) sb hj
        by_cases hc : i < cntL a z.1 ∧ j < cntL b z.1
        · rw [if_pos hc, if_pos (by have := c1.2 hc.1; have := c2.2 hc.2; omega)]
        · rw [if_neg hc, if_neg (fun hm => hc ⟨c1.1 (by omega), c2.1 (by omega)⟩)]
      rw [e2, box_sum cnt_le cnt_le]
      congr 1
      unfold cP
      rw [← sN_sub]
      exact sN_congr fun i _ => sN_sub.symm
    rw [lS_congr e1, lS_sN]
    refine sN_congr fun i hi => ?_
    rw [lS_sN]
    refine sN_congr fun j hj => ?_
    rw [lS_mul]
    congr 1
    have hm : max (cl a i) (cl b j) ∈ spots a b := by
      rw [spots_mem]
      rcases Int.le_total (cl a i) (cl b j) with h | h
      · right
        rw [Int.max_eq_right h]
        exact cl_mem hj
      · left
        rw [Int.max_eq_left h]
        exact cl_mem hi
    have t := zt_tele spots_up hm
    have e3 : (lS (ztL (spots a b)) fun z => if max (cl a i) (cl b j) ≤ z.1 then 2 * (z.2 - z.1) else 0) = lS (ztL (spots a b)) fun z => 2 * (if max (cl a i) (cl b j) ≤ z.1 then z.2 - z.1 else 0) := lS_congr fun z _ => by
      split <;> simp
    rw [e3, lS_mul]
    congr 1
  rw [s1]
  have r0 : ∀ i, i < a.length → sN b.length (E i) = 0 := fun i hi => by
    have e1 := sum_sN (r := rowP p i)
    have e2 := sum_sN (r := rowP q i)
    have r1 : (rowP p i).length = b.length := by rw [hb]; exact hp _ (rowP_mem (by omega))
    have r2 : (rowP q i).length = b.length := by rw [hb]; exact M.rect _ (rowP_mem (by omega))
    rw [r1] at e1
    rw [r2] at e2
    have := M.row i
    show sN b.length (fun j => cl (rowP p i) j - cl (rowP q i) j) = 0
    rw [sN_sub]
    omega
  have c0 : ∀ j, j < b.length → sN a.length (fun i => E i j) = 0 := fun j hj => by
    have e1 := colS_sN (p := p) (j := j)
    have e2 := colS_sN (p := q) (j := j)
    rw [← ha] at e1
    rw [hlq] at e2
    have := M.col j
    show sN a.length (fun i => cl (rowP p i) j - cl (rowP q i) j) = 0
    rw [sN_sub]
    omega
  have z1 : (sN a.length fun i => sN b.length fun j => (last - cl a i) * E i j) = 0 := by
    rw [sN_congr (g := fun _ => 0) fun i hi => by rw [sN_mulr, r0 i hi, Int.mul_zero]]
    exact sN_0
  have z2 : (sN a.length fun i => sN b.length fun j => (last - cl b j) * E i j) = 0 := by
    rw [sN_comm, sN_congr (g := fun _ => 0) fun j hj => by rw [sN_mulr, c0 j hj, Int.mul_zero]]
    exact sN_0
  have key : (sN a.length fun i => sN b.length fun j => cl (rowP q i) j * tollP 0 [(0, 1)] (cl b j - cl a i)) = (sN a.length fun i => sN b.length fun j => cl (rowP p i) j * tollP 0 [(0, 1)] (cl b j - cl a i)) + (sN a.length fun i => sN b.length fun j => E i j * (2 * (last - max (cl a i) (cl b j)))) - (sN a.length fun i => sN b.length fun j => (last - cl a i) * E i j) - (sN a.length fun i => sN b.length fun j => (last - cl b j) * E i j) := by
    rw [← sN_add, ← sN_sub, ← sN_sub]
    refine sN_congr fun i _ => ?_
    rw [← sN_add, ← sN_sub, ← sN_sub]
    refine sN_congr fun j _ => ?_
    rw [toll_abs, absI_max]
    show _ = _
    simp only [E]
    generalize max (cl a i) (cl b j) = mx
    generalize cl (rowP q i) j = u
    generalize cl (rowP p i) j = v
    grind
  rw [key, z1, z2]
  omega
theorem pw_unique {α : Type} {R : α → α → Prop} (asym : ∀ a b, R a b → R b a → False) : ∀ {a b : List α}, a.Pairwise R → b.Pairwise R → (∀ k, k ∈ a ↔ k ∈ b) → a = b
  | [], [], _, _, _ => rfl
  | [], y :: b, _, _, h => by have := (h y).2 (by simp); simp at this
  | x :: a, [], _, _, h => by have := (h x).1 (by simp); simp at this
  | x :: a, y :: b, ha, hb, h => by
    have h1 := List.pairwise_cons.1 ha
    have h2 := List.pairwise_cons.1 hb
    have e : x = y := by
      rcases List.mem_cons.1 ((h x).1 (by simp)) with e | e
      · exact e
      · rcases List.mem_cons.1 ((h y).2 (by simp)) with e' | e'
        · exact e'.symm
        · exact (asym _ _ (h2.1 x e) (h1.1 y e')).elim
    subst e
    rw [pw_unique asym h1.2 h2.2 fun k => ?_]
    constructor
    · intro hk
      rcases List.mem_cons.1 ((h k).1 (List.mem_cons_of_mem _ hk)) with e | e
      · subst e
        exact (asym _ _ (h1.1 k hk) (h1.1 k hk)).elim
      · exact e
    · intro hk
      rcases List.mem_cons.1 ((h k).2 (List.mem_cons_of_mem _ hk)) with e | e
      · subst e
        exact (asym _ _ (h2.1 k hk) (h2.1 k hk)).elim
      · exact e
theorem cnt_cons {y : Int} {a : List Int} {h : Int} : cntL (y :: a) h = (if y ≤ h then 1 else 0) + cntL a h := by
  by_cases hy : y ≤ h <;> simp [cntL, hy]
  omega
theorem cnt_mono {h k : Int} (hk : h ≤ k) : ∀ {a : List Int}, cntL a h ≤ cntL a k
  | [] => Nat.le_refl _
  | y :: a => by
    have ih := cnt_mono hk (a := a)
    rw [cnt_cons, cnt_cons]
    split <;> split <;> omega
theorem cnt_strict {h k : Int} (hk : h < k) : ∀ {a : List Int}, k ∈ a → cntL a h < cntL a k
  | [], hm => by simp at hm
  | y :: a, hm => by
    rw [cnt_cons, cnt_cons]
    rcases List.mem_cons.1 hm with rfl | hm
    · have := cnt_mono (show h ≤ k by omega) (a := a)
      rw [if_neg (by omega), if_pos (Int.le_refl _)]
      omega
    · have ih := cnt_strict hk hm
      split <;> split <;> omega
def ltP (p q : Int × Int) : Prop := p.1 < q.1 ∨ (p.1 = q.1 ∧ p.2 < q.2)
theorem ltP_asym (p q : Int × Int) (h : ltP p q) (k : ltP q p) : False := by
  unfold ltP at h k
  omega
theorem ltP_le {p q : Int × Int} (h : ltP p q) : leP p q = true := by
  unfold ltP at h
  unfold leP
  rcases h with h | ⟨h1, h2⟩
  · simp [h]
  · have : p.2 ≤ q.2 := by omega
    simp [h1, this]
def inB (a b : List Int) (z : Int × Int) : Prop := 0 < cntL a z.1 ∧ cntL a z.1 < a.length ∧ 0 < cntL b z.1 ∧ cntL b z.1 < b.length
instance {a b : List Int} {z : Int × Int} : Decidable (inB a b z) := inferInstanceAs (Decidable (_ ∧ _))
def viewP (a b : List Int) : List (Int × Int) := (ztL (spots a b)).filterMap fun z => if inB a b z then some ((cntL a z.1 : Int), (cntL b z.1 : Int)) else none
def seenRow (a b : List Int) (i k : Nat) : List (Int × Int) := (List.range k).filterMap fun (j : Nat) => if max (cl a i) (cl b j) < min (cl a (i + 1)) (cl b (j + 1)) then some ((i : Int) + 1, (j : Int) + 1) else none
def seenP (a b : List Int) (n : Nat) : List (Int × Int) := (List.range n).flatMap fun i => seenRow a b i (b.length - 1)
theorem view_pw {a b : List Int} : (viewP a b).Pairwise ltP := by
  unfold viewP
  rw [List.pairwise_filterMap]
  refine (zt_pw spots_up).imp_of_mem fun {z z'} hz hz' hlt y hy y' hy' => ?_
  split at hy
  · split at hy'
    · cases hy
      cases hy'
      have h1 := cnt_mono (show z.1 ≤ z'.1 by omega) (a := a)
      have h2 := cnt_mono (show z.1 ≤ z'.1 by omega) (a := b)
      have h3 : cntL a z.1 < cntL a z'.1 ∨ cntL b z.1 < cntL b z'.1 := by
        rcases spots_mem.1 (zt_mem hz').1 with m | m
        · exact .inl (cnt_strict hlt m)
        · exact .inr (cnt_strict hlt m)
      unfold ltP
      simp only
      omega
    · cases hy'
  · cases hy
theorem seen_pw {a b : List Int} {n : Nat} : (seenP a b n).Pairwise ltP := by
  unfold seenP
  rw [List.pairwise_flatMap]
  constructor
  · intro i _
    unfold seenRow
    rw [List.pairwise_filterMap]
    refine List.pairwise_lt_range.imp fun {j j'} hj y hy y' hy' => ?_
    split at hy
    · split at hy'
      · cases hy
        cases hy'
        exact .inr ⟨rfl, by show (j : Int) + 1 < (j' : Int) + 1; omega⟩
      · cases hy'
    · cases hy
  · refine List.pairwise_lt_range.imp fun {i i'} hi y hy y' hy' => ?_
    unfold seenRow at hy hy'
    obtain ⟨j, _, e⟩ := List.mem_filterMap.1 hy
    obtain ⟨j', _, e'⟩ := List.mem_filterMap.1 hy'
    split at e
    · split at e'
      · cases e
        cases e'
        exact .inl (by show (i : Int) + 1 < (i' : Int) + 1; omega)
      · cases e'
    · cases e
theorem seen_view {a b : List Int} (sa : a.Pairwise (· ≤ ·)) (sb : b.Pairwise (· ≤ ·)) : seenP a b (a.length - 1) = viewP a b := by
  refine pw_unique ltP_asym seen_pw view_pw fun k => ?_
  constructor
  · intro hk
    obtain ⟨i, hi, hk⟩ := List.mem_flatMap.1 hk
    obtain ⟨j, hj, e⟩ := List.mem_filterMap.1 hk
    rw [List.mem_range] at hi hj
    split at e
    · rename_i hc
      cases e
      have hm : max (cl a i) (cl b j) ∈ spots a b := by
        rw [spots_mem]
        rcases Int.le_total (cl a i) (cl b j) with h | h
        · right
          rw [Int.max_eq_right h]
          exact cl_mem (by omega)
        · left
          rw [Int.max_eq_left h]
          exact cl_mem (by omega)
      have hm2 : cl a (i + 1) ∈ spots a b := spots_mem.2 (.inl (cl_mem (by omega)))
      obtain ⟨t, ht⟩ := zt_next spots_up hm hm2 (by omega)
      have c1 := cnt_iff (h := max (cl a i) (cl b j)) sa (i := i) (by omega)
      have c2 := cnt_iff (h := max (cl a i) (cl b j)) sa (i := i + 1) (by omega)
      have c3 := cnt_iff (h := max (cl a i) (cl b j)) sb (i := j) (by omega)
      have c4 := cnt_iff (h := max (cl a i) (cl b j)) sb (i := j + 1) (by omega)
      have d1 : i < cntL a (max (cl a i) (cl b j)) := c1.1 (by omega)
      have d2 : ¬ i + 1 < cntL a (max (cl a i) (cl b j)) := fun z => by have := c2.2 z; omega
      have d3 : j < cntL b (max (cl a i) (cl b j)) := c3.1 (by omega)
      have d4 : ¬ j + 1 < cntL b (max (cl a i) (cl b j)) := fun z => by have := c4.2 z; omega
      refine List.mem_filterMap.2 ⟨_, ht, ?_⟩
      generalize max (cl a i) (cl b j) = h at *
      have e1 : cntL a h = i + 1 := by omega
      have e2 : cntL b h = j + 1 := by omega
      rw [if_pos (by unfold inB; simp only; omega)]
      simp only [e1, e2]
      rfl
    · cases e
  · intro hk
    obtain ⟨z, hz, e⟩ := List.mem_filterMap.1 hk
    split at e
    · rename_i hc
      cases e
      obtain ⟨h1, h2, h3, h4⟩ := hc
      have c1 := cnt_iff (h := z.1) sa (i := cntL a z.1 - 1) (by omega)
      have c2 := cnt_iff (h := z.1) sa (i := cntL a z.1) (by omega)
      have c3 := cnt_iff (h := z.1) sb (i := cntL b z.1 - 1) (by omega)
      have c4 := cnt_iff (h := z.1) sb (i := cntL b z.1) (by omega)
      have d1 := c1.2 (by omega)
      have d2 : ¬ cl a (cntL a z.1) ≤ z.1 := fun y => by have := c2.1 y; omega
      have d3 := c3.2 (by omega)
      have d4 : ¬ cl b (cntL b z.1) ≤ z.1 := fun y => by have := c4.1 y; omega
      refine List.mem_flatMap.2 ⟨cntL a z.1 - 1, List.mem_range.2 (by omega), List.mem_filterMap.2 ⟨cntL b z.1 - 1, List.mem_range.2 (by omega), ?_⟩⟩
      have e1 : cntL a z.1 - 1 + 1 = cntL a z.1 := by omega
      have e2 : cntL b z.1 - 1 + 1 = cntL b z.1 := by omega
      rw [e1, e2, if_pos (by omega)]
      congr 2
      · omega
      · omega
    · cases e
theorem view_srt {a b : List Int} : srtP (viewP a b) = viewP a b := upP_unique (srtP_up _) (view_pw.imp fun h => ltP_le h) (srtP_perm _)
theorem pairs_map : ∀ (l : List (Int × Int)), pairsD (l.map prD2) = some l
  | [] => rfl
  | x :: l => by
    have := pairs_map l
    simp [pairsD, prD2, this]
theorem seenP_succ {a b : List Int} {n : Nat} : seenP a b (n + 1) = seenP a b n ++ seenRow a b n (b.length - 1) := by
  unfold seenP
  rw [List.range_succ, List.flatMap_append]
  simp
theorem seenRow_succ {a b : List Int} {i k : Nat} : seenRow a b i (k + 1) = seenRow a b i k ++ (if max (cl a i) (cl b k) < min (cl a (i + 1)) (cl b (k + 1)) then [((i : Int) + 1, (k : Int) + 1)] else []) := by
  unfold seenRow
  rw [List.range_succ, List.filterMap_append]
  congr 1
  by_cases h : max (cl a i) (cl b k) < min (cl a (i + 1)) (cl b (k + 1))
  · rw [if_pos h]
    simp only [List.filterMap_cons, if_pos h, List.filterMap_nil]
  · rw [if_neg h]
    simp only [List.filterMap_cons, if_neg h, List.filterMap_nil]
theorem zt_len {a b : List Int} : (ztL (spots a b)).length ≤ a.length + b.length := by
  have := srtS_le (a ++ b)
  unfold ztL spots
  simp only [List.length_zip, List.length_tail, List.length_append] at this ⊢
  omega
theorem cnt_fm {r : List Int} {h : Int} : (r.filterMap fun x => if x ≤ h then some (D.int x) else none).length = cntL r h := by
  induction r with
  | nil => rfl
  | cons x r ih =>
    rw [cnt_cons]
    by_cases hx : x ≤ h
    · simp only [List.filterMap_cons, if_pos hx, List.length_cons, ih]
      omega
    · simp only [List.filterMap_cons, if_neg hx, ih]
      omega
end G48
set_option linter.all false
set_option maxRecDepth 100000
/-! G48: loaves that pass a stretch. -/
namespace G48
open PySem
/-- one end lies behind, one ahead -/
def midB (x y : Int) (z : Int × Int) : Int := if min x y ≤ z.1 ∧ z.2 ≤ max x y then 1 else 0
theorem zt_gap : ∀ {S : List Int}, S.Pairwise (· < ·) → ∀ {z : Int × Int}, z ∈ ztL S → ∀ {s : Int}, s ∈ S → s ≤ z.1 ∨ z.2 ≤ s
  | [], _, z, h, s, hs => by simp at hs
  | [x], _, z, h, s, hs => by simp [ztL] at h
  | x :: y :: r, hp, z, h, s, hs => by
    have h4 := List.pairwise_cons.1 hp
    have h5 := List.pairwise_cons.1 h4.2
    have h' : z ∈ (x, y) :: ztL (y :: r) := h
    rcases List.mem_cons.1 h' with rfl | h7
    · rcases List.mem_cons.1 hs with rfl | hs
      · left
        exact Int.le_refl _
      · right
        rcases List.mem_cons.1 hs with rfl | hs
        · exact Int.le_refl _
        · have := h5.1 s hs
          show y ≤ s
          omega
    · rcases List.mem_cons.1 hs with rfl | hs
      · left
        have := h4.1 _ (zt_mem h7).1
        omega
      · exact zt_gap h4.2 h7 hs
theorem mid_eq {a b : List Int} {z : Int × Int} (hz : z ∈ ztL (spots a b)) {x y : Int} (hx : x ∈ spots a b) (hy : y ∈ spots a b) : midB x y z = (if x ≤ z.1 then 1 else 0) + (if y ≤ z.1 then 1 else 0) - 2 * (if x ≤ z.1 ∧ y ≤ z.1 then 1 else 0) := by
  have h1 := zt_gap spots_up hz hx
  have h2 := zt_gap spots_up hz hy
  have h3 := zt_lt spots_up z hz
  unfold midB
  by_cases cx : x ≤ z.1 <;> by_cases cy : y ≤ z.1
  · rw [if_neg (by omega), if_pos cx, if_pos cy, if_pos ⟨cx, cy⟩]
    rfl
  · rw [if_pos (by omega), if_pos cx, if_neg cy, if_neg (fun h => cy h.2)]
    rfl
  · rw [if_pos (by omega), if_neg cx, if_pos cy, if_neg (fun h => cx h.1)]
    rfl
  · rw [if_neg (by omega), if_neg cx, if_neg cy, if_neg (fun h => cx h.1)]
    rfl
/-- what passes a stretch -/
def passP (a b : List Int) (p : List (List Int)) (z : Int × Int) : Int := sN a.length fun i => sN b.length fun j => cl (rowP p i) j * midB (cl a i) (cl b j) z
theorem pass_eq {a b : List Int} {p : List (List Int)} (sa : a.Pairwise (· ≤ ·)) (sb : b.Pairwise (· ≤ ·)) {z : Int × Int} (hz : z ∈ ztL (spots a b)) :
    passP a b p z = cP p (cntL a z.1) b.length + cP p a.length (cntL b z.1) - 2 * cP p (cntL a z.1) (cntL b z.1) := by
  have e : passP a b p z = (sN a.length fun i => sN b.length fun j => cl (rowP p i) j * (if i < cntL a z.1 ∧ j < b.length then 1 else 0)) + (sN a.length fun i => sN b.length fun j => cl (rowP p i) j * (if i < a.length ∧ j < cntL b z.1 then 1 else 0)) - (sN a.length fun i => sN b.length fun j => cl (rowP p i) j * (if i < cntL a z.1 ∧ j < cntL b z.1 then 2 else 0)) := by
    unfold passP
    rw [← sN_add, ← sN_sub]
    refine sN_congr fun i hi => ?_
    rw [← sN_add, ← sN_sub]
    refine sN_congr fun j hj => ?_
    rw [mid_eq hz (spots_mem.2 (.inl (cl_mem hi))) (spots_mem.2 (.inr (cl_mem hj)))]
    have c1 := cnt_iff (h := z.1) sa hi
    have c2 := cnt_iff (h := z.1) sb hj
    generalize cl (rowP p i) j = u
    by_cases d1 : i < cntL a z.1 <;> by_cases d2 : j < cntL b z.1
    · rw [if_pos (c1.2 d1), if_pos (c2.2 d2), if_pos ⟨c1.2 d1, c2.2 d2⟩, if_pos ⟨d1, hj⟩, if_pos ⟨hi, d2⟩, if_pos ⟨d1, d2⟩]
      omega
    · rw [if_pos (c1.2 d1), if_neg (fun h => d2 (c2.1 h)), if_neg (fun h => d2 (c2.1 h.2)), if_pos ⟨d1, hj⟩, if_neg (fun h => d2 h.2), if_neg (fun h => d2 h.2)]
      omega
    · rw [if_neg (fun h => d1 (c1.1 h)), if_pos (c2.2 d2), if_neg (fun h => d1 (c1.1 h.1)), if_neg (fun h => d1 h.1), if_pos ⟨hi, d2⟩, if_neg (fun h => d1 h.1)]
      omega
    · rw [if_neg (fun h => d1 (c1.1 h)), if_neg (fun h => d2 (c2.1 h)), if_neg (fun h => d1 (c1.1 h.1)), if_neg (fun h => d1 h.1), if_neg (fun h => d2 h.2), if_neg (fun h => d1 h.1)]
      omega
  rw [e, box_sum cnt_le (Nat.le_refl _), box_sum (Nat.le_refl _) cnt_le, box_sum cnt_le cnt_le]
  unfold cP
  omega
/-- the bill by distances is what passes, times the stretches -/
theorem bill_pass {a b : List Int} {p : List (List Int)} (hl : p.length = a.length) (hw : ∀ r ∈ p, r.length = b.length) : billP 0 [(0, 1)] a b p = lS (ztL (spots a b)) fun z => (z.2 - z.1) * passP a b p z := by
  rw [billP_sN hl hw]
  have e1 : ∀ z ∈ ztL (spots a b), (z.2 - z.1) * passP a b p z = sN a.length fun i => sN b.length fun j => cl (rowP p i) j * ((z.2 - z.1) * midB (cl a i) (cl b j) z) := fun z _ => by
    unfold passP
    rw [← sN_mulr]
    refine sN_congr fun i _ => ?_
    rw [← sN_mulr]
    refine sN_congr fun j _ => ?_
    grind
  rw [lS_congr e1, lS_sN]
  refine sN_congr fun i hi => ?_
  rw [lS_sN]
  refine sN_congr fun j hj => ?_
  rw [lS_mul]
  congr 1
  have hx : cl a i ∈ spots a b := spots_mem.2 (.inl (cl_mem hi))
  have hy : cl b j ∈ spots a b := spots_mem.2 (.inr (cl_mem hj))
  have hm : max (cl a i) (cl b j) ∈ spots a b := by
    rcases Int.le_total (cl a i) (cl b j) with h | h
    · rw [Int.max_eq_right h]; exact hy
    · rw [Int.max_eq_left h]; exact hx
  have t1 := zt_tele spots_up hx
  have t2 := zt_tele spots_up hy
  have t3 := zt_tele spots_up hm
  have add : ∀ (f g h : Int × Int → Int) (L : List (Int × Int)), lS L (fun z => f z + g z - 2 * h z) = lS L f + lS L g - 2 * lS L h := fun f g h L => by
    induction L with
    | nil => rfl
    | cons z L ih =>
      show f z + g z - 2 * h z + lS L (fun z => f z + g z - 2 * h z) = (f z + lS L f) + (g z + lS L g) - 2 * (h z + lS L h)
      rw [ih]
      omega
  have e2 : (lS (ztL (spots a b)) fun z => (z.2 - z.1) * midB (cl a i) (cl b j) z) = lS (ztL (spots a b)) fun z => (if cl a i ≤ z.1 then z.2 - z.1 else 0) + (if cl b j ≤ z.1 then z.2 - z.1 else 0) - 2 * (if max (cl a i) (cl b j) ≤ z.1 then z.2 - z.1 else 0) := lS_congr fun z hz => by
    rw [mid_eq hz hx hy]
    have em : (max (cl a i) (cl b j) ≤ z.1) ↔ (cl a i ≤ z.1 ∧ cl b j ≤ z.1) := by omega
    by_cases cx : cl a i ≤ z.1 <;> by_cases cy : cl b j ≤ z.1
    · simp only [cx, cy, em, and_self, if_true]
      omega
    · simp only [cx, cy, em, and_false, if_true, if_false]
      omega
    · simp only [cx, cy, em, false_and, if_true, if_false]
      omega
    · simp only [cx, cy, em, false_and, if_false]
      omega
  rw [e2, add]
  rw [toll_abs, absI_max]
  have t1' : (lS (ztL (spots a b)) fun z => if cl a i ≤ z.1 then z.2 - z.1 else 0) = (spots a b).getLastD 0 - cl a i := t1
  have t2' : (lS (ztL (spots a b)) fun z => if cl b j ≤ z.1 then z.2 - z.1 else 0) = (spots a b).getLastD 0 - cl b j := t2
  have t3' : (lS (ztL (spots a b)) fun z => if max (cl a i) (cl b j) ≤ z.1 then z.2 - z.1 else 0) = (spots a b).getLastD 0 - max (cl a i) (cl b j) := t3
  rw [t1', t2', t3']
  omega
end G48
set_option linter.all false
set_option maxRecDepth 100000
set_option maxHeartbeats 1000000
namespace Gk24
open PySem G48
abbrev ex : Orc := fun _ => none
theorem take_ok {ex : Orc} {n wf b f : Nat} {m : Mem} {k : Int} (hb : Bd b (f + 1) m) (h0 : 0 < k) (h1 : k < DIVB) (hx : ex ix_law_take = none := by rfl) : W (callQ T wf ex (n + 1) ix_law_take [.cell b, .int k] m) fun v m' => ∃ i : Int, v = .int i ∧ 0 ≤ i ∧ i < k ∧ Bd b f m' := by
  have hl := hb.lt
  have h1 := div_ok h1
  obtain ⟨x0, x1, x2, e, g0, g1, g2, g3, g4⟩ := hb
  rw [callQ_eq (fn := fn_law_take) hx rfl rfl]
  by_cases hx : 0 < x0
  · refine ⟨.int (x0 % k), m.set b (some (.lst [.int (x0 / k), .int x1, .int x2])), ?_, _, rfl, Int.emod_nonneg _ (by omega), Int.emod_lt_of_pos _ h0, x0 / k, x1, x2, List.getElem?_set_self hl, Int.ediv_nonneg g0 (by omega), g1, g2, g3, by omega⟩
    simp -dsimp -implicitDefEqProofs [fn_law_take, qSs, qS, qV, qVs, qC, isMk, qE, qEs, qI, qT, startQ, qsetAll, varOf, accQ, qwipeR, qbT, qbTs, qwipe, tgv, tgvs, mkL, lstO, tst_eq, opt_eq, optE, arrange, bindA, isT, Ty.plain, Ty.exc, setIxD, setCell, ixD, pyIx, bop, cop, e, peek_cell e, hx, h0, h1]
  · have e0 : x0 = 0 := by omega
    subst e0
    have em : (m.set b (some (Cel.lst [.int 0, .int x1, .int (x2 + 1)])))[b]? = some (some (Cel.lst [.int 0, .int x1, .int (x2 + 1)])) := List.getElem?_set_self hl
    have q1 : ∀ a : Int, mulOk a (39373 + (x2 + 1)) = true := fun a => by
      have : (39373 + (x2 + 1)).natAbs < 2 ^ 64 := by omega
      simp -dsimp -implicitDefEqProofs [mulOk, this]
    have q2 : ∀ a : Int, mulOk 48271 a = true := fun a => by simp -dsimp -implicitDefEqProofs [mulOk]
    have q3 : ∀ a : Int, mulOk a 48271 = true := fun a => by simp -dsimp -implicitDefEqProofs [mulOk]
    have q4 : ∀ a z : Int, mulOk a (z % 40009 + 7) = true := fun a z => by
      have : (z % 40009 + 7).natAbs < 2 ^ 64 := by omega
      simp -dsimp -implicitDefEqProofs [mulOk, this]
    have d1 : leB 1000003 DIVN = true := by decide +kernel
    have d2 : leB 64 DIVN = true := by decide +kernel
    suffices h : ∃ i : Int, finQ (qSs wf (callQ T wf ex n) fn_law_take.body (startQ fn_law_take.ns [.cell b, .int k]) m) = .ok (.int (i % k)) (m.set b (some (.lst [.int 0, .int x1, .int (x2 + 1)]))) by
      obtain ⟨i, h⟩ := h
      exact ⟨_, _, h, _, rfl, Int.emod_nonneg _ (by omega : k ≠ 0), Int.emod_lt_of_pos _ h0, 0, x1, x2 + 1, em, by omega, g1, g2, by omega, by omega⟩
    simp -dsimp -implicitDefEqProofs [fn_law_take, qSs, qS, qV, qVs, qC, isMk, qE, qEs, qI, qT, startQ, qsetAll, varOf, accQ, qwipeR, qbT, qbTs, qwipe, tgv, tgvs, mkL, lstO, tst_eq, opt_eq, optE, arrange, bindA, isT, Ty.plain, Ty.exc, setIxD, setCell, ixD, pyIx, bop, cop, e, em, peek_cell e, peek_cell em, h0, h1, q1, q2, q3, q4, d1, d2]
    exact ⟨_, rfl⟩
theorem same_ok {wf : Nat} {m : Mem} : ∀ {k n : Nat} {d : D}, Pu k d → k < n → k ≤ 60 → callQ T wf ex n ix_law_same [d, d] m = .ok (.bl true) m
  | k, 0, d, h, hk, _ => by omega
  | k, n + 1, d, h, hk, h60 => by
    have hc := cop_eq_refl h h60
    have hp := h.peek (m := m)
    rw [callQ_eq (fn := fn_law_same) rfl rfl rfl]
    have key : ∀ (t : Bool) (xs : List D) (k' : Nat), d = sq t xs → k' < n → k' ≤ 60 → (∀ x ∈ xs, Pu k' x) → finQ (qSs wf (callQ T wf ex n) fn_law_same.body (startQ fn_law_same.ns [d, d]) m) = .ok (.bl true) m := by
      intro t xs k' ed h1 h2 hx
      subst ed
      have st : ∀ p ∈ xs.zip xs, p.1 = p.2 ∧ p.1 ∈ xs := fun p hp => by
        have := List.of_mem_zip hp
        refine ⟨?_, this.1⟩
        obtain ⟨i, hi, e⟩ := List.mem_iff_getElem.mp hp
        rw [List.getElem_zip] at e
        rw [← e]
      simp -dsimp -implicitDefEqProofs [fn_law_same, qSs, qS, qV, qVs, qC, isMk, qE, qEs, qI, qT, startQ, qsetAll, varOf, accQ, qwipeR, qbT, qbTs, qwipe, tgv, tgvs, mkL, lstO, tst_eq, opt_eq, optE, arrange, bindA, cop_ne_bl, zipL2]
      rw [cloop_pure (fun _ => D.bl true) (fun p hp => by
        obtain ⟨e1, e2⟩ := st p hp
        simp -dsimp -implicitDefEqProofs [qSs, qS, qV, qVs, qC, isMk, qE, qEs, qI, qT, startQ, qsetAll, varOf, accQ, qwipeR, qbT, qbTs, qwipe, tgv, tgvs, mkL, lstO, tst_eq, opt_eq, optE, arrange, bindA]
        rw [← e1, same_ok (n := n) (hx _ e2) h1 h2]
        rfl)]
      have := all_map (fun _ : D × D => true) (xs.zip xs)
      simp -dsimp -implicitDefEqProofs [this]
    cases h with
    | non => simp -dsimp -implicitDefEqProofs [fn_law_same, qSs, qS, qV, qVs, qC, isMk, qE, qEs, qI, qT, startQ, qsetAll, varOf, accQ, qwipeR, qbT, qbTs, qwipe, tgv, tgvs, mkL, lstO, tst_eq, opt_eq, optE, arrange, bindA, isT, Ty.plain, Ty.exc, setIxD, setCell, cop, okd, deq]
    | @bl _ b => cases b <;> simp -dsimp -implicitDefEqProofs [fn_law_same, qSs, qS, qV, qVs, qC, isMk, qE, qEs, qI, qT, startQ, qsetAll, varOf, accQ, qwipeR, qbT, qbTs, qwipe, tgv, tgvs, mkL, lstO, tst_eq, opt_eq, optE, arrange, bindA, isT, Ty.plain, Ty.exc, setIxD, setCell, cop, okd, deq]
    | int => simp -dsimp -implicitDefEqProofs [fn_law_same, qSs, qS, qV, qVs, qC, isMk, qE, qEs, qI, qT, startQ, qsetAll, varOf, accQ, qwipeR, qbT, qbTs, qwipe, tgv, tgvs, mkL, lstO, tst_eq, opt_eq, optE, arrange, bindA, isT, Ty.plain, Ty.exc, setIxD, setCell, cop, okd, deq]
    | str => simp -dsimp -implicitDefEqProofs [fn_law_same, qSs, qS, qV, qVs, qC, isMk, qE, qEs, qI, qT, startQ, qsetAll, varOf, accQ, qwipeR, qbT, qbTs, qwipe, tgv, tgvs, mkL, lstO, tst_eq, opt_eq, optE, arrange, bindA, isT, Ty.plain, Ty.exc, setIxD, setCell, cop, okd, deq]
    | @tup k' xs hx => exact key true xs k' rfl (by omega) (by omega) hx
    | @lst k' xs hx => exact key false xs k' rfl (by omega) (by omega) hx
theorem of_ok {n wf b f : Nat} {m : Mem} {xs : List D} (hb : Bd b (f + 1) m) (h0 : xs ≠ []) (hl : xs.length ≤ 1000) : W (callQ T wf ex (n + 2) ix_law_of [.cell b, .lst xs] m) fun v m' => v ∈ xs ∧ Bd b f m' := by
  rw [callQ_eq (n := n + 1) (fn := fn_law_of) rfl rfl rfl]
  refine W.finQ ?_
  have hp : 0 < xs.length := List.length_pos_iff.mpr h0
  have hd : (xs.length : Int) < DIVB := Int.lt_of_le_of_lt (by omega : (xs.length : Int) ≤ 1000) (by decide +kernel)
  simp -dsimp -implicitDefEqProofs [fn_law_of, qSs, qS, qV, qVs, qC, isMk, qE, qEs, qI, qT, startQ, qsetAll, varOf, accQ, qwipeR, qbT, qbTs, qwipe, tgv, tgvs, mkL, lstO, tst_eq, opt_eq, optE, arrange, bindA]
  refine W.then (take_ok (n := n) (wf := wf) (k := xs.length) hb (by omega) hd) fun v m1 ⟨i, ei, i0, i1, x1⟩ => ?_
  subst ei
  obtain ⟨j, ej⟩ : ∃ j : Nat, i = (j : Int) := ⟨i.toNat, by omega⟩
  subst ej
  have hj : j < xs.length := by omega
  have hix := ixD_lst (xs := xs) (i := j) (List.getElem?_eq_getElem hj)
  simp -dsimp -implicitDefEqProofs [qSs, qS, qV, qVs, qC, isMk, qE, qEs, qI, qT, startQ, qsetAll, varOf, accQ, qwipeR, qbT, qbTs, qwipe, tgv, tgvs, mkL, lstO, tst_eq, opt_eq, optE, arrange, bindA, hix]
  exact x1
theorem lists_ok {wf : Nat} {m : Mem} : ∀ {k n : Nat} {d : D}, Pu k d → k < n → callQ T wf ex n ix_law_lists [d] m = .ok (dl d) m
  | k, 0, d, h, hk => by omega
  | k, n + 1, d, h, hk => by
    rw [callQ_eq (fn := fn_law_lists) rfl rfl rfl]
    cases h with
    | non => simp -dsimp -implicitDefEqProofs [fn_law_lists, qSs, qS, qV, qVs, qC, isMk, qE, qEs, qI, qT, startQ, qsetAll, varOf, accQ, qwipeR, qbT, qbTs, qwipe, tgv, tgvs, mkL, lstO, tst_eq, opt_eq, optE, arrange, bindA, isT, Ty.plain, Ty.exc, setIxD, setCell, dl]
    | bl => simp -dsimp -implicitDefEqProofs [fn_law_lists, qSs, qS, qV, qVs, qC, isMk, qE, qEs, qI, qT, startQ, qsetAll, varOf, accQ, qwipeR, qbT, qbTs, qwipe, tgv, tgvs, mkL, lstO, tst_eq, opt_eq, optE, arrange, bindA, isT, Ty.plain, Ty.exc, setIxD, setCell, dl]
    | int => simp -dsimp -implicitDefEqProofs [fn_law_lists, qSs, qS, qV, qVs, qC, isMk, qE, qEs, qI, qT, startQ, qsetAll, varOf, accQ, qwipeR, qbT, qbTs, qwipe, tgv, tgvs, mkL, lstO, tst_eq, opt_eq, optE, arrange, bindA, isT, Ty.plain, Ty.exc, setIxD, setCell, dl]
    | str => simp -dsimp -implicitDefEqProofs [fn_law_lists, qSs, qS, qV, qVs, qC, isMk, qE, qEs, qI, qT, startQ, qsetAll, varOf, accQ, qwipeR, qbT, qbTs, qwipe, tgv, tgvs, mkL, lstO, tst_eq, opt_eq, optE, arrange, bindA, isT, Ty.plain, Ty.exc, setIxD, setCell, dl]
    | @tup k xs hx =>
      simp -dsimp -implicitDefEqProofs [fn_law_lists, qSs, qS, qV, qVs, qC, isMk, qE, qEs, qI, qT, startQ, qsetAll, varOf, accQ, qwipeR, qbT, qbTs, qwipe, tgv, tgvs, mkL, lstO, tst_eq, opt_eq, optE, arrange, bindA, isT, Ty.plain, Ty.exc, setIxD, setCell]
      rw [cloop_D dl (fun d hd => by simp -dsimp -implicitDefEqProofs [qSs, qS, qV, qVs, qC, isMk, qE, qEs, qI, qT, startQ, qsetAll, varOf, accQ, qwipeR, qbT, qbTs, qwipe, tgv, tgvs, mkL, lstO, tst_eq, opt_eq, optE, arrange, bindA, lists_ok (n := n) (hx d hd) (by omega)])]
      simp -dsimp -implicitDefEqProofs [dl, dls_map]
    | @lst k xs hx =>
      simp -dsimp -implicitDefEqProofs [fn_law_lists, qSs, qS, qV, qVs, qC, isMk, qE, qEs, qI, qT, startQ, qsetAll, varOf, accQ, qwipeR, qbT, qbTs, qwipe, tgv, tgvs, mkL, lstO, tst_eq, opt_eq, optE, arrange, bindA, isT, Ty.plain, Ty.exc, setIxD, setCell]
      rw [cloop_D dl (fun d hd => by simp -dsimp -implicitDefEqProofs [qSs, qS, qV, qVs, qC, isMk, qE, qEs, qI, qT, startQ, qsetAll, varOf, accQ, qwipeR, qbT, qbTs, qwipe, tgv, tgvs, mkL, lstO, tst_eq, opt_eq, optE, arrange, bindA, lists_ok (n := n) (hx d hd) (by omega)])]
      simp -dsimp -implicitDefEqProofs [dl, dls_map]
theorem plan_ok {n wf b f : Nat} {m : Mem} {many wide : Nat} {top : Int} (hb : Bd b (f + 200) m) (h1 : many ≤ 9) (h2 : wide ≤ 9) (h3 : 0 ≤ top) (h4 : top + 1 < DIVB) :
    W (callQ T wf ex (n + 2) ix_law_plan [.cell b, .int (many : Int), .int (wide : Int), .int top] m) fun v m' => ∃ p, v = dP p ∧ IsPl many wide top p ∧ Bd b f m' := by
  have big : many ≤ BIG ∧ wide ≤ BIG := by unfold BIG; omega
  rw [callQ_eq (n := n + 1) (fn := fn_law_plan) rfl rfl rfl]
  refine W.finQ ?_
  simp -dsimp -implicitDefEqProofs [fn_law_plan, qSs, qS, qV, qVs, qC, isMk, qE, qEs, qI, qT, startQ, qsetAll, varOf, accQ, qwipeR, qbT, qbTs, qwipe, tgv, tgvs, mkL, lstO, tst_eq, opt_eq, optE, arrange, bindA, BIG]
  refine W.then (take_ok (wf := wf) (n := n) (k := 4) (f := f + 199) hb (by omega) (by decide +kernel)) fun v m1 ⟨s, es, s0, s1, x1⟩ => ?_
  subst es
  simp -dsimp -implicitDefEqProofs [qSs, qS, qV, qVs, qC, isMk, qE, qEs, qI, qT, startQ, qsetAll, varOf, accQ, qwipeR, qbT, qbTs, qwipe, tgv, tgvs, mkL, lstO, tst_eq, opt_eq, optE, arrange, bindA, rng_nat big.1]
  refine W.floop (fun i ρ m' => Bd b (f + (9 - i) * 20) m' ∧ ∃ p : List (List Int), IsPl i wide top p ∧ ρ = [some (false, .cell b), some (false, .int (many : Int)), some (false, .int (wide : Int)), some (false, .int top), some (false, .int s), some (true, .lst (p.map dI)), none, none, none]) ⟨x1.mono (by omega), [], ⟨rfl, by simp⟩, rfl⟩ ?_ ?_
  · rintro j d ρ m' hd ⟨x, p, hp, eρ⟩
    obtain ⟨hj, ed⟩ := mem_range_map hd
    subst eρ ed
    have e9 : f + (9 - j) * 20 = f + (9 - (j + 1)) * 20 + 20 := by omega
    rw [e9] at x
    simp -dsimp -implicitDefEqProofs [qSs, qS, qV, qVs, qC, isMk, qE, qEs, qI, qT, startQ, qsetAll, varOf, accQ, qwipeR, qbT, qbTs, qwipe, tgv, tgvs, mkL, lstO, tst_eq, opt_eq, optE, arrange, bindA, rng_nat big.2]
    refine W.then (W.cl (N := 2) (b := b) (g := f + (9 - (j + 1)) * 20) (P := fun o => ∃ i : Int, o = .int i ∧ 0 ≤ i ∧ i ≤ top) (x.mono (by simp; omega)) (fun dd hd' f' mm hx => ?_)) fun os mr ⟨ol, op, xr⟩ => ?_
    · obtain ⟨k, hk, ek⟩ := List.mem_map.mp hd'
      subst ek
      by_cases hs : s < 2
      · simp -dsimp -implicitDefEqProofs [qSs, qS, qV, qVs, qC, isMk, qE, qEs, qI, qT, startQ, qsetAll, varOf, accQ, qwipeR, qbT, qbTs, qwipe, tgv, tgvs, mkL, lstO, tst_eq, opt_eq, optE, arrange, bindA, hs]
        refine W.then (take_ok (wf := wf) (n := n) (k := top + 1) (f := f' + 1) hx (by omega) h4) fun v ma ⟨i, ei, i0, i1, xa⟩ => W.ok ⟨⟨_, rfl, i, ei, i0, by omega⟩, xa.mono (by omega)⟩
      · simp -dsimp -implicitDefEqProofs [qSs, qS, qV, qVs, qC, isMk, qE, qEs, qI, qT, startQ, qsetAll, varOf, accQ, qwipeR, qbT, qbTs, qwipe, tgv, tgvs, mkL, lstO, tst_eq, opt_eq, optE, arrange, bindA, hs]
        refine W.then (take_ok (wf := wf) (n := n) (k := 2) (f := f' + 1) hx (by omega) (by decide +kernel)) fun v ma ⟨i, ei, i0, i1, xa⟩ => ?_
        subst ei
        by_cases hi : i = 0
        · subst hi
          simp -dsimp -implicitDefEqProofs [qSs, qS, qV, qVs, qC, isMk, qE, qEs, qI, qT, startQ, qsetAll, varOf, accQ, qwipeR, qbT, qbTs, qwipe, tgv, tgvs, mkL, lstO, tst_eq, opt_eq, optE, arrange, bindA]
          refine W.then (take_ok (wf := wf) (n := n) (k := top + 1) (f := f') xa (by omega) h4) fun v mb ⟨i', ei', i0', i1', xb⟩ => W.ok ⟨⟨_, rfl, i', ei', i0', by omega⟩, xb⟩
        · have hi' : (i == 0) = false := by simp -dsimp -implicitDefEqProofs [hi]
          simp -dsimp -implicitDefEqProofs [qSs, qS, qV, qVs, qC, isMk, qE, qEs, qI, qT, startQ, qsetAll, varOf, accQ, qwipeR, qbT, qbTs, qwipe, tgv, tgvs, mkL, lstO, tst_eq, opt_eq, optE, arrange, bindA, hi]
          exact ⟨by omega, xa.mono (by omega)⟩
    · obtain ⟨row, erow, hrow⟩ := ints_of op
      subst erow
      have hrl : row.length = wide := by simpa using ol
      have hpl : p.length < BIG := by rw [hp.1]; unfold BIG; omega
      have hbw : below 0 (.tup (row.map .int)) = true := bw_dI (r := row)
      simp -dsimp -implicitDefEqProofs [qSs, qS, qV, qVs, qC, isMk, qE, qEs, qI, qT, startQ, qsetAll, varOf, accQ, qwipeR, qbT, qbTs, qwipe, tgv, tgvs, mkL, lstO, tst_eq, opt_eq, optE, arrange, bindA, appAcc, hpl, hbw]
      refine ⟨xr.mono (by omega), p ++ [row], ⟨by simp -dsimp -implicitDefEqProofs [hp.1], fun r' hr' => ?_⟩, by simp -dsimp -implicitDefEqProofs [dI]⟩
      rcases List.mem_append.mp hr' with z | z
      · exact hp.2 r' z
      · simp at z; subst z; exact ⟨hrl, hrow⟩
  · rintro ρ m2 ⟨x2, p, hp, eρ⟩
    subst eρ
    simp only [List.length_map, List.length_range] at x2 hp
    simp -dsimp -implicitDefEqProofs [qSs, qS, qV, qVs, qC, isMk, qE, qEs, qI, qT, startQ, qsetAll, varOf, accQ, qwipeR, qbT, qbTs, qwipe, tgv, tgvs, mkL, lstO, tst_eq, opt_eq, optE, arrange, bindA]
    exact ⟨p, rfl, hp, x2.mono (by omega)⟩
theorem lroad_ok {n wf b f many wide : Nat} {m : Mem} {high : Int} (hb : Bd b (f + 20) m) (h1 : many ≤ 9) (h2 : wide ≤ 9) (h3 : 0 ≤ high) (h4 : high ≤ 1000) : W (callQ T wf ex (n + 2) ix_law_road [.cell b, .int (many : Int), .int (wide : Int), .int high] m) fun v m' => ∃ x y : List Int, v = dP [x, y] ∧ x.length = many ∧ y.length = wide ∧ (∀ z ∈ x, -3 ≤ z ∧ z ≤ high) ∧ (∀ z ∈ y, -3 ≤ z ∧ z ≤ high) ∧ x.Pairwise (· ≤ ·) ∧ y.Pairwise (· ≤ ·) ∧ Bd b f m' := by
  have hdv : high + 4 < DIVB := Int.lt_of_le_of_lt (by omega : high + 4 ≤ 1004) (by decide +kernel)
  rw [callQ_eq (n := n + 1) (fn := fn_law_road) rfl rfl rfl]
  refine W.finQ ?_
  simp -dsimp -implicitDefEqProofs [fn_law_road, qSs, qS, qV, qVs, qC, isMk, qE, qEs, qI, qT, startQ, qsetAll, varOf, accQ, qwipeR, qbT, qbTs, qwipe, tgv, tgvs, mkL, lstO, tst_eq, opt_eq, optE, arrange, bindA, BIG]
  refine W.floop (fun i ρ m' => Bd b (f + (2 - i) * 10) m' ∧ ∃ ls : List (List Int), ls.map List.length = [many, wide].take i ∧ (∀ r ∈ ls, (∀ z ∈ r, -3 ≤ z ∧ z ≤ high) ∧ r.Pairwise (· ≤ ·)) ∧ ρ = [some (false, .cell b), some (false, .int (many : Int)), some (false, .int (wide : Int)), some (false, .int high), some (true, .lst (ls.map dI)), none, none, none]) ⟨hb, [], rfl, by simp, rfl⟩ ?_ ?_
  · rintro j d ρ m' hd ⟨x, ls, hl, hp, eρ⟩
    subst eρ
    obtain ⟨sz, hsz, ed, hj, hn⟩ : ∃ sz : Nat, sz ≤ 9 ∧ d = .int (sz : Int) ∧ j < 2 ∧ [many, wide].take (j + 1) = [many, wide].take j ++ [sz] := by
      match j, hd with
      | 0, hd => simp at hd; exact ⟨many, h1, hd.symm, by omega, rfl⟩
      | 1, hd => simp at hd; exact ⟨wide, h2, hd.symm, by omega, rfl⟩
      | j + 2, hd => simp at hd
    subst ed
    have rg := rgN_ok (n := sz) (by unfold BIG; omega)
    have e9 : f + (2 - j) * 10 = f + (2 - (j + 1)) * 10 + 10 := by omega
    rw [e9] at x
    simp -dsimp -implicitDefEqProofs [qSs, qS, qV, qVs, qC, isMk, qE, qEs, qI, qT, startQ, qsetAll, varOf, accQ, qwipeR, qbT, qbTs, qwipe, tgv, tgvs, mkL, lstO, tst_eq, opt_eq, optE, arrange, bindA, rg]
    refine W.then (W.cl (N := 1) (b := b) (g := f + (2 - (j + 1)) * 10) (P := fun o => ∃ i : Int, o = .int i ∧ -3 ≤ i ∧ i ≤ high) (x.mono (by simp; omega)) (fun dd hd' f' mm hx => ?_)) fun os mr ⟨ol, op, xr⟩ => ?_
    · simp -dsimp -implicitDefEqProofs [qSs, qS, qV, qVs, qC, isMk, qE, qEs, qI, qT, startQ, qsetAll, varOf, accQ, qwipeR, qbT, qbTs, qwipe, tgv, tgvs, mkL, lstO, tst_eq, opt_eq, optE, arrange, bindA]
      refine W.then (take_ok (wf := wf) (n := n) (k := high + 4) hx (by omega) hdv) fun v m1 ⟨s, es, s0, s1, x1⟩ => ?_
      subst es
      simp -dsimp -implicitDefEqProofs [qSs, qS, qV, qVs, qC, isMk, qE, qEs, qI, qT, startQ, qsetAll, varOf, accQ, qwipeR, qbT, qbTs, qwipe, tgv, tgvs, mkL, lstO, tst_eq, opt_eq, optE, arrange, bindA]
      exact ⟨⟨by omega, by omega⟩, x1⟩
    · obtain ⟨r, er, hr⟩ := ints_of op
      subst er
      have srd : b1 .sorted (.lst (r.map .int)) = some (.lst ((srt r).map .int)) := by simp [b1, intsD_mapI]
      have ll : ls.length < BIG := by
        have := congrArg List.length hl
        simp at this
        unfold BIG; omega
      simp -dsimp -implicitDefEqProofs [qSs, qS, qV, qVs, qC, isMk, qE, qEs, qI, qT, startQ, qsetAll, varOf, accQ, qwipeR, qbT, qbTs, qwipe, tgv, tgvs, mkL, lstO, tst_eq, opt_eq, optE, arrange, bindA, srd, appAcc, ll]
      refine ⟨xr.mono (by omega), ls ++ [srt r], ?_, ?_, ?_⟩
      · have := (srt_perm r).length_eq
        simp at ol
        rcases (by omega : j = 0 ∨ j = 1) with rfl | rfl
        · simp at hn hl ⊢
          simp [hl, this, ol, hn]
        · simp at hn hl ⊢
          obtain ⟨a', rfl, ha'⟩ := hl
          simp [this, ol, hn, ha']
      · intro r' hr'
        rcases List.mem_append.1 hr' with h | h
        · exact hp r' h
        · simp at h
          subst h
          exact ⟨fun z hz => hr z ((srt_perm r).mem_iff.1 hz), srt_up r⟩
      · simp [dI]
  · rintro ρ m' ⟨x, ls, hl, hp, eρ⟩
    subst eρ
    simp at hl
    match ls, hl with
    | [u, v], hl =>
      simp at hl
      simp -dsimp -implicitDefEqProofs [qSs, qS, qV, qVs, qC, isMk, qE, qEs, qI, qT, startQ, qsetAll, varOf, accQ, qwipeR, qbT, qbTs, qwipe, tgv, tgvs, mkL, lstO, tst_eq, opt_eq, optE, arrange, bindA]
      have hu := hp u (by simp)
      have hv := hp v (by simp)
      exact ⟨u, v, rfl, hl.1, hl.2, hu.1, hv.1, hu.2, hv.2, x.mono (by simp)⟩
theorem toll_ok {n wf : Nat} {m : Mem} {t : Bool} {s w : Int} {bs : List (Int × Int)} (h : PrOk s bs) (hw : w.natAbs ≤ 2000000) : callQ T wf ex (n + 1) ix_toll [prD t s bs, .int w] m = .ok (.int (tollP s bs w)) m := by
  rw [callQ_eq (fn := fn_toll) rfl rfl rfl]
  have h1 := h.sq
  have o1 : mulOk s w = true := mulOk_r (by omega)
  have o2 : mulOk (s * w) w = true := mulOk_r (by omega)
  have o3 : ∀ z ∈ bs, mulOk z.2 (absI (w - z.1)) = true := fun z hz => mulOk_l (by have := h.wt z hz; omega)
  cases t
  · simp -dsimp -implicitDefEqProofs [fn_toll, qSs, qS, qV, qVs, qC, isMk, qE, qEs, qI, qT, startQ, qsetAll, varOf, accQ, qwipeR, qbT, qbTs, qwipe, tgv, tgvs, mkL, lstO, tst_eq, opt_eq, optE, arrange, bindA, prD, sq, bop_mul o1, bop_mul o2]
    rw [cloop_pure (fun z : Int × Int => D.int (z.2 * absI (w - z.1))) (fun z hz => by simp -dsimp -implicitDefEqProofs [qSs, qS, qV, qVs, qC, isMk, qE, qEs, qI, qT, startQ, qsetAll, varOf, accQ, qwipeR, qbT, qbTs, qwipe, tgv, tgvs, mkL, lstO, tst_eq, opt_eq, optE, arrange, bindA, sq, bop_mul (o3 z hz), -abs_int, abs_absI])]
    simp -dsimp -implicitDefEqProofs [qSs, qS, qV, qVs, qC, isMk, qE, qEs, qI, qT, startQ, qsetAll, varOf, accQ, qwipeR, qbT, qbTs, qwipe, tgv, tgvs, mkL, lstO, tst_eq, opt_eq, optE, arrange, bindA, sum_mapf, tollP]
  · simp -dsimp -implicitDefEqProofs [fn_toll, qSs, qS, qV, qVs, qC, isMk, qE, qEs, qI, qT, startQ, qsetAll, varOf, accQ, qwipeR, qbT, qbTs, qwipe, tgv, tgvs, mkL, lstO, tst_eq, opt_eq, optE, arrange, bindA, prD, sq, bop_mul o1, bop_mul o2]
    rw [cloop_pure (fun z : Int × Int => D.int (z.2 * absI (w - z.1))) (fun z hz => by simp -dsimp -implicitDefEqProofs [qSs, qS, qV, qVs, qC, isMk, qE, qEs, qI, qT, startQ, qsetAll, varOf, accQ, qwipeR, qbT, qbTs, qwipe, tgv, tgvs, mkL, lstO, tst_eq, opt_eq, optE, arrange, bindA, sq, bop_mul (o3 z hz), -abs_int, abs_absI])]
    simp -dsimp -implicitDefEqProofs [qSs, qS, qV, qVs, qC, isMk, qE, qEs, qI, qT, startQ, qsetAll, varOf, accQ, qwipeR, qbT, qbTs, qwipe, tgv, tgvs, mkL, lstO, tst_eq, opt_eq, optE, arrange, bindA, sum_mapf, tollP]
theorem running_ok {n wf : Nat} {m : Mem} {t : Bool} {r : List Int} (h : r.length < 1000) : callQ T wf ex (n + 1) ix_running [sq t (r.map .int)] m = .ok (dI (runI 0 r)) m := by
  have hB : 1001 < BIG := by decide
  rw [callQ_eq (fn := fn_running) rfl rfl rfl]
  simp -dsimp -implicitDefEqProofs [fn_running, qSs, qS, qV, qVs, qC, isMk, qE, qEs, qI, qT, startQ, qsetAll, varOf, accQ, qwipeR, qbT, qbTs, qwipe, tgv, tgvs, mkL, lstO, tst_eq, opt_eq, optE, arrange, bindA, BIG]
  rw [floop_ix (fun j => [some (false, sq t (r.map .int)), some (true, .lst ((runI 0 (r.take j)).map .int)), none]) (by simp [runI]) (fun j x hx => ?_)]
  · simp -dsimp -implicitDefEqProofs [qSs, qS, qV, qVs, qC, isMk, qE, qEs, qI, qT, startQ, qsetAll, varOf, accQ, qwipeR, qbT, qbTs, qwipe, tgv, tgvs, mkL, lstO, tst_eq, opt_eq, optE, arrange, bindA, dI]
  · obtain ⟨ys, e⟩ := runI_split 0 (r.take j)
    have e2 := ix_lastI e
    have hl : (runI 0 (r.take j)).length < BIG := by rw [runI_len, List.length_take]; omega
    simp -dsimp -implicitDefEqProofs [qSs, qS, qV, qVs, qC, isMk, qE, qEs, qI, qT, startQ, qsetAll, varOf, accQ, qwipeR, qbT, qbTs, qwipe, tgv, tgvs, mkL, lstO, tst_eq, opt_eq, optE, arrange, bindA, e2, appAcc, take_succ_get hx, runI_snoc, hl]
theorem corners_ok {n wf w : Nat} {m : Mem} {t : Bool} {p : List (List Int)} (h0 : p ≠ []) (h100 : p.length ≤ 100) (hw : ∀ r ∈ p, r.length = w) (hw100 : w ≤ 100) : callQ T wf ex (n + 2) ix_corners [dQ t p] m = .ok (dP (corP w p)) m := by
  have hB : 1001 < BIG := by decide
  have hp : 0 < p.length := List.length_pos_iff.mpr h0
  rw [callQ_eq (n := n + 1) (fn := fn_corners) rfl rfl rfl]
  have hr0 : (rowP p 0).length = w := hw _ (rowP_mem hp)
  have i0 : ixD (dQ t p) (.int 0) = some (sq t ((rowP p 0).map .int)) := ix_dQ (t := t) (i := 0) hp
  have mz : bop .mul (.lst [.int 0]) (.int ((w : Int) + 1)) = some (lI (List.replicate (w + 1) (0 : Int))) := mul_zeros (k := w + 1) (by omega)
  simp -dsimp -implicitDefEqProofs [fn_corners, qSs, qS, qV, qVs, qC, isMk, qE, qEs, qI, qT, startQ, qsetAll, varOf, accQ, qwipeR, qbT, qbTs, qwipe, tgv, tgvs, mkL, lstO, tst_eq, opt_eq, optE, arrange, bindA, BIG, i0, hr0, mz]
  rw [floop_ix (fun j => [some (false, dQ t p), some (true, .lst ((corFrom (List.replicate (w + 1) 0) (p.take j)).map dI)), none, none, none]) (by simp [corFrom]) (fun j x hx => ?_)]
  · simp -dsimp -implicitDefEqProofs [qSs, qS, qV, qVs, qC, isMk, qE, qEs, qI, qT, startQ, qsetAll, varOf, accQ, qwipeR, qbT, qbTs, qwipe, tgv, tgvs, mkL, lstO, tst_eq, opt_eq, optE, arrange, bindA, dP, corP]
  · have hx' : x.length = w := hw _ (List.mem_of_getElem? hx)
    obtain ⟨ys, e⟩ := corFrom_split (List.replicate (w + 1) 0) (p.take j)
    have e2 : ixD (.lst ((corFrom (List.replicate (w + 1) 0) (p.take j)).map dI)) (.int (-1)) = some (dI (corLast (List.replicate (w + 1) 0) (p.take j))) := by
      rw [e, List.map_append]; exact ix_last
    have hl : (corFrom (List.replicate (w + 1) 0) (p.take j)).length < BIG := by rw [corFrom_len, List.length_take]; omega
    have hr : ∀ mm, callQ T wf ex (n + 1) ix_running [sq t (x.map .int)] mm = .ok (dI (runI 0 x)) mm := fun mm => running_ok (by omega)
    simp -dsimp -implicitDefEqProofs [qSs, qS, qV, qVs, qC, isMk, qE, qEs, qI, qT, startQ, qsetAll, varOf, accQ, qwipeR, qbT, qbTs, qwipe, tgv, tgvs, mkL, lstO, tst_eq, opt_eq, optE, arrange, bindA, e2, hr, zipD_dI, zipL_I]
    rw [cloop_pure (fun q : Int × Int => D.int (q.1 + q.2)) (fun q hq => by simp -dsimp -implicitDefEqProofs [qSs, qS, qV, qVs, qC, isMk, qE, qEs, qI, qT, startQ, qsetAll, varOf, accQ, qwipeR, qbT, qbTs, qwipe, tgv, tgvs, mkL, lstO, tst_eq, opt_eq, optE, arrange, bindA])]
    have ez : D.lst (((corLast (List.replicate (w + 1) 0) (p.take j)).zip (runI 0 x)).map (fun q : Int × Int => D.int (q.1 + q.2))) = lI (addI (corLast (List.replicate (w + 1) 0) (p.take j)) (runI 0 x)) := by
      unfold addI lI; rw [← zipWith_zip, List.map_map]; rfl
    simp -dsimp -implicitDefEqProofs [qSs, qS, qV, qVs, qC, isMk, qE, qEs, qI, qT, startQ, qsetAll, varOf, accQ, qwipeR, qbT, qbTs, qwipe, tgv, tgvs, mkL, lstO, tst_eq, opt_eq, optE, arrange, bindA, ez, appAcc, hl, take_succ_get hx, corFrom_snoc]
theorem sums_of_ok {n wf w : Nat} {m : Mem} {t : Bool} {p : List (List Int)} (h0 : p ≠ []) (h16 : p.length ≤ 16) (hw : ∀ r ∈ p, r.length = w) : callQ T wf ex (n + 1) ix_sums_of [dQ t p] m = .ok (dP (smP w p)) m := by
  obtain ⟨ls, z1, z2⟩ := zip_rows (t := t) h0 h16 hw
  rw [callQ_eq (fn := fn_sums_of) rfl rfl rfl]
  simp -dsimp -implicitDefEqProofs [fn_sums_of, qSs, qS, qV, qVs, qC, isMk, qE, qEs, qI, qT, startQ, qsetAll, varOf, accQ, qwipeR, qbT, qbTs, qwipe, tgv, tgvs, mkL, lstO, tst_eq, opt_eq, optE, arrange, bindA]
  rw [cloop_pure (fun r : List Int => D.int r.sum) (fun r hr => by simp -dsimp -implicitDefEqProofs [qSs, qS, qV, qVs, qC, isMk, qE, qEs, qI, qT, startQ, qsetAll, varOf, accQ, qwipeR, qbT, qbTs, qwipe, tgv, tgvs, mkL, lstO, tst_eq, opt_eq, optE, arrange, bindA])]
  simp -dsimp -implicitDefEqProofs [qSs, qS, qV, qVs, qC, isMk, qE, qEs, qI, qT, startQ, qsetAll, varOf, accQ, qwipeR, qbT, qbTs, qwipe, tgv, tgvs, mkL, lstO, tst_eq, opt_eq, optE, arrange, bindA, z1, z2]
  rw [cloop_pure (fun r : List Int => D.int r.sum) (fun r hr => by simp -dsimp -implicitDefEqProofs [qSs, qS, qV, qVs, qC, isMk, qE, qEs, qI, qT, startQ, qsetAll, varOf, accQ, qwipeR, qbT, qbTs, qwipe, tgv, tgvs, mkL, lstO, tst_eq, opt_eq, optE, arrange, bindA])]
  have e : D.tup [.tup (p.map fun r => D.int r.sum), .tup ((trP w p).map fun r => D.int r.sum)] = dP (smP w p) := by simp [dP, smP, dI, Function.comp_def]
  simp -dsimp -implicitDefEqProofs [qSs, qS, qV, qVs, qC, isMk, qE, qEs, qI, qT, startQ, qsetAll, varOf, accQ, qwipeR, qbT, qbTs, qwipe, tgv, tgvs, mkL, lstO, tst_eq, opt_eq, optE, arrange, bindA, BIG, e]
theorem sizes_ok {n wf w : Nat} {m : Mem} {t : Bool} {p : List (List Int)} (h0 : p ≠ []) (hw : ∀ r ∈ p, r.length = w) : callQ T wf ex (n + 1) ix_sizes [dQ t p] m = .ok (dI [(p.length : Int), (w : Int)]) m := by
  have hp : 0 < p.length := List.length_pos_iff.mpr h0
  have hr0 : (rowP p 0).length = w := hw _ (rowP_mem hp)
  have i0 : ixD (dQ t p) (.int 0) = some (sq t ((rowP p 0).map .int)) := ix_dQ (t := t) (i := 0) hp
  rw [callQ_eq (fn := fn_sizes) rfl rfl rfl]
  simp -dsimp -implicitDefEqProofs [fn_sizes, qSs, qS, qV, qVs, qC, isMk, qE, qEs, qI, qT, startQ, qsetAll, varOf, accQ, qwipeR, qbT, qbTs, qwipe, tgv, tgvs, mkL, lstO, tst_eq, opt_eq, optE, arrange, bindA, i0, hr0, dI, BIG]
theorem check_road_ok {n wf w : Nat} {m : Mem} {t u : Bool} {p : List (List Int)} {a b : List Int} (h0 : p ≠ []) (hw : ∀ r ∈ p, r.length = w) : callQ T wf ex (n + 2) ix_check_road [dQ t p, dQ u [a, b]] m = if p.length = a.length ∧ w = b.length then .ok .non m else .exc (.exc 0 []) m := by
  have i0 : ixD (dQ u [a, b]) (.int 0) = some (sq u (a.map .int)) := by cases u <;> rfl
  have i1 : ixD (dQ u [a, b]) (.int 1) = some (sq u (b.map .int)) := by cases u <;> rfl
  have sz : ∀ mm, callQ T wf ex (n + 1) ix_sizes [dQ t p] mm = .ok (dI [(p.length : Int), (w : Int)]) mm := fun mm => sizes_ok h0 hw
  have tt : D.tup [.int (a.length : Int), .int (b.length : Int)] = dI [(a.length : Int), (b.length : Int)] := rfl
  rw [callQ_eq (n := n + 1) (fn := fn_check_road) rfl rfl rfl]
  simp -dsimp -implicitDefEqProofs [fn_check_road, qSs, qS, qV, qVs, qC, isMk, qE, qEs, qI, qT, startQ, qsetAll, varOf, accQ, qwipeR, qbT, qbTs, qwipe, tgv, tgvs, mkL, lstO, tst_eq, opt_eq, optE, arrange, bindA, i0, i1, sz, tt, BIG]
  by_cases hc : p.length = a.length ∧ w = b.length
  · have hc' : ((p.length : Int) = (a.length : Int)) ∧ ((w : Int) = (b.length : Int)) := by omega
    simp -dsimp -implicitDefEqProofs [qSs, qS, qV, qVs, qC, isMk, qE, qEs, qI, qT, startQ, qsetAll, varOf, accQ, qwipeR, qbT, qbTs, qwipe, tgv, tgvs, mkL, lstO, tst_eq, opt_eq, optE, arrange, bindA, hc, hc']
  · have hc' : ¬ (((p.length : Int) = (a.length : Int)) ∧ ((w : Int) = (b.length : Int))) := by omega
    have hd : (!decide ((p.length : Int) = (a.length : Int)) || !decide ((w : Int) = (b.length : Int))) = true := by
      rw [← Bool.not_and, ← Bool.decide_and, decide_eq_false hc']; rfl
    have mk0 : mkExc 0 [] = some [] := rfl
    simp -dsimp -implicitDefEqProofs [qSs, qS, qV, qVs, qC, isMk, qE, qEs, qI, qT, startQ, qsetAll, varOf, accQ, qwipeR, qbT, qbTs, qwipe, tgv, tgvs, mkL, lstO, tst_eq, opt_eq, optE, arrange, bindA, hc, hd, mk0]
theorem cost_ok {n wf : Nat} {m : Mem} {t u v : Bool} {s : Int} {bs : List (Int × Int)} {a b : List Int} {p : List (List Int)} (h : PrOk s bs) (ha : RdOk a) (hb : RdOk b) (h0 : p ≠ []) (hl : p.length = a.length) (hw : ∀ r ∈ p, r.length = b.length) : callQ T wf ex (n + 3) ix_cost [dQ t p, dQ u [a, b], prD v s bs] m = .ok (.int (billP s bs a b p)) m := by
  rw [callQ_eq (n := n + 2) (fn := fn_cost) rfl rfl rfl]
  have i0 : ixD (dQ u [a, b]) (.int 0) = some (sq u (a.map .int)) := by cases u <;> rfl
  have i1 : ixD (dQ u [a, b]) (.int 1) = some (sq u (b.map .int)) := by cases u <;> rfl
  have cr : ∀ mm, callQ T wf ex (n + 2) ix_check_road [dQ t p, dQ u [a, b]] mm = .ok .non mm := fun mm => by rw [check_road_ok h0 hw, if_pos ⟨hl, rfl⟩]
  have zz : zipD [sq u (a.map .int), dQ t p] = some [a.map .int, p.map fun r => sq t (r.map .int)] := zipD_sq2
  simp -dsimp -implicitDefEqProofs [fn_cost, qSs, qS, qV, qVs, qC, isMk, qE, qEs, qI, qT, startQ, qsetAll, varOf, accQ, qwipeR, qbT, qbTs, qwipe, tgv, tgvs, mkL, lstO, tst_eq, opt_eq, optE, arrange, bindA, i0, cr, zz, zipL_mm]
  rw [floop_ix (fun j => [some (false, dQ t p), some (false, dQ u [a, b]), some (false, prD v s bs), some (false, .int (billP s bs a b (p.take j))), none, none, none, none]) (by simp [billP]) (fun j x hx => ?_)]
  · have e1 : (a.zip p).length = p.length := by simp [hl]
    simp -dsimp -implicitDefEqProofs [qSs, qS, qV, qVs, qC, isMk, qE, qEs, qI, qT, startQ, qsetAll, varOf, accQ, qwipeR, qbT, qbTs, qwipe, tgv, tgvs, mkL, lstO, tst_eq, opt_eq, optE, arrange, bindA, e1, List.take_length]
  · obtain ⟨x1, x2⟩ := List.getElem?_zip_eq_some.1 hx
    have hj : j < a.length := (List.getElem?_eq_some_iff.1 x1).1
    have hg : x.1 = cl a j := by simp [cl, List.getD, x1]
    have hrl := hw _ (List.mem_of_getElem? x2)
    have z2 : zipD [sq u (b.map .int), sq t (x.2.map .int)] = some [b.map .int, x.2.map .int] := zipD_sq2
    simp -dsimp -implicitDefEqProofs [qSs, qS, qV, qVs, qC, isMk, qE, qEs, qI, qT, startQ, qsetAll, varOf, accQ, qwipeR, qbT, qbTs, qwipe, tgv, tgvs, mkL, lstO, tst_eq, opt_eq, optE, arrange, bindA, i1, z2, zipL_mm]
    have c1 := ha _ (cl_mem hj)
    rw [cloop_pure (fun z : Int × Int => D.int (z.2 * tollP s bs (z.1 - x.1))) (fun z hz => ?_)]
    · have ez : ((b.zip x.2).map fun z : Int × Int => z.2 * tollP s bs (z.1 - x.1)).sum = rbP s bs b (cl a j) x.2 := by
        rw [← hg]; unfold rbP; rw [← zipWith_zip]
      simp -dsimp -implicitDefEqProofs [qSs, qS, qV, qVs, qC, isMk, qE, qEs, qI, qT, startQ, qsetAll, varOf, accQ, qwipeR, qbT, qbTs, qwipe, tgv, tgvs, mkL, lstO, tst_eq, opt_eq, optE, arrange, bindA, sum_mapf, ez, billP_snoc x2 hj]
    · have c2 := hb _ (List.of_mem_zip hz).1
      have hw2 : (z.1 - x.1).natAbs ≤ 2000000 := by rw [hg]; omega
      have tk : ∀ mm, callQ T wf ex (n + 2) ix_toll [prD v s bs, .int (z.1 - x.1)] mm = .ok (.int (tollP s bs (z.1 - x.1))) mm := fun mm => toll_ok h hw2
      have o := mulOk_r (a := z.2) (tollP_small h hw2)
      simp -dsimp -implicitDefEqProofs [qSs, qS, qV, qVs, qC, isMk, qE, qEs, qI, qT, startQ, qsetAll, varOf, accQ, qwipeR, qbT, qbTs, qwipe, tgv, tgvs, mkL, lstO, tst_eq, opt_eq, optE, arrange, bindA, tk, bop_mul o]
theorem hmb_ok {n wf : Nat} {m : Mem} {t : Bool} {r : List Int} {h : Int} : callQ T wf ex (n + 1) ix_how_many_by [sq t (r.map .int), .int h] m = .ok (.int (cntL r h : Nat)) m := by
  rw [callQ_eq (n := n) (fn := fn_how_many_by) rfl rfl rfl]
  simp -dsimp -implicitDefEqProofs [fn_how_many_by, qSs, qS, qV, qVs, qC, isMk, qE, qEs, qI, qT, startQ, qsetAll, varOf, accQ, qwipeR, qbT, qbTs, qwipe, tgv, tgvs, mkL, lstO, tst_eq, opt_eq, optE, arrange, bindA]
  rw [cloop_filter (fun x : Int => if x ≤ h then some (D.int x) else none) (fun x hx => by
    by_cases c : x ≤ h <;> simp -dsimp -implicitDefEqProofs [qSs, qS, qV, qVs, qC, isMk, qE, qEs, qI, qT, startQ, qsetAll, varOf, accQ, qwipeR, qbT, qbTs, qwipe, tgv, tgvs, mkL, lstO, tst_eq, opt_eq, optE, arrange, bindA, c])]
  have cf := cnt_fm (r := r) (h := h)
  generalize (r.filterMap fun x => if x ≤ h then some (D.int x) else none) = F at cf
  simp -dsimp -implicitDefEqProofs [qSs, qS, qV, qVs, qC, isMk, qE, qEs, qI, qT, startQ, qsetAll, varOf, accQ, qwipeR, qbT, qbTs, qwipe, tgv, tgvs, mkL, lstO, tst_eq, opt_eq, optE, arrange, bindA, cf]
def pasD (a b : List Int) (p : List (List Int)) (z : Int × Int) : D := .tup [.int z.1, .int z.2, .int (passP a b p z)]
theorem passings_ok {n wf w : Nat} {m : Mem} {t : Bool} {a b : List Int} {p : List (List Int)} (ha : a.length ≤ 9) (hb : b.length ≤ 9) (sa : a.Pairwise (· ≤ ·)) (sb : b.Pairwise (· ≤ ·)) (h0 : p ≠ []) (hl : p.length = a.length) (hw : ∀ r ∈ p, r.length = b.length) : callQ T wf ex (n + 4) ix_passings [dQ t p, dQ t [a, b]] m = .ok (.lst ((ztL (spots a b)).map (pasD a b p))) m := by
  rw [callQ_eq (n := n + 3) (fn := fn_passings) rfl rfl rfl]
  have i0 : ixD (dQ t [a, b]) (.int 0) = some (sq t (a.map .int)) := by cases t <;> rfl
  have i1 : ixD (dQ t [a, b]) (.int 1) = some (sq t (b.map .int)) := by cases t <;> rfl
  have cr : ∀ mm, callQ T wf ex (n + 3) ix_check_road [dQ t p, dQ t [a, b]] mm = .ok .non mm := fun mm => by rw [check_road_ok (n := n + 1) h0 hw, if_pos ⟨hl, rfl⟩]
  have cc : ∀ mm, callQ T wf ex (n + 3) ix_corners [dQ t p] mm = .ok (dP (corP b.length p)) mm := fun mm => corners_ok (n := n + 1) h0 (by omega) hw (by omega)
  have cs : ∀ mm, callQ T wf ex (n + 3) ix_sums_of [dQ t p] mm = .ok (dP (smP b.length p)) mm := fun mm => sums_of_ok (n := n + 2) h0 (by omega) hw
  have e1 : b1 .sortSet (.lst (a.map .int ++ b.map .int)) = some (lI (spots a b)) := by
    rw [← List.map_append]
    simp only [lI, b1, intsD_mapI, Option.bind_some]
    rw [if_pos (by simp; omega)]
    rfl
  have hm : ∀ (r : List Int) (h : Int) mm, callQ T wf ex (n + 3) ix_how_many_by [sq t (r.map .int), .int h] mm = .ok (.int (cntL r h : Nat)) mm := fun r h mm => hmb_ok (n := n + 2)
  have bl : a.length + b.length ≤ BIG := by unfold BIG; omega
  simp -dsimp -implicitDefEqProofs [fn_passings, qSs, qS, qV, qVs, qC, isMk, qE, qEs, qI, qT, startQ, qsetAll, varOf, accQ, qwipeR, qbT, qbTs, qwipe, tgv, tgvs, mkL, lstO, tst_eq, opt_eq, optE, arrange, bindA, i0, i1, cr, cc, cs, e1, bl, cut_1, zipD_lI', zipL_It]
  have eZ : (spots a b).zip (spots a b).tail = ztL (spots a b) := rfl
  rw [eZ]
  have zl := zt_len (a := a) (b := b)
  rw [floop_ix (fun k => [some (false, dQ t p), some (false, dQ t [a, b]), some (false, dP (corP b.length p)), some (false, dP (smP b.length p)), some (true, .lst (((ztL (spots a b)).take k).map (pasD a b p))), some (false, lI (spots a b)), none, none, none, none, none]) (by simp) (fun k z hz => ?_)]
  · simp -dsimp -implicitDefEqProofs [qSs, qS, qV, qVs, qC, isMk, qE, qEs, qI, qT, startQ, qsetAll, varOf, accQ, qwipeR, qbT, qbTs, qwipe, tgv, tgvs, mkL, lstO, tst_eq, opt_eq, optE, arrange, bindA, List.take_length]
  · have hz' := List.mem_of_getElem? hz
    have pe := pass_eq (p := p) sa sb hz'
    have n1 := cnt_le (a := a) (h := z.1)
    have n2 := cnt_le (a := b) (h := z.1)
    have l0 : ixD (dP (smP b.length p)) (.int 0) = some (dI (rsP p)) := rfl
    have l1 : ixD (dP (smP b.length p)) (.int 1) = some (dI (csP b.length p)) := rfl
    have lr : (rsP p).length = p.length := by simp [rsP]
    have lc : (csP b.length p).length = b.length := by simp [csP, trP]
    have u1 : cutL (rsP p) none (some (cntL a z.1 : Nat)) = (rsP p).take (cntL a z.1) := by rw [cut_to _ (by omega) (by omega)]; rfl
    have u2 : cutL (csP b.length p) none (some (cntL b z.1 : Nat)) = (csP b.length p).take (cntL b z.1) := by rw [cut_to _ (by omega) (by omega)]; rfl
    have tk : ∀ (r : List Int) (k : Nat), k ≤ r.length → (r.take k).sum = sN k (cl r) := fun r k hk => by
      rw [sum_sN, List.length_take, Nat.min_eq_left hk]
      exact sN_congr fun i hi => by simp [cl, List.getD, List.getElem?_take, hi]
    have v1 : ((rsP p).take (cntL a z.1)).sum = cP p (cntL a z.1) b.length := by rw [tk _ _ (by omega), rsP_A hw (by omega)]
    have v2 : ((csP b.length p).take (cntL b z.1)).sum = cP p a.length (cntL b z.1) := by rw [tk _ _ (by omega), csP_B (by omega), hl]
    have lP : (corP b.length p).length = p.length + 1 := corFrom_len _ _
    have rP : ∀ r ∈ corP b.length p, r.length = b.length + 1 := corFrom_rect hw (by simp)
    have x1 := ix_dP (p := corP b.length p) (i := (cntL a z.1 : Nat)) (by omega) (by omega)
    rw [Int.toNat_natCast] at x1
    have lR : (rowP (corP b.length p) (cntL a z.1)).length = b.length + 1 := rowP_len rP (by omega)
    have x2 := ix_dI (r := rowP (corP b.length p) (cntL a z.1)) (i := (cntL b z.1 : Nat)) (by omega) (by omega)
    rw [Int.toNat_natCast, cell_corP hw (by omega) (by omega)] at x2
    have x2 : ixD (dI (rowP (corP b.length p) (cntL a z.1))) (.int (cntL b z.1 : Nat)) = some (.int (cP p (cntL a z.1) (cntL b z.1))) := x2
    have o1 : bop .mul (.int 2) (.int (cP p (cntL a z.1) (cntL b z.1))) = some (.int (2 * cP p (cntL a z.1) (cntL b z.1))) := bop_mul (mulOk_l (by decide))
    have ap : appAcc (((ztL (spots a b)).take k).map (pasD a b p)) (.tup [.int z.1, .int z.2, .int (cP p (cntL a z.1) b.length + cP p a.length (cntL b z.1) - 2 * cP p (cntL a z.1) (cntL b z.1))]) = some (((ztL (spots a b)).take (k + 1)).map (pasD a b p)) := by
      rw [← pe]
      have hl : (((ztL (spots a b)).take k).map (pasD a b p)).length < BIG := by
        unfold BIG
        rw [List.length_map, List.length_take]
        omega
      have hb : below 0 (pasD a b p z) = true := rfl
      rw [take_succ_get hz, List.map_append]
      show appAcc _ (pasD a b p z) = _
      simp only [appAcc, hl, hb, and_self, if_true]
      rfl
    simp -dsimp -implicitDefEqProofs [qSs, qS, qV, qVs, qC, isMk, qE, qEs, qI, qT, startQ, qsetAll, varOf, accQ, qwipeR, qbT, qbTs, qwipe, tgv, tgvs, mkL, lstO, tst_eq, opt_eq, optE, arrange, bindA, i0, i1, hm, l0, l1, u1, u2, v1, v2, x1, x2, o1, ap, BIG, -List.map_take]
end Gk24
set_option linter.all false
set_option maxRecDepth 100000
set_option maxHeartbeats 1000000
namespace Gk24
open PySem G48
theorem srt2 {x y : Int} : srt [x, y] = [min x y, max x y] := by
  have h1 : (srt [x, y]).Pairwise (· ≤ ·) := srt_up _
  refine up_unique h1 (by simp; omega) ((srt_perm _).trans ?_)
  rcases Int.le_total x y with h | h
  · rw [Int.min_eq_left h, Int.max_eq_right h]
  · rw [Int.min_eq_right h, Int.max_eq_left h]
    exact .swap _ _ _
theorem zt_at {S : List Int} {k : Nat} (h : k + 1 < S.length) : (ztL S)[k]? = some (cl S k, cl S (k + 1)) := by
  unfold ztL
  rw [List.getElem?_zip_eq_some]
  refine ⟨?_, ?_⟩
  · simp [cl, List.getD, List.getElem?_eq_getElem (show k < S.length by omega)]
  · rw [List.getElem?_tail]
    simp [cl, List.getD, List.getElem?_eq_getElem h]
theorem ldue_ok {n wf : Nat} {m : Mem} {a b : List Int} {p : List (List Int)} (ha : a.length ≤ 9) (hb : b.length ≤ 9) (ha1 : 1 ≤ a.length) (hl : p.length = a.length) (hw : ∀ r ∈ p, r.length = b.length) : callQ T wf ex (n + 1) ix_law_due [dP p, dP [a, b]] m = .ok (.lst ((ztL (spots a b)).map (pasD a b p))) m := by
  rw [callQ_eq (n := n) (fn := fn_law_due) rfl rfl rfl]
  have i0 : ixD (dP [a, b]) (.int 0) = some (dI a) := rfl
  have i1 : ixD (dP [a, b]) (.int 1) = some (dI b) := rfl
  have e0 : bop .add (dI a) (dI b) = some (dI (a ++ b)) := bop_adddI (by unfold BIG; omega)
  have e1 : b1 .sortSet (dI (a ++ b)) = some (lI (spots a b)) := by
    simp only [dI, lI, b1, intsD_mapI, Option.bind_some]
    rw [if_pos (by simp; omega)]
    rfl
  obtain ⟨L, hL⟩ : ∃ L, (spots a b).length = L + 1 := by
    have : 0 < (spots a b).length := List.length_pos_iff.2 fun z => by
      have := (spots_mem (a := a) (b := b) (x := cl a 0)).2 (.inl (cl_mem (by omega)))
      rw [z] at this
      simp at this
    exact ⟨(spots a b).length - 1, by omega⟩
  have zl : (ztL (spots a b)).length = L := by simp [ztL, hL]
  have hs := srtS_le (a ++ b)
  have hL2 : L ≤ 17 := by
    have : (spots a b).length ≤ (a ++ b).length := hs
    simp at this
    omega
  have rg : rngD [.int (L : Int)] = some (rgN L) := rgN_ok (by unfold BIG; omega)
  have eL : ((L : Int) + 1 - 1) = (L : Int) := by omega
  simp -dsimp -implicitDefEqProofs [fn_law_due, qSs, qS, qV, qVs, qC, isMk, qE, qEs, qI, qT, startQ, qsetAll, varOf, accQ, qwipeR, qbT, qbTs, qwipe, tgv, tgvs, mkL, lstO, tst_eq, opt_eq, optE, arrange, bindA, i0, i1, e0, e1, hL, eL, rg]
  have er : rgN L = (List.range L).map fun (k : Nat) => D.int (k : Int) := rfl
  rw [er]
  rw [floop_ix (fun k => [some (false, dP p), some (false, dP [a, b]), some (false, lI (spots a b)), some (true, .lst (((ztL (spots a b)).take k).map (pasD a b p))), none, none, none, none, none, none, none]) (by simp) (fun k k' hk' => ?_)]
  · simp -dsimp -implicitDefEqProofs [qSs, qS, qV, qVs, qC, isMk, qE, qEs, qI, qT, startQ, qsetAll, varOf, accQ, qwipeR, qbT, qbTs, qwipe, tgv, tgvs, mkL, lstO, tst_eq, opt_eq, optE, arrange, bindA, List.length_range, ← zl, List.take_length]
  · have hk : k < L := by
      have := (List.getElem?_eq_some_iff.1 hk').1
      simpa using this
    have ek : k' = k := by
      rw [List.getElem?_range hk] at hk'
      exact (Option.some.inj hk').symm
    subst ek
    have hz := zt_at (S := spots a b) (k := k') (by omega)
    generalize ez : (cl (spots a b) k', cl (spots a b) (k' + 1)) = z at hz
    have z1 : cl (spots a b) k' = z.1 := by rw [← ez]
    have z2 : cl (spots a b) (k' + 1) = z.2 := by rw [← ez]
    have y1 := ix_lIz (r := spots a b) (i := (k' : Int)) (by omega) (by omega)
    have y2 := ix_lIz (r := spots a b) (i := (k' : Int) + 1) (by omega) (by omega)
    have et : ((k' : Int) + 1).toNat = k' + 1 := by omega
    rw [Int.toNat_natCast, z1] at y1
    rw [et, z2] at y2
    simp -dsimp -implicitDefEqProofs [qSs, qS, qV, qVs, qC, isMk, qE, qEs, qI, qT, startQ, qsetAll, varOf, accQ, qwipeR, qbT, qbTs, qwipe, tgv, tgvs, mkL, lstO, tst_eq, opt_eq, optE, arrange, bindA, -List.map_take]
    rw [floop_enum (fun i => [some (false, dP p), some (false, dP [a, b]), some (false, lI (spots a b)), some (true, .lst (((ztL (spots a b)).take k').map (pasD a b p))), some (false, .int (k' : Int)), some (false, .int (sN i fun i => sN b.length fun j => cl (rowP p i) j * midB (cl a i) (cl b j) z)), none, none, none, none, none]) (by simp [sN_zero]) (fun i r hr => ?_)]
    · have ap : appAcc (((ztL (spots a b)).take k').map (pasD a b p)) (.tup [.int z.1, .int z.2, .int (sN p.length fun i => sN b.length fun j => cl (rowP p i) j * midB (cl a i) (cl b j) z)]) = some (((ztL (spots a b)).take (k' + 1)).map (pasD a b p)) := by
        rw [hl]
        have hl : (((ztL (spots a b)).take k').map (pasD a b p)).length < BIG := by
          unfold BIG
          rw [List.length_map, List.length_take]
          omega
        have hb : below 0 (pasD a b p z) = true := rfl
        rw [take_succ_get hz, List.map_append]
        show appAcc _ (pasD a b p z) = _
        simp only [appAcc, hl, hb, and_self, if_true]
        rfl
      simp -dsimp -implicitDefEqProofs [qSs, qS, qV, qVs, qC, isMk, qE, qEs, qI, qT, startQ, qsetAll, varOf, accQ, qwipeR, qbT, qbTs, qwipe, tgv, tgvs, mkL, lstO, tst_eq, opt_eq, optE, arrange, bindA, y1, y2, ap, BIG, -List.map_take]
    · have hi : i < p.length := (List.getElem?_eq_some_iff.1 hr).1
      have er2 : rowP p i = r := by simp [rowP, List.getD, hr]
      have hrl := hw r (List.mem_of_getElem? hr)
      simp -dsimp -implicitDefEqProofs [qSs, qS, qV, qVs, qC, isMk, qE, qEs, qI, qT, startQ, qsetAll, varOf, accQ, qwipeR, qbT, qbTs, qwipe, tgv, tgvs, mkL, lstO, tst_eq, opt_eq, optE, arrange, bindA, -List.map_take]
      rw [floop_enum (fun j => [some (false, dP p), some (false, dP [a, b]), some (false, lI (spots a b)), some (true, .lst (((ztL (spots a b)).take k').map (pasD a b p))), some (false, .int (k' : Int)), some (false, .int ((sN i fun i => sN b.length fun j => cl (rowP p i) j * midB (cl a i) (cl b j) z) + sN j fun j => cl r j * midB (cl a i) (cl b j) z)), some (false, .int (i : Int)), some (false, dI r), none, none, none]) (by simp [sN_zero]) (fun j x hx => ?_)]
      · simp -dsimp -implicitDefEqProofs [qSs, qS, qV, qVs, qC, isMk, qE, qEs, qI, qT, startQ, qsetAll, varOf, accQ, qwipeR, qbT, qbTs, qwipe, tgv, tgvs, mkL, lstO, tst_eq, opt_eq, optE, arrange, bindA, hrl, sN_succ, er2, -List.map_take]
      · have hj : j < b.length := by rw [← hrl]; exact (List.getElem?_eq_some_iff.1 hx).1
        have ex' : cl r j = x := by simp [cl, List.getD, hx]
        have x1 := ix_dI (r := a) (i := (i : Int)) (by omega) (by omega)
        have x2 := ix_dI (r := b) (i := (j : Int)) (by omega) (by omega)
        rw [Int.toNat_natCast] at x1 x2
        have sr : b1 .sorted (.lst [.int (cl a i), .int (cl b j)]) = some (.lst [.int (min (cl a i) (cl b j)), .int (max (cl a i) (cl b j))]) := by
          have := congrArg some (congrArg (fun l : List Int => D.lst (l.map .int)) (srt2 (x := cl a i) (y := cl b j)))
          exact this
        have l0 : ∀ x y : D, ixD (.lst [x, y]) (.int 0) = some x := fun x y => rfl
        have l1 : ∀ x y : D, ixD (.lst [x, y]) (.int 1) = some y := fun x y => rfl
        have o0 : bop .mul (.int x) (.int 0) = some (.int (x * 0)) := bop_mul (mulOk_r (by decide))
        have o1 : bop .mul (.int x) (.int 1) = some (.int (x * 1)) := bop_mul (mulOk_r (by decide))
        by_cases c1 : min (cl a i) (cl b j) ≤ z.1
        · by_cases c2 : z.2 ≤ max (cl a i) (cl b j)
          · have em : midB (cl a i) (cl b j) z = 1 := if_pos ⟨c1, c2⟩
            simp -dsimp -implicitDefEqProofs [qSs, qS, qV, qVs, qC, isMk, qE, qEs, qI, qT, startQ, qsetAll, varOf, accQ, qwipeR, qbT, qbTs, qwipe, tgv, tgvs, mkL, lstO, tst_eq, opt_eq, optE, arrange, bindA, i0, i1, x1, x2, sr, l0, l1, y1, y2, c1, c2, o1, sN_succ, ex', em, BIG, Int.add_assoc, -List.map_take]
          · have em : midB (cl a i) (cl b j) z = 0 := if_neg (fun h => c2 h.2)
            simp -dsimp -implicitDefEqProofs [qSs, qS, qV, qVs, qC, isMk, qE, qEs, qI, qT, startQ, qsetAll, varOf, accQ, qwipeR, qbT, qbTs, qwipe, tgv, tgvs, mkL, lstO, tst_eq, opt_eq, optE, arrange, bindA, i0, i1, x1, x2, sr, l0, l1, y1, y2, c1, c2, o0, sN_succ, ex', em, BIG, Int.add_assoc, -List.map_take]
        · have em : midB (cl a i) (cl b j) z = 0 := if_neg (fun h => c1 h.1)
          simp -dsimp -implicitDefEqProofs [qSs, qS, qV, qVs, qC, isMk, qE, qEs, qI, qT, startQ, qsetAll, varOf, accQ, qwipeR, qbT, qbTs, qwipe, tgv, tgvs, mkL, lstO, tst_eq, opt_eq, optE, arrange, bindA, i0, i1, x1, x2, sr, l0, l1, y1, y2, c1, o0, sN_succ, ex', em, BIG, Int.add_assoc, -List.map_take]
theorem pr01 : PrOk 0 [(0, 1)] := ⟨by decide, by decide, by simp, by simp, by decide, by simp⟩
theorem prD01 : D.tup [.int 0, .tup [.tup [.int 0, .int 1]]] = prD true 0 [(0, 1)] := rfl
theorem pu_pas {a b : List Int} {p : List (List Int)} {l : List (Int × Int)} : Pu 2 (.lst (l.map (pasD a b p))) := .lst fun x hx => by
  obtain ⟨z, _, rfl⟩ := List.mem_map.1 hx
  exact .tup fun y hy => by
    simp at hy
    rcases hy with rfl | rfl | rfl <;> exact .int
theorem right_ok {n wf b : Nat} {m : Mem} (hb : Bd b 100000 m) : W (callQ T wf ex (n + 20) ix_law_right [.cell b] m) fun v _ => v = .bl true := by
  have pw : bop .pow (.int 10) (.int 38) = some (.int (10 ^ 38)) := rfl
  rw [callQ_eq (n := n + 19) (fn := fn_law_right) rfl rfl rfl]
  refine W.finQ ?_
  simp -dsimp -implicitDefEqProofs [fn_law_right, qSs, qS, qV, qVs, qC, isMk, qE, qEs, qI, qT, startQ, qsetAll, varOf, accQ, qwipeR, qbT, qbTs, qwipe, tgv, tgvs, mkL, lstO, tst_eq, opt_eq, optE, arrange, bindA, rg8]
  refine W.floop (fun i ρ m' => Bd b ((8 - i) * 1000) m' ∧ ρ = [some (false, .cell b), none, none, none, none, none, none, none, none]) ⟨hb.mono (by omega), rfl⟩ ?_ ?_
  · rintro j d ρ m' hd ⟨x, eρ⟩
    obtain ⟨hj, ed⟩ := rgN_get hd
    subst eρ ed
    have e9 : (8 - j) * 1000 = (8 - (j + 1)) * 1000 + 1000 := by omega
    rw [e9] at x
    generalize (8 - (j + 1)) * 1000 = f at x
    simp -dsimp -implicitDefEqProofs [qSs, qS, qV, qVs, qC, isMk, qE, qEs, qI, qT, startQ, qsetAll, varOf, accQ, qwipeR, qbT, qbTs, qwipe, tgv, tgvs, mkL, lstO, tst_eq, opt_eq, optE, arrange, bindA]
    refine W.then (take_ok (n := n + 18) (wf := wf) (k := 5) (f := f + 999) x (by omega) (by decide +kernel)) fun v m1 ⟨c, es, s0, s1, x1⟩ => ?_
    subst es
    simp -dsimp -implicitDefEqProofs [qSs, qS, qV, qVs, qC, isMk, qE, qEs, qI, qT, startQ, qsetAll, varOf, accQ, qwipeR, qbT, qbTs, qwipe, tgv, tgvs, mkL, lstO, tst_eq, opt_eq, optE, arrange, bindA]
    refine W.then (take_ok (n := n + 18) (wf := wf) (k := 5) (f := f + 998) x1 (by omega) (by decide +kernel)) fun v m2 ⟨e, et, t0, t1, x2⟩ => ?_
    subst et
    obtain ⟨a, ea⟩ : ∃ a : Nat, 1 + c = (a : Int) := ⟨(1 + c).toNat, by omega⟩
    obtain ⟨w, ew⟩ : ∃ w : Nat, 1 + e = (w : Int) := ⟨(1 + e).toNat, by omega⟩
    simp -dsimp -implicitDefEqProofs [qSs, qS, qV, qVs, qC, isMk, qE, qEs, qI, qT, startQ, qsetAll, varOf, accQ, qwipeR, qbT, qbTs, qwipe, tgv, tgvs, mkL, lstO, tst_eq, opt_eq, optE, arrange, bindA, ea, ew, pw, BIG]
    refine W.then (of_ok (n := n + 17) (wf := wf) (f := f + 997) x2 (by simp) (by simp)) fun v m3 ⟨hv, x3⟩ => ?_
    obtain ⟨top, ev, tp0, tp1⟩ : ∃ top : Int, v = .int top ∧ 0 ≤ top ∧ top ≤ 10 ^ 38 := by
      simp at hv
      rcases hv with rfl | rfl | rfl
      · exact ⟨_, rfl, by decide, by decide⟩
      · exact ⟨_, rfl, by decide, by decide⟩
      · exact ⟨_, rfl, by decide, by decide⟩
    subst ev
    have hdv : top + 1 < DIVB := Int.lt_of_le_of_lt (by omega : top + 1 ≤ 10 ^ 38 + 1) (by decide +kernel)
    simp -dsimp -implicitDefEqProofs [qSs, qS, qV, qVs, qC, isMk, qE, qEs, qI, qT, startQ, qsetAll, varOf, accQ, qwipeR, qbT, qbTs, qwipe, tgv, tgvs, mkL, lstO, tst_eq, opt_eq, optE, arrange, bindA, ea, ew]
    refine W.then (plan_ok (n := n + 17) (wf := wf) (many := a) (wide := w) (top := top) (f := f + 700) (x3.mono (by omega)) (by omega) (by omega) tp0 hdv) fun v m4 ⟨p, ep, hp, x4⟩ => ?_
    subst ep
    have hpw : ∀ r ∈ p, r.length = w := fun r hr => (hp.2 r hr).1
    have hpl := hp.1
    have h0 : p ≠ [] := fun z => by rw [z] at hpl; simp at hpl; omega
    have i0 : ixD (dP p) (.int 0) = some (dI (rowP p 0)) := ix_dP (i := 0) (by omega) (by omega)
    have l0 : (rowP p 0).length = w := rowP_len hpw (by omega)
    simp -dsimp -implicitDefEqProofs [qSs, qS, qV, qVs, qC, isMk, qE, qEs, qI, qT, startQ, qsetAll, varOf, accQ, qwipeR, qbT, qbTs, qwipe, tgv, tgvs, mkL, lstO, tst_eq, opt_eq, optE, arrange, bindA, i0, l0, hpl, BIG]
    refine W.then (of_ok (n := n + 17) (wf := wf) (f := f + 699) x4 (by simp) (by simp)) fun v m5 ⟨hv, x5⟩ => ?_
    obtain ⟨hi, ev, hi0, hi1⟩ : ∃ top : Int, v = .int top ∧ 0 ≤ top ∧ top ≤ 12 := by
      simp at hv
      rcases hv with rfl | rfl | rfl
      · exact ⟨_, rfl, by decide, by decide⟩
      · exact ⟨_, rfl, by decide, by decide⟩
      · exact ⟨_, rfl, by decide, by decide⟩
    subst ev
    simp -dsimp -implicitDefEqProofs [qSs, qS, qV, qVs, qC, isMk, qE, qEs, qI, qT, startQ, qsetAll, varOf, accQ, qwipeR, qbT, qbTs, qwipe, tgv, tgvs, mkL, lstO, tst_eq, opt_eq, optE, arrange, bindA]
    refine W.then (lroad_ok (n := n + 17) (wf := wf) (f := f + 500) (many := a) (wide := w) (high := hi) (x5.mono (by omega)) (by omega) (by omega) (by omega) (by omega)) fun v m6 ⟨u, y, ev, hu, hy, bu, bY, su, sy, x6⟩ => ?_
    subst ev
    have ru : RdOk u := fun z hz => by have := bu z hz; omega
    have ry : RdOk y := fun z hz => by have := bY z hz; omega
    have hpy : ∀ r ∈ p, r.length = y.length := fun r hr => by rw [hpw r hr, hy]
    have k1 : ∀ mm, callQ T wf ex (n + 19) ix_passings [dP p, dP [u, y]] mm = .ok (.lst ((ztL (spots u y)).map (pasD u y p))) mm := fun mm => passings_ok (n := n + 15) (w := w) (t := true) (by omega) (by omega) su sy h0 (by omega) hpy
    have k2 : ∀ mm, callQ T wf ex (n + 19) ix_passings [dQ false p, dQ false [u, y]] mm = .ok (.lst ((ztL (spots u y)).map (pasD u y p))) mm := fun mm => passings_ok (n := n + 15) (w := w) (t := false) (by omega) (by omega) su sy h0 (by omega) hpy
    have k3 : ∀ mm, callQ T wf ex (n + 19) ix_law_due [dP p, dP [u, y]] mm = .ok (.lst ((ztL (spots u y)).map (pasD u y p))) mm := fun mm => ldue_ok (n := n + 18) (by omega) (by omega) (by omega) (by omega) hpy
    have li : ∀ (q : List (List Int)) (mm : Mem), callQ T wf ex (n + 19) ix_law_lists [dP q] mm = .ok (dQ false q) mm := fun q mm => by rw [← dl_dP]; exact lists_ok (k := 2) Pu.dP (by omega)
    have sm : ∀ (d : D) (k : Nat) (mm : Mem), Pu k d → k ≤ 5 → callQ T wf ex (n + 19) ix_law_same [d, d] mm = .ok (.bl true) mm := fun d k mm h hk => same_ok h (by omega) (by omega)
    have s1 := fun mm => sm (.lst [.lst ((ztL (spots u y)).map (pasD u y p)), .lst ((ztL (spots u y)).map (pasD u y p))]) 3 mm (.lst fun x hx => by simp at hx; subst hx; exact pu_pas) (by omega)
    have kc : ∀ mm, callQ T wf ex (n + 19) ix_cost [dP p, dP [u, y], prD true 0 [(0, 1)]] mm = .ok (.int (billP 0 [(0, 1)] u y p)) mm := fun mm => cost_ok (n := n + 16) (t := true) (u := true) pr01 ru ry h0 (by omega) hpy
    have s2 := fun mm => sm (.int (billP 0 [(0, 1)] u y p)) 0 mm .int (by omega)
    simp -dsimp -implicitDefEqProofs [qSs, qS, qV, qVs, qC, isMk, qE, qEs, qI, qT, startQ, qsetAll, varOf, accQ, qwipeR, qbT, qbTs, qwipe, tgv, tgvs, mkL, lstO, tst_eq, opt_eq, optE, arrange, bindA, k1, k2, k3, li, s1, BIG]
    rw [cloop_pure (fun z : Int × Int => D.int ((z.2 - z.1) * passP u y p z)) (fun z hz => ?_)]
    · have e2 : b1 .sum (.lst ((ztL (spots u y)).map fun z => D.int ((z.2 - z.1) * passP u y p z))) = some (.int (billP 0 [(0, 1)] u y p)) := by
        rw [bill_pass (by omega) hpy]
        exact sum_mapf _ _
      simp -dsimp -implicitDefEqProofs [qSs, qS, qV, qVs, qC, isMk, qE, qEs, qI, qT, startQ, qsetAll, varOf, accQ, qwipeR, qbT, qbTs, qwipe, tgv, tgvs, mkL, lstO, tst_eq, opt_eq, optE, arrange, bindA, e2, prD01, kc, s2, BIG]
      exact x6.mono (by omega)
    · have zm := zt_mem hz
      have big : ∀ x ∈ spots u y, x.natAbs ≤ 1000000 := fun x hx => by
        rcases spots_mem.1 hx with h | h
        · exact ru x h
        · exact ry x h
      have g1 := big _ zm.1
      have g2 := big _ zm.2
      have q0 : ixD (pasD u y p z) (.int 0) = some (.int z.1) := rfl
      have q1 : ixD (pasD u y p z) (.int 1) = some (.int z.2) := rfl
      have q2 : ixD (pasD u y p z) (.int 2) = some (.int (passP u y p z)) := rfl
      have o2 : bop .mul (.int (z.2 - z.1)) (.int (passP u y p z)) = some (.int ((z.2 - z.1) * passP u y p z)) := bop_mul (mulOk_l (by omega))
      have pk : ∀ mm : Mem, peek mm (pasD u y p z) = pasD u y p z := fun _ => rfl
      simp -dsimp -implicitDefEqProofs [qSs, qS, qV, qVs, qC, isMk, qE, qEs, qI, qT, startQ, qsetAll, varOf, accQ, qwipeR, qbT, qbTs, qwipe, tgv, tgvs, mkL, lstO, tst_eq, opt_eq, optE, arrange, bindA, pk, q0, q1, q2, o2]
  · rintro ρ m' ⟨x, eρ⟩
    subst eρ
    simp -dsimp -implicitDefEqProofs [qSs, qS, qV, qVs, qC, isMk, qE, qEs, qI, qT, startQ, qsetAll, varOf, accQ, qwipeR, qbT, qbTs, qwipe, tgv, tgvs, mkL, lstO, tst_eq, opt_eq, optE, arrange, bindA]
end Gk24
set_option linter.all false
set_option maxRecDepth 100000
set_option maxHeartbeats 1000000
namespace Gk24
open PySem G48
theorem cells_ok {n wf : Nat} {m : Mem} {ns : List Int} : ∃ cs : List Int, cs.length ≤ 3 ∧ callF T wf (n + 1) ix_law_cells [.scr ns, .int 3] m = .ok (.lst (cs.map .int)) m := by
  suffices h : W (callF T wf (n + 1) ix_law_cells [.scr ns, .int 3] m) fun v m' => ∃ cs : List Int, cs.length ≤ 3 ∧ v = .lst (cs.map .int) ∧ m' = m by
    obtain ⟨v, m', e, cs, h1, h2, h3⟩ := h
    subst h2 h3
    exact ⟨cs, h1, e⟩
  rw [callF_eq (fn := fn_law_cells) rfl rfl]
  refine W.fin ?_
  have cut3 : ∀ d, cutIx ns.length d (some 3) = min 3 ns.length := fun d => by simp -dsimp -implicitDefEqProofs [cutIx]
  have cut63 : ∀ d, cutIx ns.length d (some 63) = min 63 ns.length := fun d => by simp -dsimp -implicitDefEqProofs [cutIx]
  have cut0 : ∀ d, cutIx ns.length d none = d := fun d => rfl
  have e3 : cutL ns none (some 3) = ns.take 3 := by
    simp -dsimp -implicitDefEqProofs only [cutL, cut3, cut0, List.drop_zero]
    by_cases h : ns.length ≤ 3
    · rw [Nat.min_eq_right h, List.take_length, List.take_of_length_le h]
    · rw [Nat.min_eq_left (by omega)]
  have ei : ((ns.take 3).map D.int).length ≤ BIG := by
    have : (ns.take 3).length ≤ 3 := List.length_take_le _ _
    unfold BIG; simp; omega
  by_cases h3 : ns.length ≤ 3
  · have hx : cutL ns (some 3) (some 63) = [] := by
      simp -dsimp -implicitDefEqProofs only [cutL, cut3, cut63]
      apply List.drop_eq_nil_of_le
      rw [List.length_take]
      omega
    cases ns with
    | nil =>
      have er : ((m ++ [some (Cel.lst [])]) ++ [some (Cel.lst [D.int 0])])[m.length + 1]? = some (some (Cel.lst [D.int 0])) := by simp
      simp -dsimp -implicitDefEqProofs [fn_law_cells, ev_var, ev_int, ev_bl, ev_non, ev_str, ev_gl, ev_bin, ev_neg, ev_not, ev_and, ev_or, ev_cmp, ev_chain, ev_isN, ev_notN, ev_ife, ev_tup, ev_lst, ev_cel, ev_ix, ev_slice, ev_rev, ev_call, ev_callA, ev_b1, ev_min2, ev_max2, ev_isin, ev_seqI, ev_comp, ev_compI, ev_comp2, evt_nil, evt_one, ev_cellOf, evs_nil, evs_cons, evs_star, evi_of, evi_rng, evi_enum, evi_zip, evi_zipS, tst_eq, opt_eq, wipeR_eq, st_set, st_setT, st_par, st_setIx, st_aug, st_expr, st_app, st_ext, st_iff, st_for, st_whil, st_ret, st_retN, st_brk, st_cont, st_pass, st_frz, ss_nil0, ss_cons0, fin_rt, fin_nx, fin_exc, startE, optE, b1, bop, cop, isinD, isT, Ty.plain, truth, seqD, revD, ixD, pyIx, sliceD, bindT, bindTs, tgv, tgvs, wipe, setAll, newCell, setIxD, setCell, appD, liveL, isNon, arrange, below, belows, bindA, cutL, enumL, forLoop, BIG, peek]
      rw [frzR_ok (xs := [.int 0]) (by simp)]
      simp -dsimp -implicitDefEqProofs [ev_var, ev_int, ev_bl, ev_non, ev_str, ev_gl, ev_bin, ev_neg, ev_not, ev_and, ev_or, ev_cmp, ev_chain, ev_isN, ev_notN, ev_ife, ev_tup, ev_lst, ev_cel, ev_ix, ev_slice, ev_rev, ev_call, ev_callA, ev_b1, ev_min2, ev_max2, ev_isin, ev_seqI, ev_comp, ev_compI, ev_comp2, evt_nil, evt_one, ev_cellOf, evs_nil, evs_cons, evs_star, evi_of, evi_rng, evi_enum, evi_zip, evi_zipS, tst_eq, opt_eq, wipeR_eq, st_set, st_setT, st_par, st_setIx, st_aug, st_expr, st_app, st_ext, st_iff, st_for, st_whil, st_ret, st_retN, st_brk, st_cont, st_pass, st_frz, ss_nil0, ss_cons0, fin_rt, fin_nx, fin_exc, startE, optE, b1, bop, cop, isinD, isT, Ty.plain, truth, seqD, revD, ixD, pyIx, sliceD, bindT, bindTs, tgv, tgvs, wipe, setAll, newCell, setIxD, setCell, appD, liveL, isNon, arrange, below, belows, bindA]
      exact ⟨[0], by simp, rfl⟩
    | cons z zs =>
      have et : (z :: zs).take 3 = z :: zs := List.take_of_length_le h3
      have er : (m ++ [some (Cel.lst ((z :: zs).map D.int))])[m.length]? = some (some (Cel.lst ((z :: zs).map D.int))) := by simp
      simp -dsimp -implicitDefEqProofs [fn_law_cells, ev_var, ev_int, ev_bl, ev_non, ev_str, ev_gl, ev_bin, ev_neg, ev_not, ev_and, ev_or, ev_cmp, ev_chain, ev_isN, ev_notN, ev_ife, ev_tup, ev_lst, ev_cel, ev_ix, ev_slice, ev_rev, ev_call, ev_callA, ev_b1, ev_min2, ev_max2, ev_isin, ev_seqI, ev_comp, ev_compI, ev_comp2, evt_nil, evt_one, ev_cellOf, evs_nil, evs_cons, evs_star, evi_of, evi_rng, evi_enum, evi_zip, evi_zipS, tst_eq, opt_eq, wipeR_eq, st_set, st_setT, st_par, st_setIx, st_aug, st_expr, st_app, st_ext, st_iff, st_for, st_whil, st_ret, st_retN, st_brk, st_cont, st_pass, st_frz, ss_nil0, ss_cons0, fin_rt, fin_nx, fin_exc, startE, optE, b1, bop, cop, isinD, isT, Ty.plain, truth, seqD, revD, ixD, pyIx, sliceD, bindT, bindTs, tgv, tgvs, wipe, setAll, newCell, setIxD, setCell, appD, liveL, isNon, arrange, below, belows, bindA, e3, et, hx, enumL, forLoop, BIG, ints_below, peek]
      rw [frzR_ok (xs := .int z :: zs.map .int) (by simp)]
      simp -dsimp -implicitDefEqProofs [ev_var, ev_int, ev_bl, ev_non, ev_str, ev_gl, ev_bin, ev_neg, ev_not, ev_and, ev_or, ev_cmp, ev_chain, ev_isN, ev_notN, ev_ife, ev_tup, ev_lst, ev_cel, ev_ix, ev_slice, ev_rev, ev_call, ev_callA, ev_b1, ev_min2, ev_max2, ev_isin, ev_seqI, ev_comp, ev_compI, ev_comp2, evt_nil, evt_one, ev_cellOf, evs_nil, evs_cons, evs_star, evi_of, evi_rng, evi_enum, evi_zip, evi_zipS, tst_eq, opt_eq, wipeR_eq, st_set, st_setT, st_par, st_setIx, st_aug, st_expr, st_app, st_ext, st_iff, st_for, st_whil, st_ret, st_retN, st_brk, st_cont, st_pass, st_frz, ss_nil0, ss_cons0, fin_rt, fin_nx, fin_exc, startE, optE, b1, bop, cop, isinD, isT, Ty.plain, truth, seqD, revD, ixD, pyIx, sliceD, bindT, bindTs, tgv, tgvs, wipe, setAll, newCell, setIxD, setCell, appD, liveL, isNon, arrange, below, belows, bindA, ints_below]
      exact ⟨z :: zs, h3, rfl⟩
  · have hl3 : (ns.take 3).length = 3 := by rw [List.length_take]; omega
    obtain ⟨z, zs, ez⟩ : ∃ z zs, ns.take 3 = z :: zs := by
      cases q : ns.take 3 with
      | nil => rw [q] at hl3; cases hl3
      | cons z zs => exact ⟨z, zs, rfl⟩
    simp -dsimp -implicitDefEqProofs [fn_law_cells, ev_var, ev_int, ev_bl, ev_non, ev_str, ev_gl, ev_bin, ev_neg, ev_not, ev_and, ev_or, ev_cmp, ev_chain, ev_isN, ev_notN, ev_ife, ev_tup, ev_lst, ev_cel, ev_ix, ev_slice, ev_rev, ev_call, ev_callA, ev_b1, ev_min2, ev_max2, ev_isin, ev_seqI, ev_comp, ev_compI, ev_comp2, evt_nil, evt_one, ev_cellOf, evs_nil, evs_cons, evs_star, evi_of, evi_rng, evi_enum, evi_zip, evi_zipS, tst_eq, opt_eq, wipeR_eq, st_set, st_setT, st_par, st_setIx, st_aug, st_expr, st_app, st_ext, st_iff, st_for, st_whil, st_ret, st_retN, st_brk, st_cont, st_pass, st_frz, ss_nil0, ss_cons0, fin_rt, fin_nx, fin_exc, startE, optE, b1, bop, cop, isinD, isT, Ty.plain, truth, seqD, revD, ixD, pyIx, sliceD, bindT, bindTs, tgv, tgvs, wipe, setAll, newCell, setIxD, setCell, appD, liveL, isNon, arrange, below, belows, bindA, e3, ez, ints_below, peek]
    have hz : zs.length = 2 := by rw [ez] at hl3; simpa using hl3
    refine W.forT (fun i ρ m' => ρ = [some (.scr ns), some (.int 3), some (.cell m.length), none, none, none] ∧ m'.length = m.length + 1 ∧ (∀ j, j < m.length → m'[j]? = m[j]?) ∧ ∃ cs : List Int, cs.length = 3 ∧ m'[m.length]? = some (some (.lst (cs.map .int)))) ⟨rfl, by simp, fun j hj => by rw [List.getElem?_append_left hj], z :: zs, by simp -dsimp -implicitDefEqProofs [hz], by simp⟩ ?_ ?_
    · rintro j d ρ m' hd ⟨eρ, hl, hk, cs, hcs, ec⟩
      subst eρ
      obtain ⟨y, ey, ed⟩ := enumL_gt hd
      subst ed
      rw [List.getElem?_map] at ey
      cases qy : (cutL ns (some 3) (some 63))[j]? with
      | none => rw [qy] at ey; cases ey
      | some w =>
        rw [qy] at ey
        cases ey
        obtain ⟨i, hi, ei3⟩ : ∃ i : Nat, i < 3 ∧ ((0 : Int) + (j : Int)) % 3 = (i : Int) := ⟨(((0 : Int) + (j : Int)) % 3).toNat, by omega, by omega⟩
        obtain ⟨c, ec2⟩ : ∃ c, cs[i]? = some c := ⟨_, List.getElem?_eq_getElem (by omega)⟩
        have hix := ixD_lst (xs := cs.map .int) (i := i) (d := .int c) (by rw [List.getElem?_map, ec2]; rfl)
        have hpx : pyIx cs.length (i : Int) = some i := by
          have := ix_nat (xs := cs.map D.int) (i := i) (d := .int c) (by rw [List.getElem?_map, ec2]; rfl)
          simpa using this
        have hj63 : j < 63 := by
          have := (List.getElem?_eq_some_iff.mp qy).1
          simp -dsimp -implicitDefEqProofs only [cutL, cut3, cut63, List.length_drop, List.length_take] at this
          omega
        have q4 : ∀ a : Int, mulOk a ((j : Int) + 2) = true := fun a => by
          have : ((j : Int) + 2).natAbs < 2 ^ 64 := by omega
          simp -dsimp -implicitDefEqProofs [mulOk, this]
        have ei4 : (j : Int) % 3 = (i : Int) := by simpa using ei3
        simp -dsimp -implicitDefEqProofs only [Int.zero_add]
        simp -dsimp -implicitDefEqProofs [stepL, ev_var, ev_int, ev_bin, ev_b1, ev_ix, st_set, st_setIx, ss_cons0, ss_nil0, wipeR_eq, bindT, bindTs, seqD, b1, bop, ei4, peek_cell ec, hix, q4, setIxD, ec, below, hpx, setCell, wipe, bindA]
        refine ⟨hl, fun k hkk => ?_, cs.set i (c + w * ((j : Int) + 2)), by simp -dsimp -implicitDefEqProofs [hcs], ?_⟩
        · rw [List.getElem?_set_ne (by omega)]; exact hk k hkk
        · have hml : m.length < m'.length := by omega
          simp -dsimp -implicitDefEqProofs [List.getElem?_set_self hml, List.map_set]
    · rintro ρ m2 ⟨eρ, hl, hk, cs, hcs, ec⟩
      subst eρ
      simp -dsimp -implicitDefEqProofs [ev_var, ev_int, ev_bl, ev_non, ev_str, ev_gl, ev_bin, ev_neg, ev_not, ev_and, ev_or, ev_cmp, ev_chain, ev_isN, ev_notN, ev_ife, ev_tup, ev_lst, ev_cel, ev_ix, ev_slice, ev_rev, ev_call, ev_callA, ev_b1, ev_min2, ev_max2, ev_isin, ev_seqI, ev_comp, ev_compI, ev_comp2, evt_nil, evt_one, ev_cellOf, evs_nil, evs_cons, evs_star, evi_of, evi_rng, evi_enum, evi_zip, evi_zipS, tst_eq, opt_eq, wipeR_eq, st_set, st_setT, st_par, st_setIx, st_aug, st_expr, st_app, st_ext, st_iff, st_for, st_whil, st_ret, st_retN, st_brk, st_cont, st_pass, st_frz, ss_nil0, ss_cons0, fin_rt, fin_nx, fin_exc, startE, optE, b1, bop, cop, isinD, isT, Ty.plain, truth, seqD, revD, ixD, pyIx, sliceD, bindT, bindTs, tgv, tgvs, wipe, setAll, newCell, setIxD, setCell, appD, liveL, isNon, arrange, below, belows, bindA, frzR_ok ec, ints_below]
      refine ⟨cs, by omega, rfl, ?_⟩
      apply List.ext_getElem?
      intro j
      rw [List.getElem?_take]
      split
      · next q => rw [List.getElem?_set_ne (by omega)]; exact hk j q
      · next q => rw [List.getElem?_eq_none (by omega)]
theorem box_ok {n wf : Nat} {m : Mem} {cs : List Int} {k : Nat} (hk : k < cs.length) (h63 : cs.length ≤ 63) : ∃ x0 x1 : Int, callF T wf (n + 1) ix_law_box [.lst (cs.map .int), .int (k : Int)] m = .ok (.cell m.length) (m ++ [some (.lst [.int x0, .int x1, .int 0])]) ∧ Bd m.length 1000000000 (m ++ [some (.lst [.int x0, .int x1, .int 0])]) := by
  rw [callF_eq (fn := fn_law_box) rfl rfl]
  have hi := ixD_lst (xs := cs.map .int) (i := k) (d := .int cs[k]) (by rw [List.getElem?_map, List.getElem?_eq_getElem hk]; rfl)
  generalize cs[k] = z at hi
  have hlt : ((k : Int) < (cs.length : Int)) := by omega
  have q1 : ∀ (a : Int) (p : Prop) [Decidable p], mulOk a (if p then 1 else 0) = true := fun a p _ => by split <;> simp -dsimp -implicitDefEqProofs [mulOk]
  have q2 : ∀ a : Int, mulOk 39373 a = true := fun a => by simp -dsimp -implicitDefEqProofs [mulOk]
  have key : ∃ x0 x1 : Int, fin (List.length m) (evSs wf (callF T wf n) fn_law_box.body (startE fn_law_box.ns [.lst (cs.map .int), .int (k : Int)]) m) = .ok (.cell m.length) (m ++ [some (.lst [.int x0, .int x1, .int 0])]) ∧ 0 ≤ x0 ∧ 0 ≤ x1 ∧ x1 < 2 ^ 63 := by
    refine ⟨(if z < 0 then -z else z) * (if decide ((10 : Int) ^ 18 ≤ (if z < 0 then -z else z)) = true then 1 else 0), z % 2305843009213693951 + 39373 * (k : Int) + 32547, ?_, ?_, ?_, ?_⟩
    · have m1 : ∀ (a : Int) (p : Prop) [Decidable p], bop .mul (.int a) (.int (if p then 1 else 0)) = some (.int (a * if p then 1 else 0)) := fun a p _ => bop_mul (q1 a p)
      have m2 : ∀ a : Int, bop .mul (.int 39373) (.int a) = some (.int (39373 * a)) := fun a => bop_mul (q2 a)
      have p18 : bop .pow (.int 10) (.int 18) = some (.int 1000000000000000000) := by rfl
      have m3 : bop .mod (.int z) (.int 2305843009213693951) = some (.int (z % 2305843009213693951)) := bop_mod (by decide)
      simp -dsimp -implicitDefEqProofs [fn_law_box, optE, ev_var, ev_int, ev_bl, ev_non, ev_str, ev_gl, ev_bin, ev_neg, ev_not, ev_and, ev_or, ev_cmp, ev_chain, ev_isN, ev_notN, ev_ife, ev_tup, ev_lst, ev_cel, ev_ix, ev_slice, ev_rev, ev_call, ev_callA, ev_b1, ev_min2, ev_max2, ev_isin, ev_seqI, ev_comp, ev_compI, ev_comp2, evt_nil, evt_one, ev_cellOf, evs_nil, evs_cons, evs_star, evi_of, evi_rng, evi_enum, evi_zip, evi_zipS, tst_eq, opt_eq, wipeR_eq, st_set, st_setT, st_par, st_setIx, st_aug, st_expr, st_app, st_ext, st_iff, st_for, st_whil, st_ret, st_retN, st_brk, st_cont, st_pass, st_frz, ss_nil0, ss_cons0, fin_rt, fin_nx, fin_exc, startE, truth, bindT, bindTs, tgv, tgvs, wipe, setAll, arrange, bindA, hlt, hi, m1, m2, m3, p18, newCell, BIG, fin]
      simp [below]
    · split <;> split <;> simp <;> omega
    · have := Int.emod_nonneg z (by omega : (2305843009213693951 : Int) ≠ 0)
      omega
    · have := Int.emod_lt_of_pos z (by omega : (0 : Int) < 2305843009213693951)
      omega
  obtain ⟨x0, x1, e, h0, h1, h2⟩ := key
  exact ⟨x0, x1, e, x0, x1, 0, by simp, h0, h1, h2, by omega, by omega⟩
theorem hand_ok : callF T 0 60 ix_law_by_hand_right [] [] = .ok (.bl true) [] := by
  have h : okTrueN (callF T 0 60 ix_law_by_hand_right [] []) = true := by decide +kernel
  exact okTrueN_ok h
theorem law_ok (ns : List Int) : ∃ m, callF T 0 (60 + 1) ix_law [.scr ns] [] = .ok (.bl true) m := by
  have eh : callF T 0 60 ix_law_by_hand_right [] [] = .ok (.bl true) [] := hand_ok
  obtain ⟨cs, hcs, ec⟩ := cells_ok (n := 59) (wf := 0) (m := []) (ns := ns)
  have ec : callF T 0 60 ix_law_cells [.scr ns, .int 3] [] = .ok (.lst (cs.map .int)) [] := ec
  suffices h : W (callF T 0 (60 + 1) ix_law [.scr ns] []) fun v _ => v = .bl true by
    obtain ⟨v, m, e, h⟩ := h
    subst h
    exact ⟨m, e⟩
  rw [callF_eq (n := 60) (fn := fn_law) rfl rfl]
  refine W.fin ?_
  have rg : rngD [.int (cs.length : Int)] = some ((List.range cs.length).map fun (k : Nat) => D.int k) := rng_nat (by unfold BIG; omega)
  simp -dsimp -implicitDefEqProofs [fn_law, optE, ev_var, ev_int, ev_bl, ev_non, ev_str, ev_gl, ev_bin, ev_neg, ev_not, ev_and, ev_or, ev_cmp, ev_chain, ev_isN, ev_notN, ev_ife, ev_tup, ev_lst, ev_cel, ev_ix, ev_slice, ev_rev, ev_call, ev_callA, ev_b1, ev_min2, ev_max2, ev_isin, ev_seqI, ev_comp, ev_compI, ev_comp2, evt_nil, evt_one, ev_cellOf, evs_nil, evs_cons, evs_star, evi_of, evi_rng, evi_enum, evi_zip, evi_zipS, tst_eq, opt_eq, wipeR_eq, st_set, st_setT, st_par, st_setIx, st_aug, st_expr, st_app, st_ext, st_iff, st_for, st_whil, st_ret, st_retN, st_brk, st_cont, st_pass, st_frz, ss_nil0, ss_cons0, fin_rt, fin_nx, fin_exc, startE, truth, bindT, bindTs, tgv, tgvs, wipe, setAll, arrange, bindA, eh, ec, rg]
  refine W.then (W.comp (m := []) (fun i xs m => xs = List.replicate i (.bl true) ∧ PureM m) ⟨rfl, fun n xs e => by cases n with | zero => simp at e | succ n => simp at e⟩ ?_ (Q := fun v _ => v = .lst (List.replicate cs.length (.bl true))) ?_) ?_
  · rintro j d xs m hd ⟨ex, pm⟩
    obtain ⟨hj, ed⟩ := mem_range_map hd
    subst ed ex
    obtain ⟨x0, x1, e1, hbx⟩ := box_ok (n := 59) (wf := 0) (m := m) (cs := cs) (k := j) hj (by omega)
    have e1 : callF T 0 60 ix_law_box [.lst (cs.map .int), .int (j : Int)] m = .ok (.cell m.length) (m ++ [some (.lst [.int x0, .int x1, .int 0])]) := e1
    simp -dsimp -implicitDefEqProofs [stepE, optE, ev_var, ev_int, ev_bl, ev_non, ev_str, ev_gl, ev_bin, ev_neg, ev_not, ev_and, ev_or, ev_cmp, ev_chain, ev_isN, ev_notN, ev_ife, ev_tup, ev_lst, ev_cel, ev_ix, ev_slice, ev_rev, ev_call, ev_callA, ev_b1, ev_min2, ev_max2, ev_isin, ev_seqI, ev_comp, ev_compI, ev_comp2, evt_nil, evt_one, ev_cellOf, evs_nil, evs_cons, evs_star, evi_of, evi_rng, evi_enum, evi_zip, evi_zipS, tst_eq, opt_eq, wipeR_eq, st_set, st_setT, st_par, st_setIx, st_aug, st_expr, st_app, st_ext, st_iff, st_for, st_whil, st_ret, st_retN, st_brk, st_cont, st_pass, st_frz, ss_nil0, ss_cons0, fin_rt, fin_nx, fin_exc, startE, truth, bindT, bindTs, tgv, tgvs, wipe, setAll, arrange, bindA, e1]
    have pm' : PureM (m ++ [some (.lst [.int x0, .int x1, .int 0])]) := pm.push fun xs e => by cases e; rfl
    have hr : W (callQ T 0 ex 60 ix_law_right [.cell m.length] (m ++ [some (.lst [.int x0, .int x1, .int 0])])) fun v _ => v = .bl true := right_ok (n := 40) (wf := 0) (hbx.mono (by omega))
    have hxs : XS T 0 ex (m ++ [some (Cel.lst [.int x0, .int x1, .int 0])]).length := XS_none
    have hbl : belows (m ++ [some (Cel.lst [.int x0, .int x1, .int 0])]).length [.cell m.length] = true := by simp [belows, below]
    refine W.then (callQ_W hxs pm' hbl hr) fun v m' ⟨ev, pm2, _⟩ => ?_
    subst ev
    simp -dsimp -implicitDefEqProofs [List.replicate_succ']
    exact pm2
  · rintro xs m' ⟨ex, _⟩
    simp at ex
    subst ex
    refine ⟨belows_all fun x hx => ?_, rfl⟩
    rw [List.eq_of_mem_replicate hx]; rfl
  · rintro v m' ev
    subst ev
    have : boolsD (List.replicate cs.length (.bl true)) = some (List.replicate cs.length true) := by
      have := boolsD_mp (fun _ : Nat => true) (List.range cs.length)
      simpa [List.map_const'] using this
    simp -dsimp -implicitDefEqProofs [optE, ev_var, ev_int, ev_bl, ev_non, ev_str, ev_gl, ev_bin, ev_neg, ev_not, ev_and, ev_or, ev_cmp, ev_chain, ev_isN, ev_notN, ev_ife, ev_tup, ev_lst, ev_cel, ev_ix, ev_slice, ev_rev, ev_call, ev_callA, ev_b1, ev_min2, ev_max2, ev_isin, ev_seqI, ev_comp, ev_compI, ev_comp2, evt_nil, evt_one, ev_cellOf, evs_nil, evs_cons, evs_star, evi_of, evi_rng, evi_enum, evi_zip, evi_zipS, tst_eq, opt_eq, wipeR_eq, st_set, st_setT, st_par, st_setIx, st_aug, st_expr, st_app, st_ext, st_iff, st_for, st_whil, st_ret, st_retN, st_brk, st_cont, st_pass, st_frz, ss_nil0, ss_cons0, fin_rt, fin_nx, fin_exc, startE, truth, bindT, bindTs, tgv, tgvs, wipe, setAll, arrange, bindA, b1, this]
end Gk24
open PySem PySem.W PySem.Calls PyProof.Rows
set_option maxRecDepth 100000 in
set_option maxHeartbeats 0 in
theorem PySem.Challenge.cw_roadloaves_k24_loaves_that_pass_holds : PySem.Challenge.rw_roadloaves_k24_loaves_that_pass.Holds := by
  w_on
  o_law
  refine HandSHeadRun.head_any (r := Gk24.R) (q := view Gk24.R.prog [26]) (H := Gk24.hk)
    (ob := G48.obG 4 (G48.faOf Gk24.L Gk24.ks) (Gk24.L.map G48.FD.dd) Gk24.xs) (M := 2000) (loose := Gk24.names)
    (d := HandSHeadRun.topDef Gk24.R.prog 26) (kwd := []) G48.obG_eq ?g1 (fun s => ?g2) Gk24.run ?g3 ?g4 ?g5 ?g6 ?g7 ?g8 ?g9 ?hw ?hc
  case g1 => kernel_rfl
  case g2 => kernel_rfl
  case g3 => kernel_rfl
  case g4 => kernel_rfl
  case g5 => kernel_rfl
  case g6 => rfl
  case g7 => first | assumption | decide +kernel
  case g8 => decide +kernel
  case g9 => refine ⟨rfl, rfl, rfl, rfl, rfl, ?_⟩; decide +kernel
  case hw => w_witness2
  case hc =>
    refine G48.law_by (l := PySem.Challenge.rw_roadloaves_k24_loaves_that_pass) (x := "_law_script") (L := Gk24.L) (ps := Gk24.ps) (xs := Gk24.xs) (ks := Gk24.ks) (wf := 0) (k := 61) (li := Gk24.ix_law) (z := Gk24.fd_law) rfl ?a1 ⟨rfl, ?a2, ?a3⟩ rfl rfl ?a4 Gk24.bds Gk24.kbs Gk24.chk (fun ns _ => ?run)
    case a1 => kernel_rfl
    case a2 => decide
    case a3 => decide
    case a4 => kernel_rfl
    case run => exact Gk24.law_ok ns
