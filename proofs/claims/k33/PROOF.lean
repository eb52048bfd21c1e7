import PyProof.Rows.All
import Wide.All
import OpenK.AllK
import Wide.FinOn
import HandS.ForMost
import HandS.Deep
import HandS.Walk
import HandS.TupAny
import HandS.TupMul
import HandS.IsInst
import KE.DataEq
import KE.DataFind
import KE.LtData
import KE.DataCmp
import KE.DataMinMax
import KE.SortData
import KE.DataIsa
import HandS.Strs
import HandS.Replace
import KE.KTupSum
import HandS.Style
import HandS.Conv
import PyProof.Rows.StrRev
import HandS.Codes
import HandS.Text
import KE.KIntText
import HandS.TupSets
import KE.KeyNested
import HandS.TupLe
import KE.GoesMore
import KE.GoesEnum
import PySem.Challenge.RW_owncounts_k33_whole_words_behind
set_option Elab.async false
set_option linter.all false
set_option maxRecDepth 100000
/-! Part P: data, a small language of expressions and statements with slots, its evaluator. -/
namespace OC

inductive D where
  | non
  | bl (b : Bool)
  | int (i : Int)
  | str (s : List Nat)
  | lst (xs : List D)
  | tup (xs : List D)
  | scr (ns : List Int)
deriving Inhabited

/-- a number that is not negative -/
def ni (n : Nat) : D := .int (n : Int)

inductive R (α : Type) where
  | ok (a : α)
  | exc (c : Nat)
  | bad

namespace R
def bind {α β : Type} : R α → (α → R β) → R β
  | .ok a, f => f a
  | .exc c, _ => .exc c
  | .bad, _ => .bad
def chk {α : Type} (b : Bool) (r : R α) : R α := match b with | true => r | false => .bad
@[simp] theorem bind_ok {α β : Type} (a : α) (f : α → R β) : (R.ok a).bind f = f a := rfl
@[simp] theorem bind_exc {α β : Type} (c : Nat) (f : α → R β) : (R.exc c : R α).bind f = .exc c := rfl
@[simp] theorem bind_bad {α β : Type} (f : α → R β) : (R.bad : R α).bind f = .bad := rfl
@[simp] theorem chk_true {α : Type} (r : R α) : chk true r = r := rfl
@[simp] theorem chk_false {α : Type} (r : R α) : chk false r = .bad := rfl
theorem chk_pos {α : Type} {b : Bool} {r : R α} (h : b = true) : chk b r = r := by rw [h]; rfl
theorem bind_ok_inv {α β : Type} {r : R α} {f : α → R β} {b : β} (h : r.bind f = .ok b) : ∃ a, r = .ok a ∧ f a = .ok b := by
  cases r with
  | ok a => exact ⟨a, rfl, h⟩
  | exc c => cases h
  | bad => cases h
theorem chk_ok_inv {α : Type} {b : Bool} {r : R α} {a : α} (h : chk b r = .ok a) : b = true ∧ r = .ok a := by
  cases b with
  | true => exact ⟨rfl, h⟩
  | false => cases h
end R

/-- the greatest length of a list, a tuple, a text -/
def LIM : Nat := 16777216

mutual
def D.eqv : D → D → Bool
  | .non, .non => true
  | .bl a, .bl b => a == b
  | .bl a, .int j => (if a then 1 else 0) == j
  | .int i, .bl b => i == (if b then 1 else 0)
  | .int i, .int j => i == j
  | .str x, .str y => x == y
  | .lst xs, .lst ys => D.eqvs xs ys
  | .tup xs, .tup ys => D.eqvs xs ys
  | _, _ => false
def D.eqvs : List D → List D → Bool
  | [], [] => true
  | x :: xs, y :: ys => D.eqv x y && D.eqvs xs ys
  | _, _ => false
end

mutual
/-- no list within -/
def D.flat : D → Bool
  | .lst _ => false
  | .scr _ => false
  | .tup xs => D.flats xs
  | _ => true
def D.flats : List D → Bool
  | [] => true
  | x :: xs => D.flat x && D.flats xs
end
mutual
/-- can be compared: no script within, at most so deep -/
def D.cmpb : Nat → D → Bool
  | _, .scr _ => false
  | 0, .lst _ => false
  | 0, .tup _ => false
  | n + 1, .lst xs => D.cmpbs n xs
  | n + 1, .tup xs => D.cmpbs n xs
  | _, _ => true
def D.cmpbs : Nat → List D → Bool
  | _, [] => true
  | n, x :: xs => D.cmpb n x && D.cmpbs n xs
end

/-- one operand -/
inductive O1 where
  | neg | not | len | tuple | list | sorted | sum | min | max | all | str | int
  | isTuple | isList | isInt | isBool | isStr
  | isNone | isTrue | isFalse | notNone | notTrue | notFalse | rev | step2 | sset | listRange | lenset | upper | sortedS | ssetS | intS
deriving DecidableEq
/-- two operands -/
inductive O2 where
  | add | sub | mul | fdiv | mod | pow
  | eq | ne | lt | le | gt | ge | isin | notin
  | item | count | index | join | split | min2 | max2 | from_ | upto
deriving DecidableEq
/-- three operands -/
inductive O3 where
  | cut
deriving DecidableEq
/-- what is walked -/
inductive IK where
  | seq | range1 | range2 | enum | zip2 | zip3
deriving DecidableEq

/-- a target -/
inductive T where
  | nm (i : Nat)
  | p2 (a b : T)
  | p3 (a b c : T)

inductive E where
  | var (i : Nat)
  | cst (d : D)
  | glb (x : String) (d : D)
  | o1 (o : O1) (a : E)
  | o2 (o : O2) (a b : E)
  | o3 (o : O3) (a b c : E)
  | and (a b : E)
  | or (a b : E)
  | ife (c a b : E)
  | chain (o p : O2) (a b c : E)
  | tup (es : List E)
  | lst (es : List E)
  | call (f : String) (es : List E)
  | comp (k : IK) (a b c : E) (t : T) (elt : E) (cond : Option E)

inductive S where
  | ret (e : E)
  | asg (t : T) (e : E)
  | asgF (t : T) (e : E)
  | move (i j : Nat)
  | own (i : Nat) (e : E)
  | app (i : Nat) (e : E)
  | ext (i : Nat) (e : E)
  | setI (i : Nat) (a e : E)
  | ifS (c : E) (a b : List S)
  | forS (k : IK) (a b c : E) (t : T) (body : List S)
  | forM (j : Nat) (t : T) (body : List S)
  | whl (n : Nat) (c : E) (body : List S)
  | raise (c : Nat)
  | nop
  | catPop (i j : Nat) (e : E)
  | appPop (i j : Nat) (e : E)

structure Fn where
  ps : List String
  ns : List String
  own : List Nat
  body : List S

abbrev Env := List (Option D)
inductive Out where
  | nx (env : Env)
  | rt (d : D)

/-! ### the operations -/
/-- a stable sort -/
def sortD (lt : D → D → Bool) (xs : List D) : List D := xs.mergeSort fun a b => !lt b a

def ltStr (x y : List Nat) : Bool := decide (x < y)
mutual
/-- the order of ints, texts, tuples of such -/
def D.lt : D → D → Bool
  | .int i, .int j => decide (i < j)
  | .str x, .str y => ltStr x y
  | .tup xs, .tup ys => D.lts xs ys
  | _, _ => false
def D.lts : List D → List D → Bool
  | [], [] => false
  | [], _ :: _ => true
  | _ :: _, [] => false
  | x :: xs, y :: ys => if D.eqv x y then D.lts xs ys else D.lt x y
end
mutual
/-- of one shape: ints; texts; tuples whose items are pairwise of one shape as far as both go -/
def D.alike : D → D → Bool
  | .int _, .int _ => true
  | .str _, .str _ => true
  | .tup xs, .tup ys => D.alikes xs ys
  | _, _ => false
def D.alikes : List D → List D → Bool
  | x :: xs, y :: ys => D.alike x y && D.alikes xs ys
  | _, _ => true
end

def ints? : List D → Option (List Int)
  | [] => some []
  | .int i :: xs => (ints? xs).map (i :: ·)
  | _ => none
def strs? : List D → Option (List (List Nat))
  | [] => some []
  | .str i :: xs => (strs? xs).map (i :: ·)
  | _ => none
def bls? : List D → Option (List Bool)
  | [] => some []
  | .bl i :: xs => (bls? xs).map (i :: ·)
  | _ => none

def lenD : D → R D
  | .lst xs => .ok (.int xs.length)
  | .tup xs => .ok (.int xs.length)
  | .scr ns => .ok (.int ns.length)
  | .str s => .chk (decide (s.length ≤ LIM)) (.ok (.int s.length))
  | _ => .bad
def tupleD : D → R D
  | .lst xs => .ok (.tup xs)
  | .tup xs => .ok (.tup xs)
  | _ => .bad
def listD : D → R D
  | .lst xs => .ok (.lst xs)
  | .tup xs => .ok (.lst xs)
  | .str s => .chk (decide (s.length ≤ LIM)) (.ok (.lst (s.map fun c => .str [c])))
  | _ => .bad
/-- the items of what is sorted, or of which the least is asked -/
def itemsD : D → Option (List D)
  | .lst xs => some xs
  | .tup xs => some xs
  | _ => none
def alikeAll (xs : List D) : Bool := xs.all fun x => xs.all fun y => D.alike x y
/-- all tuples that are not empty, or none a tuple -/
def sortable (xs : List D) : Bool := (xs.all fun x => match x with | .tup (_ :: _) => true | _ => false) || (xs.all fun x => match x with | .int _ => true | .str _ => true | _ => false)
def sortedD (d : D) : R D := match itemsD d with
  | some xs => .chk (alikeAll xs && sortable xs && D.cmpbs 58 xs && decide (xs.length ≤ LIM)) (.ok (.lst (sortD D.lt xs)))
  | none => .bad
def sumD : D → R D
  | .lst xs => match ints? xs with | some ns => .ok (.int ns.sum) | none => .bad
  | .tup xs => match ints? xs with | some ns => .ok (.int ns.sum) | none => .bad
  | _ => .bad
def minL : List D → D → D
  | [], m => m
  | x :: xs, m => minL xs (if D.lt x m then x else m)
def maxL : List D → D → D
  | [], m => m
  | x :: xs, m => maxL xs (if D.lt m x then x else m)
def minD (d : D) : R D := match itemsD d with
  | some (x :: xs) => .chk (alikeAll (x :: xs) && D.cmpbs 58 (x :: xs)) (.ok (minL xs x))
  | _ => .bad
def maxD (d : D) : R D := match itemsD d with
  | some (x :: xs) => .chk (alikeAll (x :: xs) && D.cmpbs 58 (x :: xs)) (.ok (maxL xs x))
  | _ => .bad
def allD : D → R D
  | .lst xs => match bls? xs with | some bs => .ok (.bl (bs.all id)) | none => .bad
  | _ => .bad
/-- the figures of a number -/
def figs (n : Nat) : List Nat := (Nat.toDigits 10 n).map Char.toNat
def strOfInt (i : Int) : List Nat := if i < 0 then 45 :: figs i.natAbs else figs i.natAbs
def strD : D → R D
  | .int i => .chk (decide (i.natAbs < 2 ^ 1900)) (.ok (.str (strOfInt i)))
  | _ => .bad
def intD : D → R D
  | .int i => .ok (.int i)
  | .bl b => .ok (.int (if b then 1 else 0))
  | _ => .bad
/-- int of a text of one figure -/
def intSD : D → R D
  | .str [c] => .chk (decide (48 ≤ c) && decide (c ≤ 57)) (.ok (.int (c - 48 : Nat)))
  | _ => .bad
def revD : D → R D
  | .lst xs => .ok (.lst xs.reverse)
  | .tup xs => .ok (.tup xs.reverse)
  | .str s => .chk (decide (s.length ≤ LIM)) (.ok (.str s.reverse))
  | _ => .bad
def evens {α : Type} : List α → List α
  | [] => []
  | [x] => [x]
  | x :: _ :: r => x :: evens r
def step2D : D → R D
  | .str s => .chk (decide (s.length ≤ LIM)) (.ok (.str (evens s)))
  | _ => .bad
/-- each once, by ==, the first of them -/
def dedup : List D → List D
  | [] => []
  | x :: xs => x :: (dedup xs).filter fun y => !D.eqv x y
/-- the signs of a text, rising -/
def sortedSD : D → R D
  | .str s => .chk (decide (s.length ≤ LIM)) (.ok (.lst (sortD D.lt (s.map fun c => .str [c]))))
  | _ => .bad
/-- the signs of a text, rising, each once -/
def ssetSD : D → R D
  | .str s => .chk (decide (s.length ≤ LIM)) (.ok (.lst ((s.eraseDups.mergeSort fun a b => decide (a ≤ b)).map fun c => .str [c])))
  | _ => .bad
mutual
/-- whole numbers, and tuples of such, at most so deep -/
def numD : Nat → D → Bool
  | _, .int _ => true
  | 0, _ => false
  | n + 1, .tup ds => numsD n ds
  | _, _ => false
def numsD : Nat → List D → Bool
  | _, [] => true
  | n, d :: ds => numD n d && numsD n ds
end
/-- each is a tuple, not empty -/
def tupsB (ds : List D) : Bool := ds.all fun x => match x with | .tup (_ :: _) => true | _ => false
def setOk (xs : List D) : Bool := tupsB xs && numsD 8 xs && decide ((dedup xs).length < 64)
def ssetD (d : D) : R D := match itemsD d with
  | some xs => .chk (setOk xs) (sortedD (.lst (dedup xs)))
  | none => .bad
def lensetD (d : D) : R D := match itemsD d with
  | some xs => .chk (setOk xs) (.ok (.int (dedup xs).length))
  | none => .bad
def rangeL (lo hi : Int) : List D := (List.range (hi - lo).toNat).map fun k => .int (lo + (k : Nat))
def bigI (i : Int) : Bool := decide (-(2 ^ 62) ≤ i) && decide (i < 2 ^ 62)
def listRangeD : D → R D
  | .int n => .chk (bigI n && decide (n ≤ 16777216)) (.ok (.lst (rangeL 0 n)))
  | _ => .bad
def upperC (c : Nat) : Nat := if 97 ≤ c ∧ c ≤ 122 then c - 32 else c
def upperD : D → R D
  | .str s => .chk ((s.all fun c => decide (c < 128)) && decide (s.length ≤ 5592405)) (.ok (.str (s.map upperC)))
  | _ => .bad
def negD : D → R D
  | .int i => .ok (.int (-i))
  | _ => .bad
def notD : D → R D
  | .bl b => .ok (.bl (!b))
  | _ => .bad
def isB (f : D → Bool) : D → R D
  | .scr _ => .bad
  | d => .ok (.bl (f d))

def isBl (f : Bool → Bool) : D → R D
  | .bl b => .ok (.bl (f b))
  | _ => .bad

def op1 : O1 → D → R D
  | .neg => negD
  | .not => notD
  | .len => lenD
  | .tuple => tupleD
  | .list => listD
  | .sorted => sortedD
  | .sum => sumD
  | .min => minD
  | .max => maxD
  | .all => allD
  | .str => strD
  | .int => intD
  | .isTuple => isB fun d => match d with | .tup _ => true | _ => false
  | .isList => isB fun d => match d with | .lst _ => true | _ => false
  | .isInt => isB fun d => match d with | .int _ => true | .bl _ => true | _ => false
  | .isBool => isB fun d => match d with | .bl _ => true | _ => false
  | .isStr => isB fun d => match d with | .str _ => true | _ => false
  | .isNone => isB fun d => match d with | .non => true | _ => false
  | .isTrue => isBl fun b => b
  | .isFalse => isBl fun b => !b
  | .notNone => isB fun d => match d with | .non => false | _ => true
  | .notTrue => isBl fun b => !b
  | .notFalse => isBl fun b => b
  | .rev => revD
  | .step2 => step2D
  | .sset => ssetD
  | .listRange => listRangeD
  | .lenset => lensetD
  | .upper => upperD
  | .sortedS => sortedSD
  | .ssetS => ssetSD
  | .intS => intSD

def rep {α : Type} (n : Nat) (xs : List α) : List α := (List.replicate n xs).flatten
def addD : D → D → R D
  | .int i, .int j => .ok (.int (i + j))
  | .str x, .str y => .chk (decide (x.length + y.length ≤ LIM)) (.ok (.str (x ++ y)))
  | .lst x, .lst y => .chk (decide (x.length + y.length ≤ LIM)) (.ok (.lst (x ++ y)))
  | .tup x, .tup y => .chk (decide (x.length + y.length ≤ LIM)) (.ok (.tup (x ++ y)))
  | _, _ => .bad
def subD : D → D → R D
  | .int i, .int j => .ok (.int (i - j))
  | _, _ => .bad
def small64 (i : Int) : Bool := decide (-(2 ^ 64) < i) && decide (i < 2 ^ 64)
def mulD : D → D → R D
  | .int i, .int j => .chk (small64 i || small64 j) (.ok (.int (i * j)))
  | .str x, .int k => .chk (decide (x.length * k.toNat ≤ LIM) && bigI k) (.ok (.str (rep k.toNat x)))
  | .lst x, .int k => .chk (decide (x.length * k.toNat ≤ LIM) && bigI k) (.ok (.lst (rep k.toNat x)))
  | .tup x, .int k => .chk (decide (x.length * k.toNat ≤ LIM) && bigI k) (.ok (.tup (rep k.toNat x)))
  | _, _ => .bad
def fdivD : D → D → R D
  | .int i, .int j => .chk (decide (0 < j) && decide (j < 1073741824)) (.ok (.int (i / j)))
  | _, _ => .bad
def modD : D → D → R D
  | .int i, .int j => .chk (decide (0 < j)) (.ok (.int (i % j)))
  | _, _ => .bad
def powD : D → D → R D
  | .int i, .int j => .chk (decide (0 ≤ j) && decide (j ≤ 1000) && small64 i) (.ok (.int (i ^ j.toNat)))
  | _, _ => .bad
def eqD (x y : D) : R D := .chk (D.cmpb 60 x && D.cmpb 60 y) (.ok (.bl (D.eqv x y)))
def neD (x y : D) : R D := .chk (D.cmpb 60 x && D.cmpb 60 y) (.ok (.bl (!D.eqv x y)))
def cmpI (f : Int → Int → Bool) : D → D → R D
  | .int i, .int j => .ok (.bl (f i j))
  | _, _ => .bad
def leD : D → D → R D
  | .int i, .int j => .ok (.bl (decide (i ≤ j)))
  | .str x, .str y => .ok (.bl (!ltStr y x))
  | _, _ => .bad
def inS (s : List Nat) : D → R D
  | .str [c] => .ok (.bl (s.contains c))
  | _ => .bad
def inD (x y : D) : R D := match y with
  | .str s => inS s x
  | .lst ys => .chk (D.cmpb 59 x && D.cmpb 60 (.lst ys)) (.ok (.bl (ys.any fun z => D.eqv z x)))
  | .tup ys => .chk (D.cmpb 59 x && D.cmpb 60 (.tup ys)) (.ok (.bl (ys.any fun z => D.eqv z x)))
  | _ => .bad
def notinD (x y : D) : R D := (inD x y).bind notD
def ixI (n : Nat) (i : Int) : Option Nat := if 0 ≤ i then (if i < n then some i.toNat else none) else if -(n : Int) ≤ i then some (i + n).toNat else none
def atD {α : Type} (xs : List α) (i : Int) : Option α := (ixI xs.length i).bind fun j => xs[j]?
def itemD : D → D → R D
  | .lst xs, .int i => match atD xs i with | some d => .ok d | none => .bad
  | .tup xs, .int i => match atD xs i with | some d => .ok d | none => .bad
  | .scr ns, .int i => match atD ns i with | some n => .ok (.int n) | none => .bad
  | .str s, .int i => match atD s i with | some c => .chk (decide (s.length ≤ LIM)) (.ok (.str [c])) | none => .bad
  | _, _ => .bad
def countS (s : List Nat) : D → R D
  | .str [c] => .ok (.int (s.count c))
  | _ => .bad
def countD (l x : D) : R D := match l with
  | .str s => countS s x
  | .tup xs => .chk (D.cmpb 59 x && D.cmpb 60 (.tup xs)) (.ok (.int (xs.countP fun z => D.eqv z x)))
  | .lst xs => .chk (D.cmpb 59 x && D.cmpb 60 (.lst xs)) (.ok (.int (xs.countP fun z => D.eqv z x)))
  | _ => .bad
def indexS (s : List Nat) : D → R D
  | .str [c] => if s.contains c then .ok (.int (s.idxOf c)) else .bad
  | _ => .bad
def placeD (xs : List D) (x : D) : R D := match xs.findIdx? fun z => D.eqv z x with
  | some j => .ok (.int (j : Nat))
  | none => .bad
def indexD (l x : D) : R D := match l with
  | .str s => indexS s x
  | .lst xs => .chk (D.cmpb 59 x && D.cmpb 60 (.lst xs)) (placeD xs x)
  | .tup xs => .chk (D.cmpb 59 x && D.cmpb 60 (.tup xs)) (placeD xs x)
  | _ => .bad
def joinS (sep : List Nat) : List (List Nat) → List Nat
  | [] => []
  | [x] => x
  | x :: r => x ++ sep ++ joinS sep r
def joinD : D → D → R D
  | .str s, .lst xs => match strs? xs with
    | some ts => .chk (decide ((ts.map List.length).sum + ts.length * s.length ≤ LIM)) (.ok (.str (joinS s ts)))
    | none => .bad
  | _, _ => .bad
def splitS (c : Nat) : List Nat → List (List Nat)
  | [] => [[]]
  | x :: r => if x = c then [] :: splitS c r else match splitS c r with
    | [] => [[x]]
    | w :: ws => (x :: w) :: ws
def splitD : D → D → R D
  | .str s, .str [c] => .chk (decide (s.length + 2 ≤ LIM) && decide (c < 256)) (.ok (.lst ((splitS c s).map .str)))
  | _, _ => .bad
def min2D : D → D → R D
  | .int i, .int j => .ok (.int (if j < i then j else i))
  | _, _ => .bad
def max2D : D → D → R D
  | .int i, .int j => .ok (.int (if i < j then j else i))
  | _, _ => .bad
/-- a bound of a slice -/
def sIx (n d : Nat) : Option Int → Nat
  | none => d
  | some v => if v < 0 then (v + n).toNat else min v.toNat n
def cutL {α : Type} (xs : List α) (lo hi : Option Int) : List α := (xs.drop (sIx xs.length 0 lo)).take (sIx xs.length xs.length hi - sIx xs.length 0 lo)
def cutD (lo hi : Option Int) : D → R D
  | .lst xs => .ok (.lst (cutL xs lo hi))
  | .tup xs => .ok (.tup (cutL xs lo hi))
  | .str s => .chk (decide (s.length ≤ LIM)) (.ok (.str (cutL s lo hi)))
  | _ => .bad
def fromD (x lo : D) : R D := match lo with | .int i => cutD (some i) none x | _ => .bad
def uptoD (x hi : D) : R D := match hi with | .int i => cutD none (some i) x | _ => .bad

def op2 : O2 → D → D → R D
  | .add => addD
  | .sub => subD
  | .mul => mulD
  | .fdiv => fdivD
  | .mod => modD
  | .pow => powD
  | .eq => eqD
  | .ne => neD
  | .lt => cmpI fun i j => decide (i < j)
  | .le => leD
  | .gt => cmpI fun i j => decide (j < i)
  | .ge => cmpI fun i j => decide (j ≤ i)
  | .isin => inD
  | .notin => notinD
  | .item => itemD
  | .count => countD
  | .index => indexD
  | .join => joinD
  | .split => splitD
  | .min2 => min2D
  | .max2 => max2D
  | .from_ => fromD
  | .upto => uptoD
def op3 : O3 → D → D → D → R D
  | .cut => fun x lo hi => match lo, hi with
    | .int i, .int j => cutD (some i) (some j) x
    | _, _ => .bad

/-- what a for walks -/
def zipL : List D → List D → List D
  | x :: xs, y :: ys => .tup [x, y] :: zipL xs ys
  | _, _ => []
def zip3L : List D → List D → List D → List D
  | x :: xs, y :: ys, z :: zs => .tup [x, y, z] :: zip3L xs ys zs
  | _, _, _ => []
def enumL (k : Nat) : List D → List D
  | [] => []
  | x :: xs => .tup [.int (k : Nat), x] :: enumL (k + 1) xs
def seqD : D → R (List D)
  | .lst xs => .ok xs
  | .tup xs => .ok xs
  | .str s => .ok (s.map fun c => .str [c])
  | .scr ns => .ok (ns.map .int)
  | _ => .bad
def sq2 : D → R (List D)
  | .lst xs => .ok xs
  | .tup xs => .ok xs
  | .str s => .ok (s.map fun c => .str [c])
  | _ => .bad
def walk : IK → D → D → D → R (List D)
  | .seq, a, _, _ => seqD a
  | .range1, .int n, _, _ => .chk (bigI n) (.ok (rangeL 0 n))
  | .range2, .int m, .int n, _ => .chk (bigI m && bigI n) (.ok (rangeL m n))
  | .enum, a, _, _ => (sq2 a).bind fun xs => .ok (enumL 0 xs)
  | .zip2, a, b, _ => (sq2 a).bind fun xs => (sq2 b).bind fun ys => .ok (zipL xs ys)
  | .zip3, a, b, c => (sq2 a).bind fun xs => (sq2 b).bind fun ys => (sq2 c).bind fun zs => .ok (zip3L xs ys zs)
  | _, _, _, _ => .bad

/-! ### the evaluator -/
def put (env : Env) (i : Nat) (d : D) : Env := env.set i (some d)
def bindT : T → D → Env → R Env
  | .nm i, d, env => .chk (decide (i < env.length)) (.ok (put env i d))
  | .p2 a b, .tup [x, y], env => (bindT a x env).bind fun e1 => bindT b y e1
  | .p3 a b c, .tup [x, y, z], env => (bindT a x env).bind fun e1 => (bindT b y e1).bind fun e2 => bindT c z e2
  | _, _, _ => .bad
def T.slots : T → List Nat
  | .nm i => [i]
  | .p2 a b => a.slots ++ b.slots
  | .p3 a b c => a.slots ++ (b.slots ++ c.slots)
/-- a comprehension's own names are not yet there -/
def wipeE (env : Env) : List Nat → Env
  | [] => env
  | v :: vs => (wipeE env vs).set v none
def compL (bnd : D → R Env) (cond : Env → R D) (elt : Env → R D) : List D → R (List D)
  | [] => .ok []
  | x :: xs => (bnd x).bind fun e1 => (cond e1).bind fun c => match c with
    | .bl true => (elt e1).bind fun y => (compL bnd cond elt xs).bind fun ys => .ok (y :: ys)
    | .bl false => compL bnd cond elt xs
    | _ => .bad
def forL (t : T) (body : Env → R Out) : List D → Env → R Out
  | [], env => .ok (.nx env)
  | x :: xs, env => (bindT t x env).bind fun e1 => (body e1).bind fun o => match o with
    | .nx e2 => forL t body xs e2
    | .rt d => .ok (.rt d)
def whileL (c : Env → R D) (body : Env → R Out) : Nat → Env → R Out
  | 0, _ => .bad
  | n + 1, env => (c env).bind fun b => match b with
    | .bl true => (body env).bind fun o => match o with
      | .nx e2 => whileL c body n e2
      | .rt d => .ok (.rt d)
    | .bl false => .ok (.nx env)
    | _ => .bad
def getV (env : Env) (i : Nat) : R D := match env[i]? with
  | some (some d) => .ok d
  | _ => .bad

section
variable (Φ : String → List D → R D)
mutual
def ev (env : Env) : E → R D
  | .var i => getV env i
  | .cst d => .ok d
  | .glb _ d => .ok d
  | .o1 o a => (ev env a).bind fun x => op1 o x
  | .o2 o a b => (ev env a).bind fun x => (ev env b).bind fun y => op2 o x y
  | .o3 o a b c => (ev env a).bind fun x => (ev env b).bind fun y => (ev env c).bind fun z => op3 o x y z
  | .and a b => (ev env a).bind fun x => match x with
    | .bl true => ev env b
    | .bl false => .ok (.bl false)
    | _ => .bad
  | .or a b => (ev env a).bind fun x => match x with
    | .bl true => .ok (.bl true)
    | .bl false => ev env b
    | _ => .bad
  | .ife c a b => (ev env c).bind fun x => match x with
    | .bl true => ev env a
    | .bl false => ev env b
    | _ => .bad
  | .chain o p a b c => (ev env a).bind fun x => (ev env b).bind fun y => (op2 o x y).bind fun k => match k with
    | .bl true => (ev env c).bind fun z => op2 p y z
    | .bl false => .ok (.bl false)
    | _ => .bad
  | .tup es => (evs env es).bind fun xs => .chk (decide (xs.length ≤ LIM)) (.ok (.tup xs))
  | .lst es => (evs env es).bind fun xs => .chk (decide (xs.length ≤ LIM)) (.ok (.lst xs))
  | .call f es => (evs env es).bind fun xs => Φ f xs
  | .comp k a b c t elt cond => (ev env a).bind fun x => (ev env b).bind fun y => (ev env c).bind fun z => (walk k x y z).bind fun items =>
      .chk (decide (items.length ≤ LIM)) ((compL (fun d => bindT t d (wipeE env t.slots)) (fun e1 => match cond with | some q => ev e1 q | none => .ok (.bl true)) (fun e1 => ev e1 elt) items).bind fun ys => .ok (.lst ys))
def evs (env : Env) : List E → R (List D)
  | [] => .ok []
  | e :: es => (ev env e).bind fun x => (evs env es).bind fun xs => .ok (x :: xs)
end

mutual
def evS : S → Env → R Out
  | .ret e, env => (ev Φ env e).bind fun d => .ok (.rt d)
  | .asg t e, env => (ev Φ env e).bind fun d => (bindT t d env).bind fun e1 => .ok (.nx e1)
  | .asgF t e, env => (ev Φ env e).bind fun d => .chk d.flat ((bindT t d env).bind fun e1 => .ok (.nx e1))
  | .move i j, env => (getV env j).bind fun d => (bindT (.nm i) d (env.set j none)).bind fun e1 => .ok (.nx e1)
  | .own i e, env => (ev Φ env e).bind fun d => match d with
    | .lst xs => .ok (.nx (put env i (.lst xs)))
    | _ => .bad
  | .app i e, env => (getV env i).bind fun l => (ev Φ env e).bind fun d => match l with
    | .lst xs => .chk (decide (xs.length < LIM)) (.ok (.nx (put env i (.lst (xs ++ [d])))))
    | _ => .bad
  | .ext i e, env => (getV env i).bind fun l => (ev Φ env e).bind fun d => match l, d with
    | .lst xs, .lst ys => .chk (decide (xs.length + ys.length ≤ LIM)) (.ok (.nx (put env i (.lst (xs ++ ys)))))
    | .lst xs, .tup ys => .chk (decide (xs.length + ys.length ≤ LIM)) (.ok (.nx (put env i (.lst (xs ++ ys)))))
    | _, _ => .bad
  | .setI i a e, env => (ev Φ env e).bind fun d => (getV env i).bind fun l => (ev Φ env a).bind fun k => match l, k with
    | .lst xs, .int n => match ixI xs.length n with
      | some j => .chk d.flat (.ok (.nx (put env i (.lst (xs.set j d)))))
      | none => .bad
    | _, _ => .bad
  | .ifS c a b, env => (ev Φ env c).bind fun x => match x with
    | .bl true => evSs a env
    | .bl false => evSs b env
    | _ => .bad
  | .forS k a b c t body, env => (ev Φ env a).bind fun x => (ev Φ env b).bind fun y => (ev Φ env c).bind fun z => (walk k x y z).bind fun items => forL t (evSs body) items env
  | .forM j t body, env => (getV env j).bind fun l => match l with
    | .lst xs => forL t (evSs body) xs (env.set j none)
    | _ => .bad
  | .whl n c body, env => whileL (fun e1 => ev Φ e1 c) (evSs body) n env
  | .raise c, _ => .exc c
  | .nop, env => .ok (.nx env)
  | .catPop i j e, env => (getV env i).bind fun u => (getV env j).bind fun l => (ev Φ env e).bind fun k => match u, l, k with
    | .tup us, .lst xs, .int n => match ixI xs.length n with
      | some m => match xs[m]? with
        | some d => .chk (bigI n && decide (us.length < LIM)) (.ok (.nx (put (put env j (.lst (xs.eraseIdx m))) i (.tup (us ++ [d])))))
        | none => .bad
      | none => .bad
    | _, _, _ => .bad
  | .appPop i j e, env => (getV env i).bind fun u => (getV env j).bind fun l => (ev Φ env e).bind fun k => match u, l, k with
    | .lst us, .lst xs, .int n => match ixI xs.length n with
      | some m => match xs[m]? with
        | some d => .chk (bigI n && decide (us.length < LIM)) (.ok (.nx (put (put env j (.lst (xs.eraseIdx m))) i (.lst (us ++ [d])))))
        | none => .bad
      | none => .bad
    | _, _, _ => .bad
def evSs : List S → Env → R Out
  | [], env => .ok (.nx env)
  | s :: ss, env => (evS s env).bind fun o => match o with
    | .nx e1 => evSs ss e1
    | .rt d => .ok (.rt d)
end
end

abbrev Prog := String → Option Fn
def startEnv (fn : Fn) (ds : List D) : Env := ds.map some ++ List.replicate (fn.ns.length - ds.length) none
def callFn (Φ : String → List D → R D) (fn : Fn) (ds : List D) : R D :=
  .chk (decide (ds.length = fn.ps.length)) ((evSs Φ fn.body (startEnv fn ds)).bind fun o => match o with
    | .rt d => .ok d
    | .nx _ => .ok .non)
def run (P : Prog) : Nat → String → List D → R D
  | 0, _, _ => .bad
  | n + 1, f, ds => match P f with
    | some fn => callFn (run P n) fn ds
    | none => .bad
def progOf (l : List (String × Fn)) : Prog := fun f => l.lookup f
def constsOf (l : List (String × D)) : String → Option D := fun f => l.lookup f
end OC

/-! Part S1: data in the heap. -/
namespace OC
open PySem PySem.Spec PyProof.Rows L2

abbrev toStr (cs : List Nat) : Str := ⟨cs.toArray⟩

mutual
/-- v is d, by what stands in F -/
inductive Dq (K : PySem.W.Frag) (F : Hp) : V → D → Prop
  | non : Dq K F .non .non
  | bl (b : Bool) : Dq K F (.bl b) (.bl b)
  | int (i : Int) : Dq K F (.int i) (.int i)
  | str (s : List Nat) : Dq K F (.str (toStr s)) (.str s)
  | lst {a : Addr} {xs : List V} {ds : List D} : F a = some (.lst xs) → Dqs K F xs ds → Dq K F (.ref a) (.lst ds)
  | tup {a : Addr} {o : Obj} {xs : List V} {ds : List D} : F a = some (.frz o (.tup xs)) → o.dict = Option.none → Dqs K F xs ds → Dq K F (.ref a) (.tup ds)
  | scr {a : Addr} {ns : List Int} : SqL K F a (ns.map V.int) → Dq K F (.ref a) (.scr ns)
inductive Dqs (K : PySem.W.Frag) (F : Hp) : List V → List D → Prop
  | nil : Dqs K F [] []
  | cons {v : V} {vs : List V} {d : D} {ds : List D} : Dq K F v d → Dqs K F vs ds → Dqs K F (v :: vs) (d :: ds)
end

mutual
theorem Dq.mono {K : PySem.W.Frag} {F G : Hp} (h : Same F G) : ∀ {v : V} {d : D}, Dq K F v d → Dq K G v d
  | _, _, .non => .non
  | _, _, .bl b => .bl b
  | _, _, .int i => .int i
  | _, _, .str s => .str s
  | _, _, .lst e r => .lst (h _ _ e) (Dqs.mono h r)
  | _, _, .tup e q r => .tup (h _ _ e) q (Dqs.mono h r)
  | _, _, .scr q => .scr (h.seq q)
theorem Dqs.mono {K : PySem.W.Frag} {F G : Hp} (h : Same F G) : ∀ {vs : List V} {ds : List D}, Dqs K F vs ds → Dqs K G vs ds
  | _, _, .nil => .nil
  | _, _, .cons a b => .cons (Dq.mono h a) (Dqs.mono h b)
end
mutual
/-- data without lists leans on tuples alone -/
theorem Dq.flat {K : PySem.W.Frag} {F G : Hp} (h : ∀ a o xs, F a = some (.frz o (.tup xs)) → G a = some (.frz o (.tup xs))) : ∀ {v : V} {d : D}, Dq K F v d → d.flat = true → Dq K G v d
  | _, _, .non, _ => .non
  | _, _, .bl b, _ => .bl b
  | _, _, .int i, _ => .int i
  | _, _, .str s, _ => .str s
  | _, _, .lst e r, f => by simp [D.flat] at f
  | _, _, .tup e q r, f => .tup (h _ _ _ e) q (Dqs.flat h r (by simpa [D.flat] using f))
  | _, _, .scr q, f => by simp [D.flat] at f
theorem Dqs.flat {K : PySem.W.Frag} {F G : Hp} (h : ∀ a o xs, F a = some (.frz o (.tup xs)) → G a = some (.frz o (.tup xs))) : ∀ {vs : List V} {ds : List D}, Dqs K F vs ds → D.flats ds = true → Dqs K G vs ds
  | _, _, .nil, _ => .nil
  | _, _, .cons a b, f => by
    simp only [D.flats, Bool.and_eq_true] at f
    exact .cons (Dq.flat h a f.1) (Dqs.flat h b f.2)
end
section
variable {K : PySem.W.Frag} {F G : Hp}
theorem Dqs.length : ∀ {vs : List V} {ds : List D}, Dqs K F vs ds → vs.length = ds.length
  | _, _, .nil => rfl
  | _, _, .cons _ b => by simp [Dqs.length b]
theorem Dqs.append : ∀ {vs ws : List V} {ds es : List D}, Dqs K F vs ds → Dqs K F ws es → Dqs K F (vs ++ ws) (ds ++ es)
  | _, _, _, _, .nil, q => q
  | _, _, _, _, .cons a b, q => .cons a (Dqs.append b q)
theorem Dqs.get : ∀ {vs : List V} {ds : List D} {i : Nat} {d : D}, Dqs K F vs ds → ds[i]? = some d → ∃ v, vs[i]? = some v ∧ Dq K F v d
  | _, _, _, _, .nil, e => by simp at e
  | _, _, 0, _, .cons a _, e => by simp at e; subst e; exact ⟨_, rfl, a⟩
  | _, _, i + 1, _, .cons _ b, e => by
    obtain ⟨v, h1, h2⟩ := Dqs.get (i := i) b (by simpa using e)
    exact ⟨v, by simpa using h1, h2⟩
theorem Dqs.getV : ∀ {vs : List V} {ds : List D} {i : Nat} {v : V}, Dqs K F vs ds → vs[i]? = some v → ∃ d, ds[i]? = some d ∧ Dq K F v d
  | _, _, _, _, .nil, e => by simp at e
  | _, _, 0, _, .cons a _, e => by simp at e; subst e; exact ⟨_, rfl, a⟩
  | _, _, i + 1, _, .cons _ b, e => by
    obtain ⟨v, h1, h2⟩ := Dqs.getV (i := i) b (by simpa using e)
    exact ⟨v, by simpa using h1, h2⟩
theorem Dqs.take : ∀ {vs : List V} {ds : List D} (n : Nat), Dqs K F vs ds → Dqs K F (vs.take n) (ds.take n)
  | _, _, 0, _ => .nil
  | _, _, _ + 1, .nil => .nil
  | _, _, n + 1, .cons a b => .cons a (Dqs.take n b)
theorem Dqs.drop : ∀ {vs : List V} {ds : List D} (n : Nat), Dqs K F vs ds → Dqs K F (vs.drop n) (ds.drop n)
  | _, _, 0, r => r
  | _, _, _ + 1, .nil => .nil
  | _, _, n + 1, .cons _ b => Dqs.drop n b
theorem Dqs.set : ∀ {vs : List V} {ds : List D} {v : V} {d : D} (n : Nat), Dqs K F vs ds → Dq K F v d → Dqs K F (vs.set n v) (ds.set n d)
  | _, _, _, _, _, .nil, _ => .nil
  | _, _, _, _, 0, .cons _ b, q => .cons q b
  | _, _, _, _, n + 1, .cons a b, q => .cons a (Dqs.set n b q)
theorem Dqs.eraseIdx : ∀ {vs : List V} {ds : List D} (n : Nat), Dqs K F vs ds → Dqs K F (vs.eraseIdx n) (ds.eraseIdx n)
  | _, _, _, .nil => .nil
  | _, _, 0, .cons _ b => b
  | _, _, n + 1, .cons a b => .cons a (Dqs.eraseIdx n b)
theorem Dqs.reverse {vs : List V} {ds : List D} (h : Dqs K F vs ds) : Dqs K F vs.reverse ds.reverse := by
  induction vs generalizing ds with
  | nil => cases h; exact .nil
  | cons v vs ih =>
    cases h with
    | cons a b => rw [List.reverse_cons, List.reverse_cons]; exact (ih b).append (.cons a .nil)
theorem Dqs.rep {vs : List V} {ds : List D} (h : Dqs K F vs ds) : ∀ n : Nat, Dqs K F (List.replicate n vs).flatten (rep n ds)
  | 0 => .nil
  | n + 1 => by
    unfold OC.rep
    rw [List.replicate_succ, List.replicate_succ, List.flatten_cons, List.flatten_cons]
    exact h.append (Dqs.rep h n)
theorem Dqs.ints : ∀ {vs : List V} {ds : List D} {ns : List Int}, Dqs K F vs ds → ints? ds = some ns → vs = ns.map V.int
  | _, _, _, .nil, e => by simp [ints?] at e; subst e; rfl
  | _, _, _, .cons (d := .int i) a b, e => by
    simp only [ints?, Option.map_eq_some_iff] at e
    obtain ⟨ns, e1, rfl⟩ := e
    cases a
    rw [Dqs.ints b e1]
    rfl
  | _, _, _, .cons (d := .non) a b, e => by simp [ints?] at e
  | _, _, _, .cons (d := .bl _) a b, e => by simp [ints?] at e
  | _, _, _, .cons (d := .str _) a b, e => by simp [ints?] at e
  | _, _, _, .cons (d := .lst _) a b, e => by simp [ints?] at e
  | _, _, _, .cons (d := .tup _) a b, e => by simp [ints?] at e
  | _, _, _, .cons (d := .scr _) a b, e => by simp [ints?] at e
theorem Dqs.strs : ∀ {vs : List V} {ds : List D} {ns : List (List Nat)}, Dqs K F vs ds → strs? ds = some ns → vs = (ns.map toStr).map V.str
  | _, _, _, .nil, e => by simp [strs?] at e; subst e; rfl
  | _, _, _, .cons (d := .str i) a b, e => by
    simp only [strs?, Option.map_eq_some_iff] at e
    obtain ⟨ns, e1, rfl⟩ := e
    cases a
    rw [Dqs.strs b e1]
    rfl
  | _, _, _, .cons (d := .non) a b, e => by simp [strs?] at e
  | _, _, _, .cons (d := .bl _) a b, e => by simp [strs?] at e
  | _, _, _, .cons (d := .int _) a b, e => by simp [strs?] at e
  | _, _, _, .cons (d := .lst _) a b, e => by simp [strs?] at e
  | _, _, _, .cons (d := .tup _) a b, e => by simp [strs?] at e
  | _, _, _, .cons (d := .scr _) a b, e => by simp [strs?] at e
theorem Dqs.bls : ∀ {vs : List V} {ds : List D} {ns : List Bool}, Dqs K F vs ds → bls? ds = some ns → vs = ns.map V.bl
  | _, _, _, .nil, e => by simp [bls?] at e; subst e; rfl
  | _, _, _, .cons (d := .bl i) a b, e => by
    simp only [bls?, Option.map_eq_some_iff] at e
    obtain ⟨ns, e1, rfl⟩ := e
    cases a
    rw [Dqs.bls b e1]
    rfl
  | _, _, _, .cons (d := .non) a b, e => by simp [bls?] at e
  | _, _, _, .cons (d := .str _) a b, e => by simp [bls?] at e
  | _, _, _, .cons (d := .int _) a b, e => by simp [bls?] at e
  | _, _, _, .cons (d := .lst _) a b, e => by simp [bls?] at e
  | _, _, _, .cons (d := .tup _) a b, e => by simp [bls?] at e
  | _, _, _, .cons (d := .scr _) a b, e => by simp [bls?] at e
theorem dqs_ints : ∀ ns : List Int, Dqs K F (ns.map V.int) (ns.map D.int)
  | [] => .nil
  | n :: ns => .cons (.int n) (dqs_ints ns)
theorem dqs_strs : ∀ ns : List (List Nat), Dqs K F ((ns.map toStr).map V.str) (ns.map D.str)
  | [] => .nil
  | n :: ns => .cons (.str n) (dqs_strs ns)
end

/-- the frozen part grows, the heap grows; what stood in the heap stands, and is as frozen as it was -/
structure Ext (F H F' H' : Hp) : Prop where
  le : Same F F'
  sub : Same F' H'
  same : Same H H'
  old : ∀ b o, H b = some o → F' b = F b
theorem Ext.refl {F H : Hp} (h : Same F H) : Ext F H F H := ⟨Same.refl F, h, Same.refl H, fun _ _ _ => rfl⟩
theorem Ext.trans {F H F1 H1 F2 H2 : Hp} (a : Ext F H F1 H1) (b : Ext F1 H1 F2 H2) : Ext F H F2 H2 :=
  ⟨a.le.trans b.le, b.sub, a.same.trans b.same, fun c o e => (b.old c o (a.same c o e)).trans (a.old c o e)⟩
theorem same_upd {H : Hp} {p : Addr} {o : HO} (h : H p = none) : Same H (upd H p o) := fun b x e => by
  rw [upd_ne (ne_of_none e h)]
  exact e
theorem Same.none {F H : Hp} (h : Same F H) {p : Addr} (n : H p = none) : F p = none := by
  cases e : F p with
  | none => rfl
  | some o => rw [h p o e] at n; cases n
theorem same_upd2 {F H : Hp} {p : Addr} {o : HO} (h : Same F H) : Same (upd F p o) (upd H p o) := fun b x e => by
  by_cases hb : b = p
  · subst hb; rw [upd_same] at e ⊢; exact e
  · rw [upd_ne hb] at e ⊢; exact h b x e
/-- a new thing, frozen -/
theorem Ext.new {F H : Hp} {p : Addr} {o : HO} (h : Same F H) (n : H p = none) : Ext F H (upd F p o) (upd H p o) :=
  ⟨same_upd (Same.none h n), same_upd2 h, same_upd n, fun b x e => upd_ne (ne_of_none e n)⟩
/-- a new thing, not frozen -/
theorem Ext.more {F H : Hp} {p : Addr} {o : HO} (h : Same F H) (n : H p = none) : Ext F H F (upd H p o) :=
  ⟨Same.refl F, fun b x e => by rw [upd_ne (ne_of_none (h b x e) n)]; exact h b x e, same_upd n, fun _ _ _ => rfl⟩

/-! ### the slots -/
def RelE (K : PySem.W.Frag) (F : Hp) (σ : L2.St) (env : Env) : Prop := ∀ (i : Nat) (d : D), env[i]? = some (some d) → ∃ v, σ[i]? = some (some v) ∧ Dq K F v d
theorem RelE.mono {K : PySem.W.Frag} {F G : Hp} {σ : L2.St} {env : Env} (r : RelE K F σ env) (h : Same F G) : RelE K G σ env := fun i d e =>
  let ⟨v, h1, h2⟩ := r i d e
  ⟨v, h1, h2.mono h⟩
theorem RelE.put {K : PySem.W.Frag} {F : Hp} {σ : L2.St} {env : Env} {i : Nat} {v : V} {d : D} (r : RelE K F σ env) (hl : env.length ≤ σ.length) (q : Dq K F v d) : RelE K F (σ.set i (some v)) (OC.put env i d) := fun j x e => by
  unfold OC.put at e
  by_cases hj : i = j
  · subst hj
    by_cases hi : i < env.length
    · rw [List.getElem?_set_self hi] at e
      cases e
      exact ⟨v, List.getElem?_set_self (Nat.lt_of_lt_of_le hi hl), q⟩
    · rw [List.getElem?_eq_none (by rw [List.length_set]; omega)] at e
      cases e
  · rw [List.getElem?_set_ne hj] at e
    obtain ⟨w, h1, h2⟩ := r j x e
    exact ⟨w, by rw [List.getElem?_set_ne hj]; exact h1, h2⟩

/-! ### readings -/
/-- what follows a value d that is told from F, H on -/
def Gv (K : PySem.W.Frag) (F H : Hp) (d : D) (Q : VK) : Prop := ∀ v F' H', Ext F H F' H' → Dq K F' v d → Q v H'
theorem Gv.after {K : PySem.W.Frag} {F H F' H' : Hp} {d : D} {Q : VK} (g : Gv K F H d Q) (e : Ext F H F' H') : Gv K F' H' d Q := fun v F2 H2 e2 q => g v F2 H2 (e.trans e2) q
section
variable (K : PySem.W.Frag) (Φ : String → List D → R D)
def rdE (e : E) : TE := fun σ H Q => ∃ F env d, Same F H ∧ env.length ≤ σ.length ∧ RelE K F σ env ∧ ev Φ env e = .ok d ∧ Gv K F H d Q
def rdT (e : E) : TT := fun σ H Q => ∃ F env b, Same F H ∧ env.length ≤ σ.length ∧ RelE K F σ env ∧ ev Φ env e = .ok (.bl b) ∧ ∀ F' H', Ext F H F' H' → Q b H'
def rdA (es : List E) : TA := fun σ H Q => ∃ F env ds, Same F H ∧ env.length ≤ σ.length ∧ RelE K F σ env ∧ evs Φ env es = .ok ds ∧ ∀ vs F' H', Ext F H F' H' → Dqs K F' vs ds → Q vs H'
/-- a fresh list, tracked, not yet frozen -/
def rdL (e : E) : TE := fun σ H Q => ∃ F env ds, Same F H ∧ env.length ≤ σ.length ∧ RelE K F σ env ∧ ev Φ env e = .ok (.lst ds) ∧
  ∀ a xs F' H', Ext F H F' H' → H' a = some (.lst xs) → H a = none → F' a = none → Dqs K F' xs ds → Q (.ref a) H'
end
theorem PE_imp {X : Cx} {e : Expr} {t t' : TE} (h : PE X e t) (w : ∀ σ H Q, t' σ H Q → t σ H Q) : PE X e t' := ⟨fun pins s σ H Q I q => h.run pins s σ H Q I (w _ _ _ q)⟩
theorem PT_imp {X : Cx} {e : Expr} {t t' : TT} (h : PT X e t) (w : ∀ σ H Q, t' σ H Q → t σ H Q) : PT X e t' := ⟨fun pins s σ H Q I q => h.run pins s σ H Q I (w _ _ _ q)⟩
theorem PW_imp {X : Cx} {e : Expr} {t t' : TT} (h : PW X e t) (w : ∀ σ H Q, t' σ H Q → t σ H Q) : PW X e t' := ⟨fun wh pins s σ H Q I q => h.run wh pins s σ H Q I (w _ _ _ q)⟩
theorem PA_imp {X : Cx} {e : List Expr} {t t' : TA} (h : PA X e t) (w : ∀ σ H Q, t' σ H Q → t σ H Q) : PA X e t' := ⟨fun p pins s σ H Q I q => h.run p pins s σ H Q I (w _ _ _ q)⟩
theorem PSs_imp {X : Cx} {e : List Stmt} {t t' : TS} (h : PSs X e t) (w : ∀ D σ H, t' D σ H → t D σ H) : PSs X e t' := ⟨fun pins s σ H D I q => h.run pins s σ H D I (w _ _ _ q)⟩
theorem PS_imp {X : Cx} {e : Stmt} {t t' : TS} (h : PS X e t) (w : ∀ D σ H, t' D σ H → t D σ H) : PS X e t' := ⟨fun pins s σ H D I q => h.run pins s σ H D I (w _ _ _ q)⟩
theorem dq_bl {K : PySem.W.Frag} {F : Hp} {v : V} {b : Bool} (h : Dq K F v (.bl b)) : v = .bl b := by cases h; rfl
theorem dq_int {K : PySem.W.Frag} {F : Hp} {v : V} {b : Int} (h : Dq K F v (.int b)) : v = .int b := by cases h; rfl
theorem dq_str {K : PySem.W.Frag} {F : Hp} {v : V} {b : List Nat} (h : Dq K F v (.str b)) : v = .str (toStr b) := by cases h; rfl
theorem dq_non {K : PySem.W.Frag} {F : Hp} {v : V} (h : Dq K F v .non) : v = .non := by cases h; rfl
/-- a fresh list is a list -/
theorem rdL_rdE {K : PySem.W.Frag} {Φ : String → List D → R D} {e : E} {σ : L2.St} {H : Hp} {Q : VK} {ds : List D} {F : Hp} {env : Env} (h1 : Same F H) (h2 : env.length ≤ σ.length) (h3 : RelE K F σ env) (h4 : ev Φ env e = .ok (.lst ds)) (g : Gv K F H (.lst ds) Q) : rdL K Φ e σ H Q := by
  refine ⟨F, env, ds, h1, h2, h3, h4, fun a xs F' H' x ha hn hf q => g (.ref a) (upd F' a (.lst xs)) H' ?_ (.lst upd_same (q.mono (same_upd hf)))⟩
  refine ⟨x.le.trans (same_upd hf), fun b o e => ?_, x.same, fun b o e => ?_⟩
  · by_cases hb : b = a
    · subst hb; rw [upd_same] at e; cases e; exact ha
    · rw [upd_ne hb] at e; exact x.sub b o e
  · rw [upd_ne (ne_of_none e hn)]; exact x.old b o e
end OC

/-! Part S2: data as the library's data, the operations of numbers and comparisons. -/
namespace OC
open PySem PySem.Spec PyProof.Rows L2

mutual
def D.py : D → PyData
  | .non => .none
  | .bl b => .bool b
  | .int i => .int i
  | .str s => .str (toStr s)
  | .lst xs => .list (D.pys xs)
  | .tup xs => .tuple (D.pys xs)
  | .scr ns => .list (ns.map .int)
def D.pys : List D → List PyData
  | [] => []
  | x :: xs => D.py x :: D.pys xs
end
theorem pys_map : ∀ xs : List D, D.pys xs = xs.map D.py
  | [] => rfl
  | x :: xs => by rw [D.pys, List.map_cons, pys_map xs]
theorem plain_ints : ∀ ns : List Int, PyData.plainAll (ns.map .int) = true
  | [] => rfl
  | n :: ns => by rw [List.map_cons, PyData.plainAll, plain_ints ns]; rfl
mutual
theorem D.plain : ∀ d : D, d.py.plain = true
  | .non => rfl
  | .bl _ => rfl
  | .int _ => rfl
  | .str _ => rfl
  | .lst xs => by rw [D.py, PyData.plain]; exact D.plains xs
  | .tup xs => by rw [D.py, PyData.plain]; exact D.plains xs
  | .scr ns => by rw [D.py, PyData.plain]; exact plain_ints ns
theorem D.plains : ∀ ds : List D, PyData.plainAll (D.pys ds) = true
  | [] => rfl
  | d :: ds => by rw [D.pys, PyData.plainAll, D.plain d, D.plains ds]; rfl
end
mutual
theorem D.deep : ∀ (n : Nat) (d : D), D.cmpb n d = true → d.py.depth ≤ n
  | n, .non, _ => by rw [D.py, PyData.depth]; exact Nat.zero_le _
  | n, .bl _, _ => by rw [D.py, PyData.depth]; exact Nat.zero_le _
  | n, .int _, _ => by rw [D.py, PyData.depth]; exact Nat.zero_le _
  | n, .str _, _ => by rw [D.py, PyData.depth]; exact Nat.zero_le _
  | 0, .lst xs, h => by simp [D.cmpb] at h
  | 0, .tup xs, h => by simp [D.cmpb] at h
  | n + 1, .lst xs, h => by
    rw [D.cmpb] at h
    rw [D.py, PyData.depth]
    exact Nat.succ_le_succ (D.deeps n xs h)
  | n + 1, .tup xs, h => by
    rw [D.cmpb] at h
    rw [D.py, PyData.depth]
    exact Nat.succ_le_succ (D.deeps n xs h)
  | n, .scr ns, h => by cases n <;> simp [D.cmpb] at h
theorem D.deeps : ∀ (n : Nat) (ds : List D), D.cmpbs n ds = true → PyData.depthAll (D.pys ds) ≤ n
  | n, [], _ => by rw [D.pys, PyData.depthAll]; exact Nat.zero_le _
  | n, d :: ds, h => by
    rw [D.cmpbs, Bool.and_eq_true] at h
    rw [D.pys, PyData.depthAll]
    exact Nat.max_le.mpr ⟨D.deep n d h.1, D.deeps n ds h.2⟩
end
theorem toStr_inj {x y : List Nat} (h : toStr x = toStr y) : x = y := by
  have := congrArg (fun z => z.cps.toList) h
  simpa using this
theorem toStr_beq (x y : List Nat) : (toStr x == toStr y) = (x == y) := by
  by_cases h : x = y
  · subst h; simp
  · have h2 : toStr x ≠ toStr y := fun e => h (toStr_inj e)
    rw [beq_eq_false_iff_ne.mpr h, beq_eq_false_iff_ne.mpr h2]
/-- no script at the top -/
def D.noscr : D → Bool
  | .scr _ => false
  | _ => true
theorem noscr_of {n : Nat} {d : D} (h : D.cmpb n d = true) : d.noscr = true := by
  cases d <;> first | rfl | (cases n <;> simp [D.cmpb] at h)
mutual
theorem eqv_py : ∀ (n m : Nat) (x y : D), D.cmpb n x = true → D.cmpb m y = true → PyData.eqv x.py y.py = D.eqv x y
  | n, m, .non, y, _, h => by have := noscr_of h; cases y <;> first | (simp [D.py, PyData.eqv, D.eqv]; done) | cases this
  | n, m, .bl _, y, _, h => by have := noscr_of h; cases y <;> first | (simp [D.py, PyData.eqv, D.eqv]; done) | cases this
  | n, m, .int _, y, _, h => by have := noscr_of h; cases y <;> first | (simp [D.py, PyData.eqv, D.eqv]; done) | cases this
  | n, m, .str x, y, _, h => by
    have := noscr_of h
    cases y with
    | str y => rw [D.py, D.py, PyData.eqv, D.eqv]; exact toStr_beq x y
    | scr _ => cases this
    | _ => simp [D.py, PyData.eqv, D.eqv]
  | n, m, .scr _, _, h, _ => by cases n <;> simp [D.cmpb] at h
  | 0, m, .lst xs, y, h, _ => by simp [D.cmpb] at h
  | 0, m, .tup xs, y, h, _ => by simp [D.cmpb] at h
  | n + 1, 0, .lst xs, .lst ys, _, h => by simp [D.cmpb] at h
  | n + 1, 0, .tup xs, .tup ys, _, h => by simp [D.cmpb] at h
  | n + 1, m + 1, .lst xs, .lst ys, h1, h2 => by
    rw [D.cmpb] at h1 h2
    rw [D.py, D.py, PyData.eqv, D.eqv]
    exact eqv_pys n m xs ys h1 h2
  | n + 1, m + 1, .tup xs, .tup ys, h1, h2 => by
    rw [D.cmpb] at h1 h2
    rw [D.py, D.py, PyData.eqv, D.eqv]
    exact eqv_pys n m xs ys h1 h2
  | n + 1, m, .lst xs, .non, _, _ => by simp [D.py, PyData.eqv, D.eqv]
  | n + 1, m, .lst xs, .bl _, _, _ => by simp [D.py, PyData.eqv, D.eqv]
  | n + 1, m, .lst xs, .int _, _, _ => by simp [D.py, PyData.eqv, D.eqv]
  | n + 1, m, .lst xs, .str _, _, _ => by simp [D.py, PyData.eqv, D.eqv]
  | n + 1, m, .lst xs, .tup _, _, _ => by simp [D.py, PyData.eqv, D.eqv]
  | n + 1, m, .lst xs, .scr _, _, h => by have := noscr_of h; cases this
  | n + 1, m, .tup xs, .non, _, _ => by simp [D.py, PyData.eqv, D.eqv]
  | n + 1, m, .tup xs, .bl _, _, _ => by simp [D.py, PyData.eqv, D.eqv]
  | n + 1, m, .tup xs, .int _, _, _ => by simp [D.py, PyData.eqv, D.eqv]
  | n + 1, m, .tup xs, .str _, _, _ => by simp [D.py, PyData.eqv, D.eqv]
  | n + 1, m, .tup xs, .lst _, _, _ => by simp [D.py, PyData.eqv, D.eqv]
  | n + 1, m, .tup xs, .scr _, _, h => by have := noscr_of h; cases this
theorem eqv_pys : ∀ (n m : Nat) (xs ys : List D), D.cmpbs n xs = true → D.cmpbs m ys = true → PyData.eqvAll (D.pys xs) (D.pys ys) = D.eqvs xs ys
  | n, m, [], [], _, _ => by simp [D.pys, PyData.eqvAll, D.eqvs]
  | n, m, [], _ :: _, _, _ => by simp [D.pys, PyData.eqvAll, D.eqvs]
  | n, m, _ :: _, [], _, _ => by simp [D.pys, PyData.eqvAll, D.eqvs]
  | n, m, x :: xs, y :: ys, h1, h2 => by
    rw [D.cmpbs, Bool.and_eq_true] at h1 h2
    rw [D.pys, D.pys, PyData.eqvAll, D.eqvs, eqv_py n m x y h1.1 h2.1, eqv_pys n m xs ys h1.2 h2.2]
end
section
variable {X : Cx} {pins : List (Addr × Obj)} {σ : L2.St} {F H : Hp} {s : Shared}
theorem sqL_of {K : PySem.W.Frag} {a : Addr} {xs : List V} (h : Same F H) (e : F a = some (.lst xs)) : SqL K H a xs := .inl (.inl (h _ _ e))
theorem sqT_of {K : PySem.W.Frag} {a : Addr} {o : Obj} {xs : List V} (h : Same F H) (e : F a = some (.frz o (.tup xs))) : SqT K H a xs := .inl (.inr ⟨o, h _ _ e⟩)
theorem reads_ints {h : Heap} : ∀ (ns : List Int) (us : List Value), Vals (ns.map V.int) us → ∃ as, ReadsAll h us (ns.map .int) as
  | [], _, .nil => ⟨_, .nil⟩
  | n :: ns, _, .cons r t => by
    obtain ⟨as, q⟩ := reads_ints ns _ t
    obtain ⟨tk, rfl⟩ := r
    exact ⟨_, .cons (.int n tk) q⟩
mutual
theorem Dq.reads (I : Inv X pins σ H s) (h : Same F H) : ∀ (d : D) (v : V) (u : Value), Dq X.K F v d → RelV v u → ∃ as, Reads s.heap u d.py as
  | .non, _, _, q, r => by cases q; cases r; exact ⟨_, .none⟩
  | .bl b, _, _, q, r => by cases q; cases r; exact ⟨_, .bool b⟩
  | .int i, _, _, q, r => by cases q; obtain ⟨t, rfl⟩ := r; exact ⟨_, .int i t⟩
  | .str x, _, _, q, r => by cases q; obtain ⟨t, rfl⟩ := r; exact ⟨_, .str _ t⟩
  | .lst ds, _, _, q, r => by
    cases q with
    | lst e qs =>
      cases r
      obtain ⟨its, rv, ⟨o, n, ho, hc, _, hd⟩, _⟩ := I.list (sqL_of h e)
      obtain ⟨as, hr⟩ := Dqs.reads I h ds _ its qs rv
      exact ⟨_, Reads.list ho hc hd hr⟩
  | .tup ds, _, _, q, r => by
    cases q with
    | tup e _ qs =>
      cases r
      obtain ⟨its, rv, ⟨o, ho, hc, n, hd⟩, _⟩ := I.tuple (sqT_of h e)
      obtain ⟨as, hr⟩ := Dqs.reads I h ds _ its qs rv
      exact ⟨_, Reads.tuple ho hc hd hr⟩
  | .scr ns, _, _, q, r => by
    cases q with
    | scr e =>
      cases r
      obtain ⟨its, rv, ⟨o, n, ho, hc, _, hd⟩, _⟩ := I.list (h.seq e)
      obtain ⟨as, hr⟩ := reads_ints (h := s.heap) ns its rv
      exact ⟨_, Reads.list ho hc hd hr⟩
theorem Dqs.reads (I : Inv X pins σ H s) (h : Same F H) : ∀ (ds : List D) (vs : List V) (us : List Value), Dqs X.K F vs ds → Vals vs us → ∃ as, ReadsAll s.heap us (D.pys ds) as
  | [], _, _, q, r => by cases q; cases r; exact ⟨_, .nil⟩
  | d :: ds, _, _, q, r => by
    cases q with
    | cons q1 q2 =>
      cases r with
      | cons r1 r2 =>
        obtain ⟨as, z1⟩ := Dq.reads I h d _ _ q1 r1
        obtain ⟨bs, z2⟩ := Dqs.reads I h ds _ _ q2 r2
        exact ⟨_, .cons z1 z2⟩
end
end

/-! ### operations by values -/
section
variable (K : PySem.W.Frag)
def r1 (g : D → R D) : V → Hp → VK → Prop := fun x H Q => ∃ F d d', Same F H ∧ Dq K F x d ∧ g d = .ok d' ∧ Gv K F H d' Q
def rc1 (g : D → R D) : List V → Hp → VK → Prop := fun xs H Q => ∃ x, xs = [x] ∧ r1 K g x H Q
def r2 (g : D → D → R D) : R2 := fun x y H Q => ∃ F d e d', Same F H ∧ Dq K F x d ∧ Dq K F y e ∧ g d e = .ok d' ∧ Gv K F H d' Q
def rc2 (g : D → D → R D) : List V → Hp → VK → Prop := fun xs H Q => ∃ x y, xs = [x, y] ∧ r2 K g x y H Q
/-- a new frozen thing is told -/
theorem gv_tup {F H : Hp} {ds : List D} {Q : VK} {xs : List V} (g : Gv K F H (.tup ds) Q) (h : Same F H) (q : Dqs K F xs ds) : ∀ p o, H p = none → o.dict = Option.none → Q (.ref p) (upd H p (.frz o (.tup xs))) := fun p o n hd =>
  g (.ref p) (upd F p (.frz o (.tup xs))) _ (Ext.new h n) (.tup upd_same hd (q.mono (same_upd (Same.none h n))))
theorem gv_lst {F H : Hp} {ds : List D} {Q : VK} {xs : List V} (g : Gv K F H (.lst ds) Q) (h : Same F H) (q : Dqs K F xs ds) : ∀ p, H p = none → Q (.ref p) (upd H p (.lst xs)) := fun p n =>
  g (.ref p) (upd F p (.lst xs)) _ (Ext.new h n) (.lst upd_same (q.mono (same_upd (Same.none h n))))
theorem gv_int {F H : Hp} {i : Int} {Q : VK} (g : Gv K F H (.int i) Q) (h : Same F H) : Q (.int i) H := g _ F H (Ext.refl h) (.int i)
theorem gv_bl {F H : Hp} {i : Bool} {Q : VK} (g : Gv K F H (.bl i) Q) (h : Same F H) : Q (.bl i) H := g _ F H (Ext.refl h) (.bl i)
theorem gv_str {F H : Hp} {i : List Nat} {Q : VK} (g : Gv K F H (.str i) Q) (h : Same F H) : Q (.str (toStr i)) H := g _ F H (Ext.refl h) (.str i)
theorem gv_same {F H : Hp} {d : D} {v : V} {Q : VK} (g : Gv K F H d Q) (h : Same F H) (q : Dq K F v d) : Q v H := g _ F H (Ext.refl h) q
end

section
variable {X : Cx}
theorem o_sub : OpR X (binaryOp .Sub) (r2 X.K subD) := by
  intro pins s σ H x y v u Q I rx ry h
  obtain ⟨F, d, e, d', hs, hx, hy, hg, g⟩ := h
  cases hx <;> cases hy <;> try (cases hg; done)
  cases hg
  exact op_sub pins s σ H _ _ v u Q I rx ry ⟨_, _, rfl, rfl, gv_int _ g hs⟩
theorem o_mod : OpR X (binaryOp .Mod) (r2 X.K modD) := by
  intro pins s σ H x y v u Q I rx ry h
  obtain ⟨F, d, e, d', hs, hx, hy, hg, g⟩ := h
  cases hx <;> cases hy <;> try (cases hg; done)
  obtain ⟨h1, hg⟩ := R.chk_ok_inv hg
  cases hg
  exact op_mod pins s σ H _ _ v u Q I rx ry ⟨_, _, rfl, rfl, of_decide_eq_true h1, gv_int _ g hs⟩
theorem o_fdiv : OpR X (binaryOp .FloorDiv) (r2 X.K fdivD) := by
  intro pins s σ H x y v u Q I rx ry h
  obtain ⟨F, d, e, d', hs, hx, hy, hg, g⟩ := h
  cases hx <;> cases hy <;> try (cases hg; done)
  obtain ⟨h1, hg⟩ := R.chk_ok_inv hg
  cases hg
  rw [Bool.and_eq_true] at h1
  exact op_fdiv pins s σ H _ _ v u Q I rx ry ⟨_, _, rfl, rfl, ⟨of_decide_eq_true h1.1, of_decide_eq_true h1.2⟩, gv_int _ g hs⟩
theorem small64_of {i : Int} (h : OC.small64 i = true) : -(2 ^ 64) < i ∧ i < 2 ^ 64 := by
  unfold OC.small64 at h
  rw [Bool.and_eq_true] at h
  exact ⟨of_decide_eq_true h.1, of_decide_eq_true h.2⟩
theorem o_pow : OpR X (binaryOp .Pow) (r2 X.K powD) := by
  intro pins s σ H x y v u Q I rx ry h
  obtain ⟨F, d, e, d', hs, hx, hy, hg, g⟩ := h
  cases hx <;> cases hy <;> try (cases hg; done)
  obtain ⟨h1, hg⟩ := R.chk_ok_inv hg
  cases hg
  rw [Bool.and_eq_true, Bool.and_eq_true] at h1
  have h2 := of_decide_eq_true h1.1.1
  have h3 := of_decide_eq_true h1.1.2
  have h4 := small64_of h1.2
  exact op_pow pins s σ H _ _ v u Q I rx ry ⟨_, _, rfl, rfl, ⟨h2, by omega, by omega⟩, gv_int _ g hs⟩
theorem cat_toStr (x y : List Nat) : toStr x ++ toStr y = toStr (x ++ y) := by
  show Str.append _ _ = _
  unfold Str.append
  simp [toStr]
theorem len_toStr (x : List Nat) : (toStr x).length = x.length := by simp [toStr, Str.length]
abbrev tupObj (its : List Value) : Obj := { cls := .type "tuple", data := .seq its.toArray }
theorem Inv_tupF {pins : List (Addr × Obj)} {σ : L2.St} {H : Hp} {s : Shared} {xs : List V} {its : List Value} {t' : Nat} (I : Inv X pins σ H s) (r : Vals xs its) (z : xs.length ≤ sizeLine) :
    Inv X pins σ (upd H s.heap.objs.size (.frz (tupObj its) (.tup xs))) { s with heap := s.heap.push (tupObj its), toks := t' } := by
  refine I.laid (t' := t') (o := .frz (tupObj its) (.tup xs)) (fun b ob q => Heap.get?_push_of_some _ q) (Nat.le_refl _) ?_
  exact ⟨Heap.get?_push_size _ rfl, z, its, r, IsTup.new _ _⟩
/-- t + u, frozen -/
def rCatF (K : PySem.W.Frag) : R2 := fun x y H Q => ∃ a b xs ys, x = .ref a ∧ y = .ref b ∧ SqT K H a xs ∧ SqT K H b ys ∧ xs.length + ys.length ≤ sizeLine ∧
  (xs = [] → Q (.ref b) H) ∧ (xs ≠ [] → ys = [] → Q (.ref a) H) ∧ (xs ≠ [] → ys ≠ [] → ∀ p o, H p = none → o.dict = Option.none → Q (.ref p) (upd H p (.frz o (.tup (xs ++ ys)))))
theorem op_catF : OpR X (binaryOp .Add) (rCatF X.K) := by
  intro pins s σ H x y v u Q I rx ry h
  obtain ⟨a, b, xs, ys, rfl, rfl, ha, hb, hz, q0, q1, q2⟩ := h
  cases rx
  cases ry
  obtain ⟨its, r1, p1, _⟩ := I.tuple ha
  obtain ⟨its2, r2, p2, _⟩ := I.tuple hb
  by_cases hx : xs = []
  · subst hx
    cases r1
    exact cat_tup0 p1 p2 ⟨.ref b, H, I, rfl, q0 rfl⟩
  · refine HT.cat_tup p1 p2 (fun z => hx (r1.nil_iff.mp z)) (fun z => ⟨.ref a, H, I, rfl, q1 hx (r2.nil_iff.mp z)⟩) (fun z => ?_) (by rw [← r1.length, ← r2.length]; exact hz)
    exact ⟨.ref s.heap.objs.size, _, Inv_tupF (t' := s.toks) I (r1.append r2) (by rw [List.length_append]; exact hz), rfl, q2 hx (fun w => z (r2.nil_iff.mpr w)) _ _ (I.hok.fresh (Nat.le_refl _)) rfl⟩
theorem limEq : LIM = sizeLine := by rw [sizeLine_eq]; rfl
theorem o_add : OpR X (binaryOp .Add) (r2 X.K addD) := by
  intro pins s σ H x y v u Q I rx ry h
  obtain ⟨F, d, e, d', hs, hx, hy, hg, g⟩ := h
  cases hx <;> cases hy <;> try (cases hg; done)
  · cases hg
    exact op_add pins s σ H _ _ v u Q I rx ry ⟨_, _, rfl, rfl, gv_int _ g hs⟩
  · obtain ⟨h1, hg⟩ := R.chk_ok_inv hg
    cases hg
    refine op_add_str pins s σ H _ _ v u Q I rx ry ⟨_, _, rfl, rfl, ?_, ?_⟩
    · rw [len_toStr, len_toStr, ← limEq]; exact of_decide_eq_true h1
    · rw [cat_toStr]; exact gv_str _ g hs
  · rename_i e1 q1 _ _ _ e2 q2
    obtain ⟨h1, hg⟩ := R.chk_ok_inv hg
    cases hg
    have h1 := of_decide_eq_true h1
    rw [← q1.length, ← q2.length, limEq] at h1
    exact op_cat pins s σ H _ _ v u Q I rx ry ⟨_, _, _, _, rfl, rfl, hs _ _ e1, hs _ _ e2, h1, gv_lst _ g hs (q1.append q2)⟩
  · rename_i e1 o1 q1 _ _ _ _ e2 o2 q2
    obtain ⟨h1, hg⟩ := R.chk_ok_inv hg
    cases hg
    have h1 := of_decide_eq_true h1
    rw [← q1.length, ← q2.length, limEq] at h1
    refine op_catF pins s σ H _ _ v u Q I rx ry ⟨_, _, _, _, rfl, rfl, sqT_of hs e1, sqT_of hs e2, h1, fun z => ?_, fun _ z => ?_, fun _ _ => gv_tup _ g hs (q1.append q2)⟩
    · subst z; cases q1
      exact gv_same _ g hs (.tup e2 o2 q2)
    · subst z; cases q2
      rw [List.append_nil] at g
      exact gv_same _ g hs (.tup e1 o1 q1)
theorem o_lt : OpR X (compareOp .Lt) (r2 X.K (cmpI fun i j => decide (i < j))) := by
  intro pins s σ H x y v u Q I rx ry h
  obtain ⟨F, d, e, d', hs, hx, hy, hg, g⟩ := h
  cases hx <;> cases hy <;> try (cases hg; done)
  cases hg
  exact op_lt pins s σ H _ _ v u Q I rx ry ⟨_, _, rfl, rfl, gv_bl _ g hs⟩
theorem o_gt : OpR X (compareOp .Gt) (r2 X.K (cmpI fun i j => decide (j < i))) := by
  intro pins s σ H x y v u Q I rx ry h
  obtain ⟨F, d, e, d', hs, hx, hy, hg, g⟩ := h
  cases hx <;> cases hy <;> try (cases hg; done)
  cases hg
  exact op_gt pins s σ H _ _ v u Q I rx ry ⟨_, _, rfl, rfl, gv_bl _ g hs⟩
theorem o_ge : OpR X (compareOp .GtE) (r2 X.K (cmpI fun i j => decide (j ≤ i))) := by
  intro pins s σ H x y v u Q I rx ry h
  obtain ⟨F, d, e, d', hs, hx, hy, hg, g⟩ := h
  cases hx <;> cases hy <;> try (cases hg; done)
  cases hg
  exact op_ge pins s σ H _ _ v u Q I rx ry ⟨_, _, rfl, rfl, gv_bl _ g hs⟩
theorem o_le (hu : X.A.units + 70 < cLine) : OpR X (compareOp .LtE) (r2 X.K leD) := by
  intro pins s σ H x y v u Q I rx ry h
  obtain ⟨F, d, e, d', hs, hx, hy, hg, g⟩ := h
  cases hx <;> cases hy <;> try (cases hg; done)
  · cases hg
    exact op_le pins s σ H _ _ v u Q I rx ry ⟨_, _, rfl, rfl, gv_bl _ g hs⟩
  · cases hg
    obtain ⟨t1, rfl⟩ := rx
    obtain ⟨t2, rfl⟩ := ry
    refine PySem.W.le_data (.str _ t1) (.str _ t2) (by simp [PySem.W.alike]) (by simp) (by simp [PyData.depth]; omega) ⟨.bl _, H, I, rfl, ?_⟩
    rw [PySem.W.dataLt_str]
    have g2 := gv_bl _ g hs
    unfold ltStr at g2
    simpa [toStr] using g2
theorem room60 {a b : PyData} (hu : X.A.units + 70 < cLine) (h : a.depth ≤ 60) : X.A.units + min a.depth b.depth < cLine := by
  have : min a.depth b.depth ≤ a.depth := Nat.min_le_left _ _
  omega
theorem o_eq (hu : X.A.units + 70 < cLine) : OpR X (compareOp .Eq) (r2 X.K eqD) := by
  intro pins s σ H x y v u Q I rx ry h
  obtain ⟨F, d, e, d', hs, hx, hy, hg, g⟩ := h
  obtain ⟨h1, hg⟩ := R.chk_ok_inv hg
  cases hg
  rw [Bool.and_eq_true] at h1
  obtain ⟨as, ra⟩ := Dq.reads I hs _ _ _ hx rx
  obtain ⟨bs, rb⟩ := Dq.reads I hs _ _ _ hy ry
  refine PySem.SeqAt.eq_plain ra rb (D.plain _) (D.plain _) (room60 hu (D.deep _ _ h1.1)) ⟨.bl _, H, I, rfl, ?_⟩
  rw [eqv_py 60 60 _ _ h1.1 h1.2]
  exact gv_bl _ g hs
theorem o_ne (hu : X.A.units + 70 < cLine) : OpR X (compareOp .NotEq) (r2 X.K neD) := by
  intro pins s σ H x y v u Q I rx ry h
  obtain ⟨F, d, e, d', hs, hx, hy, hg, g⟩ := h
  obtain ⟨h1, hg⟩ := R.chk_ok_inv hg
  cases hg
  rw [Bool.and_eq_true] at h1
  obtain ⟨as, ra⟩ := Dq.reads I hs _ _ _ hx rx
  obtain ⟨bs, rb⟩ := Dq.reads I hs _ _ _ hy ry
  refine PySem.SeqAt.ne_plain ra rb (D.plain _) (D.plain _) (room60 hu (D.deep _ _ h1.1)) ⟨.bl _, H, I, rfl, ?_⟩
  rw [eqv_py 60 60 _ _ h1.1 h1.2]
  exact gv_bl _ g hs
end
end OC

/-! Part S3: more operations. -/
namespace OC
open PySem PySem.Spec PyProof.Rows L2
section
variable {X : Cx}
theorem any_py {n m : Nat} (x : D) (hx : D.cmpb m x = true) : ∀ ys : List D, D.cmpbs n ys = true → ((D.pys ys).any fun z => PyData.eqv z x.py) = ys.any fun z => D.eqv z x
  | [], _ => rfl
  | y :: ys, h => by
    rw [D.cmpbs, Bool.and_eq_true] at h
    rw [D.pys, List.any_cons, List.any_cons, eqv_py n m y x h.1 hx, any_py x hx ys h.2]
theorem countP_py {n m : Nat} (x : D) (hx : D.cmpb m x = true) : ∀ ys : List D, D.cmpbs n ys = true → ((D.pys ys).countP fun z => PyData.eqv z x.py) = ys.countP fun z => D.eqv z x
  | [], _ => rfl
  | y :: ys, h => by
    rw [D.cmpbs, Bool.and_eq_true] at h
    rw [D.pys, List.countP_cons, List.countP_cons, eqv_py n m y x h.1 hx, countP_py x hx ys h.2]
theorem findIdx_py {n m : Nat} (x : D) (hx : D.cmpb m x = true) : ∀ ys : List D, D.cmpbs n ys = true → ((D.pys ys).findIdx? fun z => PyData.eqv z x.py) = ys.findIdx? fun z => D.eqv z x
  | [], _ => rfl
  | y :: ys, h => by
    rw [D.cmpbs, Bool.and_eq_true] at h
    rw [D.pys, List.findIdx?_cons, List.findIdx?_cons, eqv_py n m y x h.1 hx, findIdx_py x hx ys h.2]
theorem roomIn {a : List PyData} {b : PyData} (hu : X.A.units + 70 < cLine) (h : b.depth ≤ 60) : X.A.units + 1 + min (PyData.depthAll a) b.depth < cLine := by
  have : min (PyData.depthAll a) b.depth ≤ b.depth := Nat.min_le_right _ _
  omega
theorem o_in (hu : X.A.units + 70 < cLine) : OpR X (compareOp .In) (r2 X.K inD) := by
  intro pins s σ H x y v u Q I rx ry h
  obtain ⟨F, d, e, d', hs, hx, hy, hg, g⟩ := h
  cases e with
  | str z =>
    cases d with
    | str c =>
      match c, hg with
      | [c], hg =>
        cases hg
        cases hx
        cases hy
        refine op_in_sign pins s σ H _ _ v u Q I rx ry ⟨c, toStr z, rfl, rfl, ?_⟩
        have g2 := gv_bl _ g hs
        simpa [toStr, List.contains_iff_mem] using g2
      | [], hg => cases hg
      | _ :: _ :: _, hg => cases hg
    | _ => cases hg
  | lst ys =>
    obtain ⟨h1, hg⟩ := R.chk_ok_inv hg
    cases hg
    rw [Bool.and_eq_true] at h1
    obtain ⟨as, ra⟩ := Dq.reads I hs _ _ _ hx rx
    obtain ⟨bs, rb⟩ := Dq.reads I hs _ _ _ hy ry
    refine PySem.SeqAt.in_list_data rb ra (D.plains _) (D.plain _) (roomIn hu (by have := D.deep _ _ h1.1; omega)) ⟨.bl _, H, I, rfl, ?_⟩
    rw [any_py (n := 59) (m := 59) d h1.1 ys (by simpa [D.cmpb] using h1.2)]
    exact gv_bl _ g hs
  | tup ys =>
    obtain ⟨h1, hg⟩ := R.chk_ok_inv hg
    cases hg
    rw [Bool.and_eq_true] at h1
    obtain ⟨as, ra⟩ := Dq.reads I hs _ _ _ hx rx
    obtain ⟨bs, rb⟩ := Dq.reads I hs _ _ _ hy ry
    refine PySem.SeqAt.in_tuple_data rb ra (D.plains _) (D.plain _) (roomIn hu (by have := D.deep _ _ h1.1; omega)) ⟨.bl _, H, I, rfl, ?_⟩
    rw [any_py (n := 59) (m := 59) d h1.1 ys (by simpa [D.cmpb] using h1.2)]
    exact gv_bl _ g hs
  | non => cases hg
  | bl _ => cases hg
  | int _ => cases hg
  | scr _ => cases hg
theorem o_notin (hu : X.A.units + 70 < cLine) : OpR X (compareOp .NotIn) (r2 X.K notinD) := by
  intro pins s σ H x y v u Q I rx ry h
  obtain ⟨F, d, e, d', hs, hx, hy, hg, g⟩ := h
  obtain ⟨k, hk, hg⟩ := R.bind_ok_inv hg
  cases k with
  | bl b =>
    cases hg
    cases e with
    | str z =>
      cases d with
      | str c =>
        match c, hk with
        | [c], hk =>
          cases hk
          cases hx
          cases hy
          refine op_notIn_sign pins s σ H _ _ v u Q I rx ry ⟨c, toStr z, rfl, rfl, ?_⟩
          have g2 := gv_bl _ g hs
          have e1 : (!decide (c ∈ (toStr z).cps.toList)) = !(z.contains c) := by simp [toStr]
          rw [e1]
          exact g2
        | [], hk => cases hk
        | _ :: _ :: _, hk => cases hk
      | _ => cases hk
    | lst ys =>
      obtain ⟨h1, hk⟩ := R.chk_ok_inv hk
      cases hk
      rw [Bool.and_eq_true] at h1
      obtain ⟨as, ra⟩ := Dq.reads I hs _ _ _ hx rx
      obtain ⟨bs, rb⟩ := Dq.reads I hs _ _ _ hy ry
      refine PySem.SeqAt.notIn_list_data rb ra (D.plains _) (D.plain _) (roomIn hu (by have := D.deep _ _ h1.1; omega)) ⟨.bl _, H, I, rfl, ?_⟩
      rw [any_py (n := 59) (m := 59) d h1.1 ys (by simpa [D.cmpb] using h1.2)]
      exact gv_bl _ g hs
    | tup ys =>
      obtain ⟨h1, hk⟩ := R.chk_ok_inv hk
      cases hk
      rw [Bool.and_eq_true] at h1
      obtain ⟨as, ra⟩ := Dq.reads I hs _ _ _ hx rx
      obtain ⟨bs, rb⟩ := Dq.reads I hs _ _ _ hy ry
      refine PySem.SeqAt.notIn_tuple_data rb ra (D.plains _) (D.plain _) (roomIn hu (by have := D.deep _ _ h1.1; omega)) ⟨.bl _, H, I, rfl, ?_⟩
      rw [any_py (n := 59) (m := 59) d h1.1 ys (by simpa [D.cmpb] using h1.2)]
      exact gv_bl _ g hs
    | non => cases hk
    | bl _ => cases hk
    | int _ => cases hk
    | scr _ => cases hk
  | _ => cases hg
theorem atD_eq {α : Type} (xs : List α) (i : Int) : atD xs i = atI xs i := rfl
theorem atI_at {α β : Type} {xs : List α} {ys : List β} (hl : xs.length = ys.length) {i : Int} {v : α} (h : atI xs i = some v) : ∃ j : Nat, xs[j]? = some v ∧ ∀ w, ys[j]? = some w → atI ys i = some w := by
  unfold atI at h
  cases e : ixN xs.length i with
  | none => rw [e] at h; cases h
  | some j =>
    rw [e] at h
    refine ⟨j, h, fun w hw => ?_⟩
    unfold atI
    rw [← hl, e]
    exact hw
theorem i_item : IxR X (r2 X.K itemD) := by
  intro value slice pins s σ H x y v u Q I rx ry h hsl
  obtain ⟨F, d, e, d', hs, hx, hy, hg, g⟩ := h
  cases e with
  | int i =>
    have hyi := dq_int hy
    subst hyi
    cases d with
    | lst ds =>
      cases hx with
      | lst e1 q1 =>
        have hg : (match atD ds i with | some d => R.ok d | none => .bad) = .ok d' := hg
        cases ha : atD ds i with
        | none => rw [ha] at hg; cases hg
        | some w =>
          rw [ha] at hg
          cases hg
          obtain ⟨j, h1, h2⟩ := atI_at (ys := _) q1.length.symm ha
          obtain ⟨w', h3, h4⟩ := q1.get h1
          exact ix_list value slice pins s σ H _ _ v u Q I rx ry ⟨_, _, i, w', rfl, rfl, sqL_of hs e1, h2 _ h3, gv_same _ g hs h4⟩ hsl
    | tup ds =>
      cases hx with
      | tup e1 o1 q1 =>
        have hg : (match atD ds i with | some d => R.ok d | none => .bad) = .ok d' := hg
        cases ha : atD ds i with
        | none => rw [ha] at hg; cases hg
        | some w =>
          rw [ha] at hg
          cases hg
          obtain ⟨j, h1, h2⟩ := atI_at (ys := _) q1.length.symm ha
          obtain ⟨w', h3, h4⟩ := q1.get h1
          exact ix_tup value slice pins s σ H _ _ v u Q I rx ry ⟨_, _, i, w', rfl, rfl, sqT_of hs e1, h2 _ h3, gv_same _ g hs h4⟩ hsl
    | scr ns =>
      cases hx with
      | scr e1 =>
        have hg : (match atD ns i with | some d => R.ok (D.int d) | none => .bad) = .ok d' := hg
        cases ha : atD ns i with
        | none => rw [ha] at hg; cases hg
        | some w =>
          rw [ha] at hg
          cases hg
          obtain ⟨j, h1, h2⟩ := atI_at (ys := ns.map V.int) (by rw [List.length_map]) ha
          exact ix_list value slice pins s σ H _ _ v u Q I rx ry ⟨_, _, i, .int w, rfl, rfl, hs.seq e1, h2 _ (by rw [List.getElem?_map, h1]; rfl), gv_int _ g hs⟩ hsl
    | str z =>
      cases hx
      have hg : (match atD z i with | some c => R.chk (decide (z.length ≤ LIM)) (.ok (D.str [c])) | none => .bad) = .ok d' := hg
      cases ha : atD z i with
      | none => rw [ha] at hg; cases hg
      | some w =>
        rw [ha] at hg
        obtain ⟨h1, hg⟩ := R.chk_ok_inv hg
        cases hg
        refine ix_str value slice pins s σ H _ _ v u Q I rx ry ⟨_, i, w, rfl, rfl, ?_, ?_, gv_str _ g hs⟩ hsl
        · rw [len_toStr, ← limEq]; exact of_decide_eq_true h1
        · show atI (toStr z).cps.toList i = some w
          exact ha
    | non => cases hg
    | bl _ => cases hg
    | int _ => cases hg
  | _ => cases d <;> cases hg

/-! ### one operand -/
theorem c_len : CallR X (.builtin "len") (rc1 X.K lenD) := by
  intro pins s σ H xs us Q I r h
  obtain ⟨x, rfl, F, d, d', hs, hx, hg, g⟩ := h
  cases hx with
  | lst e q =>
    cases hg
    rw [← q.length] at g
    exact call_len_seq pins s σ H _ us Q I r ⟨_, _, rfl, .inl (sqL_of hs e), gv_int _ g hs⟩
  | tup e o q =>
    cases hg
    rw [← q.length] at g
    exact call_len_seq pins s σ H _ us Q I r ⟨_, _, rfl, .inr (sqT_of hs e), gv_int _ g hs⟩
  | scr e =>
    rename_i ns
    cases hg
    have g2 := gv_int _ g hs
    exact call_len_seq pins s σ H _ us Q I r ⟨_, _, rfl, .inl (hs.seq e), by rw [List.length_map]; exact g2⟩
  | str z =>
    obtain ⟨h1, hg⟩ := R.chk_ok_inv hg
    cases hg
    refine call_len_str pins s σ H _ us Q I r ⟨_, rfl, ?_, ?_⟩
    · rw [len_toStr, ← limEq]; exact of_decide_eq_true h1
    · rw [len_toStr]; exact gv_int _ g hs
  | non => cases hg
  | bl _ => cases hg
  | int _ => cases hg
theorem c_tuple : CallR X (.type "tuple") (rc1 X.K tupleD) := by
  intro pins s σ H xs us Q I r h
  obtain ⟨x, rfl, F, d, d', hs, hx, hg, g⟩ := h
  cases hx with
  | lst e q =>
    cases hg
    obtain ⟨u, rfl, rx⟩ := vals1 r
    cases rx
    obtain ⟨its, r', pl, hz⟩ := I.list (sqL_of hs e)
    have hlen := r'.length
    refine call_tuple_list pl.isList (fun h' kp => ?_) (by simp only [List.size_toArray] <;> omega)
    have I1 : Inv X pins σ H { s with heap := h' } := I.kept (t' := s.toks) kp
    exact ⟨.ref h'.objs.size, _, Inv_tupF (t' := s.toks) I1 r' hz, rfl, gv_tup _ g hs q _ _ (I1.hok.fresh (Nat.le_refl _)) rfl⟩
  | tup e o q =>
    cases hg
    exact call_tupleT pins s σ H _ us Q I r ⟨_, _, rfl, sqT_of hs e, gv_same _ g hs (.tup e o q)⟩
  | _ => cases hg
theorem u_neg : UnR X (unaryOp .USub) (r1 X.K negD) := by
  intro pins s σ H x v Q I rx h
  obtain ⟨F, d, d', hs, hx, hg, g⟩ := h
  cases hx <;> try (cases hg; done)
  cases hg
  exact un_neg pins s σ H _ v Q I rx ⟨_, rfl, gv_int _ g hs⟩
theorem c_max2 (hc : X.calm = true) : CallR X (.builtin "max") (rc2 X.K max2D) := by
  intro pins s σ H xs us Q I r h
  obtain ⟨x, y, rfl, F, d, e, d', hs, hx, hy, hg, g⟩ := h
  cases hx <;> cases hy <;> try (cases hg; done)
  cases hg
  exact call_max2 hc pins s σ H _ us Q I r ⟨_, _, rfl, gv_int _ g hs⟩
theorem c_min2 (hc : X.calm = true) : CallR X (.builtin "min") (rc2 X.K min2D) := by
  intro pins s σ H xs us Q I r h
  obtain ⟨x, y, rfl, F, d, e, d', hs, hx, hy, hg, g⟩ := h
  cases hx <;> cases hy <;> try (cases hg; done)
  cases hg
  exact call_min2 hc pins s σ H _ us Q I r ⟨_, _, rfl, gv_int _ g hs⟩
/-! ### isinstance -/
theorem isi {T : String} {f : D → Bool} (run : ∀ (s : Shared) (v : Value) (d : D) (as : List Addr) (Q : Value → Shared → Prop), d.noscr = true → Reads s.heap v d.py as → (∀ tk, Q (.bool (f d)) { s with toks := tk }) →
    wpAny (model X.prog X.w) X.A (call (.builtin "isinstance") [v, .type T]) Q X.xe s) : CallR X (.builtin "isinstance") (fun xs H Q => ∃ x, xs = [x, .ty T] ∧ r1 X.K (isB f) x H Q) := by
  intro pins s σ H xs us Q I r h
  obtain ⟨x, rfl, F, d, d', hs, hx, hg, g⟩ := h
  obtain ⟨u1, u2, rfl, r1, r2⟩ := vals2 r
  cases (show u2 = Value.type T from r2)
  obtain ⟨as, ra⟩ := Dq.reads I hs _ _ _ hx r1
  have hn : d.noscr = true := by cases d <;> first | rfl | cases hg
  have e : d' = .bl (f d) := by cases d <;> first | (cases hg; done) | (injection hg with hg; exact hg.symm)
  subst e
  exact run s _ d as _ hn ra fun tk => ⟨.bl _, H, I.tok tk, rfl, gv_bl _ g hs⟩
theorem c_isTuple : CallR X (.builtin "isinstance") (fun xs H Q => ∃ x, xs = [x, .ty "tuple"] ∧ r1 X.K (op1 .isTuple) x H Q) :=
  isi fun s v d as Q hn r h => PySem.W.isinstance_tuple_data r fun tk _ => by have := h tk; cases d <;> exact this
theorem c_isList : CallR X (.builtin "isinstance") (fun xs H Q => ∃ x, xs = [x, .ty "list"] ∧ r1 X.K (op1 .isList) x H Q) :=
  isi fun s v d as Q hn r h => PySem.W.isinstance_list_data r fun tk _ => by have := h tk; cases d <;> first | exact this | cases hn
theorem c_isInt : CallR X (.builtin "isinstance") (fun xs H Q => ∃ x, xs = [x, .ty "int"] ∧ r1 X.K (op1 .isInt) x H Q) :=
  isi fun s v d as Q hn r h => PySem.W.isinstance_int_data r fun tk _ => by have := h tk; cases d <;> exact this
theorem c_isBool : CallR X (.builtin "isinstance") (fun xs H Q => ∃ x, xs = [x, .ty "bool"] ∧ r1 X.K (op1 .isBool) x H Q) :=
  isi fun s v d as Q hn r h => PySem.W.isinstance_bool_data r fun tk _ => by have := h tk; cases d <;> exact this
theorem c_isStr : CallR X (.builtin "isinstance") (fun xs H Q => ∃ x, xs = [x, .ty "str"] ∧ r1 X.K (op1 .isStr) x H Q) :=
  isi fun s v d as Q hn r h => PySem.W.isinstance_str_data r fun tk _ => by have := h tk; cases d <;> exact this
end
end OC

/-! Part S3b: slices, products, sums, least and greatest, sorting, methods. -/
namespace OC
open PySem PySem.Spec PyProof.Rows L2
theorem sIx_eq (n d : Nat) (o : Option Int) : HT.sIx n d o = OC.sIx n d o := by cases o <;> rfl
theorem cutV_eq (xs : List V) (lo hi : Option Int) : cutV xs lo hi = cutL xs lo hi := by
  unfold cutV cutL
  rw [sIx_eq, sIx_eq]
section
variable {X : Cx} {K : PySem.W.Frag} {F : Hp}
theorem Dqs.cut {vs : List V} {ds : List D} (h : Dqs K F vs ds) (lo hi : Option Int) : Dqs K F (cutV vs lo hi) (cutL ds lo hi) := by
  rw [cutV_eq]
  unfold cutL
  rw [h.length]
  exact (h.drop _).take _
/-- t[lo:hi], frozen -/
def rSlF (K : PySem.W.Frag) : V → Option Int → Option Int → Hp → VK → Prop := fun x lo hi H Q => ∃ a xs, x = .ref a ∧ SqT K H a xs ∧
  (HT.sIx xs.length 0 lo = 0 ∧ HT.sIx xs.length xs.length hi = xs.length → Q (.ref a) H) ∧ (¬ (HT.sIx xs.length 0 lo = 0 ∧ HT.sIx xs.length xs.length hi = xs.length) → ∀ p o, H p = none → o.dict = Option.none → Q (.ref p) (upd H p (.frz o (.tup (cutV xs lo hi)))))
theorem sl_tupF : SlR X (rSlF X.K) := by
  intro pins s σ H x v vl vu lo hi sl Q I rx hs pl pu h
  obtain ⟨a, xs, rfl, hx, q1, q2⟩ := h
  cases rx
  obtain ⟨its, r, ht, hz⟩ := I.tuple hx
  have hlen : its.toArray.size = xs.length := by rw [List.size_toArray]; exact r.length.symm
  refine ⟨"tuple", _, PyProof.Rows.slot_tuple_getitem.lookup, ht.typeIs, ?_⟩
  by_cases hw : HT.sIx xs.length 0 lo = 0 ∧ HT.sIx xs.length xs.length hi = xs.length
  · exact getItem_tuple_whole ht hs pl pu (by rw [hlen]; exact hw) ⟨.ref a, H, I, rfl, q1 hw⟩
  · refine HT.getItem_tuple_cut ht hs pl pu (by rw [hlen]; exact hw) ?_ (by rw [hlen]; exact hz)
    rw [hlen]
    exact ⟨.ref s.heap.objs.size, _, Inv_tupF (t' := s.toks) I ((r.drop (HT.sIx xs.length 0 lo)).take (HT.sIx xs.length xs.length hi - HT.sIx xs.length 0 lo)) (Nat.le_trans (cutV_length xs lo hi) hz), rfl, q2 hw _ _ (I.hok.fresh (Nat.le_refl _)) rfl⟩
def rSlD (K : PySem.W.Frag) : V → Option Int → Option Int → Hp → VK → Prop := fun x lo hi H Q => ∃ F d d', Same F H ∧ Dq K F x d ∧ cutD lo hi d = .ok d' ∧ Gv K F H d' Q
theorem cutS_eq (z : List Nat) (lo hi : Option Int) : cutS (toStr z) lo hi = toStr (cutL z lo hi) := by
  unfold cutS cutL
  rw [sIx_eq, sIx_eq, len_toStr]
theorem sl_D : SlR X (rSlD X.K) := by
  intro pins s σ H x v vl vu lo hi sl Q I rx hs pl pu h
  obtain ⟨F, d, d', hsm, hx, hg, g⟩ := h
  cases hx with
  | lst e q =>
    cases hg
    exact sl_list pins s σ H _ v vl vu lo hi sl Q I rx hs pl pu ⟨_, _, rfl, sqL_of hsm e, gv_lst _ g hsm (q.cut lo hi)⟩
  | tup e o q =>
    cases hg
    refine sl_tupF pins s σ H _ v vl vu lo hi sl Q I rx hs pl pu ⟨_, _, rfl, sqT_of hsm e, fun hw => ?_, fun _ => gv_tup _ g hsm (q.cut lo hi)⟩
    rw [sIx_eq, sIx_eq, q.length] at hw
    unfold cutL at g
    rw [hw.1, hw.2, List.drop_zero, Nat.sub_zero, List.take_length] at g
    exact gv_same _ g hsm (.tup e o q)
  | str z =>
    obtain ⟨h1, hg⟩ := R.chk_ok_inv hg
    cases hg
    refine sl_str pins s σ H _ v vl vu lo hi sl Q I rx hs pl pu ⟨_, rfl, ?_, ?_⟩
    · rw [len_toStr, ← limEq]; exact of_decide_eq_true h1
    · rw [cutS_eq]; exact gv_str _ g hsm
  | _ => cases hg

/-! ### products -/
theorem tuple_mul1 (l : Addr) (items : Array Value) (n : Nat) (dd : Option Addr) (sl : Array (Option Value)) (x : Int) (u : Tok) (c0 : (decide (x < -(2 ^ 63)) || decide (x ≥ 2 ^ 63)) = false) (c1 : (items.isEmpty || x == 1) = true) :
    Meets (Builtin.«tuple.__mul__» ⟨[.ref l, .int x u], []⟩) (fun _ R s => s.heap.get? l = some { cls := .type "tuple", dict := dd, data := .seq items n, slots := sl } ∧
      R (.ok (.ret (Value.ref l))) { s with heap := s.heap, toks := s.toks }) :=
  .of_wp fun prog w A R s h => by
    obtain ⟨hp, g, d, tk, os⟩ := s
    obtain ⟨hl, h⟩ := h
    have f1 := AutoSeq1.idx_int
    wp_walk using wpAny_loadPart' hl
    repeat (first
      | (refine wpAny_ite_false (decide_eq_false (by rw [c0]; exact Bool.false_ne_true)) ?_; wp_walk using wpAny_loadPart' hl)
      | (refine wpAny_ite_true (decide_eq_true c1) ?_; wp_walk using wpAny_loadPart' hl))
    exact ⟨_, rfl, h⟩
theorem tuple_mul0 (l : Addr) (items : Array Value) (n : Nat) (dd : Option Addr) (sl : Array (Option Value)) (x : Int) (u : Tok) (c0 : (decide (x < -(2 ^ 63)) || decide (x ≥ 2 ^ 63)) = false) (c1 : (items.isEmpty || x == 1) = false) (c2 : (decide (x ≤ 0) || items.isEmpty) = true) :
    Meets (Builtin.«tuple.__mul__» ⟨[.ref l, .int x u], []⟩) (fun _ R s => s.heap.get? l = some { cls := .type "tuple", dict := dd, data := .seq items n, slots := sl } ∧
      R (.ok (.ret (Value.ref s.heap.objs.size))) { s with heap := s.heap.push { cls := Value.type "tuple", data := Data.seq #[] }, toks := s.toks }) :=
  .of_wp fun prog w A R s h => by
    obtain ⟨hp, g, d, tk, os⟩ := s
    obtain ⟨hl, h⟩ := h
    have f1 := AutoSeq1.idx_int
    wp_walk using wpAny_loadPart' hl
    repeat (first
      | (refine wpAny_ite_false (decide_eq_false (by rw [c0]; exact Bool.false_ne_true)) ?_; wp_walk using wpAny_loadPart' hl)
      | (refine wpAny_ite_false (decide_eq_false (by rw [c1]; exact Bool.false_ne_true)) ?_; wp_walk using wpAny_loadPart' hl)
      | (refine wpAny_ite_true (decide_eq_true c2) ?_; wp_walk using wpAny_loadPart' hl))
    exact ⟨_, rfl, h⟩
theorem o_mulT {pins : List (Addr × Obj)} {s : Shared} {σ : L2.St} {F H : Hp} {a : Addr} {ob : Obj} {xs : List V} {ds : List D} {k : Int} {u : Value} {Q : VK} (I : Inv X pins σ H s) (hs : Same F H) (e : F a = some (.frz ob (.tup xs))) (od : ob.dict = Option.none) (q : Dqs X.K F xs ds) (ry : RelV (.int k) u)
    (h1 : ds.length * k.toNat ≤ LIM) (h2 : -(2 ^ 62) ≤ k ∧ k < 2 ^ 62) (g : Gv X.K F H (.tup (rep k.toNat ds)) Q) : wpAny (model X.prog X.w) X.A (binaryOp .Mult (.ref a) u) (EP X pins σ Q) X.xe s := by
  obtain ⟨t, rfl⟩ := ry
  obtain ⟨its, r, ⟨⟨cls, dd, data, sl⟩, ho, hc, n, hd⟩, hz⟩ := I.tuple (sqT_of (K := X.K) hs e)
  simp only at hc hd
  subst hc hd
  have hle : its.length = xs.length := r.length.symm
  have hsz0 : its.toArray.size = xs.length := by rw [List.size_toArray, hle]
  have c0 : (decide (k < -(2 ^ 63)) || decide (k ≥ 2 ^ 63)) = false := by
    rw [decide_eq_false (by omega), decide_eq_false (by omega)] <;> rfl
  cases c1 : (its.toArray.isEmpty || k == 1) with
  | true =>
    refine wpAny_binaryOp_repeat_ref (T := "tuple") (U := "int") (by decide) ⟨_, ho, rfl⟩ (fun s' => typeIs_int s' k t) noFill_tuple_mul PySem.F.fills_int_mul PySem.F.slot_int_rmul repeat_tuple PySem.F.slot_int_index.lookup
      (call_meets PySem.F.slot_int_rmul (typeIs_int s k t) PySem.F.entry_int_rmul (PySem.F.args_int_rmul_2 _ _) (int_rmul_tuple k t a its.toArray n dd sl)
        ⟨ho, rfl, ⟨_, ho, rfl⟩, call_meets PySem.F.slot_tuple_mul ⟨_, ho, rfl⟩ PySem.F.entry_tuple_mul (PySem.F.args_tuple_mul_2 _ _) (tuple_mul1 a its.toArray n dd sl k t c0 c1) ⟨ho, ?_⟩⟩)
    refine ⟨.ref a, H, I.tok _, rfl, ?_⟩
    have e1 : rep k.toNat ds = ds := by
      rw [Bool.or_eq_true] at c1
      rcases c1 with c1 | c1
      · have : its = [] := by cases its with | nil => rfl | cons _ _ => simp at c1
        rw [this] at hle
        have hx : xs = [] := List.eq_nil_of_length_eq_zero hle.symm
        have hd : ds = [] := List.eq_nil_of_length_eq_zero (by rw [← q.length, hx]; rfl)
        rw [hd]
        unfold rep
        simp
      · have : k = 1 := eq_of_beq c1
        rw [this]
        unfold rep
        simp
    rw [e1] at g
    exact gv_same _ g hs (.tup e od q)
  | false =>
    cases c2 : (decide (k ≤ 0) || its.toArray.isEmpty) with
    | true =>
      refine wpAny_binaryOp_repeat_ref (T := "tuple") (U := "int") (by decide) ⟨_, ho, rfl⟩ (fun s' => typeIs_int s' k t) noFill_tuple_mul PySem.F.fills_int_mul PySem.F.slot_int_rmul repeat_tuple PySem.F.slot_int_index.lookup
        (call_meets PySem.F.slot_int_rmul (typeIs_int s k t) PySem.F.entry_int_rmul (PySem.F.args_int_rmul_2 _ _) (int_rmul_tuple k t a its.toArray n dd sl)
          ⟨ho, rfl, ⟨_, ho, rfl⟩, call_meets PySem.F.slot_tuple_mul ⟨_, ho, rfl⟩ PySem.F.entry_tuple_mul (PySem.F.args_tuple_mul_2 _ _) (tuple_mul0 a its.toArray n dd sl k t c0 c1 c2) ⟨ho, ?_⟩⟩)
      have hk : k ≤ 0 := by
        rw [Bool.or_eq_false_iff] at c1
        rw [c1.1, Bool.or_false] at c2
        exact of_decide_eq_true c2
      have e1 : rep k.toNat ds = [] := by
        have : k.toNat = 0 := by omega
        rw [this]
        rfl
      rw [e1] at g
      exact ⟨.ref s.heap.objs.size, _, Inv_tupF (its := []) (t' := s.toks) I .nil (Nat.zero_le _), rfl, gv_tup _ g hs .nil _ _ (I.hok.fresh (Nat.le_refl _)) rfl⟩
    | false =>
      have hm : ((its.toArray.size : Nat) : Int) * k ≤ 16777216 := by
        rw [hsz0, q.length]
        rw [Bool.or_eq_false_iff] at c2
        have hk0 : ¬ k ≤ 0 := of_decide_eq_false c2.1
        have : ((ds.length * k.toNat : Nat) : Int) ≤ 16777216 := by unfold LIM at h1; omega
        have e3 : ((k.toNat : Nat) : Int) = k := Int.toNat_of_nonneg (by omega)
        rw [Int.natCast_mul, e3] at this
        exact this
      have flen : (List.replicate k.toNat its).flatten.length ≤ sizeLine := by
        rw [PyProof.Rows.lm_len_rep_flat, hle, Nat.mul_comm, q.length, ← limEq]
        exact h1
      have c4 : Builtin.Tuple.tupleTooMany (((its.toArray.size : Nat) : Int) * k) = false := by
        unfold Builtin.Tuple.tupleTooMany
        rw [sizeLine_eq]
        exact decide_eq_false (by omega)
      refine wpAny_binaryOp_repeat_ref (T := "tuple") (U := "int") (by decide) ⟨_, ho, rfl⟩ (fun s' => typeIs_int s' k t) noFill_tuple_mul PySem.F.fills_int_mul PySem.F.slot_int_rmul repeat_tuple PySem.F.slot_int_index.lookup
        (call_meets PySem.F.slot_int_rmul (typeIs_int s k t) PySem.F.entry_int_rmul (PySem.F.args_int_rmul_2 _ _) (int_rmul_tuple k t a its.toArray n dd sl)
          ⟨ho, rfl, ⟨_, ho, rfl⟩, call_meets PySem.F.slot_tuple_mul ⟨_, ho, rfl⟩ PySem.F.entry_tuple_mul (PySem.F.args_tuple_mul_2 _ _) (tuple_mulW a its.toArray n dd sl k t c0 c1 c2 (by omega) c4 (by rw [size_rep, List.size_toArray]; exact flen)) ⟨ho, ?_⟩⟩)
      rw [size_rep]
      exact ⟨.ref s.heap.objs.size, _, Inv_tupF (t' := s.toks) I (r.rep k.toNat) (by rw [PyProof.Rows.lm_len_rep_flat, Nat.mul_comm, q.length, ← limEq]; exact h1), rfl, gv_tup _ g hs (q.rep k.toNat) _ _ (I.hok.fresh (Nat.le_refl _)) rfl⟩
theorem bigI_of' {i : Int} (h : bigI i = true) : -(2 ^ 62) ≤ i ∧ i < 2 ^ 62 := by
  unfold bigI at h
  rw [Bool.and_eq_true] at h
  exact ⟨of_decide_eq_true h.1, of_decide_eq_true h.2⟩
theorem mul_toStr (x : List Nat) (n : Int) : Txt.mul (toStr x) n = toStr (rep n.toNat x) := by
  unfold Txt.mul
  by_cases h1 : n < 1
  · rw [if_pos h1]
    have : n.toNat = 0 := by omega
    rw [this]
    rfl
  · rw [if_neg h1]
    by_cases h2 : (n == 1 || (toStr x).length == 0) = true
    · rw [if_pos h2]
      rw [Bool.or_eq_true] at h2
      rcases h2 with h2 | h2
      · have : n = 1 := eq_of_beq h2
        rw [this]
        simp [rep]
      · have : (toStr x).length = 0 := eq_of_beq h2
        rw [len_toStr] at this
        have hx : x = [] := List.eq_nil_of_length_eq_zero this
        rw [hx]
        simp [rep]
    · rw [if_neg h2]
      have key : ∀ (m : Nat) (acc : List Nat), (List.replicate m x.toArray).foldl (· ++ ·) acc.toArray = (acc ++ (List.replicate m x).flatten).toArray := by
        intro m
        induction m with
        | zero => intro acc; simp
        | succ m ih =>
          intro acc
          rw [List.replicate_succ, List.foldl_cons, List.append_toArray, ih (acc ++ x), List.replicate_succ, List.flatten_cons, List.append_assoc]
      have := key n.toNat []
      unfold rep
      show Str.mk _ = Str.mk _
      rw [Str.mk.injEq]
      simpa using this
theorem mulOk_of {x : List Nat} {n : Int} (h1 : x.length * n.toNat ≤ LIM) (h2 : -(2 ^ 62) ≤ n ∧ n < 2 ^ 62) : MulOk (toStr x) n := by
  refine ⟨by rw [decide_eq_false (by omega), decide_eq_false (by omega)]; rfl, fun hn _ => ?_, fun hn _ => ?_⟩
  · rw [len_toStr]
    have hn0 : 0 < n := by omega
    have : ((x.length * n.toNat : Nat) : Int) ≤ 16777216 := by unfold LIM at h1; omega
    have e3 : ((n.toNat : Nat) : Int) = n := Int.toNat_of_nonneg (by omega)
    rw [Int.natCast_mul, e3] at this
    have : (x.length : Int) ≤ (2 ^ 63 - 1) / n := Int.le_ediv_of_mul_le hn0 (by omega)
    omega
  · rw [len_toStr]
    unfold Builtin.Str.tooLong
    have : x.length * n.toNat ≤ sizeLine := by rw [← limEq]; exact h1
    simp only [decide_eq_false_iff_not]
    omega
theorem o_mul : OpR X (binaryOp .Mult) (r2 X.K mulD) := by
  intro pins s σ H x y v u Q I rx ry h
  obtain ⟨F, d, e, d', hs, hx, hy, hg, g⟩ := h
  cases e with
  | int k =>
    have hyi := dq_int hy
    subst hyi
    cases hx with
    | int i =>
      obtain ⟨h1, hg⟩ := R.chk_ok_inv hg
      cases hg
      rw [Bool.or_eq_true] at h1
      exact op_mul pins s σ H _ _ v u Q I rx ry ⟨_, _, rfl, rfl, h1.imp small64_of small64_of, gv_int _ g hs⟩
    | str z =>
      obtain ⟨h1, hg⟩ := R.chk_ok_inv hg
      cases hg
      rw [Bool.and_eq_true] at h1
      obtain ⟨t, rfl⟩ := rx
      obtain ⟨t2, rfl⟩ := ry
      refine SB.mul (mulOk_of (of_decide_eq_true h1.1) (bigI_of' h1.2)) fun t' k' => ⟨.str _, H, I.tok _, ⟨_, rfl⟩, ?_⟩
      rw [mul_toStr]
      exact gv_str _ g hs
    | lst e1 q1 =>
      obtain ⟨h1, hg⟩ := R.chk_ok_inv hg
      cases hg
      rw [Bool.and_eq_true] at h1
      have h2 := of_decide_eq_true h1.1
      have h3 := bigI_of' h1.2
      exact op_rep pins s σ H _ _ v u Q I rx ry ⟨_, _, _, rfl, rfl, hs _ _ e1, by omega, by omega, by rw [q1.length, ← limEq]; exact h2, gv_lst _ g hs (q1.rep k.toNat)⟩
    | tup e1 o1 q1 =>
      obtain ⟨h1, hg⟩ := R.chk_ok_inv hg
      cases hg
      rw [Bool.and_eq_true] at h1
      cases rx
      exact o_mulT I hs e1 o1 q1 ry (of_decide_eq_true h1.1) (bigI_of' h1.2) g
    | _ => cases hg
  | _ => cases d <;> cases hg
end
end OC

/-! Part S3c: sums, least and greatest, sorting, methods. -/
namespace OC
open PySem PySem.Spec PyProof.Rows L2
open PySem.W (alike dataLt dataLe AlikeAll AllAlike Sortable EachIs)
/-! ### the order -/
mutual
theorem alike_py : ∀ x y : D, D.alike x y = true → alike x.py y.py = true
  | .int _, .int _, _ => by simp [D.py, alike]
  | .str _, .str _, _ => by simp [D.py, alike]
  | .tup xs, .tup ys, h => by
    rw [D.alike] at h
    rw [D.py, D.py, alike]
    exact alikes_py xs ys h
  | .int _, .non, h => by simp [D.alike] at h
  | .int _, .bl _, h => by simp [D.alike] at h
  | .int _, .str _, h => by simp [D.alike] at h
  | .int _, .lst _, h => by simp [D.alike] at h
  | .int _, .tup _, h => by simp [D.alike] at h
  | .int _, .scr _, h => by simp [D.alike] at h
  | .str _, .non, h => by simp [D.alike] at h
  | .str _, .bl _, h => by simp [D.alike] at h
  | .str _, .int _, h => by simp [D.alike] at h
  | .str _, .lst _, h => by simp [D.alike] at h
  | .str _, .tup _, h => by simp [D.alike] at h
  | .str _, .scr _, h => by simp [D.alike] at h
  | .tup _, .non, h => by simp [D.alike] at h
  | .tup _, .bl _, h => by simp [D.alike] at h
  | .tup _, .int _, h => by simp [D.alike] at h
  | .tup _, .str _, h => by simp [D.alike] at h
  | .tup _, .lst _, h => by simp [D.alike] at h
  | .tup _, .scr _, h => by simp [D.alike] at h
  | .non, _, h => by simp [D.alike] at h
  | .bl _, _, h => by simp [D.alike] at h
  | .lst _, _, h => by simp [D.alike] at h
  | .scr _, _, h => by simp [D.alike] at h
theorem alikes_py : ∀ xs ys : List D, D.alikes xs ys = true → PySem.W.alikeAll (D.pys xs) (D.pys ys) = true
  | [], ys, _ => by rw [D.pys, PySem.W.alikeAll]
  | _ :: _, [], _ => by rw [D.pys, D.pys, PySem.W.alikeAll]
  | x :: xs, y :: ys, h => by
    rw [D.alikes, Bool.and_eq_true] at h
    rw [D.pys, D.pys, PySem.W.alikeAll, alike_py x y h.1, alikes_py xs ys h.2]
    rfl
end
mutual
/-- what is alike can be compared -/
theorem alike_eqv : ∀ x y : D, D.alike x y = true → PyData.eqv x.py y.py = D.eqv x y
  | .int _, .int _, _ => by simp [D.py, PyData.eqv, D.eqv]
  | .str x, .str y, _ => by rw [D.py, D.py, PyData.eqv, D.eqv]; exact toStr_beq x y
  | .tup xs, .tup ys, h => by
    rw [D.alike] at h
    rw [D.py, D.py, PyData.eqv, D.eqv]
    exact alikes_eqv xs ys h
  | .int _, .non, h => by simp [D.alike] at h
  | .int _, .bl _, h => by simp [D.alike] at h
  | .int _, .str _, h => by simp [D.alike] at h
  | .int _, .lst _, h => by simp [D.alike] at h
  | .int _, .tup _, h => by simp [D.alike] at h
  | .int _, .scr _, h => by simp [D.alike] at h
  | .str _, .non, h => by simp [D.alike] at h
  | .str _, .bl _, h => by simp [D.alike] at h
  | .str _, .int _, h => by simp [D.alike] at h
  | .str _, .lst _, h => by simp [D.alike] at h
  | .str _, .tup _, h => by simp [D.alike] at h
  | .str _, .scr _, h => by simp [D.alike] at h
  | .tup _, .non, h => by simp [D.alike] at h
  | .tup _, .bl _, h => by simp [D.alike] at h
  | .tup _, .int _, h => by simp [D.alike] at h
  | .tup _, .str _, h => by simp [D.alike] at h
  | .tup _, .lst _, h => by simp [D.alike] at h
  | .tup _, .scr _, h => by simp [D.alike] at h
  | .non, _, h => by simp [D.alike] at h
  | .bl _, _, h => by simp [D.alike] at h
  | .lst _, _, h => by simp [D.alike] at h
  | .scr _, _, h => by simp [D.alike] at h
theorem alikes_eqv : ∀ xs ys : List D, D.alikes xs ys = true → PyData.eqvAll (D.pys xs) (D.pys ys) = D.eqvs xs ys
  | [], [], _ => by simp [D.pys, PyData.eqvAll, D.eqvs]
  | [], _ :: _, _ => by simp [D.pys, PyData.eqvAll, D.eqvs]
  | _ :: _, [], _ => by simp [D.pys, PyData.eqvAll, D.eqvs]
  | x :: xs, y :: ys, h => by
    rw [D.alikes, Bool.and_eq_true] at h
    rw [D.pys, D.pys, PyData.eqvAll, D.eqvs, alike_eqv x y h.1, alikes_eqv xs ys h.2]
end
theorem lex_nil_nil : PyProof.Rows.lexLt PyProof.Rows.itemOrd (PySem.W.keyToksAll []) (PySem.W.keyToksAll []) = false := by decide +kernel
theorem lex_nil_cons (y : PyData) (ys : List PyData) : PyProof.Rows.lexLt PyProof.Rows.itemOrd (PySem.W.keyToksAll []) (PySem.W.keyToksAll (y :: ys)) = true := by
  rw [PySem.W.keyToksAll, PySem.W.keyToksAll]
  rw [PySem.W.lex_atom (by simp)]
  decide +kernel
theorem lex_cons_nil (y : PyData) (ys : List PyData) : PyProof.Rows.lexLt PyProof.Rows.itemOrd (PySem.W.keyToksAll (y :: ys)) (PySem.W.keyToksAll []) = false := by
  rw [PySem.W.keyToksAll, PySem.W.keyToksAll]
  rw [PySem.W.lex_atom (by simp)]
  decide +kernel
mutual
theorem lt_py : ∀ x y : D, D.alike x y = true → dataLt x.py y.py = D.lt x y
  | .int _, .int _, _ => by rw [D.py, D.py, PySem.W.dataLt_int, D.lt]
  | .str x, .str y, _ => by
    rw [D.py, D.py, PySem.W.dataLt_str, D.lt]
    rfl
  | .tup xs, .tup ys, h => by
    rw [D.alike] at h
    rw [D.py, D.py, PySem.W.dataLt_tuple, D.lt]
    exact lts_py xs ys h
  | .int _, .non, h => by simp [D.alike] at h
  | .int _, .bl _, h => by simp [D.alike] at h
  | .int _, .str _, h => by simp [D.alike] at h
  | .int _, .lst _, h => by simp [D.alike] at h
  | .int _, .tup _, h => by simp [D.alike] at h
  | .int _, .scr _, h => by simp [D.alike] at h
  | .str _, .non, h => by simp [D.alike] at h
  | .str _, .bl _, h => by simp [D.alike] at h
  | .str _, .int _, h => by simp [D.alike] at h
  | .str _, .lst _, h => by simp [D.alike] at h
  | .str _, .tup _, h => by simp [D.alike] at h
  | .str _, .scr _, h => by simp [D.alike] at h
  | .tup _, .non, h => by simp [D.alike] at h
  | .tup _, .bl _, h => by simp [D.alike] at h
  | .tup _, .int _, h => by simp [D.alike] at h
  | .tup _, .str _, h => by simp [D.alike] at h
  | .tup _, .lst _, h => by simp [D.alike] at h
  | .tup _, .scr _, h => by simp [D.alike] at h
  | .non, _, h => by simp [D.alike] at h
  | .bl _, _, h => by simp [D.alike] at h
  | .lst _, _, h => by simp [D.alike] at h
  | .scr _, _, h => by simp [D.alike] at h
theorem lts_py : ∀ xs ys : List D, D.alikes xs ys = true → PyProof.Rows.lexLt PyProof.Rows.itemOrd (PySem.W.keyToksAll (D.pys xs)) (PySem.W.keyToksAll (D.pys ys)) = D.lts xs ys
  | [], [], _ => by rw [D.pys, D.lts]; exact lex_nil_nil
  | [], y :: ys, _ => by rw [D.pys, D.pys, D.lts]; exact lex_nil_cons _ _
  | x :: xs, [], _ => by rw [D.pys, D.pys, D.lts]; exact lex_cons_nil _ _
  | x :: xs, y :: ys, h => by
    rw [D.alikes, Bool.and_eq_true] at h
    rw [D.pys, D.pys, D.lts, PySem.W.dataLt_cons (alike_py x y h.1), alike_eqv x y h.1, lt_py x y h.1, lts_py xs ys h.2]
end
theorem merge_congr {α : Type} {le le' : α → α → Bool} : ∀ (l r : List α), (∀ a ∈ l, ∀ b ∈ r, le a b = le' a b) → l.merge r le = l.merge r le'
  | [], r, _ => by simp
  | l, [], _ => by simp
  | a :: l, b :: r, h => by
    rw [List.cons_merge_cons, List.cons_merge_cons, h a List.mem_cons_self b List.mem_cons_self]
    rw [merge_congr l (b :: r) fun x hx y hy => h x (List.mem_cons_of_mem _ hx) y hy, merge_congr (a :: l) r fun x hx y hy => h x hx y (List.mem_cons_of_mem _ hy)]
theorem sort_congr {α : Type} {le le' : α → α → Bool} : ∀ (n : Nat) (l : List α), l.length ≤ n → (∀ a ∈ l, ∀ b ∈ l, le a b = le' a b) → l.mergeSort le = l.mergeSort le'
  | _, [], _, _ => by simp
  | _, [a], _, _ => by simp
  | 0, a :: b :: l, h, _ => by simp at h
  | n + 1, a :: b :: l, h, q => by
    rw [List.mergeSort, List.mergeSort]
    have h1 : (List.MergeSort.Internal.splitInTwo ⟨a :: b :: l, rfl⟩).1.1.length ≤ n := by
      simp only [List.MergeSort.Internal.splitInTwo_fst, List.length_take, List.length_cons] at *
      omega
    have h2 : (List.MergeSort.Internal.splitInTwo ⟨a :: b :: l, rfl⟩).2.1.length ≤ n := by
      simp only [List.MergeSort.Internal.splitInTwo_snd, List.length_drop, List.length_cons] at *
      omega
    have m1 : ∀ x ∈ (List.MergeSort.Internal.splitInTwo ⟨a :: b :: l, rfl⟩).1.1, x ∈ a :: b :: l := fun x hx => by
      rw [List.MergeSort.Internal.splitInTwo_fst] at hx
      exact List.mem_of_mem_take hx
    have m2 : ∀ x ∈ (List.MergeSort.Internal.splitInTwo ⟨a :: b :: l, rfl⟩).2.1, x ∈ a :: b :: l := fun x hx => by
      rw [List.MergeSort.Internal.splitInTwo_snd] at hx
      exact List.mem_of_mem_drop hx
    rw [sort_congr n _ h1 fun x hx y hy => q x (m1 x hx) y (m1 y hy), sort_congr n _ h2 fun x hx y hy => q x (m2 x hx) y (m2 y hy)]
    refine merge_congr _ _ fun x hx y hy => ?_
    exact q x (m1 x ((List.mergeSort_perm _ _).mem_iff.mp hx)) y (m2 y ((List.mergeSort_perm _ _).mem_iff.mp hy))
/-- the items are alike -/
theorem alikeAll_of {xs : List D} (h : OC.alikeAll xs = true) : ∀ x ∈ xs, ∀ y ∈ xs, D.alike x y = true := fun x hx y hy => by
  unfold OC.alikeAll at h
  exact List.all_eq_true.mp (List.all_eq_true.mp h x hx) y hy
theorem sortD_py {xs : List D} (h : OC.alikeAll xs = true) : xs.mergeSort (dataLe false D.py) = sortD D.lt xs := by
  unfold sortD
  refine sort_congr xs.length xs (Nat.le_refl _) fun a ha b hb => ?_
  rw [PySem.W.dataLe_eq]
  show (!dataLt b.py a.py) = !D.lt b a
  rw [lt_py b a (alikeAll_of h b hb a ha)]
theorem allAlike_py {xs : List D} (h : OC.alikeAll xs = true) : AllAlike (xs.map D.py) := fun d hd d' hd' => by
  obtain ⟨x, hx, rfl⟩ := List.mem_map.mp hd
  obtain ⟨y, hy, rfl⟩ := List.mem_map.mp hd'
  exact alike_py x y (alikeAll_of h x hx y hy)
theorem sortable_py {xs : List D} (h : sortable xs = true) : Sortable (xs.map D.py) := by
  unfold sortable at h
  rw [Bool.or_eq_true] at h
  rcases h with h | h
  · refine .inl fun d hd => ?_
    obtain ⟨x, hx, rfl⟩ := List.mem_map.mp hd
    have := List.all_eq_true.mp h x hx
    cases x with
    | tup ys =>
      cases ys with
      | nil => cases this
      | cons y ys => exact ⟨y.py, D.pys ys, by rw [D.py, D.pys]⟩
    | _ => cases this
  · refine .inr fun d hd => ?_
    obtain ⟨x, hx, rfl⟩ := List.mem_map.mp hd
    have := List.all_eq_true.mp h x hx
    cases x with
    | int _ => exact ⟨by simp [D.py], by simp [D.py]⟩
    | str _ => exact ⟨by simp [D.py], by simp [D.py]⟩
    | _ => cases this
theorem cmpbs_mem {n : Nat} : ∀ {xs : List D}, D.cmpbs n xs = true → ∀ x ∈ xs, D.cmpb n x = true
  | [], _, x, hx => by cases hx
  | y :: ys, h, x, hx => by
    rw [D.cmpbs, Bool.and_eq_true] at h
    rcases List.mem_cons.mp hx with rfl | hx
    · exact h.1
    · exact cmpbs_mem h.2 x hx

/-! ### sorted of a list, of a tuple -/
section
variable {prog : Program} {w : World} {A : Around} {E : Value → Shared → Prop} {s : Shared}
theorem collect_tuple {l : Addr} {vs : List Value} {Q : List Value → Shared → Prop} (hl : s.heap.IsTuple l vs.toArray)
    (h : Q vs { s with heap := (s.heap.push (seqObj "list" #[] 0)).update s.heap.objs.size (Obj.mapSeq (· ++ vs.toArray)) }) (hsz : vs.length ≤ sizeLine) :
    wpAny (model prog w) A (collect (.ref l)) Q E s := by
  obtain ⟨o, ho, hc, n, hd⟩ := id hl
  unfold collect
  refine wpAny_bind (wpAny_runValue (codeAny_builtin entry_proto_collect' ?_))
  show wpAny _ _ (do again (.builtin "list.__iadd__" ⟨[← newList [], .ref l], []⟩)) _ _ s
  refine wpAny_bind (wpAny_newList (wpAny_pure ⟨Code.quiet_builtin _ (by decide +kernel), codeAny_builtin entry_list_iadd' ?_⟩))
  show wpAny _ _ (Builtin.List.listExtendWith (.ref s.heap.objs.size) (.ref l) (.ref s.heap.objs.size)) _ _ { s with heap := s.heap.push (seqObj "list" #[] 0) }
  unfold Builtin.List.listExtendWith
  have ho' : (s.heap.push (seqObj "list" #[] 0)).get? l = some o := Heap.get?_push_of_some _ ho
  refine wpAny_bind (wpAny_typeOf (T := "tuple") ⟨o, ho', hc⟩ ?_)
  have ht : (Value.type "tuple" == Value.type "tuple") = true := by rfl
  rw [if_pos (by rw [ht]; simp)]
  refine wpAny_bind (listItems_at ho' hd ?_)
  refine wpAny_bind (listItems_at (xs := #[]) (n := 0) (Heap.get?_push_size _ rfl) rfl ?_)
  rw [if_neg (by simp)]
  refine wpAny_bind (listUpdate_at (xs := #[]) (n := 0) (Heap.get?_push_size _ rfl) rfl ?_ (Nat.zero_le _) (by show (#[] ++ vs.toArray).size ≤ sizeLine + 1; simp only [Array.size_append, List.size_toArray, List.length_nil]; omega))
  refine wpAny_pure ?_
  show wpAny (model prog w) A (do
      let o ← load s.heap.objs.size
      match o.data with
      | .seq xs _ => pure xs.toList
      | _ => unsupported "internal:collect") Q E { s with heap := (s.heap.push (seqObj "list" #[] 0)).update s.heap.objs.size (Obj.mapSeq (· ++ vs.toArray)) }
  refine wpAny_bind (wpAny_load (get?_update_seq (Heap.get?_push_size _ rfl) _) ?_)
  show wpAny _ _ (pure ((#[] : Array Value) ++ vs.toArray).toList) Q E _
  rw [show ((#[] : Array Value) ++ vs.toArray).toList = vs by simp]
  exact wpAny_pure h
theorem sorted_of_sortT {l : Addr} {vs : List Value} {Q : Value → Shared → Prop} (hl : s.heap.IsTuple l vs.toArray) (hL : vs.length ≤ sizeLine)
    (body : ∀ E' : Value → Shared → Prop, wpAny (model prog w) A.in1.in1 (Builtin.«list.sort» ⟨[.ref (s.heap.objs.size + 1)], []⟩) (fun f s' => f = .done (.ret .none) ∧ Q (.ref (s.heap.objs.size + 1)) s') E' { s with heap := PySem.W.copyHeap s.heap vs }) :
    wpAny (model prog w) A (call (.builtin "sorted") [.ref l]) Q E s := by
  refine call_function_entry_kw kind_sorted plain_sorted entry_sorted (args_sorted1 _) ?_
  unfold Builtin.«sorted»
  refine wpAny_bind (m := checkCount "sorted" 1 1 _) (wpAny_pure ?_)
  refine wpAny_bind (collect_tuple hl ?_ hL)
  refine wpAny_bind (wpAny_newList ?_ hL)
  have hsz : ((s.heap.push (seqObj "list" #[] 0)).update s.heap.objs.size (Obj.mapSeq (· ++ vs.toArray))).objs.size = s.heap.objs.size + 1 := by
    rw [Heap.size_update, size_push']
  show wpAny _ _ _ _ _ { s with heap := PySem.W.copyHeap s.heap vs }
  rw [hsz]
  refine wpAny_bind (wpAny_holding (wpAny_call_entry_kw slot_list_sort ⟨_, PySem.W.copyHeap_at s.heap vs, rfl⟩ entry_list_sort ?body (args_list_sort _)))
  case body =>
    show wpAny (model prog w) A.in1.in1 (Builtin.«list.sort» ⟨[.ref (s.heap.objs.size + 1)], []⟩) _ _ _
    refine wpAny_mono (body _) (fun f s' hf => ?_) fun _ _ e => e
    obtain ⟨rfl, hq⟩ := hf
    exact ⟨_, rfl, wpAny_pure ⟨_, rfl, hq⟩⟩
end
end OC

/-! Part S3d: sorted, min, max, sum, all. -/
namespace OC
open PySem PySem.Spec PyProof.Rows L2
open PySem.W (alike dataLt dataLe AlikeAll AllAlike Sortable EachIs)
section
variable {X : Cx} {K : PySem.W.Frag} {F : Hp}
/-- a value that is a datum -/
def VD (K : PySem.W.Frag) (F : Hp) (v : Value) (d : D) : Prop := ∃ w, RelV w v ∧ Dq K F w d
theorem each_of : ∀ {ws : List V} {us : List Value} {ds : List D}, Vals ws us → Dqs K F ws ds → EachIs (VD K F) us ds
  | _, _, _, .nil, .nil => .nil
  | _, _, _, .cons r rs, .cons q qs => .cons ⟨_, r, q⟩ (each_of rs qs)
theorem of_each : ∀ {us : List Value} {ds : List D}, EachIs (VD K F) us ds → ∃ ws, Vals ws us ∧ Dqs K F ws ds
  | _, _, .nil => ⟨[], .nil, .nil⟩
  | _, _, .cons ⟨w, r, q⟩ t => by
    obtain ⟨ws, rs, qs⟩ := of_each t
    exact ⟨w :: ws, .cons r rs, .cons q qs⟩
theorem each_reads {pins : List (Addr × Obj)} {σ : L2.St} {H : Hp} {s : Shared} (I : Inv X pins σ H s) (h : Same F H) : ∀ {us : List Value} {ds : List D}, EachIs (VD X.K F) us ds → EachIs (fun v b => ∃ as, Reads s.heap v (D.py b) as) us ds
  | _, _, .nil => .nil
  | _, _, .cons ⟨w, r, q⟩ t => .cons (Dq.reads I h _ _ _ q r) (each_reads I h t)
theorem sorted_end {pins : List (Addr × Obj)} {σ : L2.St} {H : Hp} {s : Shared} {Q : VK} {vs out : List Value} {ds : List D} (I : Inv X pins σ H s) (hs : Same F H) (e : EachIs (VD X.K F) out (sortD D.lt ds)) (hl : ds.length ≤ sizeLine) (g : Gv X.K F H (.lst (sortD D.lt ds)) Q) :
    EP X pins σ Q (.ref (s.heap.objs.size + 1)) { s with heap := sortedAll s.heap vs (List.toArray out) } := by
  obtain ⟨ws, r, q⟩ := of_each e
  have hn : H (s.heap.objs.size + 1) = none := I.hok.fresh (Nat.le_succ _)
  obtain ⟨c, hc⟩ := sortedAll_at s.heap vs (List.toArray out)
  have hlen : ws.length ≤ sizeLine := by
    rw [q.length]
    unfold sortD
    rw [List.length_mergeSort]
    exact hl
  refine ⟨.ref _, _, I.laid (t' := s.toks) (o := .lst ws) (fun b o e => sortedAll_old e) (Nat.le_succ _) ⟨hlen, out, c, r, hc⟩, rfl, gv_lst _ g hs q _ hn⟩
theorem c_sorted (hu : X.A.units + 70 < cLine) : CallR X (.builtin "sorted") (rc1 X.K sortedD) := by
  intro pins s σ H xs us Q I r h
  obtain ⟨x, rfl, F, d, d', hs, hx, hg, g⟩ := h
  obtain ⟨u, rfl, rx⟩ := vals1 r
  unfold sortedD at hg
  cases hx with
  | lst e q =>
    rename_i a xs ds
    obtain ⟨h1, hg⟩ := R.chk_ok_inv (show R.chk _ _ = _ from hg)
    cases hg
    simp only [Bool.and_eq_true] at h1
    cases rx
    obtain ⟨its, r', pl, hz⟩ := I.list (sqL_of (K := X.K) hs e)
    have he : EachIs (VD X.K F) its ds := each_of r' q
    refine PySem.W.sorted_data (enc := D.py) (R := VD X.K F) pl.isList he (each_reads I hs he) (allAlike_py h1.1.1.1) (sortable_py h1.1.1.2) (by rw [← q.length]; exact hz) (fun b hb => ?_) fun out ho eo => ?_
    · have := D.deep 58 b (cmpbs_mem h1.1.2 b hb)
      omega
    · rw [sortD_py h1.1.1.1] at eo
      exact sorted_end I hs eo (by rw [← q.length]; exact hz) g
  | tup e o q =>
    rename_i a ob xs ds
    obtain ⟨h1, hg⟩ := R.chk_ok_inv (show R.chk _ _ = _ from hg)
    cases hg
    simp only [Bool.and_eq_true] at h1
    cases rx
    obtain ⟨its, r', pl, hz⟩ := I.tuple (sqT_of (K := X.K) hs e)
    have he : EachIs (VD X.K F) its ds := each_of r' q
    have er := each_reads I hs he
    have er' : EachIs (fun v b => ∃ as, Reads (PySem.W.sortingHeap (PySem.W.copyHeap s.heap its) (s.heap.objs.size + 1) its) v (D.py b) as) its ds := er.mono fun _ _ ⟨as, r⟩ => ⟨as, PyProof.Rows.Reads.keeps (fun _ _ => PySem.W.sorting_copy_old) r⟩
    have hL : its.length ≤ sizeLine := by rw [← r'.length]; exact hz
    refine sorted_of_sortT pl hL fun E' => PySem.W.list_sort_vals (s := { s with heap := PySem.W.copyHeap s.heap its }) (PySem.W.copyHeap_at s.heap its)
      (PySem.W.SortsAt.data (s := { s with heap := PySem.W.sortingHeap (PySem.W.copyHeap s.heap its) (s.heap.objs.size + 1) its }) (PySem.W.each_map (R := fun v d => ∃ as, Reads (PySem.W.sortingHeap (PySem.W.copyHeap s.heap its) (s.heap.objs.size + 1) its) v d as) D.py er') (allAlike_py h1.1.1.1) (sortable_py h1.1.1.2) (PySem.W.bound_map (A := X.A.in1.in1) fun b hb => ?_)) hL ⟨rfl, ?_⟩
    · have := D.deep 58 b (cmpbs_mem h1.1.2 b hb)
      show X.A.units + 1 + 1 + _ < _
      omega
    · have eo := PySem.W.sortVals_data false he er' (allAlike_py h1.1.1.1)
      rw [sortD_py h1.1.1.1] at eo
      exact sorted_end I hs eo (by rw [← q.length]; exact hz) g
  | _ => cases hg

/-! ### the least, the greatest -/
mutual
theorem py_inj : ∀ (n : Nat) (x y : D), D.cmpb n x = true → D.cmpb n y = true → x.py = y.py → x = y
  | n, .non, y, _, hy, h => by have := noscr_of hy; cases y <;> first | rfl | (simp [D.py] at h) | cases this
  | n, .bl _, y, _, hy, h => by have := noscr_of hy; cases y <;> first | (simp [D.py] at h; first | done | (subst h; rfl)) | cases this
  | n, .int _, y, _, hy, h => by have := noscr_of hy; cases y <;> first | (simp [D.py] at h; first | done | (subst h; rfl)) | cases this
  | n, .str x, y, _, hy, h => by
    have := noscr_of hy
    cases y with
    | str y =>
      rw [D.py, D.py] at h
      injection h with h
      rw [toStr_inj h]
    | scr _ => cases this
    | _ => simp [D.py] at h
  | n, .scr _, _, h, _, _ => by cases n <;> simp [D.cmpb] at h
  | 0, .lst _, _, h, _, _ => by simp [D.cmpb] at h
  | 0, .tup _, _, h, _, _ => by simp [D.cmpb] at h
  | n + 1, .lst xs, .lst ys, h1, h2, h => by
    rw [D.cmpb] at h1 h2
    rw [D.py, D.py] at h
    injection h with h
    rw [pys_inj n xs ys h1 h2 h]
  | n + 1, .tup xs, .tup ys, h1, h2, h => by
    rw [D.cmpb] at h1 h2
    rw [D.py, D.py] at h
    injection h with h
    rw [pys_inj n xs ys h1 h2 h]
  | n + 1, .lst xs, .non, _, _, h => by simp [D.py] at h
  | n + 1, .lst xs, .bl _, _, _, h => by simp [D.py] at h
  | n + 1, .lst xs, .int _, _, _, h => by simp [D.py] at h
  | n + 1, .lst xs, .str _, _, _, h => by simp [D.py] at h
  | n + 1, .lst xs, .tup _, _, _, h => by simp [D.py] at h
  | n + 1, .lst xs, .scr _, _, hy, h => by have := noscr_of hy; cases this
  | n + 1, .tup xs, .non, _, _, h => by simp [D.py] at h
  | n + 1, .tup xs, .bl _, _, _, h => by simp [D.py] at h
  | n + 1, .tup xs, .int _, _, _, h => by simp [D.py] at h
  | n + 1, .tup xs, .str _, _, _, h => by simp [D.py] at h
  | n + 1, .tup xs, .lst _, _, _, h => by simp [D.py] at h
  | n + 1, .tup xs, .scr _, _, hy, h => by have := noscr_of hy; cases this
theorem pys_inj : ∀ (n : Nat) (xs ys : List D), D.cmpbs n xs = true → D.cmpbs n ys = true → D.pys xs = D.pys ys → xs = ys
  | n, [], [], _, _, _ => rfl
  | n, [], _ :: _, _, _, h => by simp [D.pys] at h
  | n, _ :: _, [], _, _, h => by simp [D.pys] at h
  | n, x :: xs, y :: ys, h1, h2, h => by
    rw [D.cmpbs, Bool.and_eq_true] at h1 h2
    rw [D.pys, D.pys] at h
    injection h with h3 h4
    rw [py_inj n x y h1.1 h2.1 h3, pys_inj n xs ys h1.2 h2.2 h4]
end
theorem minL_mem : ∀ (xs : List D) (m : D), minL xs m ∈ m :: xs
  | [], m => List.mem_cons_self
  | x :: xs, m => by
    rw [minL]
    have := minL_mem xs (if D.lt x m then x else m)
    rcases List.mem_cons.mp this with h | h
    · rw [h]
      by_cases c : D.lt x m = true
      · rw [if_pos c]; exact List.mem_cons_of_mem _ List.mem_cons_self
      · rw [if_neg c]; exact List.mem_cons_self
    · exact List.mem_cons_of_mem _ (List.mem_cons_of_mem _ h)
theorem maxL_mem : ∀ (xs : List D) (m : D), maxL xs m ∈ m :: xs
  | [], m => List.mem_cons_self
  | x :: xs, m => by
    rw [maxL]
    have := maxL_mem xs (if D.lt m x then x else m)
    rcases List.mem_cons.mp this with h | h
    · rw [h]
      by_cases c : D.lt m x = true
      · rw [if_pos c]; exact List.mem_cons_of_mem _ List.mem_cons_self
      · rw [if_neg c]; exact List.mem_cons_self
    · exact List.mem_cons_of_mem _ (List.mem_cons_of_mem _ h)
theorem minD_py : ∀ (xs : List D) (m : D), (∀ x ∈ m :: xs, ∀ y ∈ m :: xs, D.alike x y = true) → PySem.W.minD m.py (D.pys xs) = (minL xs m).py
  | [], m, _ => rfl
  | x :: xs, m, h => by
    unfold PySem.W.minD
    rw [D.pys, List.foldl_cons, lt_py x m (h x (by simp) m (by simp)), minL]
    have e : (if D.lt x m = true then x.py else m.py) = (if D.lt x m = true then x else m).py := by split <;> rfl
    rw [e]
    have := minD_py xs (if D.lt x m = true then x else m) fun a ha b hb => h a ?_ b ?_
    · unfold PySem.W.minD at this; exact this
    · rcases List.mem_cons.mp ha with z | z
      · rw [z]; split <;> simp
      · simp [z]
    · rcases List.mem_cons.mp hb with z | z
      · rw [z]; split <;> simp
      · simp [z]
theorem maxD_py : ∀ (xs : List D) (m : D), (∀ x ∈ m :: xs, ∀ y ∈ m :: xs, D.alike x y = true) → PySem.W.maxD m.py (D.pys xs) = (maxL xs m).py
  | [], m, _ => rfl
  | x :: xs, m, h => by
    unfold PySem.W.maxD
    rw [D.pys, List.foldl_cons, lt_py m x (h m (by simp) x (by simp)), maxL]
    have e : (if D.lt m x = true then x.py else m.py) = (if D.lt m x = true then x else m).py := by split <;> rfl
    rw [e]
    have := maxD_py xs (if D.lt m x = true then x else m) fun a ha b hb => h a ?_ b ?_
    · unfold PySem.W.maxD at this; exact this
    · rcases List.mem_cons.mp ha with z | z
      · rw [z]; split <;> simp
      · simp [z]
    · rcases List.mem_cons.mp hb with z | z
      · rw [z]; split <;> simp
      · simp [z]
theorem alikeAll_py {xs : List D} (h : OC.alikeAll xs = true) : AlikeAll (D.pys xs) := by
  rw [pys_map]
  refine ⟨fun x hx y hy => allAlike_py h x hx y hy, fun x hx => ?_⟩
  obtain ⟨d, hd, rfl⟩ := List.mem_map.mp hx
  have := alikeAll_of h d hd d hd
  cases d <;> first | (simp [D.py]; done) | (simp [D.alike] at this)
/-- the item that was found is the datum -/
theorem best_end {pins : List (Addr × Obj)} {σ : L2.St} {H : Hp} {s : Shared} {Q : VK} {its : List Value} {ws : List V} {ds : List D} {m : D} {i : Nat} {v : Value} {h' : Heap} {tk : Nat} {bs : List Addr} (I : Inv X pins σ H s) (hs : Same F H) (r : Vals ws its) (q : Dqs X.K F ws ds)
    (hc : D.cmpbs 58 ds = true) (hm : m ∈ ds) (hv : its.toArray[i]? = some v) (hr : Reads h' v m.py bs) (hk : ∀ b o, s.heap.get? b = some o → h'.get? b = some o) (g : Gv X.K F H m Q) : EP X pins σ Q v { s with heap := h', toks := tk } := by
  have hv : its[i]? = some v := by simpa using hv
  obtain ⟨hi, _⟩ := List.getElem?_eq_some_iff.mp hv
  have hi2 : i < ws.length := by rw [r.length]; exact hi
  have hw : ws[i]? = some ws[i] := List.getElem?_eq_getElem hi2
  obtain ⟨u, hu, rv⟩ := r.get hw
  rw [hv] at hu
  cases hu
  obtain ⟨d, hd, qd⟩ := q.getV hw
  obtain ⟨as, rd⟩ := Dq.reads I hs _ _ _ qd rv
  have e : d = m := py_inj 58 d m (cmpbs_mem hc d (List.mem_of_getElem? hd)) (cmpbs_mem hc m hm) (PySem.SeqAt.plain_unique _ _ _ _ _ (D.plain d) (PyProof.Rows.Reads.keeps hk rd) hr)
  subst e
  exact ⟨_, H, I.kept (t' := tk) hk, rv, gv_same _ g hs qd⟩
theorem c_min (hc : X.calm = true) (hu : X.A.units + 70 < cLine) : CallR X (.builtin "min") (rc1 X.K minD) := by
  intro pins s σ H xs us Q I r h
  obtain ⟨x, rfl, F, d, d', hs, hx, hg, g⟩ := h
  obtain ⟨u, rfl, rx⟩ := vals1 r
  unfold minD at hg
  cases hx with
  | lst e q =>
    rename_i a xs ds
    cases ds with
    | nil => cases hg
    | cons m ds =>
      obtain ⟨h1, hg⟩ := R.chk_ok_inv (show R.chk _ _ = _ from hg)
      cases hg
      rw [Bool.and_eq_true] at h1
      cases rx
      obtain ⟨its, r', pl, hz⟩ := I.list (sqL_of (K := X.K) hs e)
      obtain ⟨as, ra⟩ := Dqs.reads I hs _ _ _ q r'
      have dp := D.deeps 58 _ h1.2
      rw [D.pys] at ra dp
      have ha := alikeAll_py h1.1
      rw [D.pys] at ha
      refine PySem.W.min_list_data (I.ok.hd hc) pl.isList ra ha (by omega) fun i v h' tk bs hv hr hk => ?_
      rw [minD_py ds m (alikeAll_of h1.1)] at hr
      exact best_end I hs r' q h1.2 (minL_mem ds m) hv hr hk g
  | tup e o q =>
    rename_i a ob xs ds
    cases ds with
    | nil => cases hg
    | cons m ds =>
      obtain ⟨h1, hg⟩ := R.chk_ok_inv (show R.chk _ _ = _ from hg)
      cases hg
      rw [Bool.and_eq_true] at h1
      cases rx
      obtain ⟨its, r', pl, hz⟩ := I.tuple (sqT_of (K := X.K) hs e)
      obtain ⟨as, ra⟩ := Dqs.reads I hs _ _ _ q r'
      have dp := D.deeps 58 _ h1.2
      rw [D.pys] at ra dp
      have ha := alikeAll_py h1.1
      rw [D.pys] at ha
      refine PySem.W.min_tuple_data (I.ok.hd hc) pl ra ha (by omega) fun i v h' tk bs hv hr hk => ?_
      rw [minD_py ds m (alikeAll_of h1.1)] at hr
      exact best_end I hs r' q h1.2 (minL_mem ds m) hv hr hk g
  | _ => cases hg
theorem c_max (hc : X.calm = true) (hu : X.A.units + 70 < cLine) : CallR X (.builtin "max") (rc1 X.K maxD) := by
  intro pins s σ H xs us Q I r h
  obtain ⟨x, rfl, F, d, d', hs, hx, hg, g⟩ := h
  obtain ⟨u, rfl, rx⟩ := vals1 r
  unfold maxD at hg
  cases hx with
  | lst e q =>
    rename_i a xs ds
    cases ds with
    | nil => cases hg
    | cons m ds =>
      obtain ⟨h1, hg⟩ := R.chk_ok_inv (show R.chk _ _ = _ from hg)
      cases hg
      rw [Bool.and_eq_true] at h1
      cases rx
      obtain ⟨its, r', pl, hz⟩ := I.list (sqL_of (K := X.K) hs e)
      obtain ⟨as, ra⟩ := Dqs.reads I hs _ _ _ q r'
      have dp := D.deeps 58 _ h1.2
      rw [D.pys] at ra dp
      have ha := alikeAll_py h1.1
      rw [D.pys] at ha
      refine PySem.W.max_list_data (I.ok.hd hc) pl.isList ra ha (by omega) fun i v h' tk bs hv hr hk => ?_
      rw [maxD_py ds m (alikeAll_of h1.1)] at hr
      exact best_end I hs r' q h1.2 (maxL_mem ds m) hv hr hk g
  | tup e o q =>
    rename_i a ob xs ds
    cases ds with
    | nil => cases hg
    | cons m ds =>
      obtain ⟨h1, hg⟩ := R.chk_ok_inv (show R.chk _ _ = _ from hg)
      cases hg
      rw [Bool.and_eq_true] at h1
      cases rx
      obtain ⟨its, r', pl, hz⟩ := I.tuple (sqT_of (K := X.K) hs e)
      obtain ⟨as, ra⟩ := Dqs.reads I hs _ _ _ q r'
      have dp := D.deeps 58 _ h1.2
      rw [D.pys] at ra dp
      have ha := alikeAll_py h1.1
      rw [D.pys] at ha
      refine PySem.W.max_tuple_data (I.ok.hd hc) pl ra ha (by omega) fun i v h' tk bs hv hr hk => ?_
      rw [maxD_py ds m (alikeAll_of h1.1)] at hr
      exact best_end I hs r' q h1.2 (maxL_mem ds m) hv hr hk g
  | _ => cases hg
theorem c_sum (hc : X.calm = true) : CallR X (.builtin "sum") (rc1 X.K sumD) := by
  intro pins s σ H xs us Q I r h
  obtain ⟨x, rfl, F, d, d', hs, hx, hg, g⟩ := h
  cases hx with
  | lst e q =>
    rename_i a xs ds
    have hg : (match ints? ds with | some ns => R.ok (D.int ns.sum) | none => .bad) = .ok d' := hg
    cases hn : ints? ds with
    | none => rw [hn] at hg; cases hg
    | some ns =>
      rw [hn] at hg
      cases hg
      have ei := q.ints hn
      subst ei
      exact cr_sum hc pins s σ H _ us Q I r ⟨_, ns, rfl, sqL_of hs e, gv_int _ g hs⟩
  | tup e o q =>
    rename_i a ob xs ds
    have hg : (match ints? ds with | some ns => R.ok (D.int ns.sum) | none => .bad) = .ok d' := hg
    cases hn : ints? ds with
    | none => rw [hn] at hg; cases hg
    | some ns =>
      rw [hn] at hg
      cases hg
      have ei := q.ints hn
      subst ei
      obtain ⟨u, rfl, rx⟩ := vals1 r
      cases rx
      obtain ⟨its, r', pl, hz⟩ := I.tuple (sqT_of (K := X.K) hs e)
      have hi : IntsAre its ns := r'.ints
      obtain ⟨xs2, e2⟩ := hi.allInts.items
      have hn2 : numsOf (intItems xs2).toList = ns := by rw [← e2]; exact hi.numsOf
      rw [nums_intItems] at hn2
      rw [e2] at pl
      refine PySem.W.ktm_sumG (I.ok.hd hc) pl fun h' tk t' hk => ?_
      rw [preSum_eq, List.take_of_length_le (by simp), hn2]
      exact ⟨.int _, H, I.kept (t' := tk) hk, ⟨_, rfl⟩, gv_int _ g hs⟩
  | _ => cases hg
theorem c_all (hc : X.calm = true) : CallR X (.builtin "all") (rc1 X.K allD) := by
  intro pins s σ H xs us Q I r h
  obtain ⟨x, rfl, F, d, d', hs, hx, hg, g⟩ := h
  cases hx with
  | lst e q =>
    rename_i a xs ds
    have hg : (match bls? ds with | some bs => R.ok (D.bl (bs.all id)) | none => .bad) = .ok d' := hg
    cases hn : bls? ds with
    | none => rw [hn] at hg; cases hg
    | some ns =>
      rw [hn] at hg
      cases hg
      have ei := q.bls hn
      subst ei
      exact cr_all hc pins s σ H _ us Q I r ⟨_, ns, rfl, sqL_of hs e, gv_bl _ g hs⟩
  | _ => cases hg
theorem c_int : CallR X (.type "int") (rc1 X.K intD) := by
  intro pins s σ H xs us Q I r h
  obtain ⟨x, rfl, F, d, d', hs, hx, hg, g⟩ := h
  cases hx with
  | int i =>
    cases hg
    exact call_int1 pins s σ H _ us Q I r (.inl ⟨_, rfl, gv_int _ g hs⟩)
  | bl b =>
    cases hg
    exact call_int1 pins s σ H _ us Q I r (.inr ⟨_, rfl, gv_int _ g hs⟩)
  | _ => cases hg
end
end OC

/-! Part S3e: methods. -/
namespace OC
open PySem PySem.Spec PyProof.Rows L2
def TyD : D → String → Prop
  | .str _, T => T = "str"
  | .lst _, T => T = "list"
  | .tup _, T => T = "tuple"
  | _, _ => False
/-- a method of the datum d with one operand -/
def MRule (X : Cx) (m : Str) (g : D → D → R D) (d : D) : Prop := ∃ T id, PlainAttrs T ∧ Slot T m id ∧ typeOf (.builtin id) = pure (.type "method_descriptor") ∧ TyD d T ∧
  ∀ (pins : List (Addr × Obj)) (s : Shared) (σ : L2.St) (F H : Hp) (x y : V) (v u : Value) (Q : VK) (e d' : D), Inv X pins σ H s → RelV x v → RelV y u → Same F H → Dq X.K F x d → Dq X.K F y e → g d e = .ok d' → Gv X.K F H d' Q →
    wpAny (model X.prog X.w) X.A (call (.builtin id) [v, u]) (EP X pins σ Q) X.xe s
section
variable {X : Cx}
theorem tyD_is {pins : List (Addr × Obj)} {σ : L2.St} {F H : Hp} {s : Shared} {T : String} {x : V} {v : Value} {d : D} (I : Inv X pins σ H s) (hs : Same F H) (r : RelV x v) (q : Dq X.K F x d) (ty : TyD d T) :
    s.TypeIs v T ∧ ∀ a, v = .ref a → ∃ ob, s.heap.get? a = some ob ∧ ob.dict = none := by
  cases q with
  | str z =>
    obtain ⟨t, rfl⟩ := r
    cases (show T = "str" from ty)
    exact ⟨typeIs_str s _ t, fun _ e => nomatch e⟩
  | lst e q =>
    cases r
    cases (show T = "list" from ty)
    obtain ⟨its, _, pl, _⟩ := I.list (sqL_of (K := X.K) hs e)
    refine ⟨pl.isList.typeIs, fun a e => ?_⟩
    cases e
    obtain ⟨o, n, e, c, hd, _⟩ := pl
    exact ⟨o, e, hd⟩
  | tup e od q =>
    cases r
    cases (show T = "tuple" from ty)
    obtain ⟨its, _, pl, _⟩ := I.tuple (sqT_of (K := X.K) hs e)
    refine ⟨pl.typeIs, fun a e2 => ?_⟩
    cases e2
    obtain ⟨e3, _⟩ := I.hok _ _ (hs _ _ e)
    exact ⟨_, e3, od⟩
  | _ => exact False.elim ty
/-! ### count, index -/
theorem room1 {a : List PyData} {b : PyData} (hu : X.A.units + 70 < cLine) (h : b.depth ≤ 60) : X.A.units + 1 + min (PyData.depthAll a) b.depth < cLine := by
  have : min (PyData.depthAll a) b.depth ≤ b.depth := Nat.min_le_right _ _
  omega
theorem m_countT (hu : X.A.units + 70 < cLine) (ds : List D) : MRule X "count" countD (.tup ds) := by
  refine ⟨"tuple", "tuple.count", PySem.F.plainAttrs_tuple, PySem.F.slot_tuple_count, PySem.F.type_tuple_count, rfl, fun pins s σ F H x y v u Q e d' I rx ry hs hx hy hg g => ?_⟩
  obtain ⟨h1, hg⟩ := R.chk_ok_inv (show R.chk _ _ = _ from hg)
  cases hg
  rw [Bool.and_eq_true] at h1
  obtain ⟨bs, rb⟩ := Dq.reads I hs _ _ _ hy ry
  cases hx with
  | tup e1 o1 q =>
    cases rx
    obtain ⟨its, r', pl, hz⟩ := I.tuple (sqT_of (K := X.K) hs e1)
    obtain ⟨as, ra⟩ := Dqs.reads I hs _ _ _ q r'
    have hc : D.cmpbs 59 ds = true := by simpa [D.cmpb] using h1.2
    refine PySem.SeqAt.count_tuple_data pl ra rb (D.plains _) (D.plain _) (room1 hu (by have := D.deep _ _ h1.1; omega)) ⟨.int _, H, I.tok _, ⟨_, rfl⟩, ?_⟩
    rw [countP_py (n := 59) (m := 59) e h1.1 ds hc]
    exact gv_int _ g hs
theorem m_countL (hu : X.A.units + 70 < cLine) (ds : List D) : MRule X "count" countD (.lst ds) := by
  refine ⟨"list", "list.count", PySem.F.plainAttrs_list, PySem.F.slot_list_count, PySem.F.type_list_count, rfl, fun pins s σ F H x y v u Q e d' I rx ry hs hx hy hg g => ?_⟩
  obtain ⟨h1, hg⟩ := R.chk_ok_inv (show R.chk _ _ = _ from hg)
  cases hg
  rw [Bool.and_eq_true] at h1
  obtain ⟨bs, rb⟩ := Dq.reads I hs _ _ _ hy ry
  cases hx with
  | lst e1 q =>
    cases rx
    obtain ⟨its, r', pl, hz⟩ := I.list (sqL_of (K := X.K) hs e1)
    obtain ⟨as, ra⟩ := Dqs.reads I hs _ _ _ q r'
    have hc : D.cmpbs 59 ds = true := by simpa [D.cmpb] using h1.2
    refine PySem.SeqAt.count_list_data pl.isList ra rb (D.plains _) (D.plain _) (room1 hu (by have := D.deep _ _ h1.1; omega)) ⟨.int _, H, I.tok _, ⟨_, rfl⟩, ?_⟩
    rw [countP_py (n := 59) (m := 59) e h1.1 ds hc]
    exact gv_int _ g hs
theorem place_inv {ds : List D} {e d' : D} (h : placeD ds e = .ok d') : ∃ j : Nat, ds.findIdx? (fun z => D.eqv z e) = some j ∧ d' = .int (j : Nat) := by
  unfold placeD at h
  split at h
  · rename_i j hj
    cases h
    exact ⟨j, hj, rfl⟩
  · cases h
theorem m_indexL (hu : X.A.units + 70 < cLine) (ds : List D) : MRule X "index" indexD (.lst ds) := by
  refine ⟨"list", "list.index", PySem.F.plainAttrs_list, PySem.F.slot_list_index, PySem.F.type_list_index, rfl, fun pins s σ F H x y v u Q e d' I rx ry hs hx hy hg g => ?_⟩
  obtain ⟨h1, hg⟩ := R.chk_ok_inv (show R.chk _ _ = _ from hg)
  obtain ⟨j, hj, rfl⟩ := place_inv hg
  rw [Bool.and_eq_true] at h1
  obtain ⟨bs, rb⟩ := Dq.reads I hs _ _ _ hy ry
  cases hx with
  | lst e1 q =>
    cases rx
    obtain ⟨its, r', ⟨⟨cls, dd, data, sls⟩, n, ho, hc2, hdn, hdt⟩, hz⟩ := I.list (sqL_of (K := X.K) hs e1)
    simp only at hc2 hdt
    subst hc2 hdt
    obtain ⟨as, ra⟩ := Dqs.reads I hs _ _ _ q r'
    have hc : D.cmpbs 59 ds = true := by simpa [D.cmpb] using h1.2
    have hp : PySem.SeqAt.dataPlace (D.pys ds) e.py = some j := by
      unfold PySem.SeqAt.dataPlace
      rw [findIdx_py (n := 59) (m := 59) e h1.1 ds hc]
      exact hj
    have ra' : ReadsAll s.heap its.toArray.toList (D.pys ds) as := ra
    obtain ⟨hjs, hit, hno⟩ := PySem.SeqAt.hit_at ra' (D.plains _) hp
    have hl := r'.length
    have hsl := sizeLine_eq
    refine call_meets PySem.F.slot_list_index ⟨_, ho, rfl⟩ PySem.F.entry_list_index (PySem.F.args_list_index_2 _ _)
      (SeqAt.list_indexAt _ its.toArray n dd sls u (fun w => PyData.eqv (SeqAt.readOf s.heap w) e.py) j hjs (by simp at hjs; omega) hit hno) ⟨ho, PySem.SeqAt.items_plain ra' rb (D.plains _) (D.plain _) (room1 hu (by have := D.deep _ _ h1.1; omega)), ?_⟩
    exact ⟨.int (j : Nat), H, I.tok _, ⟨_, rfl⟩, gv_int _ g hs⟩
theorem m_indexT (hu : X.A.units + 70 < cLine) (ds : List D) : MRule X "index" indexD (.tup ds) := by
  refine ⟨"tuple", "tuple.index", PySem.F.plainAttrs_tuple, PySem.F.slot_tuple_index, PySem.F.type_tuple_index, rfl, fun pins s σ F H x y v u Q e d' I rx ry hs hx hy hg g => ?_⟩
  obtain ⟨h1, hg⟩ := R.chk_ok_inv (show R.chk _ _ = _ from hg)
  obtain ⟨j, hj, rfl⟩ := place_inv hg
  rw [Bool.and_eq_true] at h1
  obtain ⟨bs, rb⟩ := Dq.reads I hs _ _ _ hy ry
  cases hx with
  | tup e1 o1 q =>
    cases rx
    obtain ⟨its, r', ⟨⟨cls, dd, data, sls⟩, ho, hc2, n, hdt⟩, hz⟩ := I.tuple (sqT_of (K := X.K) hs e1)
    simp only at hc2 hdt
    subst hc2 hdt
    obtain ⟨as, ra⟩ := Dqs.reads I hs _ _ _ q r'
    have hc : D.cmpbs 59 ds = true := by simpa [D.cmpb] using h1.2
    have hp : PySem.SeqAt.dataPlace (D.pys ds) e.py = some j := by
      unfold PySem.SeqAt.dataPlace
      rw [findIdx_py (n := 59) (m := 59) e h1.1 ds hc]
      exact hj
    have ra' : ReadsAll s.heap its.toArray.toList (D.pys ds) as := ra
    obtain ⟨hjs, hit, hno⟩ := PySem.SeqAt.hit_at ra' (D.plains _) hp
    refine call_meets PySem.F.slot_tuple_index ⟨_, ho, rfl⟩ PySem.F.entry_tuple_index (PySem.F.args_tuple_index_2 _ _)
      (TI.tuple_indexAt _ its.toArray n dd sls u (fun w => PyData.eqv (SeqAt.readOf s.heap w) e.py) j hjs hit hno) ⟨ho, PySem.SeqAt.items_plain ra' rb (D.plains _) (D.plain _) (room1 hu (by have := D.deep _ _ h1.1; omega)), ?_⟩
    exact ⟨.int (j : Nat), H, I.tok _, ⟨_, rfl⟩, gv_int _ g hs⟩
/-! ### join -/
theorem joinS_eq (a : List Nat) : ∀ ts : List (List Nat), Txt.join (toStr a) (ts.map toStr) = toStr (joinS a ts) := by
  intro ts
  unfold Txt.join
  rw [PySem.StrLaws.glued_eq_join]
  induction ts with
  | nil => rfl
  | cons x r ih =>
    cases r with
    | nil => rfl
    | cons y r =>
      have e1 : joinS a (x :: y :: r) = x ++ a ++ joinS a (y :: r) := rfl
      have e2 : Str.join (toStr a) ((x :: y :: r).map toStr) = toStr x ++ toStr a ++ Str.join (toStr a) ((y :: r).map toStr) := rfl
      rw [e1, e2, ih, cat_toStr, cat_toStr]
theorem m_join (z : List Nat) : MRule X "join" joinD (.str z) := by
  refine ⟨"str", "str.join", PySem.F.plainAttrs_str, PySem.F.slot_str_join, PySem.F.type_str_join, rfl, fun pins s σ F H x y v u Q e d' I rx ry hs hx hy hg g => ?_⟩
  cases hx
  cases hy with
  | lst e1 q =>
    rename_i a xs ds
    have hg : (match strs? ds with
      | some ts => R.chk (decide ((ts.map List.length).sum + ts.length * z.length ≤ LIM)) (.ok (D.str (joinS z ts)))
      | none => .bad) = .ok d' := hg
    cases hn : strs? ds with
    | none => rw [hn] at hg; cases hg
    | some ts =>
      rw [hn] at hg
      obtain ⟨h1, hg⟩ := R.chk_ok_inv hg
      cases hg
      have ei := q.strs hn
      subst ei
      have h1 := of_decide_eq_true h1
      refine mt_join pins s σ H _ [_] v [u] Q I rx (.cons ry .nil) ⟨toStr z, a, ts.map toStr, rfl, rfl, .inl (sqL_of hs e1), ?_, ?_⟩
      · rw [List.map_map, List.length_map, len_toStr]
        have e2 : (ts.map ((fun x => x.length) ∘ toStr)) = ts.map List.length := List.map_congr_left fun w _ => len_toStr w
        rw [e2]
        exact h1
      · rw [joinS_eq]
        exact gv_str _ g hs
  | _ => cases hg
end
end OC

/-! Part S3f: count and index of one sign in a text. -/
namespace OC
open PySem PySem.Spec PyProof.Rows L2
open PySem.StrLaws
/-- the places of one sign -/
theorem occ_one (x : Str) (c limit : Nat) : ∀ (n a free : Nat) (acc : Array Nat), free ≤ a → (forIn (List.range' a n) (acc, free) (occBody x ⟨#[c]⟩ x.length limit)).run.fst.toList = acc.toList ++ ((List.range' a n).filter fun i => x.cps.toList[i]? == some c).take (limit - acc.size) := by
  intro n
  induction n with
  | zero => intro a free acc _; simp
  | succ n ih =>
    intro a free acc hf
    rw [List.range'_succ, List.forIn_cons, List.filter_cons]
    unfold occBody
    by_cases hc : x.cps.toList[a]? = some c
    · have h2 := (subAt_one x c a).mpr hc
      have e1 : (x.cps.toList[a]? == some c) = true := by rw [hc]; simp
      rw [if_pos e1]
      by_cases hs : acc.size < limit
      · have c1 : (((acc, free).fst.size < limit ∧ (acc, free).snd ≤ a) ∧ a + (⟨#[c]⟩ : Str).length ≤ x.length) ∧ Builtin.Str.subAt x ⟨#[c]⟩ a = true := ⟨⟨⟨hs, hf⟩, h2.1⟩, h2.2⟩
        rw [if_pos c1]
        show (forIn (List.range' (a + 1) n) (acc.push a, a + 1) (occBody x ⟨#[c]⟩ x.length limit)).run.fst.toList = _
        rw [ih (a + 1) (a + 1) (acc.push a) (Nat.le_refl _), Array.size_push]
        have e2 : limit - acc.size = (limit - (acc.size + 1)) + 1 := by omega
        rw [e2, List.take_succ_cons]
        simp
      · have c1 : ¬ ((((acc, free).fst.size < limit ∧ (acc, free).snd ≤ a) ∧ a + (⟨#[c]⟩ : Str).length ≤ x.length) ∧ Builtin.Str.subAt x ⟨#[c]⟩ a = true) := fun z => hs z.1.1.1
        rw [if_neg c1]
        show (forIn (List.range' (a + 1) n) (acc, free) (occBody x ⟨#[c]⟩ x.length limit)).run.fst.toList = _
        rw [ih (a + 1) free acc (by omega)]
        have e2 : limit - acc.size = 0 := by omega
        rw [e2]
        simp
    · have c2 : ¬ ((((acc, free).fst.size < limit ∧ (acc, free).snd ≤ a) ∧ a + (⟨#[c]⟩ : Str).length ≤ x.length) ∧ Builtin.Str.subAt x ⟨#[c]⟩ a = true) := fun z => hc ((subAt_one x c a).mp ⟨z.1.2, z.2⟩)
      rw [if_neg c2]
      have e1 : ¬ (x.cps.toList[a]? == some c) = true := by simpa using hc
      rw [if_neg e1]
      exact ih (a + 1) free acc (by omega)
theorem filter_count (c : Nat) : ∀ (l : List Nat) (a : Nat), ((List.range' a (l.length + 1)).filter fun i => l[i - a]? == some c).length = l.count c
  | [], a => by simp
  | x :: l, a => by
    rw [List.length_cons, List.range'_succ, List.filter_cons, Nat.sub_self, List.getElem?_cons_zero, List.count_cons]
    have e : ((List.range' (a + 1) (l.length + 1)).filter fun i => (x :: l)[i - a]? == some c) = (List.range' (a + 1) (l.length + 1)).filter fun i => l[i - (a + 1)]? == some c := by
      refine List.filter_congr fun i hi => ?_
      rw [List.mem_range'_1] at hi
      have : i - a = (i - (a + 1)) + 1 := by omega
      rw [this, List.getElem?_cons_succ]
    rw [e]
    by_cases h : x = c
    · subst h
      simp [filter_count x l (a + 1)]
    · have h2 : ¬ ((some x == some c) = true) := by simpa using h
      rw [if_neg h2, filter_count c l (a + 1)]
      have h3 : (x == c) = false := by simpa using h
      rw [h3]
      simp
theorem filter_first (c : Nat) : ∀ (l : List Nat) (a : Nat), l.contains c = true → ∃ r, ((List.range' a (l.length + 1)).filter fun i => l[i - a]? == some c) = (a + l.idxOf c) :: r
  | [], a, h => by simp at h
  | x :: l, a, h => by
    rw [List.length_cons, List.range'_succ, List.filter_cons, Nat.sub_self, List.getElem?_cons_zero]
    have e : ((List.range' (a + 1) (l.length + 1)).filter fun i => (x :: l)[i - a]? == some c) = (List.range' (a + 1) (l.length + 1)).filter fun i => l[i - (a + 1)]? == some c := by
      refine List.filter_congr fun i hi => ?_
      rw [List.mem_range'_1] at hi
      have : i - a = (i - (a + 1)) + 1 := by omega
      rw [this, List.getElem?_cons_succ]
    rw [e]
    by_cases hx : x = c
    · subst hx
      simp
    · have h2 : ¬ ((some x == some c) = true) := by simpa using hx
      rw [if_neg h2]
      have h4 : l.contains c = true := by
        rw [List.contains_cons] at h
        have h3 : (c == x) = false := by simpa using fun z => hx z.symm
        rw [h3, Bool.false_or] at h
        exact h
      obtain ⟨r, hr⟩ := filter_first c l (a + 1) h4
      refine ⟨r, ?_⟩
      rw [hr, List.idxOf_cons]
      have h3 : (x == c) = false := by simpa using hx
      rw [h3]
      simp
      omega
theorem occ_toStr (s : List Nat) (c limit : Nat) : Builtin.Str.occurrences (toStr s) (toStr [c]) 0 (toStr s).length limit = (((List.range' 0 (s.length + 1)).filter fun i => s[i]? == some c)).take limit := by
  rw [occ_eq]
  have h := occ_one (toStr s) c limit (s.length + 1) 0 0 #[] (Nat.le_refl _)
  rw [len_toStr] at h ⊢
  rw [Nat.sub_zero]
  exact h.trans (by simp)
theorem count_toStr (s : List Nat) (c : Nat) : Txt.count (toStr s) (toStr [c]) = (s.count c : Nat) := by
  unfold Txt.count
  rw [occ_toStr, len_toStr]
  have h := filter_count c s 0
  simp only [Nat.sub_zero] at h
  rw [List.length_take, h]
  have : s.count c ≤ s.length := List.count_le_length
  congr 1
  omega
section
variable {X : Cx}
theorem m_countS (z : List Nat) : MRule X "count" countD (.str z) := by
  refine ⟨"str", "str.count", PySem.F.plainAttrs_str, PySem.F.slot_str_count, PySem.F.type_str_count, rfl, fun pins s σ F H x y v u Q e d' I rx ry hs hx hy hg g => ?_⟩
  cases hx
  cases e with
  | str w =>
    have hyi := dq_str hy
    subst hyi
    match w, hg, ry with
    | [c], hg, ry =>
      cases hg
      refine mt_count pins s σ H _ [_] v [u] Q I rx (.cons ry .nil) ⟨_, _, rfl, rfl, ?_⟩
      rw [count_toStr]
      exact gv_int _ g hs
    | [], hg, _ => cases hg
    | _ :: _ :: _, hg, _ => cases hg
  | _ => cases hg
theorem m_indexS (z : List Nat) : MRule X "index" indexD (.str z) := by
  refine ⟨"str", "str.index", PySem.F.plainAttrs_str, PySem.F.slot_str_index, PySem.F.type_str_index, rfl, fun pins s σ F H x y v u Q e d' I rx ry hs hx hy hg g => ?_⟩
  cases hx
  cases e with
  | str w =>
    have hyi := dq_str hy
    subst hyi
    match w, hg, ry with
    | [c], hg, ry =>
      have hg : (if z.contains c = true then R.ok (D.int (z.idxOf c : Nat)) else .bad) = .ok d' := hg
      by_cases hc : z.contains c = true
      · rw [if_pos hc] at hg
        cases hg
        obtain ⟨r, hr⟩ := filter_first c z 0 hc
        simp only [Nat.sub_zero, Nat.zero_add] at hr
        refine mt_sindex pins s σ H _ [_] v [u] Q I rx (.cons ry .nil) ⟨toStr z, toStr [c], z.idxOf c, [], rfl, rfl, ?_, gv_int _ g hs⟩
        rw [occ_toStr, hr]
        simp
      · rw [if_neg hc] at hg
        cases hg
    | [], hg, _ => cases hg
    | _ :: _ :: _, hg, _ => cases hg
  | _ => cases hg
end
end OC

/-! Part S3g: slices with a step, str, upper, split, list(range). -/
namespace OC
open PySem PySem.Spec PyProof.Rows L2
section
variable {prog : Program} {w : World} {A : Around} {E : Value → Shared → Prop} {s : Shared}
theorem adjust_rev (n : Nat) : Builtin.Slice.sliceAdjust none none (-1) (n : Int) = ((n : Int) - 1, -1) := by
  have h1 : ((-1 : Int) < 0) := by omega
  unfold Builtin.Slice.sliceAdjust
  simp only [h1, if_true]
theorem places_rev (n : Nat) : Builtin.Slice.slicePlaces ((n : Int) - 1) (-1) (-1) = n := by
  unfold Builtin.Slice.slicePlaces
  have h1 : ¬ ((-1 : Int) > 0) := by omega
  have e : ((n : Int) - 1 - -1 - 1) / (- -1) = (n : Int) - 1 := by
    rw [show (- -1 : Int) = 1 by decide, Int.ediv_one]
    omega
  simp only [h1, if_false, e]
  split <;> omega
theorem sliceApplied_rev {sl : Addr} {vs : Value} {n : Nat} {Q : Int × Int × Nat → Shared → Prop} (hs : s.heap.IsSliceOf sl .none .none vs) (ps : IsPart vs (some (-1)))
    (h : Q ((n : Int) - 1, -1, n) s) : wpAny (model prog w) A (Builtin.Slice.sliceApplied (.ref sl) (pure (n : Int))) Q E s := by
  obtain ⟨os, hos, hcs, hds⟩ := id hs
  unfold Builtin.Slice.sliceApplied Builtin.Slice.sliceFields
  refine wpAny_bind (wpAny_bind (wpAny_field hos hds (x := .none) rfl (wpAny_bind (wpAny_field hos hds (x := .none) rfl (wpAny_bind (wpAny_field hos hds (x := vs) rfl (wpAny_pure ?_)))))))
  refine wpAny_bind (HT.slicePart_ ps ?_)
  show wpAny _ _ (if ((-1 : Int) == 0) = true then _ else _) _ _ s
  rw [if_neg (by decide)]
  refine wpAny_bind (HT.slicePart_ .none (wpAny_bind (HT.slicePart_ .none (wpAny_bind (wpAny_pure ?_)))))
  show wpAny _ _ (match Builtin.Slice.sliceAdjust none none (-1) (n : Int) with | (lo, hi) => pure (lo, (-1 : Int), Builtin.Slice.slicePlaces lo hi (-1))) _ _ s
  rw [adjust_rev n]
  show wpAny _ _ (pure ((n : Int) - 1, (-1 : Int), Builtin.Slice.slicePlaces ((n : Int) - 1) (-1) (-1))) _ _ s
  rw [places_rev]
  exact wpAny_pure h
theorem pick_revT (xs : Array Value) : ((List.range xs.size).filterMap fun (m : Nat) => xs[((xs.size : Int) - 1 + (m : Int) * (-1)).toNat]?).toArray = xs.toList.reverse.toArray := by
  congr 1
  rw [← PySem.W.krv_all xs, ← List.filterMap_reverse, ← PySem.W.krv_range, List.filterMap_map]
  have key : ∀ l : List Nat, (∀ m ∈ l, m < xs.size) → (l.filterMap fun (m : Nat) => xs[((xs.size : Int) - 1 + (m : Int) * (-1)).toNat]?) = l.filterMap ((fun x => xs[x]?) ∘ fun k => xs.size - 1 - k) := by
    intro l
    induction l with
    | nil => intro _; rfl
    | cons m l ih =>
      intro h
      have hm := h m (.head _)
      rw [List.filterMap_cons, List.filterMap_cons, ih fun k hk => h k (.tail _ hk)]
      have e : ((xs.size : Int) - 1 + (m : Int) * (-1)).toNat = xs.size - 1 - m := by omega
      rw [e]
      rfl
  exact key _ fun m hm => List.mem_range.mp hm
theorem getItem_tuple_rev {t sl : Addr} {items : Array Value} {vs : Value} {Q : Value → Shared → Prop} (ht : IsTup s.heap t items) (hs : s.heap.IsSliceOf sl .none .none vs) (ps : IsPart vs (some (-1)))
    (h : Q (.ref s.heap.objs.size) { s with heap := s.heap.push { cls := .type "tuple", data := .seq items.toList.reverse.toArray } })
    (hsz : items.size ≤ sizeLine) : wpAny (model prog w) A (getItem (.ref t) (.ref sl)) Q E s := by
  have htake : sizeOk (.seq items.toList.reverse.toArray) := by
    show items.toList.reverse.toArray.size ≤ sizeLine
    rw [List.size_toArray, List.length_reverse, Array.length_toList]
    exact hsz
  obtain ⟨os, hos, hcs, hds⟩ := id hs
  have hTs : s.TypeIs (.ref sl) "slice" := ⟨os, hos, hcs⟩
  unfold getItem
  try with_reducible refine wpAny_holding ?_
  first | refine wpAny_bind (wpAny_pure ?_) | skip
  refine wpAny_bind (wpAny_sequenceKey ht.typeIs (by decide) ?_)
  refine wpAny_bind (wpAny_callSpecial?_slot (name := Str.ofString "__getitem__") ht.typeIs PyProof.Rows.slot_tuple_getitem
    (wpAny_call_entry PyProof.Rows.slot_tuple_getitem ht.typeIs entry_tuple_getitem ?_ (args_tuple_getitem _ _)))
  show wpAny _ _ (Builtin.Tuple.tupleItemsOf (.ref t) >>= _) _ _ s
  refine wpAny_bind (tupleItemsOf_ ht ?_)
  refine wpAny_bind (wpAny_typeOf hTs ?_)
  rw [if_pos (by decide)]
  refine wpAny_bind (sliceApplied_rev hs ps ?_)
  have hno : ¬ ((((items.size : Int) - 1) == 0 && (-1 : Int) == 1 && items.size == items.size) = true) := by
    intro q
    rw [Bool.and_eq_true, Bool.and_eq_true] at q
    have := q.1.2
    revert this
    decide
  show wpAny _ _ (if (((items.size : Int) - 1) == 0 && (-1 : Int) == 1 && items.size == items.size) = true then _ else _) _ _ s
  rw [if_neg hno, pick_revT]
  first
    | exact wpAny_bind (m := Builtin.Tuple.tupleExact _) (wpAny_newObj_type (wpAny_pure ⟨_, rfl, wpAny_pure h⟩) htake)
    | exact wpAny_bind (m := Builtin.Tuple.tupleExact _) (wpAny_newObj_type (wpAny_bind (wpAny_pure (wpAny_pure ⟨_, rfl, wpAny_pure h⟩))) htake)
    | exact wpAny_bind (wpAny_bind (m := Builtin.Tuple.tupleExact _) (wpAny_newObj_type (wpAny_pure (wpAny_pure ⟨_, rfl, wpAny_pure h⟩)) htake))
    | exact wpAny_bind (wpAny_bind (m := Builtin.Tuple.tupleExact _) (wpAny_newObj_type (wpAny_pure ⟨_, rfl, wpAny_pure h⟩) htake))
end
section
variable {X : Cx}
theorem rev_toStr (x : List Nat) (u : Tok) : Txt.sliceBy (toStr x) none none (-1, u) = toStr x.reverse := by
  have h := step_rev_list (toStr x) u
  have e : ((List.range (toStr x).length).map fun k => (toStr x).cps.getD ((toStr x).length - 1 - k) 0) = x.reverse := by
    rw [len_toStr]
    apply List.ext_getElem?
    intro i
    rw [List.getElem?_map]
    by_cases hi : i < x.length
    · rw [List.getElem?_range hi, List.getElem?_reverse hi]
      show some ((toStr x).cps.getD _ 0) = _
      have hj : x.length - 1 - i < x.length := by omega
      simp [toStr, Array.getD, hj]
    · rw [List.getElem?_eq_none (by simp; omega), List.getElem?_eq_none (by simp; omega)]
      rfl
  rw [e] at h
  generalize Txt.sliceBy (toStr x) none none (-1, u) = z at h
  obtain ⟨⟨l⟩⟩ := z
  have h : l = x.reverse := h
  rw [h]
/-- x[::-1] -/
theorem pe_revD {Φ : String → List D → R D} {a : E} {e : Expr} {k : Nat} {p1 p2 p3 pos : Pos} (he : PE X e (rdE X.K Φ a)) : PE X (.Subscript e (.Slice none none (some (.UnaryOp .USub (.Constant (.int 1) k p1) p2)) p3) pos) (rdE X.K Φ (.o1 .rev a)) := by
  refine ⟨fun pins s σ H Q I h => ?_⟩
  obtain ⟨F, env, d', k1, k2, k3, k4, g⟩ := h
  rw [ev] at k4
  obtain ⟨d, k5, k6⟩ := R.bind_ok_inv k4
  refine Subscript_ (thn (he.run pins s σ H (fun x H1 => ∃ F1, Ext F H F1 H1 ∧ Dq X.K F1 x d) I ⟨F, env, d, k1, k2, k3, k5, fun v F' H' e1 q1 => ⟨F', e1, q1⟩⟩) fun v s1 ⟨x, H1, I1, r1, F1, e1, q1⟩ => ?_)
  have hst : PO X (some (.UnaryOp .USub (.Constant (.int 1) k p1) p2)) (tPart (tUn (rU fun i => .int (-i)) (tC (.int 1)))) := po_some (pe_un un_neg pe_int)
  refine wpAny_Slice (thn (po_none.run pins s1 σ H1 (fun o H2 => o = none ∧ H2 = H1) I1 ⟨rfl, rfl⟩) fun vl s2 ⟨l, H2, I2, pl, el, e2⟩ => ?_)
  subst el e2
  refine thn (po_none.run pins s2 σ H2 (fun o H3 => o = none ∧ H3 = H2) I2 ⟨rfl, rfl⟩) fun vu s3 ⟨u, H3, I3, pu, eu, e3⟩ => ?_
  subst eu e3
  refine thn (hst.run pins s3 σ H3 (fun o H4 => o = some (-1) ∧ H4 = H3) I3 ⟨1, rfl, -1, rfl, rfl, rfl⟩) fun vs s4 ⟨o, H4, I4, ps, eo, e4⟩ => ?_
  subst eo e4
  have I5 : Inv X pins σ H4 { s4 with heap := s4.heap.push { cls := .type "slice", data := .fields #[vl, vu, vs] } } := I4.kept (t' := s4.toks) fun b ob q => Heap.get?_push_of_some _ q
  have g1 := g.after e1
  have hsub := e1.sub
  show wpAny (model X.prog X.w) X.A (subscriptTail e (.Slice none none (some (.UnaryOp .USub (.Constant (.int 1) k p1) p2)) p3) v (.ref s4.heap.objs.size)) (EP X pins σ Q) X.xe { s4 with heap := s4.heap.push { cls := .type "slice", data := .fields #[vl, vu, vs] } }
  cases q1 with
  | lst e q =>
    cases k6
    cases r1
    obtain ⟨its, r, ht, hz⟩ := I5.list (sqL_of (K := X.K) hsub e)
    have hlen := r.length
    refine tail_any (ops := [.ref _, .ref s4.heap.objs.size]) ht.isList.typeIs (PySem.slot_list_getitem.lookup) ?_ (by with_unfolding_all rfl)
    refine wpAny_getItem_list_slice ht.isList (Heap.IsSliceOf.new _ vl vu vs) pl pu ps (by decide) ?_ (by rw [List.size_toArray]; omega)
    rw [PySem.W.krv_pick]
    refine ⟨.ref _, _, I5.laid (t' := s4.toks) (o := .lst _) (fun b ob q => Heap.get?_push_of_some _ q) (Nat.le_refl _) ?_, rfl, gv_lst _ g1 hsub q.reverse _ (I5.hok.fresh (Nat.le_refl _))⟩
    exact ⟨by rw [List.length_reverse]; exact hz, _, 0, r.reverse, Heap.get?_push_size _ rfl⟩
  | tup e o q =>
    cases k6
    cases r1
    obtain ⟨its, r, ht, hz⟩ := I5.tuple (sqT_of (K := X.K) hsub e)
    have hlen := r.length
    cases pl
    cases pu
    refine tail_any (ops := [.ref _, .ref s4.heap.objs.size]) ht.typeIs (PyProof.Rows.slot_tuple_getitem.lookup) ?_ (by with_unfolding_all rfl)
    refine getItem_tuple_rev ht (Heap.IsSliceOf.new _ _ _ vs) ps ?_ (by rw [List.size_toArray]; omega)
    exact ⟨.ref _, _, Inv_tupF (t' := s4.toks) I5 r.reverse (by rw [List.length_reverse]; exact hz), rfl, gv_tup _ g1 hsub q.reverse _ _ (I5.hok.fresh (Nat.le_refl _)) rfl⟩
  | str z =>
    obtain ⟨h1, k6⟩ := R.chk_ok_inv k6
    cases k6
    have h1 := of_decide_eq_true h1
    obtain ⟨t, rfl⟩ := r1
    cases pl
    cases pu
    obtain ⟨st, rfl, hst2⟩ := IsPart.raw ps
    obtain ⟨c, tc⟩ : ∃ c, st = some ((-1 : Int), c) := by
      cases st with
      | none => cases hst2
      | some p =>
        obtain ⟨p1, p2⟩ := p
        cases hst2
        exact ⟨p2, rfl⟩
    subst tc
    refine tail_any (ops := [.ref s4.heap.objs.size, .str (toStr z) t]) (typeIs_str _ _ _) (PySem.F.slot_str_getitem.lookup) ?_ (by with_unfolding_all rfl)
    refine wpAny_getItem_str_slice (l := none) (u := none) (st := some (-1, c)) ⟨_, Heap.get?_push_size _ rfl, rfl, rfl⟩ (by rfl) ?_
    refine post_val_or_str ⟨?_, fun t' c' => ?_⟩
    · exact Nat.le_trans (Txt.sliceBy_le (toStr z) _ _ (-1, c) (show (-1 : Int) ≠ 0 by decide)) (by rw [len_toStr, ← limEq]; exact h1)
    · have e := rev_toStr z c
      refine ⟨.str (toStr z.reverse), _, I5.tok _, ⟨t', ?_⟩, gv_str _ g1 hsub⟩
      show Value.str (Txt.sliceBy (toStr z) none none (-1, c)) t' = _
      rw [e]
  | _ => cases k6
/-! ### the order of things of one shape -/
mutual
theorem alike_eq : ∀ x y : D, D.alike x y = true → D.eqv x y = true → x = y
  | .int i, y, h, e => by
    cases y with
    | int j => have e : (i == j) = true := e; rw [eq_of_beq e]
    | _ => cases h
  | .str i, y, h, e => by
    cases y with
    | str j => have e : (i == j) = true := e; rw [eq_of_beq e]
    | _ => cases h
  | .tup xs, y, h, e => by
    cases y with
    | tup ys => rw [alikes_eq xs ys h e]
    | _ => cases h
  | .non, y, h, e => by cases y <;> cases h
  | .bl _, y, h, e => by cases y <;> cases h
  | .lst _, y, h, e => by cases y <;> cases h
  | .scr _, y, h, e => by cases y <;> cases h
theorem alikes_eq : ∀ xs ys : List D, D.alikes xs ys = true → D.eqvs xs ys = true → xs = ys
  | [], [], _, _ => rfl
  | [], _ :: _, _, e => by cases e
  | _ :: _, [], _, e => by cases e
  | x :: xs, y :: ys, h, e => by
    rw [D.alikes, Bool.and_eq_true] at h
    rw [D.eqvs, Bool.and_eq_true] at e
    rw [alike_eq x y h.1 e.1, alikes_eq xs ys h.2 e.2]
end
theorem ltStr_lt {a b : List Nat} : ltStr a b = true ↔ a < b := by simp [ltStr]
mutual
theorem lt_irr : ∀ x : D, D.lt x x = false
  | .int i => by simp [D.lt]
  | .str i => by simp [D.lt, ltStr]
  | .tup xs => lts_irr xs
  | .non => rfl
  | .bl _ => rfl
  | .lst _ => rfl
  | .scr _ => rfl
theorem lts_irr : ∀ xs : List D, D.lts xs xs = false
  | [] => rfl
  | x :: xs => by
    rw [D.lts]
    split
    · exact lts_irr xs
    · exact lt_irr x
end
mutual
theorem lt_tri : ∀ x y : D, D.alike x y = true → D.lt x y = false → D.lt y x = false → x = y
  | .int i, y, h, e, f => by
    cases y with
    | int j =>
      simp only [D.lt, decide_eq_false_iff_not] at e f
      have : i = j := by omega
      rw [this]
    | _ => cases h
  | .str i, y, h, e, f => by
    cases y with
    | str j =>
      simp only [D.lt, ltStr, decide_eq_false_iff_not] at e f
      rw [List.le_antisymm (List.not_lt.mp f) (List.not_lt.mp e)]
    | _ => cases h
  | .tup xs, y, h, e, f => by
    cases y with
    | tup ys => rw [lts_tri xs ys h e f]
    | _ => cases h
  | .non, y, h, _, _ => by cases y <;> cases h
  | .bl _, y, h, _, _ => by cases y <;> cases h
  | .lst _, y, h, _, _ => by cases y <;> cases h
  | .scr _, y, h, _, _ => by cases y <;> cases h
theorem lts_tri : ∀ xs ys : List D, D.alikes xs ys = true → D.lts xs ys = false → D.lts ys xs = false → xs = ys
  | [], [], _, _, _ => rfl
  | [], _ :: _, _, e, _ => by cases e
  | _ :: _, [], _, _, f => by cases f
  | x :: xs, y :: ys, h, e, f => by
    rw [D.alikes, Bool.and_eq_true] at h
    rw [D.lts] at e f
    by_cases q : D.eqv x y = true
    · have := alike_eq x y h.1 q
      subst this
      rw [if_pos q] at e f
      rw [lts_tri xs ys h.2 e f]
    · rw [if_neg q] at e
      by_cases q2 : D.eqv y x = true
      · exfalso
        rw [if_pos q2] at f
        have a2 : D.alike y x = true := alike_symm x y h.1
        have := alike_eq y x a2 q2
        subst this
        exact q q2
      · rw [if_neg q2] at f
        have := lt_tri x y h.1 e f
        subst this
        rw [lts_tri xs ys h.2 (lts_of_irr xs ys x h.1 q) (lts_of_irr ys xs x h.1 q)]
theorem lts_of_irr : ∀ (xs ys : List D) (x : D), D.alike x x = true → ¬ D.eqv x x = true → D.lts xs ys = false
  | xs, ys, x, h, q => absurd (alike_refl_eqv x h) q
theorem alike_symm : ∀ x y : D, D.alike x y = true → D.alike y x = true
  | .int _, y, h => by cases y <;> first | (cases h; done) | rfl
  | .str _, y, h => by cases y <;> first | (cases h; done) | rfl
  | .tup xs, y, h => by
    cases y with
    | tup ys => exact alikes_symm xs ys h
    | _ => cases h
  | .non, y, h => by cases y <;> cases h
  | .bl _, y, h => by cases y <;> cases h
  | .lst _, y, h => by cases y <;> cases h
  | .scr _, y, h => by cases y <;> cases h
theorem alikes_symm : ∀ xs ys : List D, D.alikes xs ys = true → D.alikes ys xs = true
  | [], [], _ => rfl
  | [], _ :: _, _ => rfl
  | _ :: _, [], _ => rfl
  | x :: xs, y :: ys, h => by
    rw [D.alikes, Bool.and_eq_true] at h ⊢
    exact ⟨alike_symm x y h.1, alikes_symm xs ys h.2⟩
theorem alike_refl_eqv : ∀ x : D, D.alike x x = true → D.eqv x x = true
  | .int _, _ => by simp [D.eqv]
  | .str _, _ => by simp [D.eqv]
  | .tup xs, h => alikes_refl_eqv xs h
  | .non, h => by cases h
  | .bl _, h => by cases h
  | .lst _, h => by cases h
  | .scr _, h => by cases h
theorem alikes_refl_eqv : ∀ x : List D, D.alikes x x = true → D.eqvs x x = true
  | [], _ => rfl
  | x :: xs, h => by
    rw [D.alikes, Bool.and_eq_true] at h
    rw [D.eqvs, alike_refl_eqv x h.1, alikes_refl_eqv xs h.2]
    rfl
end
mutual
theorem lt_tr : ∀ x y z : D, D.alike x y = true → D.alike y z = true → D.alike x z = true → D.lt x y = true → D.lt y z = true → D.lt x z = true
  | .int i, y, z, h1, h2, h3, e, f => by
    cases y <;> first | (cases h1; done) | skip
    cases z <;> first | (cases h2; done) | skip
    simp only [D.lt, decide_eq_true_eq] at e f ⊢
    omega
  | .str i, y, z, h1, h2, h3, e, f => by
    cases y <;> first | (cases h1; done) | skip
    cases z <;> first | (cases h2; done) | skip
    simp only [D.lt, ltStr, decide_eq_true_eq] at e f ⊢
    exact List.lt_trans e f
  | .tup xs, y, z, h1, h2, h3, e, f => by
    cases y <;> first | (cases h1; done) | skip
    cases z <;> first | (cases h2; done) | skip
    exact lts_tr xs _ _ h1 h2 h3 e f
  | .non, y, _, h, _, _, _, _ => by cases y <;> cases h
  | .bl _, y, _, h, _, _, _, _ => by cases y <;> cases h
  | .lst _, y, _, h, _, _, _, _ => by cases y <;> cases h
  | .scr _, y, _, h, _, _, _, _ => by cases y <;> cases h
theorem lts_tr : ∀ xs ys zs : List D, D.alikes xs ys = true → D.alikes ys zs = true → D.alikes xs zs = true → D.lts xs ys = true → D.lts ys zs = true → D.lts xs zs = true
  | [], [], _, _, _, _, e, _ => by cases e
  | [], _ :: _, [], _, _, _, _, f => by cases f
  | [], _ :: _, _ :: _, _, _, _, _, _ => rfl
  | _ :: _, [], _, _, _, _, e, _ => by cases e
  | _ :: _, _ :: _, [], _, _, _, _, f => by cases f
  | x :: xs, y :: ys, z :: zs, h1, h2, h3, e, f => by
    rw [D.alikes, Bool.and_eq_true] at h1 h2 h3
    rw [D.lts] at e f ⊢
    by_cases q1 : D.eqv x y = true
    · have := alike_eq x y h1.1 q1
      subst this
      rw [if_pos q1] at e
      by_cases q2 : D.eqv x z = true
      · rw [if_pos q2] at f ⊢
        exact lts_tr xs ys zs h1.2 h2.2 h3.2 e f
      · rw [if_neg q2] at f ⊢
        exact f
    · rw [if_neg q1] at e
      by_cases q2 : D.eqv y z = true
      · have := alike_eq y z h2.1 q2
        subst this
        rw [if_neg q1]
        exact e
      · rw [if_neg q2] at f
        have k := lt_tr x y z h1.1 h2.1 h3.1 e f
        by_cases q3 : D.eqv x z = true
        · have := alike_eq x z h3.1 q3
          subst this
          rw [lt_irr] at k
          cases k
        · rw [if_neg q3]
          exact k
end
/-- in what order they come does not matter -/
theorem sortD_perm {es ds : List D} (p : es.Perm ds) (h : OC.alikeAll ds = true) : sortD D.lt es = sortD D.lt ds := by
  have al := alikeAll_of h
  have key : ∀ l : List { x // x ∈ ds }, sortD D.lt (l.map (·.1)) = (l.mergeSort fun a b => !D.lt b.1 a.1).map (·.1) := fun l => by
    rw [sortD]
    refine (List.map_mergeSort (f := fun x : { x // x ∈ ds } => x.1) (r := fun a b => !D.lt b.1 a.1) (s := fun a b => !D.lt b a) ?_).symm
    intro a _ b _
    rfl
  have pv : ∀ (l : List D) (hl : ∀ x ∈ l, x ∈ ds), (l.pmap (fun a h => (⟨a, h⟩ : { x // x ∈ ds })) hl).map (·.1) = l := fun l => by
    induction l with
    | nil => intro _; rfl
    | cons a l ih => intro hl; rw [List.pmap, List.map_cons, ih]
  have m1 : ∀ x ∈ es, x ∈ ds := fun x hx => p.mem_iff.mp hx
  have m2 : ∀ x ∈ ds, x ∈ ds := fun x hx => hx
  have tr : ∀ a b c : { x // x ∈ ds }, (!D.lt b.1 a.1) = true → (!D.lt c.1 b.1) = true → (!D.lt c.1 a.1) = true := by
    intro a b c h1 h2
    simp only [Bool.not_eq_true'] at h1 h2 ⊢
    cases hq : D.lt c.1 a.1 with
    | false => rfl
    | true =>
      cases h3 : D.lt a.1 b.1 with
      | true =>
        have := lt_tr c.1 a.1 b.1 (al _ c.2 _ a.2) (al _ a.2 _ b.2) (al _ c.2 _ b.2) hq h3
        rw [h2] at this; cases this
      | false =>
        have := lt_tri a.1 b.1 (al _ a.2 _ b.2) h3 h1
        rw [← this, hq] at h2
        cases h2
  have tot : ∀ a b : { x // x ∈ ds }, ((!D.lt b.1 a.1) || (!D.lt a.1 b.1)) = true := by
    intro a b
    cases h1 : D.lt b.1 a.1 with
    | false => rfl
    | true =>
      cases h2 : D.lt a.1 b.1 with
      | false => rfl
      | true =>
        have := lt_tr a.1 b.1 a.1 (al _ a.2 _ b.2) (al _ b.2 _ a.2) (al _ a.2 _ a.2) h2 h1
        rw [lt_irr] at this
        cases this
  have main : ∀ l m : List { x // x ∈ ds }, l.Perm m → l.mergeSort (fun a b => !D.lt b.1 a.1) = m.mergeSort fun a b => !D.lt b.1 a.1 := fun l m pm => by
    refine List.Perm.eq_of_pairwise ?_ (List.pairwise_mergeSort tr tot l) (List.pairwise_mergeSort tr tot m) ((List.mergeSort_perm l _).trans (pm.trans (List.mergeSort_perm m _).symm))
    intro a b _ _ h1 h2
    simp only [Bool.not_eq_true'] at h1 h2
    exact Subtype.ext (lt_tri a.1 b.1 (al _ a.2 _ b.2) h2 h1)
  have pm : (es.pmap (fun a h => (⟨a, h⟩ : { x // x ∈ ds })) m1).Perm (ds.pmap (fun a h => (⟨a, h⟩ : { x // x ∈ ds })) m2) := p.pmap _
  have k1 := key (es.pmap (fun a h => (⟨a, h⟩ : { x // x ∈ ds })) m1)
  have k2 := key (ds.pmap (fun a h => (⟨a, h⟩ : { x // x ∈ ds })) m2)
  rw [pv] at k1 k2
  rw [k1, k2, main _ _ pm]
/-! ### sorted of a text -/
theorem signs_each {K : PySem.W.Frag} {F : Hp} (z : List Nat) : ∀ (vs : List Value), vs.length = z.length → (∀ (j : Nat) (v : Value), vs[j]? = some v → SignAt (toStr z) j v) → PySem.W.EachIs (VD K F) vs (z.map fun c => .str [c]) := by
  induction z with
  | nil =>
    intro vs hl _
    cases vs with
    | nil => exact .nil
    | cons _ _ => simp at hl
  | cons c z ih =>
    intro vs hl h
    cases vs with
    | nil => simp at hl
    | cons v vs =>
      refine .cons ?_ (ih vs (by simpa using hl) fun j u hj => ?_)
      · obtain ⟨c', u, hc, rfl⟩ := h 0 v rfl
        have e : c' = c := by
          have : (toStr (c :: z)).cps[0]? = some c := by simp [toStr]
          rw [this] at hc
          cases hc
          rfl
        subst e
        exact ⟨.str (toStr [c']), ⟨u, rfl⟩, .str [c']⟩
      · obtain ⟨c', u', hc, e⟩ := h (j + 1) u (by simpa using hj)
        refine ⟨c', u', ?_, e⟩
        have : (toStr (c :: z)).cps[j + 1]? = (toStr z).cps[j]? := by simp [toStr]
        rw [← this]
        exact hc
/-- list(text): a new list at a free place -/
theorem list_str {pins : List (Addr × Obj)} {s : Shared} {σ : L2.St} {F H : Hp} {z : List Nat} {t : Tok} {Q : VK} (hc : X.calm = true) (I : Inv X pins σ H s) (h1 : z.length ≤ sizeLine) (q : ∀ p xs, H p = none → Dqs X.K F xs (z.map fun c => .str [c]) → Q (.ref p) (upd H p (.lst xs))) :
    wpAny (model X.prog X.w) X.A (call (.type "list") [.str (toStr z) t]) (EP X pins σ Q) X.xe s := by
  have hlen : (toStr z).cps.size = z.length := len_toStr z
  refine call_list_str (I.ok.hd hc) (toStr z) t (fun h' tk acc c k e hi => ?_) (by rw [hlen]; exact h1)
  obtain ⟨xs, r, qs⟩ := of_each (signs_each (K := X.K) (F := F) z acc.toList (by rw [Array.length_toList, hi.1, hlen]) fun j v hj => hi.2 j v (by rw [← Array.getElem?_toList]; exact hj))
  refine ⟨.ref _, _, I.laid (t' := tk) (o := .lst xs) k (Nat.le_refl _) ⟨?_, acc.toList, c, r, ?_⟩, rfl, q _ xs (I.hok.fresh (Nat.le_refl _)) qs⟩
  · rw [qs.length, List.length_map]; exact h1
  · rw [Array.toArray_toList]; exact e
theorem c_list (hc : X.calm = true) : CallR X (.type "list") (rc1 X.K listD) := by
  intro pins s σ H xs us Q I r h
  obtain ⟨x, rfl, F, d, d', hs, hx, hg, g⟩ := h
  cases hx with
  | lst e q =>
    cases hg
    exact call_list_of pins s σ H _ us Q I r ⟨_, _, rfl, .inl (sqL_of hs e), gv_lst _ g hs q⟩
  | tup e o q =>
    cases hg
    exact call_list_of pins s σ H _ us Q I r ⟨_, _, rfl, .inr (sqT_of hs e), gv_lst _ g hs q⟩
  | str z =>
    obtain ⟨h1, hg⟩ := R.chk_ok_inv (show R.chk _ _ = _ from hg)
    cases hg
    obtain ⟨u, rfl, rx⟩ := vals1 r
    obtain ⟨t, rfl⟩ := rx
    exact list_str (F := F) hc I (by rw [← limEq]; exact of_decide_eq_true h1) fun p xs hp qs => gv_lst _ g hs qs p hp
  | _ => cases hg
theorem chs_alike (z : List Nat) : OC.alikeAll (z.map fun c => D.str [c]) = true := by
  simp only [OC.alikeAll, List.all_eq_true, List.mem_map]
  rintro x ⟨a, _, rfl⟩ y ⟨b, _, rfl⟩
  rfl
theorem chs_cmp : ∀ (z : List Nat), D.cmpbs 58 (z.map fun c => D.str [c]) = true
  | [] => rfl
  | c :: z => by simp [D.cmpbs, D.cmpb, chs_cmp z]
theorem chs_sortable (z : List Nat) : sortable (z.map fun c => D.str [c]) = true := by
  simp only [sortable, Bool.or_eq_true, List.all_eq_true, List.mem_map]
  refine .inr ?_
  rintro x ⟨a, _, rfl⟩
  rfl
/-- what sorted does behind the collecting -/
theorem sorted_rest {prog : Program} {w : World} {A : Around} {E : Value → Shared → Prop} {s0 : Shared} {a : Value} {Q : Value → Shared → Prop} (G : List Value → Shared → Prop)
    (hcol : ∀ (Q' : List Value → Shared → Prop) (E' : Value → Shared → Prop), (∀ vs s, G vs s → Q' vs s) → wpAny (model prog w) A.in1 (collect a) Q' E' s0)
    (hG : ∀ vs s, G vs s → vs.length ≤ sizeLine ∧ ∃ κ, PySem.W.SortsAt prog w A.in1.in1 { s with heap := PySem.W.sortingHeap (s.heap.push (seqObj "list" vs.toArray 0)) s.heap.objs.size vs } κ vs ∧
      Q (.ref s.heap.objs.size) { s with heap := sortedHeap (s.heap.push (seqObj "list" vs.toArray 0)) s.heap.objs.size vs (PySem.W.sortVals κ false vs vs).toArray }) :
    wpAny (model prog w) A (call (.builtin "sorted") [a]) Q E s0 := by
  refine call_function_entry_kw kind_sorted plain_sorted entry_sorted (args_sorted1 _) ?_
  unfold Builtin.«sorted»
  refine wpAny_bind (m := checkCount "sorted" 1 1 _) (wpAny_pure ?_)
  refine wpAny_bind (hcol _ _ fun vs s hg => ?_)
  obtain ⟨hL, κ, S, h⟩ := hG vs s hg
  refine wpAny_bind (wpAny_newList ?_ hL)
  refine wpAny_bind (wpAny_holding (wpAny_call_entry_kw slot_list_sort ⟨seqObj "list" vs.toArray 0, Heap.get?_push_size _ rfl, rfl⟩ entry_list_sort ?body (args_list_sort _)))
  case body =>
    show wpAny (model prog w) A.in1.in1 (Builtin.«list.sort» ⟨[.ref s.heap.objs.size], []⟩) _ _ _
    refine wpAny_mono (PySem.W.list_sort_vals (s := { s with heap := s.heap.push (seqObj "list" vs.toArray 0) }) (P := fun f s' => f = .done (.ret .none) ∧ Q (.ref s.heap.objs.size) s') (n := 0) (Heap.get?_push_size _ rfl) S hL ⟨rfl, h⟩) (fun f s' hf => ?_) fun _ _ e => e
    obtain ⟨rfl, hq⟩ := hf
    exact ⟨_, rfl, wpAny_pure ⟨_, rfl, hq⟩⟩
/-- sorted of whatever is collected to things of one shape -/
theorem sorted_of {pins : List (Addr × Obj)} {s : Shared} {σ : L2.St} {F H : Hp} {a : Value} {ds : List D} {Q : VK} (hu : X.A.units + 70 < cLine) (I : Inv X pins σ H s) (hs : Same F H)
    (hcol : ∀ (Q' : List Value → Shared → Prop) (E' : Value → Shared → Prop), (∀ vs h' tk es, (∀ b o, s.heap.get? b = some o → h'.get? b = some o) → es.Perm ds → PySem.W.EachIs (VD X.K F) vs es → Q' vs { s with heap := h', toks := tk }) → wpAny (model X.prog X.w) X.A.in1 (collect a) Q' E' s)
    (h1 : OC.alikeAll ds = true) (h2 : sortable ds = true) (h3 : D.cmpbs 58 ds = true) (hL : ds.length ≤ sizeLine) (hp : ∀ es, es.Perm ds → sortD D.lt es = sortD D.lt ds) (g : Gv X.K F H (.lst (sortD D.lt ds)) Q) :
    wpAny (model X.prog X.w) X.A (call (.builtin "sorted") [a]) (EP X pins σ Q) X.xe s := by
  refine sorted_rest (fun vs s' => ∃ h' tk es, s' = { s with heap := h', toks := tk } ∧ (∀ b o, s.heap.get? b = some o → h'.get? b = some o) ∧ es.Perm ds ∧ PySem.W.EachIs (VD X.K F) vs es) (fun Q' E' hq => hcol Q' E' fun vs h' tk es k p e => hq vs _ ⟨h', tk, es, rfl, k, p, e⟩) fun vs s' hg => ?_
  obtain ⟨h', tk, es, rfl, k, p, e⟩ := hg
  have I' : Inv X pins σ H { s with heap := h', toks := tk } := I.kept k
  have mem : ∀ x, x ∈ es → x ∈ ds := fun x hx => p.mem_iff.mp hx
  have a1 : OC.alikeAll es = true := by
    rw [OC.alikeAll, List.all_eq_true]
    intro x hx
    rw [List.all_eq_true]
    intro y hy
    exact alikeAll_of h1 x (mem x hx) y (mem y hy)
  have a2 : sortable es = true := by
    simp only [sortable, Bool.or_eq_true, List.all_eq_true] at h2 ⊢
    rcases h2 with h2 | h2
    · exact .inl fun x hx => h2 x (mem x hx)
    · exact .inr fun x hx => h2 x (mem x hx)
  have hlen : es.length = ds.length := p.length_eq
  have hvl : vs.length = es.length := e.length
  have hLv : vs.length ≤ sizeLine := by omega
  have er := each_reads I' hs e
  have old : ∀ b o, h'.get? b = some o → (PySem.W.sortingHeap (h'.push (seqObj "list" vs.toArray 0)) h'.objs.size vs).get? b = some o := fun b o hb => PySem.W.sortingHeap_old (Nat.ne_of_lt (Heap.lt_size hb)) (Heap.get?_push_of_some _ hb)
  have er' : PySem.W.EachIs (fun v b => ∃ as, Reads (PySem.W.sortingHeap (h'.push (seqObj "list" vs.toArray 0)) h'.objs.size vs) v (D.py b) as) vs es := er.mono fun _ _ ⟨as, r⟩ => ⟨as, PyProof.Rows.Reads.keeps old r⟩
  refine ⟨hLv, _, PySem.W.SortsAt.data (s := { s with heap := PySem.W.sortingHeap (h'.push (seqObj "list" vs.toArray 0)) h'.objs.size vs, toks := tk }) (PySem.W.each_map (R := fun v d => ∃ as, Reads (PySem.W.sortingHeap (h'.push (seqObj "list" vs.toArray 0)) h'.objs.size vs) v d as) D.py er') (allAlike_py a1) (sortable_py a2) (PySem.W.bound_map (A := X.A.in1.in1) fun b hb => ?_), ?_⟩
  · have := D.deep 58 b (cmpbs_mem h3 b (mem b hb))
    show X.A.units + 1 + 1 + _ < _
    omega
  · have eo := PySem.W.sortVals_data false e er' (allAlike_py a1)
    rw [sortD_py a1, hp es p] at eo
    obtain ⟨ws, r, q⟩ := of_each eo
    have hn : H h'.objs.size = none := I'.hok.fresh (Nat.le_refl _)
    obtain ⟨c, hc⟩ := sortedHeap_at (h := h'.push (seqObj "list" vs.toArray 0)) (a := h'.objs.size) (vs := vs) (n := 0) (out := (PySem.W.sortVals (PySem.W.dataKind (PySem.W.sortingHeap (h'.push (seqObj "list" vs.toArray 0)) h'.objs.size vs) (es.map D.py)) false vs vs).toArray) (Heap.get?_push_size _ rfl)
    have hlw : ws.length ≤ sizeLine := by
      rw [q.length]
      unfold sortD
      rw [List.length_mergeSort]
      exact hL
    refine ⟨.ref _, _, I'.laid (t' := tk) (o := .lst ws) (fun b o e => ?_) (Nat.le_refl _) ⟨hlw, _, c, r, hc⟩, rfl, gv_lst _ g hs q _ hn⟩
    have hb : b < h'.objs.size := Heap.lt_size e
    rw [sortedHeap_old (Nat.ne_of_lt hb) (by rw [size_push']; exact Nat.lt_succ_of_lt hb)]
    exact Heap.get?_push_of_some _ e
theorem c_sortedS (hc : X.calm = true) (hu : X.A.units + 70 < cLine) : CallR X (.builtin "sorted") (rc1 X.K sortedSD) := by
  intro pins s σ H xs us Q I r h
  obtain ⟨x, rfl, F, d, d', hs, hx, hg, g⟩ := h
  obtain ⟨u, rfl, rx⟩ := vals1 r
  cases hx with
  | str z =>
    obtain ⟨h1, hg⟩ := R.chk_ok_inv (show R.chk _ _ = _ from hg)
    cases hg
    have h1 : z.length ≤ sizeLine := by rw [← limEq]; exact of_decide_eq_true h1
    obtain ⟨t, rfl⟩ := rx
    have hlen : (toStr z).cps.size = z.length := len_toStr z
    refine sorted_of hu I hs (ds := z.map fun c => .str [c]) (fun Q' E' hq => wpAny_collect_str (show X.A.in1.handled = none from I.ok.hd hc) (toStr z) t (fun s' acc k e1 e2 e3 hi => ?_) (by rw [hlen]; exact h1)) (chs_alike z) (chs_sortable z) ?_ (by rw [List.length_map]; exact h1) ?_ g
    · have e : s' = { s with heap := s'.heap, toks := s'.toks } := by
        obtain ⟨h', gs, dr, tk, os⟩ := s'
        cases e1
        cases e2
        cases e3
        rfl
      rw [e]
      refine hq _ _ _ _ k (.refl _) (signs_each z _ ?_ fun j v hj => ?_)
      · rw [Array.length_toList, hi.1, hlen]
      · exact hi.2 j v (by rw [← Array.getElem?_toList]; exact hj)
    · exact chs_cmp z
    · exact fun es p => sortD_perm p (chs_alike z)
  | _ => cases hg
end
end OC

/-! Part S3h: str, upper, split, list(range), int of a figure. -/
namespace OC
open PySem PySem.Spec PyProof.Rows L2
section
variable {X : Cx}
theorem str_int (i : Int) : Str.ofString (toString i) = toStr (strOfInt i) := by
  rw [Str.ofString_eq_toList]
  unfold strOfInt figs
  cases i with
  | ofNat m =>
    rw [if_neg (by simp)]
    show (⟨((Nat.repr m).toList.map Char.toNat).toArray⟩ : Str) = _
    rw [Nat.toList_repr]
    rfl
  | negSucc m =>
    rw [if_pos (Int.negSucc_lt_zero m)]
    show (⟨(("-" ++ Nat.repr (m + 1)).toList.map Char.toNat).toArray⟩ : Str) = _
    rw [String.toList_append, Nat.toList_repr, List.map_append]
    rfl
theorem c_str : CallR X (.type "str") (rc1 X.K strD) := by
  intro pins s σ H xs us Q I r h
  obtain ⟨x, rfl, F, d, d', hs, hx, hg, g⟩ := h
  cases hx with
  | int i =>
    obtain ⟨h1, hg⟩ := R.chk_ok_inv (show R.chk _ _ = _ from hg)
    cases hg
    have h1 := of_decide_eq_true h1
    refine call_str_int pins s σ H _ us Q I r ⟨i, rfl, ?_, ?_⟩
    · by_cases h0 : i.natAbs = 0
      · rw [h0]; decide
      · rw [Nat.log2_lt h0]
        exact Nat.lt_of_lt_of_le h1 (Nat.pow_le_pow_right (show 0 < 2 by decide) (show 1900 ≤ 1920 by decide))
    · rw [str_int]
      exact gv_str _ g hs
  | _ => cases hg
theorem upper_toStr {a : List Nat} (h : (a.all fun c => decide (c < 128)) = true) : Txt.upper (toStr a) = toStr (a.map upperC) := by
  have := SX.upper_S (a := a) h
  exact this
theorem splS (c : Nat) : ∀ (l acc : List Nat), TL.spl [c] 0 acc l = match splitS c l with
    | [] => [acc]
    | w :: ws => (acc ++ w) :: ws
  | [], acc => by simp [TL.spl, splitS]
  | x :: l, acc => by
    have ih := fun acc => splS c l acc
    rw [TL.spl, splitS]
    have ep : TL.pre [c] (x :: l) = decide (x = c) := by
      simp [TL.pre]
      by_cases q : x = c <;> simp [q]
    rw [ep]
    by_cases e : x = c
    · subst e
      simp only [decide_true, if_true]
      show acc :: TL.spl [x] 0 [] l = _
      rw [ih []]
      cases hs : splitS x l with
      | nil =>
        exfalso
        revert hs
        cases l with
        | nil => simp [splitS]
        | cons y l =>
          rw [splitS]
          split
          · simp
          · split <;> simp
      | cons w ws => simp
    · simp only [e, decide_false, Bool.false_eq_true, if_false]
      rw [ih (acc ++ [x])]
      cases hs : splitS c l with
      | nil => simp
      | cons w ws => simp
theorem split_toStr (a : List Nat) {c : Nat} (hc : c < 256) : Txt.split (toStr a) (toStr [c]) = (splitS c a).map toStr := by
  have h := SX.split_S (a := a) (b := [c]) (by simp) (by simp [hc])
  refine h.trans ?_
  rw [splS c a []]
  cases hs : splitS c a with
  | nil =>
    exfalso
    revert hs
    cases a with
    | nil => simp [splitS]
    | cons y l =>
      rw [splitS]
      split
      · simp
      · split <;> simp
  | cons w ws => rfl
theorem m_split (z : List Nat) : MRule X "split" splitD (.str z) := by
  refine ⟨"str", "str.split", PySem.F.plainAttrs_str, PySem.F.slot_str_split, PySem.F.type_str_split, rfl, fun pins s σ F H x y v u Q e d' I rx ry hs hx hy hg g => ?_⟩
  cases hx
  cases e with
  | str w =>
    have hyi := dq_str hy
    subst hyi
    match w, hg, ry with
    | [c], hg, ry =>
      obtain ⟨h1, hg⟩ := R.chk_ok_inv (show R.chk _ _ = _ from hg)
      cases hg
      rw [Bool.and_eq_true] at h1
      have h2 := of_decide_eq_true h1.1
      have h3 := of_decide_eq_true h1.2
      refine mt_split pins s σ H _ [_] v [u] Q I rx (.cons ry .nil) ⟨_, _, rfl, rfl, rfl, by rw [len_toStr, ← limEq]; exact h2, ?_⟩
      rw [split_toStr z h3]
      intro p hp
      exact gv_lst _ g hs (dqs_strs _) p hp
    | [], hg, _ => cases hg
    | _ :: _ :: _, hg, _ => cases hg
  | _ => cases hg
theorem c_intS : CallR X (.type "int") (rc1 X.K intSD) := by
  intro pins s σ H xs us Q I r h
  obtain ⟨x, rfl, F, d, d', hs, hx, hg, g⟩ := h
  obtain ⟨u, rfl, rx⟩ := vals1 r
  cases hx with
  | str z =>
    match z, hg, rx with
    | [c], hg, rx =>
      obtain ⟨h1, hg⟩ := R.chk_ok_inv (show R.chk _ _ = _ from hg)
      cases hg
      rw [Bool.and_eq_true] at h1
      have h2 := of_decide_eq_true h1.1
      have h3 := of_decide_eq_true h1.2
      obtain ⟨t, rfl⟩ := rx
      have hn : intText? (toStr [c]) = some ((c - 48 : Nat) : Int) := by
        have := SX.int_S (a := [c]) (by simp [h2, h3]) (by simp) (by simp)
        refine this.trans ?_
        show some (((0 * 10 + (c - 48) : Nat)) : Int) = _
        rw [Nat.zero_mul, Nat.zero_add]
      refine PySem.W.KIN.call_text hn (by rw [len_toStr]; show 1 ≤ 640; decide) ?_
      exact ⟨.int _, H, I.tok _, ⟨_, rfl⟩, gv_int _ g hs⟩
    | [], hg, _ => cases hg
    | _ :: _ :: _, hg, _ => cases hg
  | _ => cases hg
end
end OC

/-! Part S3i: sets of tuples, nested, of whole numbers (the road of HandS.TupSets, over the kit's nested keys). -/
namespace OC
open PySem PySem.Spec PyProof.Rows L2
/-! ### keys of whole numbers alone -/
mutual
def nums : NestedKey → Bool
  | .num _ => true
  | .tup ks => numsAll ks
  | .none => false
  | .text _ => false
def numsAll : List NestedKey → Bool
  | [] => true
  | k :: ks => nums k && numsAll ks
end
/-- the tuple at b is the key k -/
structure IsN (h : Heap) (k : NestedKey) (b : Addr) : Prop where
  is : NestedIs h k (.ref b)
  deep : k.depth ≤ 8
  num : nums k = true
theorem IsN.inj {h : Heap} {k l : NestedKey} {b : Addr} (x : IsN h k b) (y : IsN h l b) : k = l := NestedIs.inj _ _ _ x.is y.is
theorem IsN.at {h h' : Heap} {k : NestedKey} {b : Addr} (x : IsN h k b) (hk : ∀ a o vs n, h.get? a = some o → o.data = .seq vs n → h'.get? a = some o) : IsN h' k b := ⟨NestedIs.at hk _ _ x.is, x.deep, x.num⟩
theorem IsN.keep {h h' : Heap} {k : NestedKey} {b : Addr} (x : IsN h k b) (hk : ∀ c o, h.get? c = some o → h'.get? c = some o) : IsN h' k b := x.at fun a o _ _ e _ => hk a o e
theorem IsN.beside {h h' : Heap} {k : NestedKey} {a b : Addr} {o : Obj} {es : Array (Int × Value)} {ep : Nat} {t : SetTable} (x : IsN h k b) (ho : h.get? a = some o) (hd : o.data = .set es ep t) (hs : Heap.SameBut a h h') : IsN h' k b :=
  x.at fun c o' vs n hc hv => (hs.2 c fun e => by
    subst e
    rw [ho] at hc
    cases hc
    rw [hd] at hv
    cases hv).trans hc
section
variable {P : Program} {w : World} {A : Around} {E : Value → Shared → Prop} {s : Shared}
/-- a question asked of a tuple and of what it holds, again and again: what is not a tuple says c at once, a tuple asks its items -/
theorem each_item {α : Type} {items : Array Value} {f : Value → α → Sem (ForInStep α)} {Q : α → Shared → Prop} {x : α} (ok : ∀ v ∈ items.toList, ∀ (Q' : ForInStep α → Shared → Prop), Q' (.yield x) s → wpAny (model P w) A (f v x) Q' E s) (h : Q x s) : wpAny (model P w) A (forIn items x f) Q E s := by
  rw [← Array.forIn_toList]
  refine wpAny_forIn_list _ (fun rest r s' => r = x ∧ s' = s ∧ ∀ v ∈ rest, v ∈ items.toList) _ ?_ ?_ _ _ ⟨rfl, rfl, fun v hv => hv⟩
  · rintro v rest r s' ⟨rfl, rfl, hall⟩
    exact ok v (hall v List.mem_cons_self) _ ⟨rfl, rfl, fun u hu => hall u (List.mem_cons_of_mem _ hu)⟩
  · rintro r s' ⟨rfl, rfl, _⟩
    exact h
/-- at every world around, the question m ends with x and changes nothing -/
def Says {α : Type} (P : Program) (w : World) (s : Shared) (m : Sem α) (x : α) : Prop := ∀ (A : Around) (E : Value → Shared → Prop) (Q : α → Shared → Prop), Q x s → wpAny (model P w) A m Q E s
theorem class_tup {n : Nat} {a : Addr} {o : Obj} {vs : Array Value} {m : Nat} (ho : s.heap.get? a = some o) (hc : o.cls = .type "tuple") (hd : o.data = .seq vs m) (h : ∀ v ∈ vs.toList, Says P w s (ofAClassStatement n v) false) : Says P w s (ofAClassStatement (n + 1) (.ref a)) false := fun A E Q hq => by
  have hT : s.TypeIs (.ref a) "tuple" := ⟨o, ho, hc⟩
  unfold ofAClassStatement
  refine wpAny_bind (wpAny_typeOf hT ?_)
  dsimp only
  have e : (("tuple" : String) == "tuple") = true := by decide
  simp only [e, if_true, Bool.not_true, Bool.false_eq_true, if_false]
  try refine wpAny_bind (wpAny_pure ?_)
  try simp only [Bool.not_true, Bool.false_eq_true, if_false]
  refine wpAny_bind (wpAny_seqItems ho hd ?_)
  refine wpAny_bind (each_item (fun v hv Q' hq' => wpAny_bind (h v hv _ _ _ ?_)) ?_)
  · simp only [Bool.false_eq_true, if_false]
    exact wpAny_pure hq'
  · exact wpAny_pure hq
theorem hash_tup {n : Nat} {a : Addr} {o : Obj} {vs : Array Value} {m : Nat} (ho : s.heap.get? a = some o) (hc : o.cls = .type "tuple") (hd : o.data = .seq vs m) (h : ∀ v ∈ vs.toList, Says P w s (hashByValue n v) true) : Says P w s (hashByValue (n + 1) (.ref a)) true := fun A E Q hq => by
  have hT : s.TypeIs (.ref a) "tuple" := ⟨o, ho, hc⟩
  unfold hashByValue
  refine wpAny_bind (wpAny_specialOf hT F.slot_tuple_hash.lookup ?_)
  refine wpAny_bind (wpAny_seqItems ho hd ?_)
  refine wpAny_bind (each_item (fun v hv Q' hq' => wpAny_bind (h v hv _ _ _ ?_)) ?_)
  · simp only [Bool.not_true, Bool.false_eq_true, if_false]
    exact wpAny_pure hq'
  · exact wpAny_pure hq
mutual
theorem class_key : ∀ (k : NestedKey) (v : Value) (n : Nat), NestedIs s.heap k v → nums k = true → k.depth ≤ n → Says P w s (ofAClassStatement n v) false
  | .none, _, _, _, hn, _ => by cases hn
  | .text _, _, _, _, hn, _ => by cases hn
  | .num i, v, n, h, _, _ => fun A E Q hq => by
    cases h <;> (cases n <;> exact wpAny_pure hq)
  | .tup ks, v, n, h, hn, hd => by
    cases h with
    | tup h1 h2 h3 h4 =>
      obtain ⟨n, rfl⟩ : ∃ m, n = m + 1 := ⟨n - 1, by rw [NestedKey.depth] at hd; omega⟩
      exact class_tup h1 h2 h3 (class_keys ks _ n h4 hn (by rw [NestedKey.depth] at hd; omega))
theorem class_keys : ∀ (ks : List NestedKey) (vs : List Value) (n : Nat), NestedAll s.heap ks vs → numsAll ks = true → NestedKey.depthAll ks ≤ n → ∀ v ∈ vs, Says P w s (ofAClassStatement n v) false
  | [], _, _, h, _, _, v, hv => by cases h; cases hv
  | k :: ks, _, n, h, hn, hd, v, hv => by
    rw [numsAll, Bool.and_eq_true] at hn
    rw [NestedKey.depthAll] at hd
    cases h with
    | cons h1 h2 =>
      rcases List.mem_cons.mp hv with rfl | hv
      · exact class_key k _ n h1 hn.1 (by omega)
      · exact class_keys ks _ n h2 hn.2 (by omega) v hv
end
mutual
theorem hash_key : ∀ (k : NestedKey) (v : Value) (n : Nat), NestedIs s.heap k v → nums k = true → k.depth ≤ n → Says P w s (hashByValue n v) true
  | .none, _, _, _, hn, _ => by cases hn
  | .text _, _, _, _, hn, _ => by cases hn
  | .num i, v, n, h, _, _ => fun A E Q hq => by
    cases h <;> (cases n <;> exact wpAny_pure hq)
  | .tup ks, v, n, h, hn, hd => by
    cases h with
    | tup h1 h2 h3 h4 =>
      obtain ⟨n, rfl⟩ : ∃ m, n = m + 1 := ⟨n - 1, by rw [NestedKey.depth] at hd; omega⟩
      exact hash_tup h1 h2 h3 (hash_keys ks _ n h4 hn (by rw [NestedKey.depth] at hd; omega))
theorem hash_keys : ∀ (ks : List NestedKey) (vs : List Value) (n : Nat), NestedAll s.heap ks vs → numsAll ks = true → NestedKey.depthAll ks ≤ n → ∀ v ∈ vs, Says P w s (hashByValue n v) true
  | [], _, _, h, _, _, v, hv => by cases h; cases hv
  | k :: ks, _, n, h, hn, hd, v, hv => by
    rw [numsAll, Bool.and_eq_true] at hn
    rw [NestedKey.depthAll] at hd
    cases h with
    | cons h1 h2 =>
      rcases List.mem_cons.mp hv with rfl | hv
      · exact hash_key k _ n h1 hn.1 (by omega)
      · exact hash_keys ks _ n h2 hn.2 (by omega) v hv
end
theorem IsN.cls {k : NestedKey} {b : Addr} (x : IsN s.heap k b) : Says P w s (ofAClassStatement 8 (.ref b)) false := class_key k _ 8 x.is x.num x.deep
theorem IsN.hsh {k : NestedKey} {b : Addr} (x : IsN s.heap k b) : Says P w s (hashByValue 8 (.ref b)) true := hash_key k _ 8 x.is x.num x.deep
theorem IsN.qt {k : NestedKey} {b : Addr} (x : IsN s.heap k b) : Says P w s (eqIsQuiet 8 (.ref b)) true := quiet_key k _ 8 s x.is x.deep
theorem IsN.eqs {k l : NestedKey} {b c : Addr} {Q : Bool → Shared → Prop} (hu : A.units + 8 < cLine) (x : IsN s.heap k b) (y : IsN s.heap l c) (h : Q (decide (k = l)) s) : wpAny (model P w) A (eqBool (.ref b) (.ref c)) Q E s := (nestedKind P w).eqBool hu ⟨x.is, x.deep⟩ ⟨y.is, y.deep⟩ h
theorem IsN.hash {k : NestedKey} {b : Addr} {Q : Int → Shared → Prop} (hu : A.units + 8 < cLine) (x : IsN s.heap k b) (h : Q (k.hash w) { s with toks := s.toks + k.draws }) : wpAny (model P w) A (pyHash (.ref b)) Q E s := (nestedKind P w).pyHash hu ⟨x.is, x.deep⟩ h
/-- a search among such tuples is not seen -/
theorem unseen {k : NestedKey} {b : Addr} (x : IsN s.heap k b) : ∀ {ys : List Value}, (∀ y ∈ ys, ∃ l c, y = Value.ref c ∧ IsN s.heap l c) → Says P w s (searchCouldBeSeen (.ref b) ys) false := fun {ys} hy A E Q hq => by
  unfold searchCouldBeSeen
  refine wpAny_bind ?_
  refine wpAny_forIn_list _ (fun rest r s' => r.1 = none ∧ s' = s ∧ ∀ y ∈ rest, ∃ l c, y = Value.ref c ∧ IsN s.heap l c) _ ?_ ?_ _ _ ⟨rfl, rfl, hy⟩
  · rintro v rest r s' ⟨hr, rfl, hall⟩
    obtain ⟨l, c, rfl, hc⟩ := hall v List.mem_cons_self
    have more : ∀ y ∈ rest, ∃ l c, y = Value.ref c ∧ IsN s'.heap l c := fun u hu' => hall u (List.mem_cons_of_mem _ hu')
    dsimp only
    by_cases hv : (b == c || (carriedByValue (.ref b) && carriedByValue (.ref c))) = true
    · refine wp_if_pos hv ?_
      exact wpAny_pure ⟨rfl, rfl, more⟩
    · refine wp_if_neg hv ?_
      refine wpAny_bind (x.qt _ _ _ ?_)
      simp only [Bool.not_true, Bool.false_eq_true, if_false]
      refine wpAny_bind (hc.qt _ _ _ ?_)
      simp only [Bool.not_true, Bool.false_eq_true, if_false]
      refine wpAny_bind (x.cls _ _ _ ?_)
      simp only [Bool.false_eq_true, if_false]
      refine wpAny_bind (hc.cls _ _ _ ?_)
      simp only [Bool.false_eq_true, if_false]
      exact wpAny_pure ⟨rfl, rfl, more⟩
  · rintro ⟨r1, r2⟩ s' ⟨hr, rfl, _⟩
    simp only at hr
    subst hr
    exact wpAny_pure hq
end
end OC

/-! Part S3j: the set of nested tuples: looking and adding. -/
namespace OC
open PySem PySem.Spec PyProof.Rows L2
abbrev Keyed := List (Addr × NestedKey)
abbrev hsOf (w : World) (L : Keyed) : List Int := L.map fun p => p.2.hash w
abbrev rowsN (w : World) (L : Keyed) : List (Int × Value) := L.map fun p => (p.2.hash w, Value.ref p.1)
/-- the set at a holds the tuples L, in the order of its table -/
structure SetN (w : World) (h : Heap) (a : Addr) (L : Keyed) (es : Array (Int × Value)) (ep : Nat) (t : SetTable) : Prop where
  ob : ∃ o, h.get? a = some o ∧ o.ExactSet ∧ o.data = .set es ep t
  rows : es.toList = rowsN w L
  tab : TabOk t (hsOf w L)
  nd : (L.map (·.2)).Nodup
  tup : ∀ p ∈ L, IsN h p.2 p.1
  plain : t.plain = true
  led : w.params.followText "set-order" = true ∨ t.led = true
  room : L.length * 5 < t.mask * 3
theorem rows_size {w : World} {L : Keyed} {es : Array (Int × Value)} (h : es.toList = rowsN w L) : es.size = L.length := by
  have := congrArg List.length h
  rwa [Array.length_toList, List.length_map] at this
section
variable {P : Program} {w : World} {A : Around} {E : Value → Shared → Prop} {s : Shared} {a : Addr} {L : Keyed} {es : Array (Int × Value)} {ep : Nat} {t : SetTable}
theorem setFits_of (h1 : t.dummies = #[]) (h2 : t.place.size = es.size) (h3 : es.size ≤ t.mask) : t.fits es.size = true := by
  unfold SetTable.fits SetTable.fill
  rw [h1, Bool.and_eq_true, beq_iff_eq, decide_eq_true_eq]
  show t.place.size = es.size ∧ t.place.size + 0 ≤ t.mask
  omega
theorem SetN.size (R : SetN w s.heap a L es ep t) : es.size = L.length := rows_size R.rows
theorem SetN.psz (R : SetN w s.heap a L es ep t) : t.place.size = L.length := by
  have := R.tab.sz
  rwa [List.length_map] at this
theorem SetN.fits (R : SetN w s.heap a L es ep t) : t.fits es.size = true := setFits_of R.tab.dm (by rw [R.psz, R.size]) (by
  have := R.room
  rw [R.size]
  omega)
theorem SetN.entry (R : SetN w s.heap a L es ep t) {i : Nat} {p : Addr × NestedKey} (h : L[i]? = some p) : es[i]? = some (p.2.hash w, Value.ref p.1) := by
  rw [← Array.getElem?_toList, R.rows, List.getElem?_map, h]
  rfl
/-- where the c-th step of the way stands -/
abbrev stand (t : SetTable) (H : Int) (c : Nat) : SetTable.Probe := nth t.mask (t.probeStart H) c
theorem stand_add (t : SetTable) (H : Int) (c q : Nat) : nth t.mask (stand t H c) q = stand t H (c + q) := (nth_add _ _ _ _).symm
theorem stand_clean (t : SetTable) (H : Int) (c : Nat) : (stand t H c).dummy = none := by
  have key : ∀ (n : Nat) (p : SetTable.Probe), p.dummy = none → (nth t.mask p n).dummy = none := fun n => by
    induction n with
    | zero => exact fun p h => h
    | succ n ih => exact fun p h => ih _ (by unfold adv; split <;> exact h)
  exact key c _ rfl
/-- one look: a candidate of this hash ahead of the first empty slot, or that slot -/
theorem one_look (R : SetN w s.heap a L es ep t) {H : Int} {K c : Nat} (hKf : K < 10 * SetTable.turns t.mask) (hK : way t.mask H K ∉ t.place.toList) (hKb : ∀ c, c < K → way t.mask H c ∈ t.place.toList) (hc : c ≤ K) :
    (∃ (d i : Nat) (p : Addr × NestedKey), c ≤ d ∧ d < K ∧ t.place.toList[i]? = some (way t.mask H d) ∧ L[i]? = some p ∧ (∀ (d' i' : Nat) (p' : Addr × NestedKey), c ≤ d' → d' < d → L[i']? = some p' → t.place.toList[i']? = some (way t.mask H d') → p'.2.hash w ≠ H) ∧
      t.probe (fun i => (es[i]?.map (·.1)).getD 0) H (stand t H c) = some (.candidate (way t.mask H d) i (stand t H (d + 1)))) ∨
    ((∀ (d' i' : Nat) (p' : Addr × NestedKey), c ≤ d' → d' < K → L[i']? = some p' → t.place.toList[i']? = some (way t.mask H d') → p'.2.hash w ≠ H) ∧ t.probe (fun i => (es[i]?.map (·.1)).getD 0) H (stand t H c) = some (.empty (way t.mask H K) none)) := by
  have e1 : ∀ q, (nth t.mask (stand t H c) q).j = way t.mask H (c + q) := fun q => congrArg SetTable.Probe.j (stand_add t H c q)
  have hat : ∀ {i : Nat} {p : Addr × NestedKey}, L[i]? = some p → (fun i => (es[i]?.map (·.1)).getD 0) i = p.2.hash w := fun {i p} hp => by
    show (es[i]?.map (·.1)).getD 0 = _
    rw [R.entry hp]
    rfl
  rcases go_spec t R.tab.ris R.tab.dm (fun i => (es[i]?.map (·.1)).getD 0) H (10 * SetTable.turns t.mask) (K - c) (stand t H c) (stand_clean t H c) (by omega) (fun q hq => by rw [e1]; exact hKb _ (by omega)) (by rw [e1, show c + (K - c) = K by omega]; exact hK) with ⟨q, i, hq, hi, _, hno, hpr⟩ | ⟨hno, hpr⟩
  · refine .inl ⟨c + q, i, ?_⟩
    rw [e1] at hi
    have hil : i < L.length := by
      have := (List.getElem?_eq_some_iff.mp hi).1
      rw [Array.length_toList, R.psz] at this
      exact this
    refine ⟨L[i], by omega, by omega, hi, List.getElem?_eq_getElem hil, fun d' i' p' h1 h2 h3 h4 h5 => ?_, ?_⟩
    · refine hno (d' - c) i' (by omega) (by rw [e1, show c + (d' - c) = d' by omega]; exact h4) ?_
      exact (hat h3).trans h5
    · rw [← e1, show c + q + 1 = c + (q + 1) by omega, ← stand_add]
      exact hpr
  · refine .inr ⟨fun d' i' p' h1 h2 h3 h4 h5 => ?_, ?_⟩
    · refine hno (d' - c) i' (by omega) (by rw [e1, show c + (d' - c) = d' by omega]; exact h4) ?_
      exact (hat h3).trans h5
    · have e2 : way t.mask H K = (nth t.mask (stand t H c) (K - c)).j := by rw [e1, show c + (K - c) = K by omega]
      rw [e2]
      exact hpr
theorem not_way (R : SetN w s.heap a L es ep t) : ¬ t.gaveWay = true := by
  unfold SetTable.gaveWay
  rw [mask_odd R.tab.mok]
  decide
/-- looking, from the c-th step of the way on -/
theorem look_on (R : SetN w s.heap a L es ep t) {x : Addr} {k : NestedKey} (hx : IsN s.heap k x) (hu : A.units + 8 < cLine) {K : Nat} (hKf : K < 10 * SetTable.turns t.mask) (hK : way t.mask (k.hash w) K ∉ t.place.toList) (hKb : ∀ c, c < K → way t.mask (k.hash w) c ∈ t.place.toList)
    {Q : SetFound → Shared → Prop} (hin : k ∈ L.map (·.2) → Q (.there none) s) (hout : k ∉ L.map (·.2) → Q (.free (way t.mask (k.hash w) K) false) s) :
    ∀ (f c : Nat) (sd : Option SetTable.Probe), sd.getD (t.probeStart (k.hash w)) = stand t (k.hash w) c → c ≤ K → K - c < f →
      (∀ (i : Nat) (p : Addr × NestedKey), L[i]? = some p → p.2 = k → ∃ d, c ≤ d ∧ d < K ∧ t.place.toList[i]? = some (way t.mask (k.hash w) d)) → wpAny (model P w) A (setSearchFrom a (.ref x) (k.hash w) true f sd) Q E s := by
  intro f
  induction f with
  | zero => intro c sd _ _ hf; exact absurd hf (Nat.not_lt_zero _)
  | succ f ih =>
    intro c sd hst hc hf hre
    obtain ⟨o, ho, hex, hd⟩ := R.ob
    rw [setSearchFrom_succ]
    refine wpAny_bind (wpAny_setState_of ho hd R.fits ?_)
    dsimp only
    refine wp_if_neg (not_way R) ?_
    try refine wpAny_bind (wpAny_pure ?_)
    rw [hst]
    rcases one_look R hKf hK hKb hc with ⟨d, i, p, h1, h2, hi, hp, hno, hpr⟩ | ⟨hno, hpr⟩
    · rw [hpr]
      dsimp only
      have hmem : p ∈ L := List.mem_of_getElem? hp
      have rest : wpAny (model P w) A (searchRest a (.ref x) (k.hash w) true f es t (way t.mask (k.hash w) d) i (stand t (k.hash w) (d + 1))) Q E s := by
        unfold searchRest
        rw [R.entry hp]
        dsimp only
        refine wpAny_bind (wpAny_holding (IsN.eqs hu (R.tup p hmem) hx ?_))
        refine wpAny_bind (wpAny_setState_of ho hd R.fits ?_)
        dsimp only
        by_cases hkk : p.2 = k
        · exact wp_if_pos (by simp [hkk]) (wpAny_pure (hin (List.mem_map.mpr ⟨p, hmem, hkk⟩)))
        · refine wp_if_neg (by simp [hkk]) ?_
          try refine wpAny_bind (wpAny_pure ?_)
          rw [sameMem]
          dsimp only
          have hsl : t.slot (way t.mask (k.hash w) d) = .live i := slot_live R.tab.ris hi
          simp only [if_true, hsl, R.entry hp]
          refine wpAny_bind (wpAny_isSame_ref_self (wpAny_bind (wpAny_pure ?_)))
          simp only [if_true]
          refine wp_if_neg (by simp [hkk]) ?_
          refine ih (d + 1) _ rfl (by omega) (by omega) fun j q hj hq => ?_
          obtain ⟨d2, b1, b2, b3⟩ := hre j q hj hq
          refine ⟨d2, ?_, b2, b3⟩
          rcases Nat.lt_trichotomy d2 d with z | z | z
          · exact absurd (congrArg (NestedKey.hash w) hq) (hno d2 j q b1 z hj b3)
          · subst z
            have s0 := slot_live R.tab.ris b3
            rw [hsl] at s0
            injection s0 with s0
            rw [← s0, hp] at hj
            exact absurd ((congrArg Prod.snd (Option.some.inj hj)).trans hq) hkk
          · omega
      by_cases hl : t.led = true
      · refine wp_if_neg (by simp [hl]) ?_
        try refine wpAny_bind (wpAny_pure ?_)
        exact rest
      · refine wp_if_pos (by simp [hl]) ?_
        refine wpAny_bind (unseen hx (fun y hy => ?_) _ _ _ ?_)
        · obtain ⟨e, he, rfl⟩ := List.mem_map.mp hy
          have he2 : e ∈ es.toList := by
            have : e ∈ es ∧ e.1 = k.hash w := by simpa using he
            simpa using this.1
          rw [R.rows] at he2
          obtain ⟨q, hq, rfl⟩ := List.mem_map.mp he2
          exact ⟨q.2, q.1, rfl, R.tup q hq⟩
        · refine wp_if_neg (by decide) ?_
          try refine wpAny_bind (wpAny_pure ?_)
          exact rest
    · rw [hpr]
      dsimp only
      refine wpAny_pure (hout fun hm => ?_)
      obtain ⟨q, hq, hk⟩ := List.mem_map.mp hm
      obtain ⟨j, hj, e⟩ := List.getElem_of_mem hq
      have hjj : L[j]? = some q := by rw [List.getElem?_eq_getElem hj, e]
      obtain ⟨d, b1, b2, b3⟩ := hre j q hjj hk
      exact hno d j q b1 b2 hjj b3 (congrArg (NestedKey.hash w) hk)
/-- looking, as adding asks for it -/
theorem look_at (R : SetN w s.heap a L es ep t) {x : Addr} {k : NestedKey} (hx : IsN s.heap k x) (hu : A.units + 8 < cLine) {Q : SetFound → Shared → Prop} (hin : k ∈ L.map (·.2) → Q (.there none) s)
    (hout : ∀ K, k ∉ L.map (·.2) → way t.mask (k.hash w) K ∉ t.place.toList → (∀ c, c < K → way t.mask (k.hash w) c ∈ t.place.toList) → Q (.free (way t.mask (k.hash w) K) false) s) :
    wpAny (model P w) A (setSearch a (.ref x) (k.hash w) true) Q E s := by
  have hroom := R.room
  obtain ⟨K, hKf, hK, hKb⟩ := R.tab.first (by rw [List.length_map]; omega) (k.hash w)
  have hbig : 10 * SetTable.turns t.mask ≤ 1420 := by
    unfold SetTable.turns
    rcases R.tab.mok with e | e | e <;> omega
  unfold setSearch
  refine look_on R hx hu hKf hK hKb hin (fun hn => hout K hn hK hKb) 100000 0 none rfl (Nat.zero_le _) (by omega) fun i p hp hk => ?_
  have hil : i < t.place.toList.length := by
    have := (List.getElem?_eq_some_iff.mp hp).1
    rw [Array.length_toList, R.psz]
    exact this
  have hj := List.getElem?_eq_getElem hil
  obtain ⟨c, hc, e⟩ := R.tab.before hK (show (hsOf w L)[i]? = some (k.hash w) by rw [List.getElem?_map, hp, ← hk]; rfl) hj
  exact ⟨c, Nat.zero_le _, hc, by rw [hj, e]⟩
end
end OC

/-! Part S3k: the set of nested tuples: the table laid anew; adding. -/
namespace OC
open PySem PySem.Spec PyProof.Rows L2
theorem rows_at {w : World} {L : Keyed} {es : Array (Int × Value)} (h : es.toList = rowsN w L) (i : Nat) : es[i]? = (L[i]?).map fun p => (p.2.hash w, Value.ref p.1) := by
  rw [← Array.getElem?_toList, h, List.getElem?_map]
theorem range_all {α : Type} (L : List α) : (List.range L.length).filterMap (fun i => L[i]?) = L := by
  have key : ∀ (n : Nat), n ≤ L.length → (List.range n).filterMap (fun i => L[i]?) = L.take n := fun n => by
    induction n with
    | zero => intro _; rfl
    | succ n ih =>
      intro hn
      rw [List.range_succ, List.filterMap_append, ih (by omega), List.take_succ, List.getElem?_eq_getElem (show n < L.length by omega)]
      simp [List.getElem?_eq_getElem (show n < L.length by omega)]
  rw [key _ (Nat.le_refl _), List.take_length]
theorem laid_order {w : World} {L : Keyed} {es : Array (Int × Value)} {order : Array Nat} (hr : es.toList = rowsN w L) (hp : order.toList.Perm (List.range L.length)) :
    ∃ L2, (order.filterMap (es[·]?)).toList = rowsN w L2 ∧ L2.Perm L ∧ hsOf w L2 = order.toList.map fun i => (es.map (·.1)).getD i 0 := by
  refine ⟨order.toList.filterMap fun i => L[i]?, ?_, ?_, ?_⟩
  · rw [Array.toList_filterMap, rowsN, List.map_filterMap]
    congr 1
    funext i
    exact rows_at hr i
  · have := hp.filterMap fun i => L[i]?
    rwa [range_all] at this
  · rw [hsOf, List.map_filterMap, ← List.filterMap_eq_map]
    have key : ∀ l : List Nat, (∀ i ∈ l, i < L.length) → l.filterMap (fun i => Option.map (fun p => NestedKey.hash w p.2) L[i]?) = l.filterMap (some ∘ fun i => (es.map (·.1)).getD i 0) := fun l => by
      induction l with
      | nil => intro _; rfl
      | cons i l ih =>
        intro hl
        have hi := hl i (.head _)
        have e := rows_at hr i
        rw [List.getElem?_eq_getElem hi] at e
        rw [List.filterMap_cons, List.filterMap_cons, ih fun j hj => hl j (.tail _ hj), List.getElem?_eq_getElem hi]
        have e4 : (es.map (·.1)).getD i 0 = (L[i]).2.hash w := by
          have e5 : (es.map (·.1))[i]? = some ((L[i]).2.hash w) := by rw [Array.getElem?_map, e]; rfl
          simp [Array.getD_eq_getD_getElem?, e5]
        simp only [Option.map_some, Function.comp_apply, e4]
    exact key _ fun i hi => List.mem_range.mp (hp.mem_iff.mp hi)
section
variable {P : Program} {w : World} {A : Around} {E : Value → Shared → Prop} {s : Shared} {a : Addr} {L : Keyed} {es : Array (Int × Value)} {ep : Nat} {t : SetTable}
/-- the table laid anew, larger -/
theorem laid_anew {o : Obj} (ho : s.heap.get? a = some o) (hex : o.ExactSet) (hd : o.data = .set es ep t) (hrows : es.toList = rowsN w L) (hsz : t.place.size = es.size) (hdm : t.dummies = #[]) (hfl : es.size ≤ t.mask)
    (nd : (L.map (·.2)).Nodup) (tup : ∀ p ∈ L, IsN s.heap p.2 p.1) (pl : t.plain = true) (ld : w.params.followText "set-order" = true ∨ t.led = true) {wanted M : Nat}
    (hw : SetTable.sizeAbove wanted - 1 = M) (hM : MaskOk M) (hw2 : SetTable.sizeAbove wanted ≤ 128) (hn : L.length * 5 < M * 3) {Q : Unit → Shared → Prop}
    (hQ : ∀ h' L' es' ep' t', Heap.SameBut a s.heap h' → SetN w h' a L' es' ep' t' → L'.Perm L → Q () { s with heap := h' }) : wpAny (model P w) A (setRelay a wanted) Q E s := by
  have hsl := rows_size hrows
  have hMb : M ≤ 127 := by rcases hM with e | e | e <;> omega
  obtain ⟨t', order, e, hp, T, em, el, epl, ed⟩ := relaid_ok t (hs := es.map (·.1)) (wanted := wanted) hw hM (by rw [Array.size_map, hsl]; omega)
  rw [Array.size_map, hsl] at hp
  obtain ⟨L2, r1, r2, r3⟩ := laid_order hrows hp
  rw [← r3] at T
  have hs2 : (order.filterMap (es[·]?)).size = es.size := by rw [rows_size r1, r2.length_eq, hsl]
  rw [setRelay_eq]
  refine wpAny_bind (wpAny_setState_of ho hd (setFits_of hdm hsz hfl) ?_)
  dsimp only
  refine wp_if_neg (by rw [sizeLine_eq]; omega) ?_
  try refine wpAny_bind (wpAny_pure ?_)
  rw [e]
  dsimp only
  refine wpAny_bind ?_
  refine wp_if_neg (by rw [hs2]; simp) ?_
  try refine wpAny_bind (wpAny_pure ?_)
  refine wpAny_pure ?_
  dsimp only
  refine wpAny_storeSet_of ho hd ?_ (by rw [hs2, hsl, sizeLine_eq]; omega)
  have sb : Heap.SameBut a s.heap (s.heap.update a (Obj.putSet (order.filterMap (es[·]?)) t')) := Heap.SameBut.update ..
  refine hQ _ L2 (order.filterMap (es[·]?)) (ep + 1) t' sb ⟨⟨_, store_at ho hd, ⟨hex.1, hex.2.1, hex.2.2⟩, rfl⟩, r1, T, (r2.map (·.2)).nodup_iff.mpr nd, fun p hpm => (tup p (r2.mem_iff.mp hpm)).beside ho hd sb, by rw [epl]; exact pl, by rw [el]; exact ld, ?_⟩ r2
  rw [r2.length_eq, em]
  exact hn
/-- how a full table grows -/
theorem grows {m n : Nat} (hm : MaskOk m) (h1 : n * 5 < m * 3) (h2 : m * 3 ≤ (n + 1) * 5) (hf : n + 1 < 64) : n + 1 ≤ m ∧ ∃ M, SetTable.sizeAbove (SetTable.grown (n + 1)) - 1 = M ∧ MaskOk M ∧ SetTable.sizeAbove (SetTable.grown (n + 1)) ≤ 128 ∧ (n + 1) * 5 < M * 3 := by
  rcases hm with e | e | e
  · obtain rfl : n = 4 := by omega
    exact ⟨by omega, 31, by rw [size_20], .inr (.inl rfl), by rw [size_20]; decide, by omega⟩
  · obtain rfl : n = 18 := by omega
    exact ⟨by omega, 127, by rw [size_76], .inr (.inr rfl), by rw [size_76]; decide, by omega⟩
  · omega
/-- adding -/
theorem add_n (R : SetN w s.heap a L es ep t) {x : Addr} {k : NestedKey} (hx : IsN s.heap k x) (hu : A.units + 8 < cLine) (hfew : k ∉ L.map (·.2) → L.length + 1 < 64) {Q : Bool → Shared → Prop}
    (hQ : ∀ b h' L' es' ep' t', Heap.SameBut a s.heap h' → SetN w h' a L' es' ep' t' → (k ∈ L.map (·.2) → L' = L) → (k ∉ L.map (·.2) → L'.Perm ((x, k) :: L)) → Q b { s with heap := h' }) :
    wpAny (model P w) A (setAddHashed a (.ref x) (k.hash w)) Q E s := by
  obtain ⟨o, ho, hex, hd⟩ := R.ob
  have hsl := R.size
  have hroom := R.room
  unfold setAddHashed
  refine wpAny_holding ?_
  rw [show (100000 : Nat) = 99999 + 1 from rfl, setAddHashedIn_succ]
  refine wpAny_bind (wpAny_setState_of ho hd R.fits ?_)
  dsimp only
  refine wp_if_neg (by simp [byScan, Value.scannable]) ?_
  try refine wpAny_bind (wpAny_pure ?_)
  refine wpAny_bind (look_at R hx hu (fun hm => ?_) fun K hm hK hb => ?_)
  · dsimp only
    exact wpAny_pure (hQ false s.heap L es ep t (Heap.SameBut.refl a s.heap) R (fun _ => rfl) fun z => absurd hm z)
  · have hfew := hfew hm
    dsimp only
    refine wpAny_bind (wpAny_setState_of ho hd R.fits ?_)
    dsimp only
    obtain ⟨q1, q2, q3, q4, q5, q6, q7, q8, q9⟩ := R.tab.put hK hb
    have hp1 : (t.put (way t.mask (k.hash w) K)).1.plain = true := by rw [q6]; exact R.plain
    generalize t.put (way t.mask (k.hash w) K) = pt at q1 q3 q4 q5 q6 q7 q8 q9 hp1 ⊢
    obtain ⟨t1, p⟩ := pt
    dsimp only at q1 q3 q4 q5 q6 q7 q8 q9 hp1 ⊢
    subst q1
    first
      | (refine wpAny_bind ?_; refine wp_if_pos hp1 ?_; refine hx.hsh _ _ _ ?_)
      | refine wp_if_pos hp1 (wpAny_bind (hx.hsh _ _ _ ?_))
    simp only [if_true]
    generalize SetTable.below t.place (way t.mask (k.hash w) K) = p at q2 q3 ⊢
    obtain ⟨L1, hL1⟩ : ∃ L1, L.take p ++ (x, k) :: L.drop p = L1 := ⟨_, rfl⟩
    have pm : L1.Perm ((x, k) :: L) := by rw [← hL1]; exact put_perm L p (x, k)
    have hin : (SetTable.insertAt es p (k.hash w, Value.ref x)).toList = rowsN w L1 := by
      rw [SetTable.toList_insertAt, R.rows, ← hL1, rowsN, rowsN, List.map_append, List.map_cons, List.map_take, List.map_drop]
    have hhs : (hsOf w L).take p ++ k.hash w :: (hsOf w L).drop p = hsOf w L1 := by
      rw [← hL1, hsOf, hsOf, List.map_append, List.map_cons, List.map_take, List.map_drop]
    rw [hhs] at q3
    have hlen : L1.length = L.length + 1 := pm.length_eq
    have nd1 : (L1.map (·.2)).Nodup := (pm.map (·.2)).nodup_iff.mpr (List.nodup_cons.mpr ⟨hm, R.nd⟩)
    have hes : (SetTable.insertAt es p (k.hash w, Value.ref x)).size = L.length + 1 := by rw [rows_size hin, hlen]
    generalize SetTable.insertAt es p (k.hash w, Value.ref x) = es1 at hin hes ⊢
    refine wpAny_bind (wpAny_storeSet_of ho hd ?_ (by rw [hes, sizeLine_eq]; omega))
    have sb : Heap.SameBut a s.heap (s.heap.update a (Obj.putSet es1 t1)) := Heap.SameBut.update ..
    have ho1 := store_at (es' := es1) (t' := t1) ho hd
    generalize s.heap.update a (Obj.putSet es1 t1) = h1 at sb ho1 ⊢
    have tup1 : ∀ p ∈ L1, IsN h1 p.2 p.1 := fun p hp => by
      rcases List.mem_cons.mp (pm.mem_iff.mp hp) with e | hp
      · rw [e]; exact hx.beside ho hd sb
      · exact (R.tup p hp).beside ho hd sb
    have ld1 : w.params.followText "set-order" = true ∨ t1.led = true := by rw [q5]; exact R.led
    by_cases hf : t1.tooFull = true
    · first
        | (refine wpAny_bind ?_; refine wp_if_pos (by simp [hf]) ?_)
        | (refine wp_if_pos (by simp [hf]) ?_; refine wpAny_bind ?_)
      have hfull : t1.mask * 3 ≤ (L.length + 1) * 5 := by
        unfold SetTable.tooFull at hf
        rwa [decide_eq_true_eq, q9, List.length_map] at hf
      rw [hsl]
      have hsz1 : t1.place.size = es1.size := by
        have h := q3.sz
        rw [List.length_map, hlen] at h
        rw [h, hes]
      rw [q4] at hfull
      obtain ⟨g1, M, g2, g3, g4, g5⟩ := grows R.tab.mok hroom hfull hfew
      refine laid_anew (s := { s with heap := h1 }) ho1 ⟨hex.1, hex.2.1, hex.2.2⟩ rfl hin hsz1 q3.dm (by rw [hes, q4]; exact g1) nd1 tup1 hp1 ld1 g2 g3 g4 (by rw [hlen]; exact g5) ?_
      intro h2 L2 es2 ep2 t2 sb2 R2 pm2
      exact wpAny_pure (hQ true h2 L2 es2 ep2 t2 (sb.trans sb2) R2 (fun z => absurd z hm) fun _ => pm2.trans pm)
    · first
        | refine wp_if_neg (by simp [hf]) ?_
        | (refine wpAny_bind ?_; refine wp_if_neg (by simp [hf]) ?_; refine wpAny_pure ?_)
      refine wpAny_pure (hQ true h1 L1 es1 (ep + 1) t1 sb ⟨⟨_, ho1, ⟨hex.1, hex.2.1, hex.2.2⟩, rfl⟩, hin, q3, nd1, tup1, hp1, ld1, ?_⟩ (fun z => absurd z hm) fun _ => pm)
      unfold SetTable.tooFull at hf
      rw [decide_eq_true_eq, q9, List.length_map] at hf
      rw [hlen]
      omega
end
end OC

/-! Part S3l: set(list), set(tuple). -/
namespace OC
open PySem PySem.Spec PyProof.Rows L2
abbrev newSet (w : World) : Obj := { cls := .type "set", dict := none, data := .set #[] 0 (.fresh 0 0 (!w.params.followText "set-order")) }
section
variable {P : Program} {w : World} {A : Around} {E : Value → Shared → Prop} {s : Shared}
/-- set(v): a new set, then what its __init__ does -/
theorem set_made {v : Value} {G : Heap → Nat → Prop} {Q : Value → Shared → Prop} (h0 : ∀ E', wpAny (model P w) A.in1.in1 (Builtin.«set.__init__» ⟨[.ref s.heap.objs.size, v], []⟩) (fun f s2 => f = .done (.ret .none) ∧ ∃ h' tk, s2 = { s with heap := h', toks := tk } ∧ G h' tk) E' { s with heap := s.heap.push (newSet w) }) (h : ∀ h' tk, G h' tk → Q (.ref s.heap.objs.size) { s with heap := h', toks := tk }) :
    wpAny (model P w) A (call (.type "set") [v]) Q E s := by
  obtain ⟨c, tl, hmro⟩ := F.called_set.mro
  have hmade := F.called_set.made
  have hsub := F.called_set.sub
  refine wpAny_call (codeAny_of_tree ?_)
  show wpAny _ _ (callAny (.type "set") _) _ _ _
  refine wpAny_pure ⟨Code.quiet_builtin _ (by decide +kernel), codeAny_builtin F.entry_type_call ?_⟩
  rw [Around.under_plain (weight_type_call_type "set" [v] []) rfl]
  have h1 := F.called_set.notType
  have h2 := F.called_set.canCreate
  have hct := F.typeCall_set_1 v
  repeat (any_goals (first | assumption | wp_step))
  refine codeAny_mono (code_set_led1 v (E := E) (Q₁ := fun obj s₁ => obj = .ref s.heap.objs.size ∧ s₁ = { s with heap := s.heap.push (newSet w) }) ⟨rfl, rfl⟩) fun r s₁ hr => ?_
  cases r with
  | error e => exact hr
  | ok fl =>
    cases fl with
    | ret obj =>
      obtain ⟨rfl, rfl⟩ := hr
      have hS : (s.heap.push (newSet w)).get? s.heap.objs.size = some (newSet w) := Heap.get?_push_size _ rfl
      have hT : Shared.TypeIs { s with heap := s.heap.push (newSet w) } (.ref s.heap.objs.size) "set" := ⟨_, hS, rfl⟩
      have hli := F.called_set.init.lookup
      have hbi := F.called_set.init.bind (.ref s.heap.objs.size)
      repeat (any_goals (first | assumption | wp_step))
      refine codeAny_mono (codeAny_call_builtin (R := wants (fun r s₂ => r = .none ∧ ∃ h' tk, s₂ = { s with heap := h', toks := tk } ∧ G h' tk) E) F.called_set.init.plain F.entry_set_init (check_set_init_1 hT ?_)) fun r₂ s₂ hr₂ => ?_
      · refine wpAny_mono (h0 _) (fun f s2 hf => ?_) fun _ _ e => e
        obtain ⟨rfl, h', tk, e, g⟩ := hf
        exact ⟨rfl, h', tk, e, g⟩
      · cases r₂ with
        | error e => exact hr₂
        | ok fl₂ =>
          cases fl₂ with
          | ret r =>
            obtain ⟨rfl, h', tk, rfl, g⟩ := hr₂
            repeat (any_goals (first | assumption | wp_step))
            exact h _ _ g
          | _ => exact hr₂.elim
    | _ => exact hr.elim
/-- what the set has of the first i -/
structure Had (ks : Keyed) (i : Nat) (L : Keyed) : Prop where
  sub : ∀ p ∈ L, p ∈ ks.take i
  all : ∀ p ∈ ks.take i, p.2 ∈ L.map (·.2)
theorem Had.next {ks L L' : Keyed} {i : Nat} {x : Addr × NestedKey} (g : Had ks i L) (h : ks[i]? = some x) (c1 : x.2 ∈ L.map (·.2) → L' = L) (c2 : x.2 ∉ L.map (·.2) → L'.Perm (x :: L)) : Had ks (i + 1) L' := by
  have ht : ks.take (i + 1) = ks.take i ++ [x] := by rw [List.take_succ, h]; rfl
  rcases Classical.em (x.2 ∈ L.map (·.2)) with c | c
  · rw [c1 c]
    refine ⟨fun p hp => by rw [ht]; exact List.mem_append_left _ (g.sub p hp), fun p hp => ?_⟩
    rw [ht] at hp
    rcases List.mem_append.mp hp with z | z
    · exact g.all p z
    · rw [List.mem_singleton.mp z]; exact c
  · have pm := c2 c
    refine ⟨fun p hp => ?_, fun p hp => ?_⟩
    · rw [ht]
      rcases List.mem_cons.mp (pm.mem_iff.mp hp) with e | z
      · rw [e]; exact List.mem_append_right _ (List.mem_singleton.mpr rfl)
      · exact List.mem_append_left _ (g.sub p z)
    · rw [(pm.map (·.2)).mem_iff, List.map_cons]
      rw [ht] at hp
      rcases List.mem_append.mp hp with z | z
      · exact List.mem_cons_of_mem _ (g.all p z)
      · rw [List.mem_singleton.mp z]; exact List.mem_cons_self
/-- fewer than 64 unlike ones -/
def Few (ks : Keyed) : Prop := ∀ M : List NestedKey, M.Nodup → (∀ k ∈ M, k ∈ ks.map (·.2)) → M.length < 64
theorem SetN.keep {h h' : Heap} {a : Addr} {L : Keyed} {es : Array (Int × Value)} {ep : Nat} {t : SetTable} (R : SetN w h a L es ep t) (ha : ∀ o, h.get? a = some o → h'.get? a = some o) (ht : ∀ p ∈ L, IsN h' p.2 p.1) : SetN w h' a L es ep t := by
  obtain ⟨o, ho, r⟩ := R.ob
  exact ⟨⟨o, ha o ho, r⟩, R.rows, R.tab, R.nd, ht, R.plain, R.led, R.room⟩
theorem set_fresh {h : Heap} {a : Addr} (ho : h.get? a = some (newSet w)) : SetN w h a [] #[] 0 (.fresh 0 0 (!w.params.followText "set-order")) where
  ob := ⟨_, ho, ⟨rfl, rfl, rfl⟩, rfl⟩
  rows := rfl
  tab := ⟨List.Pairwise.nil, rfl, rfl, .inl rfl, fun x hx => (by cases hx), fun i h j hi => (by simp at hi)⟩
  nd := List.nodup_nil
  tup := fun p hp => (by cases hp)
  plain := rfl
  led := by
    show _ ∨ (!w.params.followText "set-order") = true
    cases w.params.followText "set-order"
    · exact .inr rfl
    · exact .inl rfl
  room := by
    show 0 * 5 < 7 * 3
    decide
/-- the loop that fills it -/
theorem fill {I : Addr} {fp wr : List Addr} {G : Array GenState → Array GenState → Prop} {n : Nat} {Pv : Nat → Value → Prop} {St : Nat → Shared → Prop} {R : Result → Shared → Prop}
    (W : WalksS P w A.in1 I fp wr G n Pv St) (S : Addr) (hSf : S ∉ fp) (ks : Keyed) (hn : n = ks.length) (hfew : Few ks) (hval : ∀ i v, Pv i v → ∃ p, ks[i]? = some p ∧ v = .ref p.1)
    (h0 : Heap) (hk : ∀ p ∈ ks, IsN h0 p.2 p.1) (hS0 : h0.get? S = none) (hw0 : ∀ b ∈ wr, h0.get? b = none) (hu : A.in1.units + 8 < cLine) :
    ∀ (m i : Nat) (s : Shared), n - i = m → i ≤ n → St i s → (∀ b o, h0.get? b = some o → s.heap.get? b = some o) → (∃ L es ep t, SetN w s.heap S L es ep t ∧ Had ks i L) →
      (∀ s' L es ep t, Moved (S :: wr) G s s' → SetN w s'.heap S L es ep t → Had ks n L → (∀ b o, h0.get? b = some o → s'.heap.get? b = some o) → R (.ok (.ret .none)) s') →
      codeAny (model P w) A (.builtin "set.update.loop" ⟨[.ref S, .ref I], []⟩) R s := by
  have hSw : S ∉ wr := fun h => hSf (W.sub _ h)
  have hsub : ∀ b ∈ wr, b ∈ S :: wr := fun b hb => List.mem_cons_of_mem _ hb
  have old : ∀ {s s' : Shared}, Moved wr G s s' → (∀ b o, h0.get? b = some o → s.heap.get? b = some o) → ∀ b o, h0.get? b = some o → s'.heap.get? b = some o := fun hm hkp b o e =>
    hm.heap b o (fun hb => by rw [hw0 b hb] at e; cases e) (hkp b o e)
  have still : ∀ {s s' : Shared} {L es ep t i}, Moved wr G s s' → (∀ b o, h0.get? b = some o → s.heap.get? b = some o) → SetN w s.heap S L es ep t → Had ks i L → SetN w s'.heap S L es ep t := fun hm hkp hS g =>
    hS.keep (fun o e => hm.heap S o hSw e) fun p hp => (hk p (List.mem_of_mem_take (g.sub p hp))).keep (old hm hkp)
  intro m
  induction m with
  | zero =>
    intro i s hm' hi hst hkp ⟨L, es, ep, t, hS, g⟩ hR
    obtain rfl : i = n := by omega
    refine codeAny_builtin F.entry_set_update_loop ?_
    rw [Around.under_plainId F.plain_set_update_loop _]
    show wpAny _ A.in1 (pyNext (.ref I) >>= _) _ _ s
    refine wpAny_bind (W.done s _ _ hst fun s' hm => ?_)
    show wpAny _ A.in1 (ret Value.none) _ _ s'
    exact wpAny_pure (hR s' L es ep t (hm.mono hsub) (still hm hkp hS g) g (old hm hkp))
  | succ m ih =>
    intro i s hm' hi hst hkp ⟨L, es, ep, t, hS, g⟩ hR
    have hlt : i < n := by omega
    refine codeAny_builtin F.entry_set_update_loop ?_
    rw [Around.under_plainId F.plain_set_update_loop _]
    show wpAny _ A.in1 (pyNext (.ref I) >>= _) _ _ s
    refine wpAny_bind (W.item i s _ _ hlt hst fun v s' hP hst' hm => ?_)
    obtain ⟨p, hp, rfl⟩ := hval i v hP
    have hkp' := old hm hkp
    have hS' := still hm hkp hS g
    have hmem := List.mem_of_getElem? hp
    have hx : IsN s'.heap p.2 p.1 := (hk p hmem).keep hkp'
    show wpAny _ A.in1 (holding [Value.ref p.1] (setAdd S (.ref p.1)) >>= _) _ _ s'
    refine wpAny_bind (wpAny_holding ?_)
    unfold setAdd
    refine wpAny_holding ?_
    refine wpAny_bind (hx.hash hu ?_)
    refine add_n (s := { s' with toks := s'.toks + p.2.draws }) hS' hx hu (fun hnew => ?_) fun b h' L' es' ep' t' hsb hS2 c1 c2 => ?_
    · have := hfew (p.2 :: L.map (·.2)) (List.nodup_cons.mpr ⟨hnew, hS.nd⟩) fun k hk => by
        rcases List.mem_cons.mp hk with rfl | hk
        · exact List.mem_map.mpr ⟨p, hmem, rfl⟩
        · obtain ⟨q, hq, rfl⟩ := List.mem_map.mp hk
          exact List.mem_map.mpr ⟨q, List.mem_of_mem_take (g.sub q hq), rfl⟩
      simpa using this
    · have hkp2 : ∀ b o, h0.get? b = some o → h'.get? b = some o := fun b o e => (hsb.2 b (fun z => by rw [z, hS0] at e; cases e)).trans (hkp' b o e)
      refine wpAny_pure ⟨plainId_quiet F.plain_set_update_loop _, ih (i + 1) _ (by omega) hlt (W.frame _ s' _ _ hst' (Nat.le_add_right _ _) fun b hb o e => ?_) hkp2 ⟨L', es', ep', t', hS2, g.next hp c1 c2⟩ fun s'' L2 es2 ep2 t2 hm'' hS'' g'' hkp'' => ?_⟩
      · rw [hsb.2 b (fun h : b = S => hSf (by rw [← h]; exact hb))]; exact e
      · refine hR s'' L2 es2 ep2 t2 (Moved.trans W.gtrans ((hm.mono hsub).then_heap (Nat.le_add_right _ _) fun b o hb e => ?_) hm'') hS'' g'' hkp''
        rw [hsb.2 b (fun h : b = S => hb (by rw [h]; exact List.mem_cons_self))]; exact e
end
end OC

/-! Part S3m: set(list), set(tuple). -/
namespace OC
open PySem PySem.Spec PyProof.Rows L2
section
variable {P : Program} {w : World} {A : Around} {E : Value → Shared → Prop} {s : Shared}
/-- what set(..) leaves -/
def SetLeft (w : World) (s : Shared) (ks : Keyed) (h' : Heap) : Prop := ∃ L es ep t, SetN w h' s.heap.objs.size L es ep t ∧ Had ks ks.length L ∧ ∀ b o, s.heap.get? b = some o → h'.get? b = some o
theorem setOfList {l : Addr} {items : Array Value} (ks : Keyed) {Q : Value → Shared → Prop} (hh : A.handled = none) (hl : s.heap.IsList l items) (hit : items.toList = ks.map fun p => Value.ref p.1) (hk : ∀ p ∈ ks, IsN s.heap p.2 p.1) (hfew : Few ks) (hu : A.units + 11 < cLine)
    (h : ∀ h' tk, SetLeft w s ks h' → Q (.ref s.heap.objs.size) { s with heap := h', toks := tk }) : wpAny (model P w) A (call (.type "set") [.ref l]) Q E s := by
  have hisz : items.size = ks.length := by
    have q := congrArg List.length hit
    rwa [Array.length_toList, List.length_map] at q
  refine set_made (G := fun h' _ => SetLeft w s ks h') (fun E' => ?_) h
  obtain ⟨ol, hol, hcl, nl, hdl⟩ := hl
  obtain ⟨ocls, odict, odata, oslots⟩ := ol
  simp only at hcl hdl
  subst hcl; subst hdl
  have hol' : (s.heap.push (newSet w)).get? l = some { cls := .type "list", dict := odict, data := .seq items nl, slots := oslots } := Heap.get?_push_of_some _ hol
  have hsls := F.sub_list_set
  have hslf := F.sub_list_frozenset
  have hne : (Value.type "list" == Value.type "dict") = false := by decide
  have hl1 : (s.heap.push (newSet w)).IsList l items := ⟨_, hol', rfl, nl, rfl⟩
  unfold Builtin.«set.__init__» noKeywords Builtin.Frozenset.updateFrom
  generalize hPI : pyIter = PI
  wp_walk
  subst hPI
  refine wpAny_pyIter_list hl1 ?_
  refine wpAny_bind (wpAny_runValue ?_)
  have hlS : l < s.heap.objs.size := Heap.lt_size hol
  have hh3 : A.in1.in1.in1.handled = none := by simp [hh]
  have hneI : l ≠ (s.heap.push (newSet w)).objs.size := by
    rw [Heap.size_push]; exact Nat.ne_of_lt (Nat.lt_succ_of_lt hlS)
  have hSf : s.heap.objs.size ∉ [(s.heap.push (newSet w)).objs.size, l] := by
    rw [Heap.size_push]; simp only [List.mem_cons, List.mem_singleton, List.not_mem_nil, or_false, not_or]
    exact ⟨Nat.ne_of_lt (Nat.lt_succ_self _), Nat.ne_of_gt hlS⟩
  have hval : ∀ (i : Nat) (v : Value), items[i]? = some v → ∃ p, ks[i]? = some p ∧ v = .ref p.1 := fun i v hv => by
    have q : items.toList[i]? = some v := by rw [Array.getElem?_toList]; exact hv
    rw [hit, List.getElem?_map] at q
    obtain ⟨p, hp, e⟩ := Option.map_eq_some_iff.mp q
    exact ⟨p, hp, e.symm⟩
  have none_of : ∀ b, s.heap.objs.size ≤ b → s.heap.get? b = none := fun b hb => by
    cases q : s.heap.get? b with
    | none => rfl
    | some o => exact absurd (Nat.lt_of_lt_of_le (Heap.lt_size q) hb) (Nat.lt_irrefl _)
  have hS : (s.heap.push (newSet w)).get? s.heap.objs.size = some (newSet w) := Heap.get?_push_size _ rfl
  refine fill ((Walks.list hh3 _ l hneI items).toS) s.heap.objs.size hSf ks hisz hfew hval s.heap hk (none_of _ (Nat.le_refl _)) (fun b hb => none_of b (by
      rw [List.mem_singleton.mp hb, Heap.size_push]
      exact Nat.le_succ _)) (by simpa using hu) (items.size - 0) 0 _ (by omega) (Nat.zero_le _)
    ⟨⟨_, Heap.get?_push_size _ rfl, rfl, rfl⟩, (hl1.push _)⟩ (fun b o e => Heap.get?_push_of_some _ (Heap.get?_push_of_some _ e)) ⟨[], #[], 0, _, set_fresh (Heap.get?_push_of_some _ hS), ⟨fun p hp => (by cases hp), fun p hp => (by simp at hp)⟩⟩ ?hR
  intro s' L es ep t hm hS' g' hkp
  obtain ⟨h', g2, d', tk', os'⟩ := s'
  have eg : g2 = s.gens := hm.gens
  have ed : d' = s.drawn := hm.drawn
  have eo : os' = s.os := hm.os
  subst eg; subst ed; subst eo
  show wpAny _ _ _ _ _ _
  refine wpAny_pure ?_
  show wpAny _ _ (ret Value.none) _ _ _
  rw [hisz] at g'
  exact wpAny_pure ⟨rfl, h', tk', rfl, L, es, ep, t, hS', g', hkp⟩
theorem setOfTuple {l : Addr} {items : Array Value} (ks : Keyed) {Q : Value → Shared → Prop} (hh : A.handled = none) (hl : s.heap.IsTuple l items) (hit : items.toList = ks.map fun p => Value.ref p.1) (hk : ∀ p ∈ ks, IsN s.heap p.2 p.1) (hfew : Few ks) (hu : A.units + 11 < cLine)
    (h : ∀ h' tk, SetLeft w s ks h' → Q (.ref s.heap.objs.size) { s with heap := h', toks := tk }) : wpAny (model P w) A (call (.type "set") [.ref l]) Q E s := by
  have hisz : items.size = ks.length := by
    have q := congrArg List.length hit
    rwa [Array.length_toList, List.length_map] at q
  refine set_made (G := fun h' _ => SetLeft w s ks h') (fun E' => ?_) h
  obtain ⟨ol, hol, hcl, nl, hdl⟩ := hl
  obtain ⟨ocls, odict, odata, oslots⟩ := ol
  simp only at hcl hdl
  subst hcl; subst hdl
  have hol' : (s.heap.push (newSet w)).get? l = some { cls := .type "tuple", dict := odict, data := .seq items nl, slots := oslots } := Heap.get?_push_of_some _ hol
  have hsls := F.sub_tuple_set
  have hslf := F.sub_tuple_frozenset
  have hne : (Value.type "tuple" == Value.type "dict") = false := by decide
  have hl1 : (s.heap.push (newSet w)).IsTuple l items := ⟨_, hol', rfl, nl, rfl⟩
  unfold Builtin.«set.__init__» noKeywords Builtin.Frozenset.updateFrom
  generalize hPI : pyIter = PI
  wp_walk
  subst hPI
  refine wpAny_pyIter_tuple hl1 ?_
  refine wpAny_bind (wpAny_runValue ?_)
  have hlS : l < s.heap.objs.size := Heap.lt_size hol
  have hh3 : A.in1.in1.in1.handled = none := by simp [hh]
  have hneI : l ≠ (s.heap.push (newSet w)).objs.size := by
    rw [Heap.size_push]; exact Nat.ne_of_lt (Nat.lt_succ_of_lt hlS)
  have hSf : s.heap.objs.size ∉ [(s.heap.push (newSet w)).objs.size, l] := by
    rw [Heap.size_push]; simp only [List.mem_cons, List.mem_singleton, List.not_mem_nil, or_false, not_or]
    exact ⟨Nat.ne_of_lt (Nat.lt_succ_self _), Nat.ne_of_gt hlS⟩
  have hval : ∀ (i : Nat) (v : Value), items[i]? = some v → ∃ p, ks[i]? = some p ∧ v = .ref p.1 := fun i v hv => by
    have q : items.toList[i]? = some v := by rw [Array.getElem?_toList]; exact hv
    rw [hit, List.getElem?_map] at q
    obtain ⟨p, hp, e⟩ := Option.map_eq_some_iff.mp q
    exact ⟨p, hp, e.symm⟩
  have none_of : ∀ b, s.heap.objs.size ≤ b → s.heap.get? b = none := fun b hb => by
    cases q : s.heap.get? b with
    | none => rfl
    | some o => exact absurd (Nat.lt_of_lt_of_le (Heap.lt_size q) hb) (Nat.lt_irrefl _)
  have hS : (s.heap.push (newSet w)).get? s.heap.objs.size = some (newSet w) := Heap.get?_push_size _ rfl
  refine fill ((Walks.tuple hh3 _ l hneI items).toS) s.heap.objs.size hSf ks hisz hfew hval s.heap hk (none_of _ (Nat.le_refl _)) (fun b hb => none_of b (by
      rw [List.mem_singleton.mp hb, Heap.size_push]
      exact Nat.le_succ _)) (by simpa using hu) (items.size - 0) 0 _ (by omega) (Nat.zero_le _)
    ⟨⟨_, Heap.get?_push_size _ rfl, rfl, rfl⟩, (hl1.push _)⟩ (fun b o e => Heap.get?_push_of_some _ (Heap.get?_push_of_some _ e)) ⟨[], #[], 0, _, set_fresh (Heap.get?_push_of_some _ hS), ⟨fun p hp => (by cases hp), fun p hp => (by simp at hp)⟩⟩ ?hR
  intro s' L es ep t hm hS' g' hkp
  obtain ⟨h', g2, d', tk', os'⟩ := s'
  have eg : g2 = s.gens := hm.gens
  have ed : d' = s.drawn := hm.drawn
  have eo : os' = s.os := hm.os
  subst eg; subst ed; subst eo
  show wpAny _ _ _ _ _ _
  refine wpAny_pure ?_
  show wpAny _ _ (ret Value.none) _ _ _
  rw [hisz] at g'
  exact wpAny_pure ⟨rfl, h', tk', rfl, L, es, ep, t, hS', g', hkp⟩
end
end OC

/-! Part S3n: sets of data. -/
namespace OC
open PySem PySem.Spec PyProof.Rows L2
/-! ### data as keys -/
mutual
def keyD : D → NestedKey
  | .int i => .num i
  | .tup ds => .tup (keysD ds)
  | _ => .none
def keysD : List D → List NestedKey
  | [] => []
  | d :: ds => keyD d :: keysD ds
end
theorem keysD_map : ∀ ds : List D, keysD ds = ds.map keyD
  | [] => rfl
  | d :: ds => by rw [keysD, keysD_map ds]; rfl
mutual
theorem keyD_nums : ∀ (d : D) (n : Nat), numD n d = true → nums (keyD d) = true ∧ (keyD d).depth ≤ n
  | .int i, n, _ => ⟨rfl, Nat.zero_le _⟩
  | .tup ds, 0, h => by cases h
  | .tup ds, n + 1, h => by
    obtain ⟨h1, h2⟩ := keysD_nums ds n h
    exact ⟨h1, Nat.succ_le_succ h2⟩
  | .non, n, h => by cases n <;> cases h
  | .bl _, n, h => by cases n <;> cases h
  | .str _, n, h => by cases n <;> cases h
  | .lst _, n, h => by cases n <;> cases h
  | .scr _, n, h => by cases n <;> cases h
theorem keysD_nums : ∀ (ds : List D) (n : Nat), numsD n ds = true → numsAll (keysD ds) = true ∧ NestedKey.depthAll (keysD ds) ≤ n
  | [], n, _ => ⟨rfl, Nat.zero_le _⟩
  | d :: ds, n, h => by
    have h : (numD n d && numsD n ds) = true := by cases n <;> exact h
    rw [Bool.and_eq_true] at h
    obtain ⟨a1, a2⟩ := keyD_nums d n h.1
    obtain ⟨b1, b2⟩ := keysD_nums ds n h.2
    refine ⟨?_, ?_⟩
    · rw [keysD, numsAll, a1, b1]; rfl
    · rw [keysD, NestedKey.depthAll]; omega
end
mutual
theorem keyD_inj : ∀ (d e : D) (n : Nat), numD n d = true → numD n e = true → keyD d = keyD e → d = e
  | .int i, e, n, _, h, he => by
    cases e with
    | int j => rw [keyD, keyD] at he; cases he; rfl
    | tup _ => rw [keyD, keyD] at he; cases he
    | _ => cases n <;> cases h
  | .tup ds, e, 0, h, _, _ => by cases h
  | .tup ds, e, n + 1, h1, h2, he => by
    cases e with
    | int j => rw [keyD, keyD] at he; cases he
    | tup es =>
      rw [keyD, keyD] at he
      injection he with he
      rw [keysD_inj ds es n h1 h2 he]
    | _ => cases h2
  | .non, _, n, h, _, _ => by cases n <;> cases h
  | .bl _, _, n, h, _, _ => by cases n <;> cases h
  | .str _, _, n, h, _, _ => by cases n <;> cases h
  | .lst _, _, n, h, _, _ => by cases n <;> cases h
  | .scr _, _, n, h, _, _ => by cases n <;> cases h
theorem keysD_inj : ∀ (ds es : List D) (n : Nat), numsD n ds = true → numsD n es = true → keysD ds = keysD es → ds = es
  | [], [], _, _, _, _ => rfl
  | [], _ :: _, _, _, _, h => by cases h
  | _ :: _, [], _, _, _, h => by cases h
  | d :: ds, e :: es, n, h1, h2, h => by
    have h1 : (numD n d && numsD n ds) = true := by cases n <;> exact h1
    have h2 : (numD n e && numsD n es) = true := by cases n <;> exact h2
    rw [Bool.and_eq_true] at h1 h2
    rw [keysD, keysD] at h
    injection h with e1 e2
    rw [keyD_inj d e n h1.1 h2.1 e1, keysD_inj ds es n h1.2 h2.2 e2]
end
mutual
/-- two such things are == just when they are the same -/
theorem numD_eqv : ∀ (d e : D) (n : Nat), numD n d = true → numD n e = true → (D.eqv d e = true ↔ d = e)
  | .int i, e, n, _, h => by
    cases e with
    | int j => simp [D.eqv]
    | tup _ => simp [D.eqv]
    | _ => cases n <;> cases h
  | .tup ds, e, 0, h, _ => by cases h
  | .tup ds, e, n + 1, h1, h2 => by
    cases e with
    | int j => simp [D.eqv]
    | tup es =>
      have := numsD_eqv ds es n h1 h2
      simp only [D.eqv, this, D.tup.injEq]
    | _ => cases h2
  | .non, _, n, h, _ => by cases n <;> cases h
  | .bl _, _, n, h, _ => by cases n <;> cases h
  | .str _, _, n, h, _ => by cases n <;> cases h
  | .lst _, _, n, h, _ => by cases n <;> cases h
  | .scr _, _, n, h, _ => by cases n <;> cases h
theorem numsD_eqv : ∀ (ds es : List D) (n : Nat), numsD n ds = true → numsD n es = true → (D.eqvs ds es = true ↔ ds = es)
  | [], [], _, _, _ => by simp [D.eqvs]
  | [], _ :: _, _, _, _ => by simp [D.eqvs]
  | _ :: _, [], _, _, _ => by simp [D.eqvs]
  | d :: ds, e :: es, n, h1, h2 => by
    have h1 : (numD n d && numsD n ds) = true := by cases n <;> exact h1
    have h2 : (numD n e && numsD n es) = true := by cases n <;> exact h2
    rw [Bool.and_eq_true] at h1 h2
    simp only [D.eqvs, Bool.and_eq_true, numD_eqv d e n h1.1 h2.1, numsD_eqv ds es n h1.2 h2.2, List.cons.injEq]
end
theorem numsD_mem : ∀ {ds : List D} {n : Nat}, numsD n ds = true → ∀ d ∈ ds, numD n d = true
  | [], _, _, d, h => by cases h
  | e :: ds, n, h, d, hd => by
    have h : (numD n e && numsD n ds) = true := by cases n <;> exact h
    rw [Bool.and_eq_true] at h
    rcases List.mem_cons.mp hd with rfl | hd
    · exact h.1
    · exact numsD_mem h.2 d hd
/-! ### each once -/
theorem dedup_mem {n : Nat} : ∀ {ds : List D}, (∀ d ∈ ds, numD n d = true) → ∀ d, d ∈ dedup ds ↔ d ∈ ds
  | [], _, d => Iff.rfl
  | e :: ds, h, d => by
    have ih := dedup_mem (n := n) (ds := ds) (fun x hx => h x (.tail _ hx)) d
    rw [dedup, List.mem_cons, List.mem_filter, ih, List.mem_cons]
    constructor
    · rintro (rfl | ⟨h1, _⟩)
      · exact .inl rfl
      · exact .inr h1
    · rintro (rfl | h1)
      · exact .inl rfl
      · by_cases e2 : d = e
        · exact .inl e2
        · refine .inr ⟨h1, ?_⟩
          have := numD_eqv e d n (h e (.head _)) (h d (.tail _ h1))
          cases q : D.eqv e d with
          | false => rfl
          | true => exact absurd (this.mp q).symm e2
theorem dedup_nodup {n : Nat} : ∀ {ds : List D}, (∀ d ∈ ds, numD n d = true) → (dedup ds).Nodup
  | [], _ => List.nodup_nil
  | e :: ds, h => by
    rw [dedup, List.nodup_cons]
    refine ⟨fun hm => ?_, (dedup_nodup (n := n) fun x hx => h x (.tail _ hx)).filter _⟩
    have := (List.mem_filter.mp hm).2
    rw [(numD_eqv e e n (h e (.head _)) (h e (.head _))).mpr rfl] at this
    cases this
/-- a list without twins that holds the same is an order of what is there once -/
theorem dedup_perm {n : Nat} {ds es : List D} (h : ∀ d ∈ ds, numD n d = true) (h1 : es.Nodup) (h2 : ∀ d, d ∈ es ↔ d ∈ ds) : es.Perm (dedup ds) :=
  (List.perm_ext_iff_of_nodup h1 (dedup_nodup h)).mpr fun d => (h2 d).trans (dedup_mem h d).symm
end OC

/-! Part S3o: sets of data: made, and sorted. -/
namespace OC
open PySem PySem.Spec PyProof.Rows L2
section
variable {X : Cx} {pins : List (Addr × Obj)} {σ : L2.St} {F H : Hp} {s : Shared}
mutual
theorem dq_nested (I : Inv X pins σ H s) (hs : Same F H) : ∀ (d : D) (n : Nat) (v : V) (u : Value), Dq X.K F v d → RelV v u → numD n d = true → NestedIs s.heap (keyD d) u
  | .int i, n, v, u, q, r, _ => by
    cases q
    obtain ⟨t, rfl⟩ := r
    exact .int i t
  | .tup ds, 0, v, u, q, r, h => by cases h
  | .tup ds, n + 1, v, u, q, r, h => by
    cases q with
    | tup e o q =>
      cases r
      obtain ⟨its, rv, ⟨ob, ho, hc, m, hd⟩, _⟩ := I.tuple (sqT_of (K := X.K) hs e)
      exact .tup ho hc hd (by simpa using dqs_nested I hs ds n _ _ q rv h)
  | .non, n, _, _, _, _, h => by cases n <;> cases h
  | .bl _, n, _, _, _, _, h => by cases n <;> cases h
  | .str _, n, _, _, _, _, h => by cases n <;> cases h
  | .lst _, n, _, _, _, _, h => by cases n <;> cases h
  | .scr _, n, _, _, _, _, h => by cases n <;> cases h
theorem dqs_nested (I : Inv X pins σ H s) (hs : Same F H) : ∀ (ds : List D) (n : Nat) (vs : List V) (us : List Value), Dqs X.K F vs ds → Vals vs us → numsD n ds = true → NestedAll s.heap (keysD ds) us
  | [], n, vs, us, q, r, _ => by
    cases q
    cases r
    exact .nil
  | d :: ds, n, vs, us, q, r, h => by
    have h : (numD n d && numsD n ds) = true := by cases n <;> exact h
    rw [Bool.and_eq_true] at h
    cases q with
    | cons q1 q2 =>
      cases r with
      | cons r1 r2 => exact .cons (dq_nested I hs d n _ _ q1 r1 h.1) (dqs_nested I hs ds n _ _ q2 r2 h.2)
end
theorem keyed_of (I : Inv X pins σ H s) (hs : Same F H) : ∀ (ds : List D) (vs : List V) (us : List Value), Dqs X.K F vs ds → Vals vs us → tupsB ds = true → numsD 8 ds = true →
    ∃ ks : Keyed, us = ks.map (fun p => Value.ref p.1) ∧ (∀ p ∈ ks, IsN s.heap p.2 p.1) ∧ (∀ p ∈ ks, ∃ d ∈ ds, VD X.K F (.ref p.1) d ∧ keyD d = p.2) ∧ ks.map (·.2) = ds.map keyD
  | [], vs, us, q, r, _, _ => by
    cases q
    cases r
    exact ⟨[], rfl, fun p h => (by cases h), fun p h => (by cases h), rfl⟩
  | d :: ds, vs, us, q, r, ht, h => by
    have h : (numD 8 d && numsD 8 ds) = true := h
    rw [Bool.and_eq_true] at h
    rw [tupsB, List.all_cons, Bool.and_eq_true] at ht
    cases q with
    | cons q1 q2 =>
      cases r with
      | cons r1 r2 =>
        obtain ⟨ks, e1, e2, e3, e4⟩ := keyed_of I hs ds _ _ q2 r2 ht.2 h.2
        have hn := dq_nested I hs d 8 _ _ q1 r1 h.1
        obtain ⟨k1, k2⟩ := keyD_nums d 8 h.1
        match d, ht.1 with
        | .tup (x :: l), _ =>
          cases q1 with
          | @tup a o xs _ e o2 q =>
            cases r1
            refine ⟨(a, keyD (.tup (x :: l))) :: ks, ?_, ?_, ?_, ?_⟩
            · rw [List.map_cons, ← e1]
            · intro p hp
              rcases List.mem_cons.mp hp with rfl | hp
              · exact ⟨hn, k2, k1⟩
              · exact e2 p hp
            · intro p hp
              rcases List.mem_cons.mp hp with rfl | hp
              · exact ⟨_, .head _, ⟨.ref a, rfl, .tup e o2 q⟩, rfl⟩
              · obtain ⟨d', h1, h2⟩ := e3 p hp
                exact ⟨d', .tail _ h1, h2⟩
            · rw [List.map_cons, List.map_cons, e4]
/-- the data of what the set holds -/
theorem held_of {ds : List D} : ∀ {L : Keyed}, (∀ p ∈ L, ∃ d ∈ ds, VD X.K F (.ref p.1) d ∧ keyD d = p.2) → ∃ es, PySem.W.EachIs (VD X.K F) (L.map fun p => Value.ref p.1) es ∧ es.map keyD = L.map (·.2) ∧ ∀ d ∈ es, d ∈ ds
  | [], _ => ⟨[], .nil, rfl, fun d h => (by cases h)⟩
  | p :: L, h => by
    obtain ⟨es, h1, h2, h3⟩ := held_of (L := L) fun q hq => h q (.tail _ hq)
    obtain ⟨d, hd, k1, k2⟩ := h p (.head _)
    refine ⟨d :: es, .cons k1 h1, by rw [List.map_cons, List.map_cons, k2, h2], fun x hx => ?_⟩
    rcases List.mem_cons.mp hx with rfl | hx
    · exact hd
    · exact h3 x hx
theorem held_perm {ds : List D} {ks L : Keyed} {es : List D} (hn : numsD 8 ds = true) (hk : ks.map (·.2) = ds.map keyD) (g : Had ks ks.length L) (nd : (L.map (·.2)).Nodup) (he : es.map keyD = L.map (·.2)) (hsub : ∀ d ∈ es, d ∈ ds) : es.Perm (dedup ds) := by
  have hnum := numsD_mem hn
  refine dedup_perm (n := 8) hnum ?_ fun d => ⟨hsub d, fun hd => ?_⟩
  · rw [← he] at nd
    exact List.Pairwise.of_map keyD (fun _ _ hne e => hne (congrArg keyD e)) nd
  · have h1 : keyD d ∈ ks.map (·.2) := by rw [hk]; exact List.mem_map.mpr ⟨d, hd, rfl⟩
    obtain ⟨p, hp, e⟩ := List.mem_map.mp h1
    have h2 := g.all p (by rw [List.take_length]; exact hp)
    rw [e, ← he] at h2
    obtain ⟨x, hx, e2⟩ := List.mem_map.mp h2
    rw [← keyD_inj x d 8 (hnum x (hsub x hx)) (hnum d hd) e2]
    exact hx
theorem fewN_of {ds : List D} {ks : Keyed} (hn : numsD 8 ds = true) (hk : ks.map (·.2) = ds.map keyD) (h : (dedup ds).length < 64) : Few ks := fun M hM hs => by
  have hnum := numsD_mem hn
  have key : ∀ (M U : List NestedKey), M.Nodup → (∀ k ∈ M, k ∈ U) → M.length ≤ U.length := fun M => by
    induction M with
    | nil => intro U _ _; exact Nat.zero_le _
    | cons k M ih =>
      intro U hM hs
      rw [List.nodup_cons] at hM
      have := ih (U.erase k) hM.2 fun x hx => (List.mem_erase_of_ne (show x ≠ k from fun e => hM.1 (by rw [← e]; exact hx))).mpr (hs x (.tail _ hx))
      rw [List.length_erase_of_mem (hs k (.head _))] at this
      have : 0 < U.length := List.length_pos_of_mem (hs k (.head _))
      rw [List.length_cons]
      omega
  have := key M ((dedup ds).map keyD) hM fun k hk2 => by
    have := hs k hk2
    rw [hk] at this
    obtain ⟨d, hd, e⟩ := List.mem_map.mp this
    exact List.mem_map.mpr ⟨d, (dedup_mem hnum d).mpr hd, e⟩
  rw [List.length_map] at this
  omega
theorem each_perm {R : Value → D → Prop} {us vs : List Value} (p : us.Perm vs) : ∀ {ds : List D}, PySem.W.EachIs R vs ds → ∃ es, es.Perm ds ∧ PySem.W.EachIs R us es := by
  induction p with
  | nil => intro ds h; exact ⟨ds, .refl _, h⟩
  | cons x _ ih =>
    intro ds h
    cases h with
    | cons h1 h2 =>
      obtain ⟨es, k1, k2⟩ := ih h2
      exact ⟨_ :: es, k1.cons _, .cons h1 k2⟩
  | swap x y l =>
    intro ds h
    cases h with
    | cons h1 h2 =>
      cases h2 with
      | cons h3 h4 => exact ⟨_ :: _ :: _, .swap .., .cons h3 (.cons h1 h4)⟩
  | trans _ _ ih1 ih2 =>
    intro ds h
    obtain ⟨es, k1, k2⟩ := ih2 h
    obtain ⟨fs, k3, k4⟩ := ih1 k2
    exact ⟨fs, k3.trans k1, k4⟩
end
end OC

/-! Part S3p: set(..) of data, sorted(set(..)), len(set(..)). -/
namespace OC
open PySem PySem.Spec PyProof.Rows L2
section
variable {X : Cx}
/-- the same, where the order is drawn -/
theorem sorted_ofD {pins : List (Addr × Obj)} {s : Shared} {σ : L2.St} {F H : Hp} {a : Value} {ds : List D} {Q : VK} (hu : X.A.units + 70 < cLine) (I : Inv X pins σ H s) (hs : Same F H)
    (hcol : ∀ (Q' : List Value → Shared → Prop) (E' : Value → Shared → Prop), (∀ vs s' es, (∀ b o, s.heap.get? b = some o → s'.heap.get? b = some o) → s'.gens = s.gens → s'.os = s.os → es.Perm ds → PySem.W.EachIs (VD X.K F) vs es → Q' vs s') → wpAny (model X.prog X.w) X.A.in1 (collect a) Q' E' s)
    (h1 : OC.alikeAll ds = true) (h2 : sortable ds = true) (h3 : D.cmpbs 58 ds = true) (hL : ds.length ≤ sizeLine) (hp : ∀ es, es.Perm ds → sortD D.lt es = sortD D.lt ds) (g : Gv X.K F H (.lst (sortD D.lt ds)) Q) :
    wpAny (model X.prog X.w) X.A (call (.builtin "sorted") [a]) (EP X pins σ Q) X.xe s := by
  refine sorted_rest (fun vs s' => ∃ es, (∀ b o, s.heap.get? b = some o → s'.heap.get? b = some o) ∧ s'.gens = s.gens ∧ s'.os = s.os ∧ es.Perm ds ∧ PySem.W.EachIs (VD X.K F) vs es) (fun Q' E' hq => hcol Q' E' fun vs s' es k eg eo p e => hq vs _ ⟨es, k, eg, eo, p, e⟩) fun vs s' hg => ?_
  obtain ⟨es, k, eg, eo, p, e⟩ := hg
  have I' : Inv X pins σ H s' := I.call' (ch := []) eo (Un.kept k) (I.hok.kept k) (by rw [eg]; exact I.bare) (fun _ z => nomatch z)
  have mem : ∀ x, x ∈ es → x ∈ ds := fun x hx => p.mem_iff.mp hx
  have a1 : OC.alikeAll es = true := by
    rw [OC.alikeAll, List.all_eq_true]
    intro x hx
    rw [List.all_eq_true]
    intro y hy
    exact alikeAll_of h1 x (mem x hx) y (mem y hy)
  have a2 : sortable es = true := by
    simp only [sortable, Bool.or_eq_true, List.all_eq_true] at h2 ⊢
    rcases h2 with h2 | h2
    · exact .inl fun x hx => h2 x (mem x hx)
    · exact .inr fun x hx => h2 x (mem x hx)
  have hlen : es.length = ds.length := p.length_eq
  have hvl : vs.length = es.length := e.length
  have hLv : vs.length ≤ sizeLine := by omega
  have er := each_reads I' hs e
  have old : ∀ b o, s'.heap.get? b = some o → (PySem.W.sortingHeap (s'.heap.push (seqObj "list" vs.toArray 0)) s'.heap.objs.size vs).get? b = some o := fun b o hb => PySem.W.sortingHeap_old (Nat.ne_of_lt (Heap.lt_size hb)) (Heap.get?_push_of_some _ hb)
  have er' : PySem.W.EachIs (fun v b => ∃ as, Reads (PySem.W.sortingHeap (s'.heap.push (seqObj "list" vs.toArray 0)) s'.heap.objs.size vs) v (D.py b) as) vs es := er.mono fun _ _ ⟨as, r⟩ => ⟨as, PyProof.Rows.Reads.keeps old r⟩
  refine ⟨hLv, _, PySem.W.SortsAt.data (s := { s' with heap := PySem.W.sortingHeap (s'.heap.push (seqObj "list" vs.toArray 0)) s'.heap.objs.size vs }) (PySem.W.each_map (R := fun v d => ∃ as, Reads (PySem.W.sortingHeap (s'.heap.push (seqObj "list" vs.toArray 0)) s'.heap.objs.size vs) v d as) D.py er') (allAlike_py a1) (sortable_py a2) (PySem.W.bound_map (A := X.A.in1.in1) fun b hb => ?_), ?_⟩
  · have := D.deep 58 b (cmpbs_mem h3 b (mem b hb))
    show X.A.units + 1 + 1 + _ < _
    omega
  · have eo := PySem.W.sortVals_data false e er' (allAlike_py a1)
    rw [sortD_py a1, hp es p] at eo
    obtain ⟨ws, r, q⟩ := of_each eo
    have hn : H s'.heap.objs.size = none := I'.hok.fresh (Nat.le_refl _)
    obtain ⟨c, hc⟩ := sortedHeap_at (h := s'.heap.push (seqObj "list" vs.toArray 0)) (a := s'.heap.objs.size) (vs := vs) (n := 0) (out := (PySem.W.sortVals (PySem.W.dataKind (PySem.W.sortingHeap (s'.heap.push (seqObj "list" vs.toArray 0)) s'.heap.objs.size vs) (es.map D.py)) false vs vs).toArray) (Heap.get?_push_size _ rfl)
    have hlw : ws.length ≤ sizeLine := by
      rw [q.length]
      unfold sortD
      rw [List.length_mergeSort]
      exact hL
    refine ⟨.ref _, _, I'.laid (t' := s'.toks) (o := .lst ws) (fun b o e => ?_) (Nat.le_refl _) ⟨hlw, _, c, r, hc⟩, rfl, gv_lst _ g hs q _ hn⟩
    have hb : b < s'.heap.objs.size := Heap.lt_size e
    rw [sortedHeap_old (Nat.ne_of_lt hb) (by rw [size_push']; exact Nat.lt_succ_of_lt hb)]
    exact Heap.get?_push_of_some _ e
/-- the set at a, without the tuples themselves -/
def SetN0 (w : World) (h : Heap) (a : Addr) (L : Keyed) : Prop := ∃ (es : Array (Int × Value)) (ep : Nat) (t : SetTable), (∃ o, h.get? a = some o ∧ o.ExactSet ∧ o.data = .set es ep t) ∧ es.toList = rowsN w L ∧ TabOk t (hsOf w L) ∧ (w.params.followText "set-order" = true ∨ t.led = true) ∧ L.length * 5 < t.mask * 3
def SetNO (w : World) (a : Addr) (L : Keyed) : HO := .ext fun h => SetN0 w h a L
theorem SetN.bare {w : World} {h : Heap} {a : Addr} {L : Keyed} {es : Array (Int × Value)} {ep : Nat} {t : SetTable} (R : SetN w h a L es ep t) : SetN0 w h a L := ⟨es, ep, t, R.ob, R.rows, R.tab, R.led, R.room⟩
theorem setNO_new {P : Program} {w : World} {H : Hp} {h : Heap} {a : Addr} {L : Keyed} (R : SetN0 w h a L) : ObjOk P w H h a (SetNO w a L) := by
  have ⟨es, ep, t, ⟨o, ho, r⟩, q⟩ := R
  refine ⟨R, ⟨o, ho⟩, fun h1 h2 p k => ?_⟩
  obtain ⟨es', ep', t', ⟨o', ho', r'⟩, q'⟩ := p
  exact ⟨es', ep', t', ⟨o', k o' ho', r'⟩, q'⟩
theorem SetN0.fits {w : World} {h : Heap} {a : Addr} {L : Keyed} {es : Array (Int × Value)} {t : SetTable} (h1 : es.toList = rowsN w L) (h2 : TabOk t (hsOf w L)) (h3 : L.length * 5 < t.mask * 3) : t.fits es.size = true := by
  have h4 := h2.sz
  rw [List.length_map] at h4
  have h5 := rows_size h1
  exact setFits_of h2.dm (by omega) (by omega)
/-- set(xs), a list or a tuple of tuples -/
def rSetD (K : PySem.W.Frag) (w : World) : List V → Hp → VK → Prop := fun xs H Q => ∃ (x : V) (F : Hp) (ds : List D), xs = [x] ∧ Same F H ∧ (Dq K F x (.lst ds) ∨ Dq K F x (.tup ds)) ∧ tupsB ds = true ∧ numsD 8 ds = true ∧ (dedup ds).length < 64 ∧
  ∀ a L es, H a = none → PySem.W.EachIs (VD K F) (L.map fun p => Value.ref p.1) es → es.Perm (dedup ds) → Q (.ref a) (upd H a (SetNO w a L))
theorem c_set (hc : X.calm = true) (hu : X.A.units + 70 < cLine) : CallR X (.type "set") (rSetD X.K X.w) := by
  intro pins s σ H xs us Q I r h
  obtain ⟨x, F, ds, rfl, hs, hx, ht, hn, hf, q⟩ := h
  obtain ⟨u, rfl, rx⟩ := vals1 r
  have fin : ∀ (ks : Keyed) (h' : Heap) (tk : Nat), (∀ p ∈ ks, ∃ d ∈ ds, VD X.K F (.ref p.1) d ∧ keyD d = p.2) → ks.map (·.2) = ds.map keyD → SetLeft X.w s ks h' → EP X pins σ Q (.ref s.heap.objs.size) { s with heap := h', toks := tk } := fun ks h' tk e3 e4 hl => by
    obtain ⟨L, es, ep, t, R, g, k⟩ := hl
    obtain ⟨fs, f1, f2, f3⟩ := held_of (L := L) fun p hp => e3 p (List.mem_of_mem_take (g.sub p hp))
    exact ⟨.ref _, _, I.laid (t' := tk) k (Nat.le_refl _) (setNO_new R.bare), rfl, q _ L fs (I.hok.fresh (Nat.le_refl _)) f1 (held_perm hn e4 g R.nd f2 f3)⟩
  rcases hx with hx | hx
  · cases hx with
    | lst e q1 =>
      cases rx
      obtain ⟨its, rv, pl, hz⟩ := I.list (sqL_of (K := X.K) hs e)
      obtain ⟨ks, e1, e2, e3, e4⟩ := keyed_of I hs ds _ _ q1 rv ht hn
      exact setOfList ks (I.ok.hd hc) pl.isList (by simpa using e1) e2 (fewN_of hn e4 hf) (by omega) fun h' tk hl => fin ks h' tk e3 e4 hl
  · cases hx with
    | tup e o q1 =>
      cases rx
      obtain ⟨its, rv, pl, hz⟩ := I.tuple (sqT_of (K := X.K) hs e)
      obtain ⟨ks, e1, e2, e3, e4⟩ := keyed_of I hs ds _ _ q1 rv ht hn
      exact setOfTuple ks (I.ok.hd hc) pl (by simpa using e1) e2 (fewN_of hn e4 hf) (by omega) fun h' tk hl => fin ks h' tk e3 e4 hl
/-- sorted of such a set -/
def rSortedN (K : PySem.W.Frag) (w : World) : List V → Hp → VK → Prop := fun xs H Q => ∃ (a : Addr) (L : Keyed) (F : Hp) (es ds : List D), xs = [.ref a] ∧ H a = some (SetNO w a L) ∧ Same F H ∧ PySem.W.EachIs (VD K F) (L.map fun p => Value.ref p.1) es ∧ es.Perm ds ∧ ds.length < 64 ∧
  OC.alikeAll ds = true ∧ sortable ds = true ∧ D.cmpbs 58 ds = true ∧ Gv K F H (.lst (sortD D.lt ds)) Q
theorem c_sortedN (hc : X.calm = true) (hu : X.A.units + 70 < cLine) : CallR X (.builtin "sorted") (rSortedN X.K X.w) := by
  intro pins s σ H xs us Q I r h
  obtain ⟨a, L, F, es, ds, rfl, ha, hs, he, hp, hl, h1, h2, h3, g⟩ := h
  rw [Vals.ref1 r]
  obtain ⟨rs, ep, t, ⟨o, ho, hex, hd⟩, w1, w2, w3, w4⟩ := (I.hok a _ ha).1
  have hsz := rows_size w1
  have hlen : L.length < 64 := by
    have := he.length
    rw [List.length_map] at this
    have := hp.length_eq
    omega
  refine sorted_ofD hu I hs (ds := ds) (fun Q' E' hq => ?_) h1 h2 h3 (by rw [sizeLine_eq]; omega) (fun fs p => sortD_perm p h1) g
  refine collect_set (A := X.A.in1) (I.ok.hd hc) ⟨o, ho, hex.1, hd⟩ (SetN0.fits (h := s.heap) (a := a) w1 w2 w4) (by unfold scanBound; omega) w2.ris w3 fun s' vs k _ eg eo pm => ?_
  have er : rs.toList.map (·.2) = L.map fun p => Value.ref p.1 := by rw [w1, rowsN, List.map_map]; rfl
  rw [er] at pm
  obtain ⟨fs, f1, f2⟩ := each_perm pm he
  exact hq vs s' fs k eg eo (f1.trans hp) f2
/-- len of such a set -/
def rLenN (K : PySem.W.Frag) (w : World) : List V → Hp → VK → Prop := fun xs H Q => ∃ (a : Addr) (L : Keyed) (F : Hp) (n : Nat), xs = [.ref a] ∧ H a = some (SetNO w a L) ∧ Same F H ∧ L.length = n ∧ n < 64 ∧ Gv K F H (.int n) Q
theorem c_lenN : CallR X (.builtin "len") (rLenN X.K X.w) := by
  intro pins s σ H xs us Q I r h
  obtain ⟨a, L, F, n, rfl, ha, hs, hl, hn, g⟩ := h
  rw [Vals.ref1 r]
  obtain ⟨rs, ep, t, ⟨o, ho, hex, hd⟩, w1, w2, w3, w4⟩ := (I.hok a _ ha).1
  have hsz := rows_size w1
  refine call_len_set ho hex hd (SetN0.fits (h := s.heap) (a := a) w1 w2 w4) (by omega) ?_
  rw [hsz, hl]
  exact ⟨.int n, H, I.tok _, ⟨_, rfl⟩, gv_int _ g hs⟩
end
end OC

/-! Part S4: what the text is looked at for; readings of expressions. -/
namespace OC
open PySem PySem.Spec PyProof.Rows L2

abbrev sN (s : String) : Str := Str.ofString s
def bnames : List String := ["len", "range", "tuple", "list", "sorted", "sum", "min", "max", "all", "str", "int", "isinstance", "bool", "enumerate", "zip", "set"]

/-- a def's promise, by what it computes -/
def spOf (K : PySem.W.Frag) (n : Nat) (f : List D → R D) : Sp := fun vs H Q _ => vs.length = n ∧ ∃ F ds d, Same F H ∧ Dqs K F vs ds ∧ f ds = .ok d ∧ Gv K F H d Q

structure Good (X : Cx) (P : Prog) (C : String → Option D) (n : Nat) : Prop where
  calm : X.calm = true
  nd : X.N.Nodup
  room : Room n X.A
  bn : ∀ x ∈ bnames, X.mg (sN x) = none
  cs : ∀ x d, C x = some d → ∃ u v, X.mg (sN x) = some u ∧ RelV v u ∧ ∀ F, Dq X.K F v d
  fns : ∀ f fn, P f = some fn → ∃ a fd, X.mg (sN f) = some (.ref a) ∧ PySem.W.keepIn X.K (.ref a) = true ∧ Binds X.K fd (fn.ps.map sN) [] ∧
    FnOk X.prog X.w X.K X.mg X.base CX0 n a fd (fn.ps.map sN) (spOf X.K fn.ps.length (run P n f))
theorem Good.un {X : Cx} {P : Prog} {C : String → Option D} {n : Nat} (G : Good X P C n) : X.A.units + 70 < cLine := by have := G.room.un; omega
theorem Good.blk {X : Cx} {P : Prog} {C : String → Option D} {n : Nat} (G : Good X P C n) (s : Shared) (H : Hp) (scope : Scope) (cenv : PySem.Env) (fp : List Addr) : Good (X.blk s H scope cenv fp) P C n :=
  ⟨G.calm, G.nd, G.room, G.bn, G.cs, G.fns⟩

/-! ### looks at the text -/
def isSlice : Expr → Bool
  | .Slice .. => true
  | _ => false
def isStar : Expr → Bool
  | .Starred .. => true
  | _ => false
def isSetE : Expr → Bool
  | .Set .. => true
  | _ => false
def isCompE : Expr → Bool
  | .ListComp .. => true
  | .SetComp .. => true
  | .DictComp .. => true
  | _ => false
def isCall0 : Expr → Bool
  | .Call _ [] _ _ => true
  | _ => false
/-- its truth is asked of its value -/
def plainT : Expr → Bool
  | .UnaryOp .Not _ _ => false
  | .BoolOp .. => false
  | .IfExp .. => false
  | .Compare .. => false
  | _ => true
theorem plainIx_of {b : Expr} (h : isSlice b = false) : PlainIx b := fun o i => by
  cases b <;> first | rfl | (simp [isSlice] at h)
theorem star_of {e : Expr} {es : List Expr} {env : PySem.Env} (h : isStar e = false) : starEach (e :: es) env = (false, eval e env) :: starEach es env := by
  cases e <;> first | rfl | (simp [isStar] at h)
theorem stars_of {pos : Pos} {env : PySem.Env} : ∀ {es : List Expr}, (es.all fun e => !isStar e) = true → (backTo pos (starEach es env)).any (·.1) = false
  | [], _ => rfl
  | e :: es, h => by
    simp only [List.all_cons, Bool.and_eq_true, Bool.not_eq_true'] at h
    rw [star_of h.1]
    show (false || (backTo pos (starEach es env)).any (·.1)) = false
    rw [stars_of (by simpa using h.2)]
    rfl
theorem set_of {e : Expr} {env : PySem.Env} (h : isSetE e = false) (x : Value) : foldedSetIterable e env x = pure x := by
  cases e <;> first | rfl | (simp [isSetE] at h)
theorem mark_of {e : Expr} {op : CmpOp} (h : isSetE e = false) : behindInMarks op e = false := by
  cases e <;> first | rfl | (simp [isSetE] at h)
theorem base_of {e : Expr} {name : Str} {env : PySem.Env} (h : isCall0 e = false) : attributeBase e name env (eval e env) = eval e env := by
  cases e with
  | Call f args kw pos =>
    cases args with
    | nil => simp [isCall0] at h
    | cons a as => cases f <;> rfl
  | _ => rfl
theorem test_of {e : Expr} {env : PySem.Env} (h : plainT e = true) (whole : Sem Value) : isTrue e env whole = (do let v ← whole; standAt e.pos; holding [v] (truthy v)) := by
  cases e with
  | UnaryOp op a p => cases op <;> first | rfl | (simp [plainT] at h)
  | BoolOp _ _ _ => simp [plainT] at h
  | IfExp _ _ _ _ => simp [plainT] at h
  | Compare _ _ _ _ => simp [plainT] at h
  | _ => rfl
def glB (sc : Scope) (x : Str) : Bool := decide (sc.names.lookup x = some .globalImplicit) && !(x == ("__debug__" : Str)) && decide (x ≠ "__name__")
def visB (sc : Scope) (x : Str) : Bool := (match sc.names.lookup x with
  | some .local => true
  | some .cell => true
  | some .free => true
  | _ => false) && !(x == ("__debug__" : Str)) && !(x == ("__classdict__" : Str))
theorem vis_of {sc : Scope} {x : Str} (h : visB sc x = true) : Vis sc x ∧ (x == ("__debug__" : Str)) = false ∧ (x == ("__classdict__" : Str)) = false := by
  unfold visB at h
  simp only [Bool.and_eq_true, Bool.not_eq_true'] at h
  refine ⟨?_, h.1.2, h.2⟩
  have h1 := h.1.1
  unfold Vis
  cases e : sc.names.lookup x with
  | none => rw [e] at h1; cases h1
  | some k => rw [e] at h1; cases k <;> simp at h1 ⊢
theorem gl_of {sc : Scope} {x : Str} (h : glB sc x = true) : sc.names.lookup x = some .globalImplicit ∧ (x == ("__debug__" : Str)) = false ∧ x ≠ "__name__" := by
  unfold glB at h
  simp only [Bool.and_eq_true, Bool.not_eq_true', decide_eq_true_eq] at h
  exact ⟨h.1.1, h.1.2, h.2⟩

def vUn (op : UnaryOp) : Expr → Option Expr
  | .UnaryOp o a _ => if o = op then some a else none
  | _ => none
def vBin (op : Operator) : Expr → Option (Expr × Expr)
  | .BinOp a o b _ => if o = op then some (a, b) else none
  | _ => none
def vCmp (op : CmpOp) : Expr → Option (Expr × Expr)
  | .Compare a [o] [b] _ => if o = op ∧ isSetE b = false then some (a, b) else none
  | _ => none
def vIs (op : CmpOp) (c : Const) : Expr → Option Expr
  | .Compare a [o] [.Constant d _ _] _ => if o = op ∧ d = c then some a else none
  | _ => none
/-- a builtin's call with one operand, two operands -/
def vB1 (sc : Scope) (f : String) : Expr → Option Expr
  | .Call (.Name x _) [a] [] _ => if x = sN f ∧ glB sc (sN f) = true ∧ isStar a = false then some a else none
  | _ => none
def vB2 (sc : Scope) (f : String) : Expr → Option (Expr × Expr)
  | .Call (.Name x _) [a, b] [] _ => if x = sN f ∧ glB sc (sN f) = true ∧ isStar a = false ∧ isStar b = false then some (a, b) else none
  | _ => none
def vIsi (sc : Scope) (T : String) : Expr → Option Expr
  | .Call (.Name x _) [a, .Name y _] [] _ => if x = sN "isinstance" ∧ glB sc (sN "isinstance") = true ∧ isStar a = false ∧ y = sN T ∧ glB sc (sN T) = true then some a else none
  | _ => none
def vItem : Expr → Option (Expr × Expr)
  | .Subscript a b _ => if isSlice b = false then some (a, b) else none
  | _ => none
def vFrom : Expr → Option (Expr × Expr)
  | .Subscript a (.Slice (some l) none none _) _ => some (a, l)
  | _ => none
def vUpto : Expr → Option (Expr × Expr)
  | .Subscript a (.Slice none (some h) none _) _ => some (a, h)
  | _ => none
def vCut : Expr → Option (Expr × Expr × Expr)
  | .Subscript a (.Slice (some l) (some h) none _) _ => some (a, l, h)
  | _ => none
def vM1 (m : String) : Expr → Option (Expr × Expr)
  | .Call (.Attribute o x p) [a] [] q => if x = sN m ∧ isStar a = false ∧ isCall0 o = false ∧ (p.endLine == q.line) = true then some (o, a) else none
  | _ => none

/-- x[::-1] -/
def vRev : Expr → Option Expr
  | .Subscript a (.Slice none none (some (.UnaryOp .USub (.Constant (.int i) _ _) _)) _) _ => if i = 1 then some a else none
  | _ => none
/-- list(range(a)) -/
def vLR (sc : Scope) : Expr → Option Expr
  | .Call (.Name x _) [.Call (.Name y _) [a] [] _] [] _ => if x = sN "list" ∧ glB sc (sN "list") = true ∧ y = sN "range" ∧ glB sc (sN "range") = true ∧ isStar a = false then some a else none
  | _ => none
/-- f(set(a)) -/
def vSet (sc : Scope) (f : String) : Expr → Option Expr
  | .Call (.Name x _) [.Call (.Name y _) [a] [] _] [] _ => if x = sN f ∧ glB sc (sN f) = true ∧ y = sN "set" ∧ glB sc (sN "set") = true ∧ isStar a = false then some a else none
  | _ => none
/-- a method without operands -/
def vM0 (m : String) : Expr → Option Expr
  | .Call (.Attribute o x p) [] [] q => if x = sN m ∧ isCall0 o = false ∧ (p.endLine == q.line) = true then some o else none
  | _ => none
def v1 (sc : Scope) : O1 → Expr → Option Expr
  | .str => vB1 sc "str"
  | .sortedS => vB1 sc "sorted"
  | .intS => vB1 sc "int"
  | .rev => vRev
  | .sset => vSet sc "sorted"
  | .lenset => vSet sc "len"
  | .listRange => vLR sc
  | .upper => vM0 "upper"
  | .neg => vUn .USub
  | .not => vUn .Not
  | .len => vB1 sc "len"
  | .tuple => vB1 sc "tuple"
  | .list => vB1 sc "list"
  | .sorted => vB1 sc "sorted"
  | .sum => vB1 sc "sum"
  | .min => vB1 sc "min"
  | .max => vB1 sc "max"
  | .all => vB1 sc "all"
  | .int => vB1 sc "int"
  | .isTuple => vIsi sc "tuple"
  | .isList => vIsi sc "list"
  | .isInt => vIsi sc "int"
  | .isBool => vIsi sc "bool"
  | .isStr => vIsi sc "str"
  | .isNone => vIs .Is .none
  | .notNone => vIs .IsNot .none
  | .isTrue => vIs .Is (.bool true)
  | .isFalse => vIs .Is (.bool false)
  | .notTrue => vIs .IsNot (.bool true)
  | .notFalse => vIs .IsNot (.bool false)
  | _ => fun _ => none
def v2 (sc : Scope) : O2 → Expr → Option (Expr × Expr)
  | .add => vBin .Add
  | .sub => vBin .Sub
  | .fdiv => vBin .FloorDiv
  | .mod => vBin .Mod
  | .pow => vBin .Pow
  | .eq => vCmp .Eq
  | .ne => vCmp .NotEq
  | .lt => vCmp .Lt
  | .le => vCmp .LtE
  | .gt => vCmp .Gt
  | .ge => vCmp .GtE
  | .isin => vCmp .In
  | .notin => vCmp .NotIn
  | .mul => vBin .Mult
  | .item => vItem
  | .count => vM1 "count"
  | .index => vM1 "index"
  | .join => vM1 "join"
  | .split => vM1 "split"
  | .from_ => vFrom
  | .upto => vUpto
  | .min2 => vB2 sc "min"
  | .max2 => vB2 sc "max"

/-! ### readings -/
section
variable {X : Cx} {K : PySem.W.Frag} {Φ : String → List D → R D}
/-- a value that is True or False, as a test -/
theorem pt_of {e : Expr} {a : E} (h : PE X e (rdE X.K Φ a)) (hp : plainT e = true) : PT X e (rdT X.K Φ a) := by
  refine PT_imp (pt_val h fun w => test_of hp w) fun σ H Q q => ?_
  obtain ⟨F, env, b, h1, h2, h3, h4, g⟩ := q
  exact ⟨F, env, .bl b, h1, h2, h3, h4, fun v F' H' x d => ⟨b, dq_bl d, g F' H' x⟩⟩
/-- one operand -/
theorem rd1 {o : O1} {a : E} {σ : L2.St} {H : Hp} {Q : VK} (h : rdE K Φ (.o1 o a) σ H Q) : rdE K Φ a σ H fun x H1 => r1 K (op1 o) x H1 Q := by
  obtain ⟨F, env, d', h1, h2, h3, h4, g⟩ := h
  rw [ev] at h4
  obtain ⟨d, h5, h6⟩ := R.bind_ok_inv h4
  exact ⟨F, env, d, h1, h2, h3, h5, fun v F' H' x q => ⟨F', d, d', x.sub, q, h6, g.after x⟩⟩
/-- two operands -/
theorem rd2 {o : O2} {a b : E} {σ : L2.St} {H : Hp} {Q : VK} (h : rdE K Φ (.o2 o a b) σ H Q) : rdE K Φ a σ H fun x H1 => rdE K Φ b σ H1 fun y H2 => r2 K (op2 o) x y H2 Q := by
  obtain ⟨F, env, d', h1, h2, h3, h4, g⟩ := h
  rw [ev] at h4
  obtain ⟨d, h5, h6⟩ := R.bind_ok_inv h4
  obtain ⟨e, h7, h8⟩ := R.bind_ok_inv h6
  exact ⟨F, env, d, h1, h2, h3, h5, fun v F' H' x q => ⟨F', env, e, x.sub, h2, h3.mono x.le, h7, fun w F2 H2 x2 q2 =>
    ⟨F2, d, e, d', x2.sub, q.mono x2.le, q2, h8, (g.after x).after x2⟩⟩⟩
theorem rd3 {o : O3} {a b c : E} {σ : L2.St} {H : Hp} {Q : VK} (h : rdE K Φ (.o3 o a b c) σ H Q) : rdE K Φ a σ H fun x H1 => rdE K Φ b σ H1 fun y H2 => rdE K Φ c σ H2 fun z H3 =>
    ∃ F dx dy dz d', Same F H3 ∧ Dq K F x dx ∧ Dq K F y dy ∧ Dq K F z dz ∧ op3 o dx dy dz = .ok d' ∧ Gv K F H3 d' Q := by
  obtain ⟨F, env, d', h1, h2, h3, h4, g⟩ := h
  rw [ev] at h4
  obtain ⟨d, h5, h6⟩ := R.bind_ok_inv h4
  obtain ⟨e, h7, h8⟩ := R.bind_ok_inv h6
  obtain ⟨k, h9, h10⟩ := R.bind_ok_inv h8
  exact ⟨F, env, d, h1, h2, h3, h5, fun v F' H' x q => ⟨F', env, e, x.sub, h2, h3.mono x.le, h7, fun w F2 H2 x2 q2 => ⟨F2, env, k, x2.sub, h2, (h3.mono x.le).mono x2.le, h9, fun z F3 H3 x3 q3 =>
    ⟨F3, d, e, k, d', x3.sub, (q.mono x2.le).mono x3.le, q2.mono x3.le, q3, h10, ((g.after x).after x2).after x3⟩⟩⟩⟩
variable {P : Prog} {C : String → Option D} {n : Nat}
theorem pe_b1 {o : O1} {a : E} {f : String} {id : String} {e a' : Expr} (G : Good X P C n) (hv : vB1 X.env.scope f e = some a') (hf : f ∈ bnames) (hb : bootBuiltins (sN f) = some (.builtin id)) (hc : CallR X (.builtin id) (rc1 X.K (op1 o))) (h : PE X a' (rdE X.K Φ a)) : PE X e (rdE X.K Φ (.o1 o a)) := by
  unfold vB1 at hv
  split at hv
  · rename_i x p b q
    split at hv
    · rename_i hx
      obtain ⟨rfl, h2, h3⟩ := hx
      cases hv
      obtain ⟨g1, g2, g3⟩ := gl_of h2
      refine PE_imp (pe_callB hc g1 (G.bn f hf) hb (pa_cons h pa_nil (star_of h3)) g3 g2 (star_of h3)) fun σ H Q q => ?_
      obtain ⟨F, env, d, h1, h2, h3, h4, g⟩ := rd1 q
      exact ⟨F, env, d, h1, h2, h3, h4, fun v F' H' x z => ⟨v, rfl, g v F' H' x z⟩⟩
    · cases hv
  · cases hv
theorem pe_ty1 {o : O1} {a : E} {f : String} {id : String} {e a' : Expr} (G : Good X P C n) (hv : vB1 X.env.scope f e = some a') (hf : f ∈ bnames) (hb : bootBuiltins (sN f) = some (.type id)) (hc : CallR X (.type id) (rc1 X.K (op1 o))) (h : PE X a' (rdE X.K Φ a)) : PE X e (rdE X.K Φ (.o1 o a)) := by
  unfold vB1 at hv
  split at hv
  · rename_i x p b q
    split at hv
    · rename_i hx
      obtain ⟨rfl, h2, h3⟩ := hx
      cases hv
      obtain ⟨g1, g2, g3⟩ := gl_of h2
      refine PE_imp (pe_callTy hc g1 (G.bn f hf) hb (pa_cons h pa_nil (star_of h3)) g3 g2 (star_of h3)) fun σ H Q q => ?_
      obtain ⟨F, env, d, h1, h2, h3, h4, g⟩ := rd1 q
      exact ⟨F, env, d, h1, h2, h3, h4, fun v F' H' x z => ⟨v, rfl, g v F' H' x z⟩⟩
    · cases hv
  · cases hv
theorem pe_b2 {o : O2} {a b : E} {f : String} {id : String} {e a' b' : Expr} (G : Good X P C n) (hv : vB2 X.env.scope f e = some (a', b')) (hf : f ∈ bnames) (hb : bootBuiltins (sN f) = some (.builtin id)) (hc : CallR X (.builtin id) (rc2 X.K (op2 o))) (h : PE X a' (rdE X.K Φ a)) (h' : PE X b' (rdE X.K Φ b)) : PE X e (rdE X.K Φ (.o2 o a b)) := by
  unfold vB2 at hv
  split at hv
  · rename_i x p b q
    split at hv
    · rename_i hx
      obtain ⟨rfl, h2, h3, h4⟩ := hx
      cases hv
      obtain ⟨g1, g2, g3⟩ := gl_of h2
      refine PE_imp (pe_callB hc g1 (G.bn f hf) hb (pa_cons h (pa_cons h' pa_nil (star_of h4)) (star_of h3)) g3 g2 (star_of h3) (stars_of (by simp [h4]))) fun σ H Q q => ?_
      obtain ⟨F, env, d, h1, h2, h3, h4, g⟩ := rd2 q
      refine ⟨F, env, d, h1, h2, h3, h4, fun v F' H' x z => ?_⟩
      obtain ⟨F2, env2, d2, k1, k2, k3, k4, g2⟩ := g v F' H' x z
      exact ⟨F2, env2, d2, k1, k2, k3, k4, fun w F3 H3 x3 z3 => ⟨v, w, rfl, g2 w F3 H3 x3 z3⟩⟩
    · cases hv
  · cases hv
theorem pe_isi {o : O1} {T : String} {a : E} {e a' : Expr} (G : Good X P C n) (hv : vIsi X.env.scope T e = some a') (hT : T ∈ bnames) (hb : bootBuiltins (sN T) = some (.type T)) (hc : CallR X (.builtin "isinstance") (fun xs H Q => ∃ x, xs = [x, .ty T] ∧ r1 X.K (op1 o) x H Q)) (h : PE X a' (rdE X.K Φ a)) : PE X e (rdE X.K Φ (.o1 o a)) := by
  unfold vIsi at hv
  split at hv
  · rename_i x p b y p2 q
    split at hv
    · rename_i hx
      obtain ⟨rfl, h2, h3, rfl, h4⟩ := hx
      cases hv
      obtain ⟨g1, g2, g3⟩ := gl_of h2
      obtain ⟨k1, k2, k3⟩ := gl_of h4
      refine PE_imp (pe_callB hc g1 (G.bn "isinstance" (by decide)) (by decide +kernel) (pa_cons h (pa_cons (pe_bltn (v := .ty T) k1 (G.bn T hT) hb rfl k3 k2) pa_nil rfl) (star_of h3)) g3 g2 (star_of h3) rfl) fun σ H Q q => ?_
      obtain ⟨F, env, d, h1, h2, h3, h4, g⟩ := rd1 q
      exact ⟨F, env, d, h1, h2, h3, h4, fun v F' H' x z => ⟨v, rfl, g v F' H' x z⟩⟩
    · cases hv
  · cases hv
theorem pe_bin {o : O2} {op : Operator} {a b : E} {e a' b' : Expr} (hv : vBin op e = some (a', b')) (hc : OpR X (binaryOp op) (r2 X.K (op2 o))) (h : PE X a' (rdE X.K Φ a)) (h' : PE X b' (rdE X.K Φ b)) : PE X e (rdE X.K Φ (.o2 o a b)) ∧ plainT e = true := by
  unfold vBin at hv
  split at hv
  · split at hv
    · rename_i hx
      subst hx
      cases hv
      exact ⟨PE_imp (pe_op hc h h') fun σ H Q q => rd2 q, rfl⟩
    · cases hv
  · cases hv
theorem pe_cmp2 {o : O2} {op : CmpOp} {a b : E} {e a' b' : Expr} (hv : vCmp op e = some (a', b')) (hc : OpR X (compareOp op) (r2 X.K (op2 o))) (h : PE X a' (rdE X.K Φ a)) (h' : PE X b' (rdE X.K Φ b)) : PE X e (rdE X.K Φ (.o2 o a b)) ∧ PT X e (rdT X.K Φ (.o2 o a b)) := by
  unfold vCmp at hv
  split at hv
  · split at hv
    · rename_i hx
      obtain ⟨rfl, hm⟩ := hx
      cases hv
      refine ⟨PE_imp (pe_cmpR hc h h' (mark_of hm)) fun σ H Q q => rd2 q, PT_imp (pt_cmpR hc h h' (mark_of hm)) fun σ H Q q => ?_⟩
      obtain ⟨F, env, b, h1, h2, h3, h4, g⟩ := q
      exact rd2 ⟨F, env, .bl b, h1, h2, h3, h4, fun v F' H' x d => ⟨b, dq_bl d, g F' H' x⟩⟩
    · cases hv
  · cases hv
theorem pe_item {a b : E} {e a' b' : Expr} (hv : vItem e = some (a', b')) (h : PE X a' (rdE X.K Φ a)) (h' : PE X b' (rdE X.K Φ b)) : PE X e (rdE X.K Φ (.o2 .item a b)) ∧ plainT e = true := by
  unfold vItem at hv
  split at hv
  · split at hv
    · rename_i hx
      cases hv
      exact ⟨PE_imp (pe_ix i_item h h' (plainIx_of hx)) fun σ H Q q => rd2 q, rfl⟩
    · cases hv
  · cases hv
theorem o_is {c : Const} {v : V} {op : CmpOp} {o : O1} {a : E} {e a' : Expr} (hv : vIs op c e = some a') (hc : ∀ {j pos}, PE X (.Constant c j pos) (tC v)) (hr : OpR X (compareOp op) (fun x y H Q => y = v ∧ r1 X.K (op1 o) x H Q)) (h : PE X a' (rdE X.K Φ a)) :
    PE X e (rdE X.K Φ (.o1 o a)) ∧ PT X e (rdT X.K Φ (.o1 o a)) := by
  unfold vIs at hv
  split at hv
  · split at hv
    · rename_i hx
      obtain ⟨rfl, rfl⟩ := hx
      cases hv
      refine ⟨PE_imp (pe_cmpR hr h hc (mark_of rfl)) fun σ H Q q => ?_, PT_imp (pt_cmpR hr h hc (mark_of rfl)) fun σ H Q q => ?_⟩
      · obtain ⟨F, env, d, h1, h2, h3, h4, g⟩ := rd1 q
        exact ⟨F, env, d, h1, h2, h3, h4, fun w F' H' x z => ⟨rfl, g w F' H' x z⟩⟩
      · obtain ⟨F, env, b, h1, h2, h3, h4, g⟩ := q
        obtain ⟨F, env, d, h1, h2, h3, h4, g⟩ := rd1 (K := X.K) (Φ := Φ) (Q := fun x H' => ∃ k, x = .bl k ∧ Q k H') ⟨F, env, .bl b, h1, h2, h3, h4, fun v F' H' x d => ⟨b, dq_bl d, g F' H' x⟩⟩
        exact ⟨F, env, d, h1, h2, h3, h4, fun w F' H' x z => ⟨rfl, g w F' H' x z⟩⟩
    · cases hv
  · cases hv
theorem i_none : OpR X (compareOp .Is) (fun x y H Q => y = .non ∧ r1 X.K (op1 .isNone) x H Q) := by
  intro pins s σ H x y v u Q I rx ry h
  obtain ⟨rfl, F, d, d', hs, hx, hg, g⟩ := h
  refine op_isN pins s σ H _ _ v u Q I rx ry ⟨rfl, ?_⟩
  cases hx <;> first | (cases hg; done) | (cases hg; exact gv_bl _ g hs)
theorem i_notnone : OpR X (compareOp .IsNot) (fun x y H Q => y = .non ∧ r1 X.K (op1 .notNone) x H Q) := by
  intro pins s σ H x y v u Q I rx ry h
  obtain ⟨rfl, F, d, d', hs, hx, hg, g⟩ := h
  refine op_notN pins s σ H _ _ v u Q I rx ry ⟨rfl, ?_⟩
  cases hx <;> first | (cases hg; done) | (cases hg; exact gv_bl _ g hs)
theorem i_bl {o : O1} {c : Bool} {f : Bool → Bool} (ho : op1 o = isBl f) (hf : ∀ b, f b = decide (b = c)) : OpR X (compareOp .Is) (fun x y H Q => y = .bl c ∧ r1 X.K (op1 o) x H Q) := by
  intro pins s σ H x y v u Q I rx ry h
  obtain ⟨rfl, F, d, d', hs, hx, hg, g⟩ := h
  rw [ho] at hg
  cases hx <;> first | (cases hg; done) | skip
  cases hg
  refine op_is_bl pins s σ H _ _ v u Q I rx ry ⟨_, _, rfl, rfl, ?_⟩
  rw [← hf]
  exact gv_bl _ g hs
theorem i_notbl {o : O1} {c : Bool} {f : Bool → Bool} (ho : op1 o = isBl f) (hf : ∀ b, f b = !decide (b = c)) : OpR X (compareOp .IsNot) (fun x y H Q => y = .bl c ∧ r1 X.K (op1 o) x H Q) := by
  intro pins s σ H x y v u Q I rx ry h
  obtain ⟨rfl, F, d, d', hs, hx, hg, g⟩ := h
  rw [ho] at hg
  cases hx <;> first | (cases hg; done) | skip
  cases hg
  refine op_isnot_bl pins s σ H _ _ v u Q I rx ry ⟨_, _, rfl, rfl, ?_⟩
  rw [← hf]
  exact gv_bl _ g hs
theorem callPlain1 {sc : Scope} {f : String} {e a' : Expr} (hv : vB1 sc f e = some a') : plainT e = true := by
  unfold vB1 at hv
  split at hv
  · rfl
  · cases hv
theorem callPlain2 {sc : Scope} {f : String} {e : Expr} {p : Expr × Expr} (hv : vB2 sc f e = some p) : plainT e = true := by
  unfold vB2 at hv
  split at hv
  · rfl
  · cases hv
theorem isiPlain {sc : Scope} {f : String} {e a' : Expr} (hv : vIsi sc f e = some a') : plainT e = true := by
  unfold vIsi at hv
  split at hv
  · rfl
  · cases hv

theorem vUn_eq {op : UnaryOp} {e a' : Expr} (hv : vUn op e = some a') : ∃ pos, e = .UnaryOp op a' pos := by
  unfold vUn at hv
  split at hv
  · split at hv
    · rename_i hx
      subst hx
      cases hv
      exact ⟨_, rfl⟩
    · cases hv
  · cases hv
theorem few_of {e : Expr} {cpos : Pos} {env : PySem.Env} (h : isStar e = false) : ((backTo cpos (starEach [e] env)).all (fun x => !x.1) && (backToKw cpos (keywordEach [] env)).all (fun x => x.1.isSome)
      && decide (([e] : List Expr).length + ([] : List Keyword).length + (if ([] : List Keyword).isEmpty then 0 else 1) < 30)) = true := by
  cases e <;> first | rfl | (simp [isStar] at h)
theorem vM1_eq {m : String} {e : Expr} {q : Expr × Expr} (hv : vM1 m e = some q) : ∃ p cp, e = .Call (.Attribute q.1 (sN m) p) [q.2] [] cp ∧ isStar q.2 = false ∧ isCall0 q.1 = false ∧ (p.endLine == cp.line) = true := by
  unfold vM1 at hv
  split at hv
  · split at hv
    · rename_i hx
      obtain ⟨rfl, h2, h3, h4⟩ := hx
      cases hv
      exact ⟨_, _, rfl, h2, h3, h4⟩
    · cases hv
  · cases hv
theorem pe_m1D {o : O2} {m : String} {a b : E} {e o' a' : Expr} (hv : vM1 m e = some (o', a')) (hm : ∀ d y d', op2 o d y = .ok d' → MRule X (sN m) (op2 o) d) (ho : PE X o' (rdE X.K Φ a)) (ha : PE X a' (rdE X.K Φ b)) : PE X e (rdE X.K Φ (.o2 o a b)) ∧ plainT e = true := by
  obtain ⟨apos, cpos, rfl, h2, h3, h4⟩ := vM1_eq hv
  refine ⟨⟨fun pins s σ H Q I h => ?_⟩, rfl⟩
  obtain ⟨F, env, d', k1, k2, k3, k4, g⟩ := h
  rw [ev] at k4
  obtain ⟨d, k5, k6⟩ := R.bind_ok_inv k4
  obtain ⟨y, k7, k8⟩ := R.bind_ok_inv k6
  obtain ⟨T, id, pa, slot, hty, ty, run⟩ := hm d y d' k8
  refine wpAny_Call_method_late (base_of h3) (few_of h2) h4 rfl (thn (ho.run pins s σ H (fun x H1 => ∃ F1, Ext F H F1 H1 ∧ Dq X.K F1 x d) I ⟨F, env, d, k1, k2, k3, k5, fun v F' H' e1 q1 => ⟨F', e1, q1⟩⟩) fun v s1 ⟨x, H1, I1, r1, F1, e1, q1⟩ => ?_)
  obtain ⟨z1, z2⟩ := tyD_is I1 e1.sub r1 q1 ty
  refine ⟨T, id, pa, slot, hty, z1, z2, ?_⟩
  have hA := (pa_cons ha pa_nil (star_of h2)).run cpos pins s1 σ H1 (fun xs H2 => ∃ w F2, xs = [w] ∧ Ext F1 H1 F2 H2 ∧ Dq X.K F2 w y) I1 ⟨F1, env, y, e1.sub, k2, k3.mono e1.le, k7, fun w F2 H2 e2 q2 => ⟨w, F2, rfl, e2, q2⟩⟩
  rw [star_of h2] at hA ⊢
  refine Calls.callWith_builtin rfl (Calls.evalArgs_plain ?_)
  refine thn hA fun us s2 ⟨vs, H2, I2, r2, w, F2, ew, e2, q2⟩ => ?_
  subst ew
  obtain ⟨u, rfl, ru⟩ := vals1 r2
  exact run pins s2 σ F2 H2 x w v u Q y d' I2 r1 ru e2.sub (q1.mono e2.le) q2 k8 ((g.after e1).after e2)
/-! slices -/
theorem pe_fromD {a b : E} {e a' b' : Expr} (hv : vFrom e = some (a', b')) (h : PE X a' (rdE X.K Φ a)) (h' : PE X b' (rdE X.K Φ b)) : PE X e (rdE X.K Φ (.o2 .from_ a b)) ∧ plainT e = true := by
  unfold vFrom at hv
  split at hv
  · cases hv
    refine ⟨PE_imp (pe_slice sl_D h (po_some h') po_none) fun σ H Q q => ?_, rfl⟩
    obtain ⟨F, env, d, h1, h2, h3, h4, g⟩ := rd2 q
    refine ⟨F, env, d, h1, h2, h3, h4, fun v F' H' x z => ?_⟩
    obtain ⟨F2, env2, d2, k1, k2, k3, k4, g2⟩ := g v F' H' x z
    refine ⟨F2, env2, d2, k1, k2, k3, k4, fun w F3 H3 x3 z3 => ?_⟩
    obtain ⟨F4, dx, dy, dz, j1, j2, j3, j4, j5⟩ := g2 w F3 H3 x3 z3
    cases dy with
    | int i => exact ⟨i, dq_int j3, F4, dx, dz, j1, j2, j4, j5⟩
    | _ => cases j4
  · cases hv
theorem pe_uptoD {a b : E} {e a' b' : Expr} (hv : vUpto e = some (a', b')) (h : PE X a' (rdE X.K Φ a)) (h' : PE X b' (rdE X.K Φ b)) : PE X e (rdE X.K Φ (.o2 .upto a b)) ∧ plainT e = true := by
  unfold vUpto at hv
  split at hv
  · cases hv
    refine ⟨PE_imp (pe_slice sl_D h po_none (po_some h')) fun σ H Q q => ?_, rfl⟩
    obtain ⟨F, env, d, h1, h2, h3, h4, g⟩ := rd2 q
    refine ⟨F, env, d, h1, h2, h3, h4, fun v F' H' x z => ?_⟩
    obtain ⟨F2, env2, d2, k1, k2, k3, k4, g2⟩ := g v F' H' x z
    refine ⟨F2, env2, d2, k1, k2, k3, k4, fun w F3 H3 x3 z3 => ?_⟩
    obtain ⟨F4, dx, dy, dz, j1, j2, j3, j4, j5⟩ := g2 w F3 H3 x3 z3
    cases dy with
    | int i => exact ⟨i, dq_int j3, F4, dx, dz, j1, j2, j4, j5⟩
    | _ => cases j4
  · cases hv
theorem pe_cutD {a b c : E} {e a' b' c' : Expr} (hv : vCut e = some (a', b', c')) (h : PE X a' (rdE X.K Φ a)) (h' : PE X b' (rdE X.K Φ b)) (h'' : PE X c' (rdE X.K Φ c)) : PE X e (rdE X.K Φ (.o3 .cut a b c)) ∧ plainT e = true := by
  unfold vCut at hv
  split at hv
  · cases hv
    refine ⟨PE_imp (pe_slice sl_D h (po_some h') (po_some h'')) fun σ H Q q => ?_, rfl⟩
    obtain ⟨F, env, d', h1, h2, h3, h4, g⟩ := q
    rw [ev] at h4
    obtain ⟨d, h5, h6⟩ := R.bind_ok_inv h4
    obtain ⟨e, h7, h8⟩ := R.bind_ok_inv h6
    obtain ⟨k, h9, h10⟩ := R.bind_ok_inv h8
    cases e with
    | int i =>
      cases k with
      | int j =>
        exact ⟨F, env, d, h1, h2, h3, h5, fun v F' H' x q => ⟨F', env, _, x.sub, h2, h3.mono x.le, h7, fun w F2 H2 x2 q2 => ⟨i, dq_int q2, F2, env, _, x2.sub, h2, (h3.mono x.le).mono x2.le, h9, fun z F3 H3 x3 q3 =>
          ⟨j, dq_int q3, F3, d, d', x3.sub, (q.mono x2.le).mono x3.le, h10, ((g.after x).after x2).after x3⟩⟩⟩⟩
      | _ => cases h10
    | _ => cases h10
  · cases hv
theorem o_rev {a : E} {e a' : Expr} (hv : vRev e = some a') (h : PE X a' (rdE X.K Φ a)) : PE X e (rdE X.K Φ (.o1 .rev a)) ∧ PT X e (rdT X.K Φ (.o1 .rev a)) := by
  unfold vRev at hv
  split at hv
  · split at hv
    · rename_i hx
      subst hx
      cases hv
      exact ⟨pe_revD h, pt_of (pe_revD h) rfl⟩
    · cases hv
  · cases hv
theorem rgV_ints (n : Int) : rgV 0 n = ((List.range (n - 0).toNat).map fun k => (0 : Int) + (k : Nat)).map V.int := by
  rw [rgV, List.map_map]
  rfl
theorem o_lr (G : Good X P C n) {a : E} {e a' : Expr} (hv : vLR X.env.scope e = some a') (h : PE X a' (rdE X.K Φ a)) : PE X e (rdE X.K Φ (.o1 .listRange a)) ∧ PT X e (rdT X.K Φ (.o1 .listRange a)) := by
  unfold vLR at hv
  split at hv
  · split at hv
    · rename_i hx
      obtain ⟨rfl, h2, rfl, h3, h4⟩ := hx
      cases hv
      obtain ⟨g1, g2, g3⟩ := gl_of h2
      obtain ⟨k1, k2, k3⟩ := gl_of h3
      suffices r : PE X _ (rdE X.K Φ (.o1 .listRange a)) from ⟨r, pt_of r rfl⟩
      · refine PE_imp (pe_listRg G.calm g1 (G.bn "list" (by decide)) (prg_1 k1 (G.bn "range" (by decide)) h (star_of h4))) fun σ H Q q => ?_
        obtain ⟨F, env, d, j1, j2, j3, j4, g⟩ := rd1 q
        refine ⟨F, env, d, j1, j2, j3, j4, fun v F' H' x z => ?_⟩
        obtain ⟨F2, d2, d3, i1, i2, i3, i4⟩ := g v F' H' x z
        cases i2 with
        | int i =>
          obtain ⟨w1, w2⟩ := R.chk_ok_inv (show R.chk _ _ = _ from i3)
          cases w2
          rw [Bool.and_eq_true] at w1
          have w3 := bigI_of' w1.1
          have w4 := of_decide_eq_true w1.2
          refine ⟨i, rfl, ⟨by omega, by omega, by omega, by omega, by omega⟩, fun p hp => ?_⟩
          rw [rgV_ints]
          have ei : rangeL 0 i = ((List.range (i - 0).toNat).map fun k => (0 : Int) + (k : Nat)).map D.int := by rw [rangeL, List.map_map]; rfl
          rw [ei] at i4
          exact gv_lst _ i4 i1 (dqs_ints _) p hp
        | _ => cases i3
    · cases hv
  · cases hv
theorem setOk_inv {xs : List D} (h : setOk xs = true) : tupsB xs = true ∧ numsD 8 xs = true ∧ (dedup xs).length < 64 := by
  rw [setOk, Bool.and_eq_true, Bool.and_eq_true] at h
  exact ⟨h.1.1, h.1.2, of_decide_eq_true h.2⟩
theorem itemsD_dq {K : PySem.W.Frag} {F : Hp} {x : V} {d : D} {xs : List D} (q : Dq K F x d) (h : itemsD d = some xs) : Dq K F x (.lst xs) ∨ Dq K F x (.tup xs) := by
  cases q with
  | lst e q => cases h; exact .inl (.lst e q)
  | tup e o q => cases h; exact .inr (.tup e o q)
  | _ => cases h
theorem o_set (G : Good X P C n) {o : O1} {f : String} {a : E} {e a' : Expr} {r : List V → Hp → VK → Prop} (hv : vSet X.env.scope f e = some a') (hf : f ∈ bnames) (hb : bootBuiltins (sN f) = some (.builtin f)) (hc : CallR X (.builtin f) r) (h : PE X a' (rdE X.K Φ a))
    (hr : ∀ {F H : Hp} {x : V} {d d' : D} {Q : VK}, Same F H → Dq X.K F x d → op1 o d = .ok d' → Gv X.K F H d' Q → rSetD X.K X.w [x] H fun v H' => r [v] H' Q) : PE X e (rdE X.K Φ (.o1 o a)) ∧ PT X e (rdT X.K Φ (.o1 o a)) := by
  unfold vSet at hv
  split at hv
  · split at hv
    · rename_i hx
      obtain ⟨rfl, h2, rfl, h3, h4⟩ := hx
      cases hv
      obtain ⟨g1, g2, g3⟩ := gl_of h2
      obtain ⟨k1, k2, k3⟩ := gl_of h3
      suffices r : PE X _ (rdE X.K Φ (.o1 o a)) from ⟨r, pt_of r rfl⟩
      refine PE_imp (pe_callB hc g1 (G.bn f hf) hb (pa_cons (pe_callTy (c_set G.calm G.un) k1 (G.bn "set" (by decide)) (by decide +kernel) (pa_cons h pa_nil (star_of h4)) k3 k2 (star_of h4)) pa_nil rfl) g3 g2 rfl) fun σ H Q q => ?_
      obtain ⟨F, env, d, j1, j2, j3, j4, g⟩ := rd1 q
      refine ⟨F, env, d, j1, j2, j3, j4, fun v F' H' x z => ?_⟩
      obtain ⟨F2, d2, d3, i1, i2, i3, i4⟩ := g v F' H' x z
      exact hr i1 i2 i3 i4
    · cases hv
  · cases hv
theorem o_sset (G : Good X P C n) {a : E} {e a' : Expr} (hv : vSet X.env.scope "sorted" e = some a') (h : PE X a' (rdE X.K Φ a)) : PE X e (rdE X.K Φ (.o1 .sset a)) ∧ PT X e (rdT X.K Φ (.o1 .sset a)) := by
  refine o_set G hv (by decide) (by decide +kernel) (c_sortedN G.calm G.un) h fun {F H x d d' Q} hs q k g => ?_
  have k : ssetD d = .ok d' := k
  unfold ssetD at k
  split at k
  · rename_i xs hx
    obtain ⟨k1, k2⟩ := R.chk_ok_inv k
    obtain ⟨m1, m2, m3⟩ := setOk_inv k1
    obtain ⟨w1, w2⟩ := R.chk_ok_inv (show R.chk _ _ = _ from k2)
    cases w2
    rw [Bool.and_eq_true, Bool.and_eq_true, Bool.and_eq_true] at w1
    refine ⟨x, F, xs, rfl, hs, itemsD_dq q hx, m1, m2, m3, fun a L es ha he hp => ?_⟩
    exact ⟨a, L, F, es, dedup xs, rfl, upd_same, (Ext.more hs ha).sub, he, hp, m3, w1.1.1.1, w1.1.1.2, w1.1.2, g.after (Ext.more hs ha)⟩
  · cases k
theorem o_lenset (G : Good X P C n) {a : E} {e a' : Expr} (hv : vSet X.env.scope "len" e = some a') (h : PE X a' (rdE X.K Φ a)) : PE X e (rdE X.K Φ (.o1 .lenset a)) ∧ PT X e (rdT X.K Φ (.o1 .lenset a)) := by
  refine o_set G hv (by decide) (by decide +kernel) c_lenN h fun {F H x d d' Q} hs q k g => ?_
  have k : lensetD d = .ok d' := k
  unfold lensetD at k
  split at k
  · rename_i xs hx
    obtain ⟨k1, k2⟩ := R.chk_ok_inv k
    obtain ⟨m1, m2, m3⟩ := setOk_inv k1
    cases k2
    refine ⟨x, F, xs, rfl, hs, itemsD_dq q hx, m1, m2, m3, fun a L es ha he hp => ?_⟩
    have hl : L.length = (dedup xs).length := by
      have := he.length
      rw [List.length_map] at this
      have := hp.length_eq
      omega
    exact ⟨a, L, F, _, rfl, upd_same, (Ext.more hs ha).sub, hl, m3, g.after (Ext.more hs ha)⟩
  · cases k
theorem o_upper {a : E} {e a' : Expr} (hv : vM0 "upper" e = some a') (h : PE X a' (rdE X.K Φ a)) : PE X e (rdE X.K Φ (.o1 .upper a)) ∧ PT X e (rdT X.K Φ (.o1 .upper a)) := by
  unfold vM0 at hv
  split at hv
  · split at hv
    · rename_i hx
      obtain ⟨rfl, h2, h3⟩ := hx
      cases hv
      suffices r : PE X _ (rdE X.K Φ (.o1 .upper a)) from ⟨r, pt_of r rfl⟩
      · refine PE_imp (pe_upper h (base_of h2) h3) fun σ H Q q => ?_
        obtain ⟨F, env, d, j1, j2, j3, j4, g⟩ := rd1 q
        refine ⟨F, env, d, j1, j2, j3, j4, fun v F' H' x z => ?_⟩
        obtain ⟨F2, d2, d3, i1, i2, i3, i4⟩ := g v F' H' x z
        cases i2 with
        | str y =>
          obtain ⟨w1, w2⟩ := R.chk_ok_inv (show R.chk _ _ = _ from i3)
          cases w2
          rw [Bool.and_eq_true] at w1
          refine ⟨⟨_, rfl⟩, _, rfl, rfl, by rw [len_toStr]; exact of_decide_eq_true w1.2, ?_⟩
          rw [upper_toStr w1.1]
          exact gv_str _ i4 i1
        | _ => cases i3
    · cases hv
  · cases hv
/-- one operand: the text's look gives its reading -/
theorem s_o1 (G : Good X P C n) {o : O1} {a : E} {e a' : Expr} (hv : v1 X.env.scope o e = some a') (h : PE X a' (rdE X.K Φ a)) (ht : PT X a' (rdT X.K Φ a)) : PE X e (rdE X.K Φ (.o1 o a)) ∧ PT X e (rdT X.K Φ (.o1 o a)) := by
  cases o with
  | neg =>
    obtain ⟨pos, rfl⟩ := vUn_eq (show vUn .USub e = some a' from hv)
    have r : PE X (.UnaryOp .USub a' pos) (rdE X.K Φ (.o1 .neg a)) := PE_imp (pe_un u_neg h) fun σ H Q q => rd1 q
    exact ⟨r, pt_of r rfl⟩
  | not =>
    obtain ⟨pos, rfl⟩ := vUn_eq (show vUn .Not e = some a' from hv)
    refine ⟨PE_imp (pe_not h) fun σ H Q q => ?_, PT_imp (pt_not ht) fun σ H Q q => ?_⟩
    · obtain ⟨F, env, d, h1, h2, h3, h4, g⟩ := q
      rw [ev] at h4
      obtain ⟨d1, h5, h6⟩ := R.bind_ok_inv h4
      refine ⟨F, env, d1, h1, h2, h3, h5, fun v F' H' x q => ?_⟩
      cases q <;> first | (cases h6; done) | skip
      cases h6
      exact ⟨_, rfl, gv_bl _ (g.after x) x.sub⟩
    · obtain ⟨F, env, b, h1, h2, h3, h4, g⟩ := q
      rw [ev] at h4
      obtain ⟨d1, h5, h6⟩ := R.bind_ok_inv h4
      cases d1 <;> first | (cases h6; done) | skip
      rename_i c
      have e : (!c) = b := by injection h6 with z; injection z
      exact ⟨F, env, c, h1, h2, h3, h5, fun F' H' x => by show Q (!c) H'; rw [e]; exact g F' H' x⟩
  | len => have r := pe_b1 (o := .len) (Φ := Φ) G hv (by decide) PySem.boot_len c_len h; exact ⟨r, pt_of r (callPlain1 hv)⟩
  | tuple => have r := pe_ty1 (o := .tuple) (Φ := Φ) G hv (by decide) (by decide +kernel) c_tuple h; exact ⟨r, pt_of r (callPlain1 hv)⟩
  | list => have r := pe_ty1 (o := .list) (Φ := Φ) G hv (by decide) (by decide +kernel) (c_list G.calm) h; exact ⟨r, pt_of r (callPlain1 hv)⟩
  | sorted => have r := pe_b1 (o := .sorted) (Φ := Φ) G hv (by decide) (by decide +kernel) (c_sorted G.un) h; exact ⟨r, pt_of r (callPlain1 hv)⟩
  | sum => have r := pe_b1 (o := .sum) (Φ := Φ) G hv (by decide) (by decide +kernel) (c_sum G.calm) h; exact ⟨r, pt_of r (callPlain1 hv)⟩
  | min => have r := pe_b1 (o := .min) (Φ := Φ) G hv (by decide) (by decide +kernel) (c_min G.calm G.un) h; exact ⟨r, pt_of r (callPlain1 hv)⟩
  | max => have r := pe_b1 (o := .max) (Φ := Φ) G hv (by decide) (by decide +kernel) (c_max G.calm G.un) h; exact ⟨r, pt_of r (callPlain1 hv)⟩
  | all => have r := pe_b1 (o := .all) (Φ := Φ) G hv (by decide) (by decide +kernel) (c_all G.calm) h; exact ⟨r, pt_of r (callPlain1 hv)⟩
  | int => have r := pe_ty1 (o := .int) (Φ := Φ) G hv (by decide) (by decide +kernel) c_int h; exact ⟨r, pt_of r (callPlain1 hv)⟩
  | isTuple => have r := pe_isi (o := .isTuple) (Φ := Φ) G hv (by decide) (by decide +kernel) c_isTuple h; exact ⟨r, pt_of r (isiPlain hv)⟩
  | isList => have r := pe_isi (o := .isList) (Φ := Φ) G hv (by decide) (by decide +kernel) c_isList h; exact ⟨r, pt_of r (isiPlain hv)⟩
  | isInt => have r := pe_isi (o := .isInt) (Φ := Φ) G hv (by decide) (by decide +kernel) c_isInt h; exact ⟨r, pt_of r (isiPlain hv)⟩
  | isBool => have r := pe_isi (o := .isBool) (Φ := Φ) G hv (by decide) (by decide +kernel) c_isBool h; exact ⟨r, pt_of r (isiPlain hv)⟩
  | isStr => have r := pe_isi (o := .isStr) (Φ := Φ) G hv (by decide) (by decide +kernel) c_isStr h; exact ⟨r, pt_of r (isiPlain hv)⟩
  | str => have r := pe_ty1 (o := .str) (Φ := Φ) G hv (by decide) (by decide +kernel) c_str h; exact ⟨r, pt_of r (callPlain1 hv)⟩
  | sortedS => have r := pe_b1 (o := .sortedS) (Φ := Φ) G hv (by decide) (by decide +kernel) (c_sortedS G.calm G.un) h; exact ⟨r, pt_of r (callPlain1 hv)⟩
  | intS => have r := pe_ty1 (o := .intS) (Φ := Φ) G hv (by decide) (by decide +kernel) c_intS h; exact ⟨r, pt_of r (callPlain1 hv)⟩
  | rev => exact o_rev hv h
  | sset => exact o_sset G hv h
  | lenset => exact o_lenset G hv h
  | listRange => exact o_lr G hv h
  | upper => exact o_upper hv h
  | isNone => exact o_is hv pe_non i_none h
  | notNone => exact o_is hv pe_non i_notnone h
  | isTrue => exact o_is hv pe_bl (i_bl rfl fun b => by cases b <;> rfl) h
  | isFalse => exact o_is hv pe_bl (i_bl rfl fun b => by cases b <;> rfl) h
  | notTrue => exact o_is hv pe_bl (i_notbl rfl fun b => by cases b <;> rfl) h
  | notFalse => exact o_is hv pe_bl (i_notbl rfl fun b => by cases b <;> rfl) h
  | _ => cases hv
theorem s_o2 (G : Good X P C n) {o : O2} {a b : E} {e a' b' : Expr} (hv : v2 X.env.scope o e = some (a', b')) (h : PE X a' (rdE X.K Φ a)) (h' : PE X b' (rdE X.K Φ b)) : PE X e (rdE X.K Φ (.o2 o a b)) ∧ PT X e (rdT X.K Φ (.o2 o a b)) := by
  have hu := G.un
  cases o with
  | add => have r := pe_bin (o := .add) (Φ := Φ) hv o_add h h'; exact ⟨r.1, pt_of r.1 r.2⟩
  | sub => have r := pe_bin (o := .sub) (Φ := Φ) hv o_sub h h'; exact ⟨r.1, pt_of r.1 r.2⟩
  | fdiv => have r := pe_bin (o := .fdiv) (Φ := Φ) hv o_fdiv h h'; exact ⟨r.1, pt_of r.1 r.2⟩
  | mod => have r := pe_bin (o := .mod) (Φ := Φ) hv o_mod h h'; exact ⟨r.1, pt_of r.1 r.2⟩
  | pow => have r := pe_bin (o := .pow) (Φ := Φ) hv o_pow h h'; exact ⟨r.1, pt_of r.1 r.2⟩
  | eq => exact pe_cmp2 hv (o_eq hu) h h'
  | ne => exact pe_cmp2 hv (o_ne hu) h h'
  | lt => exact pe_cmp2 hv o_lt h h'
  | le => exact pe_cmp2 hv (o_le hu) h h'
  | gt => exact pe_cmp2 hv o_gt h h'
  | ge => exact pe_cmp2 hv o_ge h h'
  | isin => exact pe_cmp2 hv (o_in hu) h h'
  | notin => exact pe_cmp2 hv (o_notin hu) h h'
  | item => have r := pe_item (Φ := Φ) hv h h'; exact ⟨r.1, pt_of r.1 r.2⟩
  | mul => have r := pe_bin (o := .mul) (Φ := Φ) hv o_mul h h'; exact ⟨r.1, pt_of r.1 r.2⟩
  | count => have r := pe_m1D (o := .count) (Φ := Φ) hv (fun d y d' q => by cases d <;> first | (cases q; done) | exact m_countL hu _ | exact m_countT hu _ | exact m_countS _) h h'; exact ⟨r.1, pt_of r.1 r.2⟩
  | index => have r := pe_m1D (o := .index) (Φ := Φ) hv (fun d y d' q => by cases d <;> first | (cases q; done) | exact m_indexL hu _ | exact m_indexT hu _ | exact m_indexS _) h h'; exact ⟨r.1, pt_of r.1 r.2⟩
  | join => have r := pe_m1D (o := .join) (Φ := Φ) hv (fun d y d' q => by cases d <;> first | (cases q; done) | exact m_join _) h h'; exact ⟨r.1, pt_of r.1 r.2⟩
  | split => have r := pe_m1D (o := .split) (Φ := Φ) hv (fun d y d' q => by cases d <;> first | (cases q; done) | exact m_split _) h h'; exact ⟨r.1, pt_of r.1 r.2⟩
  | from_ => have r := pe_fromD (Φ := Φ) hv h h'; exact ⟨r.1, pt_of r.1 r.2⟩
  | upto => have r := pe_uptoD (Φ := Φ) hv h h'; exact ⟨r.1, pt_of r.1 r.2⟩
  | min2 => have r := pe_b2 (o := .min2) (Φ := Φ) G hv (by decide) (by decide +kernel) (c_min2 G.calm) h h'; exact ⟨r, pt_of r (callPlain2 hv)⟩
  | max2 => have r := pe_b2 (o := .max2) (Φ := Φ) G hv (by decide) (by decide +kernel) (c_max2 G.calm) h h'; exact ⟨r, pt_of r (callPlain2 hv)⟩
end
end OC

/-! Part S5: targets, walks, comprehensions. -/
namespace OC
open PySem PySem.Spec PyProof.Rows L2

/-! ### targets -/
def gT (K : PySem.W.Frag) : T → TG
  | .nm i => gName i
  | .p2 a b => gTup K 2 (gCons (gT K a) (gCons (gT K b) gNil))
  | .p3 a b c => gTup K 3 (gCons (gT K a) (gCons (gT K b) (gCons (gT K c) gNil)))
def isTgt : Expr → Bool
  | .Name .. => true
  | .Tuple .. => true
  | _ => false
def chkT (N : List Str) (sc : Scope) (fn : Str → Bool) : T → Expr → Bool
  | .nm i, .Name x _ => decide (N[i]? = some x) && (match sc.names.lookup x with
    | some .local => true
    | some .cell => fn x
    | _ => false)
  | .p2 a b, .Tuple [x, y] _ _ => chkT N sc fn a x && chkT N sc fn b y
  | .p3 a b c, .Tuple [x, y, z] _ _ => chkT N sc fn a x && (chkT N sc fn b y && chkT N sc fn c z)
  | _, _ => false
theorem tgt_of {N : List Str} {sc : Scope} {fn : Str → Bool} {t : T} {e : Expr} (h : chkT N sc fn t e = true) : isTgt e = true := by
  unfold chkT at h
  split at h
  · rfl
  · rfl
  · rfl
  · cases h
theorem ae2 {x y : Expr} {env : PySem.Env} (hx : isTgt x = true) (hy : isTgt y = true) : assignEach [x, y] env = [(false, assign x env), (false, assign y env)] := by
  cases x <;> first | (cases hx; done) | (cases y <;> first | (cases hy; done) | rfl)
theorem ae1 {x : Expr} {es : List Expr} {env : PySem.Env} (hx : isTgt x = true) : assignEach (x :: es) env = (false, assign x env) :: assignEach es env := by
  cases x <;> first | (cases hx; done) | rfl
section
variable {X : Cx}
theorem pg_of (hc : X.calm = true) (hN : X.N.Nodup) : ∀ (t : T) (e : Expr), chkT X.N X.env.scope X.fn t e = true → PG X e (gT X.K t)
  | .nm i, e, h => by
    cases e with
    | Name x p =>
      simp only [chkT, Bool.and_eq_true, decide_eq_true_eq] at h
      have h2 := h.2
      cases e2 : X.env.scope.names.lookup x with
      | none => rw [e2] at h2; cases h2
      | some k =>
        rw [e2] at h2
        cases k <;> first | (cases h2; done) | skip
        · exact pg_name hN h.1 (.inl e2) (.inr e2)
        · exact pg_name hN h.1 (.inr e2) (.inl h2)
    | _ => simp [chkT] at h
  | .p2 a b, e, h => by
    unfold chkT at h
    split at h <;> first | (cases h; done) | skip
    · contradiction
    · rename_i a1 b1 x y k p heq
      cases heq
      rw [Bool.and_eq_true] at h
      have t1 := tgt_of h.1
      have t2 := tgt_of h.2
      have p1 := pg_of hc hN a x h.1
      have p2 := pg_of hc hN b y h.2
      refine pg_tup hc (pgs_cons p1 (pgs_cons p2 pgs_nil (by rw [ae1 t2]; rfl)) (by rw [ae1 t1]; rfl)) (by rw [ae1 t1, ae1 t2]; rfl) (by rw [ae1 t1, ae1 t2]; rfl)
    · contradiction
  | .p3 a b c, e, h => by
    unfold chkT at h
    split at h <;> first | (cases h; done) | skip
    · contradiction
    · contradiction
    · rename_i a1 b1 c1 x y z k p heq
      cases heq
      rw [Bool.and_eq_true, Bool.and_eq_true] at h
      have t1 := tgt_of h.1
      have t2 := tgt_of h.2.1
      have t3 := tgt_of h.2.2
      have p1 := pg_of hc hN a x h.1
      have p2 := pg_of hc hN b y h.2.1
      have p3 := pg_of hc hN c z h.2.2
      refine pg_tup hc (pgs_cons p1 (pgs_cons p2 (pgs_cons p3 pgs_nil (by rw [ae1 t3]; rfl)) (by rw [ae1 t2]; rfl)) (by rw [ae1 t1]; rfl)) (by rw [ae1 t1, ae1 t2, ae1 t3]; rfl) (by rw [ae1 t1, ae1 t2, ae1 t3]; rfl)
end

/-- what may be bound to a target -/
def Fits (K : PySem.W.Frag) (F H : Hp) (t : T) (v : V) (d : D) : Prop := match t with
  | .nm _ => Dq K F v d
  | _ => ∃ a xs ds, v = .ref a ∧ d = .tup ds ∧ SqT K H a xs ∧ Dqs K F xs ds
theorem fits_of {K : PySem.W.Frag} {F H : Hp} {t : T} {v : V} {d : D} {env env' : Env} (h : Same F H) (q : Dq K F v d) (hb : bindT t d env = .ok env') : Fits K F H t v d := by
  cases t with
  | nm i => exact q
  | p2 a b =>
    cases q with
    | tup e o qs => exact ⟨_, _, _, rfl, rfl, sqT_of h e, qs⟩
    | _ => simp [bindT] at hb
  | p3 a b c =>
    cases q with
    | tup e o qs => exact ⟨_, _, _, rfl, rfl, sqT_of h e, qs⟩
    | _ => simp [bindT] at hb
theorem bindT_len : ∀ (t : T) (d : D) (env env' : Env), bindT t d env = .ok env' → env'.length = env.length
  | .nm i, d, env, env', h => by
    obtain ⟨_, h2⟩ := R.chk_ok_inv (show R.chk _ _ = _ from h)
    cases h2
    exact List.length_set
  | .p2 a b, .tup [x, y], env, env', h => by
    obtain ⟨e1, h1, h2⟩ := R.bind_ok_inv (show R.bind _ _ = _ from h)
    rw [bindT_len b y e1 env' h2, bindT_len a x env e1 h1]
  | .p3 a b c, .tup [x, y, z], env, env', h => by
    obtain ⟨e1, h1, h2⟩ := R.bind_ok_inv (show R.bind _ _ = _ from h)
    obtain ⟨e2, h3, h4⟩ := R.bind_ok_inv h2
    rw [bindT_len c z e2 env' h4, bindT_len b y e1 e2 h3, bindT_len a x env e1 h1]
  | .p2 a b, .non, env, env', h => by simp [bindT] at h
  | .p2 a b, .bl _, env, env', h => by simp [bindT] at h
  | .p2 a b, .int _, env, env', h => by simp [bindT] at h
  | .p2 a b, .str _, env, env', h => by simp [bindT] at h
  | .p2 a b, .lst _, env, env', h => by simp [bindT] at h
  | .p2 a b, .scr _, env, env', h => by simp [bindT] at h
  | .p2 a b, .tup [], env, env', h => by simp [bindT] at h
  | .p2 a b, .tup [_], env, env', h => by simp [bindT] at h
  | .p2 a b, .tup (_ :: _ :: _ :: _), env, env', h => by simp [bindT] at h
  | .p3 a b c, .non, env, env', h => by simp [bindT] at h
  | .p3 a b c, .bl _, env, env', h => by simp [bindT] at h
  | .p3 a b c, .int _, env, env', h => by simp [bindT] at h
  | .p3 a b c, .str _, env, env', h => by simp [bindT] at h
  | .p3 a b c, .lst _, env, env', h => by simp [bindT] at h
  | .p3 a b c, .scr _, env, env', h => by simp [bindT] at h
  | .p3 a b c, .tup [], env, env', h => by simp [bindT] at h
  | .p3 a b c, .tup [_], env, env', h => by simp [bindT] at h
  | .p3 a b c, .tup [_, _], env, env', h => by simp [bindT] at h
  | .p3 a b c, .tup (_ :: _ :: _ :: _ :: _), env, env', h => by simp [bindT] at h
theorem p2_inv {a b : T} {d : D} {env env' : Env} (h : bindT (.p2 a b) d env = .ok env') : ∃ x y e1, d = .tup [x, y] ∧ bindT a x env = .ok e1 ∧ bindT b y e1 = .ok env' := by
  cases d with
  | tup xs =>
    match xs, h with
    | [x, y], h =>
      obtain ⟨e1, h1, h2⟩ := R.bind_ok_inv (show R.bind _ _ = _ from h)
      exact ⟨x, y, e1, rfl, h1, h2⟩
    | [], h => simp [bindT] at h
    | [_], h => simp [bindT] at h
    | _ :: _ :: _ :: _, h => simp [bindT] at h
  | _ => simp [bindT] at h
theorem p3_inv {a b c : T} {d : D} {env env' : Env} (h : bindT (.p3 a b c) d env = .ok env') : ∃ x y z e1 e2, d = .tup [x, y, z] ∧ bindT a x env = .ok e1 ∧ bindT b y e1 = .ok e2 ∧ bindT c z e2 = .ok env' := by
  cases d with
  | tup xs =>
    match xs, h with
    | [x, y, z], h =>
      obtain ⟨e1, h1, h2⟩ := R.bind_ok_inv (show R.bind _ _ = _ from h)
      obtain ⟨e2, h3, h4⟩ := R.bind_ok_inv h2
      exact ⟨x, y, z, e1, e2, rfl, h1, h3, h4⟩
    | [], h => simp [bindT] at h
    | [_], h => simp [bindT] at h
    | [_, _], h => simp [bindT] at h
    | _ :: _ :: _ :: _ :: _, h => simp [bindT] at h
  | _ => simp [bindT] at h
/-- slots outside of vs are as they were -/
def Out1 (vs : List Nat) (σ σ' : L2.St) : Prop := σ'.length = σ.length ∧ ∀ j, j ∉ vs → σ'[j]? = σ[j]?
theorem Out1.trans {vs ws : List Nat} {σ σ1 σ2 : L2.St} (a : Out1 vs σ σ1) (b : Out1 ws σ1 σ2) : Out1 (vs ++ ws) σ σ2 :=
  ⟨b.1.trans a.1, fun j hj => (b.2 j fun z => hj (List.mem_append_right _ z)).trans (a.2 j fun z => hj (List.mem_append_left _ z))⟩
theorem gT_run {K : PySem.W.Frag} {F H : Hp} (h : Same F H) : ∀ (t : T) (d : D) (v : V) (env env' : Env) (σ : L2.St) (Q : L2.St → Hp → Prop), bindT t d env = .ok env' → Fits K F H t v d → env.length ≤ σ.length → RelE K F σ env →
    (∀ σ', Out1 t.slots σ σ' → RelE K F σ' env' → Q σ' H) → gT K t v σ H Q
  | .nm i, d, v, env, env', σ, Q, hb, hf, hl, hr, g => by
    obtain ⟨_, h2⟩ := R.chk_ok_inv (show R.chk _ _ = _ from hb)
    cases h2
    refine g _ ⟨List.length_set, fun j hj => ?_⟩ (hr.put hl hf)
    have : i ≠ j := fun z => hj (by simp [T.slots, z])
    exact List.getElem?_set_ne this
  | .p2 a b, d, v, env, env', σ, Q, hb, hf, hl, hr, g => by
    obtain ⟨x, y, e1, rfl, h1, h2⟩ := p2_inv hb
    obtain ⟨p, xs, ds, rfl, e, hq, q⟩ := hf
    cases e
    cases q with
    | cons qx q =>
      cases q with
      | cons qy q =>
        cases q
        refine ⟨p, _, rfl, hq, rfl, _, _, rfl, gT_run h a x _ env e1 σ _ h1 (fits_of h qx h1) hl hr fun σ1 o1 r1 => ?_⟩
        refine ⟨_, _, rfl, gT_run h b y _ e1 env' σ1 _ h2 (fits_of h qy h2) ?_ r1 fun σ2 o2 r2 => ⟨rfl, g σ2 (o1.trans o2) r2⟩⟩
        rw [bindT_len a x env e1 h1, o1.1]
        exact hl
  | .p3 a b c, d, v, env, env', σ, Q, hb, hf, hl, hr, g => by
    obtain ⟨x, y, z, e1, e2, rfl, h1, h2, h3⟩ := p3_inv hb
    obtain ⟨p, xs, ds, rfl, e, hq, q⟩ := hf
    cases e
    cases q with
    | cons qx q =>
      cases q with
      | cons qy q =>
        cases q with
        | cons qz q =>
          cases q
          refine ⟨p, _, rfl, hq, rfl, _, _, rfl, gT_run h a x _ env e1 σ _ h1 (fits_of h qx h1) hl hr fun σ1 o1 r1 => ?_⟩
          have l1 : e1.length ≤ σ1.length := by rw [bindT_len a x env e1 h1, o1.1]; exact hl
          refine ⟨_, _, rfl, gT_run h b y _ e1 e2 σ1 _ h2 (fits_of h qy h2) l1 r1 fun σ2 o2 r2 => ?_⟩
          have l2 : e2.length ≤ σ2.length := by rw [bindT_len b y e1 e2 h2, o2.1]; exact l1
          refine ⟨_, _, rfl, gT_run h c z _ e2 env' σ2 _ h3 (fits_of h qz h3) l2 r2 fun σ3 o3 r3 => ⟨rfl, g σ3 (o1.trans (o2.trans o3)) r3⟩⟩
theorem wipeE_len (env : Env) : ∀ vs : List Nat, (wipeE env vs).length = env.length
  | [] => rfl
  | v :: vs => by unfold wipeE; rw [List.length_set, wipeE_len env vs]
theorem wipeE_some {env : Env} {i : Nat} {x : D} : ∀ {vs : List Nat}, (wipeE env vs)[i]? = some (some x) → env[i]? = some (some x) ∧ i ∉ vs
  | [], h => ⟨h, by simp⟩
  | v :: vs, h => by
    unfold wipeE at h
    by_cases hi : v = i
    · subst hi
      by_cases hv : v < (wipeE env vs).length
      · rw [List.getElem?_set_self hv] at h; cases h
      · rw [List.getElem?_eq_none (by simpa using hv)] at h; cases h
    · rw [List.getElem?_set_ne hi] at h
      obtain ⟨h1, h2⟩ := wipeE_some h
      exact ⟨h1, by simp only [List.mem_cons, not_or]; exact ⟨fun e => hi e.symm, h2⟩⟩
theorem wipe_out2 {σ : L2.St} {i : Nat} : ∀ {vs : List Nat}, i ∉ vs → (wipe σ vs)[i]? = σ[i]?
  | [], _ => rfl
  | v :: vs, h => by
    simp only [List.mem_cons, not_or] at h
    unfold wipe
    rw [List.getElem?_set_ne (fun e => h.1 e.symm)]
    exact wipe_out2 h.2
theorem wipe_in {σ : L2.St} {i : Nat} (hi : i < σ.length) : ∀ {vs : List Nat}, i ∈ vs → (wipe σ vs)[i]? = some none
  | [], h => by cases h
  | v :: vs, h => by
    unfold wipe
    by_cases e : v = i
    · subst e; exact List.getElem?_set_self (by rw [wipe_length]; exact hi)
    · rw [List.getElem?_set_ne e]
      exact wipe_in hi ((List.mem_cons.mp h).resolve_left fun z => e z.symm)
theorem RelE.wipe {K : PySem.W.Frag} {F : Hp} {σ : L2.St} {env : Env} (r : RelE K F σ env) (vs : List Nat) : RelE K F (L2.wipe σ vs) (wipeE env vs) := fun i d e => by
  obtain ⟨h1, h2⟩ := wipeE_some e
  obtain ⟨v, h3, h4⟩ := r i d h1
  exact ⟨v, by rw [wipe_out2 h2]; exact h3, h4⟩
theorem wipe_back {vs : List Nat} {σ σ' : L2.St} (o : Out1 vs (wipe σ vs) σ') : wipe σ' vs = wipe σ vs := by
  apply List.ext_getElem?
  intro i
  have hl : σ'.length = σ.length := by rw [o.1, wipe_length]
  by_cases hi : i ∈ vs
  · by_cases hb : i < σ.length
    · rw [wipe_in hb hi, wipe_in (by rw [hl]; exact hb) hi]
    · rw [List.getElem?_eq_none (by rw [wipe_length, hl]; omega), List.getElem?_eq_none (by rw [wipe_length]; omega)]
  · rw [wipe_out2 hi, wipe_out2 hi, o.2 i hi, wipe_out2 hi]

/-! ### walks -/
/-- whether the walk gives new tuples -/
def pairK : IK → Bool
  | .enum => true
  | .zip2 => true
  | .zip3 => true
  | _ => false
/-- what the i-th turn gives -/
def Yd (K : PySem.W.Frag) (F : Hp) (pr : Bool) (items : List D) : Nat → Hp → V → Hp → Prop := fun i H v H' => ∃ d, items[i]? = some d ∧
  ((pr = false ∧ H' = H ∧ Dq K F v d) ∨ (pr = true ∧ ∃ a xs ds, v = .ref a ∧ d = .tup ds ∧ H a = none ∧ H' = upd H a (.tup xs) ∧ Dqs K F xs ds))
def WalkD (K : PySem.W.Frag) (F : Hp) (pr : Bool) (items : List D) (J : It) : Prop := Walk J items.length (fun H => Same F H) (Yd K F pr items)
def rdI (K : PySem.W.Frag) (Φ : String → List D → R D) (k : IK) (a b c : E) : TI := fun σ H R' => ∃ F env x y z items, Same F H ∧ env.length ≤ σ.length ∧ RelE K F σ env ∧ ev Φ env a = .ok x ∧ ev Φ env b = .ok y ∧ ev Φ env c = .ok z ∧
  walk k x y z = .ok items ∧ ∀ J F1 H1, Ext F H F1 H1 → WalkD K F1 (pairK k) items J → R' J H1
/-- the target takes what the walk gives -/
def ikT : IK → T → Bool
  | .seq, _ => true
  | .range1, _ => true
  | .range2, _ => true
  | .enum, .p2 _ _ => true
  | .zip2, .p2 _ _ => true
  | .zip3, .p3 _ _ _ => true
  | _, _ => false
theorem walk_seqL {K : PySem.W.Frag} {F : Hp} {a : Addr} {xs : List V} {ds : List D} (e : F a = some (.lst xs)) (q : Dqs K F xs ds) : WalkD K F false ds (Itl K a) := by
  unfold WalkD
  rw [← q.length]
  refine walk_list.mono (fun H h => sqL_of h e) fun i H x H' hi _ y => ?_
  obtain ⟨d, h1, h2⟩ := q.getV y.2
  exact ⟨d, h1, .inl ⟨rfl, y.1, h2⟩⟩
theorem walk_seqS {K : PySem.W.Frag} {F : Hp} {a : Addr} {ns : List Int} (e : SqL K F a (ns.map V.int)) : WalkD K F false (ns.map D.int) (Itl K a) := by
  unfold WalkD
  rw [List.length_map, ← List.length_map (f := V.int)]
  refine walk_list.mono (fun H h => h.seq e) fun i H x H' hi _ y => ?_
  obtain ⟨d, h1, h2⟩ := (dqs_ints (K := K) (F := F) ns).getV y.2
  exact ⟨d, h1, .inl ⟨rfl, y.1, h2⟩⟩
theorem walk_seqT {K : PySem.W.Frag} {F : Hp} {a : Addr} {o : Obj} {xs : List V} {ds : List D} (e : F a = some (.frz o (.tup xs))) (q : Dqs K F xs ds) : WalkD K F false ds (Itt K a) := by
  unfold WalkD
  rw [← q.length]
  refine walk_tup.mono (fun H h => sqT_of h e) fun i H x H' hi _ y => ?_
  obtain ⟨d, h1, h2⟩ := q.getV y.2
  exact ⟨d, h1, .inl ⟨rfl, y.1, h2⟩⟩
theorem walk_seqZ {K : PySem.W.Frag} {F : Hp} {z : List Nat} : WalkD K F false (z.map fun c => .str [c]) (Its (toStr z)) := by
  unfold WalkD
  have hl : (z.map fun c => D.str [c]).length = (toStr z).cps.size := by simp [toStr]
  rw [hl]
  refine walk_str.mono (fun H h => trivial) fun i H x H' hi _ y => ?_
  obtain ⟨h1, c, h2, rfl⟩ := y
  refine ⟨.str [c], ?_, .inl ⟨rfl, h1, .str [c]⟩⟩
  have h3 : z[i]? = some c := by simpa [toStr] using h2
  rw [List.getElem?_map, h3]
  rfl
theorem walk_rng {K : PySem.W.Frag} {F : Hp} {lo hi : Int} : WalkD K F false (rangeL lo hi) (Itr lo (hi - lo).toNat) := by
  unfold WalkD
  have hl : (rangeL lo hi).length = (hi - lo).toNat := by simp [rangeL]
  rw [hl]
  refine walk_range.mono (fun H h => trivial) fun i H x H' hi2 _ y => ?_
  obtain ⟨h1, rfl⟩ := y
  refine ⟨.int (lo + (i : Nat)), ?_, .inl ⟨rfl, h1, .int _⟩⟩
  unfold rangeL
  rw [List.getElem?_map, List.getElem?_range hi2]
  rfl
theorem bigI_of {i : Int} (h : bigI i = true) : -(2 ^ 62) ≤ i ∧ i < 2 ^ 62 := by
  unfold bigI at h
  rw [Bool.and_eq_true] at h
  exact ⟨of_decide_eq_true h.1, of_decide_eq_true h.2⟩
section
variable {X : Cx} {Φ : String → List D → R D} {P : Prog} {C : String → Option D} {n : Nat}
theorem pi_seq {a b c : E} {e tg : Expr} (h : PE X e (rdE X.K Φ a)) : PI X tg e (rdI X.K Φ .seq a b c) := by
  refine ⟨fun pins s σ H R' I q => ?_⟩
  obtain ⟨F, env, x, y, z, items, h1, h2, h3, h4, h5, h6, h7, g⟩ := q
  cases x with
  | lst ds =>
    cases h7
    refine (pi_list h).run pins s σ H R' I ⟨F, env, _, h1, h2, h3, h4, fun v F' H' x q => ?_⟩
    cases q with
    | lst e1 q1 => exact ⟨_, rfl, ⟨_, sqL_of x.sub e1⟩, g _ F' H' x (walk_seqL e1 q1)⟩
  | tup ds =>
    cases h7
    refine (pi_tup h).run pins s σ H R' I ⟨F, env, _, h1, h2, h3, h4, fun v F' H' x q => ?_⟩
    cases q with
    | tup e1 o q1 => exact ⟨_, rfl, ⟨_, sqT_of x.sub e1⟩, g _ F' H' x (walk_seqT e1 q1)⟩
  | str z =>
    cases h7
    refine (pi_str h).run pins s σ H R' I ⟨F, env, _, h1, h2, h3, h4, fun v F' H' x q => ?_⟩
    cases q
    exact ⟨_, rfl, g _ F' H' x walk_seqZ⟩
  | scr ns =>
    cases h7
    refine (pi_list h).run pins s σ H R' I ⟨F, env, _, h1, h2, h3, h4, fun v F' H' x q => ?_⟩
    cases q with
    | scr e1 => exact ⟨_, rfl, ⟨_, x.sub.seq e1⟩, g _ F' H' x (walk_seqS e1)⟩
  | _ => cases h7
theorem pi_rng1 {a b c : E} {e a' tg : Expr} (G : Good X P C n) (hv : vB1 X.env.scope "range" e = some a') (h : PE X a' (rdE X.K Φ a)) : PI X tg e (rdI X.K Φ .range1 a b c) := by
  unfold vB1 at hv
  split at hv
  · split at hv
    · rename_i hx
      obtain ⟨rfl, k2, k3⟩ := hx
      cases hv
      obtain ⟨g1, g2, g3⟩ := gl_of k2
      refine ⟨fun pins s σ H R' I q => ?_⟩
      obtain ⟨F, env, x, y, z, items, h1, h2, h3, h4, h5, h6, h7, g⟩ := q
      cases x with
      | int m =>
        obtain ⟨hb, h7⟩ := R.chk_ok_inv (show R.chk _ _ = _ from h7)
        cases h7
        have hb := bigI_of hb
        refine (pi_range1 g1 (G.bn "range" (by decide)) (pa_cons h pa_nil (star_of k3)) (star_of k3)).run pins s σ H R' I ⟨F, env, _, h1, h2, h3, h4, fun v F' H' x q => ?_⟩
        cases q
        have w := walk_rng (K := X.K) (F := F') (lo := 0) (hi := m)
        rw [Int.sub_zero] at w
        exact ⟨m, rfl, hb.1, hb.2, g _ F' H' x w⟩
      | _ => cases h7
    · cases hv
  · cases hv
theorem pi_rng2 {a b c : E} {e a' b' tg : Expr} (G : Good X P C n) (hv : vB2 X.env.scope "range" e = some (a', b')) (h : PE X a' (rdE X.K Φ a)) (h' : PE X b' (rdE X.K Φ b)) : PI X tg e (rdI X.K Φ .range2 a b c) := by
  unfold vB2 at hv
  split at hv
  · split at hv
    · rename_i hx
      obtain ⟨rfl, k2, k3, k4⟩ := hx
      cases hv
      obtain ⟨g1, g2, g3⟩ := gl_of k2
      refine ⟨fun pins s σ H R' I q => ?_⟩
      obtain ⟨F, env, x, y, z, items, h1, h2, h3, h4, h5, h6, h7, g⟩ := q
      cases x with
      | int m =>
        cases y with
        | int m2 =>
          obtain ⟨hb, h7⟩ := R.chk_ok_inv (show R.chk _ _ = _ from h7)
          cases h7
          rw [Bool.and_eq_true] at hb
          have hb1 := bigI_of hb.1
          have hb2 := bigI_of hb.2
          refine (pi_range2 g1 (G.bn "range" (by decide)) (pa_cons h (pa_cons h' pa_nil (star_of k4)) (star_of k3)) (by rw [star_of k3, star_of k4]; rfl) (star_of k4)).run pins s σ H R' I ⟨F, env, _, h1, h2, h3, h4, fun v F' H' x q => ?_⟩
          cases q
          refine ⟨F', env, _, x.sub, h2, h3.mono x.le, h5, fun w F2 H2 x2 q2 => ?_⟩
          cases q2
          exact ⟨m, m2, rfl, ⟨hb1.1, hb1.2, hb2.1, hb2.2⟩, g _ F2 H2 (x.trans x2) walk_rng⟩
        | _ => cases h7
      | _ => cases h7
    · cases hv
  · cases hv

theorem fits_item {K : PySem.W.Frag} {F H : Hp} {pr : Bool} {t : T} {items : List D} {i : Nat} {v : V} {H' : Hp} {d : D} {env env' : Env} (h : Same F H) (y : Yd K F pr items i H v H') (hd : items[i]? = some d) (hb : bindT t d env = .ok env') (hm : pr = true → ∀ j, t ≠ .nm j) :
    Fits K F H' t v d ∧ Same H H' := by
  obtain ⟨d2, e, y⟩ := y
  rw [hd] at e
  cases e
  rcases y with ⟨_, rfl, q⟩ | ⟨hp, a, xs, ds, rfl, rfl, hn, rfl, q⟩
  · exact ⟨fits_of h q hb, Same.refl _⟩
  · refine ⟨?_, same_upd hn⟩
    cases t with
    | nm j => exact absurd rfl (hm hp j)
    | p2 _ _ => exact ⟨a, xs, ds, rfl, rfl, .inl (.inl upd_same), q⟩
    | p3 _ _ _ => exact ⟨a, xs, ds, rfl, rfl, .inl (.inl upd_same), q⟩
theorem ikT_of {k : IK} {t : T} (h : ikT k t = true) : pairK k = true → ∀ j, t ≠ .nm j := fun hp j e => by
  subst e
  cases k <;> first | (cases hp; done) | (cases h; done)
end
end OC

/-! Part S5w: zip of two and three, enumerate, over lists, tuples, texts in any mix. -/
namespace OC
open PySem PySem.Spec PyProof.Rows L2
/-- a thing that is drawn from -/
inductive Src where
  | l (a : Addr) (xs : List V)
  | t (a : Addr) (xs : List V)
  | s (z : List Nat)
namespace Src
def Ok (K : PySem.W.Frag) (H : Hp) : Src → Prop
  | .l a xs => SqL K H a xs
  | .t a xs => SqT K H a xs
  | .s _ => True
def vals : Src → List V
  | .l _ xs => xs
  | .t _ xs => xs
  | .s z => z.map fun c => .str ⟨#[c]⟩
/-- its iterator has come to i -/
def At (tk : Tok) (it : Addr) (i : Nat) (h : Heap) : Src → Prop
  | .l a _ => h.IsListIter it a i
  | .t a _ => h.IsTupleIter it a i
  | .s z => h.IsStrIter it (strIterType (toStr z)) (toStr z) tk i
def fp : Src → List Addr
  | .l a _ => [a]
  | .t a _ => [a]
  | .s _ => []
def val (tk : Tok) : Src → Value
  | .l a _ => .ref a
  | .t a _ => .ref a
  | .s z => .str (toStr z) tk
theorem At.obj {u : Src} {tk : Tok} {it : Addr} {i : Nat} {h : Heap} (q : u.At tk it i h) : ∃ o, h.get? it = some o ∧ ∀ v, o.data ≠ .cell v := by
  cases u <;> (obtain ⟨o, e, _, d⟩ := q; exact ⟨o, e, fun v z => by rw [d] at z; cases z⟩)
theorem At.at {u : Src} {tk : Tok} {it : Addr} {i : Nat} {h h' : Heap} (q : u.At tk it i h) (k : ∀ o, h.get? it = some o → h'.get? it = some o) : u.At tk it i h' := by
  cases u <;> (obtain ⟨o, e, r⟩ := q; exact ⟨o, k o e, r⟩)
/-- what the iterator draws from here on -/
theorem draws {X : Cx} {pins : List (Addr × Obj)} {σ : L2.St} {H : Hp} {s : Shared} (u : Src) (tk : Tok) (it : Addr) (I : Inv X pins σ H s) (hu : u.Ok X.K H) (hne : it ∉ u.fp) :
    ∃ (P : Nat → Value → Prop) (St : Nat → Heap → Prop), (∀ A : Around, A.handled = none → Draws X.prog X.w A it (it :: u.fp) u.vals.length P St) ∧ (∀ i, u.At tk it i s.heap → St i s.heap) ∧ (∀ i h, St i h → u.At tk it i h) ∧ ∀ i v, P i v → ∃ x, u.vals[i]? = some x ∧ RelV x v := by
  cases u with
  | l a xs =>
    obtain ⟨its, rv, p, hz⟩ := I.list hu
    have hl : xs.length = its.toArray.size := by rw [rv.length]; simp
    refine ⟨fun i v => its.toArray[i]? = some v, fun i h => h.IsListIter it a i ∧ h.IsList a its.toArray, fun A hh => ?_, fun i q => ⟨q, p.isList⟩, fun i h q => q.1, fun i v q => ?_⟩
    · show Draws _ _ _ _ _ xs.length _ _
      rw [hl]
      exact Draws.list hh it a (fun e => hne (by rw [e]; exact List.mem_singleton.mpr rfl)) its.toArray
    · have hi : i < xs.length := by
        rw [hl]
        exact (Array.getElem?_eq_some_iff.mp q).1
      obtain ⟨w, hw, r⟩ := rv.get (List.getElem?_eq_getElem hi)
      refine ⟨xs[i], List.getElem?_eq_getElem hi, ?_⟩
      have : its.toArray[i]? = some w := by simpa using hw
      rw [q] at this
      cases this
      exact r
  | t a xs =>
    obtain ⟨its, rv, p, hz⟩ := I.tuple hu
    have hl : xs.length = its.toArray.size := by rw [rv.length]; simp
    refine ⟨fun i v => its.toArray[i]? = some v, fun i h => h.IsTupleIter it a i ∧ h.IsTuple a its.toArray, fun A hh => ?_, fun i q => ⟨q, p⟩, fun i h q => q.1, fun i v q => ?_⟩
    · show Draws _ _ _ _ _ xs.length _ _
      rw [hl]
      exact Draws.tuple hh it a (fun e => hne (by rw [e]; exact List.mem_singleton.mpr rfl)) its.toArray
    · have hi : i < xs.length := by
        rw [hl]
        exact (Array.getElem?_eq_some_iff.mp q).1
      obtain ⟨w, hw, r⟩ := rv.get (List.getElem?_eq_getElem hi)
      refine ⟨xs[i], List.getElem?_eq_getElem hi, ?_⟩
      have : its.toArray[i]? = some w := by simpa using hw
      rw [q] at this
      cases this
      exact r
  | s z =>
    have hl : (z.map fun c => V.str ⟨#[c]⟩).length = (toStr z).cps.size := by simp [toStr]
    refine ⟨fun i v => ∃ c u, (toStr z).cps[i]? = some c ∧ v = .str ⟨#[c]⟩ u, fun i h => h.IsStrIter it (strIterType (toStr z)) (toStr z) tk i, fun A hh => ?_, fun i q => q, fun i h q => q, fun i v q => ?_⟩
    · show Draws _ _ _ _ _ (z.map fun c => V.str ⟨#[c]⟩).length _ _
      rw [hl]
      exact Draws.text hh it (toStr z) tk
    · obtain ⟨c, t, h1, rfl⟩ := q
      refine ⟨.str ⟨#[c]⟩, ?_, ⟨t, rfl⟩⟩
      have h3 : z[i]? = some c := by simpa [toStr] using h1
      show (z.map _)[i]? = _
      rw [List.getElem?_map, h3]
      rfl
/-- how its iterator begins -/
def objOf (tk : Tok) : Src → Obj
  | .l a _ => { cls := .type "list_iterator", data := .fields #[.ref a, .int 0 0] }
  | .t a _ => { cls := .type "tuple_iterator", data := .fields #[.ref a, .int 0 0] }
  | .s z => { cls := .type (strIterType (toStr z)), data := .fields #[.str (toStr z) tk, .int 0 0] }
theorem At.zero {u : Src} {tk : Tok} {it : Addr} {h : Heap} (e : h.get? it = some (u.objOf tk)) : u.At tk it 0 h := by
  cases u <;> exact ⟨_, e, rfl, rfl⟩
theorem begins {X : Cx} {pins : List (Addr × Obj)} {σ : L2.St} {H : Hp} {s : Shared} (u : Src) (tk : Tok) (I : Inv X pins σ H s) (hu : u.Ok X.K H) :
    (∃ B : Heap → Prop, Begins (u.val tk) (u.objOf tk) B ∧ B s.heap) ∧ ∀ b ∈ u.fp, b < s.heap.objs.size := by
  cases u with
  | l a xs =>
    obtain ⟨its, rv, p, hz⟩ := I.list hu
    refine ⟨⟨_, begins_list a its.toArray, p.isList⟩, fun b hb => ?_⟩
    rw [List.mem_singleton.mp hb]
    exact p.lt
  | t a xs =>
    obtain ⟨its, rv, p, hz⟩ := I.tuple hu
    refine ⟨⟨_, begins_tuple a its.toArray, p⟩, fun b hb => ?_⟩
    rw [List.mem_singleton.mp hb]
    obtain ⟨o, e, _⟩ := p
    exact Heap.lt_size e
  | s z => exact ⟨⟨_, begins_text (toStr z) tk, trivial⟩, fun b hb => nomatch hb⟩
end Src
/-- the turns of a zip of two -/
def J2 (K : PySem.W.Frag) (u v : Src) : It :=
  ⟨fun i H => (u.Ok K H ∧ v.Ok K H) ∧ i < u.vals.length ∧ i < v.vals.length,
   fun i H w H' => ∃ T x y, w = .ref T ∧ H T = none ∧ H' = upd H T (.tup [x, y]) ∧ u.vals[i]? = some x ∧ v.vals[i]? = some y,
   fun i H => (u.Ok K H ∧ v.Ok K H) ∧ i ≤ u.vals.length ∧ i ≤ v.vals.length ∧ (i = u.vals.length ∨ i = v.vals.length)⟩
theorem turn_z2 {P : Program} {w : World} {K : PySem.W.Frag} {elts : List Expr} {kk : Nat} {tpos : Pos} {u v : Src} {tu tv : Tok} {z TI TO i1 i2 : Addr} (D : ZipSep2 z TI TO i1 i2 (i1 :: u.fp) (i2 :: v.fp)) (n1 : i1 ∉ u.fp) (n2 : i2 ∉ v.fp) :
    Turn P w K (.Tuple elts kk tpos) (J2 K u v) [z, TI, TO, i1, i2] z (fun i h => (IsZip h z TI TO .none ∧ IsTupOf2 h TI (.ref i1) (.ref i2)) ∧ (∃ x y, IsTupOf2 h TO x y) ∧ u.At tu i1 i h ∧ v.At tv i2 i h) where
  mem := List.mem_cons_self
  obj := fun i h st c hc => by
    obtain ⟨⟨hz, hTI⟩, ⟨x, y, hTO⟩, q1, q2⟩ := st
    simp only [List.mem_cons, List.not_mem_nil, or_false] at hc
    rcases hc with rfl | rfl | rfl | rfl | rfl
    · exact ⟨_, hz, fun v q => nomatch q⟩
    · exact ⟨_, hTI, fun v q => nomatch q⟩
    · exact ⟨_, hTO, fun v q => nomatch q⟩
    · exact q1.obj
    · exact q2.obj
  keep := fun i h h' st k => by
    obtain ⟨⟨hz, hTI⟩, ⟨x, y, hTO⟩, q1, q2⟩ := st
    exact ⟨⟨k z (by simp) _ hz, k TI (by simp) _ hTI⟩, ⟨x, y, k TO (by simp) _ hTO⟩, q1.at fun o e => k i1 (by simp) o e, q2.at fun o e => k i2 (by simp) o e⟩
  item := by
    intro X hP hw hK hc i pins s σ H E I hf st hg
    subst hP hw hK
    obtain ⟨⟨hz, hTI⟩, ⟨x0, y0, hTO⟩, q1, q2⟩ := st
    obtain ⟨⟨hu, hv⟩, l1, l2⟩ := hg
    obtain ⟨P1, S1, D1, a1, b1, c1⟩ := u.draws tu i1 I hu n1
    obtain ⟨P2, S2, D2, a2, b2, c2⟩ := v.draws tv i2 I hv n2
    have hh : X.A.handled = none := I.ok.hd hc
    have hzl : z < s.heap.objs.size := Heap.lt_size hz
    refine wpAny_pyNext_zipD2_item D (D1 X.A.in1 hh) (D2 X.A.in1 hh) hz hTI hTO (a1 i q1) (a2 i q2) l1 l2 fun w1 w2 h' tk y1 y2 z' TO' st1 st2 hT hsz hk => ?_
    obtain ⟨x1, g1, r1⟩ := c1 i w1 y1
    obtain ⟨x2, g2, r2⟩ := c2 i w2 y2
    refine ⟨_, rfl, wpAny_letOwnedTupleGo_zip (s := { s with heap := h', toks := tk }) z' fun h'' z'' sb => ?_⟩
    have hT2 : h''.get? s.heap.objs.size = some { cls := .type "tuple", data := .seq #[w1, w2] } := (sb.2 _ (Nat.ne_of_gt hzl)).trans hT
    have new : ObjOk X.prog X.w (upd H s.heap.objs.size (.tup [x1, x2])) h'' s.heap.objs.size (.tup [x1, x2]) := ⟨show 2 ≤ sizeLine by decide, [w1, w2], .cons r1 (.cons r2 .nil), _, hT2, rfl, _, rfl⟩
    have I1 : Inv X pins σ (upd H s.heap.objs.size (.tup [x1, x2])) { s with heap := h'', toks := tk } := I.turnedNew (ch := [z, TI, TO, i1, i2]) (fun c o hb q => by
      simp only [List.mem_cons, List.not_mem_nil, or_false, not_or] at hb
      exact (sb.2 c hb.1).trans (hk c o hb.1 hb.2.2.1 hb.2.2.2.1 hb.2.2.2.2 q)) hf (Nat.le_refl _) new
    refine ⟨.ref s.heap.objs.size, _, I1, rfl, ⟨_, x1, x2, rfl, I.hok.fresh (Nat.le_refl _), rfl, g1, g2⟩, ⟨⟨z'', (sb.2 _ D.TIz).trans (hk _ _ D.TIz D.TITO D.TIi1 D.TIi2 hTI)⟩, ⟨w1, w2, (sb.2 _ D.TOz).trans TO'⟩, ?_, ?_⟩, fun c hcm => ?_⟩
    · exact (b1 _ _ st1).at fun o e => (sb.2 _ (Ne.symm D.zi1)).trans e
    · exact (b2 _ _ st2).at fun o e => (sb.2 _ (Ne.symm D.zi2)).trans e
    · have hlt : c < s.heap.objs.size := by
        simp only [List.mem_cons, List.not_mem_nil, or_false] at hcm
        rcases hcm with rfl | rfl | rfl | rfl | rfl
        · exact hzl
        · exact Heap.lt_size hTI
        · exact Heap.lt_size hTO
        · obtain ⟨_, e1, _⟩ := q1.obj; exact Heap.lt_size e1
        · obtain ⟨_, e1, _⟩ := q2.obj; exact Heap.lt_size e1
      rw [upd_ne (Nat.ne_of_lt hlt)]
      exact (hf c hcm).1
  done := by
    intro X hP hw hK hc i pins s σ H E I hf st hg
    subst hP hw hK
    obtain ⟨⟨hz, hTI⟩, ⟨x0, y0, hTO⟩, q1, q2⟩ := st
    obtain ⟨⟨hu, hv⟩, l1, l2, l3⟩ := hg
    obtain ⟨P1, S1, D1, a1, b1, c1⟩ := u.draws tu i1 I hu n1
    obtain ⟨P2, S2, D2, a2, b2, c2⟩ := v.draws tv i2 I hv n2
    have hh : X.A.handled = none := I.ok.hd hc
    refine wpAny_pyNext_zipD2_end D (D1 X.A.in1 hh) (D2 X.A.in1 hh) hz hTI hTO (a1 i q1) (a2 i q2) l1 l2 l3 fun h' tk hk => ⟨rfl, I.turnedL (ch := [z, TI, TO, i1, i2]) (fun c o hb q => ?_) hf⟩
    simp only [List.mem_cons, List.not_mem_nil, or_false, not_or] at hb
    exact hk c o hb.1 hb.2.2.1 hb.2.2.2.1 hb.2.2.2.2 q
  self := fun A i s Q E st h => wpAny_pyIter_zip st.1.1 h
/-- the turns of a zip of three -/
def J3 (K : PySem.W.Frag) (u v r : Src) : It :=
  ⟨fun i H => (u.Ok K H ∧ v.Ok K H ∧ r.Ok K H) ∧ i < u.vals.length ∧ i < v.vals.length ∧ i < r.vals.length,
   fun i H w H' => ∃ T x y q, w = .ref T ∧ H T = none ∧ H' = upd H T (.tup [x, y, q]) ∧ u.vals[i]? = some x ∧ v.vals[i]? = some y ∧ r.vals[i]? = some q,
   fun i H => (u.Ok K H ∧ v.Ok K H ∧ r.Ok K H) ∧ i ≤ u.vals.length ∧ i ≤ v.vals.length ∧ i ≤ r.vals.length ∧ (i = u.vals.length ∨ i = v.vals.length ∨ i = r.vals.length)⟩
theorem turn_z3 {P : Program} {w : World} {K : PySem.W.Frag} {elts : List Expr} {kk : Nat} {tpos : Pos} {u v r : Src} {tu tv tr : Tok} {z TI TO i1 i2 i3 : Addr} (D : ZipSep3 z TI TO i1 i2 i3 (i1 :: u.fp) (i2 :: v.fp) (i3 :: r.fp)) (n1 : i1 ∉ u.fp) (n2 : i2 ∉ v.fp) (n3 : i3 ∉ r.fp) :
    Turn P w K (.Tuple elts kk tpos) (J3 K u v r) [z, TI, TO, i1, i2, i3] z (fun i h => (IsZip h z TI TO .none ∧ IsTupOf3 h TI (.ref i1) (.ref i2) (.ref i3)) ∧ (∃ x y q, IsTupOf3 h TO x y q) ∧ u.At tu i1 i h ∧ v.At tv i2 i h ∧ r.At tr i3 i h) where
  mem := List.mem_cons_self
  obj := fun i h st c hc => by
    obtain ⟨⟨hz, hTI⟩, ⟨x, y, q, hTO⟩, q1, q2, q3⟩ := st
    simp only [List.mem_cons, List.not_mem_nil, or_false] at hc
    rcases hc with rfl | rfl | rfl | rfl | rfl | rfl
    · exact ⟨_, hz, fun v q => nomatch q⟩
    · exact ⟨_, hTI, fun v q => nomatch q⟩
    · exact ⟨_, hTO, fun v q => nomatch q⟩
    · exact q1.obj
    · exact q2.obj
    · exact q3.obj
  keep := fun i h h' st k => by
    obtain ⟨⟨hz, hTI⟩, ⟨x, y, q, hTO⟩, q1, q2, q3⟩ := st
    exact ⟨⟨k z (by simp) _ hz, k TI (by simp) _ hTI⟩, ⟨x, y, q, k TO (by simp) _ hTO⟩, q1.at fun o e => k i1 (by simp) o e, q2.at fun o e => k i2 (by simp) o e, q3.at fun o e => k i3 (by simp) o e⟩
  item := by
    intro X hP hw hK hc i pins s σ H E I hf st hg
    subst hP hw hK
    obtain ⟨⟨hz, hTI⟩, ⟨x0, y0, q0, hTO⟩, q1, q2, q3⟩ := st
    obtain ⟨⟨hu, hv, hr⟩, l1, l2, l3⟩ := hg
    obtain ⟨P1, S1, D1, a1, b1, c1⟩ := u.draws tu i1 I hu n1
    obtain ⟨P2, S2, D2, a2, b2, c2⟩ := v.draws tv i2 I hv n2
    obtain ⟨P3, S3, D3, a3, b3, c3⟩ := r.draws tr i3 I hr n3
    have hh : X.A.handled = none := I.ok.hd hc
    have hzl : z < s.heap.objs.size := Heap.lt_size hz
    refine wpAny_pyNext_zipD3_item D (D1 X.A.in1 hh) (D2 X.A.in1 hh) (D3 X.A.in1 hh) hz hTI hTO (a1 i q1) (a2 i q2) (a3 i q3) l1 l2 l3 fun w1 w2 w3 h' tk y1 y2 y3 z' TO' st1 st2 st3 hT hsz hk => ?_
    obtain ⟨x1, g1, r1⟩ := c1 i w1 y1
    obtain ⟨x2, g2, r2⟩ := c2 i w2 y2
    obtain ⟨x3, g3, r3⟩ := c3 i w3 y3
    refine ⟨_, rfl, wpAny_letOwnedTupleGo_zip (s := { s with heap := h', toks := tk }) z' fun h'' z'' sb => ?_⟩
    have hT2 : h''.get? s.heap.objs.size = some { cls := .type "tuple", data := .seq #[w1, w2, w3] } := (sb.2 _ (Nat.ne_of_gt hzl)).trans hT
    have new : ObjOk X.prog X.w (upd H s.heap.objs.size (.tup [x1, x2, x3])) h'' s.heap.objs.size (.tup [x1, x2, x3]) := ⟨show 3 ≤ sizeLine by decide, [w1, w2, w3], .cons r1 (.cons r2 (.cons r3 .nil)), _, hT2, rfl, _, rfl⟩
    have I1 : Inv X pins σ (upd H s.heap.objs.size (.tup [x1, x2, x3])) { s with heap := h'', toks := tk } := I.turnedNew (ch := [z, TI, TO, i1, i2, i3]) (fun c o hb q => by
      simp only [List.mem_cons, List.not_mem_nil, or_false, not_or] at hb
      exact (sb.2 c hb.1).trans (hk c o hb.1 hb.2.2.1 hb.2.2.2.1 hb.2.2.2.2.1 hb.2.2.2.2.2 q)) hf (Nat.le_refl _) new
    refine ⟨.ref s.heap.objs.size, _, I1, rfl, ⟨_, x1, x2, x3, rfl, I.hok.fresh (Nat.le_refl _), rfl, g1, g2, g3⟩, ⟨⟨z'', (sb.2 _ D.TIz).trans (hk _ _ D.TIz D.TITO D.TIi1 D.TIi2 D.TIi3 hTI)⟩, ⟨w1, w2, w3, (sb.2 _ D.TOz).trans TO'⟩, ?_, ?_, ?_⟩, fun c hcm => ?_⟩
    · exact (b1 _ _ st1).at fun o e => (sb.2 _ (Ne.symm D.zi1)).trans e
    · exact (b2 _ _ st2).at fun o e => (sb.2 _ (Ne.symm D.zi2)).trans e
    · exact (b3 _ _ st3).at fun o e => (sb.2 _ (Ne.symm D.zi3)).trans e
    · have hlt : c < s.heap.objs.size := by
        simp only [List.mem_cons, List.not_mem_nil, or_false] at hcm
        rcases hcm with rfl | rfl | rfl | rfl | rfl | rfl
        · exact hzl
        · exact Heap.lt_size hTI
        · exact Heap.lt_size hTO
        · obtain ⟨_, e1, _⟩ := q1.obj; exact Heap.lt_size e1
        · obtain ⟨_, e1, _⟩ := q2.obj; exact Heap.lt_size e1
        · obtain ⟨_, e1, _⟩ := q3.obj; exact Heap.lt_size e1
      rw [upd_ne (Nat.ne_of_lt hlt)]
      exact (hf c hcm).1
  done := by
    intro X hP hw hK hc i pins s σ H E I hf st hg
    subst hP hw hK
    obtain ⟨⟨hz, hTI⟩, ⟨x0, y0, q0, hTO⟩, q1, q2, q3⟩ := st
    obtain ⟨⟨hu, hv, hr⟩, l1, l2, l3, l4⟩ := hg
    obtain ⟨P1, S1, D1, a1, b1, c1⟩ := u.draws tu i1 I hu n1
    obtain ⟨P2, S2, D2, a2, b2, c2⟩ := v.draws tv i2 I hv n2
    obtain ⟨P3, S3, D3, a3, b3, c3⟩ := r.draws tr i3 I hr n3
    have hh : X.A.handled = none := I.ok.hd hc
    refine wpAny_pyNext_zipD3_end D (D1 X.A.in1 hh) (D2 X.A.in1 hh) (D3 X.A.in1 hh) hz hTI hTO (a1 i q1) (a2 i q2) (a3 i q3) l1 l2 l3 l4 fun h' tk hk => ⟨rfl, I.turnedL (ch := [z, TI, TO, i1, i2, i3]) (fun c o hb q => ?_) hf⟩
    simp only [List.mem_cons, List.not_mem_nil, or_false, not_or] at hb
    exact hk c o hb.1 hb.2.2.1 hb.2.2.2.1 hb.2.2.2.2.1 hb.2.2.2.2.2 q
  self := fun A i s Q E st h => wpAny_pyIter_zip st.1.1 h
/-- the turns of an enumerate -/
def J1 (K : PySem.W.Frag) (u : Src) : It :=
  ⟨fun i H => u.Ok K H ∧ i < u.vals.length,
   fun i H w H' => ∃ T x, w = .ref T ∧ H T = none ∧ H' = upd H T (.tup [.int (i : Nat), x]) ∧ u.vals[i]? = some x,
   fun i H => u.Ok K H ∧ i = u.vals.length⟩
theorem turn_en {P : Program} {w : World} {K : PySem.W.Frag} {elts : List Expr} {kk : Nat} {tpos : Pos} {u : Src} {tu : Tok} {e it : Addr} (hei : e ≠ it) (hef : e ∉ u.fp) (n1 : it ∉ u.fp) :
    Turn P w K (.Tuple elts kk tpos) (J1 K u) [e, it] e (fun i h => (∃ old, IsEnum h e it ((i : Nat) : Int) old) ∧ u.At tu it i h) where
  mem := List.mem_cons_self
  obj := fun i h st c hc => by
    obtain ⟨⟨old, he⟩, q1⟩ := st
    simp only [List.mem_cons, List.not_mem_nil, or_false] at hc
    rcases hc with rfl | rfl
    · exact ⟨_, he, fun v q => nomatch q⟩
    · exact q1.obj
  keep := fun i h h' st k => by
    obtain ⟨⟨old, he⟩, q1⟩ := st
    exact ⟨⟨old, k e (by simp) _ he⟩, q1.at fun o q => k it (by simp) o q⟩
  item := by
    intro X hP hw hK hc i pins s σ H E I hf st hg
    subst hP hw hK
    obtain ⟨⟨old, he⟩, q1⟩ := st
    obtain ⟨hu, l1⟩ := hg
    obtain ⟨P1, S1, D1, a1, b1, c1⟩ := u.draws tu it I hu n1
    have hh : X.A.handled = none := I.ok.hd hc
    have hel : e < s.heap.objs.size := Heap.lt_size he
    refine wpAny_pyNext_enum_itemD (D1 X.A.in1 hh) he (a1 i q1) l1 hei (by simp only [List.mem_cons, not_or]; exact ⟨hei, hef⟩) fun w1 h' tk y1 ho st1 hT hsz hk => ?_
    obtain ⟨x1, g1, r1⟩ := c1 i w1 y1
    refine ⟨_, rfl, wpAny_letOwnedTupleGo_enum (s := { s with heap := h', toks := tk + 1 }) ho fun h'' he' sb => ?_⟩
    have hT2 : h''.get? s.heap.objs.size = some { cls := .type "tuple", data := .seq #[.int i tk, w1] } := (sb.2 _ (Nat.ne_of_gt hel)).trans hT
    have new : ObjOk X.prog X.w (upd H s.heap.objs.size (.tup [.int (i : Nat), x1])) h'' s.heap.objs.size (.tup [.int (i : Nat), x1]) := ⟨show 2 ≤ sizeLine by decide, [.int i tk, w1], .cons ⟨_, rfl⟩ (.cons r1 .nil), _, hT2, rfl, _, rfl⟩
    have I1 : Inv X pins σ (upd H s.heap.objs.size (.tup [.int (i : Nat), x1])) { s with heap := h'', toks := tk + 1 } := I.turnedNew (ch := [e, it]) (fun c o hb q => by
      simp only [List.mem_cons, List.not_mem_nil, or_false, not_or] at hb
      exact (sb.2 c hb.1).trans (hk c o hb.1 hb.2 q)) hf (Nat.le_refl _) new
    refine ⟨.ref s.heap.objs.size, _, I1, rfl, ⟨_, x1, rfl, I.hok.fresh (Nat.le_refl _), rfl, g1⟩, ⟨⟨w1, ?_⟩, ?_⟩, fun c hcm => ?_⟩
    · rw [show ((i + 1 : Nat) : Int) = (i : Int) + 1 by omega]
      exact he'
    · exact (b1 _ _ st1).at fun o q => (sb.2 _ (Ne.symm hei)).trans q
    · have hlt : c < s.heap.objs.size := by
        simp only [List.mem_cons, List.not_mem_nil, or_false] at hcm
        rcases hcm with rfl | rfl
        · exact hel
        · obtain ⟨_, e1, _⟩ := q1.obj; exact Heap.lt_size e1
      rw [upd_ne (Nat.ne_of_lt hlt)]
      exact (hf c hcm).1
  done := by
    intro X hP hw hK hc i pins s σ H E I hf st hg
    subst hP hw hK
    obtain ⟨⟨old, he⟩, q1⟩ := st
    obtain ⟨hu, rfl⟩ := hg
    obtain ⟨P1, S1, D1, a1, b1, c1⟩ := u.draws tu it I hu n1
    have hh : X.A.handled = none := I.ok.hd hc
    obtain ⟨f0, f1, f2, f3, f4, f5⟩ := hf it (by simp)
    exact wpAny_pyNext_enum_endD (D1 X.A.in1 hh) he (a1 _ q1) fun h' eb => ⟨rfl, I.turned (t' := s.toks) (fun b o hb q => eb b o hb q) f0 f1 f3 f4 f5⟩
  self := fun A i s Q E st h => wpAny_pyIter_enum st.1.choose_spec h
/-! ### enumerate(v) begins -/
set_option maxHeartbeats 1000000 in
theorem meets_en1 {v : Value} {o : Obj} {B : Heap → Prop} (b : Begins v o B) :
    Meets (Builtin.«enumerate.__new__» ⟨[.type "enumerate", v], []⟩) (fun _ R s => B s.heap ∧ R (.ok (.ret (.ref (s.heap.push o).objs.size))) { s with heap := (s.heap.push o).push { cls := .type "enumerate", data := .fields #[.none, .bool false, .ref s.heap.objs.size, rawInt 0, .none, .none] } }) :=
  .of_wp fun prog w A R sh hyp => by
    obtain ⟨hp, gn, dr, tk, os⟩ := sh
    obtain ⟨hb, hyp⟩ := hyp
    have hsub := sub_enumerate
    have it1 : ∀ {A' : Around} {E : Value → Shared → Prop} {Q : Value → Shared → Prop}, Q (.ref hp.objs.size) ⟨hp.push o, gn, dr, tk, os⟩ → wpAny (model prog w) A' (pyIter v) Q E ⟨hp, gn, dr, tk, os⟩ := fun q => b.iter prog w _ _ ⟨hp, gn, dr, tk, os⟩ _ hb q
    wp_walk using it1
    refine wpAny_stack_any fun stk => wpAny_pure ?_
    split
    · rename_i c _ _ _ _ _
      cases (c == Value.type "enumerate") <;> (wp_walk using it1; exact ⟨_, rfl, hyp⟩)
    · wp_walk using it1
      exact ⟨_, rfl, hyp⟩
theorem call_en1 {prog : Program} {w : World} {A : Around} {E : Value → Shared → Prop} {s : Shared} {v : Value} {o : Obj} {B : Heap → Prop} {Q : Value → Shared → Prop} (b : Begins v o B) (hb : B s.heap)
    (h : ∀ h', IsEnum h' (s.heap.objs.size + 1) s.heap.objs.size 0 .none → h'.get? s.heap.objs.size = some o → (∀ b o, s.heap.get? b = some o → h'.get? b = some o) → Q (.ref (s.heap.objs.size + 1)) { s with heap := h' }) :
    wpAny (model prog w) A (call (.type "enumerate") [v]) Q E s := by
  refine callType_new F.called_enumerate (by decide) (F.typeCall_enumerate_1 _) (F.newCall_enumerate_1 _) (fun obj => F.args_object_init_2 obj _) F.entry_enumerate_new (meets_en1 b) ⟨hb, ?_⟩
  have hz : (s.heap.push o).objs.size = s.heap.objs.size + 1 := Heap.size_push ..
  show _ ∧ _
  rw [hz]
  have he := Heap.get?_push_size (s.heap.push o) (o := { cls := .type "enumerate", data := .fields #[.none, .bool false, .ref s.heap.objs.size, rawInt 0, .none, .none] }) rfl
  rw [hz] at he
  exact ⟨⟨_, he, rfl⟩, h _ he (Heap.get?_push_of_some _ (Heap.get?_push_size _ b.free)) fun b o x => Heap.get?_push_of_some _ (Heap.get?_push_of_some _ x)⟩
/-! ### the walks -/
def Src.v : Src → V
  | .l a _ => .ref a
  | .t a _ => .ref a
  | .s z => .str (toStr z)
theorem dqs_signs {K : PySem.W.Frag} {F : Hp} : ∀ z : List Nat, Dqs K F (z.map fun c => V.str ⟨#[c]⟩) (z.map fun c => D.str [c])
  | [] => .nil
  | c :: z => .cons (.str [c]) (dqs_signs z)
theorem src_of {K : PySem.W.Frag} {F : Hp} {v : V} {d : D} {xs : List D} (q : Dq K F v d) (h : sq2 d = .ok xs) : ∃ u : Src, u.v = v ∧ (∀ H, Same F H → u.Ok K H) ∧ Dqs K F u.vals xs := by
  cases q with
  | lst e1 q1 =>
    cases h
    exact ⟨.l _ _, rfl, fun H hs => sqL_of hs e1, q1⟩
  | tup e1 o q1 =>
    cases h
    exact ⟨.t _ _, rfl, fun H hs => sqT_of hs e1, q1⟩
  | str z =>
    cases h
    exact ⟨.s z, rfl, fun H hs => trivial, dqs_signs z⟩
  | _ => cases h
theorem src_val {u : Src} {w : Value} (r : RelV u.v w) : ∃ tk, w = u.val tk := by
  cases u with
  | l a xs => cases r; exact ⟨0, rfl⟩
  | t a xs => cases r; exact ⟨0, rfl⟩
  | s z => obtain ⟨t, rfl⟩ := r; exact ⟨t, rfl⟩
theorem zipL_len : ∀ xs ys : List D, (zipL xs ys).length = min xs.length ys.length
  | [], ys => by simp [zipL]
  | x :: xs, [] => by simp [zipL]
  | x :: xs, y :: ys => by simp only [zipL, List.length_cons, zipL_len xs ys]; omega
theorem zipL_get : ∀ (xs ys : List D) (i : Nat) {x y : D}, xs[i]? = some x → ys[i]? = some y → (zipL xs ys)[i]? = some (.tup [x, y])
  | [], ys, i, x, y, h, _ => by simp at h
  | a :: xs, [], i, x, y, _, h => by simp at h
  | a :: xs, b :: ys, 0, x, y, h, h2 => by simp at h h2; simp [zipL, h, h2]
  | a :: xs, b :: ys, i + 1, x, y, h, h2 => by
    simp only [List.getElem?_cons_succ] at h h2
    simp only [zipL, List.getElem?_cons_succ]
    exact zipL_get xs ys i h h2
theorem zip3L_len : ∀ xs ys zs : List D, (zip3L xs ys zs).length = min (min xs.length ys.length) zs.length
  | [], ys, zs => by simp [zip3L]
  | x :: xs, [], zs => by simp [zip3L]
  | x :: xs, y :: ys, [] => by simp [zip3L]
  | x :: xs, y :: ys, z :: zs => by simp only [zip3L, List.length_cons, zip3L_len xs ys zs]; omega
theorem zip3L_get : ∀ (xs ys zs : List D) (i : Nat) {x y z : D}, xs[i]? = some x → ys[i]? = some y → zs[i]? = some z → (zip3L xs ys zs)[i]? = some (.tup [x, y, z])
  | [], ys, zs, i, x, y, z, h, _, _ => by simp at h
  | a :: xs, [], zs, i, x, y, z, _, h, _ => by simp at h
  | a :: xs, b :: ys, [], i, x, y, z, _, _, h => by simp at h
  | a :: xs, b :: ys, c :: zs, 0, x, y, z, h, h2, h3 => by simp at h h2 h3; simp [zip3L, h, h2, h3]
  | a :: xs, b :: ys, c :: zs, i + 1, x, y, z, h, h2, h3 => by
    simp only [List.getElem?_cons_succ] at h h2 h3
    simp only [zip3L, List.getElem?_cons_succ]
    exact zip3L_get xs ys zs i h h2 h3
theorem enumL_len : ∀ (xs : List D) (k : Nat), (enumL k xs).length = xs.length
  | [], k => rfl
  | x :: xs, k => by simp only [enumL, List.length_cons, enumL_len xs (k + 1)]
theorem enumL_get : ∀ (xs : List D) (k i : Nat) {x : D}, xs[i]? = some x → (enumL k xs)[i]? = some (.tup [.int ((k + i : Nat) : Int), x])
  | [], k, i, x, h => by simp at h
  | a :: xs, k, 0, x, h => by simp at h; simp [enumL, h]
  | a :: xs, k, i + 1, x, h => by
    simp only [List.getElem?_cons_succ] at h
    simp only [enumL, List.getElem?_cons_succ]
    rw [enumL_get xs (k + 1) i h]
    congr 5
    omega
theorem walk_z2 {K : PySem.W.Frag} {F : Hp} {u v : Src} {xs ys : List D} (ou : ∀ H, Same F H → u.Ok K H) (ov : ∀ H, Same F H → v.Ok K H) (q1 : Dqs K F u.vals xs) (q2 : Dqs K F v.vals ys) : WalkD K F true (zipL xs ys) (J2 K u v) := by
  unfold WalkD
  have l1 := q1.length
  have l2 := q2.length
  rw [zipL_len]
  refine ⟨fun i H hi hs => ⟨⟨ou H hs, ov H hs⟩, by omega, by omega⟩, fun H hs => ⟨⟨ou H hs, ov H hs⟩, by omega, by omega, by omega⟩, fun i H w H' hi hs y => ?_⟩
  obtain ⟨T, x, y, e1, e2, e3, g1, g2⟩ := y
  obtain ⟨dx, h1, r1⟩ := q1.getV g1
  obtain ⟨dy, h2, r2⟩ := q2.getV g2
  exact ⟨_, zipL_get xs ys i h1 h2, .inr ⟨rfl, T, [x, y], [dx, dy], e1, rfl, e2, e3, .cons r1 (.cons r2 .nil)⟩⟩
theorem walk_z3 {K : PySem.W.Frag} {F : Hp} {u v r : Src} {xs ys zs : List D} (ou : ∀ H, Same F H → u.Ok K H) (ov : ∀ H, Same F H → v.Ok K H) (or' : ∀ H, Same F H → r.Ok K H) (q1 : Dqs K F u.vals xs) (q2 : Dqs K F v.vals ys) (q3 : Dqs K F r.vals zs) : WalkD K F true (zip3L xs ys zs) (J3 K u v r) := by
  unfold WalkD
  have l1 := q1.length
  have l2 := q2.length
  have l3 := q3.length
  rw [zip3L_len]
  refine ⟨fun i H hi hs => ⟨⟨ou H hs, ov H hs, or' H hs⟩, by omega, by omega, by omega⟩, fun H hs => ⟨⟨ou H hs, ov H hs, or' H hs⟩, by omega, by omega, by omega, by omega⟩, fun i H w H' hi hs y => ?_⟩
  obtain ⟨T, x, y, z, e1, e2, e3, g1, g2, g3⟩ := y
  obtain ⟨dx, h1, r1⟩ := q1.getV g1
  obtain ⟨dy, h2, r2⟩ := q2.getV g2
  obtain ⟨dz, h3, r3⟩ := q3.getV g3
  exact ⟨_, zip3L_get xs ys zs i h1 h2 h3, .inr ⟨rfl, T, [x, y, z], [dx, dy, dz], e1, rfl, e2, e3, .cons r1 (.cons r2 (.cons r3 .nil))⟩⟩
theorem walk_en {K : PySem.W.Frag} {F : Hp} {u : Src} {xs : List D} (ou : ∀ H, Same F H → u.Ok K H) (q1 : Dqs K F u.vals xs) : WalkD K F true (enumL 0 xs) (J1 K u) := by
  unfold WalkD
  have l1 := q1.length
  rw [enumL_len]
  refine ⟨fun i H hi hs => ⟨ou H hs, by omega⟩, fun H hs => ⟨ou H hs, by omega⟩, fun i H w H' hi hs y => ?_⟩
  obtain ⟨T, x, e1, e2, e3, g1⟩ := y
  obtain ⟨dx, h1, r1⟩ := q1.getV g1
  refine ⟨_, enumL_get xs 0 i h1, .inr ⟨rfl, T, [.int (i : Nat), x], [.int ((0 + i : Nat) : Int), dx], e1, rfl, e2, e3, .cons ?_ (.cons r1 .nil)⟩⟩
  rw [Nat.zero_add]
  exact .int _
def vB3 (sc : Scope) (f : String) : Expr → Option (Expr × Expr × Expr)
  | .Call (.Name x _) [a, b, c] [] _ => if x = sN f ∧ glB sc (sN f) = true ∧ isStar a = false ∧ isStar b = false ∧ isStar c = false then some (a, b, c) else none
  | _ => none
section
variable {X : Cx} {Φ : String → List D → R D} {P : Prog} {C : String → Option D} {n : Nat}
theorem pi_z2 {a b c : E} {e a' b' : Expr} {elts : List Expr} {kk : Nat} {tpos : Pos} (G : Good X P C n) (hv : vB2 X.env.scope "zip" e = some (a', b')) (h : PE X a' (rdE X.K Φ a)) (h' : PE X b' (rdE X.K Φ b)) : PI X (.Tuple elts kk tpos) e (rdI X.K Φ .zip2 a b c) := by
  unfold vB2 at hv
  split at hv
  · split at hv
    · rename_i hx
      obtain ⟨rfl, k2, k3, k4⟩ := hx
      cases hv
      obtain ⟨g1, g2, g3⟩ := gl_of k2
      refine ⟨fun pins s σ H R' I q => ?_⟩
      obtain ⟨F, env, x, y, z, items, h1, h2, h3, h4, h5, h6, h7, g⟩ := q
      obtain ⟨xs, w1, h7⟩ := R.bind_ok_inv (show R.bind (sq2 x) _ = _ from h7)
      obtain ⟨ys, w2, h7⟩ := R.bind_ok_inv h7
      cases h7
      refine Call_ (ld_blt I g1 (G.bn "zip" (by decide)) PyProof.Rows.boot_zip (PyProof.Rows.callWith_type1 (thn ((pa_cons h (pa_cons h' pa_nil (star_of k4)) (star_of k3)).run _ pins s σ H (fun vs H1 => ∃ (u v : Src) (F1 : Hp), vs = [u.v, v.v] ∧ Ext F H F1 H1 ∧ (∀ H, Same F1 H → u.Ok X.K H) ∧ (∀ H, Same F1 H → v.Ok X.K H) ∧ Dqs X.K F1 u.vals xs ∧ Dqs X.K F1 v.vals ys) I ?_) fun us s1 ⟨vs, H1, I1, r1, q1⟩ => ?_) (by rw [star_of k3]) (by rw [star_of k4]; rfl)))
      · refine ⟨F, env, _, h1, h2, h3, h4, fun v F' H' x q => ?_⟩
        refine ⟨F', env, _, x.sub, h2, h3.mono x.le, h5, fun w F2 H2 x2 q2 => ?_⟩
        obtain ⟨u1, rfl, o1, d1⟩ := src_of (q.mono x2.le) w1
        obtain ⟨u2, rfl, o2, d2⟩ := src_of q2 w2
        exact ⟨u1, u2, F2, rfl, x.trans x2, o1, o2, d1, d2⟩
      · obtain ⟨u1, u2, F1, rfl, xt, o1, o2, d1, d2⟩ := q1
        cases r1 with
        | cons ra rr =>
          cases rr with
          | cons rb rr =>
            cases rr
            obtain ⟨t1, rfl⟩ := src_val ra
            obtain ⟨t2, rfl⟩ := src_val rb
            obtain ⟨⟨B1, b1, i1⟩, l1⟩ := u1.begins t1 I1 (o1 _ xt.sub)
            obtain ⟨⟨B2, b2, i2⟩, l2⟩ := u2.begins t2 I1 (o2 _ xt.sub)
            refine zip_begins2 b1 b2 i1 i2 fun h' hz hTI hTO e1 e2 hsz hk => wpAny_pyIter_zip hz ?_
            have I2 : Inv X pins σ H1 { s1 with heap := h' } := I1.kept (t' := s1.toks) hk
            refine ⟨s1.heap.objs.size + 4, [s1.heap.objs.size + 4, s1.heap.objs.size + 2, s1.heap.objs.size + 3, s1.heap.objs.size, s1.heap.objs.size + 1], _, _, H1, rfl, I2, turn_z2 (u := u1) (v := u2) (tu := t1) (tv := t2) (zip_sep2 l1 l2) (fun z => Nat.lt_irrefl _ (l1 _ z)) (fun z => absurd (l2 _ z) (Nat.not_lt.mpr (Nat.le_succ _))), ⟨⟨hz, hTI⟩, ⟨_, _, hTO⟩, .zero e1, .zero e2⟩, fun c hcm => ?_, g _ F1 H1 xt (walk_z2 o1 o2 d1 d2)⟩
            have hle : s1.heap.objs.size ≤ c := by
              simp only [List.mem_cons, List.not_mem_nil, or_false] at hcm
              rcases hcm with rfl | rfl | rfl | rfl | rfl <;> (show _ ≤ (_ : Nat); omega)
            exact I1.fpOk hle (I1.hok.fresh hle)
    · cases hv
  · cases hv
theorem pi_z3 {a b c : E} {e a' b' c' : Expr} {elts : List Expr} {kk : Nat} {tpos : Pos} (G : Good X P C n) (hv : vB3 X.env.scope "zip" e = some (a', b', c')) (h : PE X a' (rdE X.K Φ a)) (h' : PE X b' (rdE X.K Φ b)) (h'' : PE X c' (rdE X.K Φ c)) : PI X (.Tuple elts kk tpos) e (rdI X.K Φ .zip3 a b c) := by
  unfold vB3 at hv
  split at hv
  · split at hv
    · rename_i hx
      obtain ⟨rfl, k2, k3, k4, k5⟩ := hx
      cases hv
      obtain ⟨g1, g2, g3⟩ := gl_of k2
      refine ⟨fun pins s σ H R' I q => ?_⟩
      obtain ⟨F, env, x, y, z, items, h1, h2, h3, h4, h5, h6, h7, g⟩ := q
      obtain ⟨xs, w1, h7⟩ := R.bind_ok_inv (show R.bind (sq2 x) _ = _ from h7)
      obtain ⟨ys, w2, h7⟩ := R.bind_ok_inv h7
      obtain ⟨zs, w3, h7⟩ := R.bind_ok_inv h7
      cases h7
      refine Call_ (ld_blt I g1 (G.bn "zip" (by decide)) PyProof.Rows.boot_zip (PyProof.Rows.callWith_type1 (thn ((pa_cons h (pa_cons h' (pa_cons h'' pa_nil (star_of k5)) (star_of k4)) (star_of k3)).run _ pins s σ H (fun vs H1 => ∃ (u v r : Src) (F1 : Hp), vs = [u.v, v.v, r.v] ∧ Ext F H F1 H1 ∧ ((∀ H, Same F1 H → u.Ok X.K H) ∧ (∀ H, Same F1 H → v.Ok X.K H) ∧ (∀ H, Same F1 H → r.Ok X.K H)) ∧ Dqs X.K F1 u.vals xs ∧ Dqs X.K F1 v.vals ys ∧ Dqs X.K F1 r.vals zs) I ?_) fun us s1 ⟨vs, H1, I1, r1, q1⟩ => ?_) (by rw [star_of k3]) (by rw [star_of k4, star_of k5]; rfl)))
      · refine ⟨F, env, _, h1, h2, h3, h4, fun v F' H' x q => ?_⟩
        refine ⟨F', env, _, x.sub, h2, h3.mono x.le, h5, fun w F2 H2 x2 q2 => ?_⟩
        refine ⟨F2, env, _, x2.sub, h2, (h3.mono x.le).mono x2.le, h6, fun w' F3 H3 x3 q3 => ?_⟩
        obtain ⟨u1, rfl, o1, d1⟩ := src_of ((q.mono x2.le).mono x3.le) w1
        obtain ⟨u2, rfl, o2, d2⟩ := src_of (q2.mono x3.le) w2
        obtain ⟨u3, rfl, o3, d3⟩ := src_of q3 w3
        exact ⟨u1, u2, u3, F3, rfl, (x.trans x2).trans x3, ⟨o1, o2, o3⟩, d1, d2, d3⟩
      · obtain ⟨u1, u2, u3, F1, rfl, xt, ⟨o1, o2, o3⟩, d1, d2, d3⟩ := q1
        cases r1 with
        | cons ra rr =>
          cases rr with
          | cons rb rr =>
            cases rr with
            | cons rc rr =>
              cases rr
              obtain ⟨t1, rfl⟩ := src_val ra
              obtain ⟨t2, rfl⟩ := src_val rb
              obtain ⟨t3, rfl⟩ := src_val rc
              obtain ⟨⟨B1, b1, i1⟩, l1⟩ := u1.begins t1 I1 (o1 _ xt.sub)
              obtain ⟨⟨B2, b2, i2⟩, l2⟩ := u2.begins t2 I1 (o2 _ xt.sub)
              obtain ⟨⟨B3, b3, i3⟩, l3⟩ := u3.begins t3 I1 (o3 _ xt.sub)
              refine zip_begins3 b1 b2 b3 i1 i2 i3 fun h' hz hTI hTO e1 e2 e3 hsz hk => wpAny_pyIter_zip hz ?_
              have I2 : Inv X pins σ H1 { s1 with heap := h' } := I1.kept (t' := s1.toks) hk
              refine ⟨s1.heap.objs.size + 5, [s1.heap.objs.size + 5, s1.heap.objs.size + 3, s1.heap.objs.size + 4, s1.heap.objs.size, s1.heap.objs.size + 1, s1.heap.objs.size + 2], _, _, H1, rfl, I2, turn_z3 (u := u1) (v := u2) (r := u3) (tu := t1) (tv := t2) (tr := t3) (zip_sep3 l1 l2 l3) (fun z => Nat.lt_irrefl _ (l1 _ z)) (fun z => absurd (l2 _ z) (Nat.not_lt.mpr (Nat.le_succ _))) (fun z => absurd (l3 _ z) (Nat.not_lt.mpr (Nat.le_add_right _ 2))), ⟨⟨hz, hTI⟩, ⟨_, _, _, hTO⟩, .zero e1, .zero e2, .zero e3⟩, fun c hcm => ?_, g _ F1 H1 xt (walk_z3 o1 o2 o3 d1 d2 d3)⟩
              have hle : s1.heap.objs.size ≤ c := by
                simp only [List.mem_cons, List.not_mem_nil, or_false] at hcm
                rcases hcm with rfl | rfl | rfl | rfl | rfl | rfl <;> (show _ ≤ (_ : Nat); omega)
              exact I1.fpOk hle (I1.hok.fresh hle)
    · cases hv
  · cases hv
theorem pi_en {a b c : E} {e a' : Expr} {elts : List Expr} {kk : Nat} {tpos : Pos} (G : Good X P C n) (hv : vB1 X.env.scope "enumerate" e = some a') (h : PE X a' (rdE X.K Φ a)) : PI X (.Tuple elts kk tpos) e (rdI X.K Φ .enum a b c) := by
  unfold vB1 at hv
  split at hv
  · split at hv
    · rename_i hx
      obtain ⟨rfl, k2, k3⟩ := hx
      cases hv
      obtain ⟨g1, g2, g3⟩ := gl_of k2
      refine ⟨fun pins s σ H R' I q => ?_⟩
      obtain ⟨F, env, x, y, z, items, h1, h2, h3, h4, h5, h6, h7, g⟩ := q
      obtain ⟨xs, w1, h7⟩ := R.bind_ok_inv (show R.bind (sq2 x) _ = _ from h7)
      cases h7
      refine Call_ (ld_blt I g1 (G.bn "enumerate" (by decide)) boot_enumerate (PyProof.Rows.callWith_type1 (thn ((pa_cons h pa_nil (star_of k3)).run _ pins s σ H (fun vs H1 => ∃ (u : Src) (F1 : Hp), vs = [u.v] ∧ Ext F H F1 H1 ∧ (∀ H, Same F1 H → u.Ok X.K H) ∧ Dqs X.K F1 u.vals xs) I ?_) fun us s1 ⟨vs, H1, I1, r1, q1⟩ => ?_) (star_of k3) rfl))
      · refine ⟨F, env, _, h1, h2, h3, h4, fun v F' H' x q => ?_⟩
        obtain ⟨u1, rfl, o1, d1⟩ := src_of q w1
        exact ⟨u1, F', rfl, x, o1, d1⟩
      · obtain ⟨u1, F1, rfl, xt, o1, d1⟩ := q1
        cases r1 with
        | cons ra rr =>
          cases rr
          obtain ⟨t1, rfl⟩ := src_val ra
          obtain ⟨⟨B1, b1, i1⟩, l1⟩ := u1.begins t1 I1 (o1 _ xt.sub)
          refine call_en1 b1 i1 fun h' he e1 hk => wpAny_pyIter_enum he ?_
          have I2 : Inv X pins σ H1 { s1 with heap := h' } := I1.kept (t' := s1.toks) hk
          refine ⟨s1.heap.objs.size + 1, [s1.heap.objs.size + 1, s1.heap.objs.size], _, _, H1, rfl, I2, turn_en (u := u1) (tu := t1) (Nat.succ_ne_self _) (fun z => absurd (l1 _ z) (Nat.not_lt.mpr (Nat.le_succ _))) (fun z => Nat.lt_irrefl _ (l1 _ z)), ⟨⟨_, he⟩, .zero e1⟩, fun c hcm => ?_, g _ F1 H1 xt (walk_en o1 d1)⟩
          have hle : s1.heap.objs.size ≤ c := by
            simp only [List.mem_cons, List.not_mem_nil, or_false] at hcm
            rcases hcm with rfl | rfl <;> (show _ ≤ (_ : Nat); omega)
          exact I1.fpOk hle (I1.hok.fresh hle)
    · cases hv
  · cases hv
end
end OC

/-! Part S6: comprehensions, displays, calls; the look at expressions and its soundness. -/
namespace OC
open PySem PySem.Spec PyProof.Rows L2
def ownOf (N : List Str) (t : T) : List (Str × Nat) := t.slots.map fun i => (N.getD i "", i)
theorem ownOf_slots (N : List Str) (t : T) : (ownOf N t).map (·.2) = t.slots := by
  unfold ownOf
  rw [List.map_map]
  exact List.map_id _
def condE (cond : Option E) (Φ : String → List D → R D) (e1 : Env) : R D := match cond with | some q => ev Φ e1 q | none => .ok (.bl true)
def tCond (K : PySem.W.Frag) (Φ : String → List D → R D) : Option E → TT
  | some q => rdT K Φ q
  | none => tYes
section
variable {X : Cx} {Φ : String → List D → R D} {P : Prog} {C : String → Option D} {n : Nat}
theorem ext_upd {F H F' H' : Hp} {D : Addr} {x : HO} (e : Ext F H F' H') (hF : F D = none) (hH : H D = some x) : F' D = none ∧ H' D = some x := ⟨(e.old D x hH).trans hF, e.same D x hH⟩
/-- a comprehension's reading, by its parts -/
theorem lc_read {K : PySem.W.Frag} {k : IK} {a b c : E} {t : T} {elt : E} {cond : Option E} (hk : ikT k t = true) {σ : L2.St} {H : Hp} {Q : VK} (q : rdL K Φ (.comp k a b c t elt cond) σ H Q) :
    tLc (rdI K Φ k a b c) (gT K t) (tCond K Φ cond) (rdE K Φ elt) t.slots σ H Q := by
  obtain ⟨F, env, ds, h1, h2, h3, h4, cont⟩ := q
  rw [ev] at h4
  obtain ⟨x, hx, h4⟩ := R.bind_ok_inv h4
  obtain ⟨y, hy, h4⟩ := R.bind_ok_inv h4
  obtain ⟨z, hz, h4⟩ := R.bind_ok_inv h4
  obtain ⟨items, hw, h4⟩ := R.bind_ok_inv h4
  obtain ⟨hlim, h4⟩ := R.chk_ok_inv h4
  obtain ⟨ds2, hcl, h4⟩ := R.bind_ok_inv h4
  cases h4
  have hlim := of_decide_eq_true hlim
  refine ⟨F, env, x, y, z, items, h1, h2, h3, hx, hy, hz, hw, fun J F1 H1 x1 w D hD => ?_⟩
  have hF1D : F1 D = none := Same.none x1.sub hD
  generalize hcc : compL _ _ _ = cc at hcl
  refine lc_it w (fun i H' => ∃ Fi acc ys rest, Same F1 Fi ∧ Same Fi H' ∧ Same H1 H' ∧ (∀ b o, H1 b = some o → Fi b = F1 b) ∧ Fi D = none ∧ H' D = some (.lst acc) ∧ Dqs K Fi acc ys ∧ acc.length ≤ i ∧ cc (items.drop i) = .ok rest ∧ ds = ys ++ rest)
    ?_ ?_ ?_ ?_
  · refine ⟨F1, [], [], ds, Same.refl _, fun b o e => ?_, same_upd hD, fun _ _ _ => rfl, hF1D, upd_same, .nil, Nat.le_refl _, hcl, rfl⟩
    rw [upd_ne (fun z => by rw [z, hF1D] at e; cases e)]
    exact x1.sub b o e
  · rintro i H' _ ⟨Fi, acc, ys, rest, s1, s2, _⟩
    exact s1.trans s2
  · rintro i v H5 H6 hi ⟨Fi, acc, ys, rest, s1, s2, s3, old, hFD, hHD, hq, hlen, hrest, hds⟩ hY
    have hYi : Yd K Fi (pairK k) items i H5 v H6 := by
      obtain ⟨d, e, z⟩ := hY
      refine ⟨d, e, ?_⟩
      rcases z with ⟨z1, z2, z3⟩ | ⟨z1, p, xs, es, z2, z3, z4, z5, z6⟩
      · exact .inl ⟨z1, z2, z3.mono s1⟩
      · exact .inr ⟨z1, p, xs, es, z2, z3, z4, z5, z6.mono s1⟩
    have hdi : items[i]? = some items[i] := List.getElem?_eq_getElem hi
    have hdrop : items.drop i = items[i] :: items.drop (i + 1) := List.drop_eq_getElem_cons hi
    rw [hdrop, ← hcc, compL] at hrest
    obtain ⟨e1, hb, hrest⟩ := R.bind_ok_inv hrest
    obtain ⟨cv, hc, hrest⟩ := R.bind_ok_inv hrest
    rw [hcc] at hrest
    obtain ⟨fit, smH⟩ := fits_item s2 hYi hdi hb (ikT_of hk)
    have s2' : Same Fi H6 := s2.trans smH
    have hl0 : (wipeE env t.slots).length ≤ (wipe σ t.slots).length := by rw [wipeE_len, wipe_length]; exact h2
    refine gT_run s2' t items[i] v (wipeE env t.slots) e1 (wipe σ t.slots) _ hb fit hl0 (((h3.mono x1.le).mono s1).wipe t.slots) fun σ2 o2 r2 => ⟨wipe_back o2, ?_⟩
    have l2 : e1.length ≤ σ2.length := by rw [bindT_len t _ _ e1 hb, o2.1]; exact hl0
    have hH6D : H6 D = some (.lst acc) := smH D _ hHD
    have s3' : Same H1 H6 := s3.trans smH
    -- the element
    have step : ∀ F3 H3, Ext Fi H6 F3 H3 → cv = .bl true → rdE K Φ elt σ2 H3 fun y H4 => ∃ acc, H4 D = some (.lst acc) ∧ acc.length < sizeLine ∧ (∃ Fi acc2 ys rest, Same F1 Fi ∧ Same Fi (upd H4 D (.lst (acc ++ [y]))) ∧ Same H1 (upd H4 D (.lst (acc ++ [y]))) ∧ (∀ b o, H1 b = some o → Fi b = F1 b) ∧ Fi D = none ∧ (upd H4 D (.lst (acc ++ [y]))) D = some (.lst acc2) ∧ Dqs K Fi acc2 ys ∧ acc2.length ≤ i + 1 ∧ cc (items.drop (i + 1)) = .ok rest ∧ ds = ys ++ rest) := by
      intro F3 H3 x3 hcv
      subst hcv
      obtain ⟨dy, hev, hrest⟩ := R.bind_ok_inv hrest
      obtain ⟨rest2, hr2, hrest⟩ := R.bind_ok_inv hrest
      cases hrest
      obtain ⟨f3, g3⟩ := ext_upd x3 hFD hH6D
      refine ⟨F3, e1, dy, x3.sub, l2, r2.mono x3.le, hev, fun yv F4 H4 x4 q4 => ?_⟩
      obtain ⟨f4, g4⟩ := ext_upd x4 f3 g3
      have hlt : acc.length < sizeLine := by rw [← limEq]; omega
      refine ⟨acc, g4, hlt, F4, acc ++ [yv], ys ++ [dy], rest2, (s1.trans x3.le).trans x4.le, fun b o e => ?_, fun b o e => ?_, fun b o e => ?_, f4, upd_same, ?_, ?_, hr2, ?_⟩
      · rw [upd_ne (fun z => by rw [z, f4] at e; cases e)]
        exact x4.sub b o e
      · rw [upd_ne (fun z => by rw [z, hD] at e; cases e)]
        exact x4.same b o (x3.same b o (s3' b o e))
      · rw [x4.old b o (x3.same b o (s3' b o e)), x3.old b o (s3' b o e)]
        exact old b o e
      · exact ((hq.mono x3.le).mono x4.le).append (.cons q4 .nil)
      · rw [List.length_append]; simp; omega
      · rw [hds]; simp
    have skip : ∀ F3 H3, Ext Fi H6 F3 H3 → cv = .bl false → (∃ Fi acc2 ys rest, Same F1 Fi ∧ Same Fi H3 ∧ Same H1 H3 ∧ (∀ b o, H1 b = some o → Fi b = F1 b) ∧ Fi D = none ∧ H3 D = some (.lst acc2) ∧ Dqs K Fi acc2 ys ∧ acc2.length ≤ i + 1 ∧ cc (items.drop (i + 1)) = .ok rest ∧ ds = ys ++ rest) := by
      intro F3 H3 x3 hcv
      subst hcv
      obtain ⟨f3, g3⟩ := ext_upd x3 hFD hH6D
      exact ⟨F3, acc, ys, rest, s1.trans x3.le, x3.sub, s3'.trans x3.same, fun b o e => (x3.old b o (s3' b o e)).trans (old b o e), f3, g3, hq.mono x3.le, Nat.le_succ_of_le hlen, hrest, hds⟩
    cases cond with
    | none =>
      have hcv : cv = .bl true := by cases hc; rfl
      exact step Fi H6 (Ext.refl s2') hcv
    | some q =>
      cases cv with
      | bl bb =>
        refine ⟨Fi, e1, bb, s2', l2, r2, hc, fun F3 H3 x3 => ?_⟩
        cases bb with
        | true => exact iteT (step F3 H3 x3 rfl)
        | false => exact iteF (skip F3 H3 x3 rfl)
      | _ => cases hrest
  · rintro H' ⟨Fi, acc, ys, rest, s1, s2, s3, old, hFD, hHD, hq, hlen, hrest, hds⟩
    rw [List.drop_length, ← hcc] at hrest
    cases hrest
    rw [List.append_nil] at hds
    subst hds
    refine cont D acc Fi H' ⟨x1.le.trans s1, s2, x1.same.trans s3, fun b o e => (old b o (x1.same b o e)).trans (x1.old b o e)⟩ hHD ?_ hFD hq
    cases e : H D with
    | none => rfl
    | some o => rw [x1.same D o e] at hD; cases hD

theorem pe_comp {k : IK} {a b c : E} {t : T} {elt : E} {cond : Option E} {elt' tg iter : Expr} {ifs : List Expr} {scope : Scope} {pos : Pos} (G : Good X P C n) (hi : PI X tg iter (rdI X.K Φ k a b c)) (hset : isSetE iter = false) (hk : ikT k t = true)
    (hblk : BlkOk X.N X.env.scope scope (ownOf X.N t))
    (hg : ∀ (s : Shared) (H : Hp) (C : Addr) (cl : List (Str × Addr)) (fp : List Addr), PG (X.blk s H scope (compEnvC scope cl C X.env) fp) tg (gT X.K t))
    (ht : ∀ (s : Shared) (H : Hp) (C : Addr) (cl : List (Str × Addr)) (fp : List Addr), PTs (X.blk s H scope (compEnvC scope cl C X.env) fp) ifs (tCond X.K Φ cond))
    (he : ∀ (s : Shared) (H : Hp) (C : Addr) (cl : List (Str × Addr)) (fp : List Addr), PE (X.blk s H scope (compEnvC scope cl C X.env) fp) elt' (rdE X.K Φ elt)) :
    PE X (.ListComp elt' [⟨tg, iter, ifs, 0⟩] scope pos) (rdL X.K Φ (.comp k a b c t elt cond)) := by
  refine PE_imp (pe_lc G.calm G.nd hi hblk hg ht he (fun x => set_of hset x)) fun σ H Q q => ?_
  rw [ownOf_slots]
  exact lc_read hk q
/-- name = [..] where the store comes first -/
theorem ps_comp {i : Nat} {y : Str} {py spos : Pos} {k : IK} {a b c : E} {t : T} {elt : E} {cond : Option E} {elt' tg iter : Expr} {ifs : List Expr} {scope : Scope} {pos : Pos} (G : Good X P C n) (hy : X.N[i]? = some y) (hyl : X.env.scope.names.lookup y = some .local)
    (hsw : swapsWith (.ListComp elt' [⟨tg, iter, ifs, 0⟩] scope pos) (some (.Name y py)) spos.line X.env = pure true) (hi : PI X tg iter (rdI X.K Φ k a b c)) (hset : isSetE iter = false) (hk : ikT k t = true)
    (hblk : BlkOk X.N X.env.scope scope (ownOf X.N t))
    (hg : ∀ (s : Shared) (H : Hp) (C : Addr) (cl : List (Str × Addr)) (fp : List Addr), PG (X.blk s H scope (compEnvC scope cl C X.env) fp) tg (gT X.K t))
    (ht : ∀ (s : Shared) (H : Hp) (C : Addr) (cl : List (Str × Addr)) (fp : List Addr), PTs (X.blk s H scope (compEnvC scope cl C X.env) fp) ifs (tCond X.K Φ cond))
    (he : ∀ (s : Shared) (H : Hp) (C : Addr) (cl : List (Str × Addr)) (fp : List Addr), PE (X.blk s H scope (compEnvC scope cl C X.env) fp) elt' (rdE X.K Φ elt)) :
    PS X (.Assign [.Name y py] (.ListComp elt' [⟨tg, iter, ifs, 0⟩] scope pos) spos) (tAsg (rdL X.K Φ (.comp k a b c t elt cond)) (gName i)) := by
  refine PS_imp (ps_setLc (i := i) G.calm G.nd hy hyl hsw hi hblk hg ht he (fun x => set_of hset x)) fun D σ H q => ?_
  have q : rdL X.K Φ (.comp k a b c t elt cond) σ H (fun x H1 => gName i x σ H1 D.nx) := q
  show tLc _ _ _ _ _ σ H (fun x H1 => gName i x σ H1 D.nx)
  rw [ownOf_slots]
  exact lc_read hk q

/-! ### displays, calls -/
theorem pa_nilD : PA X [] (rdA X.K Φ []) := PA_imp pa_nil fun σ H Q q => by
  obtain ⟨F, env, ds, h1, h2, h3, h4, g⟩ := q
  rw [evs] at h4
  cases h4
  exact g [] F H (Ext.refl h1) .nil
theorem pa_consD {e : E} {es : List E} {e' : Expr} {es' : List Expr} (h : PE X e' (rdE X.K Φ e)) (hs : PA X es' (rdA X.K Φ es)) (hst : isStar e' = false) : PA X (e' :: es') (rdA X.K Φ (e :: es)) := by
  refine PA_imp (pa_cons h hs (star_of hst)) fun σ H Q q => ?_
  obtain ⟨F, env, ds, h1, h2, h3, h4, g⟩ := q
  rw [evs] at h4
  obtain ⟨x, h5, h4⟩ := R.bind_ok_inv h4
  obtain ⟨xs, h6, h4⟩ := R.bind_ok_inv h4
  cases h4
  exact ⟨F, env, x, h1, h2, h3, h5, fun v F' H' e1 q1 => ⟨F', env, xs, e1.sub, h2, h3.mono e1.le, h6, fun vs F2 H2 e2 q2 => g (v :: vs) F2 H2 (e1.trans e2) (.cons (q1.mono e2.le) q2)⟩⟩
def tTupF (t : TA) : TE := fun σ H Q => t σ H fun xs H1 => xs.length ≤ sizeLine ∧ ∀ p o, H1 p = none → o.dict = Option.none → Q (.ref p) (upd H1 p (.frz o (.tup xs)))
theorem pe_tupF {es : List Expr} {t : TA} {x1 : Nat} {pos : Pos} (h : PA X es t) : PE X (.Tuple es x1 pos) (tTupF t) := by
  refine ⟨fun pins s σ H Q I hq => ?_⟩
  refine wpAny_Tuple_spliced (thn (h.run pos pins s σ H _ I hq) fun us s1 ⟨xs, H1, I1, r, z, q⟩ => ⟨by rw [← r.length]; exact z, ?_⟩)
  exact ⟨.ref s1.heap.objs.size, _, Inv_tupF (t' := s1.toks) I1 r z, rfl, q _ _ (I1.hok.fresh (Nat.le_refl _)) rfl⟩
theorem pe_tupD {es : List E} {es' : List Expr} {x1 : Nat} {pos : Pos} (h : PA X es' (rdA X.K Φ es)) : PE X (.Tuple es' x1 pos) (rdE X.K Φ (.tup es)) := by
  refine PE_imp (pe_tupF h) fun σ H Q q => ?_
  obtain ⟨F, env, d, h1, h2, h3, h4, g⟩ := q
  rw [ev] at h4
  obtain ⟨xs, h5, h4⟩ := R.bind_ok_inv h4
  obtain ⟨hl, h4⟩ := R.chk_ok_inv h4
  cases h4
  have hl := of_decide_eq_true hl
  refine ⟨F, env, xs, h1, h2, h3, h5, fun vs F' H' e q => ⟨by rw [q.length, ← limEq]; exact hl, gv_tup _ (g.after e) e.sub q⟩⟩
theorem pe_lstD {es : List E} {es' : List Expr} {pos : Pos} (h : PA X es' (rdA X.K Φ es)) : PE X (.List es' pos) (rdL X.K Φ (.lst es)) := by
  refine PE_imp (pe_lst h) fun σ H Q q => ?_
  obtain ⟨F, env, d, h1, h2, h3, h4, g⟩ := q
  rw [ev] at h4
  obtain ⟨xs, h5, h4⟩ := R.bind_ok_inv h4
  obtain ⟨hl, h4⟩ := R.chk_ok_inv h4
  cases h4
  have hl := of_decide_eq_true hl
  refine ⟨F, env, _, h1, h2, h3, h5, fun vs F' H' e q => ⟨by rw [q.length, ← limEq]; exact hl, fun p hp => ?_⟩⟩
  exact g p vs F' _ (e.trans (Ext.more e.sub hp)) upd_same (Same.none e.same hp) (Same.none e.sub hp) q
theorem pe_L {e : Expr} {a : E} (hl : ∀ env d, ev Φ env a = .ok d → ∃ ds, d = .lst ds) (h : PE X e (rdL X.K Φ a)) : PE X e (rdE X.K Φ a) := by
  refine PE_imp h fun σ H Q q => ?_
  obtain ⟨F, env, d, h1, h2, h3, h4, g⟩ := q
  obtain ⟨ds, rfl⟩ := hl env d h4
  exact rdL_rdE h1 h2 h3 h4 g
theorem pe_callD {f : String} {fn : Fn} {es : List E} {e' : Expr} {es' : List Expr} {p pos : Pos} (G : Good X P C n) (hP : P f = some fn) (hg : glB X.env.scope (sN f) = true) (hst : ((e' :: es').all fun e => !isStar e) = true) (h : PA X (e' :: es') (rdA X.K (run P n) es)) :
    PE X (.Call (.Name (sN f) p) (e' :: es') [] pos) (rdE X.K (run P n) (.call f es)) := by
  obtain ⟨a, fd, hm, hk, hb, F0⟩ := G.fns f fn hP
  obtain ⟨g1, g2, _⟩ := gl_of hg
  have hst2 := hst
  simp only [List.all_cons, Bool.and_eq_true, Bool.not_eq_true'] at hst2
  refine PE_imp (pe_call (dvs := []) F0 G.room g1 hm hk hb .nil pass0 h g2 (star_of hst2.1) (stars_of (by simpa using hst2.2))) fun σ H Q q => ?_
  obtain ⟨F, env, d, h1, h2, h3, h4, g⟩ := q
  rw [ev] at h4
  obtain ⟨xs, h5, h4⟩ := R.bind_ok_inv h4
  refine ⟨F, env, xs, h1, h2, h3, h5, fun vs F' H' e q => ?_⟩
  show spOf X.K fn.ps.length (run P n f) (vs ++ []) H' Q E0
  rw [List.append_nil]
  refine ⟨?_, F', xs, d, e.sub, q, h4, g.after e⟩
  rw [q.length]
  cases n with
  | zero => cases h4
  | succ n =>
    rw [run, hP] at h4
    obtain ⟨hl, _⟩ := R.chk_ok_inv (show R.chk _ _ = _ from h4)
    exact of_decide_eq_true hl
end
end OC

/-! Part S7: the look at an expression, and that it is enough. -/
namespace OC
open PySem PySem.Spec PyProof.Rows L2
/-- what is known of the text around -/
structure Gx where
  N : List Str
  P : Prog
  C : String → Option D
def constB : Const → D → Bool
  | .none, .non => true
  | .bool a, .bl b => a == b
  | .int i, .int j => decide (i = j)
  | .str x, .str y => decide (x.cps.toList = y)
  | _, _ => false
def sameC : Option D → D → Bool
  | some (.int i), .int j => decide (i = j)
  | some (.str x), .str y => decide (x = y)
  | _, _ => false
def cn : E → Bool
  | .cst .non => true
  | _ => false
/-- a and b and c: a, and the rest -/
def vBool (op : BoolOp) : Expr → Option (Expr × Expr)
  | .BoolOp o [a, b] _ => if o = op then some (a, b) else none
  | .BoolOp o (a :: b :: c :: r) p => if o = op then some (a, .BoolOp o (b :: c :: r) p) else none
  | _ => none
def cmpOf : O2 → Option CmpOp
  | .lt => some .Lt
  | .le => some .LtE
  | .gt => some .Gt
  | .ge => some .GtE
  | .eq => some .Eq
  | .ne => some .NotEq
  | _ => none
def vChain (o p : O2) : Expr → Option (Expr × Expr × Expr)
  | .Compare a [x, y] [b, c] _ => if cmpOf o = some x ∧ cmpOf p = some y ∧ isSetE c = false then some (a, b, c) else none
  | _ => none
def vCallN (f : Str) : Expr → Option (List Expr)
  | .Call (.Name x _) (e :: es) [] _ => if x = f ∧ ((e :: es).all fun e => !isStar e) = true then some (e :: es) else none
  | _ => none
def vTup : Expr → Option (List Expr)
  | .Tuple es _ _ => if (es.all fun e => !isStar e) = true then some es else none
  | _ => none
def vLst : Expr → Option (List Expr)
  | .List es _ => if (es.all fun e => !isStar e) = true then some es else none
  | _ => none
structure CompV where
  elt : Expr
  tg : Expr
  iter : Expr
  ifs : List Expr
  scope : Scope
def vComp : Expr → Option CompV
  | .ListComp elt [⟨tg, iter, ifs, k⟩] scope _ => if k = 0 then some ⟨elt, tg, iter, ifs, scope⟩ else none
  | _ => none
def vIf : Expr → Option (Expr × Expr × Expr)
  | .IfExp c a b _ => some (c, a, b)
  | _ => none
/-- the operands of what is walked -/
def vI (sc : Scope) : IK → Expr → Option (Expr × Option Expr × Option Expr)
  | .seq, e => if isSetE e = false then some (e, none, none) else none
  | .range1, e => (vB1 sc "range" e).map fun a => (a, none, none)
  | .range2, e => (vB2 sc "range" e).map fun p => (p.1, some p.2, none)
  | .enum, e => (vB1 sc "enumerate" e).map fun a => (a, none, none)
  | .zip2, e => (vB2 sc "zip" e).map fun p => (p.1, some p.2, none)
  | .zip3, e => (vB3 sc "zip" e).map fun p => (p.1, some p.2.1, some p.2.2)
def vName : Expr → Option Str
  | .Name x _ => some x
  | _ => none
def vConst : Expr → Option Const
  | .Constant c _ _ => some c
  | _ => none
theorem vName_eq {e : Expr} {x : Str} (h : vName e = some x) : ∃ p, e = .Name x p := by
  unfold vName at h
  split at h
  · cases h; exact ⟨_, rfl⟩
  · cases h
theorem vConst_eq {e : Expr} {x : Const} (h : vConst e = some x) : ∃ j p, e = .Constant x j p := by
  unfold vConst at h
  split at h
  · cases h; exact ⟨_, _, rfl⟩
  · cases h
def v3 : O3 → Expr → Option (Expr × Expr × Expr)
  | .cut => vCut
def blkFn (scope : Scope) : Str → Bool := fun x => scope.names.lookup x == some .cell
mutual
def chk (g : Gx) (sc : Scope) : E → Expr → Bool
  | .var i, e => match vName e with
    | some x => decide (g.N[i]? = some x) && visB sc x
    | none => false
  | .cst d, e => match vConst e with
    | some c => constB c d
    | none => false
  | .glb x d, e => match vName e with
    | some y => decide (y = sN x) && glB sc (sN x) && sameC (g.C x) d
    | none => false
  | .o1 o a, e => match v1 sc o e with
    | some a' => chk g sc a a'
    | none => false
  | .o2 o a b, e => match v2 sc o e with
    | some (a', b') => chk g sc a a' && chk g sc b b'
    | none => false
  | .o3 o a b c, e => match v3 o e with
    | some (a', b', c') => chk g sc a a' && (chk g sc b b' && chk g sc c c')
    | none => false
  | .and a b, e => match vBool .And e with
    | some (a', b') => chk g sc a a' && chk g sc b b'
    | none => false
  | .or a b, e => match vBool .Or e with
    | some (a', b') => chk g sc a a' && chk g sc b b'
    | none => false
  | .ife c a b, e => false
  | .chain o p a b c, e => match vChain o p e with
    | some (a', b', c') => chk g sc a a' && (chk g sc b b' && chk g sc c c')
    | none => false
  | .tup es, e => match vTup e with
    | some es' => chks g sc es es'
    | none => false
  | .lst es, e => match vLst e with
    | some es' => chks g sc es es'
    | none => false
  | .call f es, e => match vCallN (sN f) e with
    | some es' => glB sc (sN f) && (g.P f).isSome && chks g sc es es'
    | none => false
  | .comp k a b c t elt cond, e => match vComp e with
    | some v => (match vI sc k v.iter with
        | some (a', ob, oc) => chk g sc a a' && (match ob with
            | some b' => chk g sc b b'
            | none => cn b) && (match oc with
            | some c' => chk g sc c c'
            | none => cn c)
        | none => false) && ikT k t && blkC g.N sc v.scope (ownOf g.N t) && chkT g.N (relS v.scope sc) (blkFn v.scope) t v.tg && chk g (relS v.scope sc) elt v.elt &&
        (match cond, v.ifs with
        | none, [] => true
        | some q, [q'] => chk g (relS v.scope sc) q q'
        | _, _ => false)
    | none => false
def chks (g : Gx) (sc : Scope) : List E → List Expr → Bool
  | [], es' => es'.isEmpty
  | e :: es, es' => match es' with
    | e' :: r => chk g sc e e' && chks g sc es r
    | [] => false
end
section
variable {X : Cx} {P : Prog} {C : String → Option D} {n : Nat}
theorem const_of {Φ : String → List D → R D} {c : Const} {d : D} {j : Nat} {pos : Pos} (h : constB c d = true) : PE X (.Constant c j pos) (rdE X.K Φ (.cst d)) := by
  have key : ∀ {v : V}, PE X (.Constant c j pos) (tC v) → (∀ F, Dq X.K F v d) → PE X (.Constant c j pos) (rdE X.K Φ (.cst d)) := fun {v} hp hq => PE_imp hp fun σ H Q q => by
    obtain ⟨F, env, d', h1, h2, h3, h4, g⟩ := q
    rw [ev] at h4
    cases h4
    exact gv_same _ g h1 (hq F)
  unfold constB at h
  split at h
  · exact key pe_non fun _ => .non
  · have e := eq_of_beq h
    subst e
    exact key pe_bl fun _ => .bl _
  · have e := of_decide_eq_true h
    subst e
    exact key pe_int fun _ => .int _
  · rename_i x y
    have e := of_decide_eq_true h
    subst e
    exact key pe_str fun F => by
      have := Dq.str (K := X.K) (F := F) x.cps.toList
      exact this
  · cases h
theorem glob_of {Φ : String → List D → R D} (G : Good X P C n) {x : String} {d : D} {pos : Pos} (hg : glB X.env.scope (sN x) = true) (h : sameC (C x) d = true) : PE X (.Name (sN x) pos) (rdE X.K Φ (.glb x d)) := by
  obtain ⟨g1, g2, _⟩ := gl_of hg
  have hC : C x = some d := by
    unfold sameC at h
    split at h
    · rename_i e
      rw [e, of_decide_eq_true h]
    · rename_i e
      rw [e, of_decide_eq_true h]
    · cases h
  obtain ⟨u, v, hm, hr, hq⟩ := G.cs x d hC
  refine PE_imp (pe_glob g1 hm hr g2) fun σ H Q q => ?_
  obtain ⟨F, env, d', h1, h2, h3, h4, g⟩ := q
  rw [ev] at h4
  cases h4
  exact gv_same _ g h1 (hq F)
theorem var_of {Φ : String → List D → R D} {i : Nat} {x : Str} {pos : Pos} (hN : X.N[i]? = some x) (hv : visB X.env.scope x = true) : PE X (.Name x pos) (rdE X.K Φ (.var i)) := by
  obtain ⟨g1, g2, g3⟩ := vis_of hv
  refine PE_imp (pe_var hN g1 g2 g3) fun σ H Q q => ?_
  obtain ⟨F, env, d, h1, h2, h3, h4, g⟩ := q
  rw [ev] at h4
  unfold getV at h4
  split at h4
  · rename_i d' e
    cases h4
    obtain ⟨v, hv, hq⟩ := h3 i _ e
    exact ⟨v, hv, gv_same _ g h1 hq⟩
  · cases h4
theorem and_of {Φ : String → List D → R D} {a b : E} {a' b' e : Expr} (hv : vBool .And e = some (a', b')) (ha : PE X a' (rdE X.K Φ a)) (ta : PT X a' (rdT X.K Φ a)) (hb : PE X b' (rdE X.K Φ b)) (tb : PT X b' (rdT X.K Φ b)) (wb : ∀ es p, b' = .BoolOp .And es p → PW X b' (rdT X.K Φ b)) :
    PE X e (rdE X.K Φ (.and a b)) ∧ PW X e (rdT X.K Φ (.and a b)) := by
  have re : ∀ (σ : L2.St) (H : Hp) (Q : VK), rdE X.K Φ (.and a b) σ H Q → tAndV (rdE X.K Φ a) (rdE X.K Φ b) σ H Q := fun σ H Q q => by
    obtain ⟨F, env, d, h1, h2, h3, h4, g⟩ := q
    rw [ev] at h4
    obtain ⟨x, h5, h6⟩ := R.bind_ok_inv h4
    refine ⟨F, env, x, h1, h2, h3, h5, fun v F' H' e1 q1 => ?_⟩
    cases x with
    | bl c =>
      refine ⟨c, dq_bl q1, ?_⟩
      cases c with
      | true => exact iteT ⟨F', env, d, e1.sub, h2, h3.mono e1.le, h6, g.after e1⟩
      | false => cases h6; exact iteF (gv_bl _ (g.after e1) e1.sub)
    | _ => cases h6
  have rt : ∀ (σ : L2.St) (H : Hp) (Q : Bool → Hp → Prop), rdT X.K Φ (.and a b) σ H Q → tAnd (rdT X.K Φ a) (rdT X.K Φ b) σ H Q := fun σ H Q q => by
    obtain ⟨F, env, d, h1, h2, h3, h4, g⟩ := q
    rw [ev] at h4
    obtain ⟨x, h5, h6⟩ := R.bind_ok_inv h4
    cases x with
    | bl c =>
      refine ⟨F, env, c, h1, h2, h3, h5, fun F' H' e1 => ?_⟩
      cases c with
      | true => exact iteT ⟨F', env, d, e1.sub, h2, h3.mono e1.le, h6, fun F2 H2 e2 => g F2 H2 (e1.trans e2)⟩
      | false => cases h6; exact iteF (g F' H' e1)
    | _ => cases h6
  unfold vBool at hv
  split at hv
  · split at hv
    · rename_i ho
      subst ho
      cases hv
      exact ⟨PE_imp (pe_and ha (pe_one hb)) re, PW_imp (pw_and ta (pw_and1 tb)) rt⟩
    · cases hv
  · split at hv
    · rename_i ho
      subst ho
      cases hv
      exact ⟨PE_imp (pe_and ha hb) re, PW_imp (pw_and ta (wb _ _ rfl)) rt⟩
    · cases hv
  · cases hv
theorem or_of {Φ : String → List D → R D} {a b : E} {a' b' e : Expr} (hv : vBool .Or e = some (a', b')) (ha : PE X a' (rdE X.K Φ a)) (ta : PT X a' (rdT X.K Φ a)) (hb : PE X b' (rdE X.K Φ b)) (tb : PT X b' (rdT X.K Φ b)) (wb : ∀ es p, b' = .BoolOp .Or es p → PW X b' (rdT X.K Φ b)) :
    PE X e (rdE X.K Φ (.or a b)) ∧ PW X e (rdT X.K Φ (.or a b)) := by
  have re : ∀ (σ : L2.St) (H : Hp) (Q : VK), rdE X.K Φ (.or a b) σ H Q → tOrV (rdE X.K Φ a) (rdE X.K Φ b) σ H Q := fun σ H Q q => by
    obtain ⟨F, env, d, h1, h2, h3, h4, g⟩ := q
    rw [ev] at h4
    obtain ⟨x, h5, h6⟩ := R.bind_ok_inv h4
    refine ⟨F, env, x, h1, h2, h3, h5, fun v F' H' e1 q1 => ?_⟩
    cases x with
    | bl c =>
      refine ⟨c, dq_bl q1, ?_⟩
      cases c with
      | true => cases h6; exact iteT (gv_bl _ (g.after e1) e1.sub)
      | false => exact iteF ⟨F', env, d, e1.sub, h2, h3.mono e1.le, h6, g.after e1⟩
    | _ => cases h6
  have rt : ∀ (σ : L2.St) (H : Hp) (Q : Bool → Hp → Prop), rdT X.K Φ (.or a b) σ H Q → tOr (rdT X.K Φ a) (rdT X.K Φ b) σ H Q := fun σ H Q q => by
    obtain ⟨F, env, d, h1, h2, h3, h4, g⟩ := q
    rw [ev] at h4
    obtain ⟨x, h5, h6⟩ := R.bind_ok_inv h4
    cases x with
    | bl c =>
      refine ⟨F, env, c, h1, h2, h3, h5, fun F' H' e1 => ?_⟩
      cases c with
      | true => cases h6; exact iteT (g F' H' e1)
      | false => exact iteF ⟨F', env, d, e1.sub, h2, h3.mono e1.le, h6, fun F2 H2 e2 => g F2 H2 (e1.trans e2)⟩
    | _ => cases h6
  unfold vBool at hv
  split at hv
  · split at hv
    · rename_i ho
      subst ho
      cases hv
      exact ⟨PE_imp (pe_or ha (pe_one hb)) re, PW_imp (pw_or ta (pw_or1 tb)) rt⟩
    · cases hv
  · split at hv
    · rename_i ho
      subst ho
      cases hv
      exact ⟨PE_imp (pe_or ha hb) re, PW_imp (pw_or ta (wb _ _ rfl)) rt⟩
    · cases hv
  · cases hv
theorem cmp_of {o : O2} {x : CmpOp} (hu : X.A.units + 70 < cLine) (h : cmpOf o = some x) : OpR X (compareOp x) (r2 X.K (op2 o)) := by
  cases o <;> first | (cases h; done) | skip
  · cases h; exact o_eq hu
  · cases h; exact o_ne hu
  · cases h; exact o_lt
  · cases h; exact o_le hu
  · cases h; exact o_gt
  · cases h; exact o_ge
theorem chain_of {Φ : String → List D → R D} (hu : X.A.units + 70 < cLine) {o p : O2} {a b c : E} {a' b' c' e : Expr} (hv : vChain o p e = some (a', b', c')) (ha : PE X a' (rdE X.K Φ a)) (hb : PE X b' (rdE X.K Φ b)) (hc : PE X c' (rdE X.K Φ c)) :
    PE X e (rdE X.K Φ (.chain o p a b c)) ∧ PT X e (rdT X.K Φ (.chain o p a b c)) := by
  have re : ∀ (σ : L2.St) (H : Hp) (Q : VK), rdE X.K Φ (.chain o p a b c) σ H Q → tChain (r2 X.K (op2 o)) (r2 X.K (op2 p)) (rdE X.K Φ a) (rdE X.K Φ b) (rdE X.K Φ c) σ H Q := fun σ H Q q => by
    obtain ⟨F, env, d, h1, h2, h3, h4, g⟩ := q
    rw [ev] at h4
    obtain ⟨x, h5, h4⟩ := R.bind_ok_inv h4
    obtain ⟨y, h6, h4⟩ := R.bind_ok_inv h4
    obtain ⟨k, h7, h4⟩ := R.bind_ok_inv h4
    refine ⟨F, env, x, h1, h2, h3, h5, fun v F1 H1 e1 q1 => ⟨F1, env, y, e1.sub, h2, h3.mono e1.le, h6, fun w F2 H2 e2 q2 => ⟨F2, x, y, k, e2.sub, q1.mono e2.le, q2, h7, fun u F3 H3 e3 q3 => ?_⟩⟩⟩
    cases k with
    | bl kb =>
      refine ⟨kb, dq_bl q3, ?_⟩
      have e13 := (e1.trans e2).trans e3
      cases kb with
      | true =>
        obtain ⟨z, h8, h9⟩ := R.bind_ok_inv h4
        exact iteT ⟨F3, env, z, e3.sub, h2, h3.mono e13.le, h8, fun w2 F4 H4 e4 q4 => ⟨F4, y, z, d, e4.sub, (q2.mono e3.le).mono e4.le, q4, h9, (g.after e13).after e4⟩⟩
      | false => cases h4; exact iteF (gv_bl _ (g.after e13) e3.sub)
    | _ => cases h4
  unfold vChain at hv
  split at hv
  · split at hv
    · rename_i ho
      obtain ⟨o1, o2, o3⟩ := ho
      cases hv
      have hm : ∀ x y : CmpOp, lastMarks [x, y] [b', c'] = false := fun x y => mark_of (op := y) o3
      refine ⟨PE_imp (pe_chain (cmp_of hu o1) (cmp_of hu o2) ha hb hc (hm _ _)) re, PT_imp (pt_chain (cmp_of hu o1) (cmp_of hu o2) ha hb hc (hm _ _)) fun σ H Q q => ?_⟩
      obtain ⟨F, env, bb, h1, h2, h3, h4, g⟩ := q
      exact re σ H _ ⟨F, env, .bl bb, h1, h2, h3, h4, fun v F' H' x d => ⟨bb, dq_bl d, g F' H' x⟩⟩
    · cases hv
  · cases hv
theorem if_of {Φ : String → List D → R D} {a b c : E} {a' b' c' : Expr} {pos : Pos} (tc : PT X c' (rdT X.K Φ c)) (ha : PE X a' (rdE X.K Φ a)) (hb : PE X b' (rdE X.K Φ b)) : PE X (.IfExp c' a' b' pos) (rdE X.K Φ (.ife c a b)) := by
  refine PE_imp (pe_ifExp tc ha hb) fun σ H Q q => ?_
  obtain ⟨F, env, d, h1, h2, h3, h4, g⟩ := q
  rw [ev] at h4
  obtain ⟨x, h5, h6⟩ := R.bind_ok_inv h4
  cases x with
  | bl k =>
    refine ⟨F, env, k, h1, h2, h3, h5, fun F' H' e1 => ?_⟩
    cases k with
    | true => exact iteT ⟨F', env, d, e1.sub, h2, h3.mono e1.le, h6, g.after e1⟩
    | false => exact iteF ⟨F', env, d, e1.sub, h2, h3.mono e1.le, h6, g.after e1⟩
  | _ => cases h6
theorem lst_is {Φ : String → List D → R D} {es : List E} (env : Env) (d : D) (h : ev Φ env (.lst es) = .ok d) : ∃ ds, d = .lst ds := by
  rw [ev] at h
  obtain ⟨x, _, h⟩ := R.bind_ok_inv h
  obtain ⟨_, h⟩ := R.chk_ok_inv h
  cases h
  exact ⟨_, rfl⟩
theorem comp_is {Φ : String → List D → R D} {k : IK} {a b c : E} {t : T} {elt : E} {cond : Option E} (env : Env) (d : D) (h : ev Φ env (.comp k a b c t elt cond) = .ok d) : ∃ ds, d = .lst ds := by
  rw [ev] at h
  obtain ⟨_, _, h⟩ := R.bind_ok_inv h
  obtain ⟨_, _, h⟩ := R.bind_ok_inv h
  obtain ⟨_, _, h⟩ := R.bind_ok_inv h
  obtain ⟨_, _, h⟩ := R.bind_ok_inv h
  obtain ⟨_, h⟩ := R.chk_ok_inv h
  obtain ⟨_, _, h⟩ := R.bind_ok_inv h
  cases h
  exact ⟨_, rfl⟩

/-- what is said of an expression -/
structure Snd (X : Cx) (Φ : String → List D → R D) (a : E) (e : Expr) : Prop where
  pe : PE X e (rdE X.K Φ a)
  pt : PT X e (rdT X.K Φ a)
  pw : ∀ op es p, e = .BoolOp op es p → PW X e (rdT X.K Φ a)
theorem Snd.of {Φ : String → List D → R D} {a : E} {e : Expr} (h : PE X e (rdE X.K Φ a)) (hp : plainT e = true) : Snd X Φ a e :=
  ⟨h, pt_of h hp, fun op es p z => by subst z; cases hp⟩
theorem Snd.of2 {Φ : String → List D → R D} {a : E} {e : Expr} (h : PE X e (rdE X.K Φ a) ∧ PT X e (rdT X.K Φ a)) (hp : ∀ op es p, e ≠ .BoolOp op es p) : Snd X Φ a e := ⟨h.1, h.2, fun op es p z => absurd z (hp op es p)⟩
theorem v1_nb {sc : Scope} {o : O1} {e a' : Expr} (h : v1 sc o e = some a') : ∀ op es p, e ≠ .BoolOp op es p := fun op es p z => by
  subst z
  cases o <;> cases h
theorem v2_nb {sc : Scope} {o : O2} {e : Expr} {a' : Expr × Expr} (h : v2 sc o e = some a') : ∀ op es p, e ≠ .BoolOp op es p := fun op es p z => by
  subst z
  cases o <;> cases h
theorem vCallN_eq {f : Str} {e : Expr} {es : List Expr} (h : vCallN f e = some es) : ∃ e0 r p pos, es = e0 :: r ∧ e = .Call (.Name f p) (e0 :: r) [] pos ∧ ((e0 :: r).all fun e => !isStar e) = true := by
  unfold vCallN at h
  split at h
  · split at h
    · rename_i hx
      obtain ⟨rfl, h2⟩ := hx
      cases h
      exact ⟨_, _, _, _, rfl, rfl, h2⟩
    · cases h
  · cases h
theorem vTup_eq {e : Expr} {es : List Expr} (h : vTup e = some es) : ∃ k p, e = .Tuple es k p ∧ (es.all fun e => !isStar e) = true := by
  unfold vTup at h
  split at h
  · split at h
    · cases h
      exact ⟨_, _, rfl, by assumption⟩
    · cases h
  · cases h
theorem vLst_eq {e : Expr} {es : List Expr} (h : vLst e = some es) : ∃ p, e = .List es p ∧ (es.all fun e => !isStar e) = true := by
  unfold vLst at h
  split at h
  · split at h
    · cases h
      exact ⟨_, rfl, by assumption⟩
    · cases h
  · cases h
theorem vIf_eq {e : Expr} {q : Expr × Expr × Expr} (h : vIf e = some q) : ∃ p, e = .IfExp q.1 q.2.1 q.2.2 p := by
  unfold vIf at h
  split at h
  · cases h; exact ⟨_, rfl⟩
  · cases h
theorem vComp_eq {e : Expr} {v : CompV} (h : vComp e = some v) : ∃ p, e = .ListComp v.elt [⟨v.tg, v.iter, v.ifs, 0⟩] v.scope p := by
  unfold vComp at h
  split at h
  · split at h
    · rename_i hk
      subst hk
      cases h
      exact ⟨_, rfl⟩
    · cases h
  · cases h
/-- what the looker knows fits the context -/
structure Fit (X : Cx) (g : Gx) (n : Nat) (sc : Scope) : Prop where
  good : Good X g.P g.C n
  N : X.N = g.N
  sc : X.env.scope = sc
theorem Fit.blk {g : Gx} {sc : Scope} (f : Fit X g n sc) (s : Shared) (H : Hp) (scope : Scope) (cl : List (Str × Addr)) (C : Addr) (fp : List Addr) : Fit (X.blk s H scope (compEnvC scope cl C X.env) fp) g n (relS scope sc) :=
  ⟨f.good.blk _ _ _ _ _, f.N, by rw [← f.sc]; rfl⟩
theorem setE_B1 {sc : Scope} {f : String} {e a : Expr} (h : vB1 sc f e = some a) (hf : sN f ≠ sN "set" := by decide) : isSetE e = false := by
  unfold vB1 at h
  split at h
  · split at h
    · rename_i hx
      rfl
    · cases h
  · cases h
theorem setE_B2 {sc : Scope} {f : String} {e : Expr} {p : Expr × Expr} (h : vB2 sc f e = some p) : isSetE e = false := by
  unfold vB2 at h
  split at h
  · rfl
  · cases h
theorem setE_B3 {sc : Scope} {f : String} {e : Expr} {p : Expr × Expr × Expr} (h : vB3 sc f e = some p) : isSetE e = false := by
  unfold vB3 at h
  split at h
  · rfl
  · cases h
theorem chkT_pair {N : List Str} {sc : Scope} {fn : Str → Bool} {k : IK} {t : T} {tg : Expr} (hk : ikT k t = true) (h : chkT N sc fn t tg = true) : pairK k = true → ∃ es kk p, tg = .Tuple es kk p := fun hp => by
  have hn := ikT_of hk hp
  cases tg with
  | Tuple es kk p => exact ⟨es, kk, p, rfl⟩
  | _ => cases t <;> first | exact absurd rfl (hn _) | (simp [chkT] at h)
theorem pi_of {g : Gx} {sc : Scope} (f : Fit X g n sc) {k : IK} {a b c : E} {iter tg : Expr} {a' : Expr} {ob oc : Option Expr} (hv : vI sc k iter = some (a', ob, oc)) (ha : PE X a' (rdE X.K (run g.P n) a)) (hb : ∀ b', ob = some b' → PE X b' (rdE X.K (run g.P n) b)) (hc : ∀ c', oc = some c' → PE X c' (rdE X.K (run g.P n) c))
    (ht : pairK k = true → ∃ es kk p, tg = .Tuple es kk p) : PI X tg iter (rdI X.K (run g.P n) k a b c) ∧ isSetE iter = false := by
  have hsc := f.sc
  subst hsc
  cases k with
  | seq =>
    simp only [vI] at hv
    by_cases hs : isSetE iter = false
    · rw [if_pos hs] at hv
      cases hv
      exact ⟨pi_seq ha, hs⟩
    · rw [if_neg hs] at hv
      cases hv
  | range1 =>
    simp only [vI, Option.map_eq_some_iff] at hv
    obtain ⟨x, hx, e⟩ := hv
    cases e
    exact ⟨pi_rng1 f.good hx ha, setE_B1 hx⟩
  | range2 =>
    simp only [vI, Option.map_eq_some_iff] at hv
    obtain ⟨x, hx, e⟩ := hv
    cases e
    exact ⟨pi_rng2 f.good hx ha (hb _ rfl), setE_B2 hx⟩
  | enum =>
    simp only [vI, Option.map_eq_some_iff] at hv
    obtain ⟨x, hx, e⟩ := hv
    cases e
    obtain ⟨es, kk, p, rfl⟩ := ht rfl
    exact ⟨pi_en f.good hx ha, setE_B1 hx⟩
  | zip2 =>
    simp only [vI, Option.map_eq_some_iff] at hv
    obtain ⟨x, hx, e⟩ := hv
    cases e
    obtain ⟨es, kk, p, rfl⟩ := ht rfl
    exact ⟨pi_z2 f.good hx ha (hb _ rfl), setE_B2 hx⟩
  | zip3 =>
    simp only [vI, Option.map_eq_some_iff] at hv
    obtain ⟨x, hx, e⟩ := hv
    cases e
    obtain ⟨es, kk, p, rfl⟩ := ht rfl
    exact ⟨pi_z3 f.good hx ha (hb _ rfl) (hc _ rfl), setE_B3 hx⟩
/-- the parts of a comprehension -/
structure CompOk (X : Cx) (Φ : String → List D → R D) (k : IK) (a b c : E) (t : T) (elt : E) (cond : Option E) (v : CompV) : Prop where
  pi : PI X v.tg v.iter (rdI X.K Φ k a b c)
  set : isSetE v.iter = false
  ik : ikT k t = true
  blk : BlkOk X.N X.env.scope v.scope (ownOf X.N t)
  pg : ∀ (s : Shared) (H : Hp) (C : Addr) (cl : List (Str × Addr)) (fp : List Addr), PG (X.blk s H v.scope (compEnvC v.scope cl C X.env) fp) v.tg (gT X.K t)
  pt : ∀ (s : Shared) (H : Hp) (C : Addr) (cl : List (Str × Addr)) (fp : List Addr), PTs (X.blk s H v.scope (compEnvC v.scope cl C X.env) fp) v.ifs (tCond X.K Φ cond)
  pe : ∀ (s : Shared) (H : Hp) (C : Addr) (cl : List (Str × Addr)) (fp : List Addr), PE (X.blk s H v.scope (compEnvC v.scope cl C X.env) fp) v.elt (rdE X.K Φ elt)
abbrev IH (g : Gx) (a : E) : Prop := ∀ (X : Cx) (n : Nat) (sc : Scope) (e : Expr), Fit X g n sc → chk g sc a e = true → Snd X (run g.P n) a e
theorem sndC {g : Gx} {k : IK} {a b c : E} {t : T} {elt : E} {cond : Option E} (ia : IH g a) (ib : IH g b) (ic : IH g c) (ie : IH g elt) (iq : ∀ q, cond = some q → IH g q) (X : Cx) (n : Nat) (sc : Scope) (e : Expr) (f : Fit X g n sc) (h : chk g sc (.comp k a b c t elt cond) e = true) : ∃ v, vComp e = some v ∧ CompOk X (run g.P n) k a b c t elt cond v := by
  rw [chk] at h
  split at h
  · rename_i v hv
    refine ⟨v, hv, ?_⟩
    simp only [Bool.and_eq_true] at h
    obtain ⟨⟨⟨⟨⟨h1, h2⟩, h3⟩, h4⟩, h5⟩, h6⟩ := h
    split at h1
    · rename_i a' ob oc hvi
      simp only [Bool.and_eq_true] at h1
      have hcc : ∀ c', oc = some c' → PE X c' (rdE X.K (run g.P n) c) := fun c' hc' => by
        subst hc'
        exact (ic X n sc c' f h1.2).pe
      have s1 := ia X n sc a' f h1.1.1
      have hb : ∀ b', ob = some b' → PE X b' (rdE X.K (run g.P n) b) := fun b' hb' => by
        subst hb'
        exact (ib X n sc b' f h1.1.2).pe
      obtain ⟨hpi, hset⟩ := pi_of (c := c) (tg := v.tg) f hvi s1.pe hb hcc (chkT_pair h2 h4)
      have hblk : BlkOk X.N X.env.scope v.scope (ownOf X.N t) := by rw [f.N, f.sc]; exact blkOk_by h3
      refine ⟨hpi, hset, h2, hblk, fun s H C cl fp => ?_, fun s H C cl fp => ?_, fun s H C cl fp => ?_⟩
      · have f2 := f.blk s H v.scope cl C fp
        refine pg_of f2.good.calm f2.good.nd t v.tg ?_
        rw [f2.N, f2.sc]
        exact h4
      · have f2 := f.blk s H v.scope cl C fp
        match cond, v.ifs, h6, iq with
        | none, [], _, _ => exact pts_nil
        | some q, [q'], h6, iq => exact pts_one (iq q rfl _ n _ q' f2 h6).pt
        | none, _ :: _, h6, _ => cases h6
        | some q, [], h6, _ => cases h6
        | some q, _ :: _ :: _, h6, _ => cases h6
      · exact (ie _ n _ v.elt (f.blk s H v.scope cl C fp) h5).pe
    · cases h1
  · cases h
mutual
theorem snd (g : Gx) : ∀ (a : E) (X : Cx) (n : Nat) (sc : Scope) (e : Expr), Fit X g n sc → chk g sc a e = true → Snd X (run g.P n) a e
  | .var i, X, n, sc, e, f, h => by
    rw [chk] at h
    split at h
    · rename_i x hv
      obtain ⟨p, rfl⟩ := vName_eq hv
      rw [Bool.and_eq_true] at h
      have hsc := f.sc
      subst hsc
      exact .of (var_of (by rw [f.N]; exact of_decide_eq_true h.1) h.2) rfl
    · cases h
  | .cst d, X, n, sc, e, f, h => by
    rw [chk] at h
    split at h
    · rename_i x hv
      obtain ⟨j, p, rfl⟩ := vConst_eq hv
      exact .of (const_of h) rfl
    · cases h
  | .glb x d, X, n, sc, e, f, h => by
    rw [chk] at h
    split at h
    · rename_i y hv
      obtain ⟨p, rfl⟩ := vName_eq hv
      rw [Bool.and_eq_true, Bool.and_eq_true] at h
      have hsc := f.sc
      subst hsc
      rw [of_decide_eq_true h.1.1]
      exact .of (glob_of f.good h.1.2 h.2) rfl
    · cases h
  | .o1 o a, X, n, sc, e, f, h => by
    rw [chk] at h
    split at h
    · rename_i a' hv
      have hsc := f.sc
      subst hsc
      have s := snd g a X n _ a' f h
      exact .of2 (s_o1 f.good hv s.pe s.pt) (v1_nb hv)
    · cases h
  | .o2 o a b, X, n, sc, e, f, h => by
    rw [chk] at h
    split at h
    · rename_i a' b' hv
      have hsc := f.sc
      subst hsc
      rw [Bool.and_eq_true] at h
      have s1 := snd g a X n _ a' f h.1
      have s2 := snd g b X n _ b' f h.2
      exact .of2 (s_o2 f.good hv s1.pe s2.pe) (v2_nb hv)
    · cases h
  | .o3 o a b c, X, n, sc, e, f, h => by
    rw [chk] at h
    split at h
    · rename_i a' b' c' hv
      rw [Bool.and_eq_true, Bool.and_eq_true] at h
      have s1 := snd g a X n _ a' f h.1
      have s2 := snd g b X n _ b' f h.2.1
      have s3 := snd g c X n _ c' f h.2.2
      cases o
      have r := pe_cutD (show vCut e = _ from hv) s1.pe s2.pe s3.pe
      exact .of r.1 r.2
    · cases h
  | .and a b, X, n, sc, e, f, h => by
    rw [chk] at h
    split at h
    · rename_i a' b' hv
      rw [Bool.and_eq_true] at h
      have s1 := snd g a X n _ a' f h.1
      have s2 := snd g b X n _ b' f h.2
      have r := and_of hv s1.pe s1.pt s2.pe s2.pt fun es p z => s2.pw _ es p z
      exact ⟨r.1, r.2.pt, fun _ _ _ _ => r.2⟩
    · cases h
  | .or a b, X, n, sc, e, f, h => by
    rw [chk] at h
    split at h
    · rename_i a' b' hv
      rw [Bool.and_eq_true] at h
      have s1 := snd g a X n _ a' f h.1
      have s2 := snd g b X n _ b' f h.2
      have r := or_of hv s1.pe s1.pt s2.pe s2.pt fun es p z => s2.pw _ es p z
      exact ⟨r.1, r.2.pt, fun _ _ _ _ => r.2⟩
    · cases h
  | .ife c a b, X, n, sc, e, f, h => by
    rw [chk] at h
    cases h
  | .chain o p a b c, X, n, sc, e, f, h => by
    rw [chk] at h
    split at h
    · rename_i a' b' c' hv
      rw [Bool.and_eq_true, Bool.and_eq_true] at h
      have s1 := snd g a X n _ a' f h.1
      have s2 := snd g b X n _ b' f h.2.1
      have s3 := snd g c X n _ c' f h.2.2
      refine .of2 (chain_of f.good.un hv s1.pe s2.pe s3.pe) fun op es p z => ?_
      subst z
      cases hv
    · cases h
  | .tup es, X, n, sc, e, f, h => by
    rw [chk] at h
    split at h
    · rename_i es' hv
      obtain ⟨k, p, rfl, hst⟩ := vTup_eq hv
      exact .of (pe_tupD (snds g es X n sc es' f h hst)) rfl
    · cases h
  | .lst es, X, n, sc, e, f, h => by
    rw [chk] at h
    split at h
    · rename_i es' hv
      obtain ⟨p, rfl, hst⟩ := vLst_eq hv
      exact .of (pe_L lst_is (pe_lstD (snds g es X n sc es' f h hst))) rfl
    · cases h
  | .call fn es, X, n, sc, e, f, h => by
    rw [chk] at h
    split at h
    · rename_i es' hv
      obtain ⟨e0, r, p, pos, rfl, rfl, hst⟩ := vCallN_eq hv
      rw [Bool.and_eq_true, Bool.and_eq_true] at h
      have hsc := f.sc
      subst hsc
      obtain ⟨fd, hP⟩ := Option.isSome_iff_exists.mp h.1.2
      exact .of (pe_callD f.good hP h.1.1 hst (snds g es X n _ _ f h.2 hst)) rfl
    · cases h
  | .comp k a b c t elt none, X, n, sc, e, f, h => by
    obtain ⟨v, hv, q⟩ := sndC (snd g a) (snd g b) (snd g c) (snd g elt) (fun q z => by cases z) X n sc e f h
    obtain ⟨p, rfl⟩ := vComp_eq hv
    exact .of (pe_L comp_is (pe_comp f.good q.pi q.set q.ik q.blk q.pg q.pt q.pe)) rfl
  | .comp k a b c t elt (some qc), X, n, sc, e, f, h => by
    have iq := snd g qc
    obtain ⟨v, hv, q⟩ := sndC (snd g a) (snd g b) (snd g c) (snd g elt) (fun q z => by cases z; exact iq) X n sc e f h
    obtain ⟨p, rfl⟩ := vComp_eq hv
    exact .of (pe_L comp_is (pe_comp f.good q.pi q.set q.ik q.blk q.pg q.pt q.pe)) rfl
theorem snds (g : Gx) : ∀ (as : List E) (X : Cx) (n : Nat) (sc : Scope) (es : List Expr), Fit X g n sc → chks g sc as es = true → (es.all fun e => !isStar e) = true → PA X es (rdA X.K (run g.P n) as)
  | [], X, n, sc, es, f, h, hst => by
    rw [chks] at h
    cases es with
    | nil => exact pa_nilD
    | cons _ _ => cases h
  | a :: as, X, n, sc, es, f, h, hst => by
    cases es with
    | nil => simp [chks] at h
    | cons e es =>
      rw [chks, Bool.and_eq_true] at h
      simp only [List.all_cons, Bool.and_eq_true, Bool.not_eq_true'] at hst
      exact pa_consD (snd g a X n sc e f h.1).pe (snds g as X n sc es f h.2 (by simpa using hst.2)) hst.1
end
end
end OC

/-! Part S8: the slots that own lists; the state between statements. -/
namespace OC
open PySem PySem.Spec PyProof.Rows L2
/-! ### slots that an expression does not read -/
mutual
def E.avoids (M : List Nat) : E → Bool
  | .var i => !M.contains i
  | .cst _ => true
  | .glb _ _ => true
  | .o1 _ a => a.avoids M
  | .o2 _ a b => a.avoids M && b.avoids M
  | .o3 _ a b c => a.avoids M && (b.avoids M && c.avoids M)
  | .and a b => a.avoids M && b.avoids M
  | .or a b => a.avoids M && b.avoids M
  | .ife c a b => c.avoids M && (a.avoids M && b.avoids M)
  | .chain _ _ a b c => a.avoids M && (b.avoids M && c.avoids M)
  | .tup es => avoidsL M es
  | .lst es => avoidsL M es
  | .call _ es => avoidsL M es
  | .comp _ a b c _ elt cond => a.avoids M && (b.avoids M && (c.avoids M && (elt.avoids M && (match cond with
    | some q => q.avoids M
    | none => true))))
def avoidsL (M : List Nat) : List E → Bool
  | [] => true
  | e :: es => e.avoids M && avoidsL M es
end
/-- alike outside of M -/
def Agr (M : List Nat) (e1 e2 : Env) : Prop := e1.length = e2.length ∧ ∀ i, i ∉ M → e1[i]? = e2[i]?
theorem Agr.set {M : List Nat} {e1 e2 : Env} (h : Agr M e1 e2) (i : Nat) (x : Option D) : Agr M (e1.set i x) (e2.set i x) := by
  refine ⟨by rw [List.length_set, List.length_set]; exact h.1, fun j hj => ?_⟩
  by_cases hij : i = j
  · subst hij
    by_cases hi : i < e1.length
    · rw [List.getElem?_set_self hi, List.getElem?_set_self (by rw [← h.1]; exact hi)]
    · rw [List.getElem?_eq_none (by rw [List.length_set]; omega), List.getElem?_eq_none (by rw [List.length_set, ← h.1]; omega)]
  · rw [List.getElem?_set_ne hij, List.getElem?_set_ne hij]
    exact h.2 j hj
theorem Agr.wipe {M : List Nat} {e1 e2 : Env} (h : Agr M e1 e2) : ∀ vs, Agr M (wipeE e1 vs) (wipeE e2 vs)
  | [] => h
  | v :: vs => (Agr.wipe h vs).set v none
/-- both stop alike, or go on alike -/
def AgrR (M : List Nat) : R Env → R Env → Prop
  | .ok a, .ok b => Agr M a b
  | .exc a, .exc b => a = b
  | .bad, .bad => True
  | _, _ => False
theorem AgrR.bind {M : List Nat} {r1 r2 : R Env} {f1 f2 : Env → R Env} (h : AgrR M r1 r2) (hf : ∀ a b, Agr M a b → AgrR M (f1 a) (f2 b)) : AgrR M (r1.bind f1) (r2.bind f2) := by
  cases r1 <;> cases r2 <;> first | exact hf _ _ h | exact h | cases h
theorem bind_agr {M : List Nat} : ∀ (t : T) (d : D) (e1 e2 : Env), Agr M e1 e2 → AgrR M (bindT t d e1) (bindT t d e2)
  | .nm i, d, e1, e2, h => by
    show AgrR M (R.chk _ _) (R.chk _ _)
    rw [h.1]
    cases decide (i < e2.length) with
    | true => exact h.set i (some d)
    | false => exact trivial
  | .p2 a b, d, e1, e2, h => by
    cases d with
    | tup xs =>
      match xs with
      | [x, y] => exact (bind_agr a x e1 e2 h).bind fun a1 b1 h1 => bind_agr b y a1 b1 h1
      | [] => simp [bindT, AgrR]
      | [_] => simp [bindT, AgrR]
      | _ :: _ :: _ :: _ => simp [bindT, AgrR]
    | _ => simp [bindT, AgrR]
  | .p3 a b c, d, e1, e2, h => by
    cases d with
    | tup xs =>
      match xs with
      | [x, y, z] => exact (bind_agr a x e1 e2 h).bind fun a1 b1 h1 => (bind_agr b y a1 b1 h1).bind fun a2 b2 h2 => bind_agr c z a2 b2 h2
      | [] => simp [bindT, AgrR]
      | [_] => simp [bindT, AgrR]
      | [_, _] => simp [bindT, AgrR]
      | _ :: _ :: _ :: _ :: _ => simp [bindT, AgrR]
    | _ => simp [bindT, AgrR]
theorem compL_agr {M : List Nat} {t : T} {cond elt : Env → R D} {w1 w2 : Env} (hw : Agr M w1 w2) (hc : ∀ a b, Agr M a b → cond a = cond b) (he : ∀ a b, Agr M a b → elt a = elt b) : ∀ items, compL (fun d => bindT t d w1) cond elt items = compL (fun d => bindT t d w2) cond elt items
  | [] => rfl
  | x :: xs => by
    rw [compL, compL]
    have h := bind_agr t x w1 w2 hw
    cases h1 : bindT t x w1 with
    | ok a =>
      cases h2 : bindT t x w2 with
      | ok b =>
        rw [h1, h2] at h
        rw [R.bind_ok, R.bind_ok, hc a b h, he a b h, compL_agr hw hc he xs]
      | exc _ => rw [h1, h2] at h; cases h
      | bad => rw [h1, h2] at h; cases h
    | exc _ =>
      cases h2 : bindT t x w2 with
      | ok b => rw [h1, h2] at h; cases h
      | exc _ => rw [h1, h2] at h; cases h; rfl
      | bad => rw [h1, h2] at h; cases h
    | bad =>
      cases h2 : bindT t x w2 with
      | ok b => rw [h1, h2] at h; cases h
      | exc _ => rw [h1, h2] at h; cases h
      | bad => rfl
section
variable {Φ : String → List D → R D} {M : List Nat}
mutual
theorem ev_agr : ∀ (e : E) (e1 e2 : Env), Agr M e1 e2 → e.avoids M = true → ev Φ e1 e = ev Φ e2 e
  | .var i, e1, e2, h, ha => by
    rw [ev, ev]
    unfold getV
    rw [h.2 i (by simpa [E.avoids] using ha)]
  | .cst _, _, _, _, _ => by rw [ev, ev]
  | .glb _ _, _, _, _, _ => by rw [ev, ev]
  | .o1 o a, e1, e2, h, ha => by
    rw [E.avoids] at ha
    rw [ev, ev, ev_agr a e1 e2 h ha]
  | .o2 o a b, e1, e2, h, ha => by
    rw [E.avoids, Bool.and_eq_true] at ha
    rw [ev, ev, ev_agr a e1 e2 h ha.1, ev_agr b e1 e2 h ha.2]
  | .o3 o a b c, e1, e2, h, ha => by
    rw [E.avoids, Bool.and_eq_true, Bool.and_eq_true] at ha
    rw [ev, ev, ev_agr a e1 e2 h ha.1, ev_agr b e1 e2 h ha.2.1, ev_agr c e1 e2 h ha.2.2]
  | .and a b, e1, e2, h, ha => by
    rw [E.avoids, Bool.and_eq_true] at ha
    rw [ev, ev, ev_agr a e1 e2 h ha.1, ev_agr b e1 e2 h ha.2]
  | .or a b, e1, e2, h, ha => by
    rw [E.avoids, Bool.and_eq_true] at ha
    rw [ev, ev, ev_agr a e1 e2 h ha.1, ev_agr b e1 e2 h ha.2]
  | .ife c a b, e1, e2, h, ha => by
    rw [E.avoids, Bool.and_eq_true, Bool.and_eq_true] at ha
    rw [ev, ev, ev_agr a e1 e2 h ha.2.1, ev_agr b e1 e2 h ha.2.2, ev_agr c e1 e2 h ha.1]
  | .chain o p a b c, e1, e2, h, ha => by
    rw [E.avoids, Bool.and_eq_true, Bool.and_eq_true] at ha
    rw [ev, ev, ev_agr a e1 e2 h ha.1, ev_agr b e1 e2 h ha.2.1, ev_agr c e1 e2 h ha.2.2]
  | .tup es, e1, e2, h, ha => by
    rw [E.avoids] at ha
    rw [ev, ev, evs_agr es e1 e2 h ha]
  | .lst es, e1, e2, h, ha => by
    rw [E.avoids] at ha
    rw [ev, ev, evs_agr es e1 e2 h ha]
  | .call f es, e1, e2, h, ha => by
    rw [E.avoids] at ha
    rw [ev, ev, evs_agr es e1 e2 h ha]
  | .comp k a b c t elt none, e1, e2, h, ha => by
    rw [E.avoids] at ha
    simp only [Bool.and_eq_true] at ha
    rw [ev, ev, ev_agr a e1 e2 h ha.1, ev_agr b e1 e2 h ha.2.1, ev_agr c e1 e2 h ha.2.2.1]
    have q := fun items => compL_agr (t := t) (cond := fun _ => .ok (.bl true)) (elt := fun e1 => ev Φ e1 elt) (h.wipe t.slots) (fun _ _ _ => rfl) (fun a b hab => ev_agr elt a b hab ha.2.2.2.1) items
    simp only [q]
  | .comp k a b c t elt (some qc), e1, e2, h, ha => by
    rw [E.avoids] at ha
    simp only [Bool.and_eq_true] at ha
    rw [ev, ev, ev_agr a e1 e2 h ha.1, ev_agr b e1 e2 h ha.2.1, ev_agr c e1 e2 h ha.2.2.1]
    have q := fun items => compL_agr (t := t) (cond := fun e1 => ev Φ e1 qc) (elt := fun e1 => ev Φ e1 elt) (h.wipe t.slots) (fun a b hab => ev_agr qc a b hab ha.2.2.2.2) (fun a b hab => ev_agr elt a b hab ha.2.2.2.1) items
    simp only [q]
theorem evs_agr : ∀ (es : List E) (e1 e2 : Env), Agr M e1 e2 → avoidsL M es = true → evs Φ e1 es = evs Φ e2 es
  | [], _, _, _, _ => by rw [evs, evs]
  | e :: es, e1, e2, h, ha => by
    rw [avoidsL, Bool.and_eq_true] at ha
    rw [evs, evs, ev_agr e e1 e2 h ha.1, evs_agr es e1 e2 h ha.2]
end
end
/-- the slots of M hidden -/
def mask (M : List Nat) (env : Env) : Env := wipeE env M
theorem mask_agr (M : List Nat) (env : Env) : Agr M (mask M env) env := by
  refine ⟨wipeE_len env M, fun i hi => ?_⟩
  unfold mask
  induction M with
  | nil => rfl
  | cons v vs ih =>
    simp only [List.mem_cons, not_or] at hi
    unfold wipeE
    rw [List.getElem?_set_ne (fun e => hi.1 e.symm)]
    exact ih hi.2
theorem set_set_comm {env : Env} {i j : Nat} (h : i ≠ j) (x y : Option D) : (env.set i x).set j y = (env.set j y).set i x := List.set_comm x y h
theorem wipe_put {env : Env} {i : Nat} {x : Option D} : ∀ {M : List Nat}, i ∉ M → wipeE (env.set i x) M = (wipeE env M).set i x
  | [], _ => rfl
  | v :: vs, h => by
    simp only [List.mem_cons, not_or] at h
    unfold wipeE
    rw [wipe_put h.2, set_set_comm h.1]
theorem bind_mask {M : List Nat} : ∀ (t : T) (d : D) (env e1 : Env), (∀ i ∈ t.slots, i ∉ M) → bindT t d env = .ok e1 → bindT t d (mask M env) = .ok (mask M e1)
  | .nm i, d, env, e1, hm, h => by
    obtain ⟨h1, h2⟩ := R.chk_ok_inv (show R.chk _ _ = _ from h)
    cases h2
    show R.chk _ _ = _
    unfold mask
    rw [wipeE_len, h1]
    show R.ok _ = _
    unfold put
    rw [wipe_put (hm i (by simp [T.slots]))]
  | .p2 a b, d, env, e1, hm, h => by
    obtain ⟨x, y, e2, rfl, h1, h2⟩ := p2_inv h
    have k1 := bind_mask a x env e2 (fun i hi => hm i (by simp [T.slots, hi])) h1
    have k2 := bind_mask b y e2 e1 (fun i hi => hm i (by simp [T.slots, hi])) h2
    show R.bind _ _ = _
    rw [k1, R.bind_ok, k2]
  | .p3 a b c, d, env, e1, hm, h => by
    obtain ⟨x, y, z, e2, e3, rfl, h1, h2, h3⟩ := p3_inv h
    have k1 := bind_mask a x env e2 (fun i hi => hm i (by simp [T.slots, hi])) h1
    have k2 := bind_mask b y e2 e3 (fun i hi => hm i (by simp [T.slots, hi])) h2
    have k3 := bind_mask c z e3 e1 (fun i hi => hm i (by simp [T.slots, hi])) h3
    show R.bind _ _ = _
    rw [k1, R.bind_ok, k2, R.bind_ok, k3]
theorem bind_out : ∀ (t : T) (d : D) (env e1 : Env), bindT t d env = .ok e1 → ∀ j, j ∉ t.slots → e1[j]? = env[j]?
  | .nm i, d, env, e1, h, j, hj => by
    obtain ⟨h1, h2⟩ := R.chk_ok_inv (show R.chk _ _ = _ from h)
    cases h2
    exact List.getElem?_set_ne (fun z => hj (by simp [T.slots, z]))
  | .p2 a b, d, env, e1, h, j, hj => by
    obtain ⟨x, y, e2, rfl, h1, h2⟩ := p2_inv h
    simp only [T.slots, List.mem_append, not_or] at hj
    rw [bind_out b y e2 e1 h2 j hj.2, bind_out a x env e2 h1 j hj.1]
  | .p3 a b c, d, env, e1, h, j, hj => by
    obtain ⟨x, y, z, e2, e3, rfl, h1, h2, h3⟩ := p3_inv h
    simp only [T.slots, List.mem_append, not_or] at hj
    rw [bind_out c z e3 e1 h3 j hj.2.2, bind_out b y e2 e3 h2 j hj.2.1, bind_out a x env e2 h1 j hj.1]

/-! ### the state -/
structure SInv (K : PySem.W.Frag) (M : List Nat) (H0 F0 F H : Hp) (σ : L2.St) (env : Env) : Prop where
  le : Same F H
  same : Same H0 H
  old : ∀ b o, H0 b = some o → F b = F0 b
  sub0 : Same F0 F
  len : env.length ≤ σ.length
  sh : ∀ i d, i ∉ M → env[i]? = some (some d) → ∃ v, σ[i]? = some (some v) ∧ Dq K F v d
  ow : ∀ i d, i ∈ M → env[i]? = some (some d) → ∃ a xs ds, d = .lst ds ∧ σ[i]? = some (some (.ref a)) ∧ H a = some (.lst xs) ∧ F a = none ∧ H0 a = none ∧ Dqs K F xs ds
  dj : ∀ i j d d' a, i ∈ M → j ∈ M → env[i]? = some (some d) → env[j]? = some (some d') → σ[i]? = some (some (.ref a)) → σ[j]? = some (some (.ref a)) → i = j
/-- b is the list of a slot of M -/
def Owned (M : List Nat) (σ : L2.St) (env : Env) (b : Addr) : Prop := ∃ i d, i ∈ M ∧ env[i]? = some (some d) ∧ σ[i]? = some (some (.ref b))
open Classical in
/-- with the owned lists -/
noncomputable def full (M : List Nat) (σ : L2.St) (env : Env) (F H : Hp) : Hp := fun b => if Owned M σ env b then H b else F b
open Classical in
/-- without the owned lists -/
noncomputable def less (M : List Nat) (σ : L2.St) (env : Env) (F : Hp) : Hp := fun b => if Owned M σ env b then none else F b
section
variable {K : PySem.W.Frag} {M : List Nat} {H0 F0 F H : Hp} {σ : L2.St} {env : Env}
theorem full_own {b : Addr} (h : Owned M σ env b) : full M σ env F H b = H b := by unfold full; rw [if_pos h]
theorem full_not {b : Addr} (h : ¬ Owned M σ env b) : full M σ env F H b = F b := by unfold full; rw [if_neg h]
theorem less_own {b : Addr} (h : Owned M σ env b) : less M σ env F b = none := by unfold less; rw [if_pos h]
theorem less_not {b : Addr} (h : ¬ Owned M σ env b) : less M σ env F b = F b := by unfold less; rw [if_neg h]
theorem SInv.own (I : SInv K M H0 F0 F H σ env) {b : Addr} (h : Owned M σ env b) : ∃ xs, H b = some (.lst xs) ∧ F b = none ∧ H0 b = none := by
  obtain ⟨i, d, hi, he, hσ⟩ := h
  obtain ⟨a, xs, ds, _, h1, h2, h3, h4, _⟩ := I.ow i d hi he
  rw [hσ] at h1
  cases h1
  exact ⟨xs, h2, h3, h4⟩
theorem SInv.full_le (I : SInv K M H0 F0 F H σ env) : Same F (full M σ env F H) := fun b o e => by
  by_cases hb : Owned M σ env b
  · obtain ⟨_, _, h, _⟩ := I.own hb
    rw [h] at e; cases e
  · rw [full_not hb]; exact e
theorem SInv.full_sub (I : SInv K M H0 F0 F H σ env) : Same (full M σ env F H) H := fun b o e => by
  by_cases hb : Owned M σ env b
  · rw [full_own hb] at e; exact e
  · rw [full_not hb] at e; exact I.le b o e
theorem SInv.rel (I : SInv K M H0 F0 F H σ env) : RelE K (full M σ env F H) σ env := fun i d e => by
  by_cases hi : i ∈ M
  · obtain ⟨a, xs, ds, rfl, h1, h2, h3, h4, h5⟩ := I.ow i d hi e
    refine ⟨.ref a, h1, .lst ?_ (h5.mono I.full_le)⟩
    rw [full_own ⟨i, _, hi, e, h1⟩]
    exact h2
  · obtain ⟨v, h1, h2⟩ := I.sh i d hi e
    exact ⟨v, h1, h2.mono I.full_le⟩
theorem wipe_not {i : Nat} : ∀ {M : List Nat}, i ∈ M → ∀ d, (wipeE env M)[i]? ≠ some (some d) := fun {M} hi d e => (wipeE_some e).2 hi
theorem SInv.relM (I : SInv K M H0 F0 F H σ env) : RelE K F σ (mask M env) := fun i d e => by
  obtain ⟨h1, h2⟩ := wipeE_some (show (wipeE env M)[i]? = some (some d) from e)
  exact I.sh i d h2 h1
/-- behind an expression that may read the owned lists -/
theorem SInv.after (I : SInv K M H0 F0 F H σ env) {F' H' : Hp} (e : Ext (full M σ env F H) H F' H') : SInv K M H0 F0 (less M σ env F') H' σ env := by
  have lsub : Same (less M σ env F') F' := fun b o h => by
    by_cases hb : Owned M σ env b
    · rw [less_own hb] at h; cases h
    · rw [less_not hb] at h; exact h
  have up : Same F (less M σ env F') := fun b o h => by
    have hb : ¬ Owned M σ env b := fun hb => by
      obtain ⟨_, _, q, _⟩ := I.own hb
      rw [q] at h; cases h
    rw [less_not hb]
    exact e.le b o (I.full_le b o h)
  refine ⟨lsub.trans e.sub, I.same.trans e.same, fun b o h => ?_, I.sub0.trans up, I.len, fun i d hi h => ?_, fun i d hi h => ?_, I.dj⟩
  · have hb : ¬ Owned M σ env b := fun hb => by
      obtain ⟨_, _, _, q⟩ := I.own hb
      rw [q] at h; cases h
    rw [less_not hb, e.old b o (I.same b o h), full_not hb]
    exact I.old b o h
  · obtain ⟨v, h1, h2⟩ := I.sh i d hi h
    exact ⟨v, h1, h2.mono up⟩
  · obtain ⟨a, xs, ds, rfl, h1, h2, h3, h4, h5⟩ := I.ow i d hi h
    exact ⟨a, xs, ds, rfl, h1, e.same a _ h2, less_own ⟨i, _, hi, h, h1⟩, h4, h5.mono up⟩
/-- a datum without lists that was told -/
theorem SInv.flat (I : SInv K M H0 F0 F H σ env) {F' H' : Hp} (e : Ext (full M σ env F H) H F' H') {v : V} {d : D} (q : Dq K F' v d) (hf : d.flat = true) : Dq K (less M σ env F') v d := by
  refine q.flat (fun a o xs h => ?_) hf
  have hb : ¬ Owned M σ env a := fun hb => by
    obtain ⟨ys, q, _, _⟩ := I.own hb
    have z := e.old a _ q
    rw [h, full_own hb, q] at z
    cases z
  rw [less_not hb]
  exact h
/-- behind an expression that reads none of the owned lists -/
theorem SInv.next (I : SInv K M H0 F0 F H σ env) {F' H' : Hp} (e : Ext F H F' H') : SInv K M H0 F0 F' H' σ env := by
  refine ⟨e.sub, I.same.trans e.same, fun b o h => (e.old b o (I.same b o h)).trans (I.old b o h), I.sub0.trans e.le, I.len, fun i d hi h => ?_, fun i d hi h => ?_, I.dj⟩
  · obtain ⟨v, h1, h2⟩ := I.sh i d hi h
    exact ⟨v, h1, h2.mono e.le⟩
  · obtain ⟨a, xs, ds, rfl, h1, h2, h3, h4, h5⟩ := I.ow i d hi h
    exact ⟨a, xs, ds, rfl, h1, e.same a _ h2, (e.old a _ h2).trans h3, h4, h5.mono e.le⟩
theorem SInv.heap (I : SInv K M H0 F0 F H σ env) {H' : Hp} (e : Same H H') : SInv K M H0 F0 F H' σ env := by
  refine ⟨I.le.trans e, I.same.trans e, I.old, I.sub0, I.len, I.sh, fun i d hi h => ?_, I.dj⟩
  obtain ⟨a, xs, ds, rfl, h1, h2, h3, h4, h5⟩ := I.ow i d hi h
  exact ⟨a, xs, ds, rfl, h1, e a _ h2, h3, h4, h5⟩
/-- slots outside of M are stored -/
theorem SInv.bind (I : SInv K M H0 F0 F H σ env) {t : T} {d : D} {e1 : Env} {σ' : L2.St} (hb : bindT t d env = .ok e1) (hm : ∀ i ∈ t.slots, i ∉ M) (o : Out1 t.slots σ σ') (r : RelE K F σ' (mask M e1)) : SInv K M H0 F0 F H σ' e1 := by
  have env_eq : ∀ i, i ∈ M → e1[i]? = env[i]? := fun i hi => bind_out t d env e1 hb i fun z => hm i z hi
  have sig_eq : ∀ i, i ∈ M → σ'[i]? = σ[i]? := fun i hi => o.2 i fun z => hm i z hi
  refine ⟨I.le, I.same, I.old, I.sub0, ?_, fun i x hi h => ?_, fun i x hi h => ?_, fun i j x y a hi hj h1 h2 h3 h4 => ?_⟩
  · rw [bindT_len t d env e1 hb, o.1]; exact I.len
  · refine r i x ?_
    rw [(mask_agr M e1).2 i hi]
    exact h
  · rw [env_eq i hi] at h
    obtain ⟨a, xs, ds, rfl, h1, h2, h3, h4, h5⟩ := I.ow i x hi h
    exact ⟨a, xs, ds, rfl, by rw [sig_eq i hi]; exact h1, h2, h3, h4, h5⟩
  · rw [env_eq i hi] at h1
    rw [env_eq j hj] at h2
    rw [sig_eq i hi] at h3
    rw [sig_eq j hj] at h4
    exact I.dj i j x y a hi hj h1 h2 h3 h4
/-- the frozen part of the entry may be taken to be the frozen part now -/
theorem SInv.raise (I : SInv K M H0 F0 F H σ env) {F1 : Hp} (s1 : Same F0 F1) (s2 : Same F1 F) (old : ∀ b o, H0 b = some o → F1 b = F0 b) : SInv K M H0 F1 F H σ env :=
  ⟨I.le, I.same, fun b o h => (I.old b o h).trans (old b o h).symm, s2, I.len, I.sh, I.ow, I.dj⟩
theorem SInv.lower {F1 : Hp} (I : SInv K M H0 F1 F H σ env) (s1 : Same F0 F1) (old : ∀ b o, H0 b = some o → F1 b = F0 b) : SInv K M H0 F0 F H σ env :=
  ⟨I.le, I.same, fun b o h => (I.old b o h).trans (old b o h), s1.trans I.sub0, I.len, I.sh, I.ow, I.dj⟩
theorem SInv.ext (I : SInv K M H0 F0 F H σ env) : Ext F0 H0 F H := ⟨I.sub0, I.le, I.same, I.old⟩
theorem ext_lower {F1 F' H' : Hp} (s1 : Same F0 F1) (old : ∀ b o, H0 b = some o → F1 b = F0 b) (e : Ext F1 H0 F' H') : Ext F0 H0 F' H' := ⟨s1.trans e.le, e.sub, e.same, fun b o h => (e.old b o h).trans (old b o h)⟩
/-- a slot of M is told a fresh list -/
theorem SInv.putM (I : SInv K M H0 F0 F H σ env) {i : Nat} {a : Addr} {xs : List V} {ds : List D} (hi : i ∈ M) (ha : H a = some (.lst xs)) (hf : F a = none) (h0 : H0 a = none) (q : Dqs K F xs ds)
    (ne : ∀ j d, j ∈ M → j ≠ i → env[j]? = some (some d) → σ[j]? ≠ some (some (.ref a))) : SInv K M H0 F0 F H (σ.set i (some (.ref a))) (OC.put env i (.lst ds)) := by
  have ge : ∀ j, j ≠ i → (OC.put env i (.lst ds))[j]? = env[j]? := fun j hj => List.getElem?_set_ne (Ne.symm hj)
  have gs : ∀ j, j ≠ i → (σ.set i (some (.ref a)))[j]? = σ[j]? := fun j hj => List.getElem?_set_ne (Ne.symm hj)
  have at_ : ∀ d, (OC.put env i (.lst ds))[i]? = some (some d) → d = .lst ds ∧ (σ.set i (some (.ref a)))[i]? = some (some (.ref a)) := fun d h => by
    unfold OC.put at h
    by_cases hl : i < env.length
    · rw [List.getElem?_set_self hl] at h
      cases h
      exact ⟨rfl, List.getElem?_set_self (Nat.lt_of_lt_of_le hl I.len)⟩
    · rw [List.getElem?_eq_none (by rw [List.length_set]; omega)] at h
      cases h
  refine ⟨I.le, I.same, I.old, I.sub0, ?_, fun j d hj h => ?_, fun j d hj h => ?_, fun j k d d' b hj hk h1 h2 h3 h4 => ?_⟩
  · unfold OC.put
    rw [List.length_set, List.length_set]
    exact I.len
  · have hji : j ≠ i := fun z => hj (z ▸ hi)
    rw [ge j hji] at h
    rw [gs j hji]
    exact I.sh j d hj h
  · by_cases hji : j = i
    · subst hji
      obtain ⟨rfl, h2⟩ := at_ d h
      exact ⟨a, xs, ds, rfl, h2, ha, hf, h0, q⟩
    · rw [ge j hji] at h
      rw [gs j hji]
      exact I.ow j d hj h
  · by_cases hji : j = i
    · subst hji
      by_cases hki : k = j
      · exact hki.symm
      · rw [ge k hki] at h2
        rw [gs k hki] at h4
        obtain ⟨_, h5⟩ := at_ d h1
        rw [h5] at h3
        cases h3
        exact absurd h4 (ne k d' hk hki h2)
    · rw [ge j hji] at h1
      rw [gs j hji] at h3
      by_cases hki : k = i
      · subst hki
        obtain ⟨_, h5⟩ := at_ d' h2
        rw [h5] at h4
        cases h4
        exact absurd h3 (ne j d hj hji h1)
      · rw [ge k hki] at h2
        rw [gs k hki] at h4
        exact I.dj j k d d' b hj hk h1 h2 h3 h4
/-- the list of a slot of M is changed -/
theorem SInv.upd (I : SInv K M H0 F0 F H σ env) {i : Nat} {a : Addr} {xs ys : List V} {d : D} {ds : List D} (hi : i ∈ M) (he : env[i]? = some (some d)) (hσ : σ[i]? = some (some (.ref a))) (q : Dqs K F ys ds) :
    SInv K M H0 F0 F (L2.upd H a (.lst ys)) σ (OC.put env i (.lst ds)) := by
  obtain ⟨a', xs', ds', rfl, h1, h2, h3, h4, h5⟩ := I.ow i d hi he
  rw [hσ] at h1
  cases h1
  have neF : ∀ b o, F b = some o → b ≠ a := fun b o e z => by rw [z, h3] at e; cases e
  have neH : ∀ b o, H0 b = some o → b ≠ a := fun b o e z => by rw [z, h4] at e; cases e
  have hil : i < env.length := (List.getElem?_eq_some_iff.mp he).1
  have ge : ∀ j, j ≠ i → (OC.put env i (.lst ds))[j]? = env[j]? := fun j hj => List.getElem?_set_ne (Ne.symm hj)
  have gi : (OC.put env i (.lst ds))[i]? = some (some (.lst ds)) := List.getElem?_set_self hil
  refine ⟨fun b o e => ?_, fun b o e => ?_, I.old, I.sub0, ?_, fun j x hj h => ?_, fun j x hj h => ?_, fun j k x y b hj hk e1 e2 e3 e4 => ?_⟩
  · rw [upd_ne (neF b o e)]; exact I.le b o e
  · rw [upd_ne (neH b o e)]; exact I.same b o e
  · unfold OC.put; rw [List.length_set]; exact I.len
  · have hji : j ≠ i := fun z => hj (z ▸ hi)
    rw [ge j hji] at h
    exact I.sh j x hj h
  · by_cases hji : j = i
    · subst hji
      rw [gi] at h
      cases h
      exact ⟨a, ys, ds, rfl, hσ, upd_same, h3, h4, q⟩
    · rw [ge j hji] at h
      obtain ⟨b, zs, es, rfl, k1, k2, k3, k4, k5⟩ := I.ow j x hj h
      refine ⟨b, zs, es, rfl, k1, ?_, k3, k4, k5⟩
      rw [upd_ne ?_]
      · exact k2
      · intro z
        subst z
        exact hji (I.dj j i _ _ _ hj hi h he k1 hσ)
  · have live : ∀ j x, (OC.put env i (.lst ds))[j]? = some (some x) → ∃ x', env[j]? = some (some x') := fun j x h => by
      by_cases hji : j = i
      · subst hji; exact ⟨_, he⟩
      · rw [ge j hji] at h; exact ⟨x, h⟩
    obtain ⟨x', e1'⟩ := live j x e1
    obtain ⟨y', e2'⟩ := live k y e2
    exact I.dj j k x' y' b hj hk e1' e2' e3 e4
/-- a slot of M is left, its list frozen -/
theorem SInv.freeze (I : SInv K M H0 F0 F H σ env) {i : Nat} {a : Addr} {xs : List V} {d : D} (hi : i ∈ M) (he : env[i]? = some (some d)) (hσ : σ[i]? = some (some (.ref a))) (ha : H a = some (.lst xs)) :
    SInv K M H0 F0 (L2.upd F a (.lst xs)) H σ (env.set i none) ∧ Dq K (L2.upd F a (.lst xs)) (.ref a) d := by
  obtain ⟨a', xs', ds', rfl, h1, h2, h3, h4, h5⟩ := I.ow i d hi he
  rw [hσ] at h1
  cases h1
  rw [ha] at h2
  cases h2
  have up : Same F (L2.upd F a (.lst xs)) := same_upd h3
  have ge : ∀ j, j ≠ i → (env.set i none)[j]? = env[j]? := fun j hj => List.getElem?_set_ne (Ne.symm hj)
  have gi : ∀ x : D, (env.set i none)[i]? ≠ some (some x) := fun x h => by
    by_cases hl : i < env.length
    · rw [List.getElem?_set_self hl] at h; cases h
    · rw [List.getElem?_eq_none (by rw [List.length_set]; omega)] at h; cases h
  refine ⟨⟨fun b o e => ?_, I.same, fun b o e => ?_, I.sub0.trans up, ?_, fun j x hj h => ?_, fun j x hj h => ?_, fun j k x y b hj hk e1 e2 e3 e4 => ?_⟩, .lst upd_same (h5.mono up)⟩
  · by_cases hb : b = a
    · subst hb; rw [upd_same] at e; cases e; exact ha
    · rw [upd_ne hb] at e; exact I.le b o e
  · rw [upd_ne (fun z => by rw [z, h4] at e; cases e)]
    exact I.old b o e
  · rw [List.length_set]; exact I.len
  · have hji : j ≠ i := fun z => hj (z ▸ hi)
    rw [ge j hji] at h
    obtain ⟨v, k1, k2⟩ := I.sh j x hj h
    exact ⟨v, k1, k2.mono up⟩
  · have hji : j ≠ i := fun z => gi x (z ▸ h)
    rw [ge j hji] at h
    obtain ⟨b, zs, es, rfl, k1, k2, k3, k4, k5⟩ := I.ow j x hj h
    refine ⟨b, zs, es, rfl, k1, k2, ?_, k4, k5.mono up⟩
    rw [upd_ne ?_]
    · exact k3
    · intro z
      subst z
      exact hji (I.dj j i _ _ _ hj hi h he k1 hσ)
  · have hji : j ≠ i := fun z => gi x (z ▸ e1)
    have hki : k ≠ i := fun z => gi y (z ▸ e2)
    rw [ge j hji] at e1
    rw [ge k hki] at e2
    exact I.dj j k x y b hj hk e1 e2 e3 e4
end
end OC

/-! Part S9: readings of statements. -/
namespace OC
open PySem PySem.Spec PyProof.Rows L2
def Post (K : PySem.W.Frag) (M : List Nat) (H0 F0 : Hp) (D : Ends) : Out → Prop
  | .nx env' => ∀ F' σ' H', SInv K M H0 F0 F' H' σ' env' → D.nx σ' H'
  | .rt d => ∀ v F' H', Ext F0 H0 F' H' → Dq K F' v d → D.rt v H'
def rdS (K : PySem.W.Frag) (Φ : String → List D → R D) (M : List Nat) (s : S) : TS := fun D σ H => ∃ H0 F0 F env o, SInv K M H0 F0 F H σ env ∧ evS Φ s env = .ok o ∧ Post K M H0 F0 D o
def rdSs (K : PySem.W.Frag) (Φ : String → List D → R D) (M : List Nat) (s : List S) : TS := fun D σ H => ∃ H0 F0 F env o, SInv K M H0 F0 F H σ env ∧ evSs Φ s env = .ok o ∧ Post K M H0 F0 D o
section
variable {K : PySem.W.Frag} {M : List Nat} {H0 F0 F H : Hp} {σ : L2.St} {env : Env}
theorem SInv.extF (I : SInv K M H0 F0 F H σ env) {F' H' : Hp} (e : Ext (full M σ env F H) H F' H') : Ext F0 H0 F' H' := by
  refine ⟨(I.sub0.trans I.full_le).trans e.le, e.sub, I.same.trans e.same, fun b o h => ?_⟩
  have hb : ¬ Owned M σ env b := fun hb => by
    obtain ⟨_, _, _, q⟩ := I.own hb
    rw [q] at h; cases h
  rw [e.old b o (I.same b o h), full_not hb]
  exact I.old b o h
end
section
variable {X : Cx} {Φ : String → List D → R D} {M : List Nat}
theorem s_nil : PSs X [] (rdSs X.K Φ M []) := PSs_imp pss_nil fun D σ H q => by
  obtain ⟨H0, F0, F, env, o, I, h, p⟩ := q
  rw [evSs] at h
  cases h
  exact p F σ H I
theorem s_cons {s : S} {ss : List S} {st : Stmt} {sts : List Stmt} (h1 : PS X st (rdS X.K Φ M s)) (h2 : PSs X sts (rdSs X.K Φ M ss)) : PSs X (st :: sts) (rdSs X.K Φ M (s :: ss)) := by
  refine PSs_imp (pss_cons h1 h2) fun D σ H q => ?_
  obtain ⟨H0, F0, F, env, o, I, h, p⟩ := q
  rw [evSs] at h
  obtain ⟨o1, h3, h4⟩ := R.bind_ok_inv h
  refine ⟨H0, F0, F, env, o1, I, h3, ?_⟩
  cases o1 with
  | nx e1 => exact fun F' σ' H' I' => ⟨H0, F0, F', e1, o, I', h4, p⟩
  | rt d => cases h4; exact p
theorem s_ret {e : E} {e' : Expr} {pos : Pos} (he : PE X e' (rdE X.K Φ e)) : PS X (.Return (some e') pos) (rdS X.K Φ M (.ret e)) := by
  refine PS_imp (ps_ret he) fun D σ H q => ?_
  obtain ⟨H0, F0, F, env, o, I, h, p⟩ := q
  rw [evS] at h
  obtain ⟨d, h1, h2⟩ := R.bind_ok_inv h
  cases h2
  exact ⟨full M σ env F H, env, d, I.full_sub, I.len, I.rel, h1, fun v F' H' x q => p v F' H' (I.extF x) q⟩
theorem s_nop {pos : Pos} : PS X (.Pass pos) (rdS X.K Φ M .nop) := PS_imp ps_pass fun D σ H q => by
  obtain ⟨H0, F0, F, env, o, I, h, p⟩ := q
  rw [evS] at h
  cases h
  exact p F σ H I
theorem s_raise {c : Nat} {st : Stmt} : PS X st (rdS X.K Φ M (.raise c)) := PS_imp ps_never fun D σ H q => by
  obtain ⟨H0, F0, F, env, o, I, h, p⟩ := q
  rw [evS] at h
  cases h
/-! ### assignments -/
def isTupE : Expr → Bool
  | .Tuple .. => true
  | _ => false
theorem sole_of {tg e : Expr} {l : Nat} {env : PySem.Env} (h : isCompE e = false) : swapsWithSole [tg] e l env = pure false := by
  cases e <;> first | rfl | (simp [isCompE] at h)
theorem stores_of {tg e : Expr} {env : PySem.Env} (ht : isTgt tg = true) (h : (isTupE tg && isTupE e) = false) : swappedStores [tg] e env = pure none := by
  cases tg <;> first | (cases ht; done) | skip
  · cases e <;> rfl
  · cases e <;> first | rfl | (simp [isTupE] at h)
theorem gT_mask {K : PySem.W.Frag} {H0 F0 F H : Hp} {σ : L2.St} {env e1 : Env} {t : T} {d : D} {v : V} {Q : L2.St → Hp → Prop} (I : SInv K M H0 F0 F H σ env) (hm : ∀ i ∈ t.slots, i ∉ M) (hb : bindT t d env = .ok e1) (fit : Fits K F H t v d)
    (k : ∀ σ', SInv K M H0 F0 F H σ' e1 → Q σ' H) : gT K t v σ H Q := by
  refine gT_run I.le t d v (mask M env) (mask M e1) σ Q (bind_mask t d env e1 hm hb) fit ?_ I.relM fun σ' o r => k σ' (I.bind hb hm o r)
  unfold mask
  rw [wipeE_len]
  exact I.len
theorem s_asg {t : T} {e : E} {tg e' : Expr} {pos : Pos} (he : PE X e' (rdE X.K Φ e)) (hg : PG X tg (gT X.K t)) (htg : isTgt tg = true) (hc : isCompE e' = false) (hw : (isTupE tg && isTupE e') = false) (ha : e.avoids M = true) (hm : ∀ i ∈ t.slots, i ∉ M) :
    PS X (.Assign [tg] e' pos) (rdS X.K Φ M (.asg t e)) := by
  refine PS_imp (ps_asg he hg (sole_of hc) (stores_of htg hw) (by rw [ae1 htg]; rfl)) fun D σ H q => ?_
  obtain ⟨H0, F0, F, env, o, I, h, p⟩ := q
  rw [evS] at h
  obtain ⟨d, h1, h2⟩ := R.bind_ok_inv h
  obtain ⟨e1, h3, h4⟩ := R.bind_ok_inv h2
  cases h4
  refine ⟨F, mask M env, d, I.le, by unfold mask; rw [wipeE_len]; exact I.len, I.relM, by rw [ev_agr e _ _ (mask_agr M env) ha]; exact h1, fun v F' H' x q => ?_⟩
  have I' := I.next x
  exact gT_mask I' hm h3 (fits_of I'.le q h3) fun σ' I2 => p F' σ' H' I2
theorem s_asgF {t : T} {e : E} {tg e' : Expr} {pos : Pos} (he : PE X e' (rdE X.K Φ e)) (hg : PG X tg (gT X.K t)) (htg : isTgt tg = true) (hc : isCompE e' = false) (hw : (isTupE tg && isTupE e') = false) (hm : ∀ i ∈ t.slots, i ∉ M) :
    PS X (.Assign [tg] e' pos) (rdS X.K Φ M (.asgF t e)) := by
  refine PS_imp (ps_asg he hg (sole_of hc) (stores_of htg hw) (by rw [ae1 htg]; rfl)) fun D σ H q => ?_
  obtain ⟨H0, F0, F, env, o, I, h, p⟩ := q
  rw [evS] at h
  obtain ⟨d, h1, h2⟩ := R.bind_ok_inv h
  obtain ⟨hf, h2⟩ := R.chk_ok_inv h2
  obtain ⟨e1, h3, h4⟩ := R.bind_ok_inv h2
  cases h4
  refine ⟨full M σ env F H, env, d, I.full_sub, I.len, I.rel, h1, fun v F' H' x q => ?_⟩
  have I' := I.after x
  exact gT_mask I' hm h3 (fits_of I'.le (I.flat x q hf) h3) fun σ' I2 => p _ σ' H' I2
/-- name = [..] where the store comes first -/
theorem s_asgC {P : Prog} {C : String → Option D} {n : Nat} {i : Nat} {y : Str} {py spos cpos : Pos} {k : IK} {a b c : E} {t : T} {elt : E} {cond : Option E} {v : CompV} (G : Good X P C n) (q : CompOk X Φ k a b c t elt cond v) (hy : X.N[i]? = some y) (hyl : X.env.scope.names.lookup y = some .local)
    (hsw : swapsWith (.ListComp v.elt [⟨v.tg, v.iter, v.ifs, 0⟩] v.scope cpos) (some (.Name y py)) spos.line X.env = pure true) (ha : (E.comp k a b c t elt cond).avoids M = true) (hm : i ∉ M) :
    PS X (.Assign [.Name y py] (.ListComp v.elt [⟨v.tg, v.iter, v.ifs, 0⟩] v.scope cpos) spos) (rdS X.K Φ M (.asg (.nm i) (.comp k a b c t elt cond))) := by
  refine PS_imp (ps_comp (i := i) G hy hyl hsw q.pi q.set q.ik q.blk q.pg q.pt q.pe) fun D σ H q => ?_
  obtain ⟨H0, F0, F, env, o, I, h, p⟩ := q
  rw [evS] at h
  obtain ⟨d, h1, h2⟩ := R.bind_ok_inv h
  obtain ⟨e1, h3, h4⟩ := R.bind_ok_inv h2
  cases h4
  obtain ⟨ds, rfl⟩ := comp_is env d h1
  refine rdL_rdE (K := X.K) (Q := fun x H1 => gName i x σ H1 D.nx) I.le (env := mask M env) (by unfold mask; rw [wipeE_len]; exact I.len) I.relM (by rw [ev_agr _ _ _ (mask_agr M env) ha]; exact h1) fun v F' H' x q => ?_
  have I' := I.next x
  exact gT_mask (t := .nm i) I' (by simp [T.slots, hm]) h3 (fits_of I'.le q h3) fun σ' I2 => p F' σ' H' I2
theorem s_move {i j : Nat} {x y : Str} {py px spos : Pos} (hN : X.N.Nodup) (hy : X.N[i]? = some y) (hx : X.N[j]? = some x) (hv : visB X.env.scope x = true) (hg : PG X (.Name y py) (gName i)) (hi : i ∉ M) (hj : j ∈ M) :
    PS X (.Assign [.Name y py] (.Name x px) spos) (rdS X.K Φ M (.move i j)) := by
  obtain ⟨g1, g2, g3⟩ := vis_of hv
  refine PS_imp (ps_asg (pe_var hx g1 g2 g3) hg (sole_of rfl) (stores_of rfl rfl) rfl) fun D σ H q => ?_
  obtain ⟨H0, F0, F, env, o, I, h, p⟩ := q
  rw [evS] at h
  obtain ⟨d, h1, h2⟩ := R.bind_ok_inv h
  obtain ⟨e1, hb, h4⟩ := R.bind_ok_inv h2
  cases h4
  have he : env[j]? = some (some d) := by
    unfold getV at h1
    split at h1
    · rename_i d' e; cases h1; exact e
    · cases h1
  obtain ⟨a, xs, ds, rfl, k1, k2, k3, k4, k5⟩ := I.ow j d hj he
  refine ⟨.ref a, k1, ?_⟩
  obtain ⟨I2, q2⟩ := I.freeze hj he k1 k2
  exact gT_mask (M := M) (t := .nm i) (v := .ref a) (Q := D.nx) I2 (by simp [T.slots, hi]) hb q2 fun σ' I3 => p _ σ' H I3
theorem getV_inv {env : Env} {i : Nat} {d : D} (h : getV env i = .ok d) : env[i]? = some (some d) := by
  unfold getV at h
  split at h
  · rename_i d' e; cases h; exact e
  · cases h
/-- a fresh list to a slot of M -/
theorem s_own {i : Nat} {e : E} {y : Str} {e' : Expr} {py pos : Pos} (he : PE X e' (rdL X.K Φ e)) (hg : PG X (.Name y py) (gName i)) (hc : isCompE e' = false) (ha : e.avoids (M.filter (· != i)) = true) (hi : i ∈ M) :
    PS X (.Assign [.Name y py] e' pos) (rdS X.K Φ M (.own i e)) := by
  refine PS_imp (ps_asg he hg (sole_of hc) (stores_of rfl rfl) rfl) fun D σ H q => ?_
  obtain ⟨H0, F0, F, env, o, I, h, p⟩ := q
  rw [evS] at h
  obtain ⟨d, h1, h2⟩ := R.bind_ok_inv h
  cases d with
  | lst ds =>
    cases h2
    -- the old list of the slot is frozen, if there is one
    have key : ∃ F1, Same F F1 ∧ Same F1 H ∧ (∀ b o, H0 b = some o → F1 b = F b) ∧ (∀ j x, j ∈ M → j ≠ i → env[j]? = some (some x) → ∀ a, σ[j]? = some (some (.ref a)) → F1 a = F a) ∧ RelE X.K F1 σ (mask (M.filter (· != i)) env) := by
      have out : ∀ j x, (mask (M.filter (· != i)) env)[j]? = some (some x) → env[j]? = some (some x) ∧ (j ∈ M → j = i) := fun j x e => by
        obtain ⟨k1, k2⟩ := wipeE_some (show (wipeE env (M.filter (· != i)))[j]? = some (some x) from e)
        refine ⟨k1, fun hj => ?_⟩
        by_cases z : j = i
        · exact z
        · exact absurd (List.mem_filter.mpr ⟨hj, by simpa using z⟩) k2
      by_cases live : ∃ x, env[i]? = some (some x)
      · obtain ⟨x, hx⟩ := live
        obtain ⟨a, xs, ds', rfl, k1, k2, k3, k4, k5⟩ := I.ow i x hi hx
        have up : Same F (L2.upd F a (.lst xs)) := same_upd k3
        refine ⟨L2.upd F a (.lst xs), up, fun b o e => ?_, fun b o e => ?_, fun j z hj hji hz b hb => ?_, fun j z e => ?_⟩
        · by_cases hb : b = a
          · subst hb; rw [upd_same] at e; cases e; exact k2
          · rw [upd_ne hb] at e; exact I.le b o e
        · exact upd_ne fun z => by rw [z, k4] at e; cases e
        · refine upd_ne fun w => ?_
          subst w
          exact hji (I.dj j i _ _ _ hj hi hz hx hb k1)
        · obtain ⟨k6, k7⟩ := out j z e
          by_cases hj : j ∈ M
          · have := k7 hj
            subst this
            rw [hx] at k6
            cases k6
            exact ⟨.ref a, k1, .lst upd_same (k5.mono up)⟩
          · obtain ⟨v, m1, m2⟩ := I.sh j z hj k6
            exact ⟨v, m1, m2.mono up⟩
      · refine ⟨F, Same.refl F, I.le, fun _ _ _ => rfl, fun _ _ _ _ _ _ _ => rfl, fun j z e => ?_⟩
        obtain ⟨k6, k7⟩ := out j z e
        by_cases hj : j ∈ M
        · have := k7 hj
          subst this
          exact absurd ⟨z, k6⟩ live
        · exact I.sh j z hj k6
    obtain ⟨F1, s1, s2, old1, own1, rel1⟩ := key
    refine ⟨F1, mask (M.filter (· != i)) env, ds, s2, by unfold mask; rw [wipeE_len]; exact I.len, rel1, by rw [ev_agr e _ _ (mask_agr _ env) ha]; exact h1, fun a xs F' H' x hH hn hf q => ?_⟩
    refine p F' _ H' ?_
    have I1 : SInv X.K M H0 F0 F' H' σ (env.set i none) := by
      have ge : ∀ j, j ≠ i → (env.set i none)[j]? = env[j]? := fun j hj => List.getElem?_set_ne (Ne.symm hj)
      have gi : ∀ x : OC.D, (env.set i none)[i]? ≠ some (some x) := fun x h => by
        by_cases hl : i < env.length
        · rw [List.getElem?_set_self hl] at h; cases h
        · rw [List.getElem?_eq_none (by rw [List.length_set]; omega)] at h; cases h
      refine ⟨x.sub, I.same.trans x.same, fun b o h => ?_, (I.sub0.trans s1).trans x.le, by rw [List.length_set]; exact I.len, fun j z hj h => ?_, fun j z hj h => ?_, fun j k z w b hj hk e1 e2 e3 e4 => ?_⟩
      · rw [x.old b o (I.same b o h), old1 b o h]; exact I.old b o h
      · have hji : j ≠ i := fun w => hj (w ▸ hi)
        rw [ge j hji] at h
        obtain ⟨v, m1, m2⟩ := I.sh j z hj h
        exact ⟨v, m1, (m2.mono s1).mono x.le⟩
      · have hji : j ≠ i := fun w => gi z (w ▸ h)
        rw [ge j hji] at h
        obtain ⟨b, zs, es, rfl, m1, m2, m3, m4, m5⟩ := I.ow j z hj h
        exact ⟨b, zs, es, rfl, m1, x.same b _ m2, by rw [x.old b _ m2, own1 j _ hj hji h b m1]; exact m3, m4, (m5.mono s1).mono x.le⟩
      · have hji : j ≠ i := fun w => gi z (w ▸ e1)
        have hki : k ≠ i := fun v => gi w (v ▸ e2)
        rw [ge j hji] at e1
        rw [ge k hki] at e2
        exact I.dj j k z w b hj hk e1 e2 e3 e4
    have h0 : H0 a = none := Same.none I.same hn
    have I3 := I1.putM (ds := ds) hi hH hf h0 q fun j z hj hji hz hb => by
      obtain ⟨b, zs, es, _, m1, m2, _⟩ := I.ow j z hj (by rw [List.getElem?_set_ne (Ne.symm hji)] at hz; exact hz)
      rw [hb] at m1
      cases m1
      rw [hn] at m2
      cases m2
    have e5 : OC.put (env.set i none) i (.lst ds) = OC.put env i (.lst ds) := by
      unfold OC.put
      rw [List.set_set]
    rw [e5] at I3
    exact I3
  | _ => cases h2
/-! ### lists that are changed -/
def vMut (m : String) : Stmt → Option (Str × Expr)
  | .Expr (.Call (.Attribute (.Name x _) y p) [a] [] q) _ => if y = sN m ∧ isStar a = false ∧ (p.endLine == q.line) = true then some (x, a) else none
  | _ => none
theorem vMut_eq {m : String} {st : Stmt} {q : Str × Expr} (h : vMut m st = some q) : ∃ px p cp pos, st = .Expr (.Call (.Attribute (.Name q.1 px) (sN m) p) [q.2] [] cp) pos ∧ isStar q.2 = false ∧ (p.endLine == cp.line) = true := by
  unfold vMut at h
  split at h
  · split at h
    · rename_i hx
      obtain ⟨rfl, h2, h3⟩ := hx
      cases h
      exact ⟨_, _, _, _, rfl, h2, h3⟩
    · cases h
  · cases h
theorem s_app {i : Nat} {e : E} {x : Str} {e' : Expr} {px p cp pos : Pos} (hx : X.N[i]? = some x) (hv : visB X.env.scope x = true) (he : PE X e' (rdE X.K Φ e)) (hst : isStar e' = false) (hl : (p.endLine == cp.line) = true) (ha : e.avoids M = true) (hi : i ∈ M) :
    PS X (.Expr (.Call (.Attribute (.Name x px) (sN "append") p) [e'] [] cp) pos) (rdS X.K Φ M (.app i e)) := by
  obtain ⟨g1, g2, g3⟩ := vis_of hv
  refine PS_imp (ps_expr (pe_bm PySem.F.plainAttrs_list PySem.F.slot_list_append PySem.F.type_list_append mt_append (pe_var hx g1 g2 g3) (pa_cons he pa_nil (star_of hst)) rfl (few_of hst) hl (star_of hst) rfl) rfl) fun D σ H q => ?_
  obtain ⟨H0, F0, F, env, o, I, h, p⟩ := q
  rw [evS] at h
  obtain ⟨l, h1, h2⟩ := R.bind_ok_inv h
  obtain ⟨d, h3, h4⟩ := R.bind_ok_inv h2
  have hl := getV_inv h1
  obtain ⟨a, xs, ds, rfl, k1, k2, k3, k4, k5⟩ := I.ow i l hi hl
  obtain ⟨h5, h4⟩ := R.chk_ok_inv (show R.chk _ _ = _ from h4)
  cases h4
  have h5 := of_decide_eq_true h5
  refine ⟨.ref a, k1, .inl ⟨rfl, _, SqL.of k2⟩, ?_⟩
  refine ⟨F, mask M env, d, I.le, by unfold mask; rw [wipeE_len]; exact I.len, I.relM, by rw [ev_agr e _ _ (mask_agr M env) ha]; exact h3, fun v F' H' x q => ?_⟩
  refine ⟨a, xs, v, rfl, rfl, x.same a _ k2, by rw [k5.length, ← limEq]; exact h5, ?_⟩
  have I' := I.next x
  exact p F' σ _ (I'.upd (xs := xs) hi hl k1 ((k5.mono x.le).append (.cons q .nil)))
theorem list_extend_tup (l : Addr) (items : Array Value) (n : Nat) (b : Addr) (items2 : Array Value) (n2 : Nat) (dd : Option Addr) (sl : Array (Option Value)) (hs0 : ¬(!items.isEmpty && Builtin.List.listTooLong (items.size + items2.size)) = true) (hs1 : items.size ≤ sizeLine) (hs2 : items.size + items2.size ≤ sizeLine + 1) :
    Meets (Builtin.«list.extend» ⟨[.ref l, .ref b], []⟩) (fun _ R s => s.heap.get? l = some { cls := .type "list", dict := none, data := .seq items n, slots := #[] } ∧ s.heap.get? b = some { cls := .type "tuple", dict := dd, data := .seq items2 n2, slots := sl } ∧ R (.ok (.ret Value.none)) { s with heap := s.heap.update l (Obj.mapSeq fun x => x ++ items2), toks := s.toks }) :=
  .of_wp fun prog w A R s h => by
    obtain ⟨hp, g, d, tk, os⟩ := s; obtain ⟨hl, hb, h⟩ := h; have f1 := AutoSeq1.idx_int; have f2 := AutoSeq1.sub_tuple_tuple; have f3 := AutoSeq1.sub_list_list; have f4 := AutoSeq1.sub_tuple_list; have f5 := AutoSeq1.sub_list_tuple
    have hz' : (items ++ items2).size ≤ sizeLine + 1 := by rw [Array.size_append]; exact hs2
    wp_walk using (wpAny_updateSeq hl rfl (hz := hs1) (_hz' := hz')), wpAny_loadPart' hl, wpAny_loadPart' hb; exact ⟨_, rfl, h⟩
/-- extend by a list or a tuple -/
theorem mt_extendT : MtM X "list.extend" (fun x vs H Q => ∃ l b xs zs, x = .ref l ∧ vs = [.ref b] ∧ H l = some (.lst xs) ∧ SqT X.K H b zs ∧ xs.length + zs.length ≤ sizeLine ∧ Q .non (L2.upd H l (.lst (xs ++ zs)))) := by
  intro pins s σ H x vs v us Q I rx rv h
  obtain ⟨l, b, xs, zs, rfl, rfl, hH, hB, hz, q⟩ := h
  cases rx
  obtain ⟨u, rfl, ru⟩ := rv.one
  cases ru
  obtain ⟨z, its, n, r, hl, e⟩ := I.lstM hH
  obtain ⟨its2, r2, ⟨⟨cls, dd, data, sls⟩, e2, hc2, n2, hd2⟩, z2⟩ := I.tuple hB
  simp only at hc2 hd2
  subst hc2 hd2
  have hl2 := r2.length
  have hsz : its.toArray.size + its2.toArray.size ≤ sizeLine := by rw [List.size_toArray, List.size_toArray]; omega
  have hlong : ¬ (!its.toArray.isEmpty && Builtin.List.listTooLong (its.toArray.size + its2.toArray.size)) = true := by
    rw [notLongL hsz, Bool.and_false]
    exact Bool.false_ne_true
  refine call_meets PySem.F.slot_list_extend ⟨_, e, rfl⟩ PySem.F.entry_list_extend (PySem.F.args_list_extend_2 _ _) (list_extend_tup l its.toArray n b its2.toArray n2 dd sls hlong (by rw [List.size_toArray]; omega) (by omega)) ⟨e, e2, ?_⟩
  refine ⟨.non, _, I.lset (its' := its ++ its2) hH e (by simp) (r.append r2) ?_, rfl, q⟩
  rw [List.length_append]
  omega
end
end OC

/-! Part S10: readings of statements: lists changed, branches, loops. -/
namespace OC
open PySem PySem.Spec PyProof.Rows L2
section
variable {X : Cx} {Φ : String → List D → R D} {M : List Nat}
theorem s_ext {i : Nat} {e : E} {x : Str} {e' : Expr} {px p cp pos : Pos} (hx : X.N[i]? = some x) (hv : visB X.env.scope x = true) (he : PE X e' (rdE X.K Φ e)) (hst : isStar e' = false) (hl : (p.endLine == cp.line) = true) (ha : e.avoids M = true) (hi : i ∈ M) :
    PS X (.Expr (.Call (.Attribute (.Name x px) (sN "extend") p) [e'] [] cp) pos) (rdS X.K Φ M (.ext i e)) := by
  obtain ⟨g1, g2, g3⟩ := vis_of hv
  refine PS_imp (ps_expr (pe_bm PySem.F.plainAttrs_list PySem.F.slot_list_extend PySem.F.type_list_extend (MtR.or (r := rExtend) mt_extend mt_extendT) (pe_var hx g1 g2 g3) (pa_cons he pa_nil (star_of hst)) rfl (few_of hst) hl (star_of hst) rfl) rfl) fun D σ H q => ?_
  obtain ⟨H0, F0, F, env, o, I, h, p⟩ := q
  rw [evS] at h
  obtain ⟨l, h1, h2⟩ := R.bind_ok_inv h
  obtain ⟨d, h3, h4⟩ := R.bind_ok_inv h2
  have hl := getV_inv h1
  obtain ⟨a, xs, ds, rfl, k1, k2, k3, k4, k5⟩ := I.ow i l hi hl
  refine ⟨.ref a, k1, .inl ⟨rfl, _, SqL.of k2⟩, ?_⟩
  refine ⟨F, mask M env, d, I.le, by unfold mask; rw [wipeE_len]; exact I.len, I.relM, by rw [ev_agr e _ _ (mask_agr M env) ha]; exact h3, fun v F' H' x q => ?_⟩
  have I' := I.next x
  cases q with
  | lst e1 q1 =>
    obtain ⟨h5, h4⟩ := R.chk_ok_inv (show R.chk _ _ = _ from h4)
    cases h4
    have h5 := of_decide_eq_true h5
    refine .inl ⟨a, _, xs, _, rfl, rfl, x.same a _ k2, x.sub _ _ e1, by rw [k5.length, q1.length, ← limEq]; exact h5, ?_⟩
    exact p F' σ _ (I'.upd (xs := xs) hi hl k1 ((k5.mono x.le).append q1))
  | tup e1 o1 q1 =>
    obtain ⟨h5, h4⟩ := R.chk_ok_inv (show R.chk _ _ = _ from h4)
    cases h4
    have h5 := of_decide_eq_true h5
    refine .inr ⟨a, _, xs, _, rfl, rfl, x.same a _ k2, sqT_of x.sub e1, by rw [k5.length, q1.length, ← limEq]; exact h5, ?_⟩
    exact p F' σ _ (I'.upd (xs := xs) hi hl k1 ((k5.mono x.le).append q1))
  | _ => cases h4
theorem ixI_eq (n : Nat) (i : Int) : ixI n i = ixN n i := rfl
theorem s_setI {i : Nat} {a e : E} {x y : Str} {e' : Expr} {px py ps pos : Pos} (hx : X.N[i]? = some x) (hv : visB X.env.scope x = true) (hi' : PE X (.Name y py) (rdE X.K Φ a)) (he : PE X e' (rdE X.K Φ e)) (hc : isCompE e' = false) (hi : i ∈ M) :
    PS X (.Assign [.Subscript (.Name x px) (.Name y py) ps] e' pos) (rdS X.K Φ M (.setI i a e)) := by
  obtain ⟨g1, g2, g3⟩ := vis_of hv
  refine PS_imp (ps_asg he (pg_sub (pe_var hx g1 g2 g3) hi' set_list) (sole_of hc) (by cases e' <;> rfl) rfl) fun D σ H q => ?_
  obtain ⟨H0, F0, F, env, o, I, h, p⟩ := q
  rw [evS] at h
  obtain ⟨d, h1, h2⟩ := R.bind_ok_inv h
  obtain ⟨l, h3, h4⟩ := R.bind_ok_inv h2
  obtain ⟨k, h5, h6⟩ := R.bind_ok_inv h4
  have hl := getV_inv h3
  obtain ⟨a', xs, ds, rfl, k1, k2, k3, k4, k5⟩ := I.ow i l hi hl
  cases k with
  | int n =>
    have h6 : (match ixI ds.length n with | some j => R.chk d.flat (.ok (Out.nx (put env i (.lst (ds.set j d))))) | none => .bad) = .ok o := h6
    cases hj : ixI ds.length n with
    | none => rw [hj] at h6; cases h6
    | some j =>
      rw [hj] at h6
      obtain ⟨hf, h6⟩ := R.chk_ok_inv h6
      cases h6
      refine ⟨full M σ env F H, env, d, I.full_sub, I.len, I.rel, h1, fun v F1 H1 x1 q1 => ?_⟩
      have I1 := I.after x1
      have qv := I.flat x1 q1 hf
      refine ⟨.ref a', k1, full M σ env (less M σ env F1) H1, env, _, I1.full_sub, I1.len, I1.rel, h5, fun w F2 H2 x2 q2 => ?_⟩
      have I2 := I1.after x2
      have up : Same (less M σ env F1) (less M σ env F2) := fun b o hb => by
        have nb : ¬ Owned M σ env b := fun z => by
          obtain ⟨_, _, w, _⟩ := I1.own z
          rw [w] at hb; cases hb
        rw [less_not nb]
        exact x2.le b o (I1.full_le b o hb)
      have e1 := x2.same a' _ (x1.same a' _ k2)
      refine ⟨a', xs, n, j, rfl, dq_int q2, e1, by rw [← ixI_eq, k5.length]; exact hj, ?_⟩
      obtain ⟨b, zs, es, ez, m1, m2, m3, m4, m5⟩ := I2.ow i _ hi hl
      cases ez
      rw [k1] at m1
      cases m1
      rw [e1] at m2
      cases m2
      exact p _ σ _ (I2.upd (xs := xs) hi hl k1 (m5.set j (qv.mono up)))
  | _ => cases h6
theorem s_if {c : E} {a b : List S} {c' : Expr} {a' b' : List Stmt} {pos : Pos} (hc : PT X c' (rdT X.K Φ c)) (ha : PSs X a' (rdSs X.K Φ M a)) (hb : PSs X b' (rdSs X.K Φ M b)) : PS X (.If c' a' b' pos) (rdS X.K Φ M (.ifS c a b)) := by
  refine PS_imp (ps_if hc ha hb) fun D σ H q => ?_
  obtain ⟨H0, F0, F, env, o, I, h, p⟩ := q
  rw [evS] at h
  obtain ⟨x, h1, h2⟩ := R.bind_ok_inv h
  cases x with
  | bl k =>
    refine ⟨full M σ env F H, env, k, I.full_sub, I.len, I.rel, h1, fun F' H' x => ?_⟩
    cases k with
    | true => exact iteT ⟨H0, F0, _, env, o, I.after x, h2, p⟩
    | false => exact iteF ⟨H0, F0, _, env, o, I.after x, h2, p⟩
  | _ => cases h2
theorem s_while {m : Nat} {c : E} {body : List S} {c' : Expr} {body' : List Stmt} {pos : Pos} (hp : PassesOwn (model X.prog X.w) X.A X.env X.xe) (hc : PT X c' (rdT X.K Φ c)) (hb : PSs X body' (rdSs X.K Φ M body)) : PS X (.While c' body' [] pos) (rdS X.K Φ M (.whl m c body)) := by
  refine PS_imp (ps_while hp hc hb) fun D σ H q => ?_
  obtain ⟨H0, F0, F, env, o, I, h, p⟩ := q
  rw [evS] at h
  refine ⟨fun k σ H => ∃ F env, SInv X.K M H0 F0 F H σ env ∧ whileL (fun e1 => ev Φ e1 c) (evSs Φ body) k env = .ok o, ⟨m, F, env, I, h⟩, ?_⟩
  rintro k σ H ⟨F, env, I, h⟩
  cases k with
  | zero => cases h
  | succ k =>
    rw [whileL] at h
    obtain ⟨x, h1, h2⟩ := R.bind_ok_inv h
    cases x with
    | bl b =>
      refine ⟨full M σ env F H, env, b, I.full_sub, I.len, I.rel, h1, fun F' H' x => ?_⟩
      cases b with
      | true =>
        refine iteT ?_
        obtain ⟨o1, h3, h4⟩ := R.bind_ok_inv h2
        refine ⟨fun σ' H' => ∃ e2, o1 = .nx e2 ∧ ∃ F', SInv X.K M H0 F0 F' H' σ' e2, fun σ' H' ⟨e2, z, F', I'⟩ => ?_, ?_⟩
        · subst z
          exact ⟨k, Nat.lt_succ_self k, F', e2, I', h4⟩
        · refine ⟨H0, F0, _, env, o1, I.after x, h3, ?_⟩
          cases o1 with
          | nx e2 => exact fun F' σ' H' I' => ⟨e2, rfl, F', I'⟩
          | rt d => cases h4; exact p
      | false =>
        cases h2
        exact iteF (p _ σ H' (I.after x))
    | _ => cases h2
/-- a loop over items that are known -/
theorem for_core {t : T} {body : List S} {pr : Bool} {D : Ends} {H0 F0 F1 H1 : Hp} {σ : L2.St} {env : Env} {items : List OC.D} {J : It} {o : Out} (I : SInv X.K M H0 F0 F1 H1 σ env) (w : WalkD X.K F1 pr items J) (hm : ∀ i ∈ t.slots, i ∉ M) (hpr : pr = true → ∀ j, t ≠ .nm j)
    (h : forL t (evSs Φ body) items env = .ok o) (p : Post X.K M H0 F0 D o) :
    ∃ W : Nat → Nat → L2.St → Hp → Prop, (∃ m, W 0 m σ H1) ∧ ∀ i m σ H, W i m σ H →
      (J.stop i H ∧ D.nx σ H) ∨ (J.go i H ∧ ∃ N : L2.St → Hp → Prop, (∀ σ' H', N σ' H' → ∃ m', m' < m ∧ W (i + 1) m' σ' H') ∧ ∀ x H', J.yld i H x H' → gT X.K t x σ H' fun σ2 H2 => rdSs X.K Φ M body { D with nx := N, ct := N, bk := D.nx } σ2 H2) := by
  have I0 : SInv X.K M H0 F1 F1 H1 σ env := I.raise I.sub0 (Same.refl _) I.old
  have hold : ∀ b o, H0 b = some o → F1 b = F0 b := I.old
  refine for_it w (fun i σ' H' => ∃ Fi envi, SInv X.K M H0 F1 Fi H' σ' envi ∧ forL t (evSs Φ body) (items.drop i) envi = .ok o) ⟨F1, env, I0, h⟩ ?_ ?_ ?_
  · rintro i σ' H' _ ⟨Fi, envi, Ii, _⟩
    exact Ii.sub0.trans Ii.le
  · rintro i v σ' H5 H6 hi ⟨Fi, envi, Ii, hr⟩ hY
    have hdi : items[i]? = some items[i] := List.getElem?_eq_getElem hi
    have hdrop : items.drop i = items[i] :: items.drop (i + 1) := List.drop_eq_getElem_cons hi
    rw [hdrop, forL] at hr
    obtain ⟨e1, hb, hr⟩ := R.bind_ok_inv hr
    obtain ⟨o1, h1, h2⟩ := R.bind_ok_inv hr
    have hYi : Yd X.K Fi pr items i H5 v H6 := by
      obtain ⟨d, e, z⟩ := hY
      refine ⟨d, e, ?_⟩
      rcases z with ⟨z1, z2, z3⟩ | ⟨z1, q, xs, es, z2, z3, z4, z5, z6⟩
      · exact .inl ⟨z1, z2, z3.mono Ii.sub0⟩
      · exact .inr ⟨z1, q, xs, es, z2, z3, z4, z5, z6.mono Ii.sub0⟩
    obtain ⟨fit, smH⟩ := fits_item Ii.le hYi hdi hb hpr
    refine gT_mask (Ii.heap smH) hm hb fit fun σ2 I2 => ⟨H0, F1, Fi, e1, o1, I2, h1, ?_⟩
    cases o1 with
    | nx e2 => exact fun F' σ3 H3 I3 => ⟨F', e2, I3, h2⟩
    | rt d =>
      cases h2
      exact fun v F' H' x q => p v F' H' (ext_lower I.sub0 hold x) q
  · rintro σ' H' ⟨Fi, envi, Ii, hr⟩
    rw [List.drop_length] at hr
    cases hr
    exact p Fi σ' H' (Ii.lower I.sub0 hold)
theorem s_for {k : IK} {a b c : E} {t : T} {body : List S} {tg iter : Expr} {body' : List Stmt} {pos : Pos} (hp : PassesOwn (model X.prog X.w) X.A X.env X.xe) (hc : X.calm = true) (hi : PI X tg iter (rdI X.K Φ k a b c)) (hset : isSetE iter = false) (hg : PG X tg (gT X.K t)) (hb : PSs X body' (rdSs X.K Φ M body))
    (hk : ikT k t = true) (ha : a.avoids M = true) (hab : b.avoids M = true) (hac : c.avoids M = true) (hm : ∀ i ∈ t.slots, i ∉ M) : PS X (.For tg iter body' [] pos) (rdS X.K Φ M (.forS k a b c t body)) := by
  refine PS_imp (ps_for hp hc hi hg hb (fun x => set_of hset x)) fun D σ H q => ?_
  obtain ⟨H0, F0, F, env, o, I, h, p⟩ := q
  rw [evS] at h
  obtain ⟨x, hx, h⟩ := R.bind_ok_inv h
  obtain ⟨y, hy, h⟩ := R.bind_ok_inv h
  obtain ⟨z, hz, h⟩ := R.bind_ok_inv h
  obtain ⟨items, hw, h⟩ := R.bind_ok_inv h
  have agr := mask_agr M env
  refine ⟨F, mask M env, x, y, z, items, I.le, by unfold mask; rw [wipeE_len]; exact I.len, I.relM, by rw [ev_agr a _ _ agr ha]; exact hx, by rw [ev_agr b _ _ agr hab]; exact hy, by rw [ev_agr c _ _ agr hac]; exact hz, hw, fun J F1 H1 x1 w => ?_⟩
  exact for_core (I.next x1) w hm (ikT_of hk) h p
theorem s_forM {j : Nat} {t : T} {body : List S} {tg : Expr} {x : Str} {px : Pos} {body' : List Stmt} {pos : Pos} (hp : PassesOwn (model X.prog X.w) X.A X.env X.xe) (hc : X.calm = true) (hx : X.N[j]? = some x) (hv : visB X.env.scope x = true) (hg : PG X tg (gT X.K t)) (hb : PSs X body' (rdSs X.K Φ M body))
    (hj : j ∈ M) (hm : ∀ i ∈ t.slots, i ∉ M) : PS X (.For tg (.Name x px) body' [] pos) (rdS X.K Φ M (.forM j t body)) := by
  obtain ⟨g1, g2, g3⟩ := vis_of hv
  refine PS_imp (ps_for hp hc (pi_list (pe_var hx g1 g2 g3)) hg hb (fun x => set_of rfl x)) fun D σ H q => ?_
  obtain ⟨H0, F0, F, env, o, I, h, p⟩ := q
  rw [evS] at h
  obtain ⟨l, h1, h2⟩ := R.bind_ok_inv h
  have hl := getV_inv h1
  obtain ⟨a, xs, ds, rfl, k1, k2, k3, k4, k5⟩ := I.ow j l hj hl
  obtain ⟨I2, q2⟩ := I.freeze hj hl k1 k2
  refine ⟨.ref a, k1, a, rfl, ⟨xs, SqL.of k2⟩, ?_⟩
  cases q2 with
  | lst e1 q1 =>
    rw [upd_same] at e1
    cases e1
    exact for_core I2 (walk_seqL upd_same q1) hm (fun z => by cases z) h2 p
end
end OC

/-! Part S10b: two names at once; pop. -/
namespace OC
open PySem PySem.Spec PyProof.Rows L2
section
variable {X : Cx} {Φ : String → List D → R D} {M : List Nat}
theorem s_par {i j : Nat} {ea eb : E} {x y : Str} {a b : Expr} {px py pt pos : Pos} {kt k2 : Nat} {pt2 : Pos} (hc : X.calm = true) (hN : X.N.Nodup) (hi : X.N[i]? = some x) (hj : X.N[j]? = some y) (hij : i ≠ j)
    (hx : X.env.scope.names.lookup x = some .local) (hy : X.env.scope.names.lookup y = some .local) (hp : PA X [a, b] (rdA X.K Φ [ea, eb])) (hw : swappedStores [.Tuple [.Name x px, .Name y py] kt pt] (.Tuple [a, b] k2 pt2) X.env = pure (some [x, y]))
    (ha : avoidsL M [ea, eb] = true) (hm : ∀ k ∈ (T.p2 (.nm i) (.nm j)).slots, k ∉ M) :
    PS X (.Assign [.Tuple [.Name x px, .Name y py] kt pt] (.Tuple [a, b] k2 pt2) pos) (rdS X.K Φ M (.asg (.p2 (.nm i) (.nm j)) (.tup [ea, eb]))) := by
  refine PS_imp (ps_par hc hN hi hj hij hx hy hp hw) fun D σ H q => ?_
  obtain ⟨H0, F0, F, env, o, I, h, p⟩ := q
  rw [evS] at h
  obtain ⟨d, h1, h2⟩ := R.bind_ok_inv h
  obtain ⟨e1, h3, h4⟩ := R.bind_ok_inv h2
  cases h4
  rw [ev] at h1
  obtain ⟨ds, h5, h6⟩ := R.bind_ok_inv h1
  obtain ⟨_, h6⟩ := R.chk_ok_inv h6
  cases h6
  obtain ⟨d1, d2, e2, e3, k1, k2⟩ := p2_inv h3
  cases e3
  refine ⟨F, mask M env, [d1, d2], I.le, by unfold mask; rw [wipeE_len]; exact I.len, I.relM, by rw [evs_agr _ _ _ (mask_agr M env) ha]; exact h5, fun vs F' H' x q => ?_⟩
  have I' := I.next x
  cases q with
  | cons q1 q =>
    cases q with
    | cons q2 q =>
      cases q
      refine ⟨_, _, rfl, ?_⟩
      have z := gT_mask (Q := fun σ1 H1 => gT X.K (.nm j) _ σ1 H1 D.nx) I' (fun k hk => hm k (by simp [T.slots] at hk ⊢; exact .inl hk)) k1 (fits_of I'.le q1 k1) fun σ1 I1 => gT_mask (Q := D.nx) I1 (fun k hk => hm k (by simp [T.slots] at hk ⊢; exact .inr hk)) k2 (fits_of I1.le q2 k2) fun σ2 I2 => p F' σ2 H' I2
      exact z
/-- the state behind a pop -/
theorem pop_core {H0 F0 F H : Hp} {σ : L2.St} {env : Env} {j : Nat} {e : E} {xs : List D} {n : Int} {m : Nat} {d : D} {K : PySem.W.Frag} (I : SInv K M H0 F0 F H σ env) (hj : j ∈ M) (hl : env[j]? = some (some (.lst xs))) (he : ev Φ env e = .ok (.int n)) (hm : ixI xs.length n = some m) (hd : xs[m]? = some d) (hn : bigI n = true) {Q : VK}
    (k : ∀ (y : V) (F2 H2 : Hp), Same F F2 → Dq K F2 y d → SInv K M H0 F0 F2 H2 σ (put env j (.lst (xs.eraseIdx m))) → Q y H2) :
    ∃ l ws, σ[j]? = some (some (.ref l)) ∧ H l = some (.lst ws) ∧ rdE K Φ e σ H fun w H1 => rPopAt (.ref l) [w] H1 Q := by
  obtain ⟨l, ws, ds, ez, k1, k2, k3, k4, k5⟩ := I.ow j _ hj hl
  cases ez
  refine ⟨l, ws, k1, k2, full M σ env F H, env, _, I.full_sub, I.len, I.rel, he, fun w F1 H1 x1 q1 => ?_⟩
  have I1 := I.after x1
  have e1 := x1.same l _ k2
  obtain ⟨b, zs, es, ez, m1, m2, m3, m4, m5⟩ := I1.ow j _ hj hl
  cases ez
  rw [k1] at m1
  cases m1
  rw [e1] at m2
  cases m2
  obtain ⟨y, hy, qy⟩ := m5.get hd
  have hb := bigI_of' hn
  refine ⟨l, ws, n, m, y, rfl, ?_, e1, by omega, by omega, ?_, hy, ?_⟩
  · rw [dq_int q1]
  · rw [k5.length]
    exact (ixN_seq (show ixN xs.length n = some m from hm)).1
  · refine k y (less M σ env F1) _ ?_ qy (I1.upd (xs := ws) hj hl k1 (m5.eraseIdx m))
    intro b o hb
    have nb : ¬ Owned M σ env b := fun z => by
      obtain ⟨_, _, w, _⟩ := I.own z
      rw [w] at hb; cases hb
    rw [less_not nb]
    exact x1.le b o (I.full_le b o hb)
theorem appPop_inv {i j : Nat} {e : E} {env : Env} {o : Out} (h : evS Φ (.appPop i j e) env = .ok o) : ∃ us xs n m d, env[i]? = some (some (.lst us)) ∧ env[j]? = some (some (.lst xs)) ∧ ev Φ env e = .ok (.int n) ∧ ixI xs.length n = some m ∧ xs[m]? = some d ∧ bigI n = true ∧ us.length < LIM ∧ o = .nx (put (put env j (.lst (xs.eraseIdx m))) i (.lst (us ++ [d]))) := by
  rw [evS] at h
  obtain ⟨u, h1, h⟩ := R.bind_ok_inv h
  obtain ⟨l, h2, h⟩ := R.bind_ok_inv h
  obtain ⟨k, h3, h⟩ := R.bind_ok_inv h
  have hu := getV_inv h1
  have hl := getV_inv h2
  cases u with
  | lst us =>
    cases l with
    | lst xs =>
      cases k with
      | int n =>
        have h : (match ixI xs.length n with
            | some m => match xs[m]? with
              | some d => R.chk (bigI n && decide (us.length < LIM)) (.ok (Out.nx (put (put env j (.lst (xs.eraseIdx m))) i (.lst (us ++ [d])))))
              | none => .bad
            | none => .bad) = .ok o := h
        cases hm : ixI xs.length n with
        | none => rw [hm] at h; cases h
        | some m =>
          rw [hm] at h
          simp only at h
          cases hd : xs[m]? with
          | none => rw [hd] at h; cases h
          | some d =>
            rw [hd] at h
            obtain ⟨h5, h⟩ := R.chk_ok_inv (show R.chk _ _ = _ from h)
            cases h
            rw [Bool.and_eq_true] at h5
            exact ⟨us, xs, n, m, d, hu, hl, h3, hm, hd, h5.1, of_decide_eq_true h5.2, rfl⟩
      | _ => cases h
    | _ => cases h
  | _ => cases h
theorem catPop_inv {i j : Nat} {e : E} {env : Env} {o : Out} (h : evS Φ (.catPop i j e) env = .ok o) : ∃ us xs n m d, env[i]? = some (some (.tup us)) ∧ env[j]? = some (some (.lst xs)) ∧ ev Φ env e = .ok (.int n) ∧ ixI xs.length n = some m ∧ xs[m]? = some d ∧ bigI n = true ∧ us.length < LIM ∧ o = .nx (put (put env j (.lst (xs.eraseIdx m))) i (.tup (us ++ [d]))) := by
  rw [evS] at h
  obtain ⟨u, h1, h⟩ := R.bind_ok_inv h
  obtain ⟨l, h2, h⟩ := R.bind_ok_inv h
  obtain ⟨k, h3, h⟩ := R.bind_ok_inv h
  have hu := getV_inv h1
  have hl := getV_inv h2
  cases u with
  | tup us =>
    cases l with
    | lst xs =>
      cases k with
      | int n =>
        have h : (match ixI xs.length n with
            | some m => match xs[m]? with
              | some d => R.chk (bigI n && decide (us.length < LIM)) (.ok (Out.nx (put (put env j (.lst (xs.eraseIdx m))) i (.tup (us ++ [d])))))
              | none => .bad
            | none => .bad) = .ok o := h
        cases hm : ixI xs.length n with
        | none => rw [hm] at h; cases h
        | some m =>
          rw [hm] at h
          simp only at h
          cases hd : xs[m]? with
          | none => rw [hd] at h; cases h
          | some d =>
            rw [hd] at h
            obtain ⟨h5, h⟩ := R.chk_ok_inv (show R.chk _ _ = _ from h)
            cases h
            rw [Bool.and_eq_true] at h5
            exact ⟨us, xs, n, m, d, hu, hl, h3, hm, hd, h5.1, of_decide_eq_true h5.2, rfl⟩
      | _ => cases h
    | _ => cases h
  | _ => cases h
theorem s_appPop {i j : Nat} {e : E} {x y : Str} {e' : Expr} {px p cp py pp cpp pos : Pos} (hx : X.N[i]? = some x) (hv : visB X.env.scope x = true) (hy : X.N[j]? = some y) (hvy : visB X.env.scope y = true) (he : PE X e' (rdE X.K Φ e)) (hst : isStar e' = false) (hl : (p.endLine == cp.line) = true) (hlp : (pp.endLine == cpp.line) = true) (hi : i ∈ M) (hj : j ∈ M) (hij : i ≠ j) :
    PS X (.Expr (.Call (.Attribute (.Name x px) (sN "append") p) [.Call (.Attribute (.Name y py) (sN "pop") pp) [e'] [] cpp] [] cp) pos) (rdS X.K Φ M (.appPop i j e)) := by
  obtain ⟨g1, g2, g3⟩ := vis_of hv
  obtain ⟨w1, w2, w3⟩ := vis_of hvy
  refine PS_imp (ps_expr (pe_bm PySem.F.plainAttrs_list PySem.F.slot_list_append PySem.F.type_list_append mt_append (pe_var hx g1 g2 g3) (pa_cons (pe_bm PySem.F.plainAttrs_list PySem.F.slot_list_pop PySem.F.type_list_pop mt_popAt (pe_var hy w1 w2 w3) (pa_cons he pa_nil (star_of hst)) rfl (few_of hst) hlp (star_of hst) rfl) pa_nil (star_of rfl)) rfl (few_of rfl) hl (star_of rfl) rfl) rfl) fun D σ H q => ?_
  obtain ⟨H0, F0, F, env, o, I, h, p⟩ := q
  obtain ⟨us, xs, n, m, d, hu, hl, h3, hm, hd, h5, h6, rfl⟩ := appPop_inv h
  obtain ⟨a, as, bs, ez, k1, k2, k3, k4, k5⟩ := I.ow i _ hi hu
  cases ez
  refine ⟨.ref a, k1, .inl ⟨rfl, _, SqL.of k2⟩, ?_⟩
  obtain ⟨l, ws, z1, z2, z3⟩ := pop_core (Φ := Φ) (Q := fun y H2 => rAppend (.ref a) [y] H2 fun _ H3 => D.nx σ H3) I hj hl h3 hm hd h5 fun y F2 H2 sm qy I2 => by
    have hu2 : (put env j (.lst (xs.eraseIdx m)))[i]? = some (some (.lst us)) := by
      unfold put
      rw [List.getElem?_set_ne (fun z => hij z.symm)]
      exact hu
    obtain ⟨a2, as2, bs2, ez, m1, m2, m3, m4, m5⟩ := I2.ow i _ hi hu2
    cases ez
    rw [k1] at m1
    cases m1
    refine ⟨a, as2, y, rfl, rfl, m2, by rw [m5.length, ← limEq]; exact h6, ?_⟩
    exact p F2 σ _ (I2.upd (xs := as2) hi hu2 k1 (m5.append (.cons qy .nil)))
  exact ⟨.ref l, z1, .inl ⟨rfl, _, SqL.of z2⟩, z3⟩
theorem s_catPop {i j : Nat} {e : E} {x y : Str} {e' : Expr} {px px2 py pp cpp bp tp pos : Pos} {tk : Nat} (hx : X.N[i]? = some x) (hv : visB X.env.scope x = true) (hg : PG X (.Name x px) (gName i)) (hy : X.N[j]? = some y) (hvy : visB X.env.scope y = true) (he : PE X e' (rdE X.K Φ e)) (hst : isStar e' = false) (hlp : (pp.endLine == cpp.line) = true) (hi : i ∉ M) (hj : j ∈ M) :
    PS X (.Assign [.Name x px] (.BinOp (.Name x px2) .Add (.Tuple [.Call (.Attribute (.Name y py) (sN "pop") pp) [e'] [] cpp] tk tp) bp) pos) (rdS X.K Φ M (.catPop i j e)) := by
  obtain ⟨g1, g2, g3⟩ := vis_of hv
  obtain ⟨w1, w2, w3⟩ := vis_of hvy
  refine PS_imp (ps_asg (pe_op op_catF (pe_var hx g1 g2 g3) (pe_tupF (pa_cons (pe_bm PySem.F.plainAttrs_list PySem.F.slot_list_pop PySem.F.type_list_pop mt_popAt (pe_var hy w1 w2 w3) (pa_cons he pa_nil (star_of hst)) rfl (few_of hst) hlp (star_of hst) rfl) pa_nil (star_of rfl)))) hg (sole_of rfl) (stores_of rfl rfl) (by rw [ae1 rfl]; rfl)) fun D σ H q => ?_
  obtain ⟨H0, F0, F, env, o, I, h, p⟩ := q
  obtain ⟨us, xs, n, m, d, hu, hl, h3, hm, hd, h5, h6, rfl⟩ := catPop_inv h
  have hij : i ≠ j := fun z => hi (z ▸ hj)
  obtain ⟨vu, ku, qu⟩ := I.sh i _ hi hu
  cases qu with
  | tup eu ou qs =>
    rename_i au obu wus
    refine ⟨_, ku, ?_⟩
    obtain ⟨l, ws, z1, z2, z3⟩ := pop_core (Φ := Φ) (Q := fun y H2 => 1 ≤ sizeLine ∧ ∀ p o, H2 p = none → o.dict = Option.none → rCatF X.K (.ref au) (.ref p) (upd H2 p (.frz o (.tup [y]))) fun v H3 => gName i v σ H3 D.nx) I hj hl h3 hm hd h5 fun y F2 H2 sm qy I2 => by
      refine ⟨by decide, fun q ob hq hod => ?_⟩
      have hx1 : Ext F2 H2 (upd F2 q (.frz ob (.tup [y]))) (upd H2 q (.frz ob (.tup [y]))) := Ext.new I2.le hq
      have I3 := I2.next hx1
      have ea : F2 au = some (.frz obu (.tup wus)) := sm _ _ eu
      have hb : ∀ (v : V) (F3 H3 : Hp), SInv X.K M H0 F0 F3 H3 σ (put env j (.lst (xs.eraseIdx m))) → Dq X.K F3 v (.tup (us ++ [d])) → gName i v σ H3 D.nx := fun v F3 H3 I4 qv => by
        have hlen : i < (put env j (.lst (xs.eraseIdx m))).length := by
          have : i < env.length := (List.getElem?_eq_some_iff.mp hu).1
          unfold put
          rw [List.length_set]
          exact this
        have hbb : bindT (.nm i) (.tup (us ++ [d])) (put env j (.lst (xs.eraseIdx m))) = .ok (put (put env j (.lst (xs.eraseIdx m))) i (.tup (us ++ [d]))) := by
          rw [bindT, R.chk_pos (decide_eq_true hlen)]
        exact gT_mask (Q := D.nx) I4 (fun k hk => by simp [T.slots] at hk; rw [hk]; exact hi) hbb (fits_of I4.le qv hbb) fun σ' I5 => p F3 σ' H3 I5
      have qy' : Dqs X.K F2 [y] [d] := .cons qy .nil
      have qs2 : Dqs X.K F2 wus us := qs.mono sm
      have nq : F2 q = none := Same.none I2.le hq
      have ne : au ≠ q := fun z => by rw [z, nq] at ea; cases ea
      refine ⟨au, q, wus, [y], rfl, rfl, sqT_of (F := F2) (fun b o hb => hx1.sub b o (hx1.le b o hb)) ea, sqT_of hx1.sub (upd_same), by rw [qs.length]; show us.length + 1 ≤ sizeLine; rw [← limEq]; exact h6, fun hz => ?_, fun _ hz => (nomatch hz), fun hz _ r or hr hor => ?_⟩
      · subst hz
        cases qs
        exact hb (.ref q) _ _ I3 (.tup upd_same hod (qy'.mono hx1.le))
      · have hx2 : Ext (upd F2 q (.frz ob (.tup [y]))) (upd H2 q (.frz ob (.tup [y]))) _ _ := Ext.new (o := .frz or (.tup (wus ++ [y]))) I3.le hr
        exact hb (.ref r) _ _ (I3.next hx2) (.tup upd_same hor (((qs2.append qy').mono hx1.le).mono hx2.le))
    exact ⟨.ref l, z1, .inl ⟨rfl, _, SqL.of z2⟩, z3⟩
end
end OC

/-! Part S11: the look at statements and defs, and that it is enough; the end. -/
namespace OC
open PySem PySem.Spec PyProof.Rows L2
/-! ### fresh lists -/
def freshE : E → Bool
  | .lst _ => true
  | .o1 .list _ => true
  | .o1 .listRange _ => true
  | .o2 .mul _ _ => true
  | .o2 .add _ _ => true
  | _ => false
/-- a fresh list is told -/
def GL (K : PySem.W.Frag) (F H : Hp) (ds : List D) (Q : VK) : Prop := ∀ a xs F' H', Ext F H F' H' → H' a = some (.lst xs) → H a = none → F' a = none → Dqs K F' xs ds → Q (.ref a) H'
theorem GL.after {K : PySem.W.Frag} {F H F' H' : Hp} {ds : List D} {Q : VK} (g : GL K F H ds Q) (e : Ext F H F' H') : GL K F' H' ds Q := fun a xs F2 H2 e2 h1 h2 h3 q => g a xs F2 H2 (e.trans e2) h1 (Same.none e.same h2) h3 q
theorem GL.new {K : PySem.W.Frag} {F H : Hp} {ds : List D} {Q : VK} {xs : List V} (g : GL K F H ds Q) (h : Same F H) (q : Dqs K F xs ds) : ∀ p, H p = none → Q (.ref p) (L2.upd H p (.lst xs)) := fun p hp => g p xs F _ (Ext.more h hp) upd_same hp (Same.none h hp) q
def r2L (K : PySem.W.Frag) (g : D → D → R D) : R2 := fun x y H Q => ∃ F d e ds, Same F H ∧ Dq K F x d ∧ Dq K F y e ∧ g d e = .ok (.lst ds) ∧ GL K F H ds Q
section
variable {X : Cx} {Φ : String → List D → R D}
theorem o_mulL : OpR X (binaryOp .Mult) (r2L X.K mulD) := by
  intro pins s σ H x y v u Q I rx ry h
  obtain ⟨F, d, e, ds, hs, hx, hy, hg, g⟩ := h
  cases e with
  | int k =>
    have hyi := dq_int hy
    subst hyi
    cases hx with
    | lst e1 q1 =>
      obtain ⟨h1, hg⟩ := R.chk_ok_inv hg
      cases hg
      rw [Bool.and_eq_true] at h1
      have h2 := of_decide_eq_true h1.1
      have h3 := bigI_of' h1.2
      exact op_rep pins s σ H _ _ v u Q I rx ry ⟨_, _, _, rfl, rfl, hs _ _ e1, by omega, by omega, by rw [q1.length, ← limEq]; exact h2, g.new hs (q1.rep k.toNat)⟩
    | int _ => obtain ⟨_, hg⟩ := R.chk_ok_inv hg; cases hg
    | str _ => obtain ⟨_, hg⟩ := R.chk_ok_inv hg; cases hg
    | tup _ _ _ => obtain ⟨_, hg⟩ := R.chk_ok_inv hg; cases hg
    | _ => cases hg
  | _ => cases d <;> cases hg
theorem o_addL : OpR X (binaryOp .Add) (r2L X.K addD) := by
  intro pins s σ H x y v u Q I rx ry h
  obtain ⟨F, d, e, ds, hs, hx, hy, hg, g⟩ := h
  cases hx <;> cases hy <;> try (cases hg; done)
  · obtain ⟨h1, hg⟩ := R.chk_ok_inv hg
    cases hg
  · rename_i e1 q1 _ _ _ e2 q2
    obtain ⟨h1, hg⟩ := R.chk_ok_inv hg
    cases hg
    have h1 := of_decide_eq_true h1
    rw [← q1.length, ← q2.length, limEq] at h1
    exact op_cat pins s σ H _ _ v u Q I rx ry ⟨_, _, _, _, rfl, rfl, hs _ _ e1, hs _ _ e2, h1, g.new hs (q1.append q2)⟩
  · obtain ⟨h1, hg⟩ := R.chk_ok_inv hg
    cases hg
theorem c_listL (hc : X.calm = true) : CallR X (.type "list") (fun xs H Q => ∃ x F d ds, xs = [x] ∧ Same F H ∧ Dq X.K F x d ∧ listD d = .ok (.lst ds) ∧ GL X.K F H ds Q) := by
  intro pins s σ H xs us Q I r h
  obtain ⟨x, F, d, ds, rfl, hs, hx, hg, g⟩ := h
  cases hx with
  | lst e q =>
    cases hg
    exact call_list_of pins s σ H _ us Q I r ⟨_, _, rfl, .inl (sqL_of hs e), g.new hs q⟩
  | tup e o q =>
    cases hg
    exact call_list_of pins s σ H _ us Q I r ⟨_, _, rfl, .inr (sqT_of hs e), g.new hs q⟩
  | str z =>
    obtain ⟨h1, hg⟩ := R.chk_ok_inv (show R.chk _ _ = _ from hg)
    cases hg
    obtain ⟨u, rfl, rx⟩ := vals1 r
    obtain ⟨t, rfl⟩ := rx
    exact list_str (F := F) hc I (by rw [← limEq]; exact of_decide_eq_true h1) fun p xs hp qs => g.new hs qs p hp
  | _ => cases hg
theorem pe_binL {o : O2} {op : Operator} {a b : E} {e a' b' : Expr} (hv : vBin op e = some (a', b')) (hc : OpR X (binaryOp op) (r2L X.K (op2 o))) (h : PE X a' (rdE X.K Φ a)) (h' : PE X b' (rdE X.K Φ b)) : PE X e (rdL X.K Φ (.o2 o a b)) := by
  unfold vBin at hv
  split at hv
  · split at hv
    · rename_i hx
      subst hx
      cases hv
      refine PE_imp (pe_op hc h h') fun σ H Q q => ?_
      obtain ⟨F, env, ds, h1, h2, h3, h4, g⟩ := q
      rw [ev] at h4
      obtain ⟨d, h5, h6⟩ := R.bind_ok_inv h4
      obtain ⟨e, h7, h8⟩ := R.bind_ok_inv h6
      have g : GL X.K F H ds Q := g
      exact ⟨F, env, d, h1, h2, h3, h5, fun v F' H' x q => ⟨F', env, e, x.sub, h2, h3.mono x.le, h7, fun w F2 H2 x2 q2 =>
        ⟨F2, d, e, ds, x2.sub, q.mono x2.le, q2, h8, (g.after x).after x2⟩⟩⟩
    · cases hv
  · cases hv
theorem pe_listL {P : Prog} {C : String → Option D} {n : Nat} {a : E} {e a' : Expr} (G : Good X P C n) (hv : vB1 X.env.scope "list" e = some a') (h : PE X a' (rdE X.K Φ a)) : PE X e (rdL X.K Φ (.o1 .list a)) := by
  unfold vB1 at hv
  split at hv
  · split at hv
    · rename_i hx
      obtain ⟨rfl, h2, h3⟩ := hx
      cases hv
      obtain ⟨g1, g2, g3⟩ := gl_of h2
      refine PE_imp (pe_callTy (c_listL G.calm) g1 (G.bn "list" (by decide)) (by decide +kernel) (pa_cons h pa_nil (star_of h3)) g3 g2 (star_of h3)) fun σ H Q q => ?_
      obtain ⟨F, env, ds, h1, h2, h3, h4, g⟩ := q
      rw [ev] at h4
      obtain ⟨d, h5, h6⟩ := R.bind_ok_inv h4
      have g : GL X.K F H ds Q := g
      exact ⟨F, env, d, h1, h2, h3, h5, fun v F' H' x q => ⟨v, F', d, ds, rfl, x.sub, q, h6, g.after x⟩⟩
    · cases hv
  · cases hv
theorem pe_lrL {P : Prog} {C : String → Option D} {n : Nat} {a : E} {e a' : Expr} (G : Good X P C n) (hv : vLR X.env.scope e = some a') (h : PE X a' (rdE X.K Φ a)) : PE X e (rdL X.K Φ (.o1 .listRange a)) := by
  unfold vLR at hv
  split at hv
  · split at hv
    · rename_i hx
      obtain ⟨rfl, h2, rfl, h3, h4⟩ := hx
      cases hv
      obtain ⟨g1, g2, g3⟩ := gl_of h2
      obtain ⟨k1, k2, k3⟩ := gl_of h3
      refine PE_imp (pe_listRg G.calm g1 (G.bn "list" (by decide)) (prg_1 k1 (G.bn "range" (by decide)) h (star_of h4))) fun σ H Q q => ?_
      obtain ⟨F, env, ds, h1, h2, h3, h4, g⟩ := q
      rw [ev] at h4
      obtain ⟨d, h5, h6⟩ := R.bind_ok_inv h4
      have g : GL X.K F H ds Q := g
      refine ⟨F, env, d, h1, h2, h3, h5, fun v F' H' x q => ?_⟩
      cases q with
      | int i =>
        obtain ⟨w1, w2⟩ := R.chk_ok_inv (show R.chk _ _ = _ from h6)
        cases w2
        rw [Bool.and_eq_true] at w1
        have w3 := bigI_of' w1.1
        have w4 := of_decide_eq_true w1.2
        refine ⟨i, rfl, ⟨by omega, by omega, by omega, by omega, by omega⟩, ?_⟩
        rw [rgV_ints]
        have ei : rangeL 0 i = ((List.range (i - 0).toNat).map fun k => (0 : Int) + (k : Nat)).map D.int := by rw [rangeL, List.map_map]; rfl
        rw [ei] at g
        exact (g.after x).new x.sub (dqs_ints _)
      | _ => cases h6
    · cases hv
  · cases hv
theorem sndL {g : Gx} {e : E} {n : Nat} {sc : Scope} {e' : Expr} (f : Fit X g n sc) (h : chk g sc e e' = true) (hf : freshE e = true) : PE X e' (rdL X.K (run g.P n) e) := by
  have hsc := f.sc
  subst hsc
  cases e with
  | lst es =>
    rw [chk] at h
    split at h
    · rename_i es' hv
      obtain ⟨p, rfl, hst⟩ := vLst_eq hv
      exact pe_lstD (snds g es X n _ es' f h hst)
    · cases h
  | o1 o a =>
    cases o <;> first | (cases hf; done) | skip
    · rw [chk] at h
      split at h
      · rename_i a' hv
        exact pe_listL f.good hv (snd g a X n _ a' f h).pe
      · cases h
    · rw [chk] at h
      split at h
      · rename_i a' hv
        exact pe_lrL f.good hv (snd g a X n _ a' f h).pe
      · cases h
  | o2 o a b =>
    cases o <;> first | (cases hf; done) | skip
    · rw [chk] at h
      split at h
      · rename_i a' b' hv
        rw [Bool.and_eq_true] at h
        exact pe_binL (o := .add) hv o_addL (snd g a X n _ a' f h.1).pe (snd g b X n _ b' f h.2).pe
      · cases h
    · rw [chk] at h
      split at h
      · rename_i a' b' hv
        rw [Bool.and_eq_true] at h
        exact pe_binL (o := .mul) hv o_mulL (snd g a X n _ a' f h.1).pe (snd g b X n _ b' f h.2).pe
      · cases h
  | _ => cases hf
end
/-! ### looks at statements -/
def isComp : E → Bool
  | .comp .. => true
  | _ => false
def vRet : Stmt → Option Expr
  | .Return (some e) _ => some e
  | _ => none
structure AsgV where
  tg : Expr
  e : Expr
  pos : Pos
def vAsg : Stmt → Option AsgV
  | .Assign [tg] e pos => some ⟨tg, e, pos⟩
  | _ => none
def vNameP : Expr → Option (Str × Pos)
  | .Name x p => some (x, p)
  | _ => none
def vSub : Expr → Option (Str × Pos × Str × Pos × Pos)
  | .Subscript (.Name x px) (.Name y py) ps => some (x, px, y, py, ps)
  | _ => none
structure ForV where
  tg : Expr
  iter : Expr
  body : List Stmt
  pos : Pos
def vFor : Stmt → Option ForV
  | .For tg iter body [] pos => some ⟨tg, iter, body, pos⟩
  | _ => none
def vIfS : Stmt → Option (Expr × List Stmt × List Stmt)
  | .If c a b _ => some (c, a, b)
  | _ => none
def vWhl : Stmt → Option (Expr × List Stmt)
  | .While c b [] _ => some (c, b)
  | _ => none
def isPass : Stmt → Bool
  | .Pass _ => true
  | _ => false
def isRaise : Stmt → Bool
  | .Raise .. => true
  | _ => false
def tOut (M : List Nat) (t : T) : Bool := t.slots.all fun i => !M.contains i
/-- whether a comprehension's value is stored ahead -/
def swB (sc : Scope) (y : Str) (py : Pos) (scope : Scope) (cpos : Pos) : Bool :=
  decide (sc.names.lookup y = some .local) && (py.line == cpos.line) && !(scope.names.any fun (n, k) => n == y && (k == .local || k == .cell))
/-- a, b = x, y -/
def parB (g : Gx) (sc : Scope) : T → E → Expr → Expr → Bool
  | .p2 (.nm i) (.nm j), .tup [_, _], .Tuple [.Name x px, .Name y py] _ _, .Tuple [a, b] _ _ => decide (g.N[i]? = some x) && decide (g.N[j]? = some y) && decide (i ≠ j) && decide (x ≠ y) && decide (sc.names.lookup x = some .local) && decide (sc.names.lookup y = some .local) &&
    !isStar a && !isStar b && (py.line == px.line) && !([a, b].all (foldedForSure 8)) && !([a, b].all (constantsAlone 8))
  | _, _, _, _ => false
/-- a, b = x, y, where the pair is made -/
def nsB (sc : Scope) : Expr → Expr → Bool
  | .Tuple [.Name x _, .Name y _] _ _, .Tuple [a, b] _ _ => !isStar a && !isStar b && (decide (sc.names.lookup x ≠ some .local) || decide (sc.names.lookup y ≠ some .local))
  | _, _ => false
/-- name = name + (list.pop(e),) -/
def vCatPop : Stmt → Option (Str × Pos × Str × Str × Expr)
  | .Assign [.Name x px] (.BinOp (.Name x2 _) .Add (.Tuple [.Call (.Attribute (.Name y _) m pp) [e'] [] cpp] _ _) _) _ => if x2 = x ∧ m = sN "pop" ∧ isStar e' = false ∧ (pp.endLine == cpp.line) = true then some (x, px, x2, y, e') else none
  | _ => none
/-- list.append(list.pop(e)) -/
def vAppPop : Stmt → Option (Str × Str × Expr)
  | .Expr (.Call (.Attribute (.Name x _) m1 p) [.Call (.Attribute (.Name y _) m pp) [e'] [] cpp] [] cp) _ => if m1 = sN "append" ∧ (p.endLine == cp.line) = true ∧ m = sN "pop" ∧ isStar e' = false ∧ (pp.endLine == cpp.line) = true then some (x, y, e') else none
  | _ => none
mutual
def chkS (g : Gx) (sc : Scope) (M : List Nat) : S → Stmt → Bool
  | .ret e, st => match vRet st with
    | some e' => chk g sc e e'
    | none => false
  | .asg t e, st => match vAsg st with
    | some v => e.avoids M && tOut M t && chkT g.N sc (fun _ => true) t v.tg && chk g sc e v.e && (!(isTupE v.tg && isTupE v.e) || (parB g sc t e v.tg v.e || nsB sc v.tg v.e)) && (!isCompE v.e || isComp e)
    | none => false
  | .asgF t e, st => match vAsg st with
    | some v => tOut M t && chkT g.N sc (fun _ => true) t v.tg && chk g sc e v.e && !(isTupE v.tg && isTupE v.e) && !isCompE v.e
    | none => false
  | .move i j, st => match vAsg st with
    | some v => (match vNameP v.tg, vNameP v.e with
      | some (y, _), some (x, _) => decide (g.N[i]? = some y) && decide (g.N[j]? = some x) && visB sc x && chkT g.N sc (fun _ => true) (.nm i) v.tg && !M.contains i && M.contains j
      | _, _ => false)
    | none => false
  | .own i e, st => match vAsg st with
    | some v => (vNameP v.tg).isSome && chkT g.N sc (fun _ => true) (.nm i) v.tg && chk g sc e v.e && freshE e && e.avoids (M.filter (· != i)) && M.contains i && !isCompE v.e
    | none => false
  | .app i e, st => match vMut "append" st with
    | some (x, e') => decide (g.N[i]? = some x) && visB sc x && chk g sc e e' && e.avoids M && M.contains i
    | none => false
  | .ext i e, st => match vMut "extend" st with
    | some (x, e') => decide (g.N[i]? = some x) && visB sc x && chk g sc e e' && e.avoids M && M.contains i
    | none => false
  | .setI i a e, st => match vAsg st with
    | some v => (match vSub v.tg with
      | some (x, _, y, py, _) => decide (g.N[i]? = some x) && visB sc x && chk g sc a (.Name y py) && chk g sc e v.e && M.contains i && !isCompE v.e
      | none => false)
    | none => false
  | .ifS c a b, st => match vIfS st with
    | some (c', a', b') => chk g sc c c' && (chkSs g sc M a a' && chkSs g sc M b b')
    | none => false
  | .forS k a b c t body, st => match vFor st with
    | some v => (match vI sc k v.iter with
        | some (a', ob, oc) => chk g sc a a' && (match ob with
            | some b' => chk g sc b b'
            | none => cn b) && (match oc with
            | some c' => chk g sc c c'
            | none => cn c)
        | none => false) && ikT k t && a.avoids M && b.avoids M && c.avoids M && tOut M t && chkT g.N sc (fun _ => true) t v.tg && chkSs g sc M body v.body
    | none => false
  | .forM j t body, st => match vFor st with
    | some v => (match vNameP v.iter with
      | some (x, _) => decide (g.N[j]? = some x) && visB sc x && M.contains j && tOut M t && chkT g.N sc (fun _ => true) t v.tg && chkSs g sc M body v.body
      | none => false)
    | none => false
  | .whl _ c body, st => match vWhl st with
    | some (c', b') => chk g sc c c' && chkSs g sc M body b'
    | none => false
  | .raise _, st => isRaise st
  | .nop, st => isPass st
  | .catPop i j e, st => match vCatPop st with
    | some (x, px, _, y, e') => decide (g.N[i]? = some x) && visB sc x && chkT g.N sc (fun _ => true) (.nm i) (.Name x px) && decide (g.N[j]? = some y) && visB sc y && chk g sc e e' && !M.contains i && M.contains j
    | none => false
  | .appPop i j e, st => match vAppPop st with
    | some (x, y, e') => decide (g.N[i]? = some x) && visB sc x && decide (g.N[j]? = some y) && visB sc y && chk g sc e e' && M.contains i && M.contains j && decide (i ≠ j)
    | none => false
def chkSs (g : Gx) (sc : Scope) (M : List Nat) : List S → List Stmt → Bool
  | [], sts => sts.isEmpty
  | s :: ss, sts => match sts with
    | st :: r => chkS g sc M s st && chkSs g sc M ss r
    | [] => false
end
section
variable {X : Cx} {Φ : String → List D → R D}
theorem vRet_eq {st : Stmt} {e : Expr} (h : vRet st = some e) : ∃ p, st = .Return (some e) p := by
  unfold vRet at h
  split at h
  · cases h; exact ⟨_, rfl⟩
  · cases h
theorem vAsg_eq {st : Stmt} {v : AsgV} (h : vAsg st = some v) : st = .Assign [v.tg] v.e v.pos := by
  unfold vAsg at h
  split at h
  · cases h; rfl
  · cases h
theorem vNameP_eq {e : Expr} {q : Str × Pos} (h : vNameP e = some q) : e = .Name q.1 q.2 := by
  unfold vNameP at h
  split at h
  · cases h; rfl
  · cases h
theorem vSub_eq {e : Expr} {q : Str × Pos × Str × Pos × Pos} (h : vSub e = some q) : e = .Subscript (.Name q.1 q.2.1) (.Name q.2.2.1 q.2.2.2.1) q.2.2.2.2 := by
  unfold vSub at h
  split at h
  · cases h; rfl
  · cases h
theorem vFor_eq {st : Stmt} {v : ForV} (h : vFor st = some v) : st = .For v.tg v.iter v.body [] v.pos := by
  unfold vFor at h
  split at h
  · cases h; rfl
  · cases h
theorem vIfS_eq {st : Stmt} {q : Expr × List Stmt × List Stmt} (h : vIfS st = some q) : ∃ p, st = .If q.1 q.2.1 q.2.2 p := by
  unfold vIfS at h
  split at h
  · cases h; exact ⟨_, rfl⟩
  · cases h
theorem vWhl_eq {st : Stmt} {q : Expr × List Stmt} (h : vWhl st = some q) : ∃ p, st = .While q.1 q.2 [] p := by
  unfold vWhl at h
  split at h
  · cases h; exact ⟨_, rfl⟩
  · cases h
theorem tOut_of {M : List Nat} {t : T} (h : tOut M t = true) : ∀ i ∈ t.slots, i ∉ M := fun i hi hm => by
  have := List.all_eq_true.mp h i hi
  simp [hm] at this
structure FitS (X : Cx) (g : Gx) (n : Nat) (scp : Scope) : Prop where
  fit : Fit X g n scp
  passes : PassesOwn (model X.prog X.w) X.A X.env X.xe
  kind : scp.kind = .function
  fn : X.fn = fun _ => true
theorem FitS.pg {g : Gx} {n : Nat} {sc : Scope} (f : FitS X g n sc) {t : T} {tg : Expr} (h : chkT g.N sc (fun _ => true) t tg = true) : PG X tg (gT X.K t) := by
  refine pg_of f.fit.good.calm f.fit.good.nd t tg ?_
  rw [f.fit.N, f.fit.sc, f.fn]
  exact h
theorem sw_false {env : PySem.Env} {elt : Expr} {gs : List Comprehension} {scope : Scope} {cpos py : Pos} {y : Str} {l : Nat} (hk : env.scope.kind = .function) (h : swB env.scope y py scope cpos = false) : swapsWith (.ListComp elt gs scope cpos) (some (.Name y py)) l env = pure false := by
  have hb : env.blockKind = .function := by unfold Env.blockKind; rw [hk]; rfl
  unfold swapsWith
  simp only [hb, Expr.pos]
  show pure _ = pure false
  congr 1
  unfold swB at h
  unfold Env.kindOf
  have e1 : (List.lookup y env.scope.names == some NameKind.local) = decide (env.scope.names.lookup y = some .local) := by
    by_cases z : env.scope.names.lookup y = some .local
    · rw [decide_eq_true z, z]; rfl
    · rw [decide_eq_false z]; exact beq_eq_false_iff_ne.mpr z
  rw [e1]
  simpa using h
/-- any assignment that is no stored-ahead comprehension -/
theorem s_asg2 {M : List Nat} {t : T} {e : E} {tg e' : Expr} {pos : Pos} (he : PE X e' (rdE X.K Φ e)) (hg : PG X tg (gT X.K t)) (htg : isTgt tg = true) (hs : swapsWithSole [tg] e' pos.line X.env = pure false) (hw : swappedStores [tg] e' X.env = pure none) (ha : e.avoids M = true) (hm : ∀ i ∈ t.slots, i ∉ M) :
    PS X (.Assign [tg] e' pos) (rdS X.K Φ M (.asg t e)) := by
  refine PS_imp (ps_asg he hg hs hw (by rw [ae1 htg]; rfl)) fun D σ H q => ?_
  obtain ⟨H0, F0, F, env, o, I, h, p⟩ := q
  rw [evS] at h
  obtain ⟨d, h1, h2⟩ := R.bind_ok_inv h
  obtain ⟨e1, h3, h4⟩ := R.bind_ok_inv h2
  cases h4
  refine ⟨F, mask M env, d, I.le, by unfold mask; rw [wipeE_len]; exact I.len, I.relM, by rw [ev_agr e _ _ (mask_agr M env) ha]; exact h1, fun v F' H' x q => ?_⟩
  have I' := I.next x
  exact gT_mask I' hm h3 (fits_of I'.le q h3) fun σ' I2 => p F' σ' H' I2
theorem asg_of {g : Gx} {n : Nat} {sc : Scope} {M : List Nat} (f : FitS X g n sc) {t : T} {e : E} {tg e' : Expr} {pos : Pos} (ha : e.avoids M = true) (hm : ∀ i ∈ t.slots, i ∉ M) (ht : chkT g.N sc (fun _ => true) t tg = true) (he : chk g sc e e' = true) (hw : (isTupE tg && isTupE e') = false) (hic : isCompE e' = true → isComp e = true) :
    PS X (.Assign [tg] e' pos) (rdS X.K (run g.P n) M (.asg t e)) := by
  have htg := tgt_of ht
  have hpg := f.pg ht
  by_cases hc : isCompE e' = false
  · exact s_asg2 (snd g e X n sc e' f.fit he).pe hpg htg (sole_of hc) (stores_of htg hw) ha hm
  · -- a comprehension
    cases e with
    | comp k a b c tt elt cond =>
      obtain ⟨v, hv, q⟩ := sndC (snd g a) (snd g b) (snd g c) (snd g elt) (fun q _ => snd g q) X n sc e' f.fit he
      obtain ⟨cpos, rfl⟩ := vComp_eq hv
      have hpe : PE X (.ListComp v.elt [⟨v.tg, v.iter, v.ifs, 0⟩] v.scope cpos) (rdE X.K (run g.P n) (.comp k a b c tt elt cond)) := pe_L comp_is (pe_comp f.fit.good q.pi q.set q.ik q.blk q.pg q.pt q.pe)
      have hsc := f.fit.sc
      cases tg with
      | Name y py =>
        cases t with
        | nm i =>
          cases hsw : swB sc y py v.scope cpos with
          | true =>
            unfold swB at hsw
            simp only [Bool.and_eq_true, Bool.not_eq_true'] at hsw
            have hloc : X.env.scope.names.lookup y = some .local := by rw [hsc]; exact of_decide_eq_true hsw.1.1
            have hy : X.N[i]? = some y := by
              simp only [chkT, Bool.and_eq_true, decide_eq_true_eq] at ht
              rw [f.fit.N]
              exact ht.1
            exact s_asgC f.fit.good q hy hloc (sw_true (by rw [hsc]; exact f.kind) hloc hsw.1.2 hsw.2) ha (hm i (by simp [T.slots]))
          | false =>
            exact s_asg2 hpe hpg htg (show swapsWithSole _ _ _ _ = _ from sw_false (l := pos.line) (by rw [hsc]; exact f.kind) (by rw [hsc]; exact hsw)) (stores_of htg hw) ha hm
        | p2 _ _ => simp [chkT] at ht
        | p3 _ _ _ => simp [chkT] at ht
      | Tuple es kk p => exact s_asg2 hpe hpg htg rfl (stores_of htg hw) ha hm
      | _ => cases htg
    | _ =>
      have := hic (by simpa using hc)
      cases this
theorem vCatPop_eq {st : Stmt} {x : Str} {px : Pos} {x2 y : Str} {e' : Expr} (h : vCatPop st = some (x, px, x2, y, e')) : ∃ px2 tk tp bp py pp cpp pos, st = .Assign [.Name x px] (.BinOp (.Name x px2) .Add (.Tuple [.Call (.Attribute (.Name y py) (sN "pop") pp) [e'] [] cpp] tk tp) bp) pos ∧ isStar e' = false ∧ (pp.endLine == cpp.line) = true := by
  unfold vCatPop at h
  split at h
  · split at h
    · rename_i hx
      obtain ⟨rfl, rfl, h2, h3⟩ := hx
      cases h
      exact ⟨_, _, _, _, _, _, _, _, rfl, h2, h3⟩
    · cases h
  · cases h
theorem vAppPop_eq {st : Stmt} {x y : Str} {e' : Expr} (h : vAppPop st = some (x, y, e')) : ∃ px p cp py pp cpp pos, st = .Expr (.Call (.Attribute (.Name x px) (sN "append") p) [.Call (.Attribute (.Name y py) (sN "pop") pp) [e'] [] cpp] [] cp) pos ∧ isStar e' = false ∧ (p.endLine == cp.line) = true ∧ (pp.endLine == cpp.line) = true := by
  unfold vAppPop at h
  split at h
  · split at h
    · rename_i hx
      obtain ⟨rfl, h2, rfl, h3, h4⟩ := hx
      cases h
      exact ⟨_, _, _, _, _, _, _, rfl, h3, h2, h4⟩
    · cases h
  · cases h
theorem swap_of {env : PySem.Env} {x y : Str} {a b : Expr} {px py pt pt2 : Pos} {kt k2 : Nat} (hk : env.scope.kind = .function) (hx : env.scope.names.lookup x = some .local) (hy : env.scope.names.lookup y = some .local) (hxy : x ≠ y) (hl : (py.line == px.line) = true) (ha : isStar a = false) (hb : isStar b = false) (hf : ([a, b].all (foldedForSure 8)) = false) (hcs : ([a, b].all (constantsAlone 8)) = false) :
    swappedStores [.Tuple [.Name x px, .Name y py] kt pt] (.Tuple [a, b] k2 pt2) env = pure (some [x, y]) := by
  have hbk : env.blockKind = .function := by unfold Env.blockKind; rw [hk]; rfl
  have hst : ([a, b].any fun | .Starred .. => true | _ => false) = false := by
    have e : ∀ z : Expr, isStar z = false → (match z with | .Starred .. => true | _ => false) = false := fun z hz => by cases z <;> first | rfl | (simp [isStar] at hz)
    simp only [List.any_cons, List.any_nil, e a ha, e b hb, Bool.or_false]
  have hkx : (env.kindOf x == some .local) = true := by unfold Env.kindOf; rw [hx]; rfl
  have hky : (env.kindOf y == some .local) = true := by unfold Env.kindOf; rw [hy]; rfl
  have hpp : (px.line == px.line) = true := beq_self_eq_true _
  unfold swappedStores
  simp only [List.length_cons, List.length_nil, hbk, hst, List.head?_cons, Option.map_some, Option.getD_some, Expr.pos, List.filterMap_cons, List.filterMap_nil, hkx, hky, hpp, hl, Bool.and_self, if_true, hf, hcs, Bool.false_eq_true, if_false]
  have hne : (y == x) = false := beq_eq_false_iff_ne.mpr (Ne.symm hxy)
  simp [List.eraseDups, List.eraseDupsBy, List.eraseDupsBy.loop, hne]
  rintro (hz | hz)
  · exfalso
    cases a <;> first | (cases hz; done) | (simp [isStar] at ha)
  · exfalso
    cases b <;> first | (cases hz; done) | (simp [isStar] at hb)
theorem ns_of {env : PySem.Env} {tg e' : Expr} (h : nsB env.scope tg e' = true) : swappedStores [tg] e' env = pure none ∧ isCompE e' = false := by
  unfold nsB at h
  split at h
  · rename_i x px y py kt pt a b k2 pt2
    simp only [Bool.and_eq_true, Bool.or_eq_true, Bool.not_eq_true', decide_eq_true_eq] at h
    obtain ⟨⟨ha, hb⟩, h⟩ := h
    refine ⟨?_, rfl⟩
    have hlen : ([Expr.Name x px, Expr.Name y py].filterMap fun | .Name id pos => (if env.kindOf id == some .local && pos.line == px.line then some id else none) | _ => none).length ≠ 2 := by
      have key : ∀ z, env.scope.names.lookup z ≠ some .local → (env.kindOf z == some .local) = false := fun z hz => by
        unfold Env.kindOf
        exact beq_eq_false_iff_ne.mpr hz
      rcases h with h | h
      · simp only [List.filterMap_cons, List.filterMap_nil, key x h, Bool.false_and, Bool.false_eq_true, if_false]
        split <;> simp
      · simp only [List.filterMap_cons, List.filterMap_nil, key y h, Bool.false_and, Bool.false_eq_true, if_false]
        split <;> simp
    unfold swappedStores
    have hne : (([Expr.Name x px, Expr.Name y py].filterMap fun | .Name id pos => (if env.kindOf id == some .local && pos.line == px.line then some id else none) | _ => none).length != 2) = true := by
      simpa using hlen
    simp only [List.length_cons, List.length_nil, List.head?_cons, Option.map_some, Option.getD_some, Expr.pos]
    split
    · rfl
    · split
      · rfl
      · exact if_pos (by rw [Bool.or_eq_true]; exact .inl hne)
  · cases h
theorem par_of {g : Gx} {n : Nat} {sc : Scope} {M : List Nat} (f : FitS X g n sc) {t : T} {e : E} {tg e' : Expr} {pos : Pos} (ha : e.avoids M = true) (hm : ∀ i ∈ t.slots, i ∉ M) (he : chk g sc e e' = true) (hp : parB g sc t e tg e' = true) (ih : ∀ (as : List E) (es : List Expr), chks g sc as es = true → (es.all fun e => !isStar e) = true → PA X es (rdA X.K (run g.P n) as)) :
    PS X (.Assign [tg] e' pos) (rdS X.K (run g.P n) M (.asg t e)) := by
  unfold parB at hp
  split at hp
  · rename_i i j ea eb x px y py kt pt a b k2 pt2
    simp only [Bool.and_eq_true, Bool.not_eq_true', decide_eq_true_eq] at hp
    obtain ⟨⟨⟨⟨⟨⟨⟨⟨⟨⟨h1, h2⟩, h3⟩, h4⟩, h5⟩, h6⟩, h7⟩, h8⟩, h9⟩, h10⟩, h11⟩ := hp
    have hst : ([a, b].all fun e => !isStar e) = true := by simp [h7, h8]
    have he2 : chks g sc [ea, eb] [a, b] = true := by
      rw [chk] at he
      have hv : vTup (.Tuple [a, b] k2 pt2) = some [a, b] := by simp only [vTup, hst, if_true]
      rw [hv] at he
      exact he
    have hsc := f.fit.sc
    refine s_par f.fit.good.calm f.fit.good.nd (by rw [f.fit.N]; exact h1) (by rw [f.fit.N]; exact h2) h3 (by rw [hsc]; exact h5) (by rw [hsc]; exact h6) (ih _ _ he2 hst) (swap_of (by rw [hsc]; exact f.kind) (by rw [hsc]; exact h5) (by rw [hsc]; exact h6) h4 h9 h7 h8 h10 h11) ?_ hm
    rw [E.avoids] at ha
    exact ha
  · cases hp
/-! statements -/
mutual
theorem sndS (g : Gx) (M : List Nat) : ∀ (s : S) (X : Cx) (n : Nat) (sc : Scope) (st : Stmt), FitS X g n sc → chkS g sc M s st = true → PS X st (rdS X.K (run g.P n) M s)
  | .ret e, X, n, sc, st, f, h => by
    rw [chkS] at h
    split at h
    · rename_i e' hv
      obtain ⟨p, rfl⟩ := vRet_eq hv
      exact s_ret (snd g e X n sc e' f.fit h).pe
    · cases h
  | .asg t e, X, n, sc, st, f, h => by
    rw [chkS] at h
    split at h
    · rename_i v hv
      have e1 := vAsg_eq hv
      subst e1
      simp only [Bool.and_eq_true, Bool.not_eq_true'] at h
      obtain ⟨⟨⟨⟨⟨h1, h2⟩, h3⟩, h4⟩, h5⟩, h6⟩ := h
      rw [Bool.or_eq_true, Bool.not_eq_true'] at h5
      rcases h5 with h5 | h5
      · exact asg_of f h1 (tOut_of h2) h3 h4 h5 (fun z => by rw [z] at h6; simpa using h6)
      · rw [Bool.or_eq_true] at h5
        rcases h5 with h5 | h5
        · exact par_of f h1 (tOut_of h2) h4 h5 fun a es' => snds g a X n sc es' f.fit
        · obtain ⟨w1, w2⟩ := ns_of (env := X.env) (by rw [f.fit.sc]; exact h5)
          exact s_asg2 (snd g e X n sc _ f.fit h4).pe (f.pg h3) (tgt_of h3) (sole_of w2) w1 h1 (tOut_of h2)
    · cases h
  | .asgF t e, X, n, sc, st, f, h => by
    rw [chkS] at h
    split at h
    · rename_i v hv
      have e1 := vAsg_eq hv
      subst e1
      simp only [Bool.and_eq_true, Bool.not_eq_true'] at h
      obtain ⟨⟨⟨⟨h2, h3⟩, h4⟩, h5⟩, h6⟩ := h
      exact s_asgF (snd g e X n sc _ f.fit h4).pe (f.pg h3) (tgt_of h3) h6 h5 (tOut_of h2)
    · cases h
  | .move i j, X, n, sc, st, f, h => by
    rw [chkS] at h
    split at h
    · rename_i v hv
      have e1 := vAsg_eq hv
      subst e1
      split at h
      · rename_i y py x px hy hx
        have e2 := vNameP_eq hy
        have e3 := vNameP_eq hx
        simp only [Bool.and_eq_true, Bool.not_eq_true', decide_eq_true_eq] at h
        obtain ⟨⟨⟨⟨⟨h1, h2⟩, h3⟩, h4⟩, h5⟩, h6⟩ := h
        have hpg := f.pg h4
        rw [e2] at hpg ⊢
        rw [e3]
        exact s_move f.fit.good.nd (by rw [f.fit.N]; exact h1) (by rw [f.fit.N]; exact h2) (by rw [f.fit.sc]; exact h3) hpg (by simpa using h5) (by simpa using h6)
      · cases h
    · cases h
  | .own i e, X, n, sc, st, f, h => by
    rw [chkS] at h
    split at h
    · rename_i v hv
      have e1 := vAsg_eq hv
      subst e1
      simp only [Bool.and_eq_true, Bool.not_eq_true'] at h
      obtain ⟨⟨⟨⟨⟨⟨h1, h2⟩, h3⟩, h4⟩, h5⟩, h6⟩, h7⟩ := h
      obtain ⟨⟨y, py⟩, hy⟩ := Option.isSome_iff_exists.mp h1
      have e2 := vNameP_eq hy
      have hpg := f.pg h2
      rw [e2] at hpg ⊢
      exact s_own (sndL f.fit h3 h4) hpg h7 h5 (by simpa using h6)
    · cases h
  | .app i e, X, n, sc, st, f, h => by
    rw [chkS] at h
    split at h
    · rename_i x e' hv
      obtain ⟨px, p, cp, pos, rfl, hst, hl⟩ := vMut_eq hv
      simp only [Bool.and_eq_true, decide_eq_true_eq] at h
      obtain ⟨⟨⟨⟨h1, h2⟩, h3⟩, h4⟩, h5⟩ := h
      exact s_app (by rw [f.fit.N]; exact h1) (by rw [f.fit.sc]; exact h2) (snd g e X n sc e' f.fit h3).pe hst hl h4 (by simpa using h5)
    · cases h
  | .ext i e, X, n, sc, st, f, h => by
    rw [chkS] at h
    split at h
    · rename_i x e' hv
      obtain ⟨px, p, cp, pos, rfl, hst, hl⟩ := vMut_eq hv
      simp only [Bool.and_eq_true, decide_eq_true_eq] at h
      obtain ⟨⟨⟨⟨h1, h2⟩, h3⟩, h4⟩, h5⟩ := h
      exact s_ext (by rw [f.fit.N]; exact h1) (by rw [f.fit.sc]; exact h2) (snd g e X n sc e' f.fit h3).pe hst hl h4 (by simpa using h5)
    · cases h
  | .setI i a e, X, n, sc, st, f, h => by
    rw [chkS] at h
    split at h
    · rename_i v hv
      have e1 := vAsg_eq hv
      subst e1
      split at h
      · rename_i x px y py ps hs
        have e2 := vSub_eq hs
        simp only [Bool.and_eq_true, Bool.not_eq_true', decide_eq_true_eq] at h
        obtain ⟨⟨⟨⟨⟨h1, h2⟩, h3⟩, h4⟩, h5⟩, h6⟩ := h
        rw [e2]
        exact s_setI (by rw [f.fit.N]; exact h1) (by rw [f.fit.sc]; exact h2) (snd g a X n sc _ f.fit h3).pe (snd g e X n sc _ f.fit h4).pe h6 (by simpa using h5)
      · cases h
    · cases h
  | .ifS c a b, X, n, sc, st, f, h => by
    rw [chkS] at h
    split at h
    · rename_i c' a' b' hv
      obtain ⟨p, e1⟩ := vIfS_eq hv
      subst e1
      rw [Bool.and_eq_true, Bool.and_eq_true] at h
      exact s_if (snd g c X n sc c' f.fit h.1).pt (sndSs g M a X n sc a' f h.2.1) (sndSs g M b X n sc b' f h.2.2)
    · cases h
  | .forS k a b c t body, X, n, sc, st, f, h => by
    rw [chkS] at h
    split at h
    · rename_i v hv
      have e1 := vFor_eq hv
      subst e1
      simp only [Bool.and_eq_true] at h
      obtain ⟨⟨⟨⟨⟨⟨⟨h1, h2⟩, h3⟩, h4⟩, h5⟩, h6⟩, h7⟩, h8⟩ := h
      split at h1
      · rename_i a' ob oc hvi
        simp only [Bool.and_eq_true] at h1
        have hcc : ∀ c', oc = some c' → PE X c' (rdE X.K (run g.P n) c) := fun c' hc' => by
          subst hc'
          exact (snd g c X n sc c' f.fit h1.2).pe
        have s1 := snd g a X n sc a' f.fit h1.1.1
        have hb : ∀ b', ob = some b' → PE X b' (rdE X.K (run g.P n) b) := fun b' hb' => by
          subst hb'
          exact (snd g b X n sc b' f.fit h1.1.2).pe
        obtain ⟨hpi, hset⟩ := pi_of (c := c) (tg := v.tg) f.fit hvi s1.pe hb hcc (chkT_pair h2 h7)
        exact s_for f.passes f.fit.good.calm hpi hset (f.pg h7) (sndSs g M body X n sc v.body f h8) h2 h3 h4 h5 (tOut_of h6)
      · cases h1
    · cases h
  | .forM j t body, X, n, sc, st, f, h => by
    rw [chkS] at h
    split at h
    · rename_i v hv
      have e1 := vFor_eq hv
      subst e1
      split at h
      · rename_i x px hx
        have e2 := vNameP_eq hx
        simp only [Bool.and_eq_true, decide_eq_true_eq] at h
        obtain ⟨⟨⟨⟨⟨h1, h2⟩, h3⟩, h4⟩, h5⟩, h6⟩ := h
        rw [e2]
        exact s_forM f.passes f.fit.good.calm (by rw [f.fit.N]; exact h1) (by rw [f.fit.sc]; exact h2) (f.pg h5) (sndSs g M body X n sc v.body f h6) (by simpa using h3) (tOut_of h4)
      · cases h
    · cases h
  | .whl m c body, X, n, sc, st, f, h => by
    rw [chkS] at h
    split at h
    · rename_i c' b' hv
      obtain ⟨p, e1⟩ := vWhl_eq hv
      subst e1
      rw [Bool.and_eq_true] at h
      exact s_while f.passes (snd g c X n sc c' f.fit h.1).pt (sndSs g M body X n sc b' f h.2)
    · cases h
  | .raise c, X, n, sc, st, f, h => s_raise
  | .nop, X, n, sc, st, f, h => by
    rw [chkS] at h
    unfold isPass at h
    split at h
    · exact s_nop
    · cases h
  | .catPop i j e, X, n, sc, st, f, h => by
    rw [chkS] at h
    split at h
    · rename_i x px x2 y e' hv
      obtain ⟨px2, tk, tp, bp, py, pp, cpp, pos, rfl, hst, hl⟩ := vCatPop_eq hv
      simp only [Bool.and_eq_true, Bool.not_eq_true', decide_eq_true_eq] at h
      obtain ⟨⟨⟨⟨⟨⟨⟨h1, h2⟩, h3⟩, h4⟩, h5⟩, h6⟩, h7⟩, h8⟩ := h
      exact s_catPop (by rw [f.fit.N]; exact h1) (by rw [f.fit.sc]; exact h2) (f.pg h3) (by rw [f.fit.N]; exact h4) (by rw [f.fit.sc]; exact h5) (snd g e X n sc e' f.fit h6).pe hst hl (by simpa using h7) (by simpa using h8)
    · cases h
  | .appPop i j e, X, n, sc, st, f, h => by
    rw [chkS] at h
    split at h
    · rename_i x y e' hv
      obtain ⟨px, p, cp, py, pp, cpp, pos, rfl, hst, hl, hlp⟩ := vAppPop_eq hv
      simp only [Bool.and_eq_true, decide_eq_true_eq] at h
      obtain ⟨⟨⟨⟨⟨⟨⟨h1, h2⟩, h3⟩, h4⟩, h5⟩, h6⟩, h7⟩, h8⟩ := h
      exact s_appPop (by rw [f.fit.N]; exact h1) (by rw [f.fit.sc]; exact h2) (by rw [f.fit.N]; exact h3) (by rw [f.fit.sc]; exact h4) (snd g e X n sc e' f.fit h5).pe hst hl hlp (by simpa using h6) (by simpa using h7) h8
    · cases h
theorem sndSs (g : Gx) (M : List Nat) : ∀ (ss : List S) (X : Cx) (n : Nat) (sc : Scope) (sts : List Stmt), FitS X g n sc → chkSs g sc M ss sts = true → PSs X sts (rdSs X.K (run g.P n) M ss)
  | [], X, n, sc, sts, f, h => by
    rw [chkSs] at h
    cases sts with
    | nil => exact s_nil
    | cons _ _ => cases h
  | s :: ss, X, n, sc, sts, f, h => by
    cases sts with
    | nil => simp [chkSs] at h
    | cons st sts =>
      rw [chkSs, Bool.and_eq_true] at h
      exact s_cons (sndS g M s X n sc st f h.1) (sndSs g M ss X n sc sts f h.2)
end
end
end OC

/-! Part S12: defs, the table of the program, the end. -/
namespace OC
open PySem PySem.Spec PyProof.Rows L2
/-- the look at a def -/
def chkFn (P : Prog) (C : String → Option D) (fn : Fn) (st : Stmt) : Bool :=
  decide ((defScope st).kind = .function) && decide ((defScope st).isCoroutine = false) && decide ((defScope st).isGenerator = false) && decide ((fn.ns.map sN).Nodup) && decide ((fn.ns.map sN).take (fn.ps.map sN).length = fn.ps.map sN) &&
  ((fn.ps.map sN).all fun x => match (defScope st).names.lookup x with | some .local => true | some .cell => true | _ => false) &&
  ((defScope st).names.all fun y => decide (y.2 ≠ .free)) && (fn.own.all fun i => decide (fn.ps.length ≤ i)) && chkSs ⟨fn.ns.map sN, P, C⟩ (defScope st) fn.own fn.body (defBody st)
theorem scope_of {P : Prog} {C : String → Option D} {fn : Fn} {st : Stmt} (h : chkFn P C fn st = true) : FnScope (fn.ns.map sN) (fn.ps.map sN) (defScope st) ∧ (∀ i ∈ fn.own, fn.ps.length ≤ i) ∧ chkSs ⟨fn.ns.map sN, P, C⟩ (defScope st) fn.own fn.body (defBody st) = true := by
  unfold chkFn at h
  simp only [Bool.and_eq_true, decide_eq_true_eq] at h
  obtain ⟨⟨⟨⟨⟨⟨⟨⟨h1, h2⟩, h3⟩, h4⟩, h5⟩, h6⟩, h7⟩, h8⟩, h9⟩ := h
  refine ⟨⟨h1, h2, h3, h4, h5, fun x hx => ?_, fun y hy => ?_⟩, fun i hi => ?_, h9⟩
  · have := List.all_eq_true.mp h6 x hx
    cases e : (defScope st).names.lookup x with
    | none => rw [e] at this; cases this
    | some k => rw [e] at this; cases k <;> first | (cases this; done) | simp
  · exact of_decide_eq_true (List.all_eq_true.mp h7 y hy)
  · exact of_decide_eq_true (List.all_eq_true.mp h8 i hi)
/-- a def of the text stands where it should -/
def Tab (K : PySem.W.Frag) (mg : Str → Option Value) (f : String) (fn : Fn) (st : Stmt) : Prop := ∃ a fd, Fun K (sN f) (sN f) st a fd ∧ mg (sN f) = some (.ref a) ∧ L2.Binds K fd (fn.ps.map sN) []
def AllTab (K : PySem.W.Frag) (mg : Str → Option Value) (P : Prog) (C : String → Option D) : List (String × Fn) → Prop
  | [] => True
  | (f, fn) :: r => (∃ st, Tab K mg f fn st ∧ chkFn P C fn st = true) ∧ AllTab K mg P C r
theorem AllTab.get {K : PySem.W.Frag} {mg : Str → Option Value} {P : Prog} {C : String → Option D} : ∀ {l : List (String × Fn)} {f : String} {fn : Fn}, AllTab K mg P C l → l.lookup f = some fn → ∃ st, Tab K mg f fn st ∧ chkFn P C fn st = true
  | [], f, fn, _, e => by simp at e
  | (k, v) :: r, f, fn, h, e => by
    rw [List.lookup_cons] at e
    cases hk : f == k with
    | true =>
      rw [hk] at e
      cases e
      have := eq_of_beq hk
      subst this
      exact h.1
    | false =>
      rw [hk] at e
      exact AllTab.get h.2 e
/-- the module's constants -/
def AllC (mg : Str → Option Value) : List (String × D) → Prop
  | [] => True
  | (x, d) :: r => (match d with
    | .int i => ∃ t, mg (sN x) = some (.int i t)
    | .str s => ∃ t, mg (sN x) = some (.str (toStr s) t)
    | _ => False) ∧ AllC mg r
theorem AllC.get {mg : Str → Option Value} {K : PySem.W.Frag} : ∀ {l : List (String × D)} {x : String} {d : D}, AllC mg l → l.lookup x = some d → ∃ u v, mg (sN x) = some u ∧ RelV v u ∧ ∀ F, Dq K F v d
  | [], x, d, _, e => by simp at e
  | (k, d0) :: r, x, d, h, e => by
    rw [List.lookup_cons] at e
    cases hk : x == k with
    | true =>
      rw [hk] at e
      cases e
      have := eq_of_beq hk
      subst this
      have h1 := h.1
      cases d0 with
      | int i => obtain ⟨t, ht⟩ := h1; exact ⟨_, .int i, ht, ⟨t, rfl⟩, fun F => .int i⟩
      | str s => obtain ⟨t, ht⟩ := h1; exact ⟨_, .str (toStr s), ht, ⟨t, rfl⟩, fun F => .str s⟩
      | _ => cases h1
    | false =>
      rw [hk] at e
      exact AllC.get h.2 e
section
variable {PP : Program} {w : World} {K : PySem.W.Frag} {mg : Str → Option Value} {base : Heap}
theorem start_get {ds : List D} {vs : List V} {F : Hp} (fn : Fn) (q : Dqs K F vs ds) (hl : ds.length = fn.ps.length) : ∀ (i : Nat) (d : D), (startEnv fn ds)[i]? = some (some d) → i < fn.ps.length ∧ ∃ v, (L2.start (fn.ns.map sN) vs)[i]? = some (some v) ∧ Dq K F v d := by
  intro i d e
  unfold startEnv at e
  by_cases hi : i < ds.length
  · rw [List.getElem?_append_left (by rw [List.length_map]; exact hi), List.getElem?_map] at e
    cases hd : ds[i]? with
    | none => rw [hd] at e; cases e
    | some d' =>
      rw [hd] at e
      cases e
      obtain ⟨v, h1, h2⟩ := q.get hd
      refine ⟨by omega, v, ?_, h2⟩
      unfold L2.start
      rw [List.getElem?_append_left (by rw [List.length_map, q.length]; exact hi), List.getElem?_map, h1]
      rfl
  · rw [List.getElem?_append_right (by rw [List.length_map]; omega)] at e
    rw [List.getElem?_replicate] at e
    split at e
    · cases e
    · cases e
def Oks (PP : Program) (w : World) (K : PySem.W.Frag) (mg : Str → Option Value) (base : Heap) (l : List (String × Fn)) (n : Nat) : Prop := ∀ (f : String) (fn : Fn), progOf l f = some fn → ∃ a fd, mg (sN f) = some (.ref a) ∧ PySem.W.keepIn K (.ref a) = true ∧ L2.Binds K fd (fn.ps.map sN) [] ∧
    FnOk PP w K mg base CX0 n a fd (fn.ps.map sN) (spOf K fn.ps.length (run (progOf l) n f))
theorem ok_zero {l : List (String × Fn)} {f : String} {fn : Fn} {a : Addr} {fd : FuncData} : FnOk PP w K mg base CX0 0 a fd (fn.ps.map sN) (spOf K fn.ps.length (run (progOf l) 0 f)) := by
  refine ⟨fun vs H Q E h => by rw [List.length_map]; exact h.1, fun A outer s H args us vs Q E hr he hbd hv h => ?_⟩
  obtain ⟨_, F, ds, d, _, _, h, _⟩ := h
  cases h
theorem ok_step {l : List (String × Fn)} {cl : List (String × D)} (bn : ∀ x ∈ bnames, mg (sN x) = none) (cs : AllC mg cl) {n : Nat} (ih : Oks PP w K mg base l n) {f : String} {fn : Fn} (hf : progOf l f = some fn) {st : Stmt} {a : Addr} {fd : FuncData} (F0 : Fun K (sN f) (sN f) st a fd) (hc : chkFn (progOf l) (constsOf cl) fn st = true) : FnOk PP w K mg base CX0 (n + 1) a fd (fn.ps.map sN) (spOf K fn.ps.length (run (progOf l) (n + 1) f)) := by
  obtain ⟨S, hown, hbody⟩ := scope_of hc
  refine F0.ok S (fun vs H Q E h => by rw [List.length_map]; exact h.1) fun cdv A outer s H vs Q E hr h => ?_
  obtain ⟨hlen, F, ds, d, hs, q, hrun, g⟩ := h
  have G : Good (cxOf CX0 PP w K mg base (fn.ns.map sN) (sN f) (defScope st) a cdv A outer s H E).nox (progOf l) (constsOf cl) n := ⟨rfl, S.nd, hr, bn, fun x d hx => cs.get hx, fun f' fn' hf' => ih f' fn' hf'⟩
  have fit : FitS (cxOf CX0 PP w K mg base (fn.ns.map sN) (sN f) (defScope st) a cdv A outer s H E).nox ⟨fn.ns.map sN, progOf l, constsOf cl⟩ n (defScope st) := ⟨⟨G, rfl, rfl⟩, PassesOwn.never, S.kind, rfl⟩
  refine ⟨_, sndSs _ fn.own fn.body _ n _ _ fit hbody, ?_⟩
  rw [run, hf] at hrun
  obtain ⟨hl, hrun⟩ := R.chk_ok_inv (show R.chk _ _ = _ from hrun)
  have hl := of_decide_eq_true hl
  obtain ⟨o, h1, h2⟩ := R.bind_ok_inv hrun
  have hN : fn.ps.length ≤ fn.ns.length := by
    have := congrArg List.length S.pre
    rw [List.length_take, List.length_map, List.length_map] at this
    omega
  refine ⟨H, F, F, startEnv fn ds, o, ⟨hs, Same.refl H, fun _ _ _ => rfl, Same.refl F, ?_, fun i x hi e => ?_, fun i x hi e => ?_, fun i j x y b hi hj e1 e2 e3 e4 => ?_⟩, h1, ?_⟩
  · unfold startEnv L2.start
    simp only [List.length_append, List.length_map, List.length_replicate]
    omega
  · exact (start_get fn q hl i x e).2
  · exact absurd (start_get fn q hl i x e).1 (Nat.not_lt.mpr (hown i hi))
  · exact absurd (start_get fn q hl i x e1).1 (Nat.not_lt.mpr (hown i hi))
  · cases o with
    | rt d' =>
      cases h2
      exact fun v F' H' x q' => g v F' H' x q'
    | nx e1 =>
      cases h2
      exact fun F' σ' H' I' => g .non F' H' I'.ext .non
theorem all_ok {l : List (String × Fn)} {cl : List (String × D)} (tab : AllTab K mg (progOf l) (constsOf cl) l) (bn : ∀ x ∈ bnames, mg (sN x) = none) (cs : AllC mg cl) : ∀ (n : Nat), Oks PP w K mg base l n := by
  intro n
  induction n with
  | zero =>
    intro f fn hf
    obtain ⟨st, ⟨a, fd, F0, hm, hb⟩, hc⟩ := tab.get hf
    exact ⟨a, fd, hm, F0.kp, hb, ok_zero⟩
  | succ n ih =>
    intro f fn hf
    obtain ⟨st, ⟨a, fd, F0, hm, hb⟩, hc⟩ := tab.get hf
    exact ⟨a, fd, hm, F0.kp, hb, ok_step bn cs ih hf F0 hc⟩
/-- the law's promise -/
theorem law_sp {l : List (String × Fn)} {n : Nat} {a : Addr} {ns : List Int} {H : Hp} (hS : SqL K H a (ns.map V.int)) (h : run (progOf l) n "law" [.scr ns] = .ok (.bl true)) : spOf K 1 (run (progOf l) n "law") [.ref a] H (fun v _ => v = .bl true) (fun _ _ _ => False) :=
  ⟨rfl, H, [.scr ns], .bl true, Same.refl H, .cons (.scr hS) .nil, h, fun v F' H' x q => dq_bl q⟩
end
end OC

namespace OC
def fn_is_whole : Fn := ⟨["thing", "low", "high"], ["thing", "low", "high"], [],
  [
    .ret (.and (.o1 .isInt (.var 0)) (.and (.o1 .not (.o1 .isBool (.var 0))) (.chain .le .le (.var 1) (.var 0) (.var 2))))]⟩
def fn_is_text : Fn := ⟨["thing", "most"], ["thing", "most", "sign"], [],
  [
    .ret (.and (.o1 .isStr (.var 0)) (.and (.o2 .le (.o1 .len (.var 0)) (.var 1)) (.o1 .all (.comp .seq (.var 0) (.cst .non) (.cst .non) (.nm 2) (.o2 .isin (.var 2) (.glb "LETTERS" (.str [97,98,99,100]))) none))))]⟩
def fn_is_sheet : Fn := ⟨["thing"], ["thing", "word"], [],
  [
    .ifS (.or (.o1 .not (.o1 .isTuple (.var 0))) (.or (.o2 .ne (.o1 .len (.var 0)) (.cst (ni 3))) (.o1 .not (.call "is_whole" [.o2 .item (.var 0) (.cst (ni 0)), .cst (ni 1), .glb "MOST_WIDE" (ni 3)]))))
      [
        .ret (.cst (.bl false))]
      [],
    .ifS (.or (.o1 .not (.call "is_text" [.o2 .item (.var 0) (.cst (ni 1)), .glb "MOST_FRAME" (ni 8)])) (.o1 .not (.o1 .isTuple (.o2 .item (.var 0) (.cst (ni 2))))))
      [
        .ret (.cst (.bl false))]
      [],
    .ret (.and (.chain .le .le (.cst (ni 1)) (.o1 .len (.o2 .item (.var 0) (.cst (ni 2)))) (.glb "MOST_WORDS" (ni 8))) (.o1 .all (.comp .seq (.o2 .item (.var 0) (.cst (ni 2))) (.cst .non) (.cst .non) (.nm 1) (.call "is_text" [.var 1, .glb "MOST_WORD" (ni 4)]) none)))]⟩
def fn_is_counts : Fn := ⟨["thing", "wide"], ["thing", "wide", "part"], [],
  [
    .ifS (.or (.o1 .not (.o1 .isTuple (.var 0))) (.o2 .ne (.o1 .len (.var 0)) (.var 1)))
      [
        .ret (.cst (.bl false))]
      [],
    .ret (.o1 .all (.comp .seq (.var 0) (.cst .non) (.cst .non) (.nm 2) (.and (.o1 .isInt (.var 2)) (.and (.o1 .not (.o1 .isBool (.var 2))) (.o2 .ge (.var 2) (.cst (ni 0))))) none))]⟩
def fn_law_cell_at : Fn := ⟨["script", "k"], ["script", "k"], [],
  [
    .ifS (.o2 .lt (.var 1) (.o1 .len (.var 0)))
      [
        .ret (.o2 .item (.var 0) (.var 1))]
      [],
    .ret (.cst (ni 0))]⟩
def fn_law_mixed : Fn := ⟨["script", "k"], ["script", "k", "drawn"], [],
  [
    .asg (.nm 2) (.o2 .mod (.o2 .mul (.o2 .add (.o2 .add (.call "_law_cell_at" [.var 0, .var 1]) (.o2 .mul (.cst (ni 7919)) (.var 1))) (.cst (ni 1))) (.cst (ni 48271))) (.cst (ni 2147483647))),
    .ret (.o2 .mod (.o2 .add (.o2 .add (.o2 .mul (.var 2) (.var 2)) (.o2 .mul (.cst (ni 7)) (.var 2))) (.var 1)) (.cst (ni 2147483629)))]⟩
def fn_law_drawn : Fn := ⟨["number", "k"], ["number", "k", "drawn"], [],
  [
    .asg (.nm 2) (.o2 .mod (.o2 .mul (.o2 .add (.o2 .add (.var 0) (.o2 .mul (.cst (ni 104729)) (.var 1))) (.cst (ni 17))) (.cst (ni 69621))) (.cst (ni 2147483647))),
    .ret (.o2 .mod (.o2 .add (.o2 .add (.o2 .mul (.var 2) (.var 2)) (.o2 .mul (.cst (ni 3)) (.var 2))) (.var 1)) (.cst (ni 2147483629)))]⟩
def fn_law_letters : Fn := ⟨["number", "most", "of"], ["number", "most", "of", "k"], [],
  [
    .ret (.o2 .join (.cst (.str [])) (.comp .range1 (.o2 .mod (.var 0) (.o2 .add (.var 1) (.cst (ni 1)))) (.cst .non) (.cst .non) (.nm 3) (.o2 .item (.cst (.str [97,98,99,100])) (.o2 .mod (.o2 .fdiv (.call "_law_drawn" [.var 0, .var 3]) (.cst (ni 4))) (.var 2))) none))]⟩
def fn_law_sheet : Fn := ⟨["number", "most"], ["number", "most", "wide", "of", "frame", "words", "k"], [5],
  [
    .asg (.nm 2) (.o2 .add (.cst (ni 1)) (.o2 .mod (.var 0) (.cst (ni 3)))),
    .asg (.nm 3) (.o2 .min2 (.cst (ni 4)) (.o2 .add (.var 2) (.o2 .mod (.o2 .fdiv (.var 0) (.cst (ni 4))) (.cst (ni 2))))),
    .asg (.nm 4) (.call "_law_letters" [.o2 .fdiv (.var 0) (.cst (ni 8)), .o2 .item (.tup [.cst (ni 8), .cst (ni 3)]) (.o2 .mod (.o2 .fdiv (.var 0) (.cst (ni 64))) (.cst (ni 2))), .var 3]),
    .own 5 (.lst []),
    .forS .range1 (.o2 .add (.cst (ni 1)) (.o2 .mod (.o2 .fdiv (.var 0) (.cst (ni 128))) (.var 1))) (.cst .non) (.cst .non) (.nm 6)
      [
        .app 5 (.call "_law_letters" [.o2 .fdiv (.call "_law_drawn" [.var 0, .o2 .add (.cst (ni 20)) (.var 6)]) (.cst (ni 4)), .o2 .item (.tup [.cst (ni 4), .cst (ni 2), .cst (ni 1)]) (.o2 .mod (.o2 .fdiv (.var 0) (.cst (ni 1024))) (.cst (ni 3))), .var 3])],
    .ret (.tup [.var 2, .var 4, .o1 .tuple (.var 5)])]⟩
def fn_law_whole : Fn := ⟨["thing", "low", "high"], ["thing", "low", "high"], [],
  [
    .ret (.and (.o1 .isInt (.var 0)) (.and (.o1 .not (.o1 .isBool (.var 0))) (.chain .le .le (.var 1) (.var 0) (.var 2))))]⟩
def fn_law_is_text : Fn := ⟨["thing", "most"], ["thing", "most", "sign"], [],
  [
    .ret (.and (.o1 .isStr (.var 0)) (.and (.o2 .le (.o1 .len (.var 0)) (.var 1)) (.o2 .eq (.comp .seq (.var 0) (.cst .non) (.cst .non) (.nm 2) (.var 2) (some (.o2 .notin (.var 2) (.cst (.str [97,98,99,100]))))) (.lst []))))]⟩
def fn_law_is_sheet : Fn := ⟨["thing"], ["thing", "word"], [],
  [
    .ifS (.or (.o1 .not (.o1 .isTuple (.var 0))) (.or (.o2 .ne (.o1 .len (.var 0)) (.cst (ni 3))) (.o1 .not (.call "_law_whole" [.o2 .item (.var 0) (.cst (ni 0)), .cst (ni 1), .cst (ni 3)]))))
      [
        .ret (.cst (.bl false))]
      [],
    .ifS (.or (.o1 .not (.call "_law_is_text" [.o2 .item (.var 0) (.cst (ni 1)), .cst (ni 8)])) (.or (.o1 .not (.o1 .isTuple (.o2 .item (.var 0) (.cst (ni 2))))) (.o1 .not (.chain .le .le (.cst (ni 1)) (.o1 .len (.o2 .item (.var 0) (.cst (ni 2)))) (.cst (ni 8))))))
      [
        .ret (.cst (.bl false))]
      [],
    .ret (.o2 .eq (.comp .seq (.o2 .item (.var 0) (.cst (ni 2))) (.cst .non) (.cst .non) (.nm 1) (.var 1) (some (.o1 .not (.call "_law_is_text" [.var 1, .cst (ni 4)])))) (.lst []))]⟩
def fn_law_is_counts : Fn := ⟨["thing", "wide"], ["thing", "wide", "part"], [],
  [
    .ifS (.or (.o1 .not (.o1 .isTuple (.var 0))) (.o2 .ne (.o1 .len (.var 0)) (.var 1)))
      [
        .ret (.cst (.bl false))]
      [],
    .ret (.o2 .eq (.comp .seq (.var 0) (.cst .non) (.cst .non) (.nm 2) (.var 2) (some (.o1 .not (.call "_law_whole" [.var 2, .cst (ni 0), .o2 .pow (.cst (ni 10)) (.cst (ni 30))])))) (.lst []))]⟩
def fn_law_spoilt_k01 : Fn := ⟨["thing", "number", "deep"], ["thing", "number", "deep", "at", "part", "some"], [],
  [
    .ifS (.and (.o2 .gt (.var 2) (.cst (ni 0))) (.and (.o1 .isTuple (.var 0)) (.and (.o2 .gt (.o1 .len (.var 0)) (.cst (ni 0))) (.o2 .gt (.o2 .mod (.var 1) (.cst (ni 6))) (.cst (ni 0))))))
      [
        .asg (.nm 3) (.o2 .mod (.o2 .fdiv (.var 1) (.cst (ni 6))) (.o1 .len (.var 0))),
        .asg (.nm 4) (.call "_law_spoilt" [.o2 .item (.var 0) (.var 3), .o2 .fdiv (.call "_law_drawn" [.var 1, .var 2]) (.cst (ni 4)), .o2 .sub (.var 2) (.cst (ni 1))]),
        .ret (.o2 .add (.o2 .add (.o2 .upto (.var 0) (.var 3)) (.tup [.var 4])) (.o2 .from_ (.var 0) (.o2 .add (.var 3) (.cst (ni 1)))))]
      [],
    .ifS (.and (.o1 .isTuple (.var 0)) (.and (.o2 .gt (.o1 .len (.var 0)) (.cst (ni 0))) (.o2 .eq (.o2 .mod (.o2 .fdiv (.var 1) (.cst (ni 6))) (.cst (ni 2))) (.cst (ni 0)))))
      [
        .ret (.o2 .item (.lst [.o1 .list (.var 0), .o2 .upto (.var 0) (.o1 .neg (.cst (ni 1))), .o2 .add (.var 0) (.o2 .from_ (.var 0) (.o1 .neg (.cst (ni 1)))), .o2 .from_ (.var 0) (.cst (ni 1)), .o1 .rev (.var 0), .o2 .mul (.var 0) (.cst (ni 2))]) (.o2 .mod (.o2 .fdiv (.var 1) (.cst (ni 12))) (.cst (ni 6))))]
      [],
    .ifS (.and (.o1 .isStr (.var 0)) (.o2 .eq (.o2 .mod (.o2 .fdiv (.var 1) (.cst (ni 6))) (.cst (ni 2))) (.cst (ni 0))))
      [
        .ret (.o2 .item (.lst [.o2 .add (.var 0) (.cst (.str [101])), .o2 .add (.var 0) (.cst (.str [97,98,99,100])), .o1 .upper (.var 0), .o2 .mul (.var 0) (.cst (ni 3)), .o2 .add (.var 0) (.cst (.str [32])), .lst [.var 0]]) (.o2 .mod (.o2 .fdiv (.var 1) (.cst (ni 12))) (.cst (ni 6))))]
      [],
    .ifS (.and (.o1 .isInt (.var 0)) (.o2 .eq (.o2 .mod (.o2 .fdiv (.var 1) (.cst (ni 6))) (.cst (ni 2))) (.cst (ni 0))))
      [
        .ret (.o2 .item (.lst [.o1 .str (.o2 .mod (.var 0) (.cst (ni 100))), .o2 .sub (.cst (ni 0)) (.var 0), .o2 .add (.var 0) (.cst (ni 1)), .o2 .eq (.var 0) (.cst (ni 1)), .o2 .sub (.var 0) (.cst (ni 1)), .cst (ni 10)]) (.o2 .mod (.o2 .fdiv (.var 1) (.cst (ni 12))) (.cst (ni 6))))]
      [],
    .asg (.nm 5) (.lst [.cst .non, .cst (.bl true), .cst (.bl false), .cst (ni 0), .cst (ni 1), .cst (ni 3), .cst (ni 4), .o1 .neg (.cst (ni 1)), .cst (.str []), .cst (.str [97]), .cst (.str [97,98,99,100,97]), .tup [], .tup [.cst (.str [])], .tup [.cst (.str [97]), .cst (ni 1)], .lst [], .cst (.str [97,98,99,100,97,98,99,100,97]), .tup [.cst (ni 0), .cst (ni 0)]]),
    .ret (.o2 .item (.var 5) (.o2 .mod (.o2 .fdiv (.var 1) (.cst (ni 6))) (.cst (ni 17))))]⟩
def fn_law_k01 : Fn := ⟨["script"], ["script", "number", "sheet", "wide", "of", "k", "counts", "word", "one", "found"], [],
  [
    .asg (.nm 1) (.call "_law_mixed" [.var 0, .cst (ni 0)]),
    .asg (.nm 2) (.call "_law_sheet" [.call "_law_mixed" [.var 0, .cst (ni 1)], .cst (ni 8)]),
    .asg (.nm 3) (.o2 .item (.var 2) (.cst (ni 0))),
    .asg (.nm 4) (.o2 .item (.tup [.cst (ni 4), .cst (ni 1000), .o2 .pow (.cst (ni 10)) (.cst (ni 9))]) (.o2 .mod (.o2 .fdiv (.var 1) (.cst (ni 16))) (.cst (ni 3)))),
    .asg (.nm 6) (.o1 .tuple (.comp .range1 (.var 3) (.cst .non) (.cst .non) (.nm 5) (.o2 .mod (.call "_law_mixed" [.var 0, .o2 .add (.cst (ni 2)) (.var 5)]) (.var 4)) none)),
    .ifS (.o2 .gt (.o2 .mod (.var 1) (.cst (ni 3))) (.cst (ni 0)))
      [
        .asg (.nm 2) (.call "_law_spoilt" [.var 2, .call "_law_mixed" [.var 0, .cst (ni 5)], .o2 .mod (.o2 .fdiv (.var 1) (.cst (ni 4))) (.cst (ni 3))]),
        .asg (.nm 6) (.call "_law_spoilt" [.var 6, .call "_law_mixed" [.var 0, .cst (ni 6)], .o2 .mod (.o2 .fdiv (.var 1) (.cst (ni 64))) (.cst (ni 2))])]
      [],
    .ifS (.o2 .eq (.o2 .mod (.o2 .fdiv (.var 1) (.cst (ni 128))) (.cst (ni 5))) (.cst (ni 1)))
      [
        .asg (.nm 7) (.o2 .upto (.cst (.str [97,98,99,100,101])) (.o2 .add (.cst (ni 3)) (.o2 .mod (.o2 .fdiv (.var 1) (.cst (ni 16384))) (.cst (ni 3))))),
        .asg (.nm 2) (.tup [.o2 .add (.cst (ni 1)) (.o2 .mod (.o2 .fdiv (.var 1) (.cst (ni 1024))) (.cst (ni 4))), .o2 .mul (.cst (.str [100])) (.o2 .add (.cst (ni 7)) (.o2 .mod (.o2 .fdiv (.var 1) (.cst (ni 4096))) (.cst (ni 3)))), .o2 .mul (.tup [.var 7]) (.o2 .add (.cst (ni 7)) (.o2 .mod (.var 1) (.cst (ni 3))))])]
      [],
    .forS .seq (.tup [.var 2, .var 6]) (.cst .non) (.cst .non) (.nm 8)
      [
        .asg (.nm 9) (.call "is_sheet" [.var 8]),
        .ifS (.or (.o1 .not (.o1 .isBool (.var 9))) (.o2 .ne (.var 9) (.call "_law_is_sheet" [.var 8])))
          [
            .ret (.cst (.bl false))]
          [],
        .asg (.nm 9) (.call "is_counts" [.var 8, .var 3]),
        .ifS (.or (.o1 .not (.o1 .isBool (.var 9))) (.o2 .ne (.var 9) (.call "_law_is_counts" [.var 8, .var 3])))
          [
            .ret (.cst (.bl false))]
          []],
    .ret (.cst (.bl true))]⟩
def fn_need : Fn := ⟨["good"], ["good"], [],
  [
    .ifS (.o1 .not (.var 0))
      [
        .raise 3]
      []]⟩
def fn_part_text : Fn := ⟨["text"], ["text"], [],
  [
    .ifS (.o2 .eq (.var 0) (.cst (.str [])))
      [
        .ret (.glb "NONE" (.str [45]))]
      [],
    .ret (.var 0)]⟩
def fn_written : Fn := ⟨["sheet"], ["sheet", "rows", "k", "word", "row"], [1],
  [
    .own 1 (.lst [.o2 .add (.o2 .add (.o1 .str (.o2 .item (.var 0) (.cst (ni 0)))) (.cst (.str [32]))) (.call "part_text" [.o2 .item (.var 0) (.cst (ni 1))])]),
    .ext 1 (.comp .enum (.o2 .item (.var 0) (.cst (ni 2))) (.cst .non) (.cst .non) (.p2 (.nm 2) (.nm 3)) (.o2 .add (.o2 .add (.o1 .str (.var 2)) (.cst (.str [32]))) (.call "part_text" [.var 3])) none),
    .ret (.o2 .join (.cst (.str [])) (.comp .seq (.var 1) (.cst .non) (.cst .non) (.nm 4) (.o2 .add (.var 4) (.glb "ROW_END" (.str [10]))) none))]⟩
def fn_part_in : Fn := ⟨["text"], ["text"], [],
  [
    .ifS (.o2 .eq (.var 0) (.glb "NONE" (.str [45])))
      [
        .ret (.cst (.str []))]
      [],
    .ret (.var 0)]⟩
def fn_row_text : Fn := ⟨["row"], ["row", "number"], [],
  [
    .ret (.o2 .join (.cst (.str [32])) (.comp .seq (.var 0) (.cst .non) (.cst .non) (.nm 1) (.o1 .str (.var 1)) none))]⟩
def fn_law_text_k02 : Fn := ⟨["sheet"], ["sheet", "found", "k", "word"], [],
  [
    .asg (.nm 1) (.o2 .add (.o2 .add (.o2 .add (.o1 .str (.o2 .item (.var 0) (.cst (ni 0)))) (.cst (.str [32]))) (.o2 .add (.o2 .item (.var 0) (.cst (ni 1))) (.o2 .mul (.cst (.str [45])) (.o1 .int (.o2 .eq (.o2 .item (.var 0) (.cst (ni 1))) (.cst (.str []))))))) (.cst (.str [10]))),
    .forS .enum (.o2 .item (.var 0) (.cst (ni 2))) (.cst .non) (.cst .non) (.p2 (.nm 2) (.nm 3))
      [
        .asg (.nm 1) (.o2 .add (.o2 .add (.o2 .add (.o2 .add (.var 1) (.o1 .str (.var 2))) (.cst (.str [32]))) (.o2 .add (.var 3) (.o2 .mul (.cst (.str [45])) (.o1 .int (.o2 .eq (.var 3) (.cst (.str []))))))) (.cst (.str [10])))],
    .ret (.var 1)]⟩
def fn_law_part : Fn := ⟨["text", "most"], ["text", "most", "sign", "good"], [],
  [
    .ifS (.o2 .eq (.var 0) (.cst (.str [45])))
      [
        .ret (.cst (.str []))]
      [],
    .asg (.nm 3) (.and (.chain .le .le (.cst (ni 1)) (.o1 .len (.var 0)) (.var 1)) (.o2 .eq (.comp .seq (.var 0) (.cst .non) (.cst .non) (.nm 2) (.var 2) (some (.o2 .notin (.var 2) (.cst (.str [97,98,99,100]))))) (.lst []))),
    .ret (.o2 .item (.lst [.cst .non, .var 0]) (.o1 .int (.var 3)))]⟩
def fn_law_due : Fn := ⟨["text"], ["text", "rows", "found", "at", "row", "words"], [2],
  [
    .asg (.nm 1) (.o2 .split (.var 0) (.cst (.str [10]))),
    .ifS (.or (.o2 .ne (.o2 .item (.var 1) (.o1 .neg (.cst (ni 1)))) (.cst (.str []))) (.o1 .not (.chain .le .le (.cst (ni 3)) (.o1 .len (.var 1)) (.cst (ni 10)))))
      [
        .ret (.tup [.cst (.str [114,101,102,117,115,101,100]), .cst (.bl true)])]
      [],
    .own 2 (.lst []),
    .forS .enum (.o2 .upto (.var 1) (.o1 .neg (.cst (ni 1)))) (.cst .non) (.cst .non) (.p2 (.nm 3) (.nm 4))
      [
        .asg (.nm 5) (.o2 .split (.var 4) (.cst (.str [32]))),
        .ifS (.or (.o2 .ne (.o1 .len (.var 5)) (.cst (ni 2))) (.or (.and (.o2 .gt (.var 3) (.cst (ni 0))) (.o2 .ne (.o2 .item (.var 5) (.cst (ni 0))) (.o1 .str (.o2 .sub (.var 3) (.cst (ni 1)))))) (.and (.o2 .eq (.var 3) (.cst (ni 0))) (.o2 .notin (.o2 .item (.var 5) (.cst (ni 0))) (.tup [.cst (.str [49]), .cst (.str [50]), .cst (.str [51])])))))
          [
            .ret (.tup [.cst (.str [114,101,102,117,115,101,100]), .cst (.bl true)])]
          [],
        .app 2 (.call "_law_part" [.o2 .item (.var 5) (.cst (ni 1)), .o2 .item (.tup [.cst (ni 4), .cst (ni 8)]) (.o1 .int (.o2 .eq (.var 3) (.cst (ni 0))))])],
    .ifS (.o2 .isin (.cst .non) (.var 2))
      [
        .ret (.tup [.cst (.str [114,101,102,117,115,101,100]), .cst (.bl true)])]
      [],
    .ret (.tup [.cst (.str [116,111,108,100]), .tup [.o1 .intS (.o2 .item (.var 0) (.cst (ni 0))), .o2 .item (.var 2) (.cst (ni 0)), .o1 .tuple (.o2 .from_ (.var 2) (.cst (ni 1)))]])]⟩
def fn_law_row_due : Fn := ⟨["text"], ["text", "words", "word", "good"], [],
  [
    .asg (.nm 1) (.o2 .split (.var 0) (.cst (.str [32]))),
    .asg (.nm 3) (.comp .seq (.var 1) (.cst .non) (.cst .non) (.nm 2) (.var 2) (some (.and (.o2 .eq (.o1 .len (.var 2)) (.cst (ni 1))) (.chain .le .le (.cst (.str [48])) (.var 2) (.cst (.str [57])))))),
    .ifS (.or (.o2 .ne (.o1 .len (.var 3)) (.o1 .len (.var 1))) (.o2 .gt (.o1 .len (.var 1)) (.cst (ni 8))))
      [
        .ret (.tup [.cst (.str [114,101,102,117,115,101,100]), .cst (.bl true)])]
      [],
    .ret (.tup [.cst (.str [116,111,108,100]), .o1 .tuple (.comp .seq (.var 1) (.cst .non) (.cst .non) (.nm 2) (.o1 .intS (.var 2)) none)])]⟩
def fn_law_changed : Fn := ⟨["text", "number"], ["text", "number", "at", "sign", "kind"], [],
  [
    .asg (.nm 2) (.o2 .mod (.o2 .fdiv (.var 1) (.cst (ni 8))) (.o2 .add (.o1 .len (.var 0)) (.cst (ni 1)))),
    .asg (.nm 3) (.o2 .item (.cst (.str [48,49,50,51,52,56,57,97,98,99,100,101,45,32,10])) (.o2 .mod (.o2 .fdiv (.var 1) (.cst (ni 1024))) (.cst (ni 15)))),
    .asg (.nm 4) (.o2 .mod (.var 1) (.cst (ni 5))),
    .ifS (.o2 .eq (.var 4) (.cst (ni 0)))
      [
        .ret (.o2 .add (.o2 .upto (.var 0) (.var 2)) (.o2 .from_ (.var 0) (.o2 .add (.var 2) (.cst (ni 1)))))]
      [],
    .ifS (.o2 .eq (.var 4) (.cst (ni 1)))
      [
        .ret (.o2 .add (.o2 .add (.o2 .upto (.var 0) (.var 2)) (.o3 .cut (.var 0) (.var 2) (.o2 .add (.var 2) (.cst (ni 1))))) (.o2 .from_ (.var 0) (.var 2)))]
      [],
    .ifS (.o2 .eq (.var 4) (.cst (ni 2)))
      [
        .ret (.o2 .add (.o2 .add (.o2 .upto (.var 0) (.var 2)) (.var 3)) (.o2 .from_ (.var 0) (.o2 .add (.var 2) (.cst (ni 1)))))]
      [],
    .ifS (.o2 .eq (.var 4) (.cst (ni 3)))
      [
        .ret (.o2 .add (.o2 .add (.o2 .upto (.var 0) (.var 2)) (.var 3)) (.o2 .from_ (.var 0) (.var 2)))]
      [],
    .ret (.o2 .add (.o2 .add (.o2 .upto (.var 0) (.var 2)) (.o1 .rev (.o3 .cut (.var 0) (.var 2) (.o2 .add (.var 2) (.cst (ni 2)))))) (.o2 .from_ (.var 0) (.o2 .add (.var 2) (.cst (ni 2)))))]⟩
def fn_law_by_hand : Fn := ⟨["number"], ["number", "bad", "wrong", "good", "k", "text"], [],
  [
    .asg (.nm 1) (.lst [.cst (.str []), .cst (.str [49,32,45,10]), .cst (.str [48,32,45,10,48,32,45,10]), .cst (.str [52,32,45,10,48,32,45,10]), .cst (.str [49,32,45,10,49,32,45,10]), .cst (.str [49,32,101,10,48,32,45,10]), .cst (.str [49,32,97,97,97,97,97,97,97,97,97,10,48,32,45,10]), .cst (.str [49,32,45,10,48,32,97,97,97,97,97,10])]),
    .asg (.nm 1) (.o2 .add (.var 1) (.lst [.cst (.str [49,32,45,10,48,32,45]), .cst (.str [49,10,48,32,45,10]), .cst (.str [49,32,45,10,48,10]), .cst (.str [49,32,45,10,48,32,45,10,10]), .cst (.str [49,32,32,45,10,48,32,45,10]), .cst (.str [49,32,45,45,10,48,32,45,10]), .cst (.str [48,49,32,45,10,48,32,45,10])])),
    .asg (.nm 1) (.o2 .add (.var 1) (.lst [.cst (.str [49,32,45,10,48,48,32,45,10]), .cst (.str [49,32,45,32,10,48,32,45,10]), .cst (.str [49,32,65,10,48,32,45,10]), .cst (.str [49,32,45,10,48,32,45,97,10])])),
    .asg (.nm 2) (.lst [.cst (.str []), .cst (.str [32]), .cst (.str [49,48]), .cst (.str [49,32,49,48]), .cst (.str [49,32,32,50]), .cst (.str [49,32,50,32]), .cst (.str [32,49]), .cst (.str [48,49]), .cst (.str [45,49]), .cst (.str [97]), .cst (.str [48,32,48,32,48,32,48,32,48,32,48,32,48,32,48,32,48]), .cst (.str [49,44,50]), .cst (.str [49,10])]),
    .asg (.nm 3) (.lst [.cst (.str [49,32,45,10,48,32,45,10]), .cst (.str [51,32,97,98,99,100,97,98,99,100,10,48,32,100,100,100,100,10,49,32,45,10]), .cst (.str [50,32,97,10,48,32,98,10,49,32,97,10,50,32,99,10])]),
    .forS .range1 (.cst (ni 5)) (.cst .non) (.cst .non) (.nm 4)
      [
        .ifS (.o1 .not (.call "_law_none" [.o2 .item (.var 1) (.o2 .mod (.o2 .add (.o2 .fdiv (.var 0) (.cst (ni 7))) (.o2 .mul (.cst (ni 5)) (.var 4))) (.o1 .len (.var 1))), .cst (ni 0)]))
          [
            .ret (.cst (.bl false))]
          [],
        .ifS (.o1 .not (.call "_law_none" [.o2 .item (.var 2) (.o2 .mod (.o2 .add (.o2 .fdiv (.var 0) (.cst (ni 11))) (.o2 .mul (.cst (ni 3)) (.var 4))) (.o1 .len (.var 2))), .cst (ni 1)]))
          [
            .ret (.cst (.bl false))]
          []],
    .ret (.o2 .eq (.comp .seq (.var 3) (.cst .non) (.cst .non) (.nm 5) (.var 5) (some (.or (.o2 .ne (.call "written" [.call "read" [.var 5]]) (.var 5)) (.o1 .not (.call "is_sheet" [.call "read" [.var 5]]))))) (.lst []))]⟩
def fn_law_k03 : Fn := ⟨["script"], ["script", "sheet", "wide", "frame", "words", "k", "word", "rows", "row", "text", "more", "number", "line"], [],
  [
    .asg (.nm 1) (.call "_law_sheet" [.call "_law_mixed" [.var 0, .cst (ni 0)], .cst (ni 8)]),
    .asg (.p3 (.nm 2) (.nm 3) (.nm 4)) (.var 1),
    .asg (.nm 7) (.o2 .add (.lst [.o2 .add (.o2 .add (.o1 .str (.var 2)) (.cst (.str [32]))) (.or (.var 3) (.cst (.str [45])))]) (.comp .enum (.var 4) (.cst .non) (.cst .non) (.p2 (.nm 5) (.nm 6)) (.o2 .add (.o2 .add (.o1 .str (.var 5)) (.cst (.str [32]))) (.or (.var 6) (.cst (.str [45])))) none)),
    .asg (.nm 9) (.o2 .join (.cst (.str [])) (.comp .seq (.var 7) (.cst .non) (.cst .non) (.nm 8) (.o2 .add (.var 8) (.cst (.str [10]))) none)),
    .ifS (.or (.o2 .ne (.call "written" [.var 1]) (.var 9)) (.or (.o2 .ne (.call "read" [.var 9]) (.var 1)) (.o1 .not (.call "_law_none" [.o2 .upto (.var 9) (.o1 .neg (.cst (ni 1))), .cst (ni 0)]))))
      [
        .ret (.cst (.bl false))]
      [],
    .forS .range2 (.cst (ni 1)) (.o2 .add (.o1 .len (.var 4)) (.cst (ni 1))) (.cst .non) (.nm 5)
      [
        .ifS (.o2 .ne (.call "read" [.o2 .join (.cst (.str [])) (.comp .seq (.o2 .upto (.var 7) (.o2 .add (.var 5) (.cst (ni 1)))) (.cst .non) (.cst .non) (.nm 8) (.o2 .add (.var 8) (.cst (.str [10]))) none)]) (.tup [.var 2, .var 3, .o2 .upto (.var 4) (.var 5)]))
          [
            .ret (.cst (.bl false))]
          []],
    .ifS (.and (.o2 .gt (.o1 .len (.var 4)) (.cst (ni 1))) (.o1 .not (.call "_law_none" [.o2 .join (.cst (.str [])) (.comp .seq (.o2 .add (.o2 .upto (.var 7) (.cst (ni 1))) (.o1 .rev (.o2 .from_ (.var 7) (.cst (ni 1))))) (.cst .non) (.cst .non) (.nm 8) (.o2 .add (.var 8) (.cst (.str [10]))) none), .cst (ni 0)])))
      [
        .ret (.cst (.bl false))]
      [],
    .ifS (.or (.o1 .not (.call "_law_none" [.o2 .add (.o2 .item (.var 7) (.cst (ni 0))) (.cst (.str [10])), .cst (ni 0)])) (.o1 .not (.call "_law_none" [.var 9, .cst (ni 1)])))
      [
        .ret (.cst (.bl false))]
      [],
    .asg (.nm 10) (.o2 .join (.cst (.str [])) (.comp .range2 (.o1 .len (.var 4)) (.cst (ni 9)) (.cst .non) (.nm 5) (.o2 .add (.o1 .str (.var 5)) (.cst (.str [32,97,10]))) none)),
    .ifS (.o1 .not (.call "_law_none" [.o2 .add (.var 9) (.var 10), .cst (ni 0)]))
      [
        .ret (.cst (.bl false))]
      [],
    .asg (.nm 8) (.o1 .tuple (.comp .range1 (.o2 .add (.cst (ni 1)) (.o2 .mod (.call "_law_mixed" [.var 0, .cst (ni 2)]) (.cst (ni 8)))) (.cst .non) (.cst .non) (.nm 5) (.o2 .mod (.o2 .fdiv (.call "_law_drawn" [.call "_law_mixed" [.var 0, .cst (ni 1)], .var 5]) (.cst (ni 4))) (.cst (ni 10))) none)),
    .asg (.nm 12) (.o2 .join (.cst (.str [32])) (.comp .seq (.var 8) (.cst .non) (.cst .non) (.nm 11) (.o1 .str (.var 11)) none)),
    .ifS (.or (.o2 .ne (.call "row_text" [.var 8]) (.var 12)) (.or (.o2 .ne (.call "read_row" [.var 12]) (.var 8)) (.or (.o1 .not (.call "_law_none" [.var 12, .cst (ni 0)])) (.o1 .not (.call "_law_none" [.o2 .add (.var 12) (.cst (.str [32,49,48])), .cst (ni 1)])))))
      [
        .ret (.cst (.bl false))]
      [],
    .ifS (.or (.o2 .ne (.call "read_row" [.o2 .join (.cst (.str [32])) (.o1 .rev (.o2 .split (.var 12) (.cst (.str [32]))))]) (.o1 .rev (.var 8))) (.o1 .not (.call "_law_none" [.o2 .add (.var 12) (.cst (.str [10])), .cst (ni 1)])))
      [
        .ret (.cst (.bl false))]
      [],
    .ret (.call "_law_by_hand" [.call "_law_mixed" [.var 0, .cst (ni 3)]])]⟩
def fn_law_places_in : Fn := ⟨["bent_one", "bent_way"], ["bent_one", "bent_way", "bent_ways", "bent_at", "bent_part"], [],
  [
    .asg (.nm 2) (.lst [.var 1]),
    .ifS (.o1 .isTuple (.var 0))
      [
        .forS .enum (.var 0) (.cst .non) (.cst .non) (.p2 (.nm 3) (.nm 4))
          [
            .asg (.nm 2) (.o2 .add (.var 2) (.call "_law_places_in" [.var 4, .o2 .add (.var 1) (.tup [.var 3])]))]]
      [],
    .ret (.var 2)]⟩
def fn_law_otherwise : Fn := ⟨["bent_one", "bent_number"], ["bent_one", "bent_number", "bent_some"], [],
  [
    .ifS (.o1 .isTuple (.var 0))
      [
        .asg (.nm 2) (.lst [.o1 .list (.var 0), .o1 .list (.var 0), .o2 .add (.var 0) (.o2 .upto (.var 0) (.cst (ni 1)))]),
        .ret (.o2 .item (.o2 .add (.var 2) (.lst [.o2 .from_ (.var 0) (.cst (ni 1)), .lst [.var 0]])) (.o2 .mod (.var 1) (.cst (ni 5))))]
      [],
    .ifS (.o1 .isBool (.var 0))
      [
        .ret (.o2 .item (.lst [.o1 .int (.var 0), .cst .non, .o1 .str (.var 0)]) (.o2 .mod (.var 1) (.cst (ni 3))))]
      [],
    .ifS (.o1 .isInt (.var 0))
      [
        .asg (.nm 2) (.lst [.cst (.bl true), .cst .non, .o1 .str (.var 0), .tup [.var 0]]),
        .ret (.o2 .item (.o2 .add (.var 2) (.lst [.o2 .sub (.o1 .neg (.cst (ni 1))) (.var 0)])) (.o2 .mod (.var 1) (.cst (ni 5))))]
      [],
    .ret (.o2 .item (.lst [.cst .non, .tup [.var 0], .lst [.var 0], .cst (.str []), .cst (ni 0)]) (.o2 .mod (.var 1) (.cst (ni 5))))]⟩
def fn_law_once_k09 : Fn := ⟨["script"], ["script", "number", "sheet", "wide", "of", "k", "counts", "word", "one", "found"], [],
  [
    .asg (.nm 1) (.call "_law_mixed" [.var 0, .cst (ni 0)]),
    .asg (.nm 2) (.call "_law_sheet" [.call "_law_mixed" [.var 0, .cst (ni 1)], .cst (ni 8)]),
    .asg (.nm 3) (.o2 .item (.var 2) (.cst (ni 0))),
    .asg (.nm 4) (.o2 .item (.tup [.cst (ni 4), .cst (ni 1000), .o2 .pow (.cst (ni 10)) (.cst (ni 9))]) (.o2 .mod (.o2 .fdiv (.var 1) (.cst (ni 16))) (.cst (ni 3)))),
    .asg (.nm 6) (.o1 .tuple (.comp .range1 (.var 3) (.cst .non) (.cst .non) (.nm 5) (.o2 .mod (.call "_law_mixed" [.var 0, .o2 .add (.cst (ni 2)) (.var 5)]) (.var 4)) none)),
    .ifS (.o2 .gt (.o2 .mod (.var 1) (.cst (ni 3))) (.cst (ni 0)))
      [
        .asg (.nm 2) (.call "_law_spoilt" [.var 2, .call "_law_mixed" [.var 0, .cst (ni 5)], .o2 .mod (.o2 .fdiv (.var 1) (.cst (ni 4))) (.cst (ni 3))]),
        .asg (.nm 6) (.call "_law_spoilt" [.var 6, .call "_law_mixed" [.var 0, .cst (ni 6)], .o2 .mod (.o2 .fdiv (.var 1) (.cst (ni 64))) (.cst (ni 2))])]
      [],
    .ifS (.o2 .eq (.o2 .mod (.o2 .fdiv (.var 1) (.cst (ni 128))) (.cst (ni 5))) (.cst (ni 1)))
      [
        .asg (.nm 7) (.o2 .upto (.cst (.str [97,98,99,100,101])) (.o2 .add (.cst (ni 3)) (.o2 .mod (.o2 .fdiv (.var 1) (.cst (ni 16384))) (.cst (ni 3))))),
        .asg (.nm 2) (.tup [.o2 .add (.cst (ni 1)) (.o2 .mod (.o2 .fdiv (.var 1) (.cst (ni 1024))) (.cst (ni 4))), .o2 .mul (.cst (.str [100])) (.o2 .add (.cst (ni 7)) (.o2 .mod (.o2 .fdiv (.var 1) (.cst (ni 4096))) (.cst (ni 3)))), .o2 .mul (.tup [.var 7]) (.o2 .add (.cst (ni 7)) (.o2 .mod (.var 1) (.cst (ni 3))))])]
      [],
    .forS .seq (.tup [.var 2, .var 6]) (.cst .non) (.cst .non) (.nm 8)
      [
        .asg (.nm 9) (.call "is_sheet" [.var 8]),
        .ifS (.or (.o1 .not (.o1 .isBool (.var 9))) (.o2 .ne (.var 9) (.call "_law_is_sheet" [.var 8])))
          [
            .ret (.cst (.bl false))]
          [],
        .asg (.nm 9) (.call "is_counts" [.var 8, .var 3]),
        .ifS (.or (.o1 .not (.o1 .isBool (.var 9))) (.o2 .ne (.var 9) (.call "_law_is_counts" [.var 8, .var 3])))
          [
            .ret (.cst (.bl false))]
          []],
    .ret (.cst (.bl true))]⟩
def fn_law_k09 : Fn := ⟨["script"], ["script", "bent_turn", "bent_cell"], [],
  [
    .forS .range1 (.cst (ni 8)) (.cst .non) (.cst .non) (.nm 1)
      [
        .ifS (.o1 .not (.call "_law_once" [.o2 .add (.comp .seq (.var 0) (.cst .non) (.cst .non) (.nm 2) (.o2 .add (.var 2) (.o2 .mul (.cst (ni 104729)) (.var 1))) none) (.lst [.var 1])]))
          [
            .ret (.cst (.bl false))]
          []],
    .ret (.cst (.bl true))]⟩
def fn_have_words : Fn := ⟨["sheet", "counts"], ["sheet", "counts", "number"], [],
  [
    .ret (.o1 .all (.comp .seq (.var 1) (.cst .non) (.cst .non) (.nm 2) (.o2 .lt (.var 2) (.o1 .len (.o2 .item (.var 0) (.cst (ni 2))))) none))]⟩
def fn_text_of : Fn := ⟨["sheet", "counts"], ["sheet", "counts", "number"], [],
  [
    .ifS (.o1 .not (.call "have_words" [.var 0, .var 1]))
      [
        .raise 1]
      [],
    .ret (.o2 .add (.o2 .item (.var 0) (.cst (ni 1))) (.o2 .join (.cst (.str [])) (.comp .seq (.var 1) (.cst .non) (.cst .non) (.nm 2) (.o2 .item (.o2 .item (.var 0) (.cst (ni 2))) (.var 2)) none)))]⟩
def fn_real : Fn := ⟨["sheet", "counts"], ["sheet", "counts", "text", "letter"], [],
  [
    .asg (.nm 2) (.call "text_of" [.var 0, .var 1]),
    .ret (.o1 .tuple (.comp .seq (.o2 .upto (.glb "LETTERS" (.str [97,98,99,100])) (.o2 .item (.var 0) (.cst (ni 0)))) (.cst .non) (.cst .non) (.nm 3) (.o2 .count (.var 2) (.var 3)) none))]⟩
def fn_is_true : Fn := ⟨["sheet", "counts"], ["sheet", "counts"], [],
  [
    .ret (.and (.call "have_words" [.var 0, .var 1]) (.o2 .eq (.call "real" [.var 0, .var 1]) (.var 1)))]⟩
def fn_law_real : Fn := ⟨["sheet", "counts"], ["sheet", "counts", "text", "number", "letter", "sign"], [],
  [
    .asg (.nm 2) (.o2 .item (.var 0) (.cst (ni 1))),
    .forS .seq (.var 1) (.cst .non) (.cst .non) (.nm 3)
      [
        .asg (.nm 2) (.o2 .add (.var 2) (.o2 .item (.o2 .item (.var 0) (.cst (ni 2))) (.var 3)))],
    .ret (.o1 .tuple (.comp .seq (.o2 .upto (.cst (.str [97,98,99])) (.o2 .item (.var 0) (.cst (ni 0)))) (.cst .non) (.cst .non) (.nm 4) (.o1 .len (.comp .seq (.var 2) (.cst .non) (.cst .non) (.nm 5) (.var 5) (some (.o2 .eq (.var 5) (.var 4))))) none))]⟩
def fn_law_all : Fn := ⟨["sheet"], ["sheet", "found", "k", "longer", "counts", "number"], [],
  [
    .asg (.nm 1) (.lst [.tup []]),
    .forS .range1 (.o2 .item (.var 0) (.cst (ni 0))) (.cst .non) (.cst .non) (.nm 2)
      [
        .asg (.nm 3) (.lst []),
        .forS .seq (.var 1) (.cst .non) (.cst .non) (.nm 4)
          [
            .asg (.nm 3) (.o2 .add (.var 3) (.comp .range1 (.o1 .len (.o2 .item (.var 0) (.cst (ni 2)))) (.cst .non) (.cst .non) (.nm 5) (.o2 .add (.var 4) (.tup [.var 5])) none))],
        .asg (.nm 1) (.var 3)],
    .ret (.var 1)]⟩
def fn_law_have : Fn := ⟨["sheet", "counts"], ["sheet", "counts", "number"], [],
  [
    .ret (.o2 .eq (.comp .seq (.var 1) (.cst .non) (.cst .non) (.nm 2) (.var 2) (some (.o2 .ge (.var 2) (.o1 .len (.o2 .item (.var 0) (.cst (ni 2))))))) (.lst []))]⟩
def fn_law_truths : Fn := ⟨["sheet"], ["sheet", "counts"], [],
  [
    .ret (.comp .seq (.call "_law_all" [.var 0]) (.cst .non) (.cst .non) (.nm 1) (.var 1) (some (.o2 .eq (.call "_law_real" [.var 0, .var 1]) (.var 1))))]⟩
def fn_law_good_sheet : Fn := ⟨["number", "most"], ["number", "most", "sheet", "every", "counts", "frame", "letter", "told", "there"], [],
  [
    .asg (.nm 2) (.call "_law_sheet" [.var 0, .var 1]),
    .ifS (.o2 .eq (.o2 .mod (.o2 .fdiv (.var 0) (.cst (ni 4096))) (.cst (ni 3))) (.cst (ni 0)))
      [
        .ret (.var 2)]
      [],
    .asg (.nm 3) (.call "_law_all" [.var 2]),
    .asg (.nm 4) (.o2 .item (.var 3) (.o2 .mod (.o2 .fdiv (.var 0) (.cst (ni 16384))) (.o1 .len (.var 3)))),
    .asg (.nm 5) (.cst (.str [])),
    .forS .zip3 (.cst (.str [97,98,99])) (.var 4) (.call "_law_real" [.tup [.o2 .item (.var 2) (.cst (ni 0)), .cst (.str []), .o2 .item (.var 2) (.cst (ni 2))], .var 4]) (.p3 (.nm 6) (.nm 7) (.nm 8))
      [
        .asg (.nm 5) (.o2 .add (.var 5) (.o2 .mul (.var 6) (.o2 .max2 (.cst (ni 0)) (.o2 .sub (.var 7) (.var 8)))))],
    .ifS (.o2 .gt (.o1 .len (.var 5)) (.cst (ni 8)))
      [
        .ret (.var 2)]
      [],
    .ret (.tup [.o2 .item (.var 2) (.cst (ni 0)), .var 5, .o2 .item (.var 2) (.cst (ni 2))])]⟩
def fn_with_word : Fn := ⟨["sheet", "k", "word"], ["sheet", "k", "word"], [],
  [
    .ret (.tup [.o2 .item (.var 0) (.cst (ni 0)), .o2 .item (.var 0) (.cst (ni 1)), .o2 .add (.o2 .add (.o2 .upto (.o2 .item (.var 0) (.cst (ni 2))) (.var 1)) (.tup [.var 2])) (.o2 .from_ (.o2 .item (.var 0) (.cst (ni 2))) (.o2 .add (.var 1) (.cst (ni 1))))])]⟩
def fn_sorted_text : Fn := ⟨["text"], ["text"], [],
  [
    .ret (.o2 .join (.cst (.str [])) (.o1 .sortedS (.var 0)))]⟩
def fn_plain : Fn := ⟨["sheet"], ["sheet", "word"], [],
  [
    .ret (.tup [.o2 .item (.var 0) (.cst (ni 0)), .call "sorted_text" [.o2 .item (.var 0) (.cst (ni 1))], .o1 .tuple (.comp .seq (.o2 .item (.var 0) (.cst (ni 2))) (.cst .non) (.cst .non) (.nm 1) (.call "sorted_text" [.var 1]) none)])]⟩
def fn_law_k11 : Fn := ⟨["script"], ["script", "sheet", "wide", "frame", "words", "more", "k", "put", "word_more", "longer", "counts", "there", "text", "at", "n", "due", "often", "number"], [],
  [
    .asg (.nm 1) (.call "_law_good_sheet" [.call "_law_mixed" [.var 0, .cst (ni 0)], .cst (ni 5)]),
    .asg (.p3 (.nm 2) (.nm 3) (.nm 4)) (.var 1),
    .asg (.nm 5) (.call "_law_letters" [.call "_law_mixed" [.var 0, .cst (ni 1)], .cst (ni 4), .cst (ni 4)]),
    .asg (.nm 6) (.o2 .mod (.call "_law_mixed" [.var 0, .cst (ni 2)]) (.o1 .len (.var 4))),
    .asg (.nm 7) (.o2 .upto (.var 5) (.o2 .sub (.cst (ni 8)) (.o1 .len (.var 3)))),
    .asg (.nm 8) (.o2 .upto (.var 5) (.o2 .sub (.cst (ni 4)) (.o1 .len (.o2 .item (.var 4) (.var 6))))),
    .asg (.nm 9) (.call "with_word" [.var 1, .var 6, .o2 .add (.o2 .item (.var 4) (.var 6)) (.var 8)]),
    .ifS (.or (.o2 .ne (.call "with_word" [.var 1, .var 6, .o2 .item (.var 4) (.var 6)]) (.var 1)) (.o2 .ne (.call "with_word" [.var 9, .var 6, .o2 .item (.var 4) (.var 6)]) (.var 1)))
      [
        .ret (.cst (.bl false))]
      [],
    .forS .seq (.call "_law_all" [.var 1]) (.cst .non) (.cst .non) (.nm 10)
      [
        .asg (.nm 11) (.call "real" [.var 1, .var 10]),
        .asg (.nm 12) (.call "text_of" [.var 1, .var 10]),
        .asg (.nm 15) (.o1 .tuple (.comp .enum (.var 11) (.cst .non) (.cst .non) (.p2 (.nm 13) (.nm 14)) (.o2 .add (.var 14) (.o2 .count (.var 7) (.o2 .item (.cst (.str [97,98,99])) (.var 13)))) none)),
        .ifS (.o2 .ne (.call "real" [.tup [.var 2, .o2 .add (.var 7) (.var 3), .var 4], .var 10]) (.var 15))
          [
            .ret (.cst (.bl false))]
          [],
        .asg (.nm 16) (.o2 .count (.var 10) (.var 6)),
        .asg (.nm 15) (.o1 .tuple (.comp .enum (.var 11) (.cst .non) (.cst .non) (.p2 (.nm 13) (.nm 14)) (.o2 .add (.var 14) (.o2 .mul (.var 16) (.o2 .count (.var 8) (.o2 .item (.cst (.str [97,98,99])) (.var 13))))) none)),
        .ifS (.o2 .ne (.call "real" [.var 9, .var 10]) (.var 15))
          [
            .ret (.cst (.bl false))]
          [],
        .ifS (.or (.o2 .ne (.call "real" [.call "plain" [.var 1], .var 10]) (.var 11)) (.o2 .ne (.call "real" [.tup [.var 2, .o1 .rev (.var 3), .var 4], .var 10]) (.var 11)))
          [
            .ret (.cst (.bl false))]
          [],
        .ifS (.or (.o2 .gt (.o1 .sum (.var 11)) (.o1 .len (.var 12))) (.o2 .ne (.call "is_true" [.var 1, .var 10]) (.o2 .eq (.var 11) (.var 10))))
          [
            .ret (.cst (.bl false))]
          [],
        .ifS (.o2 .ne (.var 12) (.o2 .add (.var 3) (.o2 .join (.cst (.str [])) (.comp .seq (.var 10) (.cst .non) (.cst .non) (.nm 17) (.o2 .item (.var 4) (.var 17)) none))))
          [
            .ret (.cst (.bl false))]
          []],
    .ret (.cst (.bl true))]⟩
def fn_all_in : Fn := ⟨["box"], ["box", "found", "low", "high", "longer", "counts", "number"], [4],
  [
    .asg (.nm 1) (.lst [.tup []]),
    .forS .seq (.var 0) (.cst .non) (.cst .non) (.p2 (.nm 2) (.nm 3))
      [
        .own 4 (.lst []),
        .forS .seq (.var 1) (.cst .non) (.cst .non) (.nm 5)
          [
            .ext 4 (.comp .range2 (.var 2) (.o2 .add (.var 3) (.cst (ni 1))) (.cst .non) (.nm 6) (.o2 .add (.var 5) (.tup [.var 6])) none)],
        .move 1 4],
    .ret (.var 1)]⟩
def fn_whole_box : Fn := ⟨["sheet"], ["sheet"], [],
  [
    .ret (.o2 .mul (.tup [.tup [.cst (ni 0), .o2 .sub (.o1 .len (.o2 .item (.var 0) (.cst (ni 2)))) (.cst (ni 1))]]) (.o2 .item (.var 0) (.cst (ni 0))))]⟩
def fn_truths : Fn := ⟨["sheet", "box"], ["sheet", "box", "counts"], [],
  [
    .ret (.o1 .tuple (.comp .seq (.call "all_in" [.var 1]) (.cst .non) (.cst .non) (.nm 2) (.var 2) (some (.call "is_true" [.var 0, .var 2]))))]⟩
def fn_bounds_of : Fn := ⟨["sheet", "box", "letter"], ["sheet", "box", "letter", "least", "most", "low", "high", "word", "some"], [],
  [
    .asg (.nm 3) (.o2 .count (.o2 .item (.var 0) (.cst (ni 1))) (.var 2)),
    .asg (.nm 4) (.var 3),
    .forS .seq (.var 1) (.cst .non) (.cst .non) (.p2 (.nm 5) (.nm 6))
      [
        .asg (.nm 8) (.comp .seq (.o3 .cut (.o2 .item (.var 0) (.cst (ni 2))) (.var 5) (.o2 .add (.var 6) (.cst (ni 1)))) (.cst .non) (.cst .non) (.nm 7) (.o2 .count (.var 7) (.var 2)) none),
        .asg (.nm 3) (.o2 .add (.var 3) (.o1 .min (.var 8))),
        .asg (.nm 4) (.o2 .add (.var 4) (.o1 .max (.var 8)))],
    .ret (.tup [.var 3, .var 4])]⟩
def fn_bounds : Fn := ⟨["sheet", "box"], ["sheet", "box", "letter"], [],
  [
    .ret (.o1 .tuple (.comp .seq (.o2 .upto (.glb "LETTERS" (.str [97,98,99,100])) (.o2 .item (.var 0) (.cst (ni 0)))) (.cst .non) (.cst .non) (.nm 2) (.call "bounds_of" [.var 0, .var 1, .var 2]) none))]⟩
def fn_law_box : Fn := ⟨["sheet", "number"], ["sheet", "number", "found", "k", "drawn", "low", "high"], [],
  [
    .asg (.nm 2) (.tup []),
    .forS .range1 (.o2 .item (.var 0) (.cst (ni 0))) (.cst .non) (.cst .non) (.nm 3)
      [
        .asg (.nm 4) (.o2 .fdiv (.call "_law_drawn" [.var 1, .o2 .add (.cst (ni 50)) (.var 3)]) (.cst (ni 4))),
        .asg (.nm 5) (.o2 .mod (.var 4) (.o1 .len (.o2 .item (.var 0) (.cst (ni 2))))),
        .asg (.nm 6) (.o2 .add (.var 5) (.o2 .mod (.o2 .fdiv (.var 4) (.cst (ni 16))) (.o2 .sub (.o1 .len (.o2 .item (.var 0) (.cst (ni 2)))) (.var 5)))),
        .ifS (.o2 .eq (.o2 .mod (.var 1) (.cst (ni 3))) (.cst (ni 0)))
          [
            .asg (.nm 5) (.cst (ni 0)),
            .asg (.nm 6) (.o2 .sub (.o1 .len (.o2 .item (.var 0) (.cst (ni 2)))) (.cst (ni 1)))]
          [],
        .asg (.nm 2) (.o2 .add (.var 2) (.tup [.tup [.var 5, .var 6]]))],
    .ret (.var 2)]⟩
def fn_law_bounds : Fn := ⟨["sheet", "box"], ["sheet", "box", "found", "letter", "least", "most", "low", "high", "k", "some"], [],
  [
    .asg (.nm 2) (.tup []),
    .forS .seq (.o2 .upto (.cst (.str [97,98,99])) (.o2 .item (.var 0) (.cst (ni 0)))) (.cst .non) (.cst .non) (.nm 3)
      [
        .asg (.nm 4) (.o2 .count (.o2 .item (.var 0) (.cst (ni 1))) (.var 3)),
        .asg (.nm 5) (.var 4),
        .forS .seq (.var 1) (.cst .non) (.cst .non) (.p2 (.nm 6) (.nm 7))
          [
            .asg (.nm 9) (.comp .range2 (.var 6) (.o2 .add (.var 7) (.cst (ni 1))) (.cst .non) (.nm 8) (.o2 .count (.o2 .item (.o2 .item (.var 0) (.cst (ni 2))) (.var 8)) (.var 3)) none),
            .asg (.nm 4) (.o2 .add (.var 4) (.o1 .min (.var 9))),
            .asg (.nm 5) (.o2 .add (.var 5) (.o1 .max (.var 9)))],
        .asg (.nm 2) (.o2 .add (.var 2) (.tup [.tup [.var 4, .var 5]]))],
    .ret (.var 2)]⟩
def fn_law_in : Fn := ⟨["box", "counts"], ["box", "counts", "number", "low", "high"], [],
  [
    .ret (.o2 .eq (.comp .zip2 (.var 0) (.var 1) (.cst .non) (.p2 (.p2 (.nm 3) (.nm 4)) (.nm 2)) (.cst (ni 1)) (some (.o1 .not (.chain .le .le (.var 3) (.var 2) (.var 4))))) (.lst []))]⟩
def fn_law_k20 : Fn := ⟨["script"], ["script", "sheet", "box", "some", "counts"], [],
  [
    .asg (.nm 1) (.call "_law_good_sheet" [.call "_law_mixed" [.var 0, .cst (ni 0)], .cst (ni 8)]),
    .asg (.nm 2) (.call "_law_box" [.var 1, .call "_law_mixed" [.var 0, .cst (ni 1)]]),
    .ifS (.or (.o2 .ne (.call "whole_box" [.var 1]) (.o2 .mul (.tup [.tup [.cst (ni 0), .o2 .sub (.o1 .len (.o2 .item (.var 1) (.cst (ni 2)))) (.cst (ni 1))]]) (.o2 .item (.var 1) (.cst (ni 0))))) (.o2 .ne (.call "bounds" [.var 1, .var 2]) (.call "_law_bounds" [.var 1, .var 2])))
      [
        .ret (.cst (.bl false))]
      [],
    .asg (.nm 3) (.call "_law_truths" [.var 1]),
    .ifS (.o2 .ne (.call "truths" [.var 1, .call "whole_box" [.var 1]]) (.o1 .tuple (.var 3)))
      [
        .ret (.cst (.bl false))]
      [],
    .ret (.o2 .eq (.call "truths" [.var 1, .var 2]) (.o1 .tuple (.comp .seq (.var 3) (.cst .non) (.cst .non) (.nm 4) (.var 4) (some (.call "_law_in" [.var 2, .var 4])))))]⟩
def fn_is_apart : Fn := ⟨["sheet", "box", "k"], ["sheet", "box", "k", "least", "most"], [],
  [
    .asg (.p2 (.nm 3) (.nm 4)) (.o2 .item (.call "bounds" [.var 0, .var 1]) (.var 2)),
    .ret (.or (.o2 .lt (.var 4) (.o2 .item (.o2 .item (.var 1) (.var 2)) (.cst (ni 0)))) (.o2 .gt (.var 3) (.o2 .item (.o2 .item (.var 1) (.var 2)) (.cst (ni 1)))))]⟩
def fn_with_pair : Fn := ⟨["box", "k", "pair"], ["box", "k", "pair"], [],
  [
    .ret (.o2 .add (.o2 .add (.o2 .upto (.var 0) (.var 1)) (.tup [.var 2])) (.o2 .from_ (.var 0) (.o2 .add (.var 1) (.cst (ni 1)))))]⟩
def fn_is_paper : Fn := ⟨["sheet", "box", "thing"], ["sheet", "box", "thing", "k", "low", "high"], [],
  [
    .ifS (.or (.o1 .not (.o1 .isTuple (.var 2))) (.or (.o2 .notin (.o1 .len (.var 2)) (.tup [.cst (ni 2), .cst (ni 5)])) (.o1 .not (.o1 .isStr (.o2 .item (.var 2) (.cst (ni 0)))))))
      [
        .ret (.cst (.bl false))]
      [],
    .ifS (.o1 .not (.call "is_whole" [.o2 .item (.var 2) (.cst (ni 1)), .cst (ni 0), .o2 .sub (.o2 .item (.var 0) (.cst (ni 0))) (.cst (ni 1))]))
      [
        .ret (.cst (.bl false))]
      [],
    .asg (.nm 3) (.o2 .item (.var 2) (.cst (ni 1))),
    .ifS (.o2 .eq (.o1 .len (.var 2)) (.cst (ni 2)))
      [
        .ret (.and (.o2 .eq (.o2 .item (.var 2) (.cst (ni 0))) (.cst (.str [97,112,97,114,116]))) (.call "is_apart" [.var 0, .var 1, .var 3]))]
      [],
    .asg (.p2 (.nm 4) (.nm 5)) (.o2 .item (.var 1) (.var 3)),
    .ifS (.or (.o2 .ne (.o2 .item (.var 2) (.cst (ni 0))) (.cst (.str [99,117,116]))) (.o1 .not (.call "is_whole" [.o2 .item (.var 2) (.cst (ni 2)), .var 4, .o2 .sub (.var 5) (.cst (ni 1))])))
      [
        .ret (.cst (.bl false))]
      [],
    .ifS (.o1 .not (.call "is_paper" [.var 0, .call "with_pair" [.var 1, .var 3, .tup [.var 4, .o2 .item (.var 2) (.cst (ni 2))]], .o2 .item (.var 2) (.cst (ni 3))]))
      [
        .ret (.cst (.bl false))]
      [],
    .ret (.call "is_paper" [.var 0, .call "with_pair" [.var 1, .var 3, .tup [.o2 .add (.o2 .item (.var 2) (.cst (ni 2))) (.cst (ni 1)), .var 5]], .o2 .item (.var 2) (.cst (ni 4))])]⟩
def fn_widest : Fn := ⟨["box"], ["box", "k", "low", "high"], [],
  [
    .ret (.o2 .mul (.o2 .item (.o1 .max (.comp .enum (.var 0) (.cst .non) (.cst .non) (.p2 (.nm 1) (.p2 (.nm 2) (.nm 3))) (.tup [.o2 .sub (.var 3) (.var 2), .o2 .sub (.cst (ni 0)) (.var 1)]) none)) (.cst (ni 1))) (.o2 .sub (.cst (ni 0)) (.cst (ni 1))))]⟩
def fn_paper : Fn := ⟨["sheet", "box"], ["sheet", "box", "k", "low", "high", "at", "first", "second"], [],
  [
    .forS .range1 (.o2 .item (.var 0) (.cst (ni 0))) (.cst .non) (.cst .non) (.nm 2)
      [
        .ifS (.call "is_apart" [.var 0, .var 1, .var 2])
          [
            .ret (.tup [.cst (.str [97,112,97,114,116]), .var 2])]
          []],
    .asg (.nm 2) (.call "widest" [.var 1]),
    .asg (.p2 (.nm 3) (.nm 4)) (.o2 .item (.var 1) (.var 2)),
    .ifS (.o2 .eq (.var 3) (.var 4))
      [
        .ret (.cst .non)]
      [],
    .asg (.nm 5) (.o2 .fdiv (.o2 .add (.var 3) (.var 4)) (.cst (ni 2))),
    .asg (.nm 6) (.call "paper" [.var 0, .call "with_pair" [.var 1, .var 2, .tup [.var 3, .var 5]]]),
    .asg (.nm 7) (.call "paper" [.var 0, .call "with_pair" [.var 1, .var 2, .tup [.o2 .add (.var 5) (.cst (ni 1)), .var 4]]]),
    .ifS (.or (.o1 .isNone (.var 6)) (.o1 .isNone (.var 7)))
      [
        .ret (.cst .non)]
      [],
    .ret (.tup [.cst (.str [99,117,116]), .var 2, .var 5, .var 6, .var 7])]⟩
def fn_law_number : Fn := ⟨["thing", "low", "high"], ["thing", "low", "high"], [],
  [
    .ret (.and (.o1 .isInt (.var 0)) (.and (.o1 .not (.o1 .isBool (.var 0))) (.chain .le .le (.var 1) (.var 0) (.var 2))))]⟩
def fn_law_is_paper : Fn := ⟨["sheet", "box", "thing"], ["sheet", "box", "thing", "k", "low", "high", "least", "most", "pair", "part"], [],
  [
    .ifS (.or (.o1 .not (.o1 .isTuple (.var 2))) (.or (.o2 .lt (.o1 .len (.var 2)) (.cst (ni 2))) (.o1 .not (.call "_law_number" [.o2 .item (.var 2) (.cst (ni 1)), .cst (ni 0), .o2 .sub (.o2 .item (.var 0) (.cst (ni 0))) (.cst (ni 1))]))))
      [
        .ret (.cst (.bl false))]
      [],
    .asg (.nm 3) (.o2 .item (.var 2) (.cst (ni 1))),
    .asg (.p2 (.nm 4) (.nm 5)) (.o2 .item (.var 1) (.var 3)),
    .ifS (.and (.o2 .eq (.o2 .item (.var 2) (.cst (ni 0))) (.cst (.str [97,112,97,114,116]))) (.o2 .eq (.o1 .len (.var 2)) (.cst (ni 2))))
      [
        .asg (.p2 (.nm 6) (.nm 7)) (.o2 .item (.call "_law_bounds" [.var 0, .var 1]) (.var 3)),
        .ret (.or (.o2 .gt (.var 6) (.var 5)) (.o2 .lt (.var 7) (.var 4)))]
      [],
    .ifS (.or (.o2 .ne (.o2 .item (.var 2) (.cst (ni 0))) (.cst (.str [99,117,116]))) (.or (.o2 .ne (.o1 .len (.var 2)) (.cst (ni 5))) (.o1 .not (.call "_law_number" [.o2 .item (.var 2) (.cst (ni 2)), .var 4, .o2 .sub (.var 5) (.cst (ni 1))]))))
      [
        .ret (.cst (.bl false))]
      [],
    .forS .seq (.tup [.tup [.tup [.var 4, .o2 .item (.var 2) (.cst (ni 2))], .o2 .item (.var 2) (.cst (ni 3))], .tup [.tup [.o2 .add (.o2 .item (.var 2) (.cst (ni 2))) (.cst (ni 1)), .var 5], .o2 .item (.var 2) (.cst (ni 4))]]) (.cst .non) (.cst .non) (.p2 (.nm 8) (.nm 9))
      [
        .ifS (.o1 .not (.call "_law_is_paper" [.var 0, .o2 .add (.o2 .add (.o2 .upto (.var 1) (.var 3)) (.tup [.var 8])) (.o2 .from_ (.var 1) (.o2 .add (.var 3) (.cst (ni 1)))), .var 9]))
          [
            .ret (.cst (.bl false))]
          []],
    .ret (.cst (.bl true))]⟩
def fn_law_k21 : Fn := ⟨["script"], ["script", "sheet", "box", "some", "thing", "counts", "there", "number", "least", "most", "k", "low", "high", "at", "first", "second"], [],
  [
    .asg (.nm 1) (.call "_law_good_sheet" [.call "_law_mixed" [.var 0, .cst (ni 0)], .cst (ni 8)]),
    .asg (.nm 2) (.call "_law_box" [.var 1, .call "_law_mixed" [.var 0, .cst (ni 1)]]),
    .asg (.nm 3) (.call "truths" [.var 1, .var 2]),
    .asg (.nm 4) (.call "paper" [.var 1, .var 2]),
    .ifS (.o2 .ne (.o2 .eq (.var 3) (.tup [])) (.o1 .notNone (.var 4)))
      [
        .ret (.cst (.bl false))]
      [],
    .ifS (.and (.o1 .notNone (.var 4)) (.o1 .not (.call "_law_is_paper" [.var 1, .var 2, .var 4])))
      [
        .ret (.cst (.bl false))]
      [],
    .ifS (.and (.o1 .notNone (.var 4)) (.o1 .notTrue (.call "is_paper" [.var 1, .var 2, .var 4])))
      [
        .ret (.cst (.bl false))]
      [],
    .forS .seq (.var 3) (.cst .non) (.cst .non) (.nm 5)
      [
        .ifS (.or (.o1 .notTrue (.call "is_true" [.var 1, .var 5])) (.or (.o2 .ne (.call "_law_real" [.var 1, .var 5]) (.var 5)) (.o1 .not (.call "_law_in" [.var 2, .var 5]))))
          [
            .ret (.cst (.bl false))]
          []],
    .forS .seq (.comp .seq (.call "_law_all" [.var 1]) (.cst .non) (.cst .non) (.nm 5) (.var 5) (some (.call "_law_in" [.var 2, .var 5]))) (.cst .non) (.cst .non) (.nm 5)
      [
        .asg (.nm 6) (.call "real" [.var 1, .var 5]),
        .forS .zip2 (.var 6) (.call "bounds" [.var 1, .var 2]) (.cst .non) (.p2 (.nm 7) (.p2 (.nm 8) (.nm 9)))
          [
            .ifS (.o1 .not (.chain .le .le (.var 8) (.var 7) (.var 9)))
              [
                .ret (.cst (.bl false))]
              []],
        .ifS (.o2 .ne (.o2 .isin (.var 5) (.var 3)) (.o2 .eq (.var 6) (.var 5)))
          [
            .ret (.cst (.bl false))]
          []],
    .asg (.nm 10) (.o2 .mod (.call "_law_mixed" [.var 0, .cst (ni 2)]) (.o2 .item (.var 1) (.cst (ni 0)))),
    .asg (.p2 (.nm 11) (.nm 12)) (.o2 .item (.var 2) (.var 10)),
    .ifS (.o2 .eq (.var 11) (.var 12))
      [
        .ret (.cst (.bl true))]
      [],
    .asg (.nm 13) (.o2 .add (.var 11) (.o2 .mod (.call "_law_mixed" [.var 0, .cst (ni 3)]) (.o2 .sub (.var 12) (.var 11)))),
    .asg (.nm 14) (.call "truths" [.var 1, .o2 .add (.o2 .add (.o2 .upto (.var 2) (.var 10)) (.tup [.tup [.var 11, .var 13]])) (.o2 .from_ (.var 2) (.o2 .add (.var 10) (.cst (ni 1))))]),
    .asg (.nm 15) (.call "truths" [.var 1, .o2 .add (.o2 .add (.o2 .upto (.var 2) (.var 10)) (.tup [.tup [.o2 .add (.var 13) (.cst (ni 1)), .var 12]])) (.o2 .from_ (.var 2) (.o2 .add (.var 10) (.cst (ni 1))))]),
    .ret (.o2 .eq (.o1 .sorted (.o2 .add (.var 14) (.var 15))) (.o1 .list (.var 3)))]⟩
def fn_law_drawn_paper : Fn := ⟨["sheet", "box", "number", "deep"], ["sheet", "box", "number", "deep", "k", "low", "high", "at", "parts", "pair", "n", "less"], [8],
  [
    .asg (.nm 4) (.o2 .mod (.o2 .fdiv (.var 2) (.cst (ni 4))) (.o2 .item (.var 0) (.cst (ni 0)))),
    .asg (.p2 (.nm 5) (.nm 6)) (.o2 .item (.var 1) (.var 4)),
    .ifS (.or (.o2 .eq (.var 3) (.cst (ni 0))) (.or (.o2 .eq (.var 5) (.var 6)) (.o2 .eq (.o2 .mod (.var 2) (.cst (ni 4))) (.cst (ni 0)))))
      [
        .ret (.tup [.cst (.str [97,112,97,114,116]), .var 4])]
      [],
    .asg (.nm 7) (.o2 .add (.var 5) (.o2 .mod (.o2 .fdiv (.var 2) (.cst (ni 16))) (.o2 .sub (.var 6) (.var 5)))),
    .own 8 (.lst []),
    .forS .seq (.tup [.tup [.tup [.var 5, .var 7], .cst (ni 1)], .tup [.tup [.o2 .add (.var 7) (.cst (ni 1)), .var 6], .cst (ni 2)]]) (.cst .non) (.cst .non) (.p2 (.nm 9) (.nm 10))
      [
        .asg (.nm 11) (.o2 .add (.o2 .add (.o2 .upto (.var 1) (.var 4)) (.tup [.var 9])) (.o2 .from_ (.var 1) (.o2 .add (.var 4) (.cst (ni 1))))),
        .app 8 (.call "_law_drawn_paper" [.var 0, .var 11, .o2 .fdiv (.call "_law_drawn" [.var 2, .var 10]) (.cst (ni 4)), .o2 .sub (.var 3) (.cst (ni 1))])],
    .ret (.tup [.cst (.str [99,117,116]), .var 4, .var 7, .o2 .item (.var 8) (.cst (ni 0)), .o2 .item (.var 8) (.cst (ni 1))])]⟩
def fn_law_spoilt_k22 : Fn := ⟨["thing", "number", "deep"], ["thing", "number", "deep", "at", "part", "some"], [5],
  [
    .ifS (.and (.o2 .gt (.var 2) (.cst (ni 0))) (.and (.o2 .eq (.o1 .len (.var 0)) (.cst (ni 5))) (.o2 .gt (.o2 .mod (.var 1) (.cst (ni 4))) (.cst (ni 0)))))
      [
        .asg (.nm 3) (.o2 .add (.cst (ni 3)) (.o2 .mod (.o2 .fdiv (.var 1) (.cst (ni 4))) (.cst (ni 2)))),
        .asg (.nm 4) (.call "_law_spoilt" [.o2 .item (.var 0) (.var 3), .o2 .fdiv (.call "_law_drawn" [.var 1, .var 2]) (.cst (ni 4)), .o2 .sub (.var 2) (.cst (ni 1))]),
        .ret (.o2 .add (.o2 .add (.o2 .upto (.var 0) (.var 3)) (.tup [.var 4])) (.o2 .from_ (.var 0) (.o2 .add (.var 3) (.cst (ni 1)))))]
      [],
    .own 5 (.lst [.cst .non, .tup [], .o1 .list (.var 0), .o2 .upto (.var 0) (.o1 .neg (.cst (ni 1))), .o2 .add (.var 0) (.o2 .from_ (.var 0) (.o1 .neg (.cst (ni 1)))), .tup [.cst (.str [97,112,97,114,116]), .cst (ni 0)], .tup [.cst (.str [97,112,97,114,116]), .cst (ni 1)], .tup [.cst (.str [97,112,97,114,116]), .cst (.bl true)]]),
    .app 5 (.tup [.cst (.str [97,112,97,114,116]), .o1 .neg (.cst (ni 1))]),
    .own 5 (.o2 .add (.var 5) (.lst [.tup [.cst (.str [97,112,97,114,116]), .cst (ni 9)], .tup [.cst (.str [99,117,116]), .cst (ni 0), .cst (ni 0)], .o1 .rev (.var 0), .o2 .add (.tup [.o2 .item (.var 0) (.cst (ni 0)), .o2 .add (.o2 .item (.var 0) (.cst (ni 1))) (.cst (ni 1))]) (.o2 .from_ (.var 0) (.cst (ni 2))), .o2 .add (.tup [.cst (ni 1)]) (.o2 .from_ (.var 0) (.cst (ni 1)))])),
    .own 5 (.o2 .add (.var 5) (.lst [.o2 .add (.tup [.cst (.str [103,111,110,101])]) (.o2 .from_ (.var 0) (.cst (ni 1))), .o2 .add (.o2 .add (.o2 .upto (.var 0) (.cst (ni 1))) (.tup [.cst .non])) (.o2 .from_ (.var 0) (.cst (ni 2))), .o2 .add (.o2 .add (.o2 .upto (.var 0) (.cst (ni 2))) (.tup [.cst (ni 0)])) (.o2 .from_ (.var 0) (.cst (ni 3))), .o2 .upto (.var 0) (.cst (ni 2))])),
    .ret (.o2 .item (.o2 .add (.var 5) (.lst [.o2 .add (.o2 .add (.o2 .upto (.var 0) (.cst (ni 2))) (.tup [.cst (.bl true)])) (.o2 .from_ (.var 0) (.cst (ni 3))), .tup [.cst (.str [99,117,116]), .cst (ni 0), .cst (ni 0), .tup [.cst (.str [97,112,97,114,116]), .cst (ni 0)], .tup [.cst (.str [97,112,97,114,116]), .cst (ni 0)]]])) (.o2 .mod (.o2 .fdiv (.var 1) (.cst (ni 16))) (.cst (ni 20))))]⟩
def fn_law_k22 : Fn := ⟨["script"], ["script", "sheet", "box", "thing", "things", "one", "found"], [4],
  [
    .asg (.nm 1) (.call "_law_good_sheet" [.call "_law_mixed" [.var 0, .cst (ni 0)], .cst (ni 8)]),
    .asg (.nm 2) (.call "_law_box" [.var 1, .call "_law_mixed" [.var 0, .cst (ni 1)]]),
    .asg (.nm 3) (.call "paper" [.var 1, .var 2]),
    .ifS (.o1 .isNone (.var 3))
      [
        .asg (.nm 3) (.call "_law_drawn_paper" [.var 1, .var 2, .call "_law_mixed" [.var 0, .cst (ni 2)], .cst (ni 3)])]
      [],
    .own 4 (.lst [.var 3, .call "_law_drawn_paper" [.var 1, .var 2, .call "_law_mixed" [.var 0, .cst (ni 3)], .cst (ni 2)]]),
    .app 4 (.call "_law_spoilt" [.var 3, .call "_law_mixed" [.var 0, .cst (ni 4)], .cst (ni 4)]),
    .forM 4 (.nm 5)
      [
        .asg (.nm 6) (.call "is_paper" [.var 1, .var 2, .var 5]),
        .ifS (.or (.o1 .not (.o1 .isBool (.var 6))) (.o2 .ne (.var 6) (.call "_law_is_paper" [.var 1, .var 2, .var 5])))
          [
            .ret (.cst (.bl false))]
          []],
    .ret (.cst (.bl true))]⟩
def fn_law_inner : Fn := ⟨["box", "number"], ["box", "number", "inner", "k", "low", "high", "drawn", "first"], [],
  [
    .asg (.nm 2) (.tup []),
    .forS .enum (.var 0) (.cst .non) (.cst .non) (.p2 (.nm 3) (.p2 (.nm 4) (.nm 5)))
      [
        .asg (.nm 6) (.o2 .fdiv (.call "_law_drawn" [.var 1, .var 3]) (.cst (ni 4))),
        .asg (.nm 7) (.o2 .add (.var 4) (.o2 .mod (.var 6) (.o2 .add (.o2 .sub (.var 5) (.var 4)) (.cst (ni 1))))),
        .asg (.nm 2) (.o2 .add (.var 2) (.tup [.tup [.var 7, .o2 .add (.var 7) (.o2 .mod (.o2 .fdiv (.var 6) (.cst (ni 16))) (.o2 .add (.o2 .sub (.var 5) (.var 7)) (.cst (ni 1))))]]))],
    .ret (.var 2)]⟩
def fn_law_k23 : Fn := ⟨["script"], ["script", "sheet", "box", "some", "inner", "counts", "one", "other", "k", "low", "high", "at", "first", "second", "both", "number"], [],
  [
    .asg (.nm 1) (.call "_law_good_sheet" [.call "_law_mixed" [.var 0, .cst (ni 0)], .cst (ni 6)]),
    .asg (.nm 2) (.call "_law_box" [.var 1, .call "_law_mixed" [.var 0, .cst (ni 1)]]),
    .asg (.nm 3) (.call "truths" [.var 1, .var 2]),
    .asg (.nm 4) (.call "_law_inner" [.var 2, .call "_law_mixed" [.var 0, .cst (ni 2)]]),
    .ifS (.o2 .ne (.call "truths" [.var 1, .var 4]) (.o1 .tuple (.comp .seq (.var 3) (.cst .non) (.cst .non) (.nm 5) (.var 5) (some (.call "_law_in" [.var 4, .var 5])))))
      [
        .ret (.cst (.bl false))]
      [],
    .ifS (.o2 .ne (.var 3) (.o1 .tuple (.comp .seq (.call "truths" [.var 1, .call "whole_box" [.var 1]]) (.cst .non) (.cst .non) (.nm 5) (.var 5) (some (.call "_law_in" [.var 2, .var 5])))))
      [
        .ret (.cst (.bl false))]
      [],
    .forS .zip2 (.call "bounds" [.var 1, .var 4]) (.call "bounds" [.var 1, .var 2]) (.cst .non) (.p2 (.nm 6) (.nm 7))
      [
        .ifS (.or (.o2 .lt (.o2 .item (.var 6) (.cst (ni 0))) (.o2 .item (.var 7) (.cst (ni 0)))) (.or (.o2 .gt (.o2 .item (.var 6) (.cst (ni 1))) (.o2 .item (.var 7) (.cst (ni 1)))) (.o2 .gt (.o2 .item (.var 6) (.cst (ni 0))) (.o2 .item (.var 6) (.cst (ni 1))))))
          [
            .ret (.cst (.bl false))]
          []],
    .asg (.nm 8) (.o2 .mod (.call "_law_mixed" [.var 0, .cst (ni 3)]) (.o2 .item (.var 1) (.cst (ni 0)))),
    .asg (.p2 (.nm 9) (.nm 10)) (.o2 .item (.var 2) (.var 8)),
    .ifS (.o2 .lt (.var 9) (.var 10))
      [
        .asg (.nm 11) (.o2 .add (.var 9) (.o2 .mod (.call "_law_mixed" [.var 0, .cst (ni 4)]) (.o2 .sub (.var 10) (.var 9)))),
        .asg (.nm 12) (.o2 .add (.o2 .add (.o2 .upto (.var 2) (.var 8)) (.tup [.tup [.var 9, .var 11]])) (.o2 .from_ (.var 2) (.o2 .add (.var 8) (.cst (ni 1))))),
        .asg (.nm 13) (.o2 .add (.o2 .add (.o2 .upto (.var 2) (.var 8)) (.tup [.tup [.o2 .add (.var 11) (.cst (ni 1)), .var 10]])) (.o2 .from_ (.var 2) (.o2 .add (.var 8) (.cst (ni 1))))),
        .ifS (.o2 .ne (.o1 .tuple (.o1 .sorted (.o2 .add (.call "truths" [.var 1, .var 12]) (.call "truths" [.var 1, .var 13])))) (.var 3))
          [
            .ret (.cst (.bl false))]
          [],
        .asg (.nm 14) (.tup [.call "paper" [.var 1, .var 12], .call "paper" [.var 1, .var 13]]),
        .ifS (.o2 .ne (.o2 .isin (.cst .non) (.var 14)) (.o2 .ne (.var 3) (.tup [])))
          [
            .ret (.cst (.bl false))]
          [],
        .ifS (.and (.o2 .eq (.var 3) (.tup [])) (.o1 .notTrue (.call "is_paper" [.var 1, .var 2, .o2 .add (.tup [.cst (.str [99,117,116]), .var 8, .var 11]) (.var 14)])))
          [
            .ret (.cst (.bl false))]
          []]
      [],
    .forS .range1 (.o2 .item (.var 1) (.cst (ni 0))) (.cst .non) (.cst .non) (.nm 8)
      [
        .ifS (.and (.call "is_paper" [.var 1, .var 2, .tup [.cst (.str [97,112,97,114,116]), .var 8]]) (.o1 .notTrue (.call "is_paper" [.var 1, .var 4, .tup [.cst (.str [97,112,97,114,116]), .var 8]])))
          [
            .ret (.cst (.bl false))]
          []],
    .forS .seq (.var 3) (.cst .non) (.cst .non) (.nm 5)
      [
        .ifS (.o1 .notNone (.call "paper" [.var 1, .o1 .tuple (.comp .seq (.var 5) (.cst .non) (.cst .non) (.nm 15) (.tup [.var 15, .var 15]) none)]))
          [
            .ret (.cst (.bl false))]
          []],
    .ret (.o2 .eq (.o1 .isNone (.call "paper" [.var 1, .var 2])) (.o2 .ne (.var 3) (.tup [])))]⟩
def fn_law_halves : Fn := ⟨["box", "k", "at"], ["box", "k", "at", "low", "high"], [],
  [
    .asg (.p2 (.nm 3) (.nm 4)) (.o2 .item (.var 0) (.var 1)),
    .ret (.tup [.o2 .add (.o2 .add (.o2 .upto (.var 0) (.var 1)) (.tup [.tup [.var 3, .var 2]])) (.o2 .from_ (.var 0) (.o2 .add (.var 1) (.cst (ni 1)))), .o2 .add (.o2 .add (.o2 .upto (.var 0) (.var 1)) (.tup [.tup [.o2 .add (.var 2) (.cst (ni 1)), .var 4]])) (.o2 .from_ (.var 0) (.o2 .add (.var 1) (.cst (ni 1))))])]⟩
def fn_law_cut_well : Fn := ⟨["sheet", "box", "told", "number", "other_number"], ["sheet", "box", "told", "number", "other_number", "k", "low", "high", "at", "one", "other", "here", "there", "cut", "pair", "first", "last"], [],
  [
    .asg (.nm 5) (.o2 .mod (.var 3) (.o2 .item (.var 0) (.cst (ni 0)))),
    .asg (.p2 (.nm 6) (.nm 7)) (.o2 .item (.var 1) (.var 5)),
    .ifS (.o2 .eq (.var 6) (.var 7))
      [
        .ret (.cst (.bl true))]
      [],
    .asg (.nm 8) (.o2 .add (.var 6) (.o2 .mod (.var 4) (.o2 .sub (.var 7) (.var 6)))),
    .asg (.p2 (.nm 9) (.nm 10)) (.call "_law_halves" [.var 1, .var 5, .var 8]),
    .asg (.p2 (.nm 11) (.nm 12)) (.tup [.call "paper" [.var 0, .var 9], .call "paper" [.var 0, .var 10]]),
    .ifS (.o2 .ne (.o1 .notNone (.var 2)) (.and (.o1 .notNone (.var 11)) (.o1 .notNone (.var 12))))
      [
        .ret (.cst (.bl false))]
      [],
    .ifS (.o2 .ne (.o1 .tuple (.o1 .sorted (.o2 .add (.call "truths" [.var 0, .var 9]) (.call "truths" [.var 0, .var 10])))) (.call "truths" [.var 0, .var 1]))
      [
        .ret (.cst (.bl false))]
      [],
    .asg (.nm 13) (.tup [.cst (.str [99,117,116]), .var 5, .var 8, .var 11, .var 12]),
    .ifS (.o2 .ne (.call "is_paper" [.var 0, .var 1, .var 13]) (.and (.o1 .notNone (.var 11)) (.o1 .notNone (.var 12))))
      [
        .ret (.cst (.bl false))]
      [],
    .forS .zip2 (.call "bounds" [.var 0, .var 9]) (.call "bounds" [.var 0, .var 1]) (.cst .non) (.p2 (.p2 (.nm 15) (.nm 16)) (.nm 14))
      [
        .ifS (.or (.o2 .lt (.var 15) (.o2 .item (.var 14) (.cst (ni 0)))) (.o2 .gt (.var 16) (.o2 .item (.var 14) (.cst (ni 1)))))
          [
            .ret (.cst (.bl false))]
          []],
    .ret (.cst (.bl true))]⟩
def fn_law_k24 : Fn := ⟨["script"], ["script", "sheet", "box", "told", "found", "counts", "every", "n", "number", "alone", "place"], [],
  [
    .asg (.nm 1) (.call "_law_good_sheet" [.call "_law_mixed" [.var 0, .cst (ni 0)], .cst (ni 6)]),
    .asg (.nm 2) (.call "_law_box" [.var 1, .call "_law_mixed" [.var 0, .cst (ni 1)]]),
    .asg (.p2 (.nm 3) (.nm 4)) (.tup [.call "paper" [.var 1, .var 2], .call "truths" [.var 1, .var 2]]),
    .ifS (.or (.o2 .ne (.o1 .isNone (.var 3)) (.o2 .ne (.var 4) (.tup []))) (.and (.o1 .notNone (.var 3)) (.o1 .notTrue (.call "is_paper" [.var 1, .var 2, .var 3]))))
      [
        .ret (.cst (.bl false))]
      [],
    .ifS (.o2 .ne (.comp .seq (.var 4) (.cst .non) (.cst .non) (.nm 5) (.var 5) (some (.or (.o1 .not (.call "is_true" [.var 1, .var 5])) (.o1 .not (.call "_law_in" [.var 2, .var 5]))))) (.lst []))
      [
        .ret (.cst (.bl false))]
      [],
    .ifS (.o1 .not (.call "_law_cut_well" [.var 1, .var 2, .var 3, .call "_law_mixed" [.var 0, .cst (ni 2)], .call "_law_mixed" [.var 0, .cst (ni 3)]]))
      [
        .ret (.cst (.bl false))]
      [],
    .asg (.nm 6) (.call "_law_all" [.var 1]),
    .forS .range1 (.cst (ni 4)) (.cst .non) (.cst .non) (.nm 7)
      [
        .asg (.nm 5) (.o2 .item (.var 6) (.o2 .mod (.call "_law_mixed" [.var 0, .o2 .add (.cst (ni 4)) (.var 7)]) (.o1 .len (.var 6)))),
        .asg (.nm 9) (.o1 .tuple (.comp .seq (.var 5) (.cst .non) (.cst .non) (.nm 8) (.tup [.var 8, .var 8]) none)),
        .ifS (.o2 .ne (.call "bounds" [.var 1, .var 9]) (.o1 .tuple (.comp .seq (.call "real" [.var 1, .var 5]) (.cst .non) (.cst .non) (.nm 8) (.tup [.var 8, .var 8]) none)))
          [
            .ret (.cst (.bl false))]
          [],
        .ifS (.o2 .ne (.call "truths" [.var 1, .var 9]) (.o2 .mul (.tup [.var 5]) (.o1 .int (.call "is_true" [.var 1, .var 5]))))
          [
            .ret (.cst (.bl false))]
          [],
        .forS .range1 (.o2 .item (.var 1) (.cst (ni 0))) (.cst .non) (.cst .non) (.nm 10)
          [
            .ifS (.o2 .ne (.call "is_paper" [.var 1, .var 9, .tup [.cst (.str [97,112,97,114,116]), .var 10]]) (.o2 .ne (.o2 .item (.call "real" [.var 1, .var 5]) (.var 10)) (.o2 .item (.var 5) (.var 10))))
              [
                .ret (.cst (.bl false))]
              []]],
    .ret (.o2 .eq (.call "truths" [.var 1, .call "whole_box" [.var 1]]) (.o1 .tuple (.comp .seq (.var 6) (.cst .non) (.cst .non) (.nm 5) (.var 5) (some (.call "is_true" [.var 1, .var 5])))))]⟩
def fn_law_once_k29 : Fn := ⟨["script"], ["script", "sheet", "box", "thing", "things", "one", "found"], [4],
  [
    .asg (.nm 1) (.call "_law_good_sheet" [.call "_law_mixed" [.var 0, .cst (ni 0)], .cst (ni 8)]),
    .asg (.nm 2) (.call "_law_box" [.var 1, .call "_law_mixed" [.var 0, .cst (ni 1)]]),
    .asg (.nm 3) (.call "paper" [.var 1, .var 2]),
    .ifS (.o1 .isNone (.var 3))
      [
        .asg (.nm 3) (.call "_law_drawn_paper" [.var 1, .var 2, .call "_law_mixed" [.var 0, .cst (ni 2)], .cst (ni 3)])]
      [],
    .own 4 (.lst [.var 3, .call "_law_drawn_paper" [.var 1, .var 2, .call "_law_mixed" [.var 0, .cst (ni 3)], .cst (ni 2)]]),
    .app 4 (.call "_law_spoilt" [.var 3, .call "_law_mixed" [.var 0, .cst (ni 4)], .cst (ni 4)]),
    .forM 4 (.nm 5)
      [
        .asg (.nm 6) (.call "is_paper" [.var 1, .var 2, .var 5]),
        .ifS (.or (.o1 .not (.o1 .isBool (.var 6))) (.o2 .ne (.var 6) (.call "_law_is_paper" [.var 1, .var 2, .var 5])))
          [
            .ret (.cst (.bl false))]
          []],
    .ret (.cst (.bl true))]⟩
def fn_law_k29 : Fn := ⟨["script"], ["script", "bent_turn", "bent_cell"], [],
  [
    .forS .range1 (.cst (ni 8)) (.cst .non) (.cst .non) (.nm 1)
      [
        .ifS (.o1 .not (.call "_law_once" [.o2 .add (.comp .seq (.var 0) (.cst .non) (.cst .non) (.nm 2) (.o2 .add (.var 2) (.o2 .mul (.cst (ni 104729)) (.var 1))) none) (.lst [.var 1])]))
          [
            .ret (.cst (.bl false))]
          []],
    .ret (.cst (.bl true))]⟩
def fn_all_counts : Fn := ⟨["sheet"], ["sheet"], [],
  [
    .ret (.call "all_in" [.call "whole_box" [.var 0]])]⟩
def fn_led : Fn := ⟨["sheet", "counts"], ["sheet", "counts", "found"], [2],
  [
    .own 2 (.lst []),
    .whl 16777300 (.o2 .notin (.var 1) (.var 2))
      [
        .app 2 (.var 1),
        .ifS (.o1 .not (.call "have_words" [.var 0, .var 1]))
          [
            .ret (.tup [.o1 .tuple (.var 2), .cst .non])]
          [],
        .asg (.nm 1) (.call "real" [.var 0, .var 1])],
    .ret (.tup [.o1 .tuple (.var 2), .o2 .index (.var 2) (.var 1)])]⟩
def fn_end : Fn := ⟨["sheet", "counts"], ["sheet", "counts", "some", "place"], [],
  [
    .asg (.p2 (.nm 2) (.nm 3)) (.call "led" [.var 0, .var 1]),
    .ifS (.o1 .isNone (.var 3))
      [
        .ret (.cst (.str [111,117,116]))]
      [],
    .ifS (.o2 .eq (.var 3) (.o2 .sub (.o1 .len (.var 2)) (.cst (ni 1))))
      [
        .ret (.cst (.str [114,101,115,116]))]
      [],
    .ret (.cst (.str [114,111,117,110,100]))]⟩
def fn_round_from : Fn := ⟨["sheet", "counts"], ["sheet", "counts", "some", "place", "found", "at"], [],
  [
    .asg (.p2 (.nm 2) (.nm 3)) (.call "led" [.var 0, .var 1]),
    .ifS (.o1 .isNone (.var 3))
      [
        .ret (.cst .non)]
      [],
    .asg (.nm 4) (.o2 .from_ (.var 2) (.var 3)),
    .asg (.nm 5) (.o2 .index (.var 4) (.o1 .min (.var 4))),
    .ret (.o2 .add (.o2 .from_ (.var 4) (.var 5)) (.o2 .upto (.var 4) (.var 5)))]⟩
def fn_rounds : Fn := ⟨["sheet"], ["sheet", "counts", "some", "one"], [],
  [
    .asg (.nm 2) (.comp .seq (.call "all_counts" [.var 0]) (.cst .non) (.cst .non) (.nm 1) (.call "round_from" [.var 0, .var 1]) none),
    .ret (.o1 .tuple (.o1 .sset (.comp .seq (.var 2) (.cst .non) (.cst .non) (.nm 3) (.var 3) (some (.o1 .notNone (.var 3))))))]⟩
def fn_leading : Fn := ⟨["sheet", "counts"], ["sheet", "counts", "other"], [],
  [
    .ret (.o1 .tuple (.comp .seq (.call "all_counts" [.var 0]) (.cst .non) (.cst .non) (.nm 2) (.var 2) (some (.o2 .eq (.call "real" [.var 0, .var 2]) (.var 1)))))]⟩
def fn_drawn_in : Fn := ⟨["sheet", "its"], ["sheet", "its", "counts"], [],
  [
    .ret (.o1 .len (.comp .seq (.call "all_counts" [.var 0]) (.cst .non) (.cst .non) (.nm 2) (.var 2) (some (.o2 .eq (.call "round_from" [.var 0, .var 2]) (.var 1)))))]⟩
def fn_fallen : Fn := ⟨["sheet"], ["sheet", "counts"], [],
  [
    .ret (.o1 .len (.comp .seq (.call "all_counts" [.var 0]) (.cst .non) (.cst .non) (.nm 1) (.var 1) (some (.o1 .isNone (.call "round_from" [.var 0, .var 1])))))]⟩
def fn_law_led_k30 : Fn := ⟨["sheet", "counts"], ["sheet", "counts", "found"], [],
  [
    .asg (.nm 2) (.tup []),
    .whl 16777300 (.o2 .notin (.var 1) (.var 2))
      [
        .asg (.nm 2) (.o2 .add (.var 2) (.tup [.var 1])),
        .ifS (.o1 .not (.call "_law_have" [.var 0, .var 1]))
          [
            .ret (.tup [.var 2, .cst .non])]
          [],
        .asg (.nm 1) (.call "_law_real" [.var 0, .var 1])],
    .ret (.tup [.var 2, .o2 .index (.var 2) (.var 1)])]⟩
def fn_law_round : Fn := ⟨["sheet", "counts"], ["sheet", "counts", "some", "place", "least", "at"], [],
  [
    .asg (.p2 (.nm 2) (.nm 3)) (.call "_law_led" [.var 0, .var 1]),
    .ifS (.o1 .isNone (.var 3))
      [
        .ret (.cst .non)]
      [],
    .asg (.nm 4) (.o1 .min (.o2 .from_ (.var 2) (.var 3))),
    .asg (.nm 5) (.o2 .index (.var 2) (.var 4)),
    .ret (.o2 .add (.o2 .from_ (.var 2) (.var 5)) (.o3 .cut (.var 2) (.var 3) (.var 5)))]⟩
def fn_law_k30 : Fn := ⟨["script"], ["script", "sheet", "k", "number", "n", "counts", "some", "place", "word", "other", "due", "ends", "one", "every"], [],
  [
    .asg (.nm 1) (.call "_law_good_sheet" [.call "_law_mixed" [.var 0, .cst (ni 0)], .cst (ni 5)]),
    .forS .range1 (.cst (ni 4)) (.cst .non) (.cst .non) (.nm 2)
      [
        .asg (.nm 3) (.call "_law_mixed" [.var 0, .o2 .add (.cst (ni 1)) (.var 2)]),
        .asg (.nm 5) (.o1 .tuple (.comp .range1 (.o2 .item (.var 1) (.cst (ni 0))) (.cst .non) (.cst .non) (.nm 4) (.o2 .mod (.o2 .fdiv (.call "_law_drawn" [.var 3, .var 4]) (.cst (ni 4))) (.o2 .add (.o1 .len (.o2 .item (.var 1) (.cst (ni 2)))) (.o2 .mod (.var 3) (.cst (ni 2))))) none)),
        .asg (.p2 (.nm 6) (.nm 7)) (.call "_law_led" [.var 1, .var 5]),
        .asg (.nm 8) (.cst (.str [111,117,116])),
        .ifS (.o1 .notNone (.var 7))
          [
            .asg (.nm 8) (.o2 .item (.tup [.cst (.str [114,111,117,110,100]), .cst (.str [114,101,115,116])]) (.o1 .int (.o2 .eq (.var 7) (.o2 .sub (.o1 .len (.var 6)) (.cst (ni 1))))))]
          [],
        .ifS (.or (.o2 .ne (.call "led" [.var 1, .var 5]) (.tup [.var 6, .var 7])) (.o2 .ne (.call "end" [.var 1, .var 5]) (.var 8)))
          [
            .ret (.cst (.bl false))]
          [],
        .asg (.nm 10) (.comp .seq (.call "_law_all" [.var 1]) (.cst .non) (.cst .non) (.nm 9) (.var 9) (some (.o2 .eq (.call "_law_real" [.var 1, .var 9]) (.var 5)))),
        .ifS (.o2 .ne (.call "leading" [.var 1, .var 5]) (.o1 .tuple (.var 10)))
          [
            .ret (.cst (.bl false))]
          []],
    .asg (.nm 11) (.comp .seq (.call "_law_all" [.var 1]) (.cst .non) (.cst .non) (.nm 5) (.call "_law_round" [.var 1, .var 5]) none),
    .asg (.nm 13) (.o1 .sset (.comp .seq (.var 11) (.cst .non) (.cst .non) (.nm 12) (.var 12) (some (.o1 .notNone (.var 12))))),
    .ifS (.or (.o2 .ne (.call "rounds" [.var 1]) (.o1 .tuple (.var 13))) (.o2 .ne (.call "fallen" [.var 1]) (.o1 .len (.comp .seq (.var 11) (.cst .non) (.cst .non) (.nm 12) (.var 12) (some (.o1 .isNone (.var 12)))))))
      [
        .ret (.cst (.bl false))]
      [],
    .ret (.o2 .eq (.comp .seq (.var 13) (.cst .non) (.cst .non) (.nm 12) (.var 12) (some (.o2 .ne (.call "drawn_in" [.var 1, .var 12]) (.o2 .count (.var 11) (.var 12))))) (.lst []))]⟩
def fn_law_k31 : Fn := ⟨["script"], ["script", "sheet", "every", "one", "here", "there", "counts", "some", "place"], [],
  [
    .asg (.nm 1) (.call "_law_good_sheet" [.call "_law_mixed" [.var 0, .cst (ni 0)], .cst (ni 5)]),
    .asg (.nm 2) (.call "rounds" [.var 1]),
    .ifS (.o2 .ne (.o1 .list (.var 2)) (.o1 .sset (.var 2)))
      [
        .ret (.cst (.bl false))]
      [],
    .ifS (.o2 .ne (.o2 .add (.call "fallen" [.var 1]) (.o1 .sum (.comp .seq (.var 2) (.cst .non) (.cst .non) (.nm 3) (.call "drawn_in" [.var 1, .var 3]) none))) (.o1 .len (.call "_law_all" [.var 1])))
      [
        .ret (.cst (.bl false))]
      [],
    .forS .seq (.var 2) (.cst .non) (.cst .non) (.nm 3)
      [
        .ifS (.or (.o2 .ne (.o2 .item (.var 3) (.cst (ni 0))) (.o1 .min (.var 3))) (.o2 .ne (.o1 .lenset (.var 3)) (.o1 .len (.var 3))))
          [
            .ret (.cst (.bl false))]
          [],
        .forS .zip2 (.var 3) (.o2 .add (.o2 .from_ (.var 3) (.cst (ni 1))) (.o2 .upto (.var 3) (.cst (ni 1)))) (.cst .non) (.p2 (.nm 4) (.nm 5))
          [
            .ifS (.or (.o2 .ne (.call "real" [.var 1, .var 4]) (.var 5)) (.o2 .notin (.var 4) (.call "leading" [.var 1, .var 5])))
              [
                .ret (.cst (.bl false))]
              [],
            .ifS (.o2 .ne (.call "end" [.var 1, .var 4]) (.o2 .item (.tup [.cst (.str [114,111,117,110,100]), .cst (.str [114,101,115,116])]) (.o1 .int (.o2 .eq (.o1 .len (.var 3)) (.cst (ni 1))))))
              [
                .ret (.cst (.bl false))]
              []]],
    .ifS (.o2 .ne (.o1 .tuple (.comp .seq (.var 2) (.cst .non) (.cst .non) (.nm 3) (.o2 .item (.var 3) (.cst (ni 0))) (some (.o2 .eq (.o1 .len (.var 3)) (.cst (ni 1)))))) (.call "truths" [.var 1, .call "whole_box" [.var 1]]))
      [
        .ret (.cst (.bl false))]
      [],
    .asg (.nm 6) (.o2 .item (.call "_law_all" [.var 1]) (.o2 .mod (.call "_law_mixed" [.var 0, .cst (ni 1)]) (.o1 .len (.call "_law_all" [.var 1])))),
    .asg (.p2 (.nm 7) (.nm 8)) (.call "led" [.var 1, .var 6]),
    .ifS (.or (.o2 .ne (.o2 .item (.var 7) (.cst (ni 0))) (.var 6)) (.or (.o2 .ne (.o1 .lenset (.var 7)) (.o1 .len (.var 7))) (.o2 .ne (.o1 .isNone (.var 8)) (.o2 .eq (.call "end" [.var 1, .var 6]) (.cst (.str [111,117,116]))))))
      [
        .ret (.cst (.bl false))]
      [],
    .forS .zip2 (.o2 .upto (.var 7) (.o1 .neg (.cst (ni 1)))) (.o2 .from_ (.var 7) (.cst (ni 1))) (.cst .non) (.p2 (.nm 4) (.nm 5))
      [
        .ifS (.o2 .ne (.call "real" [.var 1, .var 4]) (.var 5))
          [
            .ret (.cst (.bl false))]
          []],
    .ifS (.o1 .isNone (.var 8))
      [
        .ret (.o2 .ge (.o1 .max (.o2 .item (.var 7) (.o1 .neg (.cst (ni 1))))) (.o1 .len (.o2 .item (.var 1) (.cst (ni 2)))))]
      [],
    .ret (.and (.o2 .eq (.call "real" [.var 1, .o2 .item (.var 7) (.o1 .neg (.cst (ni 1)))]) (.o2 .item (.var 7) (.var 8))) (.o2 .isin (.o1 .sorted (.o2 .from_ (.var 7) (.var 8))) (.comp .seq (.var 2) (.cst .non) (.cst .non) (.nm 3) (.o1 .sorted (.var 3)) none)))]⟩
def fn_law_k32 : Fn := ⟨["script"], ["script", "sheet", "every", "many", "counts", "there", "some", "place", "more", "other", "whole", "its", "own", "outs"], [],
  [
    .asg (.nm 1) (.call "_law_good_sheet" [.call "_law_mixed" [.var 0, .cst (ni 0)], .cst (ni 5)]),
    .asg (.nm 2) (.call "_law_all" [.var 1]),
    .asg (.nm 3) (.cst (ni 0)),
    .forS .seq (.var 2) (.cst .non) (.cst .non) (.nm 4)
      [
        .asg (.nm 5) (.call "real" [.var 1, .var 4]),
        .ifS (.o2 .notin (.var 4) (.call "leading" [.var 1, .var 5]))
          [
            .ret (.cst (.bl false))]
          [],
        .asg (.p2 (.nm 6) (.nm 7)) (.call "led" [.var 1, .var 4]),
        .ifS (.o2 .isin (.var 5) (.var 2))
          [
            .asg (.nm 3) (.o2 .add (.var 3) (.cst (ni 1))),
            .ifS (.o2 .ne (.call "end" [.var 1, .var 4]) (.call "end" [.var 1, .var 5]))
              [
                .ret (.cst (.bl false))]
              [],
            .asg (.p2 (.nm 8) (.nm 9)) (.call "led" [.var 1, .var 5]),
            .ifS (.or (.o2 .ne (.o1 .isNone (.var 7)) (.o1 .isNone (.var 9))) (.and (.o2 .ne (.var 7) (.cst (ni 0))) (.o2 .ne (.o2 .from_ (.var 6) (.cst (ni 1))) (.var 8))))
              [
                .ret (.cst (.bl false))]
              []]
          [
            .ifS (.or (.o2 .ne (.call "end" [.var 1, .var 4]) (.cst (.str [111,117,116]))) (.or (.o2 .ne (.o1 .len (.var 6)) (.cst (ni 2))) (.o1 .notNone (.var 7))))
              [
                .ret (.cst (.bl false))]
              []]],
    .ifS (.o2 .ne (.o1 .sum (.comp .seq (.var 2) (.cst .non) (.cst .non) (.nm 4) (.o1 .len (.call "leading" [.var 1, .var 4])) none)) (.var 3))
      [
        .ret (.cst (.bl false))]
      [],
    .asg (.nm 10) (.call "fallen" [.var 1]),
    .forS .seq (.call "rounds" [.var 1]) (.cst .non) (.cst .non) (.nm 11)
      [
        .asg (.nm 12) (.comp .seq (.var 2) (.cst .non) (.cst .non) (.nm 4) (.var 4) (some (.and (.o1 .notNone (.o2 .item (.call "led" [.var 1, .var 4]) (.cst (ni 1)))) (.o2 .isin (.o2 .item (.o2 .item (.call "led" [.var 1, .var 4]) (.cst (ni 0))) (.o1 .neg (.cst (ni 1)))) (.var 11))))),
        .ifS (.or (.o2 .ne (.call "drawn_in" [.var 1, .var 11]) (.o1 .len (.var 12))) (.o2 .lt (.o1 .len (.var 12)) (.o1 .len (.var 11))))
          [
            .ret (.cst (.bl false))]
          [],
        .asg (.nm 10) (.o2 .add (.var 10) (.o1 .len (.var 12)))],
    .asg (.nm 13) (.comp .seq (.var 2) (.cst .non) (.cst .non) (.nm 4) (.var 4) (some (.o2 .eq (.call "end" [.var 1, .var 4]) (.cst (.str [111,117,116]))))),
    .ret (.and (.o2 .eq (.var 10) (.o1 .len (.var 2))) (.o2 .eq (.call "fallen" [.var 1]) (.o1 .len (.var 13))))]⟩
def fn_law_led_still : Fn := ⟨["sheet", "more", "counts"], ["sheet", "more", "counts", "way", "place", "there", "one"], [],
  [
    .asg (.p2 (.nm 3) (.nm 4)) (.call "led" [.var 0, .var 2]),
    .asg (.nm 5) (.call "led" [.var 1, .var 2]),
    .ifS (.or (.and (.o1 .notNone (.var 4)) (.o2 .ne (.var 5) (.tup [.var 3, .var 4]))) (.and (.o1 .isNone (.var 4)) (.o2 .ne (.o2 .upto (.o2 .item (.var 5) (.cst (ni 0))) (.o1 .len (.var 3))) (.var 3))))
      [
        .ret (.cst (.bl false))]
      [],
    .ifS (.or (.o2 .ne (.o2 .eq (.call "end" [.var 0, .var 2]) (.cst (.str [111,117,116]))) (.o1 .isNone (.var 4))) (.o2 .ne (.call "real" [.var 1, .var 2]) (.call "real" [.var 0, .var 2])))
      [
        .ret (.cst (.bl false))]
      [],
    .forS .seq (.call "leading" [.var 0, .var 2]) (.cst .non) (.cst .non) (.nm 6)
      [
        .ifS (.or (.o2 .notin (.var 6) (.call "leading" [.var 1, .var 2])) (.o2 .ne (.call "real" [.var 0, .var 6]) (.var 2)))
          [
            .ret (.cst (.bl false))]
          []],
    .ifS (.and (.o2 .gt (.o1 .len (.var 3)) (.cst (ni 1))) (.and (.o1 .isNone (.var 4)) (.o2 .ne (.call "led" [.var 0, .o2 .item (.var 3) (.cst (ni 1))]) (.tup [.o2 .from_ (.var 3) (.cst (ni 1)), .cst .non]))))
      [
        .ret (.cst (.bl false))]
      [],
    .ret (.o2 .eq (.call "is_true" [.var 1, .var 2]) (.call "is_true" [.var 0, .var 2]))]⟩
def fn_law_k33 : Fn := ⟨["script"], ["script", "sheet", "word", "more", "box", "every", "kept", "far", "some", "k", "counts"], [],
  [
    .asg (.nm 1) (.call "_law_good_sheet" [.call "_law_mixed" [.var 0, .cst (ni 0)], .cst (ni 4)]),
    .asg (.nm 2) (.call "_law_letters" [.call "_law_mixed" [.var 0, .cst (ni 1)], .cst (ni 4), .cst (ni 4)]),
    .asg (.nm 3) (.tup [.o2 .item (.var 1) (.cst (ni 0)), .o2 .item (.var 1) (.cst (ni 1)), .o2 .add (.o2 .item (.var 1) (.cst (ni 2))) (.tup [.var 2])]),
    .asg (.nm 4) (.call "whole_box" [.var 1]),
    .ifS (.or (.o2 .ne (.call "truths" [.var 3, .var 4]) (.call "truths" [.var 1, .var 4])) (.o2 .ne (.call "bounds" [.var 3, .var 4]) (.call "bounds" [.var 1, .var 4])))
      [
        .ret (.cst (.bl false))]
      [],
    .asg (.nm 5) (.call "_law_all" [.var 1]),
    .asg (.p2 (.nm 6) (.nm 7)) (.tup [.call "rounds" [.var 1], .call "rounds" [.var 3]]),
    .forS .seq (.var 6) (.cst .non) (.cst .non) (.nm 8)
      [
        .ifS (.or (.o2 .notin (.var 8) (.var 7)) (.or (.o2 .lt (.call "drawn_in" [.var 3, .var 8]) (.call "drawn_in" [.var 1, .var 8])) (.o2 .ne (.o2 .item (.var 8) (.cst (ni 0))) (.o1 .min (.var 8)))))
          [
            .ret (.cst (.bl false))]
          [],
        .forS .enum (.var 8) (.cst .non) (.cst .non) (.p2 (.nm 9) (.nm 10))
          [
            .ifS (.o2 .ne (.call "real" [.var 1, .var 10]) (.o2 .item (.var 8) (.o2 .mod (.o2 .add (.var 9) (.cst (ni 1))) (.o1 .len (.var 8)))))
              [
                .ret (.cst (.bl false))]
              [],
            .ifS (.or (.o2 .ne (.call "end" [.var 1, .var 10]) (.o2 .item (.tup [.cst (.str [114,101,115,116]), .cst (.str [114,111,117,110,100])]) (.o1 .int (.o2 .gt (.o1 .len (.var 8)) (.cst (ni 1)))))) (.o2 .ne (.call "end" [.var 3, .var 10]) (.call "end" [.var 1, .var 10])))
              [
                .ret (.cst (.bl false))]
              []]],
    .ifS (.o2 .ne (.o2 .add (.o1 .sum (.comp .seq (.var 6) (.cst .non) (.cst .non) (.nm 8) (.call "drawn_in" [.var 1, .var 8]) none)) (.call "fallen" [.var 1])) (.o1 .len (.var 5)))
      [
        .ret (.cst (.bl false))]
      [],
    .forS .seq (.var 5) (.cst .non) (.cst .non) (.nm 10)
      [
        .ifS (.o1 .not (.call "_law_led_still" [.var 1, .var 3, .var 10]))
          [
            .ret (.cst (.bl false))]
          []],
    .ret (.o2 .ge (.o1 .len (.var 7)) (.o1 .len (.var 6)))]⟩
def fn_lacking : Fn := ⟨["sheet", "counts"], ["sheet", "counts", "told", "there"], [],
  [
    .ret (.o1 .tuple (.comp .zip2 (.var 1) (.call "real" [.var 0, .var 1]) (.cst .non) (.p2 (.nm 2) (.nm 3)) (.o2 .sub (.var 2) (.var 3)) none))]⟩
def fn_fitted : Fn := ⟨["sheet", "counts"], ["sheet", "counts", "some", "letter", "many", "more"], [],
  [
    .asg (.nm 2) (.call "lacking" [.var 0, .var 1]),
    .ifS (.or (.o2 .lt (.o1 .min (.var 2)) (.cst (ni 0))) (.o2 .gt (.o2 .add (.o1 .len (.o2 .item (.var 0) (.cst (ni 1)))) (.o1 .sum (.var 2))) (.glb "MOST_FRAME" (ni 8))))
      [
        .raise 2]
      [],
    .asg (.nm 5) (.o2 .join (.cst (.str [])) (.comp .zip2 (.glb "LETTERS" (.str [97,98,99,100])) (.var 2) (.cst .non) (.p2 (.nm 3) (.nm 4)) (.o2 .mul (.var 3) (.var 4)) none)),
    .ret (.tup [.o2 .item (.var 0) (.cst (ni 0)), .o2 .add (.o2 .item (.var 0) (.cst (ni 1))) (.var 5), .o2 .item (.var 0) (.cst (ni 2))])]⟩
def fn_may_fit : Fn := ⟨["sheet", "counts"], ["sheet", "counts", "some"], [],
  [
    .asg (.nm 2) (.call "lacking" [.var 0, .var 1]),
    .ret (.and (.o2 .ge (.o1 .min (.var 2)) (.cst (ni 0))) (.o2 .le (.o2 .add (.o1 .len (.o2 .item (.var 0) (.cst (ni 1)))) (.o1 .sum (.var 2))) (.glb "MOST_FRAME" (ni 8))))]⟩
def fn_fitting : Fn := ⟨["sheet"], ["sheet", "counts"], [],
  [
    .ret (.o1 .tuple (.comp .seq (.call "all_counts" [.var 0]) (.cst .non) (.cst .non) (.nm 1) (.var 1) (some (.call "may_fit" [.var 0, .var 1]))))]⟩
def fn_least_frame : Fn := ⟨["wide", "words"], ["wide", "words", "sheet", "found", "counts", "frame"], [3],
  [
    .asg (.nm 2) (.tup [.var 0, .cst (.str []), .var 1]),
    .own 3 (.lst []),
    .forS .seq (.call "fitting" [.var 2]) (.cst .non) (.cst .non) (.nm 4)
      [
        .asg (.nm 5) (.o2 .item (.call "fitted" [.var 2, .var 4]) (.cst (ni 1))),
        .app 3 (.tup [.o1 .len (.var 5), .var 5, .var 4])],
    .ifS (.o2 .eq (.o1 .len (.var 3)) (.cst (ni 0)))
      [
        .raise 2]
      [],
    .ret (.o2 .from_ (.o1 .min (.var 3)) (.cst (ni 1)))]⟩
def fn_law_fitted : Fn := ⟨["sheet", "counts"], ["sheet", "counts", "told", "there", "some"], [],
  [
    .asg (.nm 4) (.comp .zip2 (.var 1) (.call "_law_real" [.var 0, .var 1]) (.cst .non) (.p2 (.nm 2) (.nm 3)) (.o2 .sub (.var 2) (.var 3)) none),
    .ifS (.or (.o2 .lt (.o1 .min (.var 4)) (.cst (ni 0))) (.o2 .gt (.o2 .add (.o1 .len (.o2 .item (.var 0) (.cst (ni 1)))) (.o1 .sum (.var 4))) (.cst (ni 8))))
      [
        .ret (.cst .non)]
      [],
    .ret (.tup [.o2 .item (.var 0) (.cst (ni 0)), .o2 .add (.o2 .add (.o2 .add (.o2 .item (.var 0) (.cst (ni 1))) (.o2 .mul (.cst (.str [97])) (.o2 .item (.var 4) (.cst (ni 0))))) (.o2 .mul (.cst (.str [98])) (.o1 .sum (.o3 .cut (.var 4) (.cst (ni 1)) (.cst (ni 2)))))) (.o2 .mul (.cst (.str [99])) (.o1 .sum (.o2 .from_ (.var 4) (.cst (ni 2))))), .o2 .item (.var 0) (.cst (ni 2))])]⟩
def fn_law_k41 : Fn := ⟨["script"], ["script", "sheet", "counts", "new", "at", "bare", "found", "frame", "best", "some", "one"], [],
  [
    .asg (.nm 1) (.call "_law_sheet" [.call "_law_mixed" [.var 0, .cst (ni 0)], .cst (ni 6)]),
    .forS .seq (.call "fitting" [.var 1]) (.cst .non) (.cst .non) (.nm 2)
      [
        .asg (.nm 3) (.call "fitted" [.var 1, .var 2]),
        .ifS (.or (.o1 .not (.call "is_sheet" [.var 3])) (.or (.o1 .notTrue (.call "is_true" [.var 3, .var 2])) (.o2 .ne (.call "lacking" [.var 3, .var 2]) (.o2 .mul (.tup [.cst (ni 0)]) (.o2 .item (.var 1) (.cst (ni 0)))))))
          [
            .ret (.cst (.bl false))]
          [],
        .ifS (.or (.o2 .ne (.o2 .upto (.o2 .item (.var 3) (.cst (ni 1))) (.o1 .len (.o2 .item (.var 1) (.cst (ni 1))))) (.o2 .item (.var 1) (.cst (ni 1)))) (.o2 .ne (.o2 .item (.var 3) (.cst (ni 2))) (.o2 .item (.var 1) (.cst (ni 2)))))
          [
            .ret (.cst (.bl false))]
          [],
        .forS .range2 (.o1 .len (.o2 .item (.var 1) (.cst (ni 1)))) (.o1 .len (.o2 .item (.var 3) (.cst (ni 1)))) (.cst .non) (.nm 4)
          [
            .ifS (.o1 .notFalse (.call "is_true" [.tup [.o2 .item (.var 3) (.cst (ni 0)), .o2 .add (.o2 .upto (.o2 .item (.var 3) (.cst (ni 1))) (.var 4)) (.o2 .from_ (.o2 .item (.var 3) (.cst (ni 1))) (.o2 .add (.var 4) (.cst (ni 1)))), .o2 .item (.var 3) (.cst (ni 2))], .var 2]))
              [
                .ret (.cst (.bl false))]
              []]],
    .forS .seq (.call "truths" [.var 1, .call "whole_box" [.var 1]]) (.cst .non) (.cst .non) (.nm 2)
      [
        .ifS (.or (.o2 .ne (.call "fitted" [.var 1, .var 2]) (.var 1)) (.o2 .notin (.var 2) (.call "fitting" [.var 1])))
          [
            .ret (.cst (.bl false))]
          []],
    .asg (.nm 5) (.tup [.o2 .item (.var 1) (.cst (ni 0)), .cst (.str []), .o2 .item (.var 1) (.cst (ni 2))]),
    .asg (.nm 6) (.call "_law_least" [.o2 .item (.var 1) (.cst (ni 0)), .o2 .item (.var 1) (.cst (ni 2))]),
    .ifS (.o1 .isNone (.var 6))
      [
        .ret (.o2 .eq (.call "fitting" [.var 5]) (.tup []))]
      [],
    .asg (.p2 (.nm 7) (.nm 2)) (.var 6),
    .asg (.nm 8) (.tup [.o2 .item (.var 1) (.cst (ni 0)), .var 7, .o2 .item (.var 1) (.cst (ni 2))]),
    .asg (.nm 9) (.call "truths" [.var 8, .call "whole_box" [.var 8]]),
    .ifS (.or (.o2 .eq (.var 9) (.tup [])) (.or (.o2 .ne (.o2 .item (.var 9) (.cst (ni 0))) (.var 2)) (.o2 .ne (.var 7) (.o2 .join (.cst (.str [])) (.o1 .sortedS (.var 7))))))
      [
        .ret (.cst (.bl false))]
      [],
    .ret (.o2 .eq (.comp .seq (.call "fitting" [.var 5]) (.cst .non) (.cst .non) (.nm 10) (.var 10) (some (.o2 .lt (.o1 .len (.o2 .item (.call "fitted" [.var 5, .var 10]) (.cst (ni 1)))) (.o1 .len (.var 7))))) (.lst []))]⟩
def fn_exchanged_text : Fn := ⟨["text", "order"], ["text", "order", "found", "letter", "k"], [],
  [
    .asg (.nm 2) (.cst (.str [])),
    .forS .seq (.var 0) (.cst .non) (.cst .non) (.nm 3)
      [
        .asg (.nm 4) (.o2 .index (.glb "LETTERS" (.str [97,98,99,100])) (.var 3)),
        .ifS (.o2 .lt (.var 4) (.o1 .len (.var 1)))
          [
            .asg (.nm 3) (.o2 .item (.glb "LETTERS" (.str [97,98,99,100])) (.o2 .item (.var 1) (.var 4)))]
          [],
        .asg (.nm 2) (.o2 .add (.var 2) (.var 3))],
    .ret (.var 2)]⟩
def fn_exchanged : Fn := ⟨["sheet", "order"], ["sheet", "order", "wide", "frame", "words", "word"], [],
  [
    .asg (.p3 (.nm 2) (.nm 3) (.nm 4)) (.var 0),
    .ret (.tup [.var 2, .call "exchanged_text" [.var 3, .var 1], .o1 .tuple (.comp .seq (.var 4) (.cst .non) (.cst .non) (.nm 5) (.call "exchanged_text" [.var 5, .var 1]) none)])]⟩
def fn_law_k42 : Fn := ⟨["script"], ["script", "sheet", "wide", "frame", "words", "some", "k", "counts", "lacks", "one", "other", "less", "good", "new", "least", "at", "order", "own"], [],
  [
    .asg (.nm 1) (.call "_law_good_sheet" [.call "_law_mixed" [.var 0, .cst (ni 0)], .cst (ni 3)]),
    .asg (.p3 (.nm 2) (.nm 3) (.nm 4)) (.var 1),
    .asg (.nm 5) (.call "fitting" [.var 1]),
    .asg (.nm 6) (.o2 .mod (.call "_law_mixed" [.var 0, .cst (ni 1)]) (.var 2)),
    .forS .seq (.call "_law_all" [.var 1]) (.cst .non) (.cst .non) (.nm 7)
      [
        .asg (.nm 8) (.call "lacking" [.var 1, .var 7]),
        .ifS (.o2 .ne (.var 8) (.o1 .tuple (.comp .zip2 (.var 7) (.call "real" [.var 1, .var 7]) (.cst .non) (.p2 (.nm 9) (.nm 10)) (.o2 .sub (.var 9) (.var 10)) none)))
          [
            .ret (.cst (.bl false))]
          [],
        .ifS (.o2 .lt (.o1 .len (.var 3)) (.cst (ni 8)))
          [
            .asg (.nm 11) (.call "lacking" [.tup [.var 2, .o2 .add (.var 3) (.o2 .item (.cst (.str [97,98,99])) (.var 6)), .var 4], .var 7]),
            .ifS (.o2 .ne (.var 11) (.o2 .add (.o2 .add (.o2 .upto (.var 8) (.var 6)) (.tup [.o2 .sub (.o2 .item (.var 8) (.var 6)) (.cst (ni 1))])) (.o2 .from_ (.var 8) (.o2 .add (.var 6) (.cst (ni 1))))))
              [
                .ret (.cst (.bl false))]
              []]
          [],
        .asg (.nm 12) (.and (.o2 .ge (.o1 .min (.var 8)) (.cst (ni 0))) (.o2 .le (.o2 .add (.o1 .sum (.var 8)) (.o1 .len (.var 3))) (.cst (ni 8)))),
        .ifS (.o2 .ne (.var 12) (.o2 .isin (.var 7) (.var 5)))
          [
            .ret (.cst (.bl false))]
          [],
        .ifS (.var 12)
          [
            .asg (.nm 13) (.call "fitted" [.var 1, .var 7]),
            .ifS (.or (.o1 .notTrue (.call "is_true" [.var 13, .var 7])) (.or (.o2 .gt (.o1 .max (.call "lacking" [.var 13, .var 7])) (.cst (ni 0))) (.o2 .ne (.call "fitted" [.var 13, .var 7]) (.var 13))))
              [
                .ret (.cst (.bl false))]
              [],
            .ifS (.or (.o2 .ne (.o2 .item (.var 13) (.cst (ni 2))) (.var 4)) (.or (.o2 .ne (.o2 .upto (.o2 .item (.var 13) (.cst (ni 1))) (.o1 .len (.var 3))) (.var 3)) (.o2 .notin (.var 7) (.call "truths" [.var 13, .call "whole_box" [.var 13]]))))
              [
                .ret (.cst (.bl false))]
              []]
          []],
    .asg (.nm 14) (.call "_law_least" [.var 2, .var 4]),
    .asg (.nm 16) (.o1 .tuple (.comp .range1 (.var 2) (.cst .non) (.cst .non) (.nm 15) (.o2 .mod (.o2 .add (.var 15) (.cst (ni 1))) (.var 2)) none)),
    .asg (.nm 10) (.call "_law_least" [.var 2, .o2 .item (.call "exchanged" [.tup [.var 2, .cst (.str []), .var 4], .var 16]) (.cst (ni 2))]),
    .ifS (.or (.o1 .isNone (.var 14)) (.o1 .isNone (.var 10)))
      [
        .ret (.and (.o1 .isNone (.var 14)) (.o1 .isNone (.var 10)))]
      [],
    .asg (.nm 17) (.tup [.var 2, .o2 .item (.var 14) (.cst (ni 0)), .var 4]),
    .ifS (.or (.o2 .ne (.o1 .len (.o2 .item (.var 10) (.cst (ni 0)))) (.o1 .len (.o2 .item (.var 14) (.cst (ni 0))))) (.or (.o1 .notTrue (.call "is_true" [.var 17, .o2 .item (.var 14) (.cst (ni 1))])) (.o2 .ne (.call "fitted" [.var 17, .o2 .item (.var 14) (.cst (ni 1))]) (.var 17))))
      [
        .ret (.cst (.bl false))]
      [],
    .ret (.o2 .eq (.o1 .len (.o2 .item (.var 14) (.cst (ni 0)))) (.o1 .min (.comp .seq (.call "fitting" [.tup [.var 2, .cst (.str []), .var 4]]) (.cst .non) (.cst .non) (.nm 7) (.o1 .sum (.call "lacking" [.tup [.var 2, .cst (.str []), .var 4], .var 7])) none)))]⟩
def fn_exchanged_counts : Fn := ⟨["counts", "order"], ["counts", "order", "k"], [],
  [
    .ret (.o1 .tuple (.comp .range1 (.o1 .len (.var 1)) (.cst .non) (.cst .non) (.nm 2) (.o2 .item (.var 0) (.o2 .index (.var 1) (.var 2))) none))]⟩
def fn_never_told : Fn := ⟨["sheet"], ["sheet", "told", "counts", "k"], [1],
  [
    .own 1 (.lst []),
    .forS .seq (.call "truths" [.var 0, .call "whole_box" [.var 0]]) (.cst .non) (.cst .non) (.nm 2)
      [
        .ext 1 (.var 2)],
    .ret (.o1 .tuple (.comp .range1 (.o1 .len (.o2 .item (.var 0) (.cst (ni 2)))) (.cst .non) (.cst .non) (.nm 3) (.var 3) (some (.o2 .notin (.var 3) (.var 1)))))]⟩
def fn_swapped : Fn := ⟨["sheet", "one", "other"], ["sheet", "one", "other", "words"], [],
  [
    .asg (.nm 3) (.o2 .item (.var 0) (.cst (ni 2))),
    .ret (.call "with_word" [.call "with_word" [.var 0, .var 1, .o2 .item (.var 3) (.var 2)], .var 2, .o2 .item (.var 3) (.var 1)])]⟩
def fn_law_order_k50 : Fn := ⟨["number", "wide"], ["number", "wide", "left", "found", "k", "at"], [],
  [
    .asg (.nm 2) (.o1 .listRange (.var 1)),
    .asg (.nm 3) (.tup []),
    .forS .range1 (.var 1) (.cst .non) (.cst .non) (.nm 4)
      [
        .asg (.nm 5) (.o2 .mod (.o2 .fdiv (.call "_law_drawn" [.var 0, .var 4]) (.cst (ni 4))) (.o1 .len (.var 2))),
        .asg (.nm 3) (.o2 .add (.var 3) (.tup [.o2 .item (.var 2) (.var 5)])),
        .asg (.nm 2) (.o2 .add (.o2 .upto (.var 2) (.var 5)) (.o2 .from_ (.var 2) (.o2 .add (.var 5) (.cst (ni 1)))))],
    .ret (.var 3)]⟩
def fn_law_about : Fn := ⟨["text", "order"], ["text", "order", "found", "sign", "k", "places"], [],
  [
    .asg (.nm 2) (.cst (.str [])),
    .forS .seq (.var 0) (.cst .non) (.cst .non) (.nm 3)
      [
        .asg (.nm 4) (.o2 .index (.cst (.str [97,98,99,100])) (.var 3)),
        .asg (.nm 5) (.o2 .add (.var 1) (.o2 .from_ (.tup [.cst (ni 0), .cst (ni 1), .cst (ni 2), .cst (ni 3)]) (.o1 .len (.var 1)))),
        .asg (.nm 2) (.o2 .add (.var 2) (.o2 .item (.cst (.str [97,98,99,100])) (.o2 .item (.var 5) (.var 4))))],
    .ret (.var 2)]⟩
def fn_law_k50 : Fn := ⟨["script"], ["script", "sheet", "wide", "frame", "words", "order", "word", "others", "about", "k", "counts", "found", "told", "other", "due", "text", "rows"], [14],
  [
    .asg (.nm 1) (.call "_law_good_sheet" [.call "_law_mixed" [.var 0, .cst (ni 0)], .cst (ni 6)]),
    .asg (.p3 (.nm 2) (.nm 3) (.nm 4)) (.var 1),
    .asg (.nm 5) (.call "_law_order" [.call "_law_mixed" [.var 0, .cst (ni 1)], .var 2]),
    .asg (.nm 7) (.o1 .tuple (.comp .seq (.var 4) (.cst .non) (.cst .non) (.nm 6) (.call "_law_about" [.var 6, .var 5]) none)),
    .asg (.nm 8) (.tup [.var 2, .call "_law_about" [.var 3, .var 5], .var 7]),
    .ifS (.o2 .ne (.call "exchanged" [.var 1, .var 5]) (.var 8))
      [
        .ret (.cst (.bl false))]
      [],
    .asg (.nm 10) (.o1 .tuple (.comp .range1 (.var 2) (.cst .non) (.cst .non) (.nm 9) (.o2 .mod (.call "_law_mixed" [.var 0, .o2 .add (.cst (ni 2)) (.var 9)]) (.cst (ni 50))) none)),
    .asg (.nm 11) (.call "exchanged_counts" [.var 10, .var 5]),
    .ifS (.o2 .ne (.o1 .len (.var 11)) (.var 2))
      [
        .ret (.cst (.bl false))]
      [],
    .ifS (.o2 .ne (.comp .range1 (.var 2) (.cst .non) (.cst .non) (.nm 9) (.var 9) (some (.o2 .ne (.o2 .item (.var 11) (.o2 .item (.var 5) (.var 9))) (.o2 .item (.var 10) (.var 9))))) (.lst []))
      [
        .ret (.cst (.bl false))]
      [],
    .asg (.nm 9) (.o2 .mod (.call "_law_mixed" [.var 0, .cst (ni 6)]) (.o1 .len (.var 4))),
    .asg (.nm 6) (.call "_law_letters" [.call "_law_mixed" [.var 0, .cst (ni 7)], .cst (ni 4), .cst (ni 4)]),
    .ifS (.o2 .ne (.call "with_word" [.var 1, .var 9, .var 6]) (.tup [.var 2, .var 3, .o2 .add (.o2 .add (.o2 .upto (.var 4) (.var 9)) (.tup [.var 6])) (.o2 .from_ (.var 4) (.o2 .add (.var 9) (.cst (ni 1))))]))
      [
        .ret (.cst (.bl false))]
      [],
    .asg (.nm 12) (.lst []),
    .forS .seq (.call "_law_truths" [.var 1]) (.cst .non) (.cst .non) (.nm 10)
      [
        .asg (.nm 12) (.o2 .add (.var 12) (.o1 .list (.var 10)))],
    .ifS (.o2 .ne (.call "never_told" [.var 1]) (.o1 .tuple (.comp .range1 (.o1 .len (.var 4)) (.cst .non) (.cst .non) (.nm 9) (.var 9) (some (.o2 .notin (.var 9) (.var 12))))))
      [
        .ret (.cst (.bl false))]
      [],
    .asg (.nm 13) (.o2 .mod (.call "_law_mixed" [.var 0, .cst (ni 8)]) (.o1 .len (.var 4))),
    .own 14 (.o1 .list (.var 4)),
    .setI 14 (.var 9) (.o2 .item (.var 4) (.var 13)),
    .setI 14 (.var 13) (.o2 .item (.var 4) (.var 9)),
    .ifS (.o2 .ne (.call "swapped" [.var 1, .var 9, .var 13]) (.tup [.var 2, .var 3, .o1 .tuple (.var 14)]))
      [
        .ret (.cst (.bl false))]
      [],
    .asg (.nm 16) (.comp .seq (.o2 .add (.tup [.var 3]) (.var 4)) (.cst .non) (.cst .non) (.nm 15) (.o2 .join (.cst (.str [])) (.o1 .sortedS (.var 15))) none),
    .ret (.o2 .eq (.call "plain" [.var 1]) (.tup [.var 2, .o2 .item (.var 16) (.cst (ni 0)), .o1 .tuple (.o2 .from_ (.var 16) (.cst (ni 1)))]))]⟩
def fn_law_order_k52 : Fn := ⟨["number", "wide"], ["number", "wide", "left", "found", "k"], [2],
  [
    .own 2 (.o1 .listRange (.var 1)),
    .asg (.nm 3) (.tup []),
    .forS .range1 (.var 1) (.cst .non) (.cst .non) (.nm 4)
      [
        .catPop 3 2 (.o2 .mod (.o2 .fdiv (.call "_law_drawn" [.var 0, .var 4]) (.cst (ni 4))) (.o1 .len (.var 2)))],
    .ret (.var 3)]⟩
def fn_law_k52 : Fn := ⟨["script"], ["script", "sheet", "wide", "frame", "words", "one", "two", "k", "back", "both", "counts", "other", "word", "never"], [],
  [
    .asg (.nm 1) (.call "_law_good_sheet" [.call "_law_mixed" [.var 0, .cst (ni 0)], .cst (ni 5)]),
    .asg (.p3 (.nm 2) (.nm 3) (.nm 4)) (.var 1),
    .asg (.nm 5) (.call "_law_order" [.call "_law_mixed" [.var 0, .cst (ni 1)], .var 2]),
    .asg (.nm 6) (.call "_law_order" [.call "_law_mixed" [.var 0, .cst (ni 2)], .var 2]),
    .asg (.nm 8) (.o1 .tuple (.comp .range1 (.var 2) (.cst .non) (.cst .non) (.nm 7) (.o2 .index (.var 5) (.var 7)) none)),
    .asg (.nm 9) (.o1 .tuple (.comp .range1 (.var 2) (.cst .non) (.cst .non) (.nm 7) (.o2 .item (.var 6) (.o2 .item (.var 5) (.var 7))) none)),
    .ifS (.o2 .ne (.call "exchanged" [.call "exchanged" [.var 1, .var 5], .var 8]) (.var 1))
      [
        .ret (.cst (.bl false))]
      [],
    .ifS (.o2 .ne (.call "exchanged" [.call "exchanged" [.var 1, .var 5], .var 6]) (.call "exchanged" [.var 1, .var 9]))
      [
        .ret (.cst (.bl false))]
      [],
    .forS .seq (.call "_law_all" [.var 1]) (.cst .non) (.cst .non) (.nm 10)
      [
        .ifS (.o2 .ne (.call "exchanged_counts" [.call "exchanged_counts" [.var 10, .var 5], .var 8]) (.var 10))
          [
            .ret (.cst (.bl false))]
          [],
        .ifS (.o2 .ne (.call "exchanged_counts" [.call "exchanged_counts" [.var 10, .var 5], .var 6]) (.call "exchanged_counts" [.var 10, .var 9]))
          [
            .ret (.cst (.bl false))]
          []],
    .asg (.nm 7) (.o2 .mod (.call "_law_mixed" [.var 0, .cst (ni 3)]) (.o1 .len (.var 4))),
    .asg (.nm 11) (.o2 .mod (.call "_law_mixed" [.var 0, .cst (ni 4)]) (.o1 .len (.var 4))),
    .asg (.nm 12) (.call "_law_letters" [.call "_law_mixed" [.var 0, .cst (ni 5)], .cst (ni 4), .cst (ni 4)]),
    .ifS (.or (.o2 .ne (.call "with_word" [.call "with_word" [.var 1, .var 7, .var 12], .var 7, .o2 .item (.var 4) (.var 7)]) (.var 1)) (.o1 .not (.call "is_sheet" [.call "with_word" [.var 1, .var 7, .var 12]])))
      [
        .ret (.cst (.bl false))]
      [],
    .ifS (.or (.o2 .ne (.call "swapped" [.call "swapped" [.var 1, .var 7, .var 11], .var 7, .var 11]) (.var 1)) (.o2 .ne (.call "swapped" [.var 1, .var 7, .var 7]) (.var 1)))
      [
        .ret (.cst (.bl false))]
      [],
    .ifS (.o2 .ne (.call "exchanged" [.call "swapped" [.var 1, .var 7, .var 11], .var 5]) (.call "swapped" [.call "exchanged" [.var 1, .var 5], .var 7, .var 11]))
      [
        .ret (.cst (.bl false))]
      [],
    .ifS (.or (.o2 .ne (.call "plain" [.call "plain" [.var 1]]) (.call "plain" [.var 1])) (.o2 .ne (.call "plain" [.call "exchanged" [.call "plain" [.var 1], .var 5]]) (.call "plain" [.call "exchanged" [.var 1, .var 5]])))
      [
        .ret (.cst (.bl false))]
      [],
    .ifS (.o2 .ne (.call "plain" [.call "with_word" [.var 1, .var 7, .o1 .rev (.var 12)]]) (.call "plain" [.call "with_word" [.call "plain" [.var 1], .var 7, .var 12]]))
      [
        .ret (.cst (.bl false))]
      [],
    .asg (.nm 13) (.call "never_told" [.var 1]),
    .ret (.and (.o2 .eq (.call "never_told" [.call "plain" [.var 1]]) (.var 13)) (.o2 .eq (.o1 .len (.call "never_told" [.call "exchanged" [.var 1, .var 5]])) (.o1 .len (.var 13))))]⟩
def fn_law_order_k53 : Fn := ⟨["number", "wide"], ["number", "wide", "left", "found", "k", "at"], [],
  [
    .asg (.nm 2) (.o1 .listRange (.var 1)),
    .asg (.nm 3) (.tup []),
    .forS .range1 (.var 1) (.cst .non) (.cst .non) (.nm 4)
      [
        .asg (.nm 5) (.o2 .mod (.o2 .fdiv (.call "_law_drawn" [.var 0, .var 4]) (.cst (ni 4))) (.o1 .len (.var 2))),
        .asg (.nm 3) (.o2 .add (.var 3) (.tup [.o2 .item (.var 2) (.var 5)])),
        .asg (.nm 2) (.o2 .add (.o2 .upto (.var 2) (.var 5)) (.o2 .from_ (.var 2) (.o2 .add (.var 5) (.cst (ni 1)))))],
    .ret (.var 3)]⟩
def fn_law_counts_led : Fn := ⟨["sheet", "far", "counts", "order"], ["sheet", "far", "counts", "order", "there", "here", "less", "k", "due", "text"], [],
  [
    .asg (.nm 4) (.call "exchanged_counts" [.var 2, .var 3]),
    .asg (.p2 (.nm 5) (.nm 6)) (.tup [.call "real" [.var 0, .var 2], .call "lacking" [.var 0, .var 2]]),
    .asg (.nm 8) (.o1 .tuple (.comp .range1 (.o1 .len (.var 3)) (.cst .non) (.cst .non) (.nm 7) (.o2 .item (.var 6) (.o2 .index (.var 3) (.var 7))) none)),
    .ifS (.or (.o2 .ne (.call "real" [.var 1, .var 4]) (.call "exchanged_counts" [.var 5, .var 3])) (.o2 .ne (.call "lacking" [.var 1, .var 4]) (.var 8)))
      [
        .ret (.cst (.bl false))]
      [],
    .ifS (.or (.o2 .ne (.call "real" [.call "plain" [.var 0], .var 2]) (.var 5)) (.o2 .ne (.call "lacking" [.call "plain" [.var 0], .var 2]) (.var 6)))
      [
        .ret (.cst (.bl false))]
      [],
    .asg (.nm 9) (.call "text_of" [.var 0, .var 2]),
    .ret (.and (.o2 .eq (.var 9) (.o2 .add (.o2 .item (.var 0) (.cst (ni 1))) (.o2 .join (.cst (.str [])) (.comp .seq (.var 2) (.cst .non) (.cst .non) (.nm 7) (.o2 .item (.o2 .item (.var 0) (.cst (ni 2))) (.var 7)) none)))) (.o2 .eq (.o1 .len (.call "text_of" [.var 1, .var 2])) (.o1 .len (.var 9))))]⟩
def fn_law_k53 : Fn := ⟨["script"], ["script", "sheet", "wide", "frame", "words", "order", "one", "other", "first", "last", "far", "every", "k", "both_in", "here", "there"], [],
  [
    .asg (.nm 1) (.call "_law_good_sheet" [.call "_law_mixed" [.var 0, .cst (ni 0)], .cst (ni 6)]),
    .asg (.p3 (.nm 2) (.nm 3) (.nm 4)) (.var 1),
    .asg (.nm 5) (.call "_law_order" [.call "_law_mixed" [.var 0, .cst (ni 1)], .var 2]),
    .asg (.p2 (.nm 6) (.nm 7)) (.tup [.o2 .mod (.call "_law_mixed" [.var 0, .cst (ni 2)]) (.o1 .len (.var 4)), .o2 .mod (.call "_law_mixed" [.var 0, .cst (ni 3)]) (.o1 .len (.var 4))]),
    .asg (.p2 (.nm 8) (.nm 9)) (.tup [.call "_law_letters" [.call "_law_mixed" [.var 0, .cst (ni 4)], .cst (ni 4), .cst (ni 4)], .call "_law_letters" [.call "_law_mixed" [.var 0, .cst (ni 5)], .cst (ni 4), .cst (ni 4)]]),
    .asg (.nm 10) (.call "exchanged" [.var 1, .var 5]),
    .asg (.nm 11) (.call "_law_all" [.var 1]),
    .forS .range1 (.cst (ni 6)) (.cst .non) (.cst .non) (.nm 12)
      [
        .ifS (.o1 .not (.call "_law_counts_led" [.var 1, .var 10, .o2 .item (.var 11) (.o2 .mod (.call "_law_mixed" [.var 0, .o2 .add (.cst (ni 6)) (.var 12)]) (.o1 .len (.var 11))), .var 5]))
          [
            .ret (.cst (.bl false))]
          []],
    .asg (.nm 13) (.call "with_word" [.call "with_word" [.var 1, .var 6, .o2 .item (.var 4) (.var 7)], .var 7, .o2 .item (.var 4) (.var 6)]),
    .ifS (.or (.o2 .ne (.call "swapped" [.var 1, .var 6, .var 7]) (.var 13)) (.o2 .ne (.call "swapped" [.var 1, .var 7, .var 6]) (.var 13)))
      [
        .ret (.cst (.bl false))]
      [],
    .asg (.nm 14) (.call "with_word" [.var 1, .var 6, .var 8]),
    .ifS (.or (.o2 .ne (.call "with_word" [.var 14, .var 6, .var 9]) (.call "with_word" [.var 1, .var 6, .var 9])) (.o2 .ne (.call "with_word" [.var 14, .var 6, .o2 .item (.var 4) (.var 6)]) (.var 1)))
      [
        .ret (.cst (.bl false))]
      [],
    .asg (.nm 15) (.call "with_word" [.call "with_word" [.var 1, .var 7, .var 9], .var 6, .var 8]),
    .ifS (.and (.o2 .ne (.var 6) (.var 7)) (.o2 .ne (.call "with_word" [.var 14, .var 7, .var 9]) (.var 15)))
      [
        .ret (.cst (.bl false))]
      [],
    .ifS (.o2 .ne (.call "exchanged" [.var 14, .var 5]) (.call "with_word" [.var 10, .var 6, .call "_law_about" [.var 8, .var 5]]))
      [
        .ret (.cst (.bl false))]
      [],
    .ifS (.o2 .ne (.call "exchanged" [.call "swapped" [.var 1, .var 6, .var 7], .var 5]) (.call "swapped" [.var 10, .var 6, .var 7]))
      [
        .ret (.cst (.bl false))]
      [],
    .ifS (.or (.o2 .ne (.call "plain" [.call "plain" [.var 1]]) (.call "plain" [.var 1])) (.o2 .ne (.call "plain" [.call "with_word" [.call "plain" [.var 1], .var 6, .var 8]]) (.call "plain" [.var 14])))
      [
        .ret (.cst (.bl false))]
      [],
    .ret (.o2 .eq (.call "plain" [.call "swapped" [.var 1, .var 6, .var 7]]) (.call "swapped" [.call "plain" [.var 1], .var 6, .var 7]))]⟩
def fn_counted : Fn := ⟨["row"], ["row", "k"], [],
  [
    .ret (.o1 .tuple (.comp .range1 (.o1 .len (.var 0)) (.cst .non) (.cst .non) (.nm 1) (.o2 .count (.var 0) (.var 1)) none))]⟩
def fn_is_own : Fn := ⟨["row"], ["row"], [],
  [
    .ret (.o2 .eq (.call "counted" [.var 0]) (.var 0))]⟩
def fn_rows_with : Fn := ⟨["long", "whole"], ["long", "whole", "found", "first", "rest"], [2],
  [
    .ifS (.o2 .eq (.var 0) (.cst (ni 1)))
      [
        .ret (.lst [.tup [.var 1]])]
      [],
    .own 2 (.lst []),
    .forS .range1 (.o2 .add (.var 1) (.cst (ni 1))) (.cst .non) (.cst .non) (.nm 3)
      [
        .ext 2 (.comp .seq (.call "rows_with" [.o2 .sub (.var 0) (.cst (ni 1)), .o2 .sub (.var 1) (.var 3)]) (.cst .non) (.cst .non) (.nm 4) (.o2 .add (.tup [.var 3]) (.var 4)) none)],
    .ret (.var 2)]⟩
def fn_own_rows : Fn := ⟨["long"], ["long", "row"], [],
  [
    .ret (.o1 .tuple (.comp .seq (.call "rows_with" [.var 0, .var 0]) (.cst .non) (.cst .non) (.nm 1) (.var 1) (some (.call "is_own" [.var 1]))))]⟩
def fn_row_led : Fn := ⟨["row"], ["row", "found"], [1],
  [
    .own 1 (.lst []),
    .whl 16777300 (.o2 .notin (.var 0) (.var 1))
      [
        .app 1 (.var 0),
        .asg (.nm 0) (.call "counted" [.var 0])],
    .ret (.tup [.o1 .tuple (.var 1), .o2 .index (.var 1) (.var 0)])]⟩
def fn_row_end : Fn := ⟨["row"], ["row", "some", "place"], [],
  [
    .asg (.p2 (.nm 1) (.nm 2)) (.call "row_led" [.var 0]),
    .ret (.o1 .tuple (.o1 .sorted (.o2 .from_ (.var 1) (.var 2))))]⟩
def fn_law_counted : Fn := ⟨["row"], ["row", "found", "number"], [1],
  [
    .own 1 (.o2 .mul (.lst [.cst (ni 0)]) (.o1 .len (.var 0))),
    .forS .seq (.var 0) (.cst .non) (.cst .non) (.nm 2)
      [
        .ifS (.o2 .lt (.var 2) (.o1 .len (.var 0)))
          [
            .setI 1 (.var 2) (.o2 .add (.o2 .item (.var 1) (.var 2)) (.cst (ni 1)))]
          []],
    .ret (.o1 .tuple (.var 1))]⟩
def fn_law_rows : Fn := ⟨["long", "whole"], ["long", "whole", "found", "first", "rest"], [],
  [
    .ifS (.o2 .eq (.var 0) (.cst (ni 0)))
      [
        .ret (.o2 .mul (.lst [.tup []]) (.o1 .int (.o2 .eq (.var 1) (.cst (ni 0)))))]
      [],
    .asg (.nm 2) (.lst []),
    .forS .range1 (.o2 .add (.var 1) (.cst (ni 1))) (.cst .non) (.cst .non) (.nm 3)
      [
        .asg (.nm 2) (.o2 .add (.var 2) (.comp .seq (.call "_law_rows" [.o2 .sub (.var 0) (.cst (ni 1)), .o2 .sub (.var 1) (.var 3)]) (.cst .non) (.cst .non) (.nm 4) (.o2 .add (.tup [.var 3]) (.var 4)) none))],
    .ret (.var 2)]⟩
def fn_law_k60 : Fn := ⟨["script"], ["script", "number", "long", "of", "k", "row", "part", "own", "some", "here", "place", "size", "one"], [8],
  [
    .asg (.nm 1) (.call "_law_mixed" [.var 0, .cst (ni 0)]),
    .asg (.nm 2) (.o2 .add (.cst (ni 1)) (.o2 .mod (.var 1) (.cst (ni 8)))),
    .asg (.nm 3) (.o2 .item (.tup [.cst (ni 10), .o2 .add (.var 2) (.cst (ni 1)), .cst (ni 3)]) (.o2 .mod (.o2 .fdiv (.var 1) (.cst (ni 8))) (.cst (ni 3)))),
    .asg (.nm 5) (.o1 .tuple (.comp .range1 (.var 2) (.cst .non) (.cst .non) (.nm 4) (.o2 .mod (.call "_law_mixed" [.var 0, .o2 .add (.cst (ni 1)) (.var 4)]) (.var 3)) none)),
    .ifS (.o2 .eq (.o2 .mod (.o2 .fdiv (.var 1) (.cst (ni 32))) (.cst (ni 4))) (.cst (ni 1)))
      [
        .asg (.nm 5) (.o2 .add (.o2 .add (.tup [.o2 .sub (.var 2) (.cst (ni 4)), .cst (ni 2), .cst (ni 1)]) (.o2 .mul (.tup [.cst (ni 0)]) (.o2 .sub (.var 2) (.cst (ni 7))))) (.tup [.cst (ni 1), .cst (ni 0), .cst (ni 0), .cst (ni 0)])),
        .asg (.nm 5) (.o2 .upto (.o1 .tuple (.comp .seq (.var 5) (.cst .non) (.cst .non) (.nm 6) (.o2 .max2 (.cst (ni 0)) (.var 6)) none)) (.cst (ni 8)))]
      [],
    .asg (.nm 7) (.call "is_own" [.var 5]),
    .ifS (.or (.o2 .ne (.call "counted" [.var 5]) (.call "_law_counted" [.var 5])) (.or (.o1 .not (.o1 .isBool (.var 7))) (.o2 .ne (.var 7) (.o2 .eq (.call "_law_counted" [.var 5]) (.var 5)))))
      [
        .ret (.cst (.bl false))]
      [],
    .own 8 (.lst []),
    .asg (.nm 9) (.var 5),
    .whl 16777300 (.o2 .notin (.var 9) (.var 8))
      [
        .app 8 (.var 9),
        .asg (.nm 9) (.call "_law_counted" [.var 9])],
    .asgF (.nm 10) (.o2 .index (.var 8) (.var 9)),
    .ifS (.or (.o2 .ne (.call "row_led" [.var 5]) (.tup [.o1 .tuple (.var 8), .var 10])) (.o2 .ne (.call "row_end" [.var 5]) (.o1 .tuple (.o1 .sorted (.o2 .from_ (.var 8) (.var 10))))))
      [
        .ret (.cst (.bl false))]
      [],
    .asg (.nm 11) (.o2 .add (.cst (ni 1)) (.o2 .mod (.call "_law_mixed" [.var 0, .cst (ni 9)]) (.cst (ni 6)))),
    .ret (.o2 .eq (.call "own_rows" [.var 11]) (.o1 .tuple (.comp .seq (.call "_law_rows" [.var 11, .var 11]) (.cst .non) (.cst .non) (.nm 12) (.var 12) (some (.o2 .eq (.call "_law_counted" [.var 12]) (.var 12))))))]⟩
def fn_law_all_rows : Fn := ⟨["long"], ["long", "found", "k", "longer", "row", "number"], [],
  [
    .asg (.nm 1) (.lst [.tup []]),
    .forS .range1 (.var 0) (.cst .non) (.cst .non) (.nm 2)
      [
        .asg (.nm 3) (.lst []),
        .forS .seq (.var 1) (.cst .non) (.cst .non) (.nm 4)
          [
            .asg (.nm 3) (.o2 .add (.var 3) (.comp .range1 (.o2 .add (.var 0) (.cst (ni 1))) (.cst .non) (.cst .non) (.nm 5) (.o2 .add (.var 4) (.tup [.var 5])) none))],
        .asg (.nm 1) (.var 3)],
    .ret (.var 1)]⟩
def fn_law_k61 : Fn := ⟨["script"], ["script", "long", "some", "row", "k", "often", "little", "led_rows", "place", "here", "there", "ends", "one", "part"], [],
  [
    .asg (.nm 1) (.o2 .add (.cst (ni 1)) (.o2 .mod (.call "_law_mixed" [.var 0, .cst (ni 0)]) (.cst (ni 8)))),
    .asg (.nm 2) (.call "own_rows" [.var 1]),
    .ifS (.o2 .ne (.o1 .list (.var 2)) (.o1 .sset (.var 2)))
      [
        .ret (.cst (.bl false))]
      [],
    .forS .seq (.var 2) (.cst .non) (.cst .non) (.nm 3)
      [
        .ifS (.or (.o1 .notTrue (.call "is_own" [.var 3])) (.or (.o2 .ne (.o1 .len (.var 3)) (.var 1)) (.or (.o2 .ne (.o1 .sum (.var 3)) (.var 1)) (.o2 .ne (.call "row_end" [.var 3]) (.tup [.var 3])))))
          [
            .ret (.cst (.bl false))]
          [],
        .ifS (.or (.o2 .ne (.o1 .sum (.comp .enum (.var 3) (.cst .non) (.cst .non) (.p2 (.nm 4) (.nm 5)) (.o2 .mul (.var 4) (.var 5)) none)) (.var 1)) (.o2 .ne (.call "row_led" [.var 3]) (.tup [.tup [.var 3], .cst (ni 0)])))
          [
            .ret (.cst (.bl false))]
          []],
    .asg (.nm 6) (.o2 .add (.cst (ni 1)) (.o2 .mod (.call "_law_mixed" [.var 0, .cst (ni 1)]) (.cst (ni 4)))),
    .ifS (.o2 .ne (.comp .seq (.call "_law_all_rows" [.var 6]) (.cst .non) (.cst .non) (.nm 3) (.var 3) (some (.o2 .ne (.call "is_own" [.var 3]) (.o2 .isin (.var 3) (.call "own_rows" [.var 6]))))) (.lst []))
      [
        .ret (.cst (.bl false))]
      [],
    .asg (.nm 3) (.o1 .tuple (.comp .range1 (.var 1) (.cst .non) (.cst .non) (.nm 4) (.o2 .mod (.call "_law_mixed" [.var 0, .o2 .add (.cst (ni 2)) (.var 4)]) (.cst (ni 10))) none)),
    .asg (.p2 (.nm 7) (.nm 8)) (.call "row_led" [.var 3]),
    .forS .zip2 (.var 7) (.o2 .add (.o2 .from_ (.var 7) (.cst (ni 1))) (.tup [.o2 .item (.var 7) (.var 8)])) (.cst .non) (.p2 (.nm 9) (.nm 10))
      [
        .ifS (.o2 .ne (.call "counted" [.var 9]) (.var 10))
          [
            .ret (.cst (.bl false))]
          []],
    .asg (.nm 11) (.call "row_end" [.var 3]),
    .ifS (.or (.o2 .ne (.var 11) (.o1 .tuple (.o1 .sorted (.o2 .from_ (.var 7) (.var 8))))) (.o2 .ne (.comp .seq (.var 11) (.cst .non) (.cst .non) (.nm 12) (.var 12) (some (.o2 .notin (.call "counted" [.var 12]) (.var 11)))) (.lst [])))
      [
        .ret (.cst (.bl false))]
      [],
    .ret (.and (.o2 .eq (.o2 .eq (.o1 .len (.var 11)) (.cst (ni 1))) (.call "is_own" [.o2 .item (.var 11) (.cst (ni 0))])) (.o2 .eq (.o1 .sum (.call "counted" [.var 3])) (.o1 .len (.comp .seq (.var 3) (.cst .non) (.cst .non) (.nm 13) (.var 13) (some (.o2 .lt (.var 13) (.var 1)))))))]⟩
def fn_said : Fn := ⟨["text"], ["text", "figure"], [],
  [
    .ret (.o2 .join (.cst (.str [])) (.comp .seq (.glb "FIGURES" (.str [48,49,50,51,52,53,54,55,56,57])) (.cst .non) (.cst .non) (.nm 1) (.o2 .add (.o1 .str (.o2 .count (.var 0) (.var 1))) (.var 1)) (some (.o2 .isin (.var 1) (.var 0)))))]⟩
def fn_said_led : Fn := ⟨["text"], ["text", "found"], [1],
  [
    .own 1 (.lst []),
    .whl 16777300 (.o2 .notin (.var 0) (.var 1))
      [
        .app 1 (.var 0),
        .asg (.nm 0) (.call "said" [.var 0])],
    .ret (.tup [.o1 .tuple (.var 1), .o2 .index (.var 1) (.var 0)])]⟩
def fn_is_steady : Fn := ⟨["text"], ["text"], [],
  [
    .ret (.o2 .eq (.call "said" [.var 0]) (.var 0))]⟩
def fn_lots : Fn := ⟨["many", "first"], ["many", "first", "found", "at", "rest"], [2],
  [
    .ifS (.o2 .eq (.var 0) (.cst (ni 0)))
      [
        .ret (.lst [.cst (.str [])])]
      [],
    .own 2 (.lst []),
    .forS .range2 (.var 1) (.o1 .len (.glb "FIGURES" (.str [48,49,50,51,52,53,54,55,56,57]))) (.cst .non) (.nm 3)
      [
        .ext 2 (.comp .seq (.call "lots" [.o2 .sub (.var 0) (.cst (ni 1)), .o2 .add (.var 3) (.cst (ni 1))]) (.cst .non) (.cst .non) (.nm 4) (.o2 .add (.o2 .item (.glb "FIGURES" (.str [48,49,50,51,52,53,54,55,56,57])) (.var 3)) (.var 4)) none)],
    .ret (.var 2)]⟩
def fn_steadies : Fn := ⟨["many"], ["many", "found", "figures", "row", "part", "often", "number", "figure", "text"], [1],
  [
    .own 1 (.lst []),
    .forS .seq (.call "lots" [.var 0, .cst (ni 0)]) (.cst .non) (.cst .non) (.nm 2)
      [
        .forS .seq (.call "rows_with" [.var 0, .var 0]) (.cst .non) (.cst .non) (.nm 3)
          [
            .asg (.nm 5) (.comp .seq (.var 3) (.cst .non) (.cst .non) (.nm 4) (.o2 .add (.var 4) (.cst (ni 1))) none),
            .asg (.nm 8) (.o2 .join (.cst (.str [])) (.comp .zip2 (.var 5) (.var 2) (.cst .non) (.p2 (.nm 6) (.nm 7)) (.o2 .add (.o1 .str (.var 6)) (.var 7)) none)),
            .ifS (.and (.o2 .le (.o1 .max (.var 5)) (.glb "MOST_TIMES" (ni 9))) (.call "is_steady" [.var 8]))
              [
                .app 1 (.var 8)]
              []]],
    .ret (.o1 .tuple (.o1 .sorted (.var 1)))]⟩
def fn_round_of : Fn := ⟨["text"], ["text", "some", "place"], [],
  [
    .asg (.p2 (.nm 1) (.nm 2)) (.call "said_led" [.var 0]),
    .ret (.o1 .sorted (.o2 .from_ (.var 1) (.var 2)))]⟩
def fn_same_end : Fn := ⟨["one", "other"], ["one", "other"], [],
  [
    .ret (.o2 .eq (.call "round_of" [.var 0]) (.call "round_of" [.var 1]))]⟩
def fn_law_mixed_up : Fn := ⟨["some", "number"], ["some", "number", "left", "found"], [2, 3],
  [
    .own 2 (.o1 .list (.var 0)),
    .own 3 (.lst []),
    .whl 16777300 (.o2 .ne (.var 2) (.lst []))
      [
        .appPop 3 2 (.o2 .mod (.var 1) (.o1 .len (.var 2))),
        .asg (.nm 1) (.o2 .add (.o2 .fdiv (.var 1) (.cst (ni 3))) (.cst (ni 7)))],
    .ret (.var 3)]⟩
def fn_law_figures : Fn := ⟨["number", "most"], ["number", "most", "k"], [],
  [
    .ret (.o2 .join (.cst (.str [])) (.comp .range1 (.o2 .mod (.var 0) (.o2 .add (.var 1) (.cst (ni 1)))) (.cst .non) (.cst .non) (.nm 2) (.o1 .str (.o2 .mod (.o2 .fdiv (.call "_law_drawn" [.var 0, .var 2]) (.cst (ni 4))) (.cst (ni 10)))) none))]⟩
def fn_law_k62 : Fn := ⟨["script"], ["script", "number", "long", "k", "row", "other", "part", "some", "place", "one", "two", "own", "texts", "mixed", "pairs", "told", "at", "text"], [],
  [
    .asg (.nm 1) (.call "_law_mixed" [.var 0, .cst (ni 0)]),
    .asg (.nm 2) (.o2 .add (.cst (ni 1)) (.o2 .mod (.var 1) (.cst (ni 8)))),
    .asg (.nm 4) (.o1 .tuple (.comp .range1 (.var 2) (.cst .non) (.cst .non) (.nm 3) (.o2 .mod (.call "_law_mixed" [.var 0, .o2 .add (.cst (ni 1)) (.var 3)]) (.o2 .item (.tup [.cst (ni 10), .o2 .add (.var 2) (.cst (ni 1)), .cst (ni 3)]) (.o2 .mod (.o2 .fdiv (.var 1) (.cst (ni 8))) (.cst (ni 3))))) none)),
    .asg (.nm 5) (.o1 .tuple (.call "_law_mixed_up" [.var 4, .var 1])),
    .ifS (.or (.o2 .ne (.call "counted" [.var 5]) (.call "counted" [.var 4])) (.o2 .ne (.o1 .sum (.call "counted" [.var 4])) (.o1 .len (.comp .seq (.var 4) (.cst .non) (.cst .non) (.nm 6) (.var 6) (some (.o2 .lt (.var 6) (.var 2)))))))
      [
        .ret (.cst (.bl false))]
      [],
    .asg (.p2 (.nm 7) (.nm 8)) (.call "row_led" [.var 4]),
    .ifS (.or (.o2 .ne (.o2 .item (.var 7) (.cst (ni 0))) (.var 4)) (.or (.o2 .ne (.call "row_end" [.var 4]) (.o1 .tuple (.o1 .sorted (.o2 .from_ (.var 7) (.var 8))))) (.o2 .ne (.call "row_end" [.call "counted" [.var 4]]) (.call "row_end" [.var 4]))))
      [
        .ret (.cst (.bl false))]
      [],
    .forS .zip2 (.o2 .from_ (.var 7) (.var 8)) (.o2 .add (.o2 .from_ (.var 7) (.o2 .add (.var 8) (.cst (ni 1)))) (.o3 .cut (.var 7) (.var 8) (.o2 .add (.var 8) (.cst (ni 1))))) (.cst .non) (.p2 (.nm 9) (.nm 10))
      [
        .ifS (.or (.o2 .ne (.call "counted" [.var 9]) (.var 10)) (.o2 .ne (.call "row_end" [.var 9]) (.call "row_end" [.var 4])))
          [
            .ret (.cst (.bl false))]
          []],
    .forS .seq (.call "own_rows" [.o2 .add (.cst (ni 1)) (.o2 .mod (.o2 .fdiv (.var 1) (.cst (ni 64))) (.cst (ni 5)))]) (.cst .non) (.cst .non) (.nm 11)
      [
        .ifS (.or (.o1 .notTrue (.call "is_own" [.var 11])) (.or (.o2 .ne (.o1 .sum (.var 11)) (.o1 .len (.var 11))) (.o2 .ne (.call "row_led" [.var 11]) (.tup [.tup [.var 11], .cst (ni 0)]))))
          [
            .ret (.cst (.bl false))]
          []],
    .asg (.nm 12) (.comp .range1 (.cst (ni 3)) (.cst .non) (.cst .non) (.nm 3) (.call "_law_figures" [.call "_law_mixed" [.var 0, .o2 .add (.cst (ni 10)) (.var 3)], .cst (ni 12)]) none),
    .asg (.nm 13) (.o2 .join (.cst (.str [])) (.call "_law_mixed_up" [.o2 .item (.var 12) (.cst (ni 0)), .var 1])),
    .ifS (.or (.o2 .ne (.call "said" [.var 13]) (.call "said" [.o2 .item (.var 12) (.cst (ni 0))])) (.o1 .notTrue (.call "same_end" [.var 13, .o2 .item (.var 12) (.cst (ni 0))])))
      [
        .ret (.cst (.bl false))]
      [],
    .asg (.nm 14) (.lst [.call "same_end" [.o2 .item (.var 12) (.cst (ni 0)), .o2 .item (.var 12) (.cst (ni 1))], .call "same_end" [.o2 .item (.var 12) (.cst (ni 1)), .o2 .item (.var 12) (.cst (ni 2))], .call "same_end" [.o2 .item (.var 12) (.cst (ni 0)), .o2 .item (.var 12) (.cst (ni 2))]]),
    .ifS (.or (.o2 .eq (.o2 .count (.var 14) (.cst (.bl true))) (.cst (ni 2))) (.o2 .ne (.call "same_end" [.o2 .item (.var 12) (.cst (ni 1)), .o2 .item (.var 12) (.cst (ni 0))]) (.o2 .item (.var 14) (.cst (ni 0)))))
      [
        .ret (.cst (.bl false))]
      [],
    .asg (.p2 (.nm 15) (.nm 16)) (.call "said_led" [.o2 .item (.var 12) (.cst (ni 0))]),
    .ifS (.and (.o2 .gt (.o1 .len (.var 15)) (.cst (ni 1))) (.or (.o2 .ne (.o2 .item (.var 15) (.cst (ni 1))) (.call "said" [.o2 .item (.var 15) (.cst (ni 0))])) (.o1 .notTrue (.call "same_end" [.o2 .item (.var 15) (.cst (ni 1)), .o2 .item (.var 15) (.cst (ni 0))]))))
      [
        .ret (.cst (.bl false))]
      [],
    .forS .seq (.call "steadies" [.o2 .add (.cst (ni 1)) (.o2 .mod (.o2 .fdiv (.var 1) (.cst (ni 512))) (.cst (ni 2)))]) (.cst .non) (.cst .non) (.nm 17)
      [
        .ifS (.or (.o1 .notTrue (.call "is_steady" [.var 17])) (.or (.o2 .ne (.call "said_led" [.var 17]) (.tup [.tup [.var 17], .cst (ni 0)])) (.o2 .ne (.o2 .mod (.o1 .len (.var 17)) (.cst (ni 2))) (.cst (ni 0)))))
          [
            .ret (.cst (.bl false))]
          []],
    .ret (.and (.o2 .eq (.call "said" [.cst (.str [])]) (.cst (.str []))) (.o1 .isTrue (.call "is_steady" [.cst (.str [50,50])])))]⟩
def fn_law_said : Fn := ⟨["text"], ["text", "found", "figure", "sign"], [],
  [
    .asg (.nm 1) (.cst (.str [])),
    .forS .seq (.o1 .ssetS (.var 0)) (.cst .non) (.cst .non) (.nm 2)
      [
        .asg (.nm 1) (.o2 .add (.o2 .add (.var 1) (.o1 .str (.o1 .len (.comp .seq (.var 0) (.cst .non) (.cst .non) (.nm 3) (.var 3) (some (.o2 .eq (.var 3) (.var 2))))))) (.var 2))],
    .ret (.var 1)]⟩
def fn_law_led_k70 : Fn := ⟨["text"], ["text", "some"], [1],
  [
    .own 1 (.lst []),
    .whl 16777300 (.o2 .notin (.var 0) (.var 1))
      [
        .app 1 (.var 0),
        .asg (.nm 0) (.call "_law_said" [.var 0])],
    .ret (.tup [.o1 .tuple (.var 1), .o2 .index (.var 1) (.var 0)])]⟩
def fn_law_text_k70 : Fn := ⟨["number", "most"], ["number", "most", "of", "k"], [],
  [
    .asg (.nm 2) (.o2 .item (.tup [.cst (ni 10), .cst (ni 3), .cst (ni 2)]) (.o2 .mod (.o2 .fdiv (.var 0) (.cst (ni 16))) (.cst (ni 3)))),
    .ret (.o2 .join (.cst (.str [])) (.comp .range1 (.o2 .mod (.var 0) (.o2 .add (.var 1) (.cst (ni 1)))) (.cst .non) (.cst .non) (.nm 3) (.o1 .str (.o2 .mod (.o2 .fdiv (.call "_law_drawn" [.var 0, .var 3]) (.cst (ni 4))) (.var 2))) none))]⟩
def fn_law_steady : Fn := ⟨["many"], ["many", "found", "figure", "longer", "text", "left", "sign", "most", "often"], [],
  [
    .asg (.nm 1) (.lst [.cst (.str [])]),
    .forS .seq (.cst (.str [48,49,50,51,52,53,54,55,56,57])) (.cst .non) (.cst .non) (.nm 2)
      [
        .asg (.nm 3) (.o1 .list (.var 1)),
        .forS .seq (.var 1) (.cst .non) (.cst .non) (.nm 4)
          [
            .asg (.nm 5) (.o2 .sub (.var 0) (.o2 .fdiv (.o1 .len (.var 4)) (.cst (ni 2)))),
            .asg (.nm 7) (.o2 .sub (.o2 .sub (.o2 .add (.o2 .mul (.cst (ni 2)) (.var 0)) (.cst (ni 1))) (.var 5)) (.o1 .sum (.comp .seq (.o1 .step2 (.var 4)) (.cst .non) (.cst .non) (.nm 6) (.o1 .intS (.var 6)) none))),
            .ifS (.o2 .gt (.var 5) (.cst (ni 0)))
              [
                .asg (.nm 3) (.o2 .add (.var 3) (.comp .range2 (.cst (ni 1)) (.o2 .add (.var 7) (.cst (ni 1))) (.cst .non) (.nm 8) (.o2 .add (.o2 .add (.var 4) (.o1 .str (.var 8))) (.var 2)) none))]
              []],
        .asg (.nm 1) (.var 3)],
    .ret (.o1 .sorted (.comp .seq (.var 1) (.cst .non) (.cst .non) (.nm 4) (.var 4) (some (.and (.o2 .eq (.o1 .len (.var 4)) (.o2 .mul (.cst (ni 2)) (.var 0))) (.o2 .eq (.call "_law_said" [.var 4]) (.var 4))))))]⟩
def fn_law_k70 : Fn := ⟨["script"], ["script", "one", "other", "text", "steady", "ends", "some", "place", "found", "many"], [5],
  [
    .asg (.nm 1) (.call "_law_text" [.call "_law_mixed" [.var 0, .cst (ni 0)], .cst (ni 12)]),
    .asg (.nm 2) (.call "_law_text" [.call "_law_mixed" [.var 0, .cst (ni 1)], .cst (ni 12)]),
    .ifS (.o2 .eq (.o2 .mod (.call "_law_mixed" [.var 0, .cst (ni 2)]) (.cst (ni 2))) (.cst (ni 1)))
      [
        .asg (.nm 2) (.o2 .add (.o2 .join (.cst (.str [])) (.o1 .sortedS (.var 1))) (.o2 .mul (.cst (.str [49])) (.o2 .mod (.o2 .fdiv (.call "_law_mixed" [.var 0, .cst (ni 2)]) (.cst (ni 2))) (.cst (ni 2))))),
        .asg (.nm 2) (.o2 .upto (.var 2) (.cst (ni 12)))]
      [],
    .forS .seq (.tup [.var 1, .var 2]) (.cst .non) (.cst .non) (.nm 3)
      [
        .asg (.nm 4) (.call "is_steady" [.var 3]),
        .ifS (.or (.o2 .ne (.call "said" [.var 3]) (.call "_law_said" [.var 3])) (.o2 .ne (.call "said_led" [.var 3]) (.call "_law_led" [.var 3])))
          [
            .ret (.cst (.bl false))]
          [],
        .ifS (.or (.o1 .not (.o1 .isBool (.var 4))) (.o2 .ne (.var 4) (.o2 .eq (.call "_law_said" [.var 3]) (.var 3))))
          [
            .ret (.cst (.bl false))]
          []],
    .own 5 (.lst []),
    .forS .seq (.tup [.var 1, .var 2]) (.cst .non) (.cst .non) (.nm 3)
      [
        .asg (.p2 (.nm 6) (.nm 7)) (.call "_law_led" [.var 3]),
        .app 5 (.o1 .sorted (.o2 .from_ (.var 6) (.var 7)))],
    .asg (.nm 8) (.call "same_end" [.var 1, .var 2]),
    .ifS (.or (.o1 .not (.o1 .isBool (.var 8))) (.o2 .ne (.var 8) (.o2 .eq (.o2 .item (.var 5) (.cst (ni 0))) (.o2 .item (.var 5) (.cst (ni 1))))))
      [
        .ret (.cst (.bl false))]
      [],
    .asg (.nm 9) (.o2 .add (.cst (ni 1)) (.o2 .mod (.call "_law_mixed" [.var 0, .cst (ni 3)]) (.cst (ni 3)))),
    .ret (.o2 .eq (.call "steadies" [.var 9]) (.o1 .tuple (.call "_law_steady" [.var 9])))]⟩
def fn_law_k71 : Fn := ⟨["script"], ["script", "number", "of", "k", "text", "by", "about", "sign", "often", "some", "place", "here", "there", "many", "every", "one", "last"], [],
  [
    .asg (.nm 1) (.call "_law_mixed" [.var 0, .cst (ni 0)]),
    .asg (.nm 2) (.o2 .item (.tup [.cst (ni 10), .cst (ni 4), .cst (ni 2)]) (.o2 .mod (.o2 .fdiv (.var 1) (.cst (ni 16))) (.cst (ni 3)))),
    .asg (.nm 4) (.o2 .join (.cst (.str [])) (.comp .range1 (.o2 .mod (.var 1) (.cst (ni 13))) (.cst .non) (.cst .non) (.nm 3) (.o1 .str (.o2 .mod (.o2 .fdiv (.call "_law_drawn" [.var 1, .var 3]) (.cst (ni 4))) (.var 2))) none)),
    .asg (.nm 5) (.o2 .mod (.call "_law_mixed" [.var 0, .cst (ni 1)]) (.o2 .add (.o1 .len (.var 4)) (.cst (ni 1)))),
    .asg (.nm 6) (.o2 .add (.o2 .from_ (.var 4) (.var 5)) (.o2 .upto (.var 4) (.var 5))),
    .ifS (.or (.o2 .ne (.call "said" [.var 6]) (.call "said" [.var 4])) (.or (.o2 .ne (.call "said" [.o2 .join (.cst (.str [])) (.o1 .sortedS (.var 4))]) (.call "said" [.var 4])) (.o1 .notTrue (.call "same_end" [.var 6, .var 4]))))
      [
        .ret (.cst (.bl false))]
      [],
    .asg (.nm 8) (.comp .seq (.o1 .sset (.var 4)) (.cst .non) (.cst .non) (.nm 7) (.o2 .count (.var 4) (.var 7)) none),
    .ifS (.and (.o2 .lt (.o1 .max (.o2 .add (.var 8) (.lst [.cst (ni 0)]))) (.cst (ni 10))) (.o2 .ne (.o1 .len (.call "said" [.var 4])) (.o2 .mul (.cst (ni 2)) (.o1 .len (.var 8)))))
      [
        .ret (.cst (.bl false))]
      [],
    .asg (.p2 (.nm 9) (.nm 10)) (.call "said_led" [.var 4]),
    .ifS (.or (.o2 .ne (.o2 .item (.var 9) (.cst (ni 0))) (.var 4)) (.or (.o2 .ne (.o1 .lenset (.var 9)) (.o1 .len (.var 9))) (.o2 .ne (.call "said" [.o2 .item (.var 9) (.o1 .neg (.cst (ni 1)))]) (.o2 .item (.var 9) (.var 10)))))
      [
        .ret (.cst (.bl false))]
      [],
    .ifS (.o2 .ne (.comp .zip2 (.o2 .upto (.var 9) (.o1 .neg (.cst (ni 1)))) (.o2 .from_ (.var 9) (.cst (ni 1))) (.cst .non) (.p2 (.nm 11) (.nm 12)) (.cst (ni 1)) (some (.o2 .ne (.call "said" [.var 11]) (.var 12)))) (.lst []))
      [
        .ret (.cst (.bl false))]
      [],
    .ifS (.or (.o2 .ne (.o2 .eq (.var 10) (.o2 .sub (.o1 .len (.var 9)) (.cst (ni 1)))) (.call "is_steady" [.o2 .item (.var 9) (.o1 .neg (.cst (ni 1)))])) (.o1 .notTrue (.call "same_end" [.o2 .item (.var 9) (.o1 .neg (.cst (ni 1))), .var 4])))
      [
        .ret (.cst (.bl false))]
      [],
    .asg (.nm 13) (.o2 .add (.cst (ni 1)) (.o2 .mod (.call "_law_mixed" [.var 0, .cst (ni 2)]) (.cst (ni 4)))),
    .asg (.nm 14) (.call "steadies" [.var 13]),
    .ifS (.o2 .ne (.o1 .list (.var 14)) (.o1 .sset (.var 14)))
      [
        .ret (.cst (.bl false))]
      [],
    .forS .seq (.var 14) (.cst .non) (.cst .non) (.nm 15)
      [
        .ifS (.or (.o1 .notTrue (.call "is_steady" [.var 15])) (.or (.o2 .ne (.o1 .lenset (.var 15)) (.var 13)) (.o2 .ne (.call "said_led" [.var 15]) (.tup [.tup [.var 15], .cst (ni 0)]))))
          [
            .ret (.cst (.bl false))]
          []],
    .asg (.nm 16) (.o2 .item (.var 9) (.o1 .neg (.cst (ni 1)))),
    .ifS (.or (.o2 .gt (.o1 .lenset (.var 16)) (.cst (ni 4))) (.or (.o1 .not (.call "is_steady" [.var 16])) (.o2 .eq (.var 16) (.cst (.str [])))))
      [
        .ret (.cst (.bl true))]
      [],
    .ret (.o2 .isin (.var 16) (.call "steadies" [.o1 .lenset (.var 16)]))]⟩
end OC

namespace OC
def tab_k33 : List (String × Fn) := [("have_words", fn_have_words), ("text_of", fn_text_of), ("real", fn_real), ("is_true", fn_is_true), ("all_in", fn_all_in), ("whole_box", fn_whole_box), ("all_counts", fn_all_counts), ("led", fn_led), ("end", fn_end), ("round_from", fn_round_from), ("rounds", fn_rounds), ("leading", fn_leading), ("drawn_in", fn_drawn_in), ("fallen", fn_fallen), ("truths", fn_truths), ("bounds_of", fn_bounds_of), ("bounds", fn_bounds), ("_law_cell_at", fn_law_cell_at), ("_law_mixed", fn_law_mixed), ("_law_drawn", fn_law_drawn), ("_law_letters", fn_law_letters), ("_law_sheet", fn_law_sheet), ("_law_real", fn_law_real), ("_law_all", fn_law_all), ("_law_good_sheet", fn_law_good_sheet), ("_law_led_still", fn_law_led_still), ("law", fn_law_k33)]
def con_k33 : List (String × D) := [("LETTERS", (.str [97,98,99,100]))]
end OC

/-! Part L1: tools about the evaluator. -/
namespace OC
/-! ### sameness that the kernel can count out -/
mutual
def D.same : D → D → Bool
  | .non, .non => true
  | .bl a, .bl b => a == b
  | .int i, .int j => i == j
  | .str x, .str y => x == y
  | .lst xs, .lst ys => D.sames xs ys
  | .tup xs, .tup ys => D.sames xs ys
  | .scr xs, .scr ys => xs == ys
  | _, _ => false
def D.sames : List D → List D → Bool
  | [], [] => true
  | x :: xs, y :: ys => D.same x y && D.sames xs ys
  | _, _ => false
end
mutual
theorem D.same_eq : ∀ (x y : D), D.same x y = true → x = y
  | .non, y, h => by cases y <;> simp_all [D.same]
  | .bl a, y, h => by cases y <;> simp_all [D.same]
  | .int a, y, h => by cases y <;> simp_all [D.same]
  | .str a, y, h => by cases y <;> simp_all [D.same]
  | .scr a, y, h => by cases y <;> simp_all [D.same]
  | .lst xs, y, h => by
    cases y with
    | lst ys => rw [D.sames_eq xs ys (by simpa [D.same] using h)]
    | _ => simp [D.same] at h
  | .tup xs, y, h => by
    cases y with
    | tup ys => rw [D.sames_eq xs ys (by simpa [D.same] using h)]
    | _ => simp [D.same] at h
theorem D.sames_eq : ∀ (x y : List D), D.sames x y = true → x = y
  | [], [], _ => rfl
  | [], _ :: _, h => by simp [D.sames] at h
  | _ :: _, [], h => by simp [D.sames] at h
  | x :: xs, y :: ys, h => by
    simp only [D.sames, Bool.and_eq_true] at h
    rw [D.same_eq x y h.1, D.sames_eq xs ys h.2]
end
def R.sameD : R D → R D → Bool
  | .ok a, .ok b => D.same a b
  | _, _ => false
theorem R.sameD_eq {a b : R D} (h : R.sameD a b = true) : a = b := by
  cases a <;> cases b <;> simp [R.sameD] at h
  rw [D.same_eq _ _ h]
theorem run_of {P : Prog} {f : String} {fn : Fn} (h : P f = some fn) (n : Nat) (ds : List D) : run P (n+1) f ds = callFn (run P n) fn ds := by rw [run, h]

/-! ### the evaluator's equations, with named ends that simp does not look into -/
def R.b2 {α β γ : Type} (r : R α) (s : R β) (f : α → β → R γ) : R γ := r.bind fun x => s.bind fun y => f x y
def R.b3 {α β γ δ : Type} (r : R α) (s : R β) (t : R γ) (f : α → β → γ → R δ) : R δ := r.bind fun x => s.bind fun y => t.bind fun z => f x y z
def R.rcons {α : Type} (r : R α) (s : R (List α)) : R (List α) := r.bind fun x => s.bind fun xs => .ok (x :: xs)
theorem R.b2_ok {α β γ : Type} (a : α) (b : β) (f : α → β → R γ) : R.b2 (.ok a) (.ok b) f = f a b := rfl
theorem R.b3_ok {α β γ δ : Type} (a : α) (b : β) (c : γ) (f : α → β → γ → R δ) : R.b3 (.ok a) (.ok b) (.ok c) f = f a b c := rfl
theorem R.rcons_ok {α : Type} (a : α) (b : List α) : R.rcons (.ok a) (.ok b) = .ok (a :: b) := rfl
section
variable (Φ : String → List D → R D)
def andK (env : Env) (b : E) : D → R D
  | .bl true => ev Φ env b
  | .bl false => .ok (.bl false)
  | _ => .bad
def orK (env : Env) (b : E) : D → R D
  | .bl true => .ok (.bl true)
  | .bl false => ev Φ env b
  | _ => .bad
def chainK (env : Env) (p : O2) (y : D) (c : E) : D → R D
  | .bl true => (ev Φ env c).bind (op2 p y)
  | .bl false => .ok (.bl false)
  | _ => .bad
def chain1 (env : Env) (o p : O2) (c : E) (x y : D) : R D := (op2 o x y).bind (chainK Φ env p y c)
def condK (cond : Option E) (e1 : Env) : R D := match cond with | some q => ev Φ e1 q | none => .ok (.bl true)
def compI (env : Env) (t : T) (elt : E) (cond : Option E) (items : List D) : R D := .chk (decide (items.length ≤ LIM)) ((compL (fun d => bindT t d (wipeE env t.slots)) (fun e1 => match cond with | some q => ev Φ e1 q | none => .ok (.bl true)) (fun e1 => ev Φ e1 elt) items).bind fun ys => .ok (.lst ys))
def compK (env : Env) (t : T) (elt : E) (cond : Option E) (k : IK) (x y z : D) : R D := (walk k x y z).bind (compI Φ env t elt cond)
def mkT (xs : List D) : R D := .chk (decide (xs.length ≤ LIM)) (.ok (.tup xs))
def mkL (xs : List D) : R D := .chk (decide (xs.length ≤ LIM)) (.ok (.lst xs))
theorem ev_var (env : Env) (i : Nat) : ev Φ env (.var i) = getV env i := rfl
theorem ev_cst (env : Env) (d : D) : ev Φ env (.cst d) = .ok d := rfl
theorem ev_glb (env : Env) (x : String) (d : D) : ev Φ env (.glb x d) = .ok d := rfl
theorem ev_o1 (env : Env) (o : O1) (a : E) : ev Φ env (.o1 o a) = (ev Φ env a).bind (op1 o) := rfl
theorem ev_o2 (env : Env) (o : O2) (a b : E) : ev Φ env (.o2 o a b) = R.b2 (ev Φ env a) (ev Φ env b) (op2 o) := rfl
theorem ev_o3 (env : Env) (o : O3) (a b c : E) : ev Φ env (.o3 o a b c) = R.b3 (ev Φ env a) (ev Φ env b) (ev Φ env c) (op3 o) := rfl
theorem ev_and (env : Env) (a b : E) : ev Φ env (.and a b) = (ev Φ env a).bind (andK Φ env b) := by
  rw [ev]; rfl
theorem ev_or (env : Env) (a b : E) : ev Φ env (.or a b) = (ev Φ env a).bind (orK Φ env b) := by
  rw [ev]; rfl
theorem ev_chain (env : Env) (o p : O2) (a b c : E) : ev Φ env (.chain o p a b c) = R.b2 (ev Φ env a) (ev Φ env b) (chain1 Φ env o p c) := by
  rw [ev]; rfl
theorem ev_tup (env : Env) (es : List E) : ev Φ env (.tup es) = (evs Φ env es).bind mkT := rfl
theorem ev_lst (env : Env) (es : List E) : ev Φ env (.lst es) = (evs Φ env es).bind mkL := rfl
theorem ev_call (env : Env) (f : String) (es : List E) : ev Φ env (.call f es) = (evs Φ env es).bind (Φ f) := rfl
theorem ev_comp (env : Env) (k : IK) (a b c : E) (t : T) (elt : E) (cond : Option E) : ev Φ env (.comp k a b c t elt cond) = R.b3 (ev Φ env a) (ev Φ env b) (ev Φ env c) (compK Φ env t elt cond k) := by cases cond <;> rfl
theorem evs_nil (env : Env) : evs Φ env [] = .ok [] := rfl
theorem evs_cons (env : Env) (e : E) (es : List E) : evs Φ env (e :: es) = R.rcons (ev Φ env e) (evs Φ env es) := rfl
theorem andK_t (env : Env) (b : E) : andK Φ env b (.bl true) = ev Φ env b := rfl
theorem andK_f (env : Env) (b : E) : andK Φ env b (.bl false) = .ok (.bl false) := rfl
theorem orK_t (env : Env) (b : E) : orK Φ env b (.bl true) = .ok (.bl true) := rfl
theorem orK_f (env : Env) (b : E) : orK Φ env b (.bl false) = ev Φ env b := rfl
theorem chain1_eq (env : Env) (o p : O2) (c : E) (x y : D) : chain1 Φ env o p c x y = (op2 o x y).bind (chainK Φ env p y c) := rfl
theorem chainK_t (env : Env) (p : O2) (y : D) (c : E) : chainK Φ env p y c (.bl true) = (ev Φ env c).bind (op2 p y) := rfl
theorem chainK_f (env : Env) (p : O2) (y : D) (c : E) : chainK Φ env p y c (.bl false) = .ok (.bl false) := rfl
theorem compK_eq (env : Env) (t : T) (elt : E) (cond : Option E) (k : IK) (x y z : D) : compK Φ env t elt cond k x y z = (walk k x y z).bind (compI Φ env t elt cond) := rfl
/-! statements -/
def thenS (ss : List S) : Out → R Out
  | .nx e1 => evSs Φ ss e1
  | .rt d => .ok (.rt d)
def retK (d : D) : R Out := .ok (.rt d)
def nxK (e1 : Env) : R Out := .ok (.nx e1)
def asgK (t : T) (env : Env) (d : D) : R Out := (bindT t d env).bind nxK
def asgFK (t : T) (env : Env) (d : D) : R Out := .chk d.flat ((bindT t d env).bind nxK)
def ownK (env : Env) (i : Nat) : D → R Out
  | .lst xs => .ok (.nx (put env i (.lst xs)))
  | _ => .bad
def appK (env : Env) (i : Nat) (l d : D) : R Out := match l with
  | .lst xs => .chk (decide (xs.length < LIM)) (.ok (.nx (put env i (.lst (xs ++ [d])))))
  | _ => .bad
def extK (env : Env) (i : Nat) (l d : D) : R Out := match l, d with
  | .lst xs, .lst ys => .chk (decide (xs.length + ys.length ≤ LIM)) (.ok (.nx (put env i (.lst (xs ++ ys)))))
  | .lst xs, .tup ys => .chk (decide (xs.length + ys.length ≤ LIM)) (.ok (.nx (put env i (.lst (xs ++ ys)))))
  | _, _ => .bad
def setK (env : Env) (i : Nat) (d l k : D) : R Out := match l, k with
  | .lst xs, .int n => match ixI xs.length n with
    | some j => .chk d.flat (.ok (.nx (put env i (.lst (xs.set j d)))))
    | none => .bad
  | _, _ => .bad
def ifK (a b : List S) (env : Env) : D → R Out
  | .bl true => evSs Φ a env
  | .bl false => evSs Φ b env
  | _ => .bad
def forI (t : T) (body : List S) (env : Env) (items : List D) : R Out := forL t (evSs Φ body) items env
def forK (t : T) (body : List S) (env : Env) (k : IK) (x y z : D) : R Out := (walk k x y z).bind (forI Φ t body env)
def forMK (j : Nat) (t : T) (body : List S) (env : Env) : D → R Out
  | .lst xs => forI Φ t body (env.set j none) xs
  | _ => .bad
def whlK (n : Nat) (c : E) (body : List S) (env : Env) : R Out := whileL (fun e1 => ev Φ e1 c) (evSs Φ body) n env
def moveK (env : Env) (i j : Nat) (d : D) : R Out := (bindT (.nm i) d (env.set j none)).bind nxK
def doneK : Out → R D
  | .rt d => .ok d
  | .nx _ => .ok .non
theorem evSs_nil (env : Env) : evSs Φ [] env = .ok (.nx env) := rfl
theorem evSs_cons (s : S) (ss : List S) (env : Env) : evSs Φ (s :: ss) env = (evS Φ s env).bind (thenS Φ ss) := by
  rw [evSs]; rfl
theorem thenS_nx (ss : List S) (e1 : Env) : thenS Φ ss (.nx e1) = evSs Φ ss e1 := rfl
theorem thenS_rt (ss : List S) (d : D) : thenS Φ ss (.rt d) = .ok (.rt d) := rfl
theorem evS_ret (e : E) (env : Env) : evS Φ (.ret e) env = (ev Φ env e).bind retK := rfl
theorem retK_eq (d : D) : retK d = .ok (.rt d) := rfl
theorem nxK_eq (e : Env) : nxK e = .ok (.nx e) := rfl
theorem evS_asg (t : T) (e : E) (env : Env) : evS Φ (.asg t e) env = (ev Φ env e).bind (asgK t env) := rfl
theorem asgK_eq (t : T) (env : Env) (d : D) : asgK t env d = (bindT t d env).bind nxK := rfl
theorem evS_asgF (t : T) (e : E) (env : Env) : evS Φ (.asgF t e) env = (ev Φ env e).bind (asgFK t env) := rfl
theorem asgFK_eq (t : T) (env : Env) (d : D) : asgFK t env d = .chk d.flat ((bindT t d env).bind nxK) := rfl
theorem evS_move (i j : Nat) (env : Env) : evS Φ (.move i j) env = (getV env j).bind (moveK env i j) := rfl
theorem moveK_eq (env : Env) (i j : Nat) (d : D) : moveK env i j d = (bindT (.nm i) d (env.set j none)).bind nxK := rfl
theorem evS_own (i : Nat) (e : E) (env : Env) : evS Φ (.own i e) env = (ev Φ env e).bind (ownK env i) := by
  rw [evS]; rfl
theorem ownK_eq (env : Env) (i : Nat) (xs : List D) : ownK env i (.lst xs) = .ok (.nx (put env i (.lst xs))) := rfl
theorem evS_app (i : Nat) (e : E) (env : Env) : evS Φ (.app i e) env = R.b2 (getV env i) (ev Φ env e) (appK env i) := by
  rw [evS]; rfl
theorem appK_eq (env : Env) (i : Nat) (xs : List D) (d : D) : appK env i (.lst xs) d = .chk (decide (xs.length < LIM)) (.ok (.nx (put env i (.lst (xs ++ [d]))))) := rfl
theorem evS_ext (i : Nat) (e : E) (env : Env) : evS Φ (.ext i e) env = R.b2 (getV env i) (ev Φ env e) (extK env i) := by
  rw [evS]; rfl
theorem extK_l (env : Env) (i : Nat) (xs ys : List D) : extK env i (.lst xs) (.lst ys) = .chk (decide (xs.length + ys.length ≤ LIM)) (.ok (.nx (put env i (.lst (xs ++ ys))))) := rfl
theorem extK_t (env : Env) (i : Nat) (xs ys : List D) : extK env i (.lst xs) (.tup ys) = .chk (decide (xs.length + ys.length ≤ LIM)) (.ok (.nx (put env i (.lst (xs ++ ys))))) := rfl
theorem evS_setI (i : Nat) (a e : E) (env : Env) : evS Φ (.setI i a e) env = R.b3 (ev Φ env e) (getV env i) (ev Φ env a) (setK env i) := by
  rw [evS]; rfl
theorem evS_ifS (c : E) (a b : List S) (env : Env) : evS Φ (.ifS c a b) env = (ev Φ env c).bind (ifK Φ a b env) := by
  rw [evS]; rfl
theorem ifK_t (a b : List S) (env : Env) : ifK Φ a b env (.bl true) = evSs Φ a env := rfl
theorem ifK_f (a b : List S) (env : Env) : ifK Φ a b env (.bl false) = evSs Φ b env := rfl
theorem evS_forS (k : IK) (a b c : E) (t : T) (body : List S) (env : Env) : evS Φ (.forS k a b c t body) env = R.b3 (ev Φ env a) (ev Φ env b) (ev Φ env c) (forK Φ t body env k) := rfl
theorem forK_eq (t : T) (body : List S) (env : Env) (k : IK) (x y z : D) : forK Φ t body env k x y z = (walk k x y z).bind (forI Φ t body env) := rfl
theorem evS_forM (j : Nat) (t : T) (body : List S) (env : Env) : evS Φ (.forM j t body) env = (getV env j).bind (forMK Φ j t body env) := by
  rw [evS]; rfl
theorem forMK_eq (j : Nat) (t : T) (body : List S) (env : Env) (xs : List D) : forMK Φ j t body env (.lst xs) = forI Φ t body (env.set j none) xs := rfl
theorem evS_whl (n : Nat) (c : E) (body : List S) (env : Env) : evS Φ (.whl n c body) env = whlK Φ n c body env := rfl
theorem evS_nop (env : Env) : evS Φ .nop env = .ok (.nx env) := rfl
theorem callFn_eq (fn : Fn) (ds : List D) : callFn Φ fn ds = .chk (decide (ds.length = fn.ps.length)) ((evSs Φ fn.body (startEnv fn ds)).bind doneK) := by
  rw [callFn]; rfl
theorem doneK_rt (d : D) : doneK (.rt d) = .ok d := rfl
theorem mkT_ok {xs : List D} (h : xs.length ≤ 16777216) : mkT xs = .ok (.tup xs) := by exact R.chk_pos (decide_eq_true h)
theorem mkL_ok {xs : List D} (h : xs.length ≤ 16777216) : mkL xs = .ok (.lst xs) := by exact R.chk_pos (decide_eq_true h)
end
theorem ixI_nat {n i : Nat} (h : i < n) : ixI n (i : Int) = some i := by
  unfold ixI
  rw [if_pos (by omega), if_pos (by omega)]
  simp
theorem setK_ni (env : Env) (i : Nat) {d : D} {xs : List D} {j : Nat} (hj : j < xs.length) (hd : d.flat = true) : setK env i d (.lst xs) (ni j) = .ok (.nx (put env i (.lst (xs.set j d)))) := by
  simp only [setK, ni, ixI_nat hj, hd, R.chk_true]
/-! ### simp's equations -/
@[simp] theorem getV_z (a : D) (r : Env) : getV (some a :: r) 0 = .ok a := rfl
@[simp] theorem getV_s (x : Option D) (r : Env) (i : Nat) : getV (x :: r) (i+1) = getV r i := rfl
@[simp] theorem put_z (x : Option D) (r : Env) (d : D) : put (x :: r) 0 d = some d :: r := rfl
@[simp] theorem put_s (x : Option D) (r : Env) (i : Nat) (d : D) : put (x :: r) (i+1) d = x :: put r i d := rfl
@[simp] theorem bindT_nm (i : Nat) (d : D) (env : Env) : bindT (.nm i) d env = .chk (decide (i < env.length)) (.ok (put env i d)) := rfl
@[simp] theorem bindT_p2 (a b : T) (x y : D) (env : Env) : bindT (.p2 a b) (.tup [x, y]) env = (bindT a x env).bind fun e1 => bindT b y e1 := rfl
@[simp] theorem bindT_p3 (a b c : T) (x y z : D) (env : Env) : bindT (.p3 a b c) (.tup [x, y, z]) env = (bindT a x env).bind fun e1 => (bindT b y e1).bind fun e2 => bindT c z e2 := rfl
theorem R.bind_assoc {α β γ : Type} (r : R α) (f : α → R β) (g : β → R γ) : (r.bind f).bind g = r.bind fun a => (f a).bind g := by cases r <;> rfl
/-! ### walks -/
theorem compL_map {α : Type} {bnd : D → R Env} {cond elt : Env → R D} (f : α → D) (e : α → Env) (p : α → Bool) (g : α → D) : ∀ (xs : List α), (∀ x ∈ xs, bnd (f x) = .ok (e x)) → (∀ x ∈ xs, cond (e x) = .ok (.bl (p x))) → (∀ x ∈ xs, p x = true → elt (e x) = .ok (g x)) → compL bnd cond elt (xs.map f) = .ok ((xs.filter p).map g)
  | [], _, _, _ => rfl
  | x :: xs, hb, hc, hg => by
    have ih := compL_map f e p g xs (fun y hy => hb y (.tail _ hy)) (fun y hy => hc y (.tail _ hy)) (fun y hy => hg y (.tail _ hy))
    rw [List.map_cons, compL, hb x (.head _), R.bind_ok, hc x (.head _), R.bind_ok]
    cases hp : p x with
    | true => simp only [hg x (.head _) hp, R.bind_ok, ih, List.filter_cons_of_pos hp, List.map_cons]
    | false => simp only [ih, List.filter_cons, hp]; rfl
theorem compL_all {α : Type} {bnd : D → R Env} {elt : Env → R D} (f : α → D) (e : α → Env) (g : α → D) (xs : List α) (hb : ∀ x ∈ xs, bnd (f x) = .ok (e x)) (hg : ∀ x ∈ xs, elt (e x) = .ok (g x)) : compL bnd (fun _ => .ok (.bl true)) elt (xs.map f) = .ok (xs.map g) := by
  have := compL_map (cond := fun _ => .ok (.bl true)) (elt := elt) f e (fun _ => true) g xs hb (fun _ _ => rfl) (fun x hx _ => hg x hx)
  rwa [List.filter_eq_self.mpr (fun _ _ => rfl)] at this
theorem forL_fold {α β : Type} {t : T} {body : Env → R Out} (f : α → D) (Inv : β → Env → Prop) (step : β → α → β) : ∀ (xs : List α), (∀ b env x, x ∈ xs → Inv b env → ∃ env', ((bindT t (f x) env).bind fun e1 => body e1) = .ok (.nx env') ∧ Inv (step b x) env') → ∀ (b0 : β) (env0 : Env), Inv b0 env0 → ∃ env', forL t body (xs.map f) env0 = .ok (.nx env') ∧ Inv (xs.foldl step b0) env'
  | [], _, b0, env0, h0 => ⟨env0, rfl, h0⟩
  | x :: xs, h, b0, env0, h0 => by
    obtain ⟨e1, h1, i1⟩ := h b0 env0 x (.head _) h0
    obtain ⟨e2, h2, i2⟩ := forL_fold f Inv step xs (fun b env y hy hi => h b env y (.tail _ hy) hi) _ e1 i1
    refine ⟨e2, ?_, i2⟩
    rw [List.map_cons, forL, ← R.bind_assoc]
    simp only [h1, R.bind_ok, h2]
theorem compI_all {α : Type} {Φ : String → List D → R D} {env : Env} {t : T} {elt : E} (f : α → D) (e : α → Env) (g : α → D) {xs : List α} (hl : xs.length ≤ 16777216) (hb : ∀ x ∈ xs, bindT t (f x) (wipeE env t.slots) = .ok (e x)) (hg : ∀ x ∈ xs, ev Φ (e x) elt = .ok (g x)) : compI Φ env t elt none (xs.map f) = .ok (.lst (xs.map g)) := by
  rw [compI, R.chk_pos (decide_eq_true (by rw [List.length_map]; exact hl)), compL_all f e g xs hb hg]
  rfl
theorem compI_if {α : Type} {Φ : String → List D → R D} {env : Env} {t : T} {elt q : E} (f : α → D) (e : α → Env) (p : α → Bool) (g : α → D) {xs : List α} (hl : xs.length ≤ 16777216) (hb : ∀ x ∈ xs, bindT t (f x) (wipeE env t.slots) = .ok (e x)) (hp : ∀ x ∈ xs, ev Φ (e x) q = .ok (.bl (p x))) (hg : ∀ x ∈ xs, p x = true → ev Φ (e x) elt = .ok (g x)) : compI Φ env t elt (some q) (xs.map f) = .ok (.lst ((xs.filter p).map g)) := by
  rw [compI, R.chk_pos (decide_eq_true (by rw [List.length_map]; exact hl)), compL_map f e p g xs hb hp hg]
  rfl
theorem forI_fold {α β : Type} {Φ : String → List D → R D} {t : T} {body : List S} (f : α → D) (Inv : β → Env → Prop) (step : β → α → β) (xs : List α) (h : ∀ b env x, x ∈ xs → Inv b env → ∃ env', (bindT t (f x) env).bind (evSs Φ body) = .ok (.nx env') ∧ Inv (step b x) env') (b0 : β) (env0 : Env) (h0 : Inv b0 env0) : ∃ env', forI Φ t body env0 (xs.map f) = .ok (.nx env') ∧ Inv (xs.foldl step b0) env' := forL_fold f Inv step xs h b0 env0 h0
/-- a for, by what has been walked -/
theorem forL_pre {α : Type} {t : T} {body : Env → R Out} (f : α → D) (Inv : List α → Env → Prop) : ∀ (post pre : List α) (env0 : Env), (∀ p x q env, pre ++ post = p ++ x :: q → Inv p env → ∃ env', ((bindT t (f x) env).bind fun e1 => body e1) = .ok (.nx env') ∧ Inv (p ++ [x]) env') → Inv pre env0 → ∃ env', forL t body (post.map f) env0 = .ok (.nx env') ∧ Inv (pre ++ post) env'
  | [], pre, env0, _, h0 => ⟨env0, rfl, by rw [List.append_nil]; exact h0⟩
  | x :: xs, pre, env0, h, h0 => by
    obtain ⟨e1, h1, i1⟩ := h pre x xs env0 rfl h0
    obtain ⟨e2, h2, i2⟩ := forL_pre f Inv xs (pre ++ [x]) e1 (fun p y q env e hi => h p y q env (by rw [← e, List.append_assoc]; rfl) hi) i1
    refine ⟨e2, ?_, by rw [List.append_assoc] at i2; exact i2⟩
    rw [List.map_cons, forL, ← R.bind_assoc]
    simp only [h1, R.bind_ok, h2]
theorem forI_pre {α : Type} {Φ : String → List D → R D} {t : T} {body : List S} (f : α → D) (Inv : List α → Env → Prop) (xs : List α) (env0 : Env) (h : ∀ p x q env, xs = p ++ x :: q → Inv p env → ∃ env', (bindT t (f x) env).bind (evSs Φ body) = .ok (.nx env') ∧ Inv (p ++ [x]) env') (h0 : Inv [] env0) : ∃ env', forI Φ t body env0 (xs.map f) = .ok (.nx env') ∧ Inv xs env' := forL_pre f Inv xs [] env0 h h0
theorem forI_then {α β : Type} {Φ : String → List D → R D} {t : T} {body : List S} {env0 : Env} {K : Out → R β} {r : R β} (f : α → D) (Inv : List α → Env → Prop) {xs : List α} (h0 : Inv [] env0) (h : ∀ p x q env, xs = p ++ x :: q → Inv p env → ∃ env', (bindT t (f x) env).bind (evSs Φ body) = .ok (.nx env') ∧ Inv (p ++ [x]) env') (hk : ∀ env', Inv xs env' → K (.nx env') = r) : (forI Φ t body env0 (xs.map f)).bind K = r := by
  obtain ⟨env', h1, h2⟩ := forI_pre f Inv xs env0 h h0
  rw [h1]
  exact hk env' h2
/-- a while, as a plain walk -/
def iterW {σ : Type} (c : σ → Bool) (step : σ → σ) : Nat → σ → Option σ
  | 0, _ => none
  | n + 1, s => if c s then iterW c step n (step s) else some s
theorem whileL_iter {σ : Type} {cond : Env → R D} {body : Env → R Out} (Inv : σ → Env → Prop) (c : σ → Bool) (step : σ → σ) (hc : ∀ s env, Inv s env → cond env = .ok (.bl (c s))) (hs : ∀ s env, Inv s env → c s = true → ∃ env', body env = .ok (.nx env') ∧ Inv (step s) env') : ∀ (n : Nat) (s s' : σ) (env : Env), Inv s env → iterW c step n s = some s' → ∃ env', whileL cond body n env = .ok (.nx env') ∧ Inv s' env'
  | 0, s, s', env, _, e => by cases e
  | n + 1, s, s', env, hi, e => by
    rw [iterW] at e
    rw [whileL, hc s env hi, R.bind_ok]
    cases hcs : c s with
    | true =>
      rw [hcs] at e
      obtain ⟨e1, h1, i1⟩ := hs s env hi hcs
      obtain ⟨e2, h2, i2⟩ := whileL_iter Inv c step hc hs n (step s) s' e1 i1 e
      exact ⟨e2, by simp only [h1, R.bind_ok, h2], i2⟩
    | false =>
      rw [hcs] at e
      cases e
      exact ⟨env, rfl, hi⟩
/-! ### typed data -/
theorem ni_def (n : Nat) : ni n = .int (n : Int) := rfl
theorem rangeL_nat (n : Nat) : rangeL 0 (n : Int) = (List.range n).map ni := by
  unfold rangeL ni
  simp
class Enc {α : Type} (f : α → D) (d : outParam Nat) : Prop where
  cmp : ∀ n a, d ≤ n → D.cmpb n (f a) = true
  eqv : ∀ a b, D.eqv (f a) (f b) = true ↔ a = b
theorem Enc.beq {α : Type} [DecidableEq α] {f : α → D} {d : Nat} (E : Enc f d) (a b : α) : D.eqv (f a) (f b) = decide (a = b) := by
  rw [Bool.eq_iff_iff, E.eqv, decide_eq_true_eq]
instance : Enc D.int 0 := ⟨fun n a _ => by cases n <;> rfl, fun a b => by simp [D.eqv]⟩
instance : Enc ni 0 := ⟨fun n a _ => by cases n <;> rfl, fun a b => by simp [ni, D.eqv]; omega⟩
instance : Enc D.str 0 := ⟨fun n a _ => by cases n <;> rfl, fun a b => by simp [D.eqv]⟩
def tupE {α : Type} (f : α → D) (l : List α) : D := .tup (l.map f)
def lstE {α : Type} (f : α → D) (l : List α) : D := .lst (l.map f)
theorem Enc.cmps {α : Type} {f : α → D} {d n : Nat} (E : Enc f d) (h : d ≤ n) : ∀ l : List α, D.cmpbs n (l.map f) = true
  | [] => by cases n <;> rfl
  | x :: l => by rw [List.map_cons, D.cmpbs, E.cmp n x h, E.cmps h l]; rfl
theorem Enc.eqvs {α : Type} {f : α → D} {d : Nat} (E : Enc f d) : ∀ l m : List α, D.eqvs (l.map f) (m.map f) = true ↔ l = m
  | [], [] => by simp [D.eqvs]
  | [], y :: m => by simp [D.eqvs]
  | x :: l, [] => by simp [D.eqvs]
  | x :: l, y :: m => by simp [D.eqvs, E.eqv, E.eqvs l m]
instance {α : Type} {f : α → D} {d : Nat} [E : Enc f d] : Enc (tupE f) (d + 1) := ⟨fun n a h => by
  cases n with
  | zero => omega
  | succ n => exact E.cmps (by omega) a, fun a b => by simp only [tupE, D.eqv]; exact E.eqvs a b⟩
instance {α : Type} {f : α → D} {d : Nat} [E : Enc f d] : Enc (lstE f) (d + 1) := ⟨fun n a h => by
  cases n with
  | zero => omega
  | succ n => exact E.cmps (by omega) a, fun a b => by simp only [lstE, D.eqv]; exact E.eqvs a b⟩
def pairE {α β : Type} (f : α → D) (g : β → D) (p : α × β) : D := .tup [f p.1, g p.2]
instance {α β : Type} {f : α → D} {g : β → D} {d e : Nat} [E : Enc f d] [G : Enc g e] : Enc (pairE f g) (max d e + 1) := ⟨fun n a h => by
  cases n with
  | zero => omega
  | succ n =>
    have h1 := E.cmp n a.1 (by omega)
    have h2 := G.cmp n a.2 (by omega)
    simp [pairE, D.cmpb, D.cmpbs, h1, h2], fun a b => by
  obtain ⟨a1, a2⟩ := a
  obtain ⟨b1, b2⟩ := b
  simp [pairE, D.eqv, D.eqvs, E.eqv, G.eqv]⟩
section
variable {α : Type} [DecidableEq α] {f : α → D} {d : Nat} [E : Enc f d]
include E
theorem eqD_enc (h : d ≤ 60) (a b : α) : eqD (f a) (f b) = .ok (.bl (decide (a = b))) := by
  rw [eqD, E.cmp 60 a h, E.cmp 60 b h, E.beq]; rfl
theorem neD_enc (h : d ≤ 60) (a b : α) : neD (f a) (f b) = .ok (.bl (!decide (a = b))) := by
  rw [neD, E.cmp 60 a h, E.cmp 60 b h, E.beq]; rfl
theorem any_enc (xs : List α) (a : α) : ((xs.map f).any fun z => D.eqv z (f a)) = decide (a ∈ xs) := by
  rw [Bool.eq_iff_iff, List.any_eq_true, decide_eq_true_eq]
  constructor
  · rintro ⟨z, hz, hq⟩
    obtain ⟨b, hb, rfl⟩ := List.mem_map.mp hz
    rw [(E.eqv b a).mp hq] at hb
    exact hb
  · exact fun h => ⟨f a, List.mem_map_of_mem h, (E.eqv a a).mpr rfl⟩
theorem cmp60L (h : d ≤ 59) (xs : List α) : D.cmpb 60 (.lst (xs.map f)) = true := by
  have := E.cmps h xs
  simpa [D.cmpb] using this
theorem cmp60T (h : d ≤ 59) (xs : List α) : D.cmpb 60 (.tup (xs.map f)) = true := by
  have := E.cmps h xs
  simpa [D.cmpb] using this
theorem inD_lst (h : d ≤ 59) (a : α) (xs : List α) : inD (f a) (.lst (xs.map f)) = .ok (.bl (decide (a ∈ xs))) := by
  simp only [inD, E.cmp 59 a h, cmp60L h xs, any_enc]; rfl
theorem inD_tup (h : d ≤ 59) (a : α) (xs : List α) : inD (f a) (.tup (xs.map f)) = .ok (.bl (decide (a ∈ xs))) := by
  simp only [inD, E.cmp 59 a h, cmp60T h xs, any_enc]; rfl
theorem notinD_lst (h : d ≤ 59) (a : α) (xs : List α) : notinD (f a) (.lst (xs.map f)) = .ok (.bl (!decide (a ∈ xs))) := by
  rw [notinD, inD_lst h]; rfl
theorem notinD_tup (h : d ≤ 59) (a : α) (xs : List α) : notinD (f a) (.tup (xs.map f)) = .ok (.bl (!decide (a ∈ xs))) := by
  rw [notinD, inD_tup h]; rfl
theorem countP_enc (xs : List α) (a : α) : ((xs.map f).countP fun z => D.eqv z (f a)) = xs.count a := by
  rw [List.countP_map, List.count]
  congr 1
  funext z
  show D.eqv (f z) (f a) = (z == a)
  rw [E.beq]
  rfl
theorem countD_tup (h : d ≤ 59) (a : α) (xs : List α) : countD (.tup (xs.map f)) (f a) = .ok (ni (xs.count a)) := by
  simp only [countD, E.cmp 59 a h, cmp60T h xs, countP_enc]; rfl
theorem countD_lst (h : d ≤ 59) (a : α) (xs : List α) : countD (.lst (xs.map f)) (f a) = .ok (ni (xs.count a)) := by
  simp only [countD, E.cmp 59 a h, cmp60L h xs, countP_enc]; rfl
theorem findIdx_enc (a : α) : ∀ (xs : List α), a ∈ xs → ((xs.map f).findIdx? fun z => D.eqv z (f a)) = some (xs.idxOf a)
  | [], h => by cases h
  | x :: xs, h => by
    rw [List.map_cons, List.findIdx?_cons, E.beq]
    by_cases e : x = a
    · subst e
      simp
    · have ha : a ∈ xs := by
        rcases List.mem_cons.mp h with h1 | h1
        · exact absurd h1.symm e
        · exact h1
      rw [findIdx_enc a xs ha, List.idxOf_cons]
      have e2 : (x == a) = false := beq_eq_false_iff_ne.mpr e
      simp [e, e2]
theorem placeD_enc (a : α) (xs : List α) (h : a ∈ xs) : placeD (xs.map f) (f a) = .ok (ni (xs.idxOf a)) := by
  rw [placeD, findIdx_enc a xs h]; rfl
theorem indexD_lst (h : d ≤ 59) (a : α) (xs : List α) (ha : a ∈ xs) : indexD (.lst (xs.map f)) (f a) = .ok (ni (xs.idxOf a)) := by
  simp only [indexD, E.cmp 59 a h, cmp60L h xs]; exact placeD_enc a xs ha
theorem indexD_tup (h : d ≤ 59) (a : α) (xs : List α) (ha : a ∈ xs) : indexD (.tup (xs.map f)) (f a) = .ok (ni (xs.idxOf a)) := by
  simp only [indexD, E.cmp 59 a h, cmp60T h xs]; exact placeD_enc a xs ha
end
/-! ### the operations at numbers -/
@[simp] theorem lenD_lst (xs : List D) : lenD (.lst xs) = .ok (ni xs.length) := rfl
@[simp] theorem lenD_tup (xs : List D) : lenD (.tup xs) = .ok (ni xs.length) := rfl
@[simp] theorem lenD_scr (xs : List Int) : lenD (.scr xs) = .ok (ni xs.length) := rfl
@[simp] theorem tupleD_lst (xs : List D) : tupleD (.lst xs) = .ok (.tup xs) := rfl
@[simp] theorem tupleD_tup (xs : List D) : tupleD (.tup xs) = .ok (.tup xs) := rfl
@[simp] theorem listD_lst (xs : List D) : listD (.lst xs) = .ok (.lst xs) := rfl
@[simp] theorem listD_tup (xs : List D) : listD (.tup xs) = .ok (.lst xs) := rfl
@[simp] theorem notD_bl (b : Bool) : notD (.bl b) = .ok (.bl (!b)) := rfl
@[simp] theorem addD_ni (a b : Nat) : addD (ni a) (ni b) = .ok (ni (a + b)) := rfl
theorem subD_ni {a b : Nat} (h : b ≤ a) : subD (ni a) (ni b) = .ok (ni (a - b)) := by
  show R.ok (D.int _) = R.ok (D.int _)
  rw [Int.natCast_sub h]
theorem mulD_ni {a b : Nat} (h : a < 2 ^ 64 ∨ b < 2 ^ 64) : mulD (ni a) (ni b) = .ok (ni (a * b)) := by
  rw [ni, ni, ni, mulD, R.chk_pos, Int.natCast_mul]
  simp only [small64, Bool.or_eq_true, Bool.and_eq_true, decide_eq_true_eq]
  omega
theorem fdivD_ni {a b : Nat} (h : 0 < b) (h2 : b < 1073741824) : fdivD (ni a) (ni b) = .ok (ni (a / b)) := by
  show R.chk _ (R.ok (D.int _)) = R.ok (D.int _)
  rw [R.chk_pos, Int.natCast_ediv]
  simp only [Bool.and_eq_true, decide_eq_true_eq]
  omega
theorem modD_ni {a b : Nat} (h : 0 < b) : modD (ni a) (ni b) = .ok (ni (a % b)) := by
  show R.chk _ (R.ok (D.int _)) = R.ok (D.int _)
  rw [R.chk_pos, Int.natCast_emod]
  simp only [Bool.and_eq_true, decide_eq_true_eq]
  omega
@[simp] theorem eqD_ni (a b : Nat) : eqD (ni a) (ni b) = .ok (.bl (decide (a = b))) := eqD_enc (by omega) a b
@[simp] theorem neD_ni (a b : Nat) : neD (ni a) (ni b) = .ok (.bl (!decide (a = b))) := neD_enc (by omega) a b
@[simp] theorem op2_add (x y : D) : op2 .add x y = addD x y := rfl
@[simp] theorem op2_sub (x y : D) : op2 .sub x y = subD x y := rfl
@[simp] theorem op2_mul (x y : D) : op2 .mul x y = mulD x y := rfl
@[simp] theorem op2_fdiv (x y : D) : op2 .fdiv x y = fdivD x y := rfl
@[simp] theorem op2_mod (x y : D) : op2 .mod x y = modD x y := rfl
@[simp] theorem op2_pow (x y : D) : op2 .pow x y = powD x y := rfl
@[simp] theorem op2_eq (x y : D) : op2 .eq x y = eqD x y := rfl
@[simp] theorem op2_ne (x y : D) : op2 .ne x y = neD x y := rfl
@[simp] theorem op2_le (x y : D) : op2 .le x y = leD x y := rfl
@[simp] theorem op2_isin (x y : D) : op2 .isin x y = inD x y := rfl
@[simp] theorem op2_notin (x y : D) : op2 .notin x y = notinD x y := rfl
@[simp] theorem op2_item (x y : D) : op2 .item x y = itemD x y := rfl
@[simp] theorem op2_count (x y : D) : op2 .count x y = countD x y := rfl
@[simp] theorem op2_index (x y : D) : op2 .index x y = indexD x y := rfl
@[simp] theorem op2_join (x y : D) : op2 .join x y = joinD x y := rfl
@[simp] theorem op2_split (x y : D) : op2 .split x y = splitD x y := rfl
@[simp] theorem op2_min2 (x y : D) : op2 .min2 x y = min2D x y := rfl
@[simp] theorem op2_max2 (x y : D) : op2 .max2 x y = max2D x y := rfl
@[simp] theorem op2_from_ (x y : D) : op2 .from_ x y = fromD x y := rfl
@[simp] theorem op2_upto (x y : D) : op2 .upto x y = uptoD x y := rfl
@[simp] theorem op1_neg (x : D) : op1 .neg x = negD x := rfl
@[simp] theorem op1_len (x : D) : op1 .len x = lenD x := rfl
@[simp] theorem op1_tuple (x : D) : op1 .tuple x = tupleD x := rfl
@[simp] theorem op1_list (x : D) : op1 .list x = listD x := rfl
@[simp] theorem op1_sorted (x : D) : op1 .sorted x = sortedD x := rfl
@[simp] theorem op1_sum (x : D) : op1 .sum x = sumD x := rfl
@[simp] theorem op1_min (x : D) : op1 .min x = minD x := rfl
@[simp] theorem op1_max (x : D) : op1 .max x = maxD x := rfl
@[simp] theorem op1_all (x : D) : op1 .all x = allD x := rfl
@[simp] theorem op1_str (x : D) : op1 .str x = strD x := rfl
@[simp] theorem op1_int (x : D) : op1 .int x = intD x := rfl
@[simp] theorem op1_rev (x : D) : op1 .rev x = revD x := rfl
@[simp] theorem op1_step2 (x : D) : op1 .step2 x = step2D x := rfl
@[simp] theorem op1_sset (x : D) : op1 .sset x = ssetD x := rfl
@[simp] theorem op1_listRange (x : D) : op1 .listRange x = listRangeD x := rfl
@[simp] theorem op1_lenset (x : D) : op1 .lenset x = lensetD x := rfl
@[simp] theorem op1_upper (x : D) : op1 .upper x = upperD x := rfl
@[simp] theorem op1_sortedS (x : D) : op1 .sortedS x = sortedSD x := rfl
@[simp] theorem op1_ssetS (x : D) : op1 .ssetS x = ssetSD x := rfl
@[simp] theorem op1_intS (x : D) : op1 .intS x = intSD x := rfl
@[simp] theorem op1_not (x : D) : op1 .not x = notD x := rfl
@[simp] theorem ltD_ni (a b : Nat) : op2 .lt (ni a) (ni b) = .ok (.bl (decide (a < b))) := by
  show R.ok (D.bl (decide ((a : Int) < b))) = _
  simp
@[simp] theorem gtD_ni (a b : Nat) : op2 .gt (ni a) (ni b) = .ok (.bl (decide (b < a))) := by
  show R.ok (D.bl (decide ((b : Int) < a))) = _
  simp
@[simp] theorem geD_ni (a b : Nat) : op2 .ge (ni a) (ni b) = .ok (.bl (decide (b ≤ a))) := by
  show R.ok (D.bl (decide ((b : Int) ≤ a))) = _
  simp
@[simp] theorem leD_ni (a b : Nat) : leD (ni a) (ni b) = .ok (.bl (decide (a ≤ b))) := by
  show R.ok (D.bl (decide ((a : Int) ≤ b))) = _
  simp
theorem atD_nat {α : Type} (xs : List α) (i : Nat) : atD xs (i : Int) = xs[i]? := by
  unfold atD ixI
  rw [if_pos (by omega)]
  by_cases h : i < xs.length
  · rw [if_pos (by omega)]
    simp
  · rw [if_neg (by omega)]
    simp
    omega
theorem itemD_tup {xs : List D} {i : Nat} {d : D} (h : xs[i]? = some d) : itemD (.tup xs) (ni i) = .ok d := by
  simp only [itemD, ni, atD_nat, h]
theorem itemD_lst {xs : List D} {i : Nat} {d : D} (h : xs[i]? = some d) : itemD (.lst xs) (ni i) = .ok d := by
  simp only [itemD, ni, atD_nat, h]
theorem itemD_tupE {α : Type} {f : α → D} {xs : List α} {i : Nat} {a : α} (h : xs[i]? = some a) : itemD (.tup (xs.map f)) (ni i) = .ok (f a) := itemD_tup (by rw [List.getElem?_map, h]; rfl)
theorem itemD_lstE {α : Type} {f : α → D} {xs : List α} {i : Nat} {a : α} (h : xs[i]? = some a) : itemD (.lst (xs.map f)) (ni i) = .ok (f a) := itemD_lst (by rw [List.getElem?_map, h]; rfl)
theorem bigI_nat {n : Nat} (h : n < 2 ^ 62) : bigI (n : Int) = true := by
  simp only [bigI, Bool.and_eq_true, decide_eq_true_eq]
  omega
theorem walk_range1 {n : Nat} (h : n < 2 ^ 62) (b c : D) : walk .range1 (ni n) b c = .ok ((List.range n).map ni) := by
  rw [ni, walk, bigI_nat h, rangeL_nat, R.chk_true]
@[simp] theorem walk_lst (xs : List D) (b c : D) : walk .seq (.lst xs) b c = .ok xs := rfl
@[simp] theorem walk_tup (xs : List D) (b c : D) : walk .seq (.tup xs) b c = .ok xs := rfl
theorem addD_tup {xs ys : List D} (h : xs.length + ys.length ≤ LIM) : addD (.tup xs) (.tup ys) = .ok (.tup (xs ++ ys)) := by
  simp only [addD, decide_eq_true h, R.chk_true]
theorem addD_lst {xs ys : List D} (h : xs.length + ys.length ≤ LIM) : addD (.lst xs) (.lst ys) = .ok (.lst (xs ++ ys)) := by
  simp only [addD, decide_eq_true h, R.chk_true]
theorem addD_str {xs ys : List Nat} (h : xs.length + ys.length ≤ LIM) : addD (.str xs) (.str ys) = .ok (.str (xs ++ ys)) := by
  simp only [addD, decide_eq_true h, R.chk_true]
/-! ### slices, order -/
theorem cutL_from {α : Type} {xs : List α} {p : Nat} (h : p ≤ xs.length) : cutL xs (some (p : Int)) none = xs.drop p := by
  have e : sIx xs.length 0 (some (p : Int)) = p := by
    unfold sIx
    simp only
    rw [if_neg (by omega)]
    simp
    omega
  rw [cutL, e, sIx]
  exact List.take_of_length_le (by rw [List.length_drop]; omega)
theorem cutL_upto {α : Type} {xs : List α} (p : Nat) : cutL xs none (some (p : Int)) = xs.take p := by
  have e : sIx xs.length xs.length (some (p : Int)) = min p xs.length := by
    unfold sIx
    simp only
    rw [if_neg (by omega)]
    simp
  rw [cutL, e, sIx]
  simp only [Nat.sub_zero, List.drop_zero]
  rw [List.take_eq_take_iff]
  omega
theorem fromD_tup {xs : List D} {p : Nat} (h : p ≤ xs.length) : fromD (.tup xs) (ni p) = .ok (.tup (xs.drop p)) := by
  simp only [fromD, ni, cutD, cutL_from h]
theorem fromD_lst {xs : List D} {p : Nat} (h : p ≤ xs.length) : fromD (.lst xs) (ni p) = .ok (.lst (xs.drop p)) := by
  simp only [fromD, ni, cutD, cutL_from h]
theorem uptoD_tup {xs : List D} (p : Nat) : uptoD (.tup xs) (ni p) = .ok (.tup (xs.take p)) := by
  simp only [uptoD, ni, cutD, cutL_upto]
theorem uptoD_lst {xs : List D} (p : Nat) : uptoD (.lst xs) (ni p) = .ok (.lst (xs.take p)) := by
  simp only [uptoD, ni, cutD, cutL_upto]
theorem uptoD_str {xs : List Nat} (p : Nat) (h : xs.length ≤ 16777216) : uptoD (.str xs) (ni p) = .ok (.str (xs.take p)) := by
  simp only [uptoD, ni, cutD, cutL_upto, R.chk_pos (decide_eq_true (show xs.length ≤ LIM from h))]
theorem fromD_str {xs : List Nat} {p : Nat} (h : p ≤ xs.length) (hl : xs.length ≤ 16777216) : fromD (.str xs) (ni p) = .ok (.str (xs.drop p)) := by
  simp only [fromD, ni, cutD, cutL_from h, R.chk_pos (decide_eq_true (show xs.length ≤ LIM from hl))]
class OrdE {α : Type} (f : α → D) (lt : outParam (α → α → Bool)) : Prop where
  lt : ∀ a b, D.lt (f a) (f b) = lt a b
  al : ∀ a b, D.alike (f a) (f b) = true
instance : OrdE D.int (fun a b => decide (a < b)) := ⟨fun _ _ => rfl, fun _ _ => rfl⟩
instance : OrdE ni (fun a b => decide (a < b)) := ⟨fun a b => by simp [ni, D.lt], fun _ _ => rfl⟩
instance : OrdE D.str ltStr := ⟨fun _ _ => rfl, fun _ _ => rfl⟩
def lexB {α : Type} [DecidableEq α] (lt : α → α → Bool) : List α → List α → Bool
  | [], [] => false
  | [], _ :: _ => true
  | _ :: _, [] => false
  | x :: xs, y :: ys => if x = y then lexB lt xs ys else lt x y
theorem lts_enc {α : Type} [DecidableEq α] {f : α → D} {lt : α → α → Bool} {d : Nat} (E : Enc f d) (O : OrdE f lt) : ∀ l m : List α, D.lts (l.map f) (m.map f) = lexB lt l m
  | [], [] => rfl
  | [], _ :: _ => rfl
  | _ :: _, [] => rfl
  | x :: l, y :: m => by
    simp only [List.map_cons, D.lts, E.beq, decide_eq_true_eq, lexB, O.lt, lts_enc E O l m]
theorem alikes_enc {α : Type} {f : α → D} {lt : α → α → Bool} (O : OrdE f lt) : ∀ l m : List α, D.alikes (l.map f) (m.map f) = true
  | [], [] => rfl
  | [], _ :: _ => rfl
  | _ :: _, [] => rfl
  | x :: l, y :: m => by
    simp only [List.map_cons, D.alikes, O.al, alikes_enc O l m]; rfl
instance {α : Type} [DecidableEq α] {f : α → D} {lt : α → α → Bool} {d : Nat} [E : Enc f d] [O : OrdE f lt] : OrdE (tupE f) (lexB lt) := ⟨fun a b => lts_enc E O a b, fun a b => alikes_enc O a b⟩
def sortB {α : Type} (lt : α → α → Bool) (xs : List α) : List α := xs.mergeSort fun a b => !lt b a
theorem sortB_perm {α : Type} (lt : α → α → Bool) (xs : List α) : (sortB lt xs).Perm xs := List.mergeSort_perm _ _
theorem sortD_enc {α : Type} {f : α → D} {lt : α → α → Bool} (O : OrdE f lt) (xs : List α) : sortD D.lt (xs.map f) = (sortB lt xs).map f := by
  rw [sortD, sortB]
  refine (List.map_mergeSort fun a _ b _ => ?_).symm
  rw [O.lt]
theorem alikeAll_enc {α : Type} {f : α → D} {lt : α → α → Bool} (O : OrdE f lt) (xs : List α) : alikeAll (xs.map f) = true := by
  simp only [alikeAll, List.all_eq_true, List.mem_map]
  rintro x ⟨a, _, rfl⟩ y ⟨b, _, rfl⟩
  exact O.al a b
theorem sortedD_enc {α : Type} {f : α → D} {lt : α → α → Bool} {d : Nat} (E : Enc f d) (O : OrdE f lt) (hd : d ≤ 58) {xs : List α} (hs : sortable (xs.map f) = true) (hl : xs.length ≤ 16777216) (v : D) (hv : itemsD v = some (xs.map f)) : sortedD v = .ok (.lst ((sortB lt xs).map f)) := by
  simp only [sortedD, hv, alikeAll_enc O, hs, E.cmps hd, sortD_enc O, List.length_map, R.chk_pos (decide_eq_true (show xs.length ≤ LIM from hl)), Bool.and_true, Bool.true_and]
theorem sortable_tup {α : Type} {f : α → D} {xs : List (List α)} (h : ∀ x ∈ xs, x ≠ []) : sortable (xs.map (tupE f)) = true := by
  simp only [sortable, Bool.or_eq_true, List.all_eq_true, List.mem_map]
  refine .inl ?_
  rintro y ⟨x, hx, rfl⟩
  cases x with
  | nil => exact absurd rfl (h _ hx)
  | cons a x => rfl
/-! ### sameness of a thing with itself; kinds -/
mutual
theorem eqv_refl : ∀ (x : D) (n : Nat), D.cmpb n x = true → D.eqv x x = true
  | .non, _, _ => rfl
  | .bl a, _, _ => by simp [D.eqv]
  | .int a, _, _ => by simp [D.eqv]
  | .str a, _, _ => by simp [D.eqv]
  | .scr a, n, h => by cases n <;> simp [D.cmpb] at h
  | .lst xs, n, h => by
    cases n with
    | zero => simp [D.cmpb] at h
    | succ n => exact eqvs_refl xs n (by simpa [D.cmpb] using h)
  | .tup xs, n, h => by
    cases n with
    | zero => simp [D.cmpb] at h
    | succ n => exact eqvs_refl xs n (by simpa [D.cmpb] using h)
theorem eqvs_refl : ∀ (x : List D) (n : Nat), D.cmpbs n x = true → D.eqvs x x = true
  | [], _, _ => rfl
  | x :: xs, n, h => by
    simp only [D.cmpbs, Bool.and_eq_true] at h
    simp only [D.eqvs, eqv_refl x n h.1, eqvs_refl xs n h.2, Bool.and_self]
end
theorem eqD_self {x : D} (h : D.cmpb 60 x = true) : eqD x x = .ok (.bl true) := by rw [eqD, h, eqv_refl x 60 h]; rfl
theorem neD_self {x : D} (h : D.cmpb 60 x = true) : neD x x = .ok (.bl false) := by rw [neD, h, eqv_refl x 60 h]; rfl
theorem eqD_bl (a b : Bool) : eqD (.bl a) (.bl b) = .ok (.bl (a == b)) := rfl
theorem neD_bl (a b : Bool) : neD (.bl a) (.bl b) = .ok (.bl (!(a == b))) := rfl
theorem isBool_bl (b : Bool) : op1 .isBool (.bl b) = .ok (.bl true) := rfl
theorem isTrue_bl (b : Bool) : op1 .isTrue (.bl b) = .ok (.bl b) := rfl
theorem notTrue_bl (b : Bool) : op1 .notTrue (.bl b) = .ok (.bl (!b)) := rfl
theorem isFalse_bl (b : Bool) : op1 .isFalse (.bl b) = .ok (.bl (!b)) := rfl
theorem notFalse_bl (b : Bool) : op1 .notFalse (.bl b) = .ok (.bl b) := rfl
theorem limN (n : Nat) : (n ≤ LIM) = (n ≤ 16777216) := rfl
theorem limNlt (n : Nat) : (n < LIM) = (n < 16777216) := rfl
theorem evSs_app {Φ : String → List D → R D} : ∀ {a b : List S} {env e1 : Env}, evSs Φ a env = .ok (.nx e1) → evSs Φ (a ++ b) env = evSs Φ b e1
  | [], b, env, e1, h => by cases h; rfl
  | s :: a, b, env, e1, h => by
    rw [evSs_cons] at h
    obtain ⟨o, h1, h2⟩ := R.bind_ok_inv h
    rw [List.cons_append, evSs_cons, h1, R.bind_ok]
    cases o with
    | nx e2 => exact evSs_app (a := a) h2
    | rt d => cases h2
/-- a def's body in two parts -/
theorem call_two {Φ : String → List D → R D} {fn : Fn} {ds : List D} {d : D} (n : Nat) (e1 : Env) (hl : ds.length = fn.ps.length) (h1 : evSs Φ (fn.body.take n) (startEnv fn ds) = .ok (.nx e1)) (h2 : evSs Φ (fn.body.drop n) e1 = .ok (.rt d)) : callFn Φ fn ds = .ok d := by
  have e := evSs_app (b := fn.body.drop n) h1
  rw [List.take_append_drop] at e
  rw [callFn_eq, R.chk_pos (decide_eq_true hl), e, h2]
  rfl
theorem max2D_0 (i : Int) : max2D (ni 0) (.int i) = .ok (ni i.toNat) := by
  show R.ok (D.int (if (0 : Int) < i then i else 0)) = R.ok (D.int _)
  congr 2
  split <;> omega
theorem rep_one {α : Type} (n : Nat) (a : α) : rep n [a] = List.replicate n a := by
  unfold rep
  induction n with
  | zero => rfl
  | succ n ih => rw [List.replicate_succ, List.flatten_cons, ih]; rfl
theorem mulD_tup1 {d : D} {k : Int} (h : k ≤ 16777216) (h2 : -16777216 ≤ k) : mulD (.tup [d]) (.int k) = .ok (.tup (List.replicate k.toNat d)) := by
  rw [mulD, R.chk_pos, rep_one]
  rw [Bool.and_eq_true, bigI, Bool.and_eq_true]
  refine ⟨decide_eq_true ?_, decide_eq_true ?_, decide_eq_true ?_⟩
  · show 1 * k.toNat ≤ LIM
    unfold LIM
    omega
  · omega
  · omega
theorem mulD_l {a b : Nat} (h : a < 18446744073709551616) : mulD (ni a) (ni b) = .ok (ni (a * b)) := mulD_ni (.inl (by omega))
theorem mulD_r {a b : Nat} (h : b < 18446744073709551616) : mulD (ni a) (ni b) = .ok (ni (a * b)) := mulD_ni (.inr (by omega))
end OC

/-! Part L2: what is done again and again comes back. -/
namespace OC
theorem nodup_le {α : Type} [DecidableEq α] : ∀ (l U : List α), l.Nodup → (∀ x ∈ l, x ∈ U) → l.length ≤ U.length
  | [], _, _, _ => Nat.zero_le _
  | x :: l, U, hn, hs => by
    have hx := hs x (.head _)
    rw [List.nodup_cons] at hn
    have := nodup_le l (U.erase x) hn.2 fun y hy => (List.mem_erase_of_ne (show y ≠ x from fun e => hn.1 (e ▸ hy))).mpr (hs y (.tail _ hy))
    rw [List.length_erase_of_mem hx] at this
    have := List.length_pos_of_mem hx
    rw [List.length_cons]
    omega
section
variable {α : Type} (f : α → α) (x : α)
def iter : Nat → α
  | 0 => x
  | n + 1 => f (iter n)
def its (m : Nat) : List α := (List.range m).map (iter f x)
theorem its_succ (m : Nat) : its f x (m + 1) = its f x m ++ [iter f x m] := by simp [its, List.range_succ]
theorem its_length (m : Nat) : (its f x m).length = m := by simp [its]
theorem its_get {m i : Nat} (h : i < m) : (its f x m)[i]? = some (iter f x i) := by simp [its, h]
theorem mem_its {m : Nat} {y : α} : y ∈ its f x m ↔ ∃ i, i < m ∧ iter f x i = y := by simp [its]
theorem iter_add (i j : Nat) : iter f (iter f x i) j = iter f x (i + j) := by
  induction j with
  | zero => rfl
  | succ j ih => rw [iter, ih]; rfl
/-- x comes into its round at p, and round at m -/
structure OrbitAt (m p : Nat) : Prop where
  lt : p < m
  nd : (its f x m).Nodup
  eq : iter f x p = iter f x m
variable {f x}
theorem its_inj {m i j : Nat} (h : (its f x m).Nodup) (hi : i < m) (hj : j < m) (e : iter f x i = iter f x j) : i = j := by
  have h1 := its_get f x hi
  have h2 := its_get f x hj
  rw [e] at h1
  have hl : i < (its f x m).length := by rw [its_length]; exact hi
  exact (List.getElem?_inj hl h).mp (h1.trans h2.symm)
theorem OrbitAt.uniq {m p m' p' : Nat} (a : OrbitAt f x m p) (b : OrbitAt f x m' p') : m = m' ∧ p = p' := by
  have key : ∀ {m p m' p' : Nat}, OrbitAt f x m p → OrbitAt f x m' p' → ¬ m < m' := by
    intro m p m' p' a b h
    have := its_inj b.nd (show p < m' from Nat.lt_trans a.lt h) h a.eq
    have := a.lt
    omega
  have h1 : ¬ m < m' := key a b
  have h2 : ¬ m' < m := key b a
  have hm : m = m' := by omega
  subst hm
  exact ⟨rfl, its_inj a.nd a.lt b.lt (a.eq.trans b.eq.symm)⟩
theorem OrbitAt.idx [DecidableEq α] {m p : Nat} (a : OrbitAt f x m p) : (its f x m).idxOf (iter f x m) = p := by
  have hp : p < (its f x m).length := by rw [its_length]; exact a.lt
  have : (its f x m)[p] = iter f x m := by
    have := its_get f x a.lt
    rw [List.getElem?_eq_getElem hp] at this
    rw [Option.some.inj this]
    exact a.eq
  rw [← this]
  exact List.Nodup.idxOf_getElem a.nd _ _
theorem OrbitAt.mem {m p : Nat} (a : OrbitAt f x m p) : iter f x m ∈ its f x m := (mem_its f x).mpr ⟨p, a.lt, a.eq⟩
theorem while_orbit [DecidableEq α] (U : List α) (hU : ∀ i, iter f x i ∈ U) {cond : Env → R D} {body : Env → R Out} (Inv : Nat → Env → Prop) (hc : ∀ m env, Inv m env → cond env = .ok (.bl (!decide (iter f x m ∈ its f x m)))) (hs : ∀ m env, m < U.length → Inv m env → ∃ env', body env = .ok (.nx env') ∧ Inv (m + 1) env') :
    ∀ (n m : Nat) (env : Env), Inv m env → (its f x m).Nodup → U.length < n + m → ∃ m' p env', OrbitAt f x m' p ∧ m' ≤ U.length ∧ whileL cond body n env = .ok (.nx env') ∧ Inv m' env' := by
  have bound : ∀ m, (its f x m).Nodup → m ≤ U.length := by
    intro m hn
    have := nodup_le _ U hn fun y hy => by
      obtain ⟨i, _, rfl⟩ := (mem_its f x).mp hy
      exact hU i
    rwa [its_length] at this
  intro n
  induction n with
  | zero =>
    intro m env _ hn hl
    have := bound m hn
    omega
  | succ n ih =>
    intro m env hi hn hl
    rw [whileL, hc m env hi, R.bind_ok]
    by_cases hm : iter f x m ∈ its f x m
    · obtain ⟨p, hp, e⟩ := (mem_its f x).mp hm
      rw [decide_eq_true hm]
      exact ⟨m, p, env, ⟨hp, hn, e⟩, bound m hn, rfl, hi⟩
    · rw [decide_eq_false hm]
      have hn1 : (its f x (m + 1)).Nodup := by
        rw [its_succ, List.nodup_append]
        refine ⟨hn, by simp, ?_⟩
        intro a ha b hb e
        rw [List.mem_singleton] at hb
        subst hb
        exact hm (e ▸ ha)
      have := bound (m + 1) hn1
      obtain ⟨e1, h1, i1⟩ := hs m env (by omega) hi
      obtain ⟨m', p, e2, o, hl2, h2, i2⟩ := ih (m + 1) e1 i1 hn1 (by omega)
      refine ⟨m', p, e2, o, hl2, ?_, i2⟩
      show R.bind (body env) _ = _
      rw [h1, R.bind_ok]
      exact h2
end
theorem whl_orbit {α β : Type} [DecidableEq α] {f : α → α} {x : α} (U : List α) (hU : ∀ i, iter f x i ∈ U) {Φ : String → List D → R D} {n : Nat} {c : E} {body : List S} {env : Env} {K : Out → R β} {r : R β} (Inv : Nat → Env → Prop) (hn : U.length < n) (h0 : Inv 0 env) (hc : ∀ m env, Inv m env → ev Φ env c = .ok (.bl (!decide (iter f x m ∈ its f x m)))) (hs : ∀ m env, m < U.length → Inv m env → ∃ env', evSs Φ body env = .ok (.nx env') ∧ Inv (m + 1) env')
    (hk : ∀ m p env', OrbitAt f x m p → m ≤ U.length → Inv m env' → K (.nx env') = r) : (whlK Φ n c body env).bind K = r := by
  obtain ⟨m, p, env', o, hm, h1, h2⟩ := while_orbit U hU (cond := fun e1 => ev Φ e1 c) (body := evSs Φ body) Inv hc hs n 0 env h0 (by simp [its]) (by omega)
  rw [whlK, h1]
  exact hk m p env' o hm h2
/-! ### how many lists of so many numbers come to so much at most -/
def rowsLe : Nat → Nat → List (List Nat)
  | 0, _ => [[]]
  | L + 1, s => (List.range (s + 1)).flatMap fun a => (rowsLe L (s - a)).map (a :: ·)
theorem mem_rowsLe : ∀ (l : List Nat) (s : Nat), l.sum ≤ s → l ∈ rowsLe l.length s
  | [], s, _ => by simp [rowsLe]
  | a :: l, s, h => by
    rw [List.sum_cons] at h
    simp only [List.length_cons, rowsLe, List.mem_flatMap, List.mem_range, List.mem_map]
    exact ⟨a, by omega, l, mem_rowsLe l (s - a) (by omega), rfl⟩
theorem sum_pow (L : Nat) : ∀ s, ((List.range (s + 1)).map fun a => 2 ^ (L + (s - a))).sum < 2 ^ (L + s + 1)
  | 0 => by simp [Nat.pow_succ]; have := Nat.pow_pos (n := L) (show 0 < 2 by omega); omega
  | s + 1 => by
    have ih := sum_pow L s
    rw [List.range_succ_eq_map, List.map_cons, List.map_map, List.sum_cons]
    have e : ((List.range (s + 1)).map ((fun a => 2 ^ (L + (s + 1 - a))) ∘ Nat.succ)) = (List.range (s + 1)).map fun a => 2 ^ (L + (s - a)) := by
      apply List.map_congr_left
      intro a _
      show 2 ^ (L + (s + 1 - (a + 1))) = _
      congr 2
      omega
    rw [e, Nat.pow_succ 2 (L + (s + 1))]
    have e2 : L + (s + 1 - 0) = L + s + 1 := by omega
    have e3 : L + (s + 1) = L + s + 1 := by omega
    rw [e2, e3]
    omega
theorem sum_le_sum {α : Type} (g h : α → Nat) : ∀ l : List α, (∀ x ∈ l, g x ≤ h x) → (l.map g).sum ≤ (l.map h).sum
  | [], _ => Nat.le_refl _
  | x :: l, hh => by
    have := sum_le_sum g h l fun y hy => hh y (.tail _ hy)
    have := hh x (.head _)
    simp only [List.map_cons, List.sum_cons]
    omega
theorem rowsLe_length : ∀ (L s : Nat), (rowsLe L s).length ≤ 2 ^ (L + s)
  | 0, _ => by simp [rowsLe]; exact Nat.pow_pos (by omega)
  | L + 1, s => by
    simp only [rowsLe, List.length_flatMap, List.length_map]
    have h1 := sum_le_sum (fun a => (rowsLe L (s - a)).length) (fun a => 2 ^ (L + (s - a))) (List.range (s + 1)) fun a _ => rowsLe_length L (s - a)
    have h2 := sum_pow L s
    have e : L + 1 + s = L + s + 1 := by omega
    rw [e]
    omega
end OC

/-! Part L3: what every law draws. -/
namespace OC
local macro_rules
  | `(tactic| simp_arith [$args,*]) => `(tactic| simp -implicitDefEqProofs only [callFn_eq, doneK_rt, startEnv, evSs_nil, evSs_cons, thenS_nx, thenS_rt, evS_ret, retK_eq, nxK_eq, evS_asg, asgK_eq, evS_asgF, asgFK_eq, evS_move, moveK_eq, evS_own, ownK_eq, evS_app, appK_eq, evS_ext, extK_l, extK_t, evS_setI, evS_ifS, ifK_t, ifK_f, evS_forS, forK_eq, evS_forM, forMK_eq, evS_whl, evS_nop, ev_var, ev_cst, ev_glb, ev_o1, ev_o2, ev_o3, ev_and, ev_or, ev_chain, ev_tup, ev_lst, ev_call, ev_comp, evs_nil, evs_cons, andK_t, andK_f, orK_t, orK_f, chain1_eq, chainK_t, chainK_f, compK_eq, R.b2_ok, R.b3_ok, R.rcons_ok, List.map_cons, List.map_nil, List.length_cons, List.length_nil, List.length_map, List.replicate, List.cons_append, List.nil_append, R.bind_ok, getV_z, getV_s, bindT_nm, bindT_p2, bindT_p3, Nat.reduceAdd, Nat.reduceSub, Nat.reduceLT, Nat.reduceEqDiff, decide_true, decide_false, R.chk_true, put_s, put_z, T.slots, wipeE, List.set_cons_zero, List.set_cons_succ, Bool.not_true, Bool.not_false, Bool.and_true, Bool.true_and, Bool.or_false, Bool.false_or, ltD_ni, gtD_ni, geD_ni, leD_ni, eqD_ni, neD_ni, addD_ni, lenD_lst, lenD_tup, lenD_scr, tupleD_lst, tupleD_tup, listD_lst, listD_tup, notD_bl, walk_lst, walk_tup, mkT_ok, mkL_ok, modD_ni, fdivD_ni, mulD_l, mulD_r, Nat.reduceLeDiff, eqD_bl, neD_bl, isBool_bl, isTrue_bl, notTrue_bl, isFalse_bl, notFalse_bl, op2_add, op2_sub, op2_mul, op2_fdiv, op2_mod, op2_pow, op2_eq, op2_ne, op2_le, op2_isin, op2_notin, op2_item, op2_count, op2_index, op2_join, op2_split, op2_min2, op2_max2, op2_from_, op2_upto, op1_neg, op1_len, op1_tuple, op1_list, op1_sorted, op1_sum, op1_min, op1_max, op1_all, op1_str, op1_int, op1_rev, op1_step2, op1_sset, op1_listRange, op1_lenset, op1_upper, op1_sortedS, op1_ssetS, op1_intS, op1_not, $args,*])
variable {P : Prog}
def cellM (ns : List Int) (k : Nat) : Int := (ns[k]?).getD 0
theorem cell_run (h : P "_law_cell_at" = some fn_law_cell_at) (n : Nat) (ns : List Int) (k : Nat) : run P (n+1) "_law_cell_at" [.scr ns, ni k] = .ok (.int (cellM ns k)) := by
  rw [run_of h]
  by_cases hk : k < ns.length
  · have : itemD (.scr ns) (ni k) = .ok (.int (cellM ns k)) := by
      simp [itemD, ni, atD_nat, hk, cellM]
    simp_arith [fn_law_cell_at, hk, this]
  · simp_arith [fn_law_cell_at, hk, cellM]
    simp [hk, ni]
def mixN (ns : List Int) (k : Nat) : Nat :=
  let drawn := ((cellM ns k + 7919 * k + 1) * 48271 % 2147483647).toNat
  (drawn * drawn + 7 * drawn + k) % 2147483629
theorem mixN_lt (ns : List Int) (k : Nat) : mixN ns k < 2147483629 := Nat.mod_lt _ (by omega)
theorem small64_mk {i : Int} (h : -(2 ^ 64) < i) (h2 : i < 2 ^ 64) : small64 i = true := by
  simp only [small64, Bool.and_eq_true, decide_eq_true_eq]
  exact ⟨h, h2⟩
theorem mulD_int_r {i j : Int} (h : -(2 ^ 64) < j) (h2 : j < 2 ^ 64) : mulD (.int i) (.int j) = .ok (.int (i * j)) := by
  rw [mulD, R.chk_pos]
  rw [small64_mk h h2, Bool.or_true]
theorem mixed_run (h : P "_law_mixed" = some fn_law_mixed) (h1 : P "_law_cell_at" = some fn_law_cell_at) (n : Nat) (ns : List Int) (k : Nat) (hk : k < 2 ^ 64) : run P (n+2) "_law_mixed" [.scr ns, ni k] = .ok (ni (mixN ns k)) := by
  rw [run_of h]
  have e1 : mulD (ni 7919) (ni k) = .ok (ni (7919 * k)) := mulD_ni (.inl (by omega))
  have e2 : mulD (.int (cellM ns k + ((7919 * k : Nat) : Int) + ((1 : Nat) : Int))) (ni 48271) = .ok (.int ((cellM ns k + ((7919 * k : Nat) : Int) + ((1 : Nat) : Int)) * 48271)) := mulD_int_r (by omega) (by omega)
  have e3 : ∀ i : Int, modD (.int i) (ni 2147483647) = .ok (ni (i % 2147483647).toNat) := by
    intro i
    rw [ni, modD, R.chk_pos (by decide), ni]
    have := Int.emod_nonneg i (b := ((2147483647 : Nat) : Int)) (by omega)
    congr 2
    omega
  have e4 : ∀ i : Int, (i % 2147483647).toNat < 2147483647 := fun i => by omega
  have e5 : ∀ a : Int, ∀ b : Nat, addD (.int a) (ni b) = .ok (.int (a + (b : Int))) := fun a b => rfl
  simp_arith [fn_law_mixed, cell_run h1, e1, e5, e2, e3]
  generalize hd : ((cellM ns k + ((7919 * k : Nat) : Int) + ((1 : Nat) : Int)) * 48271 % 2147483647).toNat = d
  have hd2 : d < 2147483647 := by rw [← hd]; exact e4 _
  have e6 : mulD (ni d) (ni d) = .ok (ni (d * d)) := mulD_ni (.inl (by omega))
  have e7 : mulD (ni 7) (ni d) = .ok (ni (7 * d)) := mulD_ni (.inl (by omega))
  have e8 : ∀ a, modD (ni a) (ni 2147483629) = .ok (ni (a % 2147483629)) := fun a => modD_ni (by omega)
  simp_arith [e6, e7, e8]
  have : mixN ns k = (d * d + 7 * d + k) % 2147483629 := by
    simp only [mixN, ← hd, Int.natCast_mul]
    rfl
  rw [this]
def drawnN (a k : Nat) : Nat :=
  let drawn := (a + 104729 * k + 17) * 69621 % 2147483647
  (drawn * drawn + 3 * drawn + k) % 2147483629
theorem drawnN_lt (a k : Nat) : drawnN a k < 2147483629 := Nat.mod_lt _ (by omega)
theorem drawn_run (h : P "_law_drawn" = some fn_law_drawn) (n : Nat) (a k : Nat) (hk : k < 2 ^ 64) : run P (n+1) "_law_drawn" [ni a, ni k] = .ok (ni (drawnN a k)) := by
  rw [run_of h]
  have e1 : mulD (ni 104729) (ni k) = .ok (ni (104729 * k)) := mulD_ni (.inl (by omega))
  have e2 : ∀ x, mulD (ni x) (ni 69621) = .ok (ni (x * 69621)) := fun x => mulD_ni (.inr (by omega))
  have e3 : ∀ x, modD (ni x) (ni 2147483647) = .ok (ni (x % 2147483647)) := fun a => modD_ni (by omega)
  have e4 : ∀ x : Nat, x % 2147483647 < 2147483647 := fun i => by omega
  simp_arith [fn_law_drawn, addD_ni, e1, e2, e3]
  generalize hd : (a + 104729 * k + 17) * 69621 % 2147483647 = d
  have hd2 : d < 2147483647 := by rw [← hd]; exact e4 _
  have e6 : mulD (ni d) (ni d) = .ok (ni (d * d)) := mulD_ni (.inl (by omega))
  have e7 : mulD (ni 3) (ni d) = .ok (ni (3 * d)) := mulD_ni (.inl (by omega))
  have e8 : ∀ a, modD (ni a) (ni 2147483629) = .ok (ni (a % 2147483629)) := fun a => modD_ni (by omega)
  simp_arith [e6, e7, e8]
  have : drawnN a k = (d * d + 3 * d + k) % 2147483629 := by
    simp only [drawnN, ← hd]
  rw [this]
end OC

/-! Part L4: rows. -/
namespace OC
local macro_rules
  | `(tactic| simp_arith [$args,*]) => `(tactic| simp -implicitDefEqProofs only [callFn_eq, doneK_rt, startEnv, evSs_nil, evSs_cons, thenS_nx, thenS_rt, evS_ret, retK_eq, nxK_eq, evS_asg, asgK_eq, evS_asgF, asgFK_eq, evS_move, moveK_eq, evS_own, ownK_eq, evS_app, appK_eq, evS_ext, extK_l, extK_t, evS_setI, evS_ifS, ifK_t, ifK_f, evS_forS, forK_eq, evS_forM, forMK_eq, evS_whl, evS_nop, ev_var, ev_cst, ev_glb, ev_o1, ev_o2, ev_o3, ev_and, ev_or, ev_chain, ev_tup, ev_lst, ev_call, ev_comp, evs_nil, evs_cons, andK_t, andK_f, orK_t, orK_f, chain1_eq, chainK_t, chainK_f, compK_eq, R.b2_ok, R.b3_ok, R.rcons_ok, List.map_cons, List.map_nil, List.length_cons, List.length_nil, List.length_map, List.replicate, List.cons_append, List.nil_append, R.bind_ok, getV_z, getV_s, bindT_nm, bindT_p2, bindT_p3, Nat.reduceAdd, Nat.reduceSub, Nat.reduceLT, Nat.reduceEqDiff, decide_true, decide_false, R.chk_true, put_s, put_z, T.slots, wipeE, List.set_cons_zero, List.set_cons_succ, Bool.not_true, Bool.not_false, Bool.and_true, Bool.true_and, Bool.or_false, Bool.false_or, ltD_ni, gtD_ni, geD_ni, leD_ni, eqD_ni, neD_ni, addD_ni, lenD_lst, lenD_tup, lenD_scr, tupleD_lst, tupleD_tup, listD_lst, listD_tup, notD_bl, walk_lst, walk_tup, mkT_ok, mkL_ok, modD_ni, fdivD_ni, mulD_l, mulD_r, Nat.reduceLeDiff, eqD_bl, neD_bl, isBool_bl, isTrue_bl, notTrue_bl, isFalse_bl, notFalse_bl, op2_add, op2_sub, op2_mul, op2_fdiv, op2_mod, op2_pow, op2_eq, op2_ne, op2_le, op2_isin, op2_notin, op2_item, op2_count, op2_index, op2_join, op2_split, op2_min2, op2_max2, op2_from_, op2_upto, op1_neg, op1_len, op1_tuple, op1_list, op1_sorted, op1_sum, op1_min, op1_max, op1_all, op1_str, op1_int, op1_rev, op1_step2, op1_sset, op1_listRange, op1_lenset, op1_upper, op1_sortedS, op1_ssetS, op1_intS, op1_not, $args,*])
variable {P : Prog}
def countedM (l : List Nat) : List Nat := (List.range l.length).map fun k => l.count k
theorem countedM_length (l : List Nat) : (countedM l).length = l.length := by simp [countedM]
theorem lim_of {n : Nat} (h : n ≤ 16777216) : decide (n ≤ LIM) = true := decide_eq_true h
theorem limlt_of {n : Nat} (h : n < 16777216) : decide (n < LIM) = true := decide_eq_true h
theorem counted_run (h : P "counted" = some fn_counted) (n : Nat) (l : List Nat) (hl : l.length ≤ 1000) : run P (n+1) "counted" [tupE ni l] = .ok (tupE ni (countedM l)) := by
  rw [run_of h]
  simp_arith [fn_counted, tupE, walk_range1 (show l.length < 2 ^ 62 by omega)]
  rw [compI_all ni (fun k => [some (.tup (l.map ni)), some (ni k)]) (fun k => ni (l.count k)) (by simp; omega)]
  · simp_arith [countedM, List.map_map]
    rfl
  · intro k _
    simp_arith []
  · intro k _
    simp_arith [countD_tup (f := ni) (show 0 ≤ 59 by omega)]
theorem is_own_run (h : P "is_own" = some fn_is_own) (h1 : P "counted" = some fn_counted) (n : Nat) (l : List Nat) (hl : l.length ≤ 1000) : run P (n+2) "is_own" [tupE ni l] = .ok (.bl (decide (countedM l = l))) := by
  rw [run_of h]
  simp_arith [fn_is_own, counted_run h1 n l hl, eqD_enc (f := tupE ni) (show 0 + 1 ≤ 60 by omega)]
/-- the law's own way to count -/
def cstep (L : Nat) (c : List Nat) (x : Nat) : List Nat := if x < L then c.set x (c.getD x 0 + 1) else c
theorem cstep_length (L : Nat) (c : List Nat) (x : Nat) : (cstep L c x).length = c.length := by unfold cstep; split <;> simp
theorem cfold (L : Nat) : ∀ (l c : List Nat), c.length = L → l.foldl (cstep L) c = (List.range L).map fun k => c.getD k 0 + l.count k
  | [], c, h => by
    apply List.ext_getElem
    · simp [h]
    · intro i h1 h2
      simp only [List.foldl_nil] at h1
      simp [h1]
  | x :: l, c, h => by
    rw [List.foldl_cons, cfold L l (cstep L c x) (by rw [cstep_length, h])]
    apply List.map_congr_left
    intro k hk
    rw [List.mem_range] at hk
    rw [List.count_cons]
    unfold cstep
    by_cases hx : x < L
    · rw [if_pos hx]
      by_cases e : x = k
      · subst e
        simp [List.getD, h, hk]
        omega
      · have e2 : (x == k) = false := by simpa using e
        simp [List.getD, e, e2]
    · rw [if_neg hx]
      have e : ¬ x = k := by omega
      have e2 : (x == k) = false := by simpa using e
      simp [e2]
theorem cfold0 (l : List Nat) : l.foldl (cstep l.length) (List.replicate l.length 0) = countedM l := by
  rw [cfold _ _ _ (by simp), countedM]
  apply List.map_congr_left
  intro k hk
  rw [List.mem_range] at hk
  simp [List.getD, hk]
theorem mulD_lst1 {d : D} {k : Nat} (h : k ≤ 16777216) : mulD (.lst [d]) (ni k) = .ok (.lst (List.replicate k d)) := by
  rw [ni, mulD, R.chk_pos, Int.toNat_natCast, rep_one]
  rw [Bool.and_eq_true, bigI_nat (by omega)]
  refine ⟨decide_eq_true ?_, rfl⟩
  show 1 * k ≤ LIM
  unfold LIM
  omega
theorem law_counted_run (h : P "_law_counted" = some fn_law_counted) (n : Nat) (l : List Nat) (hl : l.length ≤ 1000) : run P (n+1) "_law_counted" [tupE ni l] = .ok (tupE ni (countedM l)) := by
  rw [run_of h]
  simp_arith [fn_law_counted, tupE, mulD_lst1 (d := ni 0) (show l.length ≤ 16777216 by omega)]
  obtain ⟨env', h1, x, rfl, _⟩ := forI_fold (Φ := run P n) (t := .nm 2) (body := [.ifS (.o2 .lt (.var 2) (.o1 .len (.var 0))) [.setI 1 (.var 2) (.o2 .add (.o2 .item (.var 1) (.var 2)) (.cst (ni 1)))] []]) ni (fun c env => ∃ x, env = [some (.tup (l.map ni)), some (.lst (c.map ni)), x] ∧ c.length = l.length) (cstep l.length) l
    (by
      intro c env x hx ⟨y, e, hc⟩
      subst e
      refine ⟨_, ?_, some (ni x), rfl, by rw [cstep_length, hc]⟩
      simp_arith []
      by_cases hxl : x < l.length
      · have hg : c[x]? = some (c.getD x 0) := by
          have : x < c.length := by omega
          simp [this]
        simp_arith [hxl, itemD_lstE (f := ni) hg]
        rw [setK_ni _ _ (by rw [List.length_map]; omega) rfl]
        simp_arith [cstep, hxl]
        simp
      · simp_arith [hxl, cstep]
        rfl)
    (List.replicate l.length 0) [some (.tup (l.map ni)), some (.lst ((List.replicate l.length 0).map ni)), none] ⟨none, rfl, by simp⟩
  rw [List.map_replicate] at h1
  rw [h1, cfold0]
  simp_arith []
theorem sum_map_add {α : Type} (g h : α → Nat) : ∀ l : List α, (l.map fun x => g x + h x).sum = (l.map g).sum + (l.map h).sum
  | [] => rfl
  | x :: l => by simp only [List.map_cons, List.sum_cons, sum_map_add g h l]; omega
theorem sum_one (x L : Nat) : ((List.range L).map fun k => if x == k then 1 else 0).sum = if x < L then 1 else 0 := by
  induction L with
  | zero => rfl
  | succ L ih =>
    rw [List.range_succ, List.map_append, List.sum_append, ih]
    simp only [List.map_cons, List.map_nil, List.sum_cons, List.sum_nil, beq_iff_eq]
    by_cases h1 : x < L
    · rw [if_pos h1, if_neg (by omega), if_pos (by omega)]; rfl
    · by_cases h2 : x = L
      · rw [if_neg h1, if_pos h2, if_pos (by omega)]; rfl
      · rw [if_neg h1, if_neg h2, if_neg (by omega)]; rfl
theorem sum_count (L : Nat) : ∀ l : List Nat, ((List.range L).map fun k => l.count k).sum = (l.filter fun x => decide (x < L)).length
  | [] => by
    have : ∀ m : List Nat, (m.map fun _ => 0).sum = 0 := by
      intro m
      induction m with
      | nil => rfl
      | cons a m ih => simp [ih]
    simp [this]
  | x :: l => by
    have e : ((List.range L).map fun k => (x :: l).count k) = (List.range L).map fun k => l.count k + if x == k then 1 else 0 := by
      apply List.map_congr_left
      intro k _
      rw [List.count_cons]
    rw [e, sum_map_add, sum_count L l, sum_one]
    by_cases h : x < L
    · rw [if_pos h, List.filter_cons_of_pos (by simpa using h)]; rfl
    · rw [if_neg h, List.filter_cons_of_neg (by simpa using h)]; rfl
theorem countedM_sum (l : List Nat) : (countedM l).sum ≤ l.length := by
  rw [countedM, sum_count]
  exact List.length_filter_le _ _
theorem iter_len (l : List Nat) : ∀ i, (iter countedM l i).length = l.length
  | 0 => rfl
  | i + 1 => by rw [iter, countedM_length, iter_len l i]
/-- all rows that may come -/
def rowU (l : List Nat) : List (List Nat) := l :: rowsLe l.length l.length
theorem mem_rowU (l : List Nat) : ∀ i, iter countedM l i ∈ rowU l
  | 0 => .head _
  | i + 1 => by
    have h := iter_len l (i + 1)
    have h2 := iter_len l i
    have : (iter countedM l (i + 1)).sum ≤ l.length := by
      rw [iter, ← h2]
      exact countedM_sum _
    have := mem_rowsLe _ _ this
    rw [h] at this
    exact .tail _ this
theorem rowU_length (l : List Nat) (h : l.length ≤ 8) : (rowU l).length ≤ 65537 := by
  have h1 := rowsLe_length l.length l.length
  have : 2 ^ (l.length + l.length) ≤ 2 ^ 16 := Nat.pow_le_pow_right (by omega) (by omega)
  rw [rowU, List.length_cons]
  omega
/-- a led row: a while of the program or of a law -/
theorem row_led_run (h : P "row_led" = some fn_row_led) (h1 : P "counted" = some fn_counted) (n : Nat) (l : List Nat) (hl : l.length ≤ 8) : ∃ m p, OrbitAt countedM l m p ∧ m ≤ 65537 ∧ run P (n+2) "row_led" [tupE ni l] = .ok (.tup [.tup ((its countedM l m).map (tupE ni)), ni p]) := by
  obtain ⟨m, p, env', o, hm, hw, e⟩ := while_orbit (f := countedM) (x := l) (rowU l) (mem_rowU l) (cond := fun e1 => ev (run P (n + 1)) e1 (.o2 .notin (.var 0) (.var 1))) (body := evSs (run P (n + 1)) [.app 1 (.var 0), .asg (.nm 0) (.call "counted" [.var 0])])
    (fun m env => env = [some (tupE ni (iter countedM l m)), some (.lst ((its countedM l m).map (tupE ni)))])
    (by
      intro m env e
      subst e
      simp_arith [notinD_lst (f := tupE ni) (show 0 + 1 ≤ 59 by omega)])
    (by
      intro m env hm e
      subst e
      have hU := rowU_length l hl
      refine ⟨_, ?_, rfl⟩
      simp_arith [its_length, limlt_of (show m < 16777216 by omega), counted_run h1 n _ (show (iter countedM l m).length ≤ 1000 by rw [iter_len]; omega), its_succ, List.map_append]
      rfl)
    16777300 0 [some (tupE ni l), some (.lst [])] rfl (by simp [its]) (by have := rowU_length l hl; omega)
  subst e
  have hU := rowU_length l hl
  refine ⟨m, p, o, by omega, ?_⟩
  rw [run_of h]
  have hw2 : whlK (run P (n + 1)) 16777300 (.o2 .notin (.var 0) (.var 1)) [.app 1 (.var 0), .asg (.nm 0) (.call "counted" [.var 0])] [some (tupE ni l), some (.lst [])] = .ok (.nx [some (tupE ni (iter countedM l m)), some (.lst ((its countedM l m).map (tupE ni)))]) := hw
  simp_arith [fn_row_led, hw2, indexD_lst (f := tupE ni) (show 0 + 1 ≤ 59 by omega) _ _ o.mem, o.idx]
theorem row_end_run (h0 : P "row_end" = some fn_row_end) (h : P "row_led" = some fn_row_led) (h1 : P "counted" = some fn_counted) (n : Nat) (l : List Nat) (hl : l.length ≤ 8) (h0l : l ≠ []) : ∃ m p, OrbitAt countedM l m p ∧ m ≤ 65537 ∧ run P (n+3) "row_end" [tupE ni l] = .ok (.tup ((sortB (lexB fun a b => decide (a < b)) ((its countedM l m).drop p)).map (tupE ni))) := by
  obtain ⟨m, p, o, hm, hr⟩ := row_led_run h h1 n l hl
  refine ⟨m, p, o, hm, ?_⟩
  rw [run_of h0]
  have hp := o.lt
  have hs : sortedD (.tup ((its countedM l m).drop p |>.map (tupE ni))) = .ok (.lst ((sortB (lexB fun a b => decide (a < b)) ((its countedM l m).drop p)).map (tupE ni))) := by
    refine sortedD_enc (f := tupE ni) inferInstance inferInstance (by omega) (sortable_tup ?_) ?_ _ rfl
    · intro x hx e
      obtain ⟨i, _, rfl⟩ := (mem_its _ _).mp (List.mem_of_mem_drop hx)
      have := iter_len l i
      rw [e] at this
      exact h0l (List.length_eq_zero_iff.mp this.symm)
    · rw [List.length_drop, its_length]; omega
  simp_arith [fn_row_end, hr, fromD_tup (xs := (its countedM l m).map (tupE ni)) (show p ≤ _ by rw [List.length_map, its_length]; omega), ← List.map_drop, hs]
/-! ### all rows of a length that come to so much -/
def rowsWith : Nat → Nat → List (List Nat)
  | 0, w => [[w]]
  | L + 1, w => (List.range (w + 1)).flatMap fun a => (rowsWith L (w - a)).map (a :: ·)
theorem rowsWith_length : ∀ (L s : Nat), (rowsWith L s).length ≤ 2 ^ (L + s)
  | 0, _ => by simp [rowsWith]; exact Nat.pow_pos (by omega)
  | L + 1, s => by
    simp only [rowsWith, List.length_flatMap, List.length_map]
    have h1 := sum_le_sum (fun a => (rowsWith L (s - a)).length) (fun a => 2 ^ (L + (s - a))) (List.range (s + 1)) fun a _ => rowsWith_length L (s - a)
    have h2 := sum_pow L s
    have e : L + 1 + s = L + s + 1 := by omega
    rw [e]
    omega
theorem range_split {w x : Nat} {p q : List Nat} (e : List.range w = p ++ x :: q) : x < w := by
  have : x ∈ List.range w := by rw [e]; simp
  exact List.mem_range.mp this
theorem flat_le {α β : Type} (g : α → List β) {xs p q : List α} {x : α} (e : xs = p ++ x :: q) : (p.flatMap g).length + (g x).length ≤ (xs.flatMap g).length := by
  rw [e, List.flatMap_append, List.flatMap_cons]
  simp only [List.length_append]
  omega
theorem rowsWith_mem : ∀ (L w : Nat) (k : List Nat), k ∈ rowsWith L w → k.length = L + 1 ∧ k.sum = w
  | 0, w, k, h => by
    rw [rowsWith, List.mem_singleton] at h
    subst h
    simp
  | L + 1, w, k, h => by
    simp only [rowsWith, List.mem_flatMap, List.mem_range, List.mem_map] at h
    obtain ⟨a, ha, r, hr, rfl⟩ := h
    obtain ⟨h1, h2⟩ := rowsWith_mem L (w - a) r hr
    rw [List.length_cons, List.sum_cons, h1, h2]
    refine ⟨rfl, ?_⟩
    omega
theorem rows_with_run (h : P "rows_with" = some fn_rows_with) (n : Nat) : ∀ (L w : Nat), L ≤ 8 → w ≤ 8 → run P (n + L + 1) "rows_with" [ni (L + 1), ni w] = .ok (.lst ((rowsWith L w).map (tupE ni)))
  | 0, w, _, _ => by
    rw [run_of h]
    simp_arith [fn_rows_with]
    rfl
  | L + 1, w, hL, hw => by
    have hlen := rowsWith_length (L + 1) w
    have hpow : 2 ^ (L + 1 + w) ≤ 2 ^ 16 := Nat.pow_le_pow_right (by omega) (by omega)
    rw [show n + (L + 1) + 1 = n + L + 1 + 1 by omega, run_of h]
    simp_arith [fn_rows_with, show ¬ (L + 1 + 1 = 1) by omega, walk_range1 (show w + 1 < 2 ^ 62 by omega)]
    rw [R.bind_assoc]
    refine forI_then ni (fun p env => ∃ x, env = [some (ni (L + 1 + 1)), some (ni w), some (.lst ((p.flatMap fun a => (rowsWith L (w - a)).map (a :: ·)).map (tupE ni))), x, none]) ⟨none, rfl⟩ ?_ ?_
    · rintro p a q env e ⟨x, rfl⟩
      have ha := range_split e
      have hle := flat_le (fun a => (rowsWith L (w - a)).map (a :: ·)) e
      rw [show (List.range (w + 1)).flatMap (fun a => (rowsWith L (w - a)).map (a :: ·)) = rowsWith (L + 1) w from rfl, List.length_map] at hle
      refine ⟨_, ?_, some (ni a), rfl⟩
      have ih := rows_with_run h n L (w - a) (by omega) (by omega)
      simp_arith [subD_ni (show 1 ≤ L + 1 + 1 by omega), subD_ni (show a ≤ w by omega), ih, Nat.add_sub_cancel]
      rw [compI_all (tupE ni) (fun k => [some (ni (L + 1 + 1)), some (ni w), some (.lst ((p.flatMap fun a => (rowsWith L (w - a)).map (a :: ·)).map (tupE ni))), some (ni a), some (tupE ni k)]) (fun k => tupE ni (a :: k)) (by omega)]
      · simp_arith [List.flatMap_append, List.flatMap_cons, List.flatMap_nil, List.append_nil, List.map_append, List.map_map]
        rw [R.chk_pos (lim_of (by omega))]
        rfl
      · intro k _
        simp_arith []
      · intro k hk
        have := (rowsWith_mem _ _ _ hk).1
        simp_arith [tupE]
        rw [addD_tup]
        · rfl
        · show 1 + (k.map ni).length ≤ 16777216
          rw [List.length_map]
          omega
    · rintro env' ⟨x, rfl⟩
      simp_arith []
      rfl
def ownRows (L : Nat) : List (List Nat) := (rowsWith L (L + 1)).filter fun l => decide (countedM l = l)
theorem own_rows_run (h0 : P "own_rows" = some fn_own_rows) (h : P "rows_with" = some fn_rows_with) (h1 : P "is_own" = some fn_is_own) (h2 : P "counted" = some fn_counted) (n L : Nat) (hL : L ≤ 7) : run P (n + L + 3) "own_rows" [ni (L + 1)] = .ok (.tup ((ownRows L).map (tupE ni))) := by
  rw [run_of h0]
  have hr := rows_with_run h (n + 1) L (L + 1) (by omega) (by omega)
  rw [show n + 1 + L + 1 = n + L + 2 by omega] at hr
  have hlen := rowsWith_length L (L + 1)
  have hpow : 2 ^ (L + (L + 1)) ≤ 2 ^ 16 := Nat.pow_le_pow_right (by omega) (by omega)
  simp_arith [fn_own_rows, hr]
  rw [compI_if (tupE ni) (fun k => [some (ni (L + 1)), some (tupE ni k)]) (fun l => decide (countedM l = l)) (tupE ni) (by omega)]
  · simp_arith []
    rfl
  · intro k _
    simp_arith []
  · intro k hk
    have := (rowsWith_mem _ _ _ hk).1
    simp_arith [is_own_run h1 h2 (n + L) k (by omega)]
  · intro k hk _
    simp_arith []
/-! ### the law's own way -/
def lawRows : Nat → Nat → List (List Nat)
  | 0, w => if w = 0 then [[]] else []
  | L + 1, w => (List.range (w + 1)).flatMap fun a => (lawRows L (w - a)).map (a :: ·)
theorem flatMap_none {α β : Type} (g : α → List β) : ∀ l : List α, (∀ x ∈ l, g x = []) → l.flatMap g = []
  | [], _ => rfl
  | x :: l, h => by rw [List.flatMap_cons, h x (.head _), flatMap_none g l fun y hy => h y (.tail _ hy)]; rfl
theorem flatMap_congr {α β : Type} {g h : α → List β} : ∀ {l : List α}, (∀ x ∈ l, g x = h x) → l.flatMap g = l.flatMap h
  | [], _ => rfl
  | x :: l, hh => by rw [List.flatMap_cons, List.flatMap_cons, hh x (.head _), flatMap_congr fun y hy => hh y (.tail _ hy)]
theorem lawRows_eq : ∀ L w, lawRows (L + 1) w = rowsWith L w
  | 0, w => by
    rw [lawRows, List.range_succ, List.flatMap_append, flatMap_none]
    · simp [lawRows, rowsWith]
    · intro a ha
      rw [List.mem_range] at ha
      rw [lawRows, if_neg (by omega)]
      rfl
  | L + 1, w => by
    rw [lawRows, rowsWith]
    exact flatMap_congr fun a _ => by rw [lawRows_eq L]
theorem lawRows_length (L s : Nat) : (lawRows L s).length ≤ 2 ^ (L + s) := by
  cases L with
  | zero =>
    rw [lawRows]
    have := Nat.pow_pos (n := 0 + s) (show 0 < 2 by omega)
    split
    · exact this
    · exact Nat.zero_le _
  | succ L =>
    rw [lawRows_eq]
    have := rowsWith_length L s
    have : 2 ^ (L + s) ≤ 2 ^ (L + 1 + s) := Nat.pow_le_pow_right (by omega) (by omega)
    omega
theorem lawRows_mem : ∀ (L w : Nat) (k : List Nat), k ∈ lawRows L w → k.length = L
  | 0, w, k, h => by
    rw [lawRows] at h
    split at h <;> simp_all
  | L + 1, w, k, h => by
    rw [lawRows_eq] at h
    exact (rowsWith_mem L w k h).1
theorem mulD_lst_int {d : D} {b : Bool} : mulD (.lst [d]) (.int (if b then 1 else 0)) = .ok (.lst (if b then [d] else [])) := by
  cases b
  · exact mulD_lst1 (k := 0) (by omega)
  · exact mulD_lst1 (k := 1) (by omega)
theorem law_rows_run (h : P "_law_rows" = some fn_law_rows) (n : Nat) : ∀ (L w : Nat), L ≤ 8 → w ≤ 8 → run P (n + L + 1) "_law_rows" [ni L, ni w] = .ok (.lst ((lawRows L w).map (tupE ni)))
  | 0, w, _, _ => by
    rw [run_of h]
    simp_arith [fn_law_rows]
    simp_arith [intD, mulD_lst_int, lawRows]
    by_cases hw : w = 0
    · simp [hw, tupE]
    · simp [hw]
  | L + 1, w, hL, hw => by
    have hlen := lawRows_length (L + 1) w
    have hpow : 2 ^ (L + 1 + w) ≤ 2 ^ 16 := Nat.pow_le_pow_right (by omega) (by omega)
    rw [show n + (L + 1) + 1 = n + L + 1 + 1 by omega, run_of h]
    simp_arith [fn_law_rows, show ¬ (L + 1 = 0) by omega, walk_range1 (show w + 1 < 2 ^ 62 by omega)]
    rw [R.bind_assoc]
    refine forI_then ni (fun p env => ∃ x, env = [some (ni (L + 1)), some (ni w), some (.lst ((p.flatMap fun a => (lawRows L (w - a)).map (a :: ·)).map (tupE ni))), x, none]) ⟨none, rfl⟩ ?_ ?_
    · rintro p a q env e ⟨x, rfl⟩
      have ha := range_split e
      have hle := flat_le (fun a => (lawRows L (w - a)).map (a :: ·)) e
      rw [show (List.range (w + 1)).flatMap (fun a => (lawRows L (w - a)).map (a :: ·)) = lawRows (L + 1) w from rfl, List.length_map] at hle
      refine ⟨_, ?_, some (ni a), rfl⟩
      have ih := law_rows_run h n L (w - a) (by omega) (by omega)
      simp_arith [subD_ni (show 1 ≤ L + 1 by omega), subD_ni (show a ≤ w by omega), ih, Nat.add_sub_cancel]
      rw [compI_all (tupE ni) (fun k => [some (ni (L + 1)), some (ni w), some (.lst ((p.flatMap fun a => (lawRows L (w - a)).map (a :: ·)).map (tupE ni))), some (ni a), some (tupE ni k)]) (fun k => tupE ni (a :: k)) (by omega)]
      · simp_arith [List.flatMap_append, List.flatMap_cons, List.flatMap_nil, List.append_nil, List.map_append, List.map_map]
        rw [addD_lst]
        · simp_arith []
          rfl
        · simp only [List.length_map]
          show _ ≤ 16777216
          omega
      · intro k _
        simp_arith []
      · intro k hk
        have := lawRows_mem _ _ _ hk
        simp_arith [tupE]
        rw [addD_tup]
        · rfl
        · show 1 + (k.map ni).length ≤ 16777216
          rw [List.length_map]
          omega
    · rintro env' ⟨x, rfl⟩
      simp_arith []
      rfl
end OC

/-! Part L2b: more operations at typed data. -/
namespace OC
def chE (c : Nat) : D := .str [c]
instance : Enc chE 0 := ⟨fun n a _ => by cases n <;> rfl, fun a b => by simp [chE, D.eqv]⟩
theorem walk_str (s : List Nat) (b c : D) : walk .seq (.str s) b c = .ok (s.map chE) := rfl
theorem walk_range2 {a b : Nat} (h : a < 2 ^ 62) (h2 : b < 2 ^ 62) (c : D) : walk .range2 (ni a) (ni b) c = .ok ((List.range' a (b - a)).map ni) := by
  rw [ni, ni, walk, bigI_nat h, bigI_nat h2, Bool.and_self, R.chk_true, rangeL]
  congr 1
  have e : ((b : Int) - (a : Int)).toNat = b - a := by omega
  rw [e, List.range'_eq_map_range (s := a), List.map_map]
  apply List.map_congr_left
  intro k _
  simp [ni]
theorem countD_str (s : List Nat) (c : Nat) : countD (.str s) (chE c) = .ok (ni (s.count c)) := rfl
theorem itemD_str {s : List Nat} {i c : Nat} (h : s[i]? = some c) (hl : s.length ≤ 16777216) : itemD (.str s) (ni i) = .ok (chE c) := by
  simp only [itemD, ni, atD_nat, h]
  exact R.chk_pos (decide_eq_true hl)
theorem strs_map : ∀ ts : List (List Nat), strs? (ts.map D.str) = some ts
  | [] => rfl
  | t :: ts => by rw [List.map_cons, strs?, strs_map ts]; rfl
theorem joinS_nil : ∀ ts : List (List Nat), joinS [] ts = ts.flatten
  | [] => rfl
  | [t] => by simp [joinS]
  | t :: u :: ts => by rw [joinS, joinS_nil (u :: ts)]; simp; simp
theorem flatten_len : ∀ ts : List (List Nat), ts.flatten.length = (ts.map List.length).sum
  | [] => rfl
  | t :: ts => by simp
theorem joinD_nil {ts : List (List Nat)} (h : ts.flatten.length ≤ 16777216) : joinD (.str []) (.lst (ts.map D.str)) = .ok (.str ts.flatten) := by
  simp only [joinD, strs_map, joinS_nil]
  refine R.chk_pos (decide_eq_true ?_)
  rw [flatten_len] at h
  have e : (ts.map List.length).sum + ts.length * ([] : List Nat).length = (ts.map List.length).sum := by simp
  rw [e]
  exact h
theorem joinD_nilC {s : List Nat} (h : s.length ≤ 16777216) : joinD (.str []) (.lst (s.map chE)) = .ok (.str s) := by
  have e : s.map chE = (s.map fun c => [c]).map D.str := by simp [List.map_map, Function.comp_def, chE]
  have e2 : (s.map fun c => [c]).flatten = s := by
    clear h e
    induction s with
    | nil => rfl
    | cons c s ih => simp [ih]
  rw [e, joinD_nil (by rw [e2]; exact h), e2]
theorem bls_map {α : Type} (p : α → Bool) : ∀ xs : List α, bls? (xs.map fun x => D.bl (p x)) = some (xs.map p)
  | [] => rfl
  | x :: xs => by rw [List.map_cons, bls?, bls_map p xs]; rfl
theorem allD_map {α : Type} (p : α → Bool) (xs : List α) : allD (.lst (xs.map fun x => .bl (p x))) = .ok (.bl (xs.all p)) := by
  simp only [allD, bls_map]
  congr 2
  induction xs with
  | nil => rfl
  | cons x xs ih => simp
theorem ints_map : ∀ xs : List Nat, ints? (xs.map ni) = some (xs.map Int.ofNat)
  | [] => rfl
  | x :: xs => by rw [List.map_cons, ni, ints?, ints_map xs]; rfl
theorem sum_cast : ∀ xs : List Nat, (xs.map Int.ofNat).sum = ((xs.sum : Nat) : Int)
  | [] => rfl
  | x :: xs => by rw [List.map_cons, List.sum_cons, List.sum_cons, sum_cast xs]; simp
theorem sumD_lst (xs : List Nat) : sumD (.lst (xs.map ni)) = .ok (ni xs.sum) := by
  simp only [sumD, ints_map, sum_cast, ni]
theorem sumD_tup (xs : List Nat) : sumD (.tup (xs.map ni)) = .ok (ni xs.sum) := by
  simp only [sumD, ints_map, sum_cast, ni]
/-- the least, the greatest -/
def lmin : List Nat → Nat
  | [] => 0
  | x :: xs => xs.foldl min x
def lmax : List Nat → Nat
  | [] => 0
  | x :: xs => xs.foldl max x
theorem minL_ni : ∀ (xs : List Nat) (m : Nat), minL (xs.map ni) (ni m) = ni (xs.foldl min m)
  | [], m => rfl
  | x :: xs, m => by
    rw [List.map_cons, minL, List.foldl_cons, ← minL_ni xs (min m x)]
    congr 1
    simp only [ni, D.lt, decide_eq_true_eq]
    by_cases h : x < m
    · rw [if_pos (by omega), Nat.min_eq_right (by omega)]
    · rw [if_neg (by omega), Nat.min_eq_left (by omega)]
theorem maxL_ni : ∀ (xs : List Nat) (m : Nat), maxL (xs.map ni) (ni m) = ni (xs.foldl max m)
  | [], m => rfl
  | x :: xs, m => by
    rw [List.map_cons, maxL, List.foldl_cons, ← maxL_ni xs (max m x)]
    congr 1
    simp only [ni, D.lt, decide_eq_true_eq]
    by_cases h : m < x
    · rw [if_pos (by omega), Nat.max_eq_right (by omega)]
    · rw [if_neg (by omega), Nat.max_eq_left (by omega)]
theorem minD_ni {xs : List Nat} (h : xs ≠ []) : minD (.lst (xs.map ni)) = .ok (ni (lmin xs)) := by
  cases xs with
  | nil => exact absurd rfl h
  | cons x xs =>
    have a := alikeAll_enc (f := ni) inferInstance (x :: xs)
    have c := (inferInstance : Enc ni 0).cmps (n := 58) (by omega) (x :: xs)
    simp only [List.map_cons] at a c
    simp only [minD, itemsD, List.map_cons, a, c, minL_ni, lmin]
    rfl
theorem maxD_ni {xs : List Nat} (h : xs ≠ []) : maxD (.lst (xs.map ni)) = .ok (ni (lmax xs)) := by
  cases xs with
  | nil => exact absurd rfl h
  | cons x xs =>
    have a := alikeAll_enc (f := ni) inferInstance (x :: xs)
    have c := (inferInstance : Enc ni 0).cmps (n := 58) (by omega) (x :: xs)
    simp only [List.map_cons] at a c
    simp only [maxD, itemsD, List.map_cons, a, c, maxL_ni, lmax]
    rfl
theorem sIx_nat (n d a : Nat) : sIx n d (some (a : Int)) = min a n := by
  unfold sIx
  simp only
  rw [if_neg (by omega)]
  simp
theorem cutL_nat {α : Type} (xs : List α) (a b : Nat) : cutL xs (some (a : Int)) (some (b : Int)) = (xs.drop a).take (b - a) := by
  rw [cutL, sIx_nat, sIx_nat]
  by_cases h : a ≤ xs.length
  · rw [Nat.min_eq_left h]
    rw [List.take_eq_take_iff, List.length_drop]
    omega
  · rw [List.drop_of_length_le (by omega), List.drop_of_length_le (by omega)]
    simp
theorem cut_tup (xs : List D) (a b : Nat) : op3 .cut (.tup xs) (ni a) (ni b) = .ok (.tup ((xs.drop a).take (b - a))) := by
  simp only [op3, ni, cutD, cutL_nat]
theorem cut_lst (xs : List D) (a b : Nat) : op3 .cut (.lst xs) (ni a) (ni b) = .ok (.lst ((xs.drop a).take (b - a))) := by
  simp only [op3, ni, cutD, cutL_nat]
/-! ### pairs -/
theorem zipL_map {α β : Type} (f : α → D) (g : β → D) : ∀ (l : List α) (m : List β), zipL (l.map f) (m.map g) = (l.zip m).map (pairE f g)
  | [], m => rfl
  | x :: l, [] => rfl
  | x :: l, y :: m => by simp only [List.map_cons, zipL, List.zip_cons_cons, zipL_map f g l m]; rfl
def tripE {α β γ : Type} (f : α → D) (g : β → D) (h : γ → D) (p : α × β × γ) : D := .tup [f p.1, g p.2.1, h p.2.2]
theorem zip3L_map {α β γ : Type} (f : α → D) (g : β → D) (h : γ → D) : ∀ (l : List α) (m : List β) (k : List γ), zip3L (l.map f) (m.map g) (k.map h) = (l.zip (m.zip k)).map (tripE f g h)
  | [], m, k => rfl
  | x :: l, [], k => rfl
  | x :: l, y :: m, [] => rfl
  | x :: l, y :: m, z :: k => by simp only [List.map_cons, zip3L, List.zip_cons_cons, zip3L_map f g h l m k]; rfl
theorem enumL_map {α : Type} (f : α → D) : ∀ (l : List α) (k : Nat), enumL k (l.map f) = ((List.range' k l.length).zip l).map (pairE ni f)
  | [], k => rfl
  | x :: l, k => by simp only [List.map_cons, enumL, List.length_cons, List.range'_succ, List.zip_cons_cons, enumL_map f l (k + 1)]; rfl
theorem sq2_tup (xs : List D) : sq2 (.tup xs) = .ok xs := rfl
theorem sq2_lst (xs : List D) : sq2 (.lst xs) = .ok xs := rfl
theorem sq2_str (s : List Nat) : sq2 (.str s) = .ok (s.map chE) := rfl
theorem walk_zip2 {α β : Type} (f : α → D) (g : β → D) {a b c : D} {l : List α} {m : List β} (h : sq2 a = .ok (l.map f)) (h2 : sq2 b = .ok (m.map g)) : walk .zip2 a b c = .ok ((l.zip m).map (pairE f g)) := by
  simp only [walk, h, h2, R.bind_ok, zipL_map]
theorem walk_zip3 {α β γ : Type} (f : α → D) (g : β → D) (k : γ → D) {a b c : D} {l : List α} {m : List β} {q : List γ} (h : sq2 a = .ok (l.map f)) (h2 : sq2 b = .ok (m.map g)) (h3 : sq2 c = .ok (q.map k)) : walk .zip3 a b c = .ok ((l.zip (m.zip q)).map (tripE f g k)) := by
  simp only [walk, h, h2, h3, R.bind_ok, zip3L_map]
theorem walk_enum {α : Type} (f : α → D) {a b c : D} {l : List α} (h : sq2 a = .ok (l.map f)) : walk .enum a b c = .ok (((List.range' 0 l.length).zip l).map (pairE ni f)) := by
  simp only [walk, h, R.bind_ok, enumL_map]
theorem min2D_ni (a b : Nat) : min2D (ni a) (ni b) = .ok (ni (min a b)) := by
  simp only [ni, min2D]
  by_cases h : b < a
  · rw [if_pos (by omega), Nat.min_eq_right (by omega)]
  · rw [if_neg (by omega), Nat.min_eq_left (by omega)]
theorem max2D_ni (a b : Nat) : max2D (ni a) (ni b) = .ok (ni (max a b)) := by
  simp only [ni, max2D]
  by_cases h : a < b
  · rw [if_pos (by omega), Nat.max_eq_right (by omega)]
  · rw [if_neg (by omega), Nat.max_eq_left (by omega)]
theorem mulD_tupN {d : D} {k : Nat} (h : k ≤ 16777216) : mulD (.tup [d]) (ni k) = .ok (.tup (List.replicate k d)) := by
  rw [ni, mulD_tup1 (by omega) (by omega), Int.toNat_natCast]
theorem mulD_chE {c k : Nat} (h : k ≤ 16777216) : mulD (chE c) (ni k) = .ok (.str (List.replicate k c)) := by
  rw [ni, chE, mulD, R.chk_pos, Int.toNat_natCast, rep_one]
  rw [Bool.and_eq_true, bigI_nat (by omega)]
  refine ⟨decide_eq_true ?_, rfl⟩
  show 1 * (Int.toNat (k : Int)) ≤ LIM
  unfold LIM
  omega
theorem subD_int (a b : Nat) : subD (ni a) (ni b) = .ok (.int ((a : Int) - b)) := rfl
theorem forI_ex {α : Type} {Φ : String → List D → R D} {t : T} {body : List S} {env0 : Env} {K : Out → R Out} {Post : Env → Prop} (f : α → D) (Inv : List α → Env → Prop) {xs : List α} (h0 : Inv [] env0) (h : ∀ p x q env, xs = p ++ x :: q → Inv p env → ∃ env', (bindT t (f x) env).bind (evSs Φ body) = .ok (.nx env') ∧ Inv (p ++ [x]) env') (hk : ∀ env', Inv xs env' → ∃ e2, K (.nx env') = .ok (.nx e2) ∧ Post e2) : ∃ e2, (forI Φ t body env0 (xs.map f)).bind K = .ok (.nx e2) ∧ Post e2 := by
  obtain ⟨env', h1, h2⟩ := forI_pre f Inv xs env0 h h0
  rw [h1]
  exact hk env' h2
end OC

/-! Part L6: sheets. -/
namespace OC
local macro_rules
  | `(tactic| simp_arith [$args,*]) => `(tactic| simp -implicitDefEqProofs only [callFn_eq, doneK_rt, startEnv, evSs_nil, evSs_cons, thenS_nx, thenS_rt, evS_ret, retK_eq, nxK_eq, evS_asg, asgK_eq, evS_asgF, asgFK_eq, evS_move, moveK_eq, evS_own, ownK_eq, evS_app, appK_eq, evS_ext, extK_l, extK_t, evS_setI, evS_ifS, ifK_t, ifK_f, evS_forS, forK_eq, evS_forM, forMK_eq, evS_whl, evS_nop, ev_var, ev_cst, ev_glb, ev_o1, ev_o2, ev_o3, ev_and, ev_or, ev_chain, ev_tup, ev_lst, ev_call, ev_comp, evs_nil, evs_cons, andK_t, andK_f, orK_t, orK_f, chain1_eq, chainK_t, chainK_f, compK_eq, R.b2_ok, R.b3_ok, R.rcons_ok, List.map_cons, List.map_nil, List.length_cons, List.length_nil, List.length_map, List.replicate, List.cons_append, List.nil_append, R.bind_ok, getV_z, getV_s, bindT_nm, bindT_p2, bindT_p3, Nat.reduceAdd, Nat.reduceSub, Nat.reduceLT, Nat.reduceEqDiff, decide_true, decide_false, R.chk_true, put_s, put_z, T.slots, wipeE, List.set_cons_zero, List.set_cons_succ, Bool.not_true, Bool.not_false, Bool.and_true, Bool.true_and, Bool.or_false, Bool.false_or, ltD_ni, gtD_ni, geD_ni, leD_ni, eqD_ni, neD_ni, addD_ni, lenD_lst, lenD_tup, lenD_scr, tupleD_lst, tupleD_tup, listD_lst, listD_tup, notD_bl, walk_lst, walk_tup, mkT_ok, mkL_ok, modD_ni, fdivD_ni, mulD_l, mulD_r, Nat.reduceLeDiff, eqD_bl, neD_bl, isBool_bl, isTrue_bl, notTrue_bl, isFalse_bl, notFalse_bl, op2_add, op2_sub, op2_mul, op2_fdiv, op2_mod, op2_pow, op2_eq, op2_ne, op2_le, op2_isin, op2_notin, op2_item, op2_count, op2_index, op2_join, op2_split, op2_min2, op2_max2, op2_from_, op2_upto, op1_neg, op1_len, op1_tuple, op1_list, op1_sorted, op1_sum, op1_min, op1_max, op1_all, op1_str, op1_int, op1_rev, op1_step2, op1_sset, op1_listRange, op1_lenset, op1_upper, op1_sortedS, op1_ssetS, op1_intS, op1_not, $args,*])
variable {P : Prog}
structure Sheet where
  wide : Nat
  frame : List Nat
  words : List (List Nat)
deriving DecidableEq
def shD (s : Sheet) : D := .tup [ni s.wide, .str s.frame, .tup (s.words.map D.str)]
/-- a sheet within bounds -/
structure GS (s : Sheet) : Prop where
  w1 : 1 ≤ s.wide
  w3 : s.wide ≤ 3
  fl : s.frame.length ≤ 1000
  n1 : 1 ≤ s.words.length
  n8 : s.words.length ≤ 100
  wl : ∀ w ∈ s.words, w.length ≤ 1000
theorem sh0 (s : Sheet) : itemD (shD s) (ni 0) = .ok (ni s.wide) := rfl
theorem sh1 (s : Sheet) : itemD (shD s) (ni 1) = .ok (.str s.frame) := rfl
theorem sh2 (s : Sheet) : itemD (shD s) (ni 2) = .ok (.tup (s.words.map D.str)) := rfl
def haveW (s : Sheet) (c : List Nat) : Bool := c.all fun k => decide (k < s.words.length)
theorem have_words_run (h : P "have_words" = some fn_have_words) (n : Nat) (s : Sheet) (c : List Nat) (hc : c.length ≤ 1000) : run P (n+1) "have_words" [shD s, tupE ni c] = .ok (.bl (haveW s c)) := by
  rw [run_of h]
  simp_arith [fn_have_words, tupE]
  rw [compI_all ni (fun k => [some (shD s), some (.tup (c.map ni)), some (ni k)]) (fun k => .bl (decide (k < s.words.length))) (by omega)]
  · simp_arith [allD_map, haveW]
  · intro k _
    simp_arith []
  · intro k _
    simp_arith [sh2]
def wordAt (s : Sheet) (k : Nat) : List Nat := s.words.getD k []
def textM (s : Sheet) (c : List Nat) : List Nat := s.frame ++ (c.map (wordAt s)).flatten
theorem wordAt_get {s : Sheet} {k : Nat} (h : k < s.words.length) : s.words[k]? = some (wordAt s k) := by
  simp [wordAt, h]
theorem wordAt_len {s : Sheet} (g : GS s) (k : Nat) : (wordAt s k).length ≤ 1000 := by
  by_cases h : k < s.words.length
  · exact g.wl _ (List.mem_of_getElem? (wordAt_get h))
  · simp [wordAt, List.getD, h]
theorem words_len {s : Sheet} (g : GS s) : ∀ c : List Nat, (c.map (wordAt s)).flatten.length ≤ 1000 * c.length
  | [] => by simp
  | k :: c => by
    have := words_len g c
    have := wordAt_len g k
    simp only [List.map_cons, List.flatten_cons, List.length_append, List.length_cons]
    omega
theorem textM_len {s : Sheet} (g : GS s) (c : List Nat) (hc : c.length ≤ 1000) : (textM s c).length ≤ 1001000 := by
  have := words_len g c
  have := g.fl
  rw [textM, List.length_append]
  omega
theorem haveW_mem {s : Sheet} {c : List Nat} (h : haveW s c = true) {k : Nat} (hk : k ∈ c) : k < s.words.length := by
  have := List.all_eq_true.mp h k hk
  exact of_decide_eq_true this
theorem text_of_run (h0 : P "text_of" = some fn_text_of) (h : P "have_words" = some fn_have_words) (n : Nat) {s : Sheet} (g : GS s) {c : List Nat} (hc : c.length ≤ 1000) (hw : haveW s c = true) : run P (n+2) "text_of" [shD s, tupE ni c] = .ok (.str (textM s c)) := by
  rw [run_of h0]
  have hl := words_len g c
  have := g.fl
  simp_arith [fn_text_of, have_words_run h n s c hc, hw, sh1]
  simp_arith [tupE]
  rw [compI_all ni (fun k => [some (shD s), some (.tup (c.map ni)), some (ni k)]) (fun k => .str (wordAt s k)) (by omega)]
  · rw [show (c.map fun k => D.str (wordAt s k)) = (c.map (wordAt s)).map D.str by rw [List.map_map]; rfl]
    simp_arith []
    rw [joinD_nil (by omega)]
    simp_arith []
    rw [addD_str (by show _ ≤ 16777216; omega)]
    simp_arith [textM]
  · intro k _
    simp_arith []
  · intro k hk
    simp_arith [sh2, itemD_tupE (f := D.str) (wordAt_get (haveW_mem hw hk))]
def letters (w : Nat) : List Nat := [97, 98, 99, 100].take w
def realM (s : Sheet) (c : List Nat) : List Nat := (letters s.wide).map fun l => (textM s c).count l
theorem letters_len {w : Nat} (h : w ≤ 3) : (letters w).length = w := by
  unfold letters
  rw [List.length_take]
  simp
  omega
theorem realM_len {s : Sheet} (g : GS s) (c : List Nat) : (realM s c).length = s.wide := by
  rw [realM, List.length_map, letters_len g.w3]
theorem upto_letters (w : Nat) : uptoD (.str [97, 98, 99, 100]) (ni w) = .ok (.str (letters w)) := uptoD_str w (by simp)
theorem abc_letters {w : Nat} (h : w ≤ 3) : uptoD (.str [97, 98, 99]) (ni w) = .ok (.str (letters w)) := by
  rw [uptoD_str w (by simp), letters]
  match w, h with
  | 0, _ => rfl
  | 1, _ => rfl
  | 2, _ => rfl
  | 3, _ => rfl
theorem real_run (h00 : P "real" = some fn_real) (h0 : P "text_of" = some fn_text_of) (h : P "have_words" = some fn_have_words) (n : Nat) {s : Sheet} (g : GS s) {c : List Nat} (hc : c.length ≤ 1000) (hw : haveW s c = true) : run P (n+3) "real" [shD s, tupE ni c] = .ok (tupE ni (realM s c)) := by
  rw [run_of h00]
  have := letters_len g.w3
  have := g.w3
  simp_arith [fn_real, text_of_run h0 h n g hc hw, sh0, upto_letters, walk_str]
  rw [compI_all chE (fun l => [some (shD s), some (tupE ni c), some (.str (textM s c)), some (chE l)]) (fun l => ni ((textM s c).count l)) (by omega)]
  · simp_arith [tupE, realM, List.map_map]
    rfl
  · intro k _
    simp_arith []
  · intro k _
    simp_arith [countD_str]
def isTrueM (s : Sheet) (c : List Nat) : Bool := haveW s c && decide (realM s c = c)
theorem is_true_run (h3 : P "is_true" = some fn_is_true) (h00 : P "real" = some fn_real) (h0 : P "text_of" = some fn_text_of) (h : P "have_words" = some fn_have_words) (n : Nat) {s : Sheet} (g : GS s) {c : List Nat} (hc : c.length ≤ 1000) : run P (n+4) "is_true" [shD s, tupE ni c] = .ok (.bl (isTrueM s c)) := by
  rw [run_of h3]
  simp_arith [fn_is_true, have_words_run h (n + 2) s c hc]
  cases hw : haveW s c with
  | true => simp_arith [real_run h00 h0 h n g hc hw, eqD_enc (f := tupE ni) (show 0 + 1 ≤ 60 by omega), isTrueM, hw]
  | false => simp_arith [isTrueM, hw, Bool.false_and]
/-! ### all counts in a box -/
abbrev boxE : List (Nat × Nat) → D := tupE (pairE ni ni)
def boxStep (found : List (List Nat)) (p : Nat × Nat) : List (List Nat) := found.flatMap fun c => (List.range' p.1 (p.2 + 1 - p.1)).map fun k => c ++ [k]
def allIn (box : List (Nat × Nat)) : List (List Nat) := box.foldl boxStep [[]]
theorem allIn_snoc (box : List (Nat × Nat)) (p : Nat × Nat) : allIn (box ++ [p]) = boxStep (allIn box) p := by
  rw [allIn, List.foldl_append]
  rfl
theorem flatMap_len_le {α β : Type} (g : α → List β) (N : Nat) : ∀ l : List α, (∀ x ∈ l, (g x).length ≤ N) → (l.flatMap g).length ≤ l.length * N
  | [], _ => by simp
  | x :: l, h => by
    have h1 := flatMap_len_le g N l fun y hy => h y (.tail _ hy)
    have h2 := h x (.head _)
    rw [List.flatMap_cons, List.length_append, List.length_cons, Nat.succ_mul]
    omega
theorem snocInd {α : Type} {motive : List α → Prop} (nil : motive []) (snoc : ∀ l a, motive l → motive (l ++ [a])) (l : List α) : motive l := by
  have : ∀ r : List α, motive r.reverse := by
    intro r
    induction r with
    | nil => exact nil
    | cons a r ih => rw [List.reverse_cons]; exact snoc _ _ ih
  have h := this l.reverse
  rwa [List.reverse_reverse] at h
theorem allIn_len (box : List (Nat × Nat)) : (∀ p ∈ box, p.2 < 100) → (allIn box).length ≤ 100 ^ box.length := by
  induction box using snocInd with
  | nil => intro _; exact Nat.le_refl _
  | snoc l a ih =>
    intro h
    have h1 := ih fun p hp => h p (by simp [hp])
    have h2 := h a (by simp)
    rw [allIn_snoc, boxStep, List.length_append, List.length_singleton, Nat.pow_succ]
    have h3 := flatMap_len_le (fun c => (List.range' a.1 (a.2 + 1 - a.1)).map fun k => c ++ [k]) 100 (allIn l) fun c _ => by rw [List.length_map, List.length_range']; omega
    have h4 := Nat.mul_le_mul_right 100 h1
    omega
theorem allIn_mem_len (box : List (Nat × Nat)) : ∀ c ∈ allIn box, c.length = box.length := by
  induction box using snocInd with
  | nil => intro c hc; rw [allIn, List.foldl_nil, List.mem_singleton] at hc; rw [hc]; rfl
  | snoc l a ih =>
    intro c hc
    rw [allIn_snoc, boxStep] at hc
    simp only [List.mem_flatMap, List.mem_map] at hc
    obtain ⟨d, hd, k, _, rfl⟩ := hc
    rw [List.length_append, List.length_append, ih d hd]
    rfl
theorem all_in_run (h : P "all_in" = some fn_all_in) (n : Nat) (box : List (Nat × Nat)) (hb : box.length ≤ 3) (hh : ∀ p ∈ box, p.2 < 100 ∧ p.1 < 100) : run P (n+1) "all_in" [boxE box] = .ok (.lst ((allIn box).map (tupE ni))) := by
  rw [run_of h]
  simp_arith [fn_all_in, boxE, tupE]
  rw [R.bind_assoc]
  refine forI_then (pairE ni ni) (fun p env => ∃ a b c, env = [some (.tup (box.map (pairE ni ni))), some (.lst ((allIn p).map (tupE ni))), a, b, none, c, none]) ⟨none, none, none, rfl⟩ ?_ ?_
  · rintro p x q env e ⟨a, b, c, rfl⟩
    have hx := hh x (by rw [e]; simp)
    have hp : ∀ y ∈ p, y.2 < 100 := fun y hy => (hh y (by rw [e]; simp [hy])).1
    have hpl : p.length + 1 ≤ 3 := by
      have := congrArg List.length e
      simp at this
      omega
    have hl := allIn_len p hp
    have hl2 : 100 ^ p.length ≤ 100 ^ 2 := Nat.pow_le_pow_right (by omega) (by omega)
    simp_arith [pairE]
    refine forI_ex (tupE ni) (fun q env => ∃ c, env = [some (.tup (box.map (pairE ni ni))), some (.lst ((allIn p).map (tupE ni))), some (ni x.1), some (ni x.2), some (.lst ((boxStep q x).map (tupE ni))), c, none]) ⟨c, rfl⟩ ?_ ?_
    · rintro r d q2 env e2 ⟨c2, rfl⟩
      have hd := allIn_mem_len p d (by rw [e2]; simp)
      have hle := flat_le (fun c => (List.range' x.1 (x.2 + 1 - x.1)).map fun k => c ++ [k]) e2
      have hle2 := flatMap_len_le (fun c => (List.range' x.1 (x.2 + 1 - x.1)).map fun k => c ++ [k]) 100 (allIn p) fun c _ => by rw [List.length_map, List.length_range']; omega
      rw [List.length_map, List.length_range'] at hle
      refine ⟨_, ?_, some (tupE ni d), rfl⟩
      simp_arith [walk_range2 (show x.1 < 2 ^ 62 by omega) (show x.2 + 1 < 2 ^ 62 by omega)]
      rw [compI_all ni (fun k => [some (.tup (box.map (pairE ni ni))), some (.lst ((allIn p).map (tupE ni))), some (ni x.1), some (ni x.2), some (.lst ((boxStep r x).map (tupE ni))), some (tupE ni d), some (ni k)]) (fun k => tupE ni (d ++ [k])) (by rw [List.length_range']; omega)]
      · simp_arith []
        rw [R.chk_pos (lim_of (by rw [List.length_range', boxStep]; omega))]
        simp_arith [boxStep, List.flatMap_append, List.flatMap_cons, List.flatMap_nil, List.append_nil, List.map_append, List.map_map]
        rfl
      · intro k _
        simp_arith []
      · intro k _
        simp_arith [tupE]
        rw [addD_tup (by rw [List.length_map]; show d.length + 1 ≤ 16777216; omega)]
        simp_arith [List.map_append]
    · rintro env' ⟨c2, rfl⟩
      refine ⟨_, ?_, some (ni x.1), some (ni x.2), c2, rfl⟩
      simp_arith [allIn_snoc]
  · rintro env' ⟨a, b, c, rfl⟩
    simp_arith []
def wholeBox (s : Sheet) : List (Nat × Nat) := List.replicate s.wide (0, s.words.length - 1)
theorem whole_box_run (h : P "whole_box" = some fn_whole_box) (n : Nat) {s : Sheet} (g : GS s) : run P (n+1) "whole_box" [shD s] = .ok (boxE (wholeBox s)) := by
  rw [run_of h]
  have := g.w3
  simp_arith [fn_whole_box, sh0, sh2, subD_ni g.n1]
  rw [mulD_tupN (by omega)]
  simp_arith [boxE, tupE, wholeBox, List.map_replicate]
  rfl
/-- a box within bounds -/
structure GB (s : Sheet) (box : List (Nat × Nat)) : Prop where
  len : box.length = s.wide
  lt : ∀ p ∈ box, p.1 ≤ p.2 ∧ p.2 < s.words.length
theorem GB.whole {s : Sheet} (g : GS s) : GB s (wholeBox s) := by
  refine ⟨by simp [wholeBox], fun p hp => ?_⟩
  rw [wholeBox] at hp
  have := List.eq_of_mem_replicate hp
  subst this
  have := g.n1
  exact ⟨Nat.zero_le _, by show s.words.length - 1 < _; omega⟩
theorem GB.hh {s : Sheet} (g : GS s) {box : List (Nat × Nat)} (b : GB s box) : ∀ p ∈ box, p.2 < 100 ∧ p.1 < 100 := fun p hp => by
  have := b.lt p hp
  have := g.n8
  omega
theorem GB.l3 {s : Sheet} (g : GS s) {box : List (Nat × Nat)} (b : GB s box) : box.length ≤ 3 := by rw [b.len]; exact g.w3
theorem allIn_lim {s : Sheet} (g : GS s) {box : List (Nat × Nat)} (b : GB s box) : (allIn box).length ≤ 1000000 := by
  have h1 := allIn_len box fun p hp => (b.hh g p hp).1
  have h2 : 100 ^ box.length ≤ 100 ^ 3 := Nat.pow_le_pow_right (by omega) (b.l3 g)
  omega
theorem allIn_memlen {s : Sheet} (g : GS s) {box : List (Nat × Nat)} (b : GB s box) {c : List Nat} (hc : c ∈ allIn box) : c.length = s.wide ∧ c.length ≤ 1000 := by
  have := allIn_mem_len box c hc
  have := b.len
  have := g.w3
  omega
def truthsM (s : Sheet) (box : List (Nat × Nat)) : List (List Nat) := (allIn box).filter (isTrueM s)
theorem truths_run (h5 : P "truths" = some fn_truths) (h4 : P "all_in" = some fn_all_in) (h3 : P "is_true" = some fn_is_true) (h00 : P "real" = some fn_real) (h0 : P "text_of" = some fn_text_of) (h : P "have_words" = some fn_have_words) (n : Nat) {s : Sheet} (g : GS s) {box : List (Nat × Nat)} (b : GB s box) : run P (n+5) "truths" [shD s, boxE box] = .ok (.tup ((truthsM s box).map (tupE ni))) := by
  rw [run_of h5]
  have := allIn_lim g b
  simp_arith [fn_truths, all_in_run h4 (n + 3) box (b.l3 g) (b.hh g)]
  rw [compI_if (tupE ni) (fun c => [some (shD s), some (boxE box), some (tupE ni c)]) (isTrueM s) (tupE ni) (by omega)]
  · simp_arith [truthsM]
  · intro k _
    simp_arith []
  · intro k hk
    simp_arith [is_true_run h3 h00 h0 h n g (allIn_memlen g b hk).2]
  · intro k _ _
    simp_arith []
/-! ### bounds -/
def bstep (s : Sheet) (l : Nat) (m : Nat × Nat) (p : Nat × Nat) : Nat × Nat := (m.1 + lmin (((s.words.drop p.1).take (p.2 + 1 - p.1)).map fun w => w.count l), m.2 + lmax (((s.words.drop p.1).take (p.2 + 1 - p.1)).map fun w => w.count l))
def boundsOf (s : Sheet) (box : List (Nat × Nat)) (l : Nat) : Nat × Nat := box.foldl (bstep s l) (s.frame.count l, s.frame.count l)
theorem cut_ne {s : Sheet} {p : Nat × Nat} (h : p.1 ≤ p.2 ∧ p.2 < s.words.length) : ((s.words.drop p.1).take (p.2 + 1 - p.1)).length = p.2 + 1 - p.1 := by
  rw [List.length_take, List.length_drop]
  omega
theorem bounds_of_run (h : P "bounds_of" = some fn_bounds_of) (n : Nat) {s : Sheet} (g : GS s) {box : List (Nat × Nat)} (b : GB s box) (l : Nat) : run P (n+1) "bounds_of" [shD s, boxE box, chE l] = .ok (pairE ni ni (boundsOf s box l)) := by
  rw [run_of h]
  have hn := g.n8
  simp_arith [fn_bounds_of, sh1, countD_str, boxE, tupE]
  rw [R.bind_assoc]
  refine forI_then (pairE ni ni) (fun p env => ∃ a b c, env = [some (shD s), some (.tup (box.map (pairE ni ni))), some (chE l), some (ni (boundsOf s p l).1), some (ni (boundsOf s p l).2), a, b, none, c]) ⟨none, none, none, rfl⟩ ?_ ?_
  · rintro p x q env e ⟨a, b', c, rfl⟩
    have hx := b.lt x (by rw [e]; simp)
    have hcl := cut_ne hx
    refine ⟨_, ?_, some (ni x.1), some (ni x.2), some (.lst ((((s.words.drop x.1).take (x.2 + 1 - x.1)).map fun w => w.count l).map ni)), rfl⟩
    simp_arith [pairE, sh2, cut_tup, ← List.map_drop, ← List.map_take]
    rw [compI_all D.str (fun w => [some (shD s), some (.tup (box.map (pairE ni ni))), some (chE l), some (ni (boundsOf s p l).1), some (ni (boundsOf s p l).2), some (ni x.1), some (ni x.2), some (.str w), c]) (fun w => ni (w.count l)) (by omega)]
    · rw [show (((s.words.drop x.1).take (x.2 + 1 - x.1)).map fun w => ni (w.count l)) = (((s.words.drop x.1).take (x.2 + 1 - x.1)).map fun w => w.count l).map ni by rw [List.map_map]; rfl]
      have hne : (((s.words.drop x.1).take (x.2 + 1 - x.1)).map fun w => w.count l) ≠ [] := fun z => by
        have := congrArg List.length z
        rw [List.length_map, List.length_nil] at this
        omega
      simp_arith [minD_ni hne, maxD_ni hne]
      rw [show boundsOf s (p ++ [x]) l = bstep s l (boundsOf s p l) x by rw [boundsOf, List.foldl_append]; rfl]
      rfl
    · intro k _
      simp_arith []
    · intro k _
      simp_arith [countD_str]
  · rintro env' ⟨a, b', c, rfl⟩
    simp_arith [pairE]
def boundsM (s : Sheet) (box : List (Nat × Nat)) : List (Nat × Nat) := (letters s.wide).map (boundsOf s box)
theorem bounds_run (h1 : P "bounds" = some fn_bounds) (h : P "bounds_of" = some fn_bounds_of) (n : Nat) {s : Sheet} (g : GS s) {box : List (Nat × Nat)} (b : GB s box) : run P (n+2) "bounds" [shD s, boxE box] = .ok (boxE (boundsM s box)) := by
  rw [run_of h1]
  have := letters_len g.w3
  have := g.w3
  simp_arith [fn_bounds, sh0, upto_letters, walk_str]
  rw [compI_all chE (fun l => [some (shD s), some (boxE box), some (chE l)]) (fun l => pairE ni ni (boundsOf s box l)) (by omega)]
  · simp_arith [boxE, tupE, boundsM, List.map_map]
    rfl
  · intro k _
    simp_arith []
  · intro k _
    simp_arith [bounds_of_run h n g b]
end OC

/-! Part L7: what the laws draw and do by themselves. -/
namespace OC
local macro_rules
  | `(tactic| simp_arith [$args,*]) => `(tactic| simp -implicitDefEqProofs only [callFn_eq, doneK_rt, startEnv, evSs_nil, evSs_cons, thenS_nx, thenS_rt, evS_ret, retK_eq, nxK_eq, evS_asg, asgK_eq, evS_asgF, asgFK_eq, evS_move, moveK_eq, evS_own, ownK_eq, evS_app, appK_eq, evS_ext, extK_l, extK_t, evS_setI, evS_ifS, ifK_t, ifK_f, evS_forS, forK_eq, evS_forM, forMK_eq, evS_whl, evS_nop, ev_var, ev_cst, ev_glb, ev_o1, ev_o2, ev_o3, ev_and, ev_or, ev_chain, ev_tup, ev_lst, ev_call, ev_comp, evs_nil, evs_cons, andK_t, andK_f, orK_t, orK_f, chain1_eq, chainK_t, chainK_f, compK_eq, R.b2_ok, R.b3_ok, R.rcons_ok, List.map_cons, List.map_nil, List.length_cons, List.length_nil, List.length_map, List.replicate, List.cons_append, List.nil_append, R.bind_ok, getV_z, getV_s, bindT_nm, bindT_p2, bindT_p3, Nat.reduceAdd, Nat.reduceSub, Nat.reduceLT, Nat.reduceEqDiff, decide_true, decide_false, R.chk_true, put_s, put_z, T.slots, wipeE, List.set_cons_zero, List.set_cons_succ, Bool.not_true, Bool.not_false, Bool.and_true, Bool.true_and, Bool.or_false, Bool.false_or, ltD_ni, gtD_ni, geD_ni, leD_ni, eqD_ni, neD_ni, addD_ni, lenD_lst, lenD_tup, lenD_scr, tupleD_lst, tupleD_tup, listD_lst, listD_tup, notD_bl, walk_lst, walk_tup, mkT_ok, mkL_ok, modD_ni, fdivD_ni, mulD_l, mulD_r, Nat.reduceLeDiff, eqD_bl, neD_bl, isBool_bl, isTrue_bl, notTrue_bl, isFalse_bl, notFalse_bl, op2_add, op2_sub, op2_mul, op2_fdiv, op2_mod, op2_pow, op2_eq, op2_ne, op2_le, op2_isin, op2_notin, op2_item, op2_count, op2_index, op2_join, op2_split, op2_min2, op2_max2, op2_from_, op2_upto, op1_neg, op1_len, op1_tuple, op1_list, op1_sorted, op1_sum, op1_min, op1_max, op1_all, op1_str, op1_int, op1_rev, op1_step2, op1_sset, op1_listRange, op1_lenset, op1_upper, op1_sortedS, op1_ssetS, op1_intS, op1_not, $args,*])
variable {P : Prog}
/-- a sheet as the laws draw them -/
structure SS (most : Nat) (s : Sheet) : Prop where
  w1 : 1 ≤ s.wide
  w3 : s.wide ≤ 3
  fl : s.frame.length ≤ 8
  n1 : 1 ≤ s.words.length
  n8 : s.words.length ≤ most
  wl : ∀ w ∈ s.words, w.length ≤ 4
  fa : ∀ c ∈ s.frame, 97 ≤ c ∧ c ≤ 100
  wa : ∀ w ∈ s.words, ∀ c ∈ w, 97 ≤ c ∧ c ≤ 100
theorem SS.gs {most : Nat} {s : Sheet} (h : SS most s) (hm : most ≤ 100) : GS s := ⟨h.w1, h.w3, by have := h.fl; omega, h.n1, by have := h.n8; omega, fun w hw => by have := h.wl w hw; omega⟩
def lettersN (number most by' : Nat) : List Nat := (List.range (number % (most + 1))).map fun k => 97 + drawnN number k / 4 % by'
theorem lettersN_len (number most by' : Nat) : (lettersN number most by').length ≤ most := by
  rw [lettersN, List.length_map, List.length_range]
  have := Nat.mod_lt number (show 0 < most + 1 by omega)
  omega
theorem lettersN_abc {number most by' c : Nat} (h : 1 ≤ by') (h4 : by' ≤ 4) (hc : c ∈ lettersN number most by') : 97 ≤ c ∧ c ≤ 100 := by
  rw [lettersN, List.mem_map] at hc
  obtain ⟨k, _, rfl⟩ := hc
  have := Nat.mod_lt (drawnN number k / 4) (show 0 < by' by omega)
  omega
theorem abcd_at {i : Nat} (h : i < 4) : itemD (.str [97, 98, 99, 100]) (ni i) = .ok (chE (97 + i)) := by
  refine itemD_str ?_ (by simp)
  match i, h with
  | 0, _ => rfl
  | 1, _ => rfl
  | 2, _ => rfl
  | 3, _ => rfl
theorem law_letters_run (h : P "_law_letters" = some fn_law_letters) (h1 : P "_law_drawn" = some fn_law_drawn) (n number most by' : Nat) (hm : most ≤ 1000) (h0 : 1 ≤ by') (h4 : by' ≤ 4) : run P (n+2) "_law_letters" [ni number, ni most, ni by'] = .ok (.str (lettersN number most by')) := by
  rw [run_of h]
  have hlt := Nat.mod_lt number (show 0 < most + 1 by omega)
  simp_arith [fn_law_letters, modD_ni (show 0 < most + 1 by omega), walk_range1 (show number % (most + 1) < 2 ^ 62 by omega)]
  rw [compI_all ni (fun k => [some (ni number), some (ni most), some (ni by'), some (ni k)]) (fun k => chE (97 + drawnN number k / 4 % by')) (by rw [List.length_range]; omega)]
  · rw [show ((List.range (number % (most + 1))).map fun k => chE (97 + drawnN number k / 4 % by')) = (lettersN number most by').map chE by rw [lettersN, List.map_map]; rfl]
    have := lettersN_len number most by'
    simp_arith []
    rw [joinD_nilC (by omega)]
    simp_arith []
  · intro k _
    simp_arith []
  · intro k hk
    rw [List.mem_range] at hk
    simp_arith [drawn_run h1 n number k (by omega), modD_ni (show 0 < by' by omega)]
    exact abcd_at (by have := Nat.mod_lt (drawnN number k / 4) (show 0 < by' by omega); omega)
def ofN (number : Nat) : Nat := min 4 (1 + number % 3 + number / 4 % 2)
def sheetN (number most : Nat) : Sheet := ⟨1 + number % 3, lettersN (number / 8) ([8, 3].getD (number / 64 % 2) 0) (ofN number),
  (List.range (1 + number / 128 % most)).map fun k => lettersN (drawnN number (20 + k) / 4) ([4, 2, 1].getD (number / 1024 % 3) 0) (ofN number)⟩
theorem ofN_le (number : Nat) : 1 ≤ ofN number ∧ ofN number ≤ 4 := by
  unfold ofN
  omega
theorem two_at (a b : Nat) {j : Nat} (h : j < 2) : itemD (.tup [ni a, ni b]) (ni j) = .ok (ni ([a, b].getD j 0)) := by
  match j, h with
  | 0, _ => rfl
  | 1, _ => rfl
theorem three_at (a b c : Nat) {j : Nat} (h : j < 3) : itemD (.tup [ni a, ni b, ni c]) (ni j) = .ok (ni ([a, b, c].getD j 0)) := by
  match j, h with
  | 0, _ => rfl
  | 1, _ => rfl
  | 2, _ => rfl
theorem getD2_le (a b j m : Nat) (ha : a ≤ m) (hb : b ≤ m) : [a, b].getD j 0 ≤ m := by
  match j with
  | 0 => exact ha
  | 1 => exact hb
  | j + 2 => exact Nat.zero_le _
theorem getD3_le (a b c j m : Nat) (ha : a ≤ m) (hb : b ≤ m) (hc : c ≤ m) : [a, b, c].getD j 0 ≤ m := by
  match j with
  | 0 => exact ha
  | 1 => exact hb
  | 2 => exact hc
  | j + 3 => exact Nat.zero_le _
theorem sheetN_ss (number most : Nat) (hm : 1 ≤ most) : SS most (sheetN number most) := by
  have ho := ofN_le number
  have hq := Nat.mod_lt (number / 128) (show 0 < most by omega)
  refine ⟨?_, ?_, ?_, ?_, ?_, ?_, ?_, ?_⟩
  · show 1 ≤ 1 + number % 3; omega
  · show 1 + number % 3 ≤ 3; omega
  · have := lettersN_len (number / 8) ([8, 3].getD (number / 64 % 2) 0) (ofN number)
    have := getD2_le 8 3 (number / 64 % 2) 8 (by omega) (by omega)
    show (lettersN _ _ _).length ≤ 8
    omega
  · show 1 ≤ (List.map _ _).length
    rw [List.length_map, List.length_range]; omega
  · show (List.map _ _).length ≤ most
    rw [List.length_map, List.length_range]; omega
  · intro w hw
    obtain ⟨k, _, rfl⟩ := List.mem_map.mp hw
    have := lettersN_len (drawnN number (20 + k) / 4) ([4, 2, 1].getD (number / 1024 % 3) 0) (ofN number)
    have := getD3_le 4 2 1 (number / 1024 % 3) 4 (by omega) (by omega) (by omega)
    omega
  · intro c hc
    exact lettersN_abc ho.1 ho.2 hc
  · intro w hw c hc
    obtain ⟨k, _, rfl⟩ := List.mem_map.mp hw
    exact lettersN_abc ho.1 ho.2 hc
theorem law_sheet_run (h2 : P "_law_sheet" = some fn_law_sheet) (h : P "_law_letters" = some fn_law_letters) (h1 : P "_law_drawn" = some fn_law_drawn) (n number most : Nat) (hm : 1 ≤ most) (hm8 : most ≤ 100) : run P (n+3) "_law_sheet" [ni number, ni most] = .ok (shD (sheetN number most)) := by
  rw [run_of h2]
  have ho := ofN_le number
  have hq := Nat.mod_lt (number / 128) (show 0 < most by omega)
  have g2 := getD2_le 8 3 (number / 64 % 2) 8 (by omega) (by omega)
  have g3 := getD3_le 4 2 1 (number / 1024 % 3) 4 (by omega) (by omega) (by omega)
  have e1 : min 4 (1 + number % 3 + number / 4 % 2) = ofN number := rfl
  simp_arith [fn_law_sheet, min2D_ni, e1, two_at 8 3 (Nat.mod_lt (number / 64) (show 0 < 2 by omega)), law_letters_run h h1 n _ _ _ (show [8, 3].getD (number / 64 % 2) 0 ≤ 1000 by omega) ho.1 ho.2, modD_ni (show 0 < most by omega), walk_range1 (show 1 + number / 128 % most < 2 ^ 62 by omega)]
  rw [R.bind_assoc]
  refine forI_then ni (fun p env => ∃ a, env = [some (ni number), some (ni most), some (ni (1 + number % 3)), some (ni (ofN number)), some (.str (lettersN (number / 8) ([8, 3].getD (number / 64 % 2) 0) (ofN number))), some (.lst ((p.map fun k => lettersN (drawnN number (20 + k) / 4) ([4, 2, 1].getD (number / 1024 % 3) 0) (ofN number)).map D.str)), a]) ⟨none, rfl⟩ ?_ ?_
  · rintro p k q env e ⟨a, rfl⟩
    have hk := range_split e
    have hpl : p.length + 1 ≤ 1 + number / 128 % most := by
      have := congrArg List.length e
      rw [List.length_range, List.length_append, List.length_cons] at this
      omega
    refine ⟨_, ?_, some (ni k), rfl⟩
    simp_arith [drawn_run h1 (n + 1) number (20 + k) (by omega), three_at 4 2 1 (Nat.mod_lt (number / 1024) (show 0 < 3 by omega)), law_letters_run h h1 n _ _ _ (show [4, 2, 1].getD (number / 1024 % 3) 0 ≤ 1000 by omega) ho.1 ho.2, limlt_of (show p.length < 16777216 by omega), List.map_append]
  · rintro env' ⟨a, rfl⟩
    simp_arith [shD, sheetN]
/-! ### real counts, all counts -/
theorem law_real_run (h : P "_law_real" = some fn_law_real) (n : Nat) {s : Sheet} (g : GS s) {c : List Nat} (hc : c.length ≤ 1000) (hw : haveW s c = true) : run P (n+1) "_law_real" [shD s, tupE ni c] = .ok (tupE ni (realM s c)) := by
  rw [run_of h]
  have := g.w3
  have hlet := letters_len g.w3
  have htl := textM_len g c hc
  simp_arith [fn_law_real, sh1, tupE]
  rw [R.bind_assoc]
  refine forI_then ni (fun p env => ∃ a, env = [some (shD s), some (.tup (c.map ni)), some (.str (textM s p)), a, none, none]) ⟨none, by simp [textM]⟩ ?_ ?_
  · rintro p k q env e ⟨a, rfl⟩
    have hk : k < s.words.length := haveW_mem hw (by rw [e]; simp)
    have hpl : p.length + 1 ≤ c.length := by
      have := congrArg List.length e
      rw [List.length_append, List.length_cons] at this
      omega
    have h1 := textM_len g p (by omega)
    have h2 := wordAt_len g k
    refine ⟨_, ?_, some (ni k), rfl⟩
    simp_arith [sh2, itemD_tupE (f := D.str) (wordAt_get hk)]
    rw [addD_str (by show _ ≤ 16777216; omega)]
    simp_arith [textM, List.map_append, List.flatten_append, List.flatten_cons, List.flatten_nil, List.append_nil, List.append_assoc]
  · rintro env' ⟨a, rfl⟩
    simp_arith [sh0, abc_letters g.w3, walk_str]
    rw [compI_all chE (fun l => [some (shD s), some (.tup (c.map ni)), some (.str (textM s c)), a, some (chE l), none]) (fun l => ni ((textM s c).count l)) (by omega)]
    · simp_arith [tupE, realM, List.map_map]
      rfl
    · intro k _
      simp_arith []
    · intro l _
      simp_arith [walk_str]
      rw [compI_if chE (fun z => [some (shD s), some (.tup (c.map ni)), some (.str (textM s c)), a, some (chE l), some (chE z)]) (fun z => decide (z = l)) chE (by omega)]
      · simp_arith [List.count_eq_length_filter]
        rfl
      · intro k _
        simp_arith []
      · intro k _
        simp_arith [eqD_enc (f := chE) (show 0 ≤ 60 by omega)]
      · intro k _ _
        simp_arith []
theorem law_all_run (h : P "_law_all" = some fn_law_all) (n : Nat) {s : Sheet} (g : GS s) : run P (n+1) "_law_all" [shD s] = .ok (.lst ((allIn (wholeBox s)).map (tupE ni))) := by
  rw [run_of h]
  have hw3 := g.w3
  have hn8 := g.n8
  have hn1 := g.n1
  have key : ∀ p : List Nat, allIn (p.map fun _ => ((0 : Nat), s.words.length - 1)) = allIn (List.replicate p.length (0, s.words.length - 1)) := fun p => by
    congr 1
    exact List.map_const' ..
  simp_arith [fn_law_all, sh0, walk_range1 (show s.wide < 2 ^ 62 by omega)]
  rw [R.bind_assoc]
  refine forI_then ni (fun p env => ∃ a b c, env = [some (shD s), some (.lst ((allIn (p.map fun _ => (0, s.words.length - 1))).map (tupE ni))), a, b, c, none]) ⟨none, none, none, rfl⟩ ?_ ?_
  · rintro p x q env e ⟨a, b, c, rfl⟩
    have hpl : p.length + 1 ≤ 3 := by
      have := congrArg List.length e
      simp at this
      omega
    have hl := allIn_len (p.map fun _ => ((0 : Nat), s.words.length - 1)) fun y hy => by
      obtain ⟨_, _, rfl⟩ := List.mem_map.mp hy
      show s.words.length - 1 < 100
      omega
    rw [List.length_map] at hl
    have hl2 : 100 ^ p.length ≤ 100 ^ 2 := Nat.pow_le_pow_right (by omega) (by omega)
    generalize hA : allIn (p.map fun _ => ((0 : Nat), s.words.length - 1)) = A at hl ⊢
    have hAl : ∀ d ∈ A, d.length = p.length := fun d hd => by
      rw [← hA] at hd
      rw [allIn_mem_len _ d hd, List.length_map]
    simp_arith []
    refine forI_ex (tupE ni) (fun q env => ∃ c, env = [some (shD s), some (.lst (A.map (tupE ni))), some (ni x), some (.lst ((boxStep q (0, s.words.length - 1)).map (tupE ni))), c, none]) ⟨c, rfl⟩ ?_ ?_
    · rintro r d q2 env e2 ⟨c2, rfl⟩
      have hd := hAl d (by rw [e2]; simp)
      have hle := flat_le (fun c => (List.range' 0 (s.words.length - 1 + 1 - 0)).map fun k => c ++ [k]) e2
      have hle2 := flatMap_len_le (fun c => (List.range' 0 (s.words.length - 1 + 1 - 0)).map fun k => c ++ [k]) 100 A fun c _ => by rw [List.length_map, List.length_range']; omega
      rw [List.length_map, List.length_range'] at hle
      refine ⟨_, ?_, some (tupE ni d), rfl⟩
      simp_arith [sh2, walk_range1 (show s.words.length < 2 ^ 62 by omega)]
      rw [compI_all ni (fun k => [some (shD s), some (.lst (A.map (tupE ni))), some (ni x), some (.lst ((boxStep r (0, s.words.length - 1)).map (tupE ni))), some (tupE ni d), some (ni k)]) (fun k => tupE ni (d ++ [k])) (by rw [List.length_range]; omega)]
      · simp_arith []
        rw [addD_lst]
        · simp_arith [boxStep, List.flatMap_append, List.flatMap_cons, List.flatMap_nil, List.append_nil, List.map_append, List.map_map]
          rw [List.range_eq_range', show s.words.length - 1 + 1 - 0 = s.words.length by omega]
          rfl
        · rw [List.length_map, List.length_map, List.length_range]
          show (List.flatMap (fun c => List.map (fun k => c ++ [k]) (List.range' 0 (s.words.length - 1 + 1 - 0))) r).length + s.words.length ≤ 16777216
          omega
      · intro k _
        simp_arith []
      · intro k _
        simp_arith [tupE]
        rw [addD_tup (by rw [List.length_map]; show d.length + 1 ≤ 16777216; omega)]
        simp_arith [List.map_append]
    · rintro env' ⟨c2, rfl⟩
      refine ⟨_, ?_, some (ni x), some (.lst ((boxStep A (0, s.words.length - 1)).map (tupE ni))), c2, rfl⟩
      simp_arith [List.map_append, allIn_snoc, hA]
  · rintro env' ⟨a, b, c, rfl⟩
    simp_arith [key, List.length_range, wholeBox]
/-! ### boxes, plainly -/
def rngs (p : Nat × Nat) : List Nat := List.range' p.1 (p.2 + 1 - p.1)
/-- all counts in a box, from its first letter on -/
def allR : List (Nat × Nat) → List (List Nat)
  | [] => [[]]
  | p :: b => (rngs p).flatMap fun k => (allR b).map (k :: ·)
theorem boxStep_map (A : List (List Nat)) (k : Nat) (p : Nat × Nat) : boxStep (A.map (k :: ·)) p = (boxStep A p).map (k :: ·) := by
  induction A with
  | nil => rfl
  | cons a A ih =>
    have e : ∀ (B : List (List Nat)) (x : List Nat), boxStep (x :: B) p = ((rngs p).map fun j => x ++ [j]) ++ boxStep B p := fun B x => rfl
    rw [List.map_cons, e, e, List.map_append, ih, List.map_map]
    rfl
theorem boxStep_flat {α : Type} (g : α → List (List Nat)) (p : Nat × Nat) : ∀ l : List α, boxStep (l.flatMap g) p = l.flatMap fun x => boxStep (g x) p
  | [] => rfl
  | x :: l => by
    rw [List.flatMap_cons, List.flatMap_cons, ← boxStep_flat g p l]
    simp only [boxStep, List.flatMap_append]
theorem allR_snoc (p : Nat × Nat) : ∀ b : List (Nat × Nat), allR (b ++ [p]) = boxStep (allR b) p
  | [] => by
    simp only [List.nil_append, allR, boxStep, List.flatMap_cons, List.flatMap_nil, List.append_nil]
    show (rngs p).flatMap (fun k => [[k]]) = (rngs p).map fun k => [k]
    exact List.flatMap_singleton' (rngs p |>.map fun k => [k]) |> fun h => by rw [← h]; simp [List.flatMap_map]
  | q :: b => by
    rw [List.cons_append, allR, allR_snoc p b, allR, boxStep_flat]
    apply flatMap_congr
    intro k _
    rw [boxStep_map]
theorem allIn_eq (box : List (Nat × Nat)) : allIn box = allR box := by
  induction box using snocInd with
  | nil => rfl
  | snoc l a ih => rw [allIn_snoc, allR_snoc, ih]
def inB : List (Nat × Nat) → List Nat → Bool
  | [], [] => true
  | p :: b, k :: c => (decide (p.1 ≤ k) && decide (k ≤ p.2)) && inB b c
  | _, _ => false
theorem mem_rngs {p : Nat × Nat} {k : Nat} : k ∈ rngs p ↔ p.1 ≤ k ∧ k ≤ p.2 := by
  rw [rngs, List.mem_range'_1]
  omega
theorem mem_allR : ∀ (b : List (Nat × Nat)) (c : List Nat), c ∈ allR b ↔ inB b c = true
  | [], [] => by simp [allR, inB]
  | [], _ :: _ => by simp [allR, inB]
  | p :: b, [] => by simp [allR, inB]
  | p :: b, k :: c => by
    simp only [allR, inB, List.mem_flatMap, List.mem_map, Bool.and_eq_true, decide_eq_true_eq]
    constructor
    · rintro ⟨j, hj, d, hd, e⟩
      cases e
      exact ⟨mem_rngs.mp hj, (mem_allR b c).mp hd⟩
    · rintro ⟨h1, h2⟩
      exact ⟨k, mem_rngs.mpr h1, c, (mem_allR b c).mpr h2, rfl⟩
theorem mem_allIn {b : List (Nat × Nat)} {c : List Nat} : c ∈ allIn b ↔ inB b c = true := by rw [allIn_eq, mem_allR]
theorem inB_haveW {s : Sheet} : ∀ {b : List (Nat × Nat)} {c : List Nat}, (∀ p ∈ b, p.2 < s.words.length) → inB b c = true → haveW s c = true
  | [], [], _, _ => rfl
  | [], _ :: _, _, h => by simp [inB] at h
  | _ :: _, [], _, h => by simp [inB] at h
  | p :: b, k :: c, hb, h => by
    simp only [inB, Bool.and_eq_true, decide_eq_true_eq] at h
    have := hb p (.head _)
    have ih := inB_haveW (s := s) (b := b) (c := c) (fun q hq => hb q (.tail _ hq)) h.2
    simp only [haveW, List.all_cons, Bool.and_eq_true, decide_eq_true_eq]
    exact ⟨by omega, ih⟩
theorem GB.have {s : Sheet} {box : List (Nat × Nat)} (b : GB s box) {c : List Nat} (hc : c ∈ allIn box) : haveW s c = true := inB_haveW (fun p hp => (b.lt p hp).2) (mem_allIn.mp hc)
/-- one box lies in another -/
inductive Within : List (Nat × Nat) → List (Nat × Nat) → Prop
  | nil : Within [] []
  | cons {p q : Nat × Nat} {b c : List (Nat × Nat)} (h1 : q.1 ≤ p.1) (h2 : p.2 ≤ q.2) (h : Within b c) : Within (p :: b) (q :: c)
theorem filter_rngs {p q : Nat × Nat} (h1 : q.1 ≤ p.1) (h2 : p.2 ≤ q.2) : (rngs q).filter (fun k => decide (p.1 ≤ k) && decide (k ≤ p.2)) = rngs p := by
  by_cases hp : p.1 ≤ p.2 + 1
  · have e : rngs q = List.range' q.1 (p.1 - q.1) ++ (rngs p ++ List.range' (p.2 + 1) (q.2 - p.2)) := by
      unfold rngs
      rw [show List.range' (p.2 + 1) (q.2 - p.2) = List.range' (p.1 + (p.2 + 1 - p.1)) (q.2 - p.2) by congr 1; omega, List.range'_append_1, show List.range' p.1 (p.2 + 1 - p.1 + (q.2 - p.2)) = List.range' (q.1 + (p.1 - q.1)) (p.2 + 1 - p.1 + (q.2 - p.2)) by congr 1; omega, List.range'_append_1]
      congr 1
      omega
    rw [e, List.filter_append, List.filter_append]
    have a1 : (List.range' q.1 (p.1 - q.1)).filter (fun k => decide (p.1 ≤ k) && decide (k ≤ p.2)) = [] := by
      rw [List.filter_eq_nil_iff]
      intro k hk
      rw [List.mem_range'_1] at hk
      simp
      omega
    have a2 : (List.range' (p.2 + 1) (q.2 - p.2)).filter (fun k => decide (p.1 ≤ k) && decide (k ≤ p.2)) = [] := by
      rw [List.filter_eq_nil_iff]
      intro k hk
      rw [List.mem_range'_1] at hk
      simp
      omega
    have a3 : (rngs p).filter (fun k => decide (p.1 ≤ k) && decide (k ≤ p.2)) = rngs p := by
      rw [List.filter_eq_self]
      intro k hk
      rw [mem_rngs] at hk
      simp [hk]
    rw [a1, a2, a3]
    simp
  · have e : rngs p = [] := by
      unfold rngs
      rw [show p.2 + 1 - p.1 = 0 by omega]
      rfl
    rw [e, List.filter_eq_nil_iff]
    intro k _
    simp
    omega
theorem filter_flatMap' {α β : Type} (p : β → Bool) (g : α → List β) : ∀ l : List α, (l.flatMap g).filter p = l.flatMap fun x => (g x).filter p
  | [] => rfl
  | x :: l => by rw [List.flatMap_cons, List.flatMap_cons, List.filter_append, filter_flatMap' p g l]
theorem flatMap_filter {α β : Type} (q : α → Bool) (g : α → List β) : ∀ l : List α, (l.flatMap fun x => if q x then g x else []) = (l.filter q).flatMap g
  | [] => rfl
  | x :: l => by
    rw [List.flatMap_cons, flatMap_filter q g l, List.filter_cons]
    cases q x <;> simp
theorem filter_allR : ∀ {b c : List (Nat × Nat)}, Within b c → (allR c).filter (inB b) = allR b
  | [], [], .nil => rfl
  | p :: b, q :: c, .cons h1 h2 h => by
    rw [allR, allR, filter_flatMap', ← filter_rngs h1 h2, ← flatMap_filter]
    apply flatMap_congr
    intro k _
    rw [List.filter_map]
    have e : (inB (p :: b) ∘ fun x => k :: x) = fun x => (decide (p.1 ≤ k) && decide (k ≤ p.2)) && inB b x := rfl
    rw [e]
    cases (decide (p.1 ≤ k) && decide (k ≤ p.2)) with
    | true => simp [filter_allR h]
    | false => simp
theorem filter_allIn {b c : List (Nat × Nat)} (h : Within b c) : (allIn c).filter (inB b) = allIn b := by rw [allIn_eq, allIn_eq, filter_allR h]
theorem within_whole {s : Sheet} : ∀ {b : List (Nat × Nat)}, (∀ p ∈ b, p.2 < s.words.length) → Within b (List.replicate b.length (0, s.words.length - 1))
  | [], _ => .nil
  | p :: b, h => by
    have := h p (.head _)
    exact .cons (Nat.zero_le _) (by show p.2 ≤ s.words.length - 1; omega) (within_whole fun q hq => h q (.tail _ hq))
theorem GB.within {s : Sheet} {b : List (Nat × Nat)} (h : GB s b) : Within b (wholeBox s) := by
  have := within_whole (s := s) (b := b) fun p hp => (h.lt p hp).2
  rw [h.len] at this
  exact this
theorem filter_comm' {α : Type} (p q : α → Bool) : ∀ l : List α, (l.filter p).filter q = (l.filter q).filter p
  | [] => rfl
  | x :: l => by
    simp only [List.filter_cons]
    cases hp : p x <;> cases hq : q x <;> simp [List.filter_cons, hp, hq, filter_comm' p q l]
theorem truths_in {s : Sheet} {b c : List (Nat × Nat)} (h : Within b c) : (truthsM s c).filter (inB b) = truthsM s b := by
  rw [truthsM, filter_comm', filter_allIn h, truthsM]
end OC

/-! Part L8: the laws' own tools about boxes. -/
namespace OC
local macro_rules
  | `(tactic| simp_arith [$args,*]) => `(tactic| simp -implicitDefEqProofs only [callFn_eq, doneK_rt, startEnv, evSs_nil, evSs_cons, thenS_nx, thenS_rt, evS_ret, retK_eq, nxK_eq, evS_asg, asgK_eq, evS_asgF, asgFK_eq, evS_move, moveK_eq, evS_own, ownK_eq, evS_app, appK_eq, evS_ext, extK_l, extK_t, evS_setI, evS_ifS, ifK_t, ifK_f, evS_forS, forK_eq, evS_forM, forMK_eq, evS_whl, evS_nop, ev_var, ev_cst, ev_glb, ev_o1, ev_o2, ev_o3, ev_and, ev_or, ev_chain, ev_tup, ev_lst, ev_call, ev_comp, evs_nil, evs_cons, andK_t, andK_f, orK_t, orK_f, chain1_eq, chainK_t, chainK_f, compK_eq, R.b2_ok, R.b3_ok, R.rcons_ok, List.map_cons, List.map_nil, List.length_cons, List.length_nil, List.length_map, List.replicate, List.cons_append, List.nil_append, R.bind_ok, getV_z, getV_s, bindT_nm, bindT_p2, bindT_p3, Nat.reduceAdd, Nat.reduceSub, Nat.reduceLT, Nat.reduceEqDiff, decide_true, decide_false, R.chk_true, put_s, put_z, T.slots, wipeE, List.set_cons_zero, List.set_cons_succ, Bool.not_true, Bool.not_false, Bool.and_true, Bool.true_and, Bool.or_false, Bool.false_or, ltD_ni, gtD_ni, geD_ni, leD_ni, eqD_ni, neD_ni, addD_ni, lenD_lst, lenD_tup, lenD_scr, tupleD_lst, tupleD_tup, listD_lst, listD_tup, notD_bl, walk_lst, walk_tup, mkT_ok, mkL_ok, modD_ni, fdivD_ni, mulD_l, mulD_r, Nat.reduceLeDiff, eqD_bl, neD_bl, isBool_bl, isTrue_bl, notTrue_bl, isFalse_bl, notFalse_bl, op2_add, op2_sub, op2_mul, op2_fdiv, op2_mod, op2_pow, op2_eq, op2_ne, op2_le, op2_isin, op2_notin, op2_item, op2_count, op2_index, op2_join, op2_split, op2_min2, op2_max2, op2_from_, op2_upto, op1_neg, op1_len, op1_tuple, op1_list, op1_sorted, op1_sum, op1_min, op1_max, op1_all, op1_str, op1_int, op1_rev, op1_step2, op1_sset, op1_listRange, op1_lenset, op1_upper, op1_sortedS, op1_ssetS, op1_intS, op1_not, $args,*])
variable {P : Prog}
theorem eqD_nil {α : Type} [DecidableEq α] {f : α → D} {d : Nat} [E : Enc f d] (h : d ≤ 59) (xs : List α) : eqD (.lst (xs.map f)) (.lst []) = .ok (.bl xs.isEmpty) := by
  have := eqD_enc (f := lstE f) (d := d + 1) (by omega) xs []
  have e : eqD (.lst (xs.map f)) (.lst []) = .ok (.bl (decide (xs = []))) := this
  rw [e]
  cases xs <;> simp
theorem neD_nil {α : Type} [DecidableEq α] {f : α → D} {d : Nat} [E : Enc f d] (h : d ≤ 59) (xs : List α) : neD (.lst (xs.map f)) (.lst []) = .ok (.bl (!xs.isEmpty)) := by
  have := neD_enc (f := lstE f) (d := d + 1) (by omega) xs []
  have e : neD (.lst (xs.map f)) (.lst []) = .ok (.bl (!decide (xs = []))) := this
  rw [e]
  cases xs <;> simp
theorem filter_none {α : Type} (p : α → Bool) : ∀ xs : List α, (xs.filter fun x => !p x).isEmpty = xs.all p
  | [] => rfl
  | x :: xs => by
    rw [List.filter_cons, List.all_cons]
    cases h : p x with
    | true => simp [filter_none p xs]
    | false => simp
theorem law_have_run (h : P "_law_have" = some fn_law_have) (n : Nat) (s : Sheet) {c : List Nat} (hc : c.length ≤ 1000) : run P (n+1) "_law_have" [shD s, tupE ni c] = .ok (.bl (haveW s c)) := by
  rw [run_of h]
  simp_arith [fn_law_have, tupE]
  rw [compI_if ni (fun k => [some (shD s), some (.tup (c.map ni)), some (ni k)]) (fun k => !decide (k < s.words.length)) ni (by omega)]
  · simp_arith [eqD_nil (f := ni) (show 0 ≤ 59 by omega), filter_none, haveW]
  · intro k _
    simp_arith []
  · intro k _
    simp_arith [sh2]
    congr 2
    rw [Bool.eq_iff_iff]
    simp
  · intro k _ _
    simp_arith []
theorem law_truths_run (h2 : P "_law_truths" = some fn_law_truths) (h1 : P "_law_all" = some fn_law_all) (h : P "_law_real" = some fn_law_real) (n : Nat) {s : Sheet} (g : GS s) : run P (n+2) "_law_truths" [shD s] = .ok (.lst ((truthsM s (wholeBox s)).map (tupE ni))) := by
  rw [run_of h2]
  have hb := GB.whole g
  have := allIn_lim g hb
  simp_arith [fn_law_truths, law_all_run h1 n g]
  rw [compI_if (tupE ni) (fun c => [some (shD s), some (tupE ni c)]) (isTrueM s) (tupE ni) (by omega)]
  · simp_arith [truthsM]
  · intro k _
    simp_arith []
  · intro k hk
    have hw := hb.have hk
    simp_arith [law_real_run h n g (allIn_memlen g hb hk).2 hw, eqD_enc (f := tupE ni) (show 0 + 1 ≤ 60 by omega), isTrueM, hw]
  · intro k _ _
    simp_arith []
/-! ### a sheet for which some counts are true -/
def lackF (q : Nat × Nat × Nat) : List Nat := List.replicate (q.2.1 - q.2.2) q.1
def goodN (number most : Nat) : Sheet :=
  let s := sheetN number most
  if number / 4096 % 3 = 0 then s else
  let every := allIn (wholeBox s)
  let c := every.getD (number / 16384 % every.length) []
  let frame := ([97, 98, 99].zip (c.zip (realM { s with frame := [] } c))).flatMap lackF
  if 8 < frame.length then s else { s with frame := frame }
theorem every_ne {s : Sheet} (g : GS s) : 0 < (allIn (wholeBox s)).length := by
  have : List.replicate s.wide 0 ∈ allIn (wholeBox s) := by
    rw [mem_allIn, wholeBox]
    generalize s.wide = w
    induction w with
    | zero => rfl
    | succ w ih => simp [List.replicate_succ, inB, ih]
  exact List.length_pos_of_mem this
theorem GS.noframe {s : Sheet} (g : GS s) : GS { s with frame := [] } := ⟨g.w1, g.w3, by simp, g.n1, g.n8, g.wl⟩
theorem goodN_ss (number most : Nat) (hm : 1 ≤ most) (hm8 : most ≤ 100) : SS most (goodN number most) := by
  have h := sheetN_ss number most hm
  unfold goodN
  simp only
  split
  · exact h
  · split
    · exact h
    · rename_i h8
      refine ⟨h.w1, h.w3, Nat.not_lt.mp h8, h.n1, h.n8, h.wl, fun c hc => ?_, h.wa⟩
      have hc : c ∈ List.flatMap lackF _ := hc
      obtain ⟨q, hq, hc⟩ := List.mem_flatMap.mp hc
      have := List.eq_of_mem_replicate hc
      subst this
      have := (List.of_mem_zip (show (q.1, q.2) ∈ _ from hq)).1
      simp at this
      omega
theorem noframe_real {s : Sheet} (c : List Nat) : haveW { s with frame := [] } c = haveW s c := rfl
theorem law_good_sheet_run (h5 : P "_law_good_sheet" = some fn_law_good_sheet) (h4 : P "_law_all" = some fn_law_all) (h3 : P "_law_real" = some fn_law_real) (h2 : P "_law_sheet" = some fn_law_sheet) (h : P "_law_letters" = some fn_law_letters) (h1 : P "_law_drawn" = some fn_law_drawn) (n number most : Nat) (hm : 1 ≤ most) (hm8 : most ≤ 100) : run P (n+4) "_law_good_sheet" [ni number, ni most] = .ok (shD (goodN number most)) := by
  rw [run_of h5]
  have hS := sheetN_ss number most hm
  have g := hS.gs hm8
  simp_arith [fn_law_good_sheet, law_sheet_run h2 h h1 n number most hm hm8]
  generalize hs : sheetN number most = s at hS g
  by_cases h0 : number / 4096 % 3 = 0
  · simp_arith [h0]
    rw [goodN, hs, if_pos h0]
  · have he := every_ne g
    have hlt := Nat.mod_lt (number / 16384) he
    have hlim := allIn_lim g (GB.whole g)
    have hcg : (allIn (wholeBox s))[number / 16384 % (allIn (wholeBox s)).length]? = some ((allIn (wholeBox s)).getD (number / 16384 % (allIn (wholeBox s)).length) []) := by simp [hlt]
    simp_arith [h0, law_all_run h4 (n + 2) g, modD_ni he, itemD_lstE (f := tupE ni) hcg]
    generalize hc : (allIn (wholeBox s)).getD (number / 16384 % (allIn (wholeBox s)).length) [] = c
    have hcm : c ∈ allIn (wholeBox s) := by rw [← hc]; exact List.mem_of_getElem? hcg
    have hcl := allIn_memlen g (GB.whole g) hcm
    have hcw : haveW { s with frame := [] } c = true := (GB.whole g).have hcm
    have hr := law_real_run h3 (n + 2) g.noframe (c := c) hcl.2 hcw
    rw [show shD { s with frame := [] } = .tup [ni s.wide, .str [], .tup (s.words.map D.str)] from rfl] at hr
    have hlr := realM_len g.noframe c
    simp_arith [sh0, sh2, hr, walk_zip3 chE ni ni (l := [97, 98, 99]) (m := c) (q := realM { s with frame := [] } c) (a := .str [97, 98, 99]) rfl (show sq2 (tupE ni c) = _ from rfl) (show sq2 (tupE ni _) = _ from rfl)]
    have hzl : ([97, 98, 99].zip (c.zip (realM { s with frame := [] } c))).length ≤ 3 := by
      rw [List.length_zip]
      simp
      omega
    have hcb : ∀ q ∈ [97, 98, 99].zip (c.zip (realM { s with frame := [] } c)), (lackF q).length ≤ 100 := fun q hq => by
      have h1 := (List.of_mem_zip (show (q.1, q.2) ∈ _ from hq)).2
      have h2 := (List.of_mem_zip (show (q.2.1, q.2.2) ∈ _ from h1)).1
      have h3 := haveW_mem ((GB.whole g).have hcm) h2
      have := g.n8
      rw [lackF, List.length_replicate]
      omega
    rw [R.bind_assoc]
    refine forI_then (tripE chE ni ni) (fun p env => ∃ a b d, env = [some (ni number), some (ni most), some (shD s), some (.lst ((allIn (wholeBox s)).map (tupE ni))), some (tupE ni c), some (.str (p.flatMap lackF)), a, b, d]) ⟨none, none, none, rfl⟩ ?_ ?_
    · rintro p x q env e ⟨a, b, d, rfl⟩
      have hx := hcb x (by rw [e]; simp)
      have hp := flatMap_len_le lackF 100 p fun y hy => hcb y (by rw [e]; simp [hy])
      have hpl : p.length + 1 ≤ 3 := by
        have := congrArg List.length e
        rw [List.length_append, List.length_cons] at this
        omega
      rw [lackF, List.length_replicate] at hx
      have hmx : max2D (ni 0) (.int ((x.2.1 : Int) - x.2.2)) = .ok (ni (x.2.1 - x.2.2)) := by
        rw [max2D_0]
        congr 2
        omega
      refine ⟨_, ?_, some (chE x.1), some (ni x.2.1), some (ni x.2.2), rfl⟩
      simp_arith [tripE, subD_int, hmx, mulD_chE (show x.2.1 - x.2.2 ≤ 16777216 by omega)]
      rw [addD_str (by rw [List.length_replicate]; show _ ≤ 16777216; omega)]
      simp_arith [List.flatMap_append, List.flatMap_cons, List.flatMap_nil, List.append_nil, lackF]
    · rintro env' ⟨a, b, d, rfl⟩
      have hfl := flatMap_len_le lackF 100 _ hcb
      have hlen : lenD (.str (([97, 98, 99].zip (c.zip (realM { s with frame := [] } c))).flatMap lackF)) = .ok (ni (([97, 98, 99].zip (c.zip (realM { s with frame := [] } c))).flatMap lackF).length) := R.chk_pos (lim_of (by omega))
      rw [goodN, hs, if_neg h0]
      simp only [hc]
      simp_arith [hlen]
      by_cases h8 : 8 < (([97, 98, 99].zip (c.zip (realM { s with frame := [] } c))).flatMap lackF).length
      · simp_arith [h8, if_true]
      · simp_arith [h8, sh0, sh2, if_false]
        rfl
/-! ### boxes -/
def boxK (s : Sheet) (number k : Nat) : Nat × Nat :=
  if number % 3 = 0 then (0, s.words.length - 1) else
  let drawn := drawnN number (50 + k) / 4
  let low := drawn % s.words.length
  (low, low + drawn / 16 % (s.words.length - low))
def boxN (s : Sheet) (number : Nat) : List (Nat × Nat) := (List.range s.wide).map (boxK s number)
theorem boxK_lt {s : Sheet} (g : GS s) (number k : Nat) : (boxK s number k).1 ≤ (boxK s number k).2 ∧ (boxK s number k).2 < s.words.length := by
  have hn := g.n1
  unfold boxK
  split
  · exact ⟨Nat.zero_le _, by show s.words.length - 1 < _; omega⟩
  · have h1 := Nat.mod_lt (drawnN number (50 + k) / 4) (show 0 < s.words.length by omega)
    have h2 := Nat.mod_lt (drawnN number (50 + k) / 4 / 16) (show 0 < s.words.length - drawnN number (50 + k) / 4 % s.words.length by omega)
    simp only
    omega
theorem boxN_gb {s : Sheet} (g : GS s) (number : Nat) : GB s (boxN s number) := ⟨by simp [boxN], fun p hp => by
  obtain ⟨k, _, rfl⟩ := List.mem_map.mp hp
  exact boxK_lt g number k⟩
theorem law_box_run (h2 : P "_law_box" = some fn_law_box) (h1 : P "_law_drawn" = some fn_law_drawn) (n : Nat) {s : Sheet} (g : GS s) (number : Nat) : run P (n+2) "_law_box" [shD s, ni number] = .ok (boxE (boxN s number)) := by
  rw [run_of h2]
  have hn := g.n1
  have hw := g.w3
  simp_arith [fn_law_box, sh0, walk_range1 (show s.wide < 2 ^ 62 by omega)]
  rw [R.bind_assoc]
  refine forI_then ni (fun p env => ∃ a b c d, env = [some (shD s), some (ni number), some (.tup ((p.map (boxK s number)).map (pairE ni ni))), a, b, c, d]) ⟨none, none, none, none, rfl⟩ ?_ ?_
  · rintro p k q env e ⟨a, b, c, d, rfl⟩
    have hk := range_split e
    have hpl : p.length + 1 ≤ s.wide := by
      have := congrArg List.length e
      rw [List.length_range, List.length_append, List.length_cons] at this
      omega
    have h3 := Nat.mod_lt (drawnN number (50 + k) / 4) (show 0 < s.words.length by omega)
    simp_arith [drawn_run h1 n number (50 + k) (by omega), sh2, modD_ni (show 0 < s.words.length by omega), subD_ni (Nat.le_of_lt h3), modD_ni (show 0 < s.words.length - drawnN number (50 + k) / 4 % s.words.length by omega)]
    have hb : boxK s number k = boxK s number k := rfl
    conv at hb => lhs; rw [boxK]
    by_cases h0 : number % 3 = 0
    · rw [if_pos h0] at hb
      simp_arith [h0, sh2, subD_ni hn]
      refine ⟨_, ?_, some (ni k), some (ni (drawnN number (50 + k) / 4)), some (ni 0), some (ni (s.words.length - 1)), rfl⟩
      rw [addD_tup (by rw [List.length_map, List.length_map]; show p.length + 1 ≤ 16777216; omega)]
      simp_arith [List.map_append, ← hb]
      rfl
    · rw [if_neg h0] at hb
      simp_arith [h0]
      refine ⟨_, ?_, some (ni k), some (ni (drawnN number (50 + k) / 4)), some (ni (drawnN number (50 + k) / 4 % s.words.length)), some (ni (drawnN number (50 + k) / 4 % s.words.length + drawnN number (50 + k) / 4 / 16 % (s.words.length - drawnN number (50 + k) / 4 % s.words.length))), rfl⟩
      rw [addD_tup (by rw [List.length_map, List.length_map]; show p.length + 1 ≤ 16777216; omega)]
      simp_arith [List.map_append, ← hb]
      rfl
  · rintro env' ⟨a, b, c, d, rfl⟩
    simp_arith [boxE, tupE, boxN]
theorem cut_words {s : Sheet} {p : Nat × Nat} (h : p.1 ≤ p.2 ∧ p.2 < s.words.length) : (rngs p).map (wordAt s) = (s.words.drop p.1).take (p.2 + 1 - p.1) := by
  apply List.ext_getElem?
  intro i
  rw [List.getElem?_map, rngs, List.getElem?_take, List.getElem?_drop]
  by_cases hi : i < p.2 + 1 - p.1
  · rw [List.getElem?_range' hi, if_pos hi]
    simp only [Nat.one_mul, Option.map_some]
    rw [← wordAt_get (by omega)]
  · rw [List.getElem?_eq_none (by rw [List.length_range']; omega), if_neg hi]
    rfl
theorem law_bounds_run (h : P "_law_bounds" = some fn_law_bounds) (n : Nat) {s : Sheet} (g : GS s) {box : List (Nat × Nat)} (b : GB s box) : run P (n+1) "_law_bounds" [shD s, boxE box] = .ok (boxE (boundsM s box)) := by
  rw [run_of h]
  have hn := g.n8
  have hw := g.w3
  have hlet := letters_len g.w3
  simp_arith [fn_law_bounds, sh0, abc_letters g.w3, walk_str]
  rw [R.bind_assoc]
  refine forI_then chE (fun p env => ∃ a1 a2 a3 a4 a5 a6, env = [some (shD s), some (boxE box), some (.tup ((p.map (boundsOf s box)).map (pairE ni ni))), a1, a2, a3, a4, a5, none, a6]) ⟨none, none, none, none, none, none, rfl⟩ ?_ ?_
  · rintro p l q env e ⟨a1, a2, a3, a4, a5, a6, rfl⟩
    have hpl : p.length + 1 ≤ 3 := by
      have := congrArg List.length e
      rw [List.length_append, List.length_cons] at this
      omega
    simp_arith [sh1, countD_str]
    simp_arith [boxE, tupE]
    refine forI_ex (pairE ni ni) (fun r env => ∃ a b c, env = [some (shD s), some (.tup (box.map (pairE ni ni))), some (.tup ((p.map (boundsOf s box)).map (pairE ni ni))), some (chE l), some (ni (boundsOf s r l).1), some (ni (boundsOf s r l).2), a, b, none, c]) ⟨a4, a5, a6, rfl⟩ ?_ ?_
    · rintro r x q2 env e2 ⟨a, b', c, rfl⟩
      have hx := b.lt x (by rw [e2]; simp)
      have hcl := cut_ne hx
      have hcw := cut_words hx
      refine ⟨_, ?_, some (ni x.1), some (ni x.2), some (.lst ((((s.words.drop x.1).take (x.2 + 1 - x.1)).map fun w => w.count l).map ni)), rfl⟩
      simp_arith [pairE, walk_range2 (show x.1 < 2 ^ 62 by omega) (show x.2 + 1 < 2 ^ 62 by omega)]
      rw [compI_all ni (fun k => [some (shD s), some (.tup (box.map (pairE ni ni))), some (.tup ((p.map (boundsOf s box)).map (pairE ni ni))), some (chE l), some (ni (boundsOf s r l).1), some (ni (boundsOf s r l).2), some (ni x.1), some (ni x.2), some (ni k), c]) (fun k => ni ((wordAt s k).count l)) (by rw [List.length_range']; omega)]
      · rw [show (List.range' x.1 (x.2 + 1 - x.1)).map (fun k => ni ((wordAt s k).count l)) = (((s.words.drop x.1).take (x.2 + 1 - x.1)).map fun w => w.count l).map ni by rw [← hcw, List.map_map, List.map_map]; rfl]
        have hne : (((s.words.drop x.1).take (x.2 + 1 - x.1)).map fun w => w.count l) ≠ [] := fun z => by
          have := congrArg List.length z
          rw [List.length_map, List.length_nil] at this
          omega
        simp_arith [minD_ni hne, maxD_ni hne]
        rw [show boundsOf s (r ++ [x]) l = bstep s l (boundsOf s r l) x by rw [boundsOf, List.foldl_append]; rfl]
        rfl
      · intro k _
        simp_arith []
      · intro k hk
        rw [List.mem_range'_1] at hk
        simp_arith [sh2, itemD_tupE (f := D.str) (wordAt_get (s := s) (k := k) (by omega)), countD_str]
    · rintro env' ⟨a, b', c, rfl⟩
      refine ⟨_, ?_, some (chE l), some (ni (boundsOf s box l).1), some (ni (boundsOf s box l).2), a, b', c, rfl⟩
      simp_arith []
      rw [addD_tup (by rw [List.length_map, List.length_map]; show p.length + 1 ≤ 16777216; omega)]
      simp_arith [List.map_append]
      rfl
  · rintro env' ⟨a1, a2, a3, a4, a5, a6, rfl⟩
    simp_arith [boxE, tupE, boundsM]
theorem inB_zip : ∀ (b : List (Nat × Nat)) (c : List Nat), c.length = b.length → ((b.zip c).all fun q => decide (q.1.1 ≤ q.2) && decide (q.2 ≤ q.1.2)) = inB b c
  | [], [], _ => rfl
  | [], _ :: _, h => by simp at h
  | _ :: _, [], h => by simp at h
  | p :: b, k :: c, h => by
    rw [List.zip_cons_cons, List.all_cons, inB, inB_zip b c (by simpa using h)]
theorem law_in_run (h : P "_law_in" = some fn_law_in) (n : Nat) {box : List (Nat × Nat)} {c : List Nat} (hl : c.length = box.length) (hc : c.length ≤ 1000) : run P (n+1) "_law_in" [boxE box, tupE ni c] = .ok (.bl (inB box c)) := by
  rw [run_of h]
  simp_arith [fn_law_in, walk_zip2 (pairE ni ni) ni (l := box) (m := c) (a := boxE box) (b := tupE ni c) rfl rfl]
  rw [compI_if (pairE (pairE ni ni) ni) (fun q => [some (boxE box), some (tupE ni c), some (ni q.2), some (ni q.1.1), some (ni q.1.2)]) (fun q => !(decide (q.1.1 ≤ q.2) && decide (q.2 ≤ q.1.2))) (fun _ => ni 1) (by rw [List.length_zip]; omega)]
  · have e : ((box.zip c).filter fun q => !(decide (q.1.1 ≤ q.2) && decide (q.2 ≤ q.1.2))).map (fun _ => ni 1) = (((box.zip c).filter fun q => !(decide (q.1.1 ≤ q.2) && decide (q.2 ≤ q.1.2))).map fun _ => 1).map ni := by rw [List.map_map]; rfl
    rw [e]
    simp_arith [eqD_nil (f := ni) (show 0 ≤ 59 by omega)]
    rw [List.isEmpty_map, filter_none, inB_zip box c hl]
  · intro q _
    simp_arith [pairE]
  · intro q _
    simp_arith []
    cases h1 : decide (q.1.1 ≤ q.2) with
    | true => simp_arith [h1]
    | false => simp_arith [h1, Bool.false_and]
  · intro q _ _
    simp_arith []
end OC

/-! Part L10: papers. -/
namespace OC
local macro_rules
  | `(tactic| simp_arith [$args,*]) => `(tactic| simp -implicitDefEqProofs only [callFn_eq, doneK_rt, startEnv, evSs_nil, evSs_cons, thenS_nx, thenS_rt, evS_ret, retK_eq, nxK_eq, evS_asg, asgK_eq, evS_asgF, asgFK_eq, evS_move, moveK_eq, evS_own, ownK_eq, evS_app, appK_eq, evS_ext, extK_l, extK_t, evS_setI, evS_ifS, ifK_t, ifK_f, evS_forS, forK_eq, evS_forM, forMK_eq, evS_whl, evS_nop, ev_var, ev_cst, ev_glb, ev_o1, ev_o2, ev_o3, ev_and, ev_or, ev_chain, ev_tup, ev_lst, ev_call, ev_comp, evs_nil, evs_cons, andK_t, andK_f, orK_t, orK_f, chain1_eq, chainK_t, chainK_f, compK_eq, R.b2_ok, R.b3_ok, R.rcons_ok, List.map_cons, List.map_nil, List.length_cons, List.length_nil, List.length_map, List.replicate, List.cons_append, List.nil_append, R.bind_ok, getV_z, getV_s, bindT_nm, bindT_p2, bindT_p3, Nat.reduceAdd, Nat.reduceSub, Nat.reduceLT, Nat.reduceEqDiff, decide_true, decide_false, R.chk_true, put_s, put_z, T.slots, wipeE, List.set_cons_zero, List.set_cons_succ, Bool.not_true, Bool.not_false, Bool.and_true, Bool.true_and, Bool.or_false, Bool.false_or, ltD_ni, gtD_ni, geD_ni, leD_ni, eqD_ni, neD_ni, addD_ni, lenD_lst, lenD_tup, lenD_scr, tupleD_lst, tupleD_tup, listD_lst, listD_tup, notD_bl, walk_lst, walk_tup, mkT_ok, mkL_ok, modD_ni, fdivD_ni, mulD_l, mulD_r, Nat.reduceLeDiff, eqD_bl, neD_bl, isBool_bl, isTrue_bl, notTrue_bl, isFalse_bl, notFalse_bl, op2_add, op2_sub, op2_mul, op2_fdiv, op2_mod, op2_pow, op2_eq, op2_ne, op2_le, op2_isin, op2_notin, op2_item, op2_count, op2_index, op2_join, op2_split, op2_min2, op2_max2, op2_from_, op2_upto, op1_neg, op1_len, op1_tuple, op1_list, op1_sorted, op1_sum, op1_min, op1_max, op1_all, op1_str, op1_int, op1_rev, op1_step2, op1_sset, op1_listRange, op1_lenset, op1_upper, op1_sortedS, op1_ssetS, op1_intS, op1_not, $args,*])
variable {P : Prog}
theorem take_set {α : Type} (box : List α) (k : Nat) (p : α) (hk : k < box.length) : box.take k ++ [p] ++ box.drop (k + 1) = box.set k p := by
  rw [List.set_eq_take_append_cons_drop, if_pos hk, List.append_assoc]
  rfl
theorem with_pairD {box : List (Nat × Nat)} {k : Nat} (hk : k < box.length) (hl : box.length ≤ 1000) (p : Nat × Nat) : (addD (.tup ((box.take k).map (pairE ni ni))) (.tup [.tup [ni p.1, ni p.2]])) = .ok (.tup ((box.take k ++ [p]).map (pairE ni ni))) := by
  rw [addD_tup]
  · simp_arith [List.map_append]
    rfl
  · rw [List.length_map, List.length_take]
    show _ + 1 ≤ 16777216
    omega
theorem with_pairD2 {box : List (Nat × Nat)} {k : Nat} (hk : k < box.length) (hl : box.length ≤ 1000) (p : Nat × Nat) : (addD (.tup ((box.take k ++ [p]).map (pairE ni ni))) (.tup ((box.drop (k + 1)).map (pairE ni ni)))) = .ok (boxE (box.set k p)) := by
  rw [addD_tup, ← List.map_append, take_set box k p hk]
  · rfl
  · rw [List.length_map, List.length_map, List.length_append, List.length_take, List.length_drop]
    show _ + 1 + _ ≤ 16777216
    omega
theorem upto_box (box : List (Nat × Nat)) (k : Nat) : uptoD (boxE box) (ni k) = .ok (.tup ((box.take k).map (pairE ni ni))) := by
  rw [boxE, tupE, uptoD_tup, List.map_take]
theorem from_box {box : List (Nat × Nat)} {k : Nat} (hk : k ≤ box.length) : fromD (boxE box) (ni k) = .ok (.tup ((box.drop k).map (pairE ni ni))) := by
  rw [boxE, tupE, fromD_tup (by rw [List.length_map]; exact hk), List.map_drop]
theorem with_pair_run (h : P "with_pair" = some fn_with_pair) (n : Nat) {box : List (Nat × Nat)} {k : Nat} (hk : k < box.length) (hl : box.length ≤ 1000) (a b : Nat) : run P (n+1) "with_pair" [boxE box, ni k, .tup [ni a, ni b]] = .ok (boxE (box.set k (a, b))) := by
  rw [run_of h]
  simp_arith [fn_with_pair, upto_box, from_box (show k + 1 ≤ box.length by omega), with_pairD hk hl (a, b), with_pairD2 hk hl (a, b)]
theorem box_at {box : List (Nat × Nat)} {k : Nat} (hk : k < box.length) : itemD (boxE box) (ni k) = .ok (pairE ni ni (box.getD k (0, 0))) := by
  rw [boxE, tupE]
  exact itemD_tupE (by simp [hk])
def apartM (s : Sheet) (box : List (Nat × Nat)) (k : Nat) : Bool := decide (((boundsM s box).getD k (0, 0)).2 < (box.getD k (0, 0)).1) || decide ((box.getD k (0, 0)).2 < ((boundsM s box).getD k (0, 0)).1)
theorem boundsM_len {s : Sheet} (g : GS s) (box : List (Nat × Nat)) : (boundsM s box).length = s.wide := by rw [boundsM, List.length_map, letters_len g.w3]
theorem pair0 (p : Nat × Nat) : itemD (pairE ni ni p) (ni 0) = .ok (ni p.1) := rfl
theorem pair1 (p : Nat × Nat) : itemD (pairE ni ni p) (ni 1) = .ok (ni p.2) := rfl
theorem is_apart_run (h2 : P "is_apart" = some fn_is_apart) (h1 : P "bounds" = some fn_bounds) (h : P "bounds_of" = some fn_bounds_of) (n : Nat) {s : Sheet} (g : GS s) {box : List (Nat × Nat)} (b : GB s box) {k : Nat} (hk : k < s.wide) : run P (n+3) "is_apart" [shD s, boxE box, ni k] = .ok (.bl (apartM s box k)) := by
  rw [run_of h2]
  have hb := box_at (box := box) (k := k) (by rw [b.len]; exact hk)
  have hbb := box_at (box := boundsM s box) (k := k) (by rw [boundsM_len g]; exact hk)
  simp_arith [fn_is_apart, bounds_run h1 h n g b, hbb]
  rw [show pairE ni ni ((boundsM s box).getD k (0, 0)) = .tup [ni ((boundsM s box).getD k (0, 0)).1, ni ((boundsM s box).getD k (0, 0)).2] from rfl]
  simp_arith [hb, pair0, pair1]
  unfold apartM
  cases h3 : decide (((boundsM s box).getD k (0, 0)).2 < (box.getD k (0, 0)).1) with
  | true => simp_arith [Bool.true_or]
  | false => simp_arith [hb, pair0, pair1]
/-! ### the widest -/
def ltP {α β : Type} [DecidableEq α] [DecidableEq β] (l1 : α → α → Bool) (l2 : β → β → Bool) (p q : α × β) : Bool := if p.1 = q.1 then (if p.2 = q.2 then false else l2 p.2 q.2) else l1 p.1 q.1
instance {α β : Type} [DecidableEq α] [DecidableEq β] {f : α → D} {g : β → D} {l1 : α → α → Bool} {l2 : β → β → Bool} {d e : Nat} [E1 : Enc f d] [E2 : Enc g e] [O1 : OrdE f l1] [O2 : OrdE g l2] : OrdE (pairE f g) (ltP l1 l2) := ⟨fun a b => by
  simp only [pairE, D.lt, D.lts, E1.beq, E2.beq, decide_eq_true_eq, ltP, O1.lt, O2.lt], fun a b => by
  simp only [pairE, D.alike, D.alikes, O1.al, O2.al]; rfl⟩
def maxB {α : Type} (lt : α → α → Bool) (x : α) (xs : List α) : α := xs.foldl (fun m y => if lt m y then y else m) x
theorem maxL_enc {α : Type} {f : α → D} {lt : α → α → Bool} (O : OrdE f lt) : ∀ (xs : List α) (m : α), maxL (xs.map f) (f m) = f (maxB lt m xs)
  | [], m => rfl
  | x :: xs, m => by
    rw [List.map_cons, maxL, O.lt, maxB, List.foldl_cons]
    by_cases h : lt m x = true
    · rw [if_pos h, if_pos h]; exact maxL_enc O xs x
    · rw [if_neg h, if_neg h]; exact maxL_enc O xs m
theorem maxD_enc {α : Type} {f : α → D} {lt : α → α → Bool} {d : Nat} (E1 : Enc f d) (O : OrdE f lt) (hd : d ≤ 58) (x : α) (xs : List α) : maxD (.lst ((x :: xs).map f)) = .ok (f (maxB lt x xs)) := by
  have a := alikeAll_enc O (x :: xs)
  have c := E1.cmps hd (x :: xs)
  simp only [List.map_cons] at a c
  simp only [maxD, itemsD, List.map_cons, a, c, maxL_enc O]
  rfl
abbrev ltII : Int × Int → Int × Int → Bool := ltP (fun a b => decide (a < b)) (fun a b => decide (a < b))
theorem maxB_mem {α : Type} (lt : α → α → Bool) : ∀ (xs : List α) (x : α), maxB lt x xs ∈ x :: xs
  | [], x => .head _
  | y :: xs, x => by
    rw [maxB, List.foldl_cons]
    by_cases h : lt x y = true
    · rw [if_pos h]; exact .tail _ (maxB_mem lt xs y)
    · rw [if_neg h]
      rcases List.mem_cons.mp (maxB_mem lt xs x) with e | e
      · have e2 : List.foldl (fun m y => if lt m y then y else m) x xs = x := e
        rw [e2]
        exact .head _
      · exact .tail _ (.tail _ e)
theorem maxB_fst : ∀ (xs : List (Int × Int)) (x : Int × Int), ∀ y ∈ x :: xs, y.1 ≤ (maxB ltII x xs).1
  | [], x, y, h => by
    rw [List.mem_singleton] at h
    rw [h]
    exact Int.le_refl _
  | z :: xs, x, y, h => by
    rw [maxB, List.foldl_cons]
    by_cases h1 : ltII x z = true
    · rw [if_pos h1]
      have h2 : x.1 ≤ z.1 := by
        unfold ltII ltP at h1
        by_cases e : x.1 = z.1
        · omega
        · rw [if_neg e] at h1
          have := of_decide_eq_true h1
          omega
      have ih := maxB_fst xs z
      rcases List.mem_cons.mp h with rfl | h
      · exact Int.le_trans h2 (ih z (.head _))
      · exact ih y h
    · rw [if_neg h1]
      have h2 : z.1 ≤ x.1 := by
        unfold ltII ltP at h1
        by_cases e : x.1 = z.1
        · omega
        · rw [if_neg e] at h1
          have : ¬ x.1 < z.1 := fun q => h1 (decide_eq_true q)
          omega
      have ih := maxB_fst xs x
      rcases List.mem_cons.mp h with rfl | h
      · exact ih _ (.head _)
      · rcases List.mem_cons.mp h with rfl | h
        · exact Int.le_trans h2 (ih x (.head _))
        · exact ih y (.tail _ h)
def wideK (q : Nat × (Nat × Nat)) : Int × Int := ((q.2.2 : Int) - q.2.1, (0 : Int) - q.1)
def wideL (box : List (Nat × Nat)) : List (Int × Int) := ((List.range' 0 box.length).zip box).map wideK
def widestM (box : List (Nat × Nat)) : Nat := match wideL box with
  | [] => 0
  | x :: xs => ((maxB ltII x xs).2 * (-1)).toNat
theorem wideL_mem {box : List (Nat × Nat)} {k : Nat} (hk : k < box.length) : wideK (k, box.getD k (0, 0)) ∈ wideL box := by
  refine List.mem_map_of_mem (f := wideK) ?_
  rw [List.mem_iff_getElem?]
  refine ⟨k, ?_⟩
  rw [List.getElem?_zip_eq_some]
  refine ⟨?_, by simp [hk]⟩
  rw [List.getElem?_range' hk]
  simp
theorem wideL_of {box : List (Nat × Nat)} {y : Int × Int} (h : y ∈ wideL box) : ∃ k, k < box.length ∧ y = wideK (k, box.getD k (0, 0)) := by
  obtain ⟨q, hq, rfl⟩ := List.mem_map.mp h
  obtain ⟨k, hk⟩ := List.mem_iff_getElem?.mp hq
  rw [List.getElem?_zip_eq_some] at hk
  obtain ⟨h1, h2⟩ := hk
  have hl : k < box.length := by
    rcases Nat.lt_or_ge k box.length with z | z
    · exact z
    · rw [List.getElem?_eq_none z] at h2; cases h2
  rw [List.getElem?_range' hl] at h1
  refine ⟨k, hl, ?_⟩
  have e1 : q.1 = k := by
    have := Option.some.inj h1
    omega
  have e2 : q.2 = box.getD k (0, 0) := by
    simp [h2]
  rw [← e2, ← e1]
theorem widestM_spec {box : List (Nat × Nat)} (hb : 0 < box.length) : widestM box < box.length ∧ ∀ k, k < box.length → ((box.getD k (0, 0)).2 : Int) - (box.getD k (0, 0)).1 ≤ ((box.getD (widestM box) (0, 0)).2 : Int) - (box.getD (widestM box) (0, 0)).1 := by
  cases hw : wideL box with
  | nil =>
    have := wideL_mem hb
    rw [hw] at this
    cases this
  | cons x xs =>
    have e : widestM box = ((maxB ltII x xs).2 * (-1)).toNat := by rw [widestM, hw]
    have hm := maxB_mem ltII xs x
    rw [← hw] at hm
    obtain ⟨j, hj, ej⟩ := wideL_of hm
    have ej2 : widestM box = j := by
      rw [e, ej, wideK]
      simp only
      omega
    rw [ej2]
    refine ⟨hj, fun k hk => ?_⟩
    have h1 := maxB_fst xs x (wideK (k, box.getD k (0, 0))) (by rw [← hw]; exact wideL_mem hk)
    rw [ej] at h1
    exact h1
theorem widest_run (h : P "widest" = some fn_widest) (n : Nat) {box : List (Nat × Nat)} (hb : 0 < box.length) (hl : box.length ≤ 1000) : run P (n+1) "widest" [boxE box] = .ok (ni (widestM box)) := by
  rw [run_of h]
  simp_arith [fn_widest, walk_enum (pairE ni ni) (l := box) (a := boxE box) rfl]
  rw [compI_all (pairE ni (pairE ni ni)) (fun q => [some (boxE box), some (ni q.1), some (ni q.2.1), some (ni q.2.2)]) (fun q => pairE D.int D.int (wideK q)) (by rw [List.length_zip, List.length_range']; omega)]
  · rw [show ((List.range' 0 box.length).zip box).map (fun q => pairE D.int D.int (wideK q)) = (wideL box).map (pairE D.int D.int) by rw [wideL, List.map_map]; rfl]
    cases hw : wideL box with
    | nil =>
      have := wideL_mem hb
      rw [hw] at this
      cases this
    | cons x xs =>
      have hm := maxB_mem ltII xs x
      rw [← hw] at hm
      obtain ⟨j, hj, ej⟩ := wideL_of hm
      simp_arith []
      rw [← List.map_cons, maxD_enc (f := pairE D.int D.int) inferInstance inferInstance (by omega) x xs]
      rw [ej, wideK, widestM, hw]
      simp only [ej, wideK]
      simp_arith []
      rw [show itemD (pairE D.int D.int ((((box.getD j (0, 0)).2 : Int) - (box.getD j (0, 0)).1, (0 : Int) - j))) (ni 1) = .ok (.int ((0 : Int) - j)) from rfl, subD_int]
      simp_arith []
      rw [mulD_int_r (by omega) (by omega)]
      have e3 : (0 - (j : Int)) * (((0 : Nat) : Int) - ((1 : Nat) : Int)) = (((0 - (j : Int)) * -1).toNat : Int) := by omega
      rw [e3]
      simp_arith []
      rfl
  · intro q _
    simp_arith [pairE]
  · intro q _
    simp_arith [subD_int, pairE, wideK]
    rfl
/-! ### papers -/
inductive Paper where
  | apart (k : Nat)
  | cut (k at' : Nat) (p q : Paper)
def sApart : List Nat := [97, 112, 97, 114, 116]
def sCut : List Nat := [99, 117, 116]
def Paper.d : Paper → D
  | .apart k => .tup [.str sApart, ni k]
  | .cut k a p q => .tup [.str sCut, ni k, ni a, p.d, q.d]
def optP : Option Paper → D
  | none => .non
  | some p => p.d
def paperM (s : Sheet) : Nat → List (Nat × Nat) → Option Paper
  | 0, _ => none
  | n + 1, box => match (List.range s.wide).find? (apartM s box) with
    | some k => some (.apart k)
    | none =>
      let k := widestM box
      let l := (box.getD k (0, 0)).1
      let h := (box.getD k (0, 0)).2
      if l = h then none else
      match paperM s n (box.set k (l, (l + h) / 2)), paperM s n (box.set k ((l + h) / 2 + 1, h)) with
      | some p, some q => some (.cut k ((l + h) / 2) p q)
      | _, _ => none
/-- how much there is to cut -/
def vol (box : List (Nat × Nat)) : Nat := (box.map fun p => p.2 - p.1).sum
theorem vol_set {box : List (Nat × Nat)} : ∀ {k : Nat} (hk : k < box.length) (p : Nat × Nat), vol (box.set k p) + ((box.getD k (0, 0)).2 - (box.getD k (0, 0)).1) = vol box + (p.2 - p.1) := by
  induction box with
  | nil => intro k hk; simp at hk
  | cons b box ih =>
    intro k hk p
    cases k with
    | zero => simp [vol]; omega
    | succ k =>
      have := ih (k := k) (by simpa using hk) p
      simp only [vol, List.set_cons_succ, List.map_cons, List.sum_cons, List.getD_cons_succ] at this ⊢
      omega
theorem GB.at {s : Sheet} {box : List (Nat × Nat)} (b : GB s box) {k : Nat} (hk : k < box.length) : (box.getD k (0, 0)).1 ≤ (box.getD k (0, 0)).2 ∧ (box.getD k (0, 0)).2 < s.words.length := by
  refine b.lt _ ?_
  have : box[k]? = some (box.getD k (0, 0)) := by simp [hk]
  exact List.mem_of_getElem? this
theorem GB.set {s : Sheet} {box : List (Nat × Nat)} (b : GB s box) {k : Nat} {p : Nat × Nat} (hp : p.1 ≤ p.2 ∧ p.2 < s.words.length) : GB s (box.set k p) := by
  refine ⟨by rw [List.length_set, b.len], fun q hq => ?_⟩
  rcases List.mem_or_eq_of_mem_set hq with h | h
  · exact b.lt q h
  · rw [h]; exact hp
theorem isNone_opt (o : Option Paper) : op1 .isNone (optP o) = .ok (.bl o.isNone) := by
  cases o with
  | none => rfl
  | some p => cases p <;> rfl
/-- a walk that ends at the first that is found -/
theorem forL_find {α : Type} {t : T} {body : Env → R Out} (f : α → D) (Inv : Env → Prop) (p : α → Bool) (r : α → D) : ∀ (xs : List α) (env0 : Env), (∀ x ∈ xs, ∀ env, Inv env → if p x then ((bindT t (f x) env).bind fun e1 => body e1) = .ok (.rt (r x)) else ∃ env', ((bindT t (f x) env).bind fun e1 => body e1) = .ok (.nx env') ∧ Inv env') → Inv env0 →
    match xs.find? p with
    | some x => forL t body (xs.map f) env0 = .ok (.rt (r x))
    | none => ∃ env', forL t body (xs.map f) env0 = .ok (.nx env') ∧ Inv env'
  | [], env0, _, h0 => ⟨env0, rfl, h0⟩
  | x :: xs, env0, h, h0 => by
    have h1 := h x (.head _) env0 h0
    rw [List.find?_cons]
    cases hp : p x with
    | true =>
      rw [hp, if_pos rfl] at h1
      show forL t body ((x :: xs).map f) env0 = _
      rw [List.map_cons, forL, ← R.bind_assoc, h1]
      rfl
    | false =>
      rw [hp, if_neg (by simp)] at h1
      obtain ⟨e1, h2, i2⟩ := h1
      have ih := forL_find (t := t) (body := body) f Inv p r xs e1 (fun y hy => h y (.tail _ hy)) i2
      have e : forL t body ((x :: xs).map f) env0 = forL t body (xs.map f) e1 := by
        rw [List.map_cons, forL, ← R.bind_assoc, h2]
        rfl
      simp only
      rw [e]
      exact ih
theorem paper_run (h4 : P "paper" = some fn_paper) (hw : P "with_pair" = some fn_with_pair) (h3 : P "widest" = some fn_widest) (h2 : P "is_apart" = some fn_is_apart) (h1 : P "bounds" = some fn_bounds) (h : P "bounds_of" = some fn_bounds_of) (n : Nat) {s : Sheet} (g : GS s) : ∀ (fuel : Nat) (box : List (Nat × Nat)), GB s box → vol box < fuel → run P (n + fuel + 3) "paper" [shD s, boxE box] = .ok (optP (paperM s fuel box))
  | 0, box, b, hv => by omega
  | fuel + 1, box, b, hv => by
    have hw3 := g.w3
    have hw1 := g.w1
    have hlen := b.len
    rw [show n + (fuel + 1) + 3 = n + fuel + 3 + 1 by omega, run_of h4]
    simp_arith [fn_paper, sh0, walk_range1 (show s.wide < 2 ^ 62 by omega)]
    have hf := forL_find (t := .nm 2) (body := evSs (run P (n + fuel + 3)) [.ifS (.call "is_apart" [.var 0, .var 1, .var 2]) [.ret (.tup [.cst (.str [97, 112, 97, 114, 116]), .var 2])] []]) ni (fun env => ∃ x, env = [some (shD s), some (boxE box), x, none, none, none, none, none]) (apartM s box) (fun k => .tup [.str sApart, ni k]) (List.range s.wide) [some (shD s), some (boxE box), none, none, none, none, none, none]
      (by
        rintro k hk env ⟨x, rfl⟩
        rw [List.mem_range] at hk
        have ha := is_apart_run h2 h1 h (n + fuel) g b hk
        cases hp : apartM s box k with
        | true =>
          rw [hp] at ha
          simp only [if_true]
          simp_arith [ha]
          rfl
        | false =>
          rw [hp] at ha
          simp only [Bool.false_eq_true, if_false]
          refine ⟨_, ?_, some (ni k), rfl⟩
          simp_arith [ha])
      ⟨none, rfl⟩
    cases hfi : (List.range s.wide).find? (apartM s box) with
    | some k =>
      rw [hfi] at hf
      simp only at hf
      rw [paperM, hfi]
      rw [show forI (run P (n + fuel + 3)) (.nm 2) [.ifS (.call "is_apart" [.var 0, .var 1, .var 2]) [.ret (.tup [.cst (.str [97, 112, 97, 114, 116]), .var 2])] []] [some (shD s), some (boxE box), none, none, none, none, none, none] ((List.range s.wide).map ni) = _ from hf]
      simp_arith []
      rfl
    | none =>
      rw [hfi] at hf
      simp only at hf
      obtain ⟨env', hf, x, rfl⟩ := hf
      have hk := (widestM_spec (box := box) (by omega)).1
      have hat := box_at hk
      have hb2 := b.at hk
      rw [paperM, hfi]
      simp only
      rw [show forI (run P (n + fuel + 3)) (.nm 2) [.ifS (.call "is_apart" [.var 0, .var 1, .var 2]) [.ret (.tup [.cst (.str [97, 112, 97, 114, 116]), .var 2])] []] [some (shD s), some (boxE box), none, none, none, none, none, none] ((List.range s.wide).map ni) = _ from hf]
      simp_arith [widest_run h3 (n + fuel + 2) (box := box) (by omega) (by omega), hat]
      have hvs := fun p => vol_set hk p
      generalize hl : (box.getD (widestM box) (0, 0)).1 = l at *
      generalize hh : (box.getD (widestM box) (0, 0)).2 = hi at *
      rw [show pairE ni ni (box.getD (widestM box) (0, 0)) = .tup [ni l, ni hi] by rw [pairE, hl, hh]]
      simp_arith []
      by_cases e : l = hi
      · simp_arith [e, if_true]
        rfl
      · have b1 : GB s (box.set (widestM box) (l, (l + hi) / 2)) := b.set ⟨by show l ≤ _; omega, by show (l + hi) / 2 < _; omega⟩
        have b2 : GB s (box.set (widestM box) ((l + hi) / 2 + 1, hi)) := b.set ⟨by show _ + 1 ≤ hi; omega, by show hi < _; omega⟩
        have v1 := hvs (l, (l + hi) / 2)
        have v2 := hvs ((l + hi) / 2 + 1, hi)
        simp only at v1 v2
        have r1 := paper_run h4 hw h3 h2 h1 h n g fuel _ b1 (by omega)
        have r2 := paper_run h4 hw h3 h2 h1 h n g fuel _ b2 (by omega)
        simp_arith [e, if_false, with_pair_run hw (n + fuel + 2) hk (by omega), r1, r2, isNone_opt]
        cases p1 : paperM s fuel (box.set (widestM box) (l, (l + hi) / 2)) with
        | none => simp_arith [Option.isNone_none]; rfl
        | some q1 =>
          simp_arith [Option.isNone_some, isNone_opt]
          cases p2 : paperM s fuel (box.set (widestM box) ((l + hi) / 2 + 1, hi)) with
          | none => simp_arith [Option.isNone_none]; rfl
          | some q2 => simp_arith [Option.isNone_some]; rfl
/-! ### is it a paper -/
def wholeD (d : D) (lo hi : Int) : Bool := match d with
  | .int i => decide (lo ≤ i) && decide (i ≤ hi)
  | _ => false
theorem leD_int (a b : Int) : leD (.int a) (.int b) = .ok (.bl (decide (a ≤ b))) := rfl
theorem is_whole_run (h : P "is_whole" = some fn_is_whole) (n : Nat) {d : D} (hd : D.cmpb 60 d = true) (lo hi : Int) : run P (n+1) "is_whole" [d, .int lo, .int hi] = .ok (.bl (wholeD d lo hi)) := by
  rw [run_of h]
  cases d with
  | scr ns => simp [D.cmpb] at hd
  | int i =>
    simp_arith [fn_is_whole, show op1 .isInt (.int i) = .ok (.bl true) from rfl, show op1 .isBool (.int i) = .ok (.bl false) from rfl, leD_int, wholeD]
    cases h1 : decide (lo ≤ i) with
    | true => simp_arith [leD_int]
    | false => simp_arith [Bool.false_and]
  | bl b => simp_arith [fn_is_whole, show op1 .isInt (.bl b) = .ok (.bl true) from rfl, wholeD]
  | non => simp_arith [fn_is_whole, show op1 .isInt .non = .ok (.bl false) from rfl, wholeD]
  | str x => simp_arith [fn_is_whole, show op1 .isInt (.str x) = .ok (.bl false) from rfl, wholeD]
  | lst x => simp_arith [fn_is_whole, show op1 .isInt (.lst x) = .ok (.bl false) from rfl, wholeD]
  | tup x => simp_arith [fn_is_whole, show op1 .isInt (.tup x) = .ok (.bl false) from rfl, wholeD]
theorem law_number_run (h : P "_law_number" = some fn_law_number) (n : Nat) {d : D} (hd : D.cmpb 60 d = true) (lo hi : Int) : run P (n+1) "_law_number" [d, .int lo, .int hi] = .ok (.bl (wholeD d lo hi)) := by
  rw [run_of h]
  cases d with
  | scr ns => simp [D.cmpb] at hd
  | int i =>
    simp_arith [fn_law_number, show op1 .isInt (.int i) = .ok (.bl true) from rfl, show op1 .isBool (.int i) = .ok (.bl false) from rfl, leD_int, wholeD]
    cases h1 : decide (lo ≤ i) with
    | true => simp_arith [leD_int]
    | false => simp_arith [Bool.false_and]
  | bl b => simp_arith [fn_law_number, show op1 .isInt (.bl b) = .ok (.bl true) from rfl, wholeD]
  | non => simp_arith [fn_law_number, show op1 .isInt .non = .ok (.bl false) from rfl, wholeD]
  | str x => simp_arith [fn_law_number, show op1 .isInt (.str x) = .ok (.bl false) from rfl, wholeD]
  | lst x => simp_arith [fn_law_number, show op1 .isInt (.lst x) = .ok (.bl false) from rfl, wholeD]
  | tup x => simp_arith [fn_law_number, show op1 .isInt (.tup x) = .ok (.bl false) from rfl, wholeD]
/-- a paper for a box, by what a thing is -/
def strIs (d : D) (t : List Nat) : Bool := match d with
  | .str x => decide (x = t)
  | _ => false
def numOf (d : D) : Nat := match d with
  | .int i => i.toNat
  | _ => 0
def isPaperD (s : Sheet) : Nat → D → List (Nat × Nat) → Bool
  | m + 1, .tup xs, box => match xs with
    | [t, k] => wholeD k 0 ((s.wide : Int) - 1) && (strIs t sApart && apartM s box (numOf k))
    | [t, k, a, p, q] => wholeD k 0 ((s.wide : Int) - 1) && (strIs t sCut && (wholeD a ((box.getD (numOf k) (0, 0)).1 : Int) (((box.getD (numOf k) (0, 0)).2 : Int) - 1) && (isPaperD s m p (box.set (numOf k) ((box.getD (numOf k) (0, 0)).1, numOf a)) && isPaperD s m q (box.set (numOf k) (numOf a + 1, (box.getD (numOf k) (0, 0)).2)))))
    | _ => false
  | _, _, _ => false
theorem wholeD_int {d : D} {lo hi : Int} (h : wholeD d lo hi = true) : ∃ i, d = .int i ∧ lo ≤ i ∧ i ≤ hi := by
  cases d with
  | int i =>
    simp only [wholeD, Bool.and_eq_true, decide_eq_true_eq] at h
    exact ⟨i, rfl, h⟩
  | _ => cases h
theorem wholeD_nat {d : D} {lo : Nat} {hi : Int} (h : wholeD d (lo : Int) hi = true) : d = ni (numOf d) ∧ lo ≤ numOf d ∧ (numOf d : Int) ≤ hi := by
  obtain ⟨i, rfl, h1, h2⟩ := wholeD_int h
  simp only [numOf, ni]
  refine ⟨by congr 1; omega, by omega, by omega⟩
mutual
theorem cmpb_mono : ∀ (d : D) (n m : Nat), n ≤ m → D.cmpb n d = true → D.cmpb m d = true
  | .non, n, m, _, _ => by cases m <;> rfl
  | .bl _, n, m, _, _ => by cases m <;> rfl
  | .int _, n, m, _, _ => by cases m <;> rfl
  | .str _, n, m, _, _ => by cases m <;> rfl
  | .scr _, n, m, _, h => by cases n <;> simp [D.cmpb] at h
  | .lst xs, n, m, hl, h => by
    cases n with
    | zero => simp [D.cmpb] at h
    | succ n =>
      cases m with
      | zero => omega
      | succ m => exact cmpbs_mono xs n m (by omega) h
  | .tup xs, n, m, hl, h => by
    cases n with
    | zero => simp [D.cmpb] at h
    | succ n =>
      cases m with
      | zero => omega
      | succ m => exact cmpbs_mono xs n m (by omega) h
theorem cmpbs_mono : ∀ (d : List D) (n m : Nat), n ≤ m → D.cmpbs n d = true → D.cmpbs m d = true
  | [], n, m, _, _ => by cases m <;> rfl
  | x :: xs, n, m, hl, h => by
    simp only [D.cmpbs, Bool.and_eq_true] at h ⊢
    exact ⟨cmpb_mono x n m hl h.1, cmpbs_mono xs n m hl h.2⟩
end
theorem eqD_str (x y : List Nat) : eqD (.str x) (.str y) = .ok (.bl (decide (x = y))) := eqD_enc (f := D.str) (by omega) x y
theorem neD_str (x y : List Nat) : neD (.str x) (.str y) = .ok (.bl (!decide (x = y))) := neD_enc (f := D.str) (by omega) x y
theorem int_ni {k : Int} (h : 0 ≤ k) : D.int k = ni k.toNat := by
  rw [ni, Int.toNat_of_nonneg h]
theorem isStr_not {d : D} (hd : D.cmpb 60 d = true) (h : ∀ t, d ≠ .str t) : op1 .isStr d = .ok (.bl false) := by
  cases d with
  | str t => exact absurd rfl (h t)
  | scr _ => simp [D.cmpb] at hd
  | _ => rfl
theorem isTuple_not {d : D} (hd : D.cmpb 60 d = true) (h : ∀ t, d ≠ .tup t) : op1 .isTuple d = .ok (.bl false) := by
  cases d with
  | tup t => exact absurd rfl (h t)
  | scr _ => simp [D.cmpb] at hd
  | _ => rfl
theorem isTuple_t (xs : List D) : op1 .isTuple (.tup xs) = .ok (.bl true) := rfl
theorem isStr_s (x : List Nat) : op1 .isStr (.str x) = .ok (.bl true) := rfl
theorem notin25 (k : Nat) : notinD (ni k) (.tup [ni 2, ni 5]) = .ok (.bl (!decide (k ∈ [2, 5]))) := notinD_tup (f := ni) (by omega) k [2, 5]
theorem notin2 : notinD (ni 2) (.tup [ni 2, ni 5]) = .ok (.bl false) := by rw [notin25]; rfl
theorem notin5 : notinD (ni 5) (.tup [ni 2, ni 5]) = .ok (.bl false) := by rw [notin25]; rfl
theorem is_paper_run (h4 : P "is_paper" = some fn_is_paper) (hi : P "is_whole" = some fn_is_whole) (hw : P "with_pair" = some fn_with_pair) (h2 : P "is_apart" = some fn_is_apart) (h1 : P "bounds" = some fn_bounds) (h : P "bounds_of" = some fn_bounds_of) (n : Nat) {s : Sheet} (g : GS s) : ∀ (m : Nat) (d : D) (box : List (Nat × Nat)), m ≤ 60 → D.cmpb m d = true → GB s box → run P (n + m + 4) "is_paper" [shD s, boxE box, d] = .ok (.bl (isPaperD s m d box))
  | m, d, box, hm, hd, b => by
    have hd60 := cmpb_mono d m 60 hm hd
    have hw3 := g.w3
    have hw1 := g.w1
    have hlen := b.len
    rw [run_of h4]
    by_cases ht : ∃ xs, d = .tup xs
    · obtain ⟨xs, rfl⟩ := ht
      cases m with
      | zero => simp [D.cmpb] at hd
      | succ m =>
        replace hd : D.cmpbs m xs = true := hd
        by_cases hx : xs.length ∈ [2, 5]
        · match xs, hx, hd with
          | [t, k], _, hd =>
            simp only [D.cmpbs, Bool.and_eq_true] at hd
            have ht60 := cmpb_mono t m 60 (by omega) hd.1
            have hk60 := cmpb_mono k m 60 (by omega) hd.2.1
            have hwh : run P (n + (m + 1) + 3) "is_whole" [k, ni 0, .int ((s.wide : Int) - ((1 : Nat) : Int))] = .ok (.bl (wholeD k 0 ((s.wide : Int) - 1))) := is_whole_run hi (n + (m + 1) + 2) hk60 0 _
            rw [isPaperD]
            by_cases hts : ∃ x, t = .str x
            · obtain ⟨x, rfl⟩ := hts
              simp_arith [fn_is_paper, isTuple_t, notin2, show itemD (.tup [.str x, k]) (ni 0) = .ok (.str x) from rfl, show itemD (.tup [.str x, k]) (ni 1) = .ok k from rfl, isStr_s, sh0, subD_int, hwh]
              cases hwk : wholeD k 0 ((s.wide : Int) - 1) with
              | false => simp_arith [Bool.false_and]
              | true =>
                obtain ⟨ek, _, hk2⟩ := wholeD_nat (lo := 0) hwk
                have ha := is_apart_run h2 h1 h (n + (m + 1)) g b (k := numOf k) (by omega)
                rw [← ek] at ha
                simp_arith [show itemD (.tup [.str x, k]) (ni 0) = .ok (.str x) from rfl, show itemD (.tup [.str x, k]) (ni 1) = .ok k from rfl, eqD_str, strIs, sApart]
                by_cases hxa : x = [97, 112, 97, 114, 116]
                · subst hxa
                  simp_arith [ha, eq_self]
                · simp_arith [hxa, Bool.false_and]
            · have hnt : ∀ x, t ≠ .str x := fun x e => hts ⟨x, e⟩
              simp_arith [fn_is_paper, isTuple_t, notin2, show itemD (.tup [t, k]) (ni 0) = .ok t from rfl, isStr_not ht60 hnt]
              have : strIs t sApart = false := by
                cases t with
                | str x => exact absurd rfl (hnt x)
                | _ => rfl
              rw [this, Bool.false_and, Bool.and_false]
          | [t, k, a, p, q], _, hd =>
            simp only [D.cmpbs, Bool.and_eq_true] at hd
            obtain ⟨hd1, hd2, hd3, hd4, hd5, _⟩ := hd
            have ht60 := cmpb_mono t m 60 (by omega) hd1
            have hk60 := cmpb_mono k m 60 (by omega) hd2
            have ha60 := cmpb_mono a m 60 (by omega) hd3
            have hwh : run P (n + (m + 1) + 3) "is_whole" [k, ni 0, .int ((s.wide : Int) - ((1 : Nat) : Int))] = .ok (.bl (wholeD k 0 ((s.wide : Int) - 1))) := is_whole_run hi (n + (m + 1) + 2) hk60 0 _
            rw [isPaperD]
            by_cases hts : ∃ x, t = .str x
            · obtain ⟨x, rfl⟩ := hts
              have i0 : itemD (.tup [.str x, k, a, p, q]) (ni 0) = .ok (.str x) := rfl
              have i1 : itemD (.tup [.str x, k, a, p, q]) (ni 1) = .ok k := rfl
              have i2 : itemD (.tup [.str x, k, a, p, q]) (ni 2) = .ok a := rfl
              have i3 : itemD (.tup [.str x, k, a, p, q]) (ni 3) = .ok p := rfl
              have i4 : itemD (.tup [.str x, k, a, p, q]) (ni 4) = .ok q := rfl
              simp_arith [fn_is_paper, isTuple_t, notin5, i0, i1, isStr_s, sh0, subD_int, hwh]
              cases hwk : wholeD k 0 ((s.wide : Int) - 1) with
              | false => simp_arith [Bool.false_and]
              | true =>
                obtain ⟨ek, _, hk2⟩ := wholeD_nat (lo := 0) hwk
                have hkb : numOf k < box.length := by omega
                have hat := box_at hkb
                have hb2 := b.at hkb
                rw [← ek] at hat
                simp_arith [i0, i1, hat]
                generalize hl : (box.getD (numOf k) (0, 0)).1 = l at *
                generalize hh : (box.getD (numOf k) (0, 0)).2 = u at *
                rw [show pairE ni ni (box.getD (numOf k) (0, 0)) = .tup [ni l, ni u] by rw [pairE, hl, hh]]
                have hwa : run P (n + (m + 1) + 3) "is_whole" [a, ni l, .int ((u : Int) - ((1 : Nat) : Int))] = .ok (.bl (wholeD a (l : Int) ((u : Int) - 1))) := is_whole_run hi (n + (m + 1) + 2) ha60 _ _
                simp_arith [i0, i2, neD_str, strIs, sCut, subD_int, hwa]
                by_cases hxa : x = [99, 117, 116]
                case neg => simp_arith [hxa, Bool.false_and]
                case pos =>
                  subst hxa
                  simp_arith [i2, subD_int, hwa, eq_self]
                  cases hwk2 : wholeD a (l : Int) ((u : Int) - 1) with
                  | false => simp_arith [Bool.false_and]
                  | true =>
                    obtain ⟨ea, ha1, ha2⟩ := wholeD_nat hwk2
                    have b1 : GB s (box.set (numOf k) (l, numOf a)) := b.set ⟨by show l ≤ _; omega, by show numOf a < _; omega⟩
                    have b2 : GB s (box.set (numOf k) (numOf a + 1, u)) := b.set ⟨by show _ + 1 ≤ u; omega, by show u < _; omega⟩
                    have r1 := is_paper_run h4 hi hw h2 h1 h n g m p _ (by omega) hd4 b1
                    have r2 := is_paper_run h4 hi hw h2 h1 h n g m q _ (by omega) hd5 b2
                    rw [show n + m + 4 = n + (m + 1) + 3 by omega] at r1 r2
                    have w1 := with_pair_run hw (n + (m + 1) + 2) hkb (by omega) l (numOf a)
                    have w2 := with_pair_run hw (n + (m + 1) + 2) hkb (by omega) (numOf a + 1) u
                    have hadd : addD a (ni 1) = .ok (ni (numOf a + 1)) := by rw [ea]; rfl
                    rw [← ek, ← ea] at w1
                    rw [← ek] at w2
                    simp_arith [i2, i3, w1, r1]
                    cases hp1 : isPaperD s m p (box.set (numOf k) (l, numOf a)) with
                    | false => simp_arith [Bool.false_and]
                    | true => simp_arith [i2, i4, hadd, w2, r2]
            · have hnt : ∀ x, t ≠ .str x := fun x e => hts ⟨x, e⟩
              simp_arith [fn_is_paper, isTuple_t, notin5, show itemD (.tup [t, k, a, p, q]) (ni 0) = .ok t from rfl, isStr_not ht60 hnt]
              have : strIs t sCut = false := by
                cases t with
                | str x => exact absurd rfl (hnt x)
                | _ => rfl
              rw [this, Bool.false_and, Bool.and_false]
        · simp_arith [fn_is_paper, isTuple_t, notin25, hx]
          match xs, hx with
          | [], _ => rfl
          | [_], _ => rfl
          | [_, _], hx => simp at hx
          | [_, _, _], _ => rfl
          | [_, _, _, _], _ => rfl
          | [_, _, _, _, _], hx => simp at hx
          | _ :: _ :: _ :: _ :: _ :: _ :: _, _ => rfl
    · have hnt : ∀ t, d ≠ .tup t := fun t e => ht ⟨t, e⟩
      simp_arith [fn_is_paper, isTuple_not hd60 hnt]
      cases m with
      | zero => rfl
      | succ m =>
        cases d with
        | tup t => exact absurd rfl (hnt t)
        | _ => rfl
end OC

/-! Part L11: the law's own look at papers. -/
namespace OC
local macro_rules
  | `(tactic| simp_arith [$args,*]) => `(tactic| simp -implicitDefEqProofs only [callFn_eq, doneK_rt, startEnv, evSs_nil, evSs_cons, thenS_nx, thenS_rt, evS_ret, retK_eq, nxK_eq, evS_asg, asgK_eq, evS_asgF, asgFK_eq, evS_move, moveK_eq, evS_own, ownK_eq, evS_app, appK_eq, evS_ext, extK_l, extK_t, evS_setI, evS_ifS, ifK_t, ifK_f, evS_forS, forK_eq, evS_forM, forMK_eq, evS_whl, evS_nop, ev_var, ev_cst, ev_glb, ev_o1, ev_o2, ev_o3, ev_and, ev_or, ev_chain, ev_tup, ev_lst, ev_call, ev_comp, evs_nil, evs_cons, andK_t, andK_f, orK_t, orK_f, chain1_eq, chainK_t, chainK_f, compK_eq, R.b2_ok, R.b3_ok, R.rcons_ok, List.map_cons, List.map_nil, List.length_cons, List.length_nil, List.length_map, List.replicate, List.cons_append, List.nil_append, R.bind_ok, getV_z, getV_s, bindT_nm, bindT_p2, bindT_p3, Nat.reduceAdd, Nat.reduceSub, Nat.reduceLT, Nat.reduceEqDiff, decide_true, decide_false, R.chk_true, put_s, put_z, T.slots, wipeE, List.set_cons_zero, List.set_cons_succ, Bool.not_true, Bool.not_false, Bool.and_true, Bool.true_and, Bool.or_false, Bool.false_or, ltD_ni, gtD_ni, geD_ni, leD_ni, eqD_ni, neD_ni, addD_ni, lenD_lst, lenD_tup, lenD_scr, tupleD_lst, tupleD_tup, listD_lst, listD_tup, notD_bl, walk_lst, walk_tup, mkT_ok, mkL_ok, modD_ni, fdivD_ni, mulD_l, mulD_r, Nat.reduceLeDiff, eqD_bl, neD_bl, isBool_bl, isTrue_bl, notTrue_bl, isFalse_bl, notFalse_bl, op2_add, op2_sub, op2_mul, op2_fdiv, op2_mod, op2_pow, op2_eq, op2_ne, op2_le, op2_isin, op2_notin, op2_item, op2_count, op2_index, op2_join, op2_split, op2_min2, op2_max2, op2_from_, op2_upto, op1_neg, op1_len, op1_tuple, op1_list, op1_sorted, op1_sum, op1_min, op1_max, op1_all, op1_str, op1_int, op1_rev, op1_step2, op1_sset, op1_listRange, op1_lenset, op1_upper, op1_sortedS, op1_ssetS, op1_intS, op1_not, $args,*])
variable {P : Prog}
theorem D.str_enc_beq (y x : List Nat) : D.eqv (.str y) (.str x) = decide (y = x) := (inferInstance : Enc D.str 0).beq y x
theorem eqv_strIs (t : D) (x : List Nat) : D.eqv t (.str x) = strIs t x := by
  cases t with
  | str y => exact (D.str_enc_beq y x)
  | _ => rfl
theorem eqD_strIs {t : D} (ht : D.cmpb 60 t = true) (x : List Nat) : eqD t (.str x) = .ok (.bl (strIs t x)) := by
  rw [eqD, ht, eqv_strIs]
  rfl
theorem neD_strIs {t : D} (ht : D.cmpb 60 t = true) (x : List Nat) : neD t (.str x) = .ok (.bl (!strIs t x)) := by
  rw [neD, ht, eqv_strIs]
  rfl
theorem forI_nx {Φ : String → List D → R D} {t : T} {body : List S} {env e : Env} {x : D} {xs : List D} (h : (bindT t x env).bind (evSs Φ body) = .ok (.nx e)) : forI Φ t body env (x :: xs) = forI Φ t body e xs := by
  rw [forI, forL]
  have h' : ((bindT t x env).bind fun e1 => evSs Φ body e1) = .ok (.nx e) := h
  rw [← R.bind_assoc, h']
  rfl
theorem forI_rt {Φ : String → List D → R D} {t : T} {body : List S} {env : Env} {x d : D} {xs : List D} (h : (bindT t x env).bind (evSs Φ body) = .ok (.rt d)) : forI Φ t body env (x :: xs) = .ok (.rt d) := by
  rw [forI, forL]
  have h' : ((bindT t x env).bind fun e1 => evSs Φ body e1) = .ok (.rt d) := h
  rw [← R.bind_assoc, h']
  rfl
theorem forI_nil {Φ : String → List D → R D} {t : T} {body : List S} {env : Env} : forI Φ t body env [] = .ok (.nx env) := rfl
theorem isPaperD_k {s : Sheet} {m : Nat} {t k : D} {r : List D} {box : List (Nat × Nat)} (hk : wholeD k 0 ((s.wide : Int) - 1) = false) : isPaperD s (m + 1) (.tup (t :: k :: r)) box = false := by
  match r with
  | [] => rw [isPaperD, hk, Bool.false_and]
  | [_] => rfl
  | [_, _] => rfl
  | [_, _, _] => rw [isPaperD, hk, Bool.false_and]
  | _ :: _ :: _ :: _ :: _ => rfl
theorem law_is_paper_run (h4 : P "_law_is_paper" = some fn_law_is_paper) (hi : P "_law_number" = some fn_law_number) (h1 : P "_law_bounds" = some fn_law_bounds) (n : Nat) {s : Sheet} (g : GS s) : ∀ (m : Nat) (d : D) (box : List (Nat × Nat)), m ≤ 60 → D.cmpb m d = true → GB s box → run P (n + m + 2) "_law_is_paper" [shD s, boxE box, d] = .ok (.bl (isPaperD s m d box))
  | m, d, box, hm, hd, b => by
    have hd60 := cmpb_mono d m 60 hm hd
    have hw3 := g.w3
    have hw1 := g.w1
    have hlen := b.len
    rw [run_of h4]
    by_cases ht : ∃ xs, d = .tup xs
    · obtain ⟨xs, rfl⟩ := ht
      cases m with
      | zero => simp [D.cmpb] at hd
      | succ m =>
        replace hd : D.cmpbs m xs = true := hd
        match xs, hd with
        | [], _ => simp_arith [fn_law_is_paper, isTuple_t]; rfl
        | [_], _ => simp_arith [fn_law_is_paper, isTuple_t]; rfl
        | t :: k :: r, hd =>
          simp only [D.cmpbs, Bool.and_eq_true] at hd
          obtain ⟨hd1, hd2, hd3⟩ := hd
          have ht60 := cmpb_mono t m 60 (by omega) hd1
          have hk60 := cmpb_mono k m 60 (by omega) hd2
          have hwh : run P (n + (m + 1) + 1) "_law_number" [k, ni 0, .int ((s.wide : Int) - ((1 : Nat) : Int))] = .ok (.bl (wholeD k 0 ((s.wide : Int) - 1))) := law_number_run hi (n + (m + 1)) hk60 0 _
          have i0 : itemD (.tup (t :: k :: r)) (ni 0) = .ok t := itemD_tup rfl
          have i1 : itemD (.tup (t :: k :: r)) (ni 1) = .ok k := itemD_tup rfl
          have hl2 : decide ((t :: k :: r).length < 2) = false := decide_eq_false (by simp)
          simp_arith [fn_law_is_paper, isTuple_t, show ¬ (r.length + 1 + 1 < 2) by omega, i1, sh0, subD_int, hwh]
          cases hwk : wholeD k 0 ((s.wide : Int) - 1) with
          | false =>
            simp_arith []
            rw [isPaperD_k hwk]
          | true =>
            obtain ⟨ek, _, hk2⟩ := wholeD_nat (lo := 0) hwk
            have hkb : numOf k < box.length := by omega
            have hat := box_at hkb
            have hb2 := b.at hkb
            have hbb := box_at (box := boundsM s box) (k := numOf k) (by rw [boundsM_len g]; omega)
            rw [← ek] at hat hbb
            have hap : apartM s box (numOf k) = (decide (((boundsM s box).getD (numOf k) (0, 0)).2 < (box.getD (numOf k) (0, 0)).1) || decide ((box.getD (numOf k) (0, 0)).2 < ((boundsM s box).getD (numOf k) (0, 0)).1)) := rfl
            simp_arith [i0, i1, hat]
            generalize hl : (box.getD (numOf k) (0, 0)).1 = l at *
            generalize hh : (box.getD (numOf k) (0, 0)).2 = u at *
            rw [show pairE ni ni (box.getD (numOf k) (0, 0)) = .tup [ni l, ni u] by rw [pairE, hl, hh]]
            simp_arith [i0, eqD_strIs ht60]
            match r, hd3 with
            | [], _ =>
              rw [isPaperD, hwk, Bool.true_and]
              cases hta : strIs t sApart with
              | true =>
                have hta' : strIs t [97, 112, 97, 114, 116] = true := hta
                simp_arith [hta', law_bounds_run h1 (n + (m + 1)) g b, hbb]
                rw [show pairE ni ni ((boundsM s box).getD (numOf k) (0, 0)) = .tup [ni ((boundsM s box).getD (numOf k) (0, 0)).1, ni ((boundsM s box).getD (numOf k) (0, 0)).2] from rfl]
                simp_arith []
                rw [hap]
                cases h5 : decide (u < ((boundsM s box).getD (numOf k) (0, 0)).1) with
                | true => simp_arith [Bool.or_true]
                | false => simp_arith []
              | false =>
                have hta' : strIs t [97, 112, 97, 114, 116] = false := hta
                simp_arith [hta', i0, neD_strIs ht60]
                cases htc : strIs t [99, 117, 116] with
                | true => simp_arith [Bool.false_and]
                | false => simp_arith [Bool.false_and]
            | [a, p, q], hd3 =>
              simp only [D.cmpbs, Bool.and_eq_true] at hd3
              obtain ⟨hd3, hd4, hd5, _⟩ := hd3
              have ha60 := cmpb_mono a m 60 (by omega) hd3
              have i2 : itemD (.tup [t, k, a, p, q]) (ni 2) = .ok a := rfl
              have i3 : itemD (.tup [t, k, a, p, q]) (ni 3) = .ok p := rfl
              have i4 : itemD (.tup [t, k, a, p, q]) (ni 4) = .ok q := rfl
              have hwa : run P (n + (m + 1) + 1) "_law_number" [a, ni l, .int ((u : Int) - ((1 : Nat) : Int))] = .ok (.bl (wholeD a (l : Int) ((u : Int) - 1))) := law_number_run hi (n + (m + 1)) ha60 _ _
              have hand : ∀ b : Bool, andK (run P (n + (m + 1) + 1)) [some (shD s), some (boxE box), some (.tup [t, k, a, p, q]), some k, some (ni l), some (ni u), none, none, none, none] (.o2 .eq (.o1 .len (.var 2)) (.cst (ni 2))) (.bl b) = .ok (.bl false) := fun b => by
                cases b with
                | true => simp_arith []
                | false => simp_arith []
              rw [isPaperD, hwk, Bool.true_and]
              simp_arith [hand, i0, i2, neD_strIs ht60, sCut]
              cases htc : strIs t [99, 117, 116] with
              | false => simp_arith [Bool.false_and]
              | true =>
                simp_arith [i2, subD_int, hwa]
                rw [hl, hh]
                cases hwk2 : wholeD a (l : Int) ((u : Int) - 1) with
                | false => simp_arith [Bool.false_and]
                | true =>
                  obtain ⟨ea, ha1, ha2⟩ := wholeD_nat hwk2
                  have b1 : GB s (box.set (numOf k) (l, numOf a)) := b.set ⟨by show l ≤ _; omega, by show numOf a < _; omega⟩
                  have b2 : GB s (box.set (numOf k) (numOf a + 1, u)) := b.set ⟨by show _ + 1 ≤ u; omega, by show u < _; omega⟩
                  have r1 := law_is_paper_run h4 hi h1 n g m p _ (by omega) hd4 b1
                  have r2 := law_is_paper_run h4 hi h1 n g m q _ (by omega) hd5 b2
                  rw [show n + m + 2 = n + (m + 1) + 1 by omega] at r1 r2
                  have hadd : addD a (ni 1) = .ok (ni (numOf a + 1)) := by rw [ea]; rfl
                  have hkadd : addD k (ni 1) = .ok (ni (numOf k + 1)) := by rw [ek]; rfl
                  have w0 := upto_box box (numOf k)
                  rw [← ek] at w0
                  have w1 := with_pairD hkb (by omega) (l, numOf a)
                  have w2 := with_pairD2 hkb (by omega) (l, numOf a)
                  have w3 := with_pairD hkb (by omega) (numOf a + 1, u)
                  have w4 := with_pairD2 hkb (by omega) (numOf a + 1, u)
                  have w5 := from_box (box := box) (k := numOf k + 1) (by omega)
                  simp only [← ea] at w1 w2
                  simp_arith [i2, i3, i4, hadd]
                  have st1 : (bindT (.p2 (.nm 8) (.nm 9)) (.tup [.tup [ni l, a], p]) [some (shD s), some (boxE box), some (.tup [t, k, a, p, q]), some k, some (ni l), some (ni u), none, none, none, none]).bind (evSs (run P (n + (m + 1) + 1)) [.ifS (.o1 .not (.call "_law_is_paper" [.var 0, .o2 .add (.o2 .add (.o2 .upto (.var 1) (.var 3)) (.tup [.var 8])) (.o2 .from_ (.var 1) (.o2 .add (.var 3) (.cst (ni 1)))), .var 9])) [.ret (.cst (.bl false))] []]) = if isPaperD s m p (box.set (numOf k) (l, numOf a)) then .ok (.nx [some (shD s), some (boxE box), some (.tup [t, k, a, p, q]), some k, some (ni l), some (ni u), none, none, some (.tup [ni l, a]), some p]) else .ok (.rt (.bl false)) := by
                    simp_arith [w0, w1, hkadd, w5, w2, r1]
                    cases isPaperD s m p (box.set (numOf k) (l, numOf a)) <;> rfl
                  have st2 : (bindT (.p2 (.nm 8) (.nm 9)) (.tup [.tup [ni (numOf a + 1), ni u], q]) [some (shD s), some (boxE box), some (.tup [t, k, a, p, q]), some k, some (ni l), some (ni u), none, none, some (.tup [ni l, a]), some p]).bind (evSs (run P (n + (m + 1) + 1)) [.ifS (.o1 .not (.call "_law_is_paper" [.var 0, .o2 .add (.o2 .add (.o2 .upto (.var 1) (.var 3)) (.tup [.var 8])) (.o2 .from_ (.var 1) (.o2 .add (.var 3) (.cst (ni 1)))), .var 9])) [.ret (.cst (.bl false))] []]) = if isPaperD s m q (box.set (numOf k) (numOf a + 1, u)) then .ok (.nx [some (shD s), some (boxE box), some (.tup [t, k, a, p, q]), some k, some (ni l), some (ni u), none, none, some (.tup [ni (numOf a + 1), ni u]), some q]) else .ok (.rt (.bl false)) := by
                    simp_arith [w0, w3, hkadd, w5, w4, r2]
                    cases isPaperD s m q (box.set (numOf k) (numOf a + 1, u)) <;> rfl
                  cases hp1 : isPaperD s m p (box.set (numOf k) (l, numOf a)) with
                  | false =>
                    rw [hp1, if_neg (by simp)] at st1
                    rw [forI_rt st1]
                    simp_arith [Bool.false_and]
                  | true =>
                    rw [hp1, if_pos rfl] at st1
                    rw [forI_nx st1]
                    cases hp2 : isPaperD s m q (box.set (numOf k) (numOf a + 1, u)) with
                    | false =>
                      rw [hp2, if_neg (by simp)] at st2
                      rw [forI_rt st2]
                      simp_arith []
                    | true =>
                      rw [hp2, if_pos rfl] at st2
                      rw [forI_nx st2, forI_nil]
                      simp_arith []
            | [a], _ =>
              rw [show isPaperD s (m + 1) (.tup ([t, k, a])) box = false from rfl]
              have hand : ∀ b : Bool, andK (run P (n + (m + 1) + 1)) [some (shD s), some (boxE box), some (.tup ([t, k, a])), some k, some (ni l), some (ni u), none, none, none, none] (.o2 .eq (.o1 .len (.var 2)) (.cst (ni 2))) (.bl b) = .ok (.bl false) := fun b => by
                cases b with
                | true => simp_arith []
                | false => simp_arith []
              simp_arith [hand, i0, neD_strIs ht60]
              cases htc : strIs t [99, 117, 116] with
              | false => simp_arith []
              | true => simp_arith []
            | [a, p], _ =>
              rw [show isPaperD s (m + 1) (.tup ([t, k, a, p])) box = false from rfl]
              have hand : ∀ b : Bool, andK (run P (n + (m + 1) + 1)) [some (shD s), some (boxE box), some (.tup ([t, k, a, p])), some k, some (ni l), some (ni u), none, none, none, none] (.o2 .eq (.o1 .len (.var 2)) (.cst (ni 2))) (.bl b) = .ok (.bl false) := fun b => by
                cases b with
                | true => simp_arith []
                | false => simp_arith []
              simp_arith [hand, i0, neD_strIs ht60]
              cases htc : strIs t [99, 117, 116] with
              | false => simp_arith []
              | true => simp_arith []
            | a :: p :: q :: z :: w, _ =>
              rw [show isPaperD s (m + 1) (.tup (t :: k :: a :: p :: q :: z :: w)) box = false from rfl]
              have hand : ∀ b : Bool, andK (run P (n + (m + 1) + 1)) [some (shD s), some (boxE box), some (.tup (t :: k :: a :: p :: q :: z :: w)), some k, some (ni l), some (ni u), none, none, none, none] (.o2 .eq (.o1 .len (.var 2)) (.cst (ni 2))) (.bl b) = .ok (.bl false) := fun b => by
                cases b with
                | true => simp_arith [show ¬ (w.length + 1 + 1 + 1 + 1 + 1 + 1 = 2) by omega]
                | false => simp_arith []
              simp_arith [hand, i0, neD_strIs ht60]
              cases htc : strIs t [99, 117, 116] with
              | false => simp_arith []
              | true => simp_arith [show ¬ (w.length + 1 + 1 + 1 + 1 + 1 + 1 = 5) by omega]
    · have hnt : ∀ t, d ≠ .tup t := fun t e => ht ⟨t, e⟩
      simp_arith [fn_law_is_paper, isTuple_not hd60 hnt]
      cases m with
      | zero => rfl
      | succ m =>
        cases d with
        | tup t => exact absurd rfl (hnt t)
        | _ => rfl
end OC

/-! Part L12: strict orders, sorting. -/
namespace OC
structure STO {α : Type} (lt : α → α → Bool) : Prop where
  irr : ∀ a, lt a a = false
  tr : ∀ a b c, lt a b = true → lt b c = true → lt a c = true
  tri : ∀ a b, lt a b = false → lt b a = false → a = b
theorem STO.asym {α : Type} {lt : α → α → Bool} (S : STO lt) {a b : α} (h : lt a b = true) : lt b a = false := by
  cases e : lt b a with
  | false => rfl
  | true =>
    have := S.tr a b a h e
    rw [S.irr] at this
    cases this
theorem stoNat : STO (fun a b : Nat => decide (a < b)) := ⟨by simp, by simp; omega, by simp; omega⟩
theorem stoInt : STO (fun a b : Int => decide (a < b)) := ⟨by simp, by simp; omega, by simp; omega⟩
theorem lexB_cons {α : Type} [DecidableEq α] (lt : α → α → Bool) (x y : α) (xs ys : List α) : lexB lt (x :: xs) (y :: ys) = if x = y then lexB lt xs ys else lt x y := rfl
theorem STO.lex {α : Type} [DecidableEq α] {lt : α → α → Bool} (S : STO lt) : STO (lexB lt) := by
  refine ⟨fun a => ?_, fun a => ?_, fun a => ?_⟩
  · induction a with
    | nil => rfl
    | cons x a ih => rw [lexB_cons, if_pos rfl, ih]
  · induction a with
    | nil =>
      intro b c h1 h2
      cases b with
      | nil => cases h1
      | cons y b =>
        cases c with
        | nil => cases h2
        | cons z c => rfl
    | cons x a ih =>
      intro b c h1 h2
      cases b with
      | nil => cases h1
      | cons y b =>
        cases c with
        | nil => cases h2
        | cons z c =>
          rw [lexB_cons] at h1 h2 ⊢
          by_cases e1 : x = y
          · rw [if_pos e1] at h1
            by_cases e2 : y = z
            · rw [if_pos e2] at h2
              rw [if_pos (e1.trans e2)]
              exact ih b c h1 h2
            · rw [if_neg e2] at h2
              subst e1
              rw [if_neg e2]
              exact h2
          · rw [if_neg e1] at h1
            by_cases e2 : y = z
            · subst e2
              rw [if_neg e1]
              exact h1
            · rw [if_neg e2] at h2
              have h3 := S.tr _ _ _ h1 h2
              by_cases e3 : x = z
              · subst e3
                rw [S.irr] at h3
                cases h3
              · rw [if_neg e3]
                exact h3
  · induction a with
    | nil =>
      intro b h1 h2
      cases b with
      | nil => rfl
      | cons y b => cases h1
    | cons x a ih =>
      intro b h1 h2
      cases b with
      | nil => cases h2
      | cons y b =>
        rw [lexB_cons] at h1 h2
        by_cases e : x = y
        · rw [if_pos e] at h1
          rw [if_pos e.symm] at h2
          rw [e, ih b h1 h2]
        · rw [if_neg e] at h1
          rw [if_neg (fun z => e z.symm)] at h2
          exact absurd (S.tri _ _ h1 h2) e
theorem STO.pair {α β : Type} [DecidableEq α] [DecidableEq β] {l1 : α → α → Bool} {l2 : β → β → Bool} (S1 : STO l1) (S2 : STO l2) : STO (ltP l1 l2) := by
  refine ⟨fun a => ?_, fun a b c h1 h2 => ?_, fun a b h1 h2 => ?_⟩
  · simp [ltP]
  · unfold ltP at *
    by_cases e1 : a.1 = b.1
    · rw [if_pos e1] at h1
      by_cases e2 : b.1 = c.1
      · rw [if_pos e2] at h2
        rw [if_pos (e1.trans e2)]
        by_cases e3 : a.2 = b.2
        · rw [if_pos e3] at h1; cases h1
        · rw [if_neg e3] at h1
          by_cases e4 : b.2 = c.2
          · rw [if_pos e4] at h2; cases h2
          · rw [if_neg e4] at h2
            have := S2.tr _ _ _ h1 h2
            by_cases e5 : a.2 = c.2
            · rw [e5, S2.irr] at this; cases this
            · rw [if_neg e5]; exact this
      · rw [if_neg e2] at h2
        rw [e1, if_neg e2]
        exact h2
    · rw [if_neg e1] at h1
      by_cases e2 : b.1 = c.1
      · rw [← e2, if_neg e1]
        exact h1
      · rw [if_neg e2] at h2
        have := S1.tr _ _ _ h1 h2
        by_cases e5 : a.1 = c.1
        · rw [e5, S1.irr] at this; cases this
        · rw [if_neg e5]; exact this
  · unfold ltP at *
    obtain ⟨a1, a2⟩ := a
    obtain ⟨b1, b2⟩ := b
    simp only at h1 h2
    by_cases e1 : a1 = b1
    · rw [if_pos e1] at h1
      rw [if_pos e1.symm] at h2
      by_cases e3 : a2 = b2
      · rw [e1, e3]
      · rw [if_neg e3] at h1
        rw [if_neg (fun z => e3 z.symm)] at h2
        exact absurd (S2.tri _ _ h1 h2) e3
    · rw [if_neg e1] at h1
      rw [if_neg (fun z => e1 z.symm)] at h2
      exact absurd (S1.tri _ _ h1 h2) e1
theorem ltStr_lex : ∀ a b : List Nat, ltStr a b = lexB (fun a b : Nat => decide (a < b)) a b
  | [], [] => by simp [ltStr, lexB]
  | [], y :: b => by simp [ltStr, lexB]
  | x :: a, [] => by simp [ltStr, lexB]
  | x :: a, y :: b => by
    rw [lexB_cons, ← ltStr_lex a b]
    unfold ltStr
    by_cases e : x = y
    · subst e
      simp
    · rw [if_neg e]
      simp [List.cons_lt_cons_iff, e]
theorem stoStr : STO ltStr := by
  have : ltStr = lexB (fun a b : Nat => decide (a < b)) := by
    funext a b
    exact ltStr_lex a b
  rw [this]
  exact stoNat.lex
section
variable {α : Type} {lt : α → α → Bool} (S : STO lt)
include S
theorem sortB_sorted (xs : List α) : (sortB lt xs).Pairwise fun a b => (!lt b a) = true := by
  refine List.pairwise_mergeSort ?_ ?_ xs
  · intro a b c h1 h2
    simp only [Bool.not_eq_true'] at h1 h2 ⊢
    cases h : lt c a with
    | false => rfl
    | true =>
      cases h3 : lt a b with
      | true =>
        have := S.tr _ _ _ h h3
        rw [h2] at this; cases this
      | false =>
        have := S.tri _ _ h1 h3
        subst this
        rw [h2] at h; cases h
  · intro a b
    cases h : lt a b with
    | false => simp
    | true => simp [S.asym h]
theorem sortB_congr {xs ys : List α} (h : xs.Perm ys) : sortB lt xs = sortB lt ys := by
  refine List.Perm.eq_of_pairwise ?_ (sortB_sorted S xs) (sortB_sorted S ys) ((sortB_perm lt xs).trans (h.trans (sortB_perm lt ys).symm))
  intro a b _ _ h1 h2
  simp only [Bool.not_eq_true'] at h1 h2
  exact S.tri _ _ h2 h1
theorem sortB_id {xs : List α} (h : xs.Pairwise fun a b => lt a b = true) : sortB lt xs = xs := by
  refine List.mergeSort_of_pairwise (h.imp fun {a b} hab => ?_)
  rw [S.asym hab]
  rfl
theorem sortB_eq {xs ys : List α} (hp : xs.Perm ys) (h : ys.Pairwise fun a b => lt a b = true) : sortB lt xs = ys := by
  rw [sortB_congr S hp, sortB_id S h]
theorem sorted_nodup {xs : List α} (h : xs.Pairwise fun a b => lt a b = true) : xs.Nodup := h.imp fun {a b} hab e => by
  rw [e, S.irr] at hab
  cases hab
theorem sortB_strict {xs : List α} (h : xs.Nodup) : (sortB lt xs).Pairwise fun a b => lt a b = true := by
  have h1 := sortB_sorted S xs
  have h2 : (sortB lt xs).Nodup := (sortB_perm lt xs).nodup_iff.mpr h
  refine (h1.and h2).imp fun {a b} hab => ?_
  have h3 := hab.1
  simp only [Bool.not_eq_true'] at h3
  cases e : lt a b with
  | true => rfl
  | false => exact absurd (S.tri _ _ e h3) hab.2
/-- two rising lists of the same things are one -/
theorem rising_ext {xs ys : List α} (h1 : xs.Pairwise fun a b => lt a b = true) (h2 : ys.Pairwise fun a b => lt a b = true) (h : ∀ a, a ∈ xs ↔ a ∈ ys) : xs = ys := by
  have hp := (List.perm_ext_iff_of_nodup (sorted_nodup S h1) (sorted_nodup S h2)).mpr h
  rw [← sortB_id S h1, ← sortB_id S h2, sortB_congr S hp]
end
/-! ### all counts rise -/
abbrev ltC : List Nat → List Nat → Bool := lexB fun a b : Nat => decide (a < b)
theorem stoC : STO ltC := stoNat.lex
theorem allR_sorted : ∀ b : List (Nat × Nat), (allR b).Pairwise fun x y => ltC x y = true
  | [] => by simp [allR]
  | p :: b => by
    rw [allR, List.pairwise_flatMap]
    refine ⟨fun k _ => ?_, ?_⟩
    · rw [List.pairwise_map]
      refine (allR_sorted b).imp fun {x y} h => ?_
      show lexB _ _ _ = _
      rw [lexB_cons, if_pos rfl]
      exact h
    · have : (rngs p).Pairwise fun a b => a < b := List.pairwise_lt_range'
      refine this.imp fun {a c} hac x hx y hy => ?_
      obtain ⟨x', _, rfl⟩ := List.mem_map.mp hx
      obtain ⟨y', _, rfl⟩ := List.mem_map.mp hy
      show lexB _ _ _ = _
      rw [lexB_cons, if_neg (by omega)]
      exact decide_eq_true hac
theorem allIn_sorted (b : List (Nat × Nat)) : (allIn b).Pairwise fun x y => ltC x y = true := by rw [allIn_eq]; exact allR_sorted b
theorem truthsM_sorted (s : Sheet) (b : List (Nat × Nat)) : (truthsM s b).Pairwise fun x y => ltC x y = true := (allIn_sorted b).filter _
theorem mem_truths {s : Sheet} {b : List (Nat × Nat)} {c : List Nat} : c ∈ truthsM s b ↔ inB b c = true ∧ isTrueM s c = true := by
  rw [truthsM, List.mem_filter, mem_allIn]
end OC

/-! Part L13: what papers show. -/
namespace OC
theorem foldl_min_le : ∀ (xs : List Nat) (m : Nat), xs.foldl min m ≤ m ∧ ∀ x ∈ xs, xs.foldl min m ≤ x
  | [], m => ⟨Nat.le_refl _, fun x h => nomatch h⟩
  | y :: xs, m => by
    obtain ⟨h1, h2⟩ := foldl_min_le xs (min m y)
    rw [List.foldl_cons]
    refine ⟨by omega, fun x hx => ?_⟩
    rcases List.mem_cons.mp hx with rfl | hx
    · omega
    · exact h2 x hx
theorem foldl_max_le : ∀ (xs : List Nat) (m : Nat), m ≤ xs.foldl max m ∧ ∀ x ∈ xs, x ≤ xs.foldl max m
  | [], m => ⟨Nat.le_refl _, fun x h => nomatch h⟩
  | y :: xs, m => by
    obtain ⟨h1, h2⟩ := foldl_max_le xs (max m y)
    rw [List.foldl_cons]
    refine ⟨by omega, fun x hx => ?_⟩
    rcases List.mem_cons.mp hx with rfl | hx
    · omega
    · exact h2 x hx
theorem lmin_le {xs : List Nat} {x : Nat} (h : x ∈ xs) : lmin xs ≤ x := by
  cases xs with
  | nil => cases h
  | cons y xs =>
    obtain ⟨h1, h2⟩ := foldl_min_le xs y
    rcases List.mem_cons.mp h with rfl | h
    · exact h1
    · exact h2 x h
theorem le_lmax {xs : List Nat} {x : Nat} (h : x ∈ xs) : x ≤ lmax xs := by
  cases xs with
  | nil => cases h
  | cons y xs =>
    obtain ⟨h1, h2⟩ := foldl_max_le xs y
    rcases List.mem_cons.mp h with rfl | h
    · exact h1
    · exact h2 x h
theorem bounds_fold {s : Sheet} (l : Nat) : ∀ (b : List (Nat × Nat)) (c : List Nat) (m : Nat × Nat), (∀ p ∈ b, p.1 ≤ p.2 ∧ p.2 < s.words.length) → inB b c = true →
    (b.foldl (bstep s l) m).1 ≤ m.1 + ((c.map (wordAt s)).flatten).count l ∧ m.2 + ((c.map (wordAt s)).flatten).count l ≤ (b.foldl (bstep s l) m).2
  | [], [], m, _, _ => by simp
  | [], _ :: _, m, _, h => by simp [inB] at h
  | _ :: _, [], m, _, h => by simp [inB] at h
  | p :: b, k :: c, m, hb, h => by
    simp only [inB, Bool.and_eq_true, decide_eq_true_eq] at h
    have ih := bounds_fold l b c (bstep s l m p) (fun q hq => hb q (.tail _ hq)) h.2
    have hm : (wordAt s k).count l ∈ ((s.words.drop p.1).take (p.2 + 1 - p.1)).map fun w => w.count l := by
      rw [← cut_words (hb p (.head _)), List.map_map]
      exact List.mem_map_of_mem (f := (fun w => List.count l w) ∘ wordAt s) (mem_rngs.mpr h.1)
    have h1 := lmin_le hm
    have h2 := le_lmax hm
    rw [List.foldl_cons, List.map_cons, List.flatten_cons, List.count_append]
    simp only [bstep] at ih
    simp only [bstep]
    omega
theorem real_bounds {s : Sheet} {box : List (Nat × Nat)} (b : GB s box) {c : List Nat} (h : inB box c = true) (l : Nat) : (boundsOf s box l).1 ≤ (textM s c).count l ∧ (textM s c).count l ≤ (boundsOf s box l).2 := by
  have := bounds_fold (s := s) l box c (s.frame.count l, s.frame.count l) b.lt h
  rw [textM, List.count_append]
  exact this

theorem inB_len : ∀ {b : List (Nat × Nat)} {c : List Nat}, inB b c = true → c.length = b.length
  | [], [], _ => rfl
  | [], _ :: _, h => by simp [inB] at h
  | _ :: _, [], h => by simp [inB] at h
  | p :: b, k :: c, h => by
    simp only [inB, Bool.and_eq_true] at h
    rw [List.length_cons, List.length_cons, inB_len h.2]
theorem inB_at : ∀ {b : List (Nat × Nat)} {c : List Nat} {k : Nat}, inB b c = true → k < b.length → (b.getD k (0, 0)).1 ≤ c.getD k 0 ∧ c.getD k 0 ≤ (b.getD k (0, 0)).2
  | [], _, _, _, hk => by simp at hk
  | _ :: _, [], _, h, _ => by simp [inB] at h
  | p :: b, j :: c, k, h, hk => by
    simp only [inB, Bool.and_eq_true, decide_eq_true_eq] at h
    cases k with
    | zero => exact h.1
    | succ k => simpa using inB_at (k := k) h.2 (by simpa using hk)
/-- in a box that is cut: in one of both -/
theorem inB_set : ∀ {b : List (Nat × Nat)} {c : List Nat} {k : Nat} (p : Nat × Nat), k < b.length → (inB (b.set k p) c = true ↔ c.length = b.length ∧ (p.1 ≤ c.getD k 0 ∧ c.getD k 0 ≤ p.2) ∧ ∀ j, j < b.length → j ≠ k → (b.getD j (0, 0)).1 ≤ c.getD j 0 ∧ c.getD j 0 ≤ (b.getD j (0, 0)).2)
  | [], _, _, _, hk => by simp at hk
  | q :: b, [], k, p, hk => by
    cases k <;> simp [inB]
  | q :: b, x :: c, 0, p, hk => by
    simp only [List.set_cons_zero, inB, Bool.and_eq_true, decide_eq_true_eq, List.length_cons, List.getD_cons_zero]
    constructor
    · rintro ⟨h1, h2⟩
      refine ⟨by rw [inB_len h2], h1, fun j hj hne => ?_⟩
      cases j with
      | zero => omega
      | succ j => simpa using inB_at (k := j) h2 (by omega)
    · rintro ⟨h0, h1, h2⟩
      refine ⟨h1, ?_⟩
      have hl : c.length = b.length := by omega
      clear h0 h1 hk
      revert c
      induction b with
      | nil =>
        intro c h2 hl
        cases c with
        | nil => rfl
        | cons _ _ => simp at hl
      | cons r b ih =>
        intro c h2 hl
        cases c with
        | nil => simp at hl
        | cons y c =>
          have h3 := h2 1 (by simp) (by omega)
          simp only [inB, Bool.and_eq_true, decide_eq_true_eq]
          refine ⟨by simpa using h3, ih c (fun j hj hne => ?_) (by simpa using hl)⟩
          cases j with
          | zero => omega
          | succ j => simpa using h2 (j + 2) (by simp at hj ⊢; omega) (by omega)
  | q :: b, x :: c, k + 1, p, hk => by
    have ih := inB_set (b := b) (c := c) (k := k) p (by simpa using hk)
    simp only [List.set_cons_succ, inB, Bool.and_eq_true, decide_eq_true_eq, ih, List.length_cons, List.getD_cons_succ]
    constructor
    · rintro ⟨h1, h2, h3, h4⟩
      refine ⟨by omega, h3, fun j hj hne => ?_⟩
      cases j with
      | zero => simpa using h1
      | succ j => simpa using h4 j (by omega) (by omega)
    · rintro ⟨h1, h2, h3⟩
      refine ⟨by simpa using h3 0 (by omega) (by omega), by omega, h2, fun j hj hne => ?_⟩
      simpa using h3 (j + 1) (by omega) (by omega)
theorem set_self {α : Type} (b : List α) (k : Nat) (d : α) (hk : k < b.length) : b.set k (b.getD k d) = b := by
  apply List.ext_getElem?
  intro i
  rw [List.getElem?_set]
  split
  · rename_i e
    subst e
    simp [hk]
  · rfl
theorem inB_halves {b : List (Nat × Nat)} {c : List Nat} {k at' : Nat} (hk : k < b.length) (h1 : (b.getD k (0, 0)).1 ≤ at') (h2 : at' < (b.getD k (0, 0)).2) : inB b c = true ↔ (inB (b.set k ((b.getD k (0, 0)).1, at')) c = true ∨ inB (b.set k (at' + 1, (b.getD k (0, 0)).2)) c = true) := by
  have e := inB_set (b := b) (c := c) (k := k) (b.getD k (0, 0)) hk
  rw [set_self b k _ hk] at e
  rw [e, inB_set _ hk, inB_set _ hk]
  constructor
  · rintro ⟨h3, h4, h5⟩
    by_cases hc : c.getD k 0 ≤ at'
    · exact .inl ⟨h3, ⟨h4.1, hc⟩, h5⟩
    · exact .inr ⟨h3, ⟨by simp only; omega, h4.2⟩, h5⟩
  · rintro (⟨h3, h4, h5⟩ | ⟨h3, h4, h5⟩)
    · exact ⟨h3, ⟨h4.1, by simp only at h4; omega⟩, h5⟩
    · exact ⟨h3, ⟨by simp only at h4; omega, h4.2⟩, h5⟩
theorem truths_halves {s : Sheet} {b : List (Nat × Nat)} {k at' : Nat} (hk : k < b.length) (h1 : (b.getD k (0, 0)).1 ≤ at') (h2 : at' < (b.getD k (0, 0)).2) (c : List Nat) : c ∈ truthsM s b ↔ (c ∈ truthsM s (b.set k ((b.getD k (0, 0)).1, at')) ∨ c ∈ truthsM s (b.set k (at' + 1, (b.getD k (0, 0)).2))) := by
  simp only [mem_truths, inB_halves hk h1 h2]
  constructor
  · rintro ⟨h3 | h3, h4⟩
    · exact .inl ⟨h3, h4⟩
    · exact .inr ⟨h3, h4⟩
  · rintro (⟨h3, h4⟩ | ⟨h3, h4⟩)
    · exact ⟨.inl h3, h4⟩
    · exact ⟨.inr h3, h4⟩
theorem halves_sort {s : Sheet} {b : List (Nat × Nat)} {k at' : Nat} (hk : k < b.length) (h1 : (b.getD k (0, 0)).1 ≤ at') (h2 : at' < (b.getD k (0, 0)).2) : sortB ltC (truthsM s (b.set k ((b.getD k (0, 0)).1, at')) ++ truthsM s (b.set k (at' + 1, (b.getD k (0, 0)).2))) = truthsM s b := by
  refine sortB_eq stoC ?_ (truthsM_sorted s b)
  refine (List.perm_ext_iff_of_nodup ?_ (sorted_nodup stoC (truthsM_sorted s b))).mpr fun c => ?_
  · rw [List.nodup_append]
    refine ⟨sorted_nodup stoC (truthsM_sorted s _), sorted_nodup stoC (truthsM_sorted s _), fun x hx y hy e => ?_⟩
    subst e
    have hx := (mem_truths.mp hx).1
    have hy := (mem_truths.mp hy).1
    rw [inB_set _ hk] at hx hy
    have := hx.2.1.2
    have := hy.2.1.1
    simp only at *
    omega
  · rw [List.mem_append, truths_halves hk h1 h2]
/-! ### letters that lie apart -/
theorem getD_map {α β : Type} (f : α → β) (l : List α) (k : Nat) (a : α) (b : β) (hk : k < l.length) : (l.map f).getD k b = f (l.getD k a) := by
  simp [List.getD, hk]
theorem realM_at {s : Sheet} (g : GS s) (c : List Nat) {k : Nat} (hk : k < s.wide) : (realM s c).getD k 0 = (textM s c).count ((letters s.wide).getD k 0) := by
  rw [realM]
  exact getD_map _ _ _ _ _ (by rw [letters_len g.w3]; exact hk)
theorem boundsM_at {s : Sheet} (g : GS s) (box : List (Nat × Nat)) {k : Nat} (hk : k < s.wide) : (boundsM s box).getD k (0, 0) = boundsOf s box ((letters s.wide).getD k 0) := by
  rw [boundsM]
  exact getD_map _ _ _ _ _ (by rw [letters_len g.w3]; exact hk)
theorem real_in_bounds {s : Sheet} (g : GS s) {box : List (Nat × Nat)} (b : GB s box) {c : List Nat} (h : inB box c = true) {k : Nat} (hk : k < s.wide) : ((boundsM s box).getD k (0, 0)).1 ≤ (realM s c).getD k 0 ∧ (realM s c).getD k 0 ≤ ((boundsM s box).getD k (0, 0)).2 := by
  rw [boundsM_at g box hk, realM_at g c hk]
  exact real_bounds b h _
theorem isTrue_real {s : Sheet} {c : List Nat} (h : isTrueM s c = true) : realM s c = c := by
  rw [isTrueM, Bool.and_eq_true] at h
  exact of_decide_eq_true h.2
theorem apart_none {s : Sheet} (g : GS s) {box : List (Nat × Nat)} (b : GB s box) {k : Nat} (hk : k < s.wide) (h : apartM s box k = true) : truthsM s box = [] := by
  rw [List.eq_nil_iff_forall_not_mem]
  intro c hc
  obtain ⟨h1, h2⟩ := mem_truths.mp hc
  have h3 := real_in_bounds g b h1 hk
  rw [isTrue_real h2] at h3
  have h4 := inB_at h1 (k := k) (by rw [b.len]; exact hk)
  simp only [apartM, Bool.or_eq_true, decide_eq_true_eq] at h
  omega
theorem find_range {n : Nat} {p : Nat → Bool} {k : Nat} (h : (List.range n).find? p = some k) : k < n ∧ p k = true := ⟨List.mem_range.mp (List.mem_of_find?_eq_some h), List.find?_some h⟩
/-- a box of one counts -/
def oneBox (c : List Nat) : List (Nat × Nat) := c.map fun k => (k, k)
theorem inB_one : ∀ (c d : List Nat), inB (oneBox c) d = true ↔ d = c
  | [], [] => by simp [oneBox, inB]
  | [], _ :: _ => by simp [oneBox, inB]
  | _ :: _, [] => by simp [oneBox, inB]
  | x :: c, y :: d => by
    have := inB_one c d
    simp only [oneBox] at this
    simp only [oneBox, List.map_cons, inB, Bool.and_eq_true, decide_eq_true_eq, this, List.cons.injEq]
    constructor
    · rintro ⟨h1, h2⟩; exact ⟨by omega, h2⟩
    · rintro ⟨h1, h2⟩; exact ⟨by omega, h2⟩
theorem bounds_one {s : Sheet} (l : Nat) : ∀ (c : List Nat) (m : Nat × Nat), haveW s c = true →
    (oneBox c).foldl (bstep s l) m = (m.1 + ((c.map (wordAt s)).flatten).count l, m.2 + ((c.map (wordAt s)).flatten).count l)
  | [], m, _ => by simp [oneBox]
  | k :: c, m, h => by
    simp only [haveW, List.all_cons, Bool.and_eq_true, decide_eq_true_eq] at h
    have e := cut_words (s := s) (p := (k, k)) ⟨Nat.le_refl _, h.1⟩
    have e2 : rngs (k, k) = [k] := by simp [rngs, show k + 1 - k = 1 by omega]
    rw [e2] at e
    have ih := bounds_one l c (bstep s l m (k, k)) h.2
    have eb : bstep s l m (k, k) = (m.1 + (wordAt s k).count l, m.2 + (wordAt s k).count l) := by
      simp only [bstep, ← e]
      simp only [List.map_cons, List.map_nil, lmin, lmax, List.foldl_nil]
    rw [show oneBox (k :: c) = (k, k) :: oneBox c from rfl, List.foldl_cons, ih, eb]
    simp only [List.map_cons, List.flatten_cons, List.count_append, Nat.add_assoc]
theorem boundsOf_one {s : Sheet} {c : List Nat} (h : haveW s c = true) (l : Nat) : boundsOf s (oneBox c) l = ((textM s c).count l, (textM s c).count l) := by
  rw [boundsOf, bounds_one l c _ h, textM, List.count_append]
theorem boundsM_one {s : Sheet} {c : List Nat} (h : haveW s c = true) : boundsM s (oneBox c) = oneBox (realM s c) := by
  rw [boundsM, realM]
  conv => { rhs; rw [oneBox, List.map_map] }
  apply List.map_congr_left
  intro l _
  exact boundsOf_one h l
theorem gb_one {s : Sheet} {c : List Nat} (hl : c.length = s.wide) (h : haveW s c = true) : GB s (oneBox c) := by
  refine ⟨by rw [oneBox, List.length_map, hl], fun p hp => ?_⟩
  obtain ⟨k, hk, rfl⟩ := List.mem_map.mp hp
  exact ⟨Nat.le_refl _, haveW_mem h hk⟩
theorem apart_one {s : Sheet} (g : GS s) {c : List Nat} (hl : c.length = s.wide) (h : haveW s c = true) {k : Nat} (hk : k < s.wide) : apartM s (oneBox c) k = !decide ((realM s c).getD k 0 = c.getD k 0) := by
  have hr := realM_len g c
  rw [apartM, boundsM_one h, oneBox, oneBox, getD_map (fun k => ((k, k) : Nat × Nat)) (realM s c) k 0 _ (by omega), getD_map (fun k => ((k, k) : Nat × Nat)) c k 0 _ (by omega)]
  rw [Bool.eq_iff_iff]
  simp only [Bool.or_eq_true, decide_eq_true_eq, Bool.not_eq_true', decide_eq_false_iff_not]
  omega
theorem list_ext_getD {a b : List Nat} (hl : a.length = b.length) (h : ∀ k, k < a.length → a.getD k 0 = b.getD k 0) : a = b := by
  apply List.ext_getElem? 
  intro i
  by_cases hi : i < a.length
  · have := h i hi
    simp only [List.getD, hi, show i < b.length by omega, List.getElem?_eq_getElem, Option.getD_some] at this ⊢
    rw [this]
  · rw [List.getElem?_eq_none (by omega), List.getElem?_eq_none (by omega)]
theorem one_true {s : Sheet} (g : GS s) {c : List Nat} (hl : c.length = s.wide) (h : haveW s c = true) (hn : ∀ k, k < s.wide → apartM s (oneBox c) k = false) : isTrueM s c = true := by
  rw [isTrueM, h, Bool.true_and]
  refine decide_eq_true (list_ext_getD (by rw [realM_len g, hl]) fun k hk => ?_)
  rw [realM_len g] at hk
  have := hn k hk
  rw [apart_one g hl h hk] at this
  simpa using this
theorem box_one {b : List (Nat × Nat)} (h : ∀ k, k < b.length → (b.getD k (0, 0)).1 = (b.getD k (0, 0)).2) : b = oneBox (b.map (·.1)) := by
  apply List.ext_getElem?
  intro i
  rw [oneBox, List.map_map, List.getElem?_map]
  by_cases hi : i < b.length
  · have := h i hi
    simp only [List.getD, hi, List.getElem?_eq_getElem, Option.getD_some, Option.map_some, Function.comp] at this ⊢
    rw [Option.some.injEq]
    exact Prod.ext rfl this.symm
  · rw [List.getElem?_eq_none (by omega)]
    rfl
/-! ### what paper tells -/
def Paper.dep : Paper → Nat
  | .apart _ => 1
  | .cut _ _ p q => max p.dep q.dep + 1
theorem dep_pos : ∀ p : Paper, 1 ≤ p.dep
  | .apart _ => Nat.le_refl _
  | .cut _ _ _ _ => by rw [Paper.dep]; omega
theorem Paper.cmp : ∀ (p : Paper) (n : Nat), p.dep ≤ n → D.cmpb n p.d = true
  | .apart k, n + 1, _ => by
    cases n <;> rfl
  | .cut k a p q, n + 1, h => by
    rw [Paper.dep] at h
    have h1 := Paper.cmp p n (by omega)
    have h2 := Paper.cmp q n (by omega)
    simp only [Paper.d, D.cmpb, D.cmpbs, h1, h2, Bool.and_true, ni]
  | .apart k, 0, h => by simp [Paper.dep] at h
  | .cut k a p q, 0, h => by simp [Paper.dep] at h
theorem paperM_step (s : Sheet) (n : Nat) (box : List (Nat × Nat)) : paperM s (n + 1) box = match (List.range s.wide).find? (apartM s box) with
    | some k => some (.apart k)
    | none => if (box.getD (widestM box) (0, 0)).1 = (box.getD (widestM box) (0, 0)).2 then none else
      match paperM s n (box.set (widestM box) ((box.getD (widestM box) (0, 0)).1, ((box.getD (widestM box) (0, 0)).1 + (box.getD (widestM box) (0, 0)).2) / 2)), paperM s n (box.set (widestM box) (((box.getD (widestM box) (0, 0)).1 + (box.getD (widestM box) (0, 0)).2) / 2 + 1, (box.getD (widestM box) (0, 0)).2)) with
      | some p, some q => some (.cut (widestM box) (((box.getD (widestM box) (0, 0)).1 + (box.getD (widestM box) (0, 0)).2) / 2) p q)
      | _, _ => none := rfl
theorem numOf_ni (k : Nat) : numOf (ni k) = k := by simp [numOf, ni]
theorem wholeD_ni {k : Nat} {lo hi : Int} (h : lo ≤ k) (h2 : (k : Int) ≤ hi) : wholeD (ni k) lo hi = true := by
  simp only [wholeD, ni, Bool.and_eq_true, decide_eq_true_eq]
  exact ⟨h, h2⟩
theorem strIs_self (t : List Nat) : strIs (.str t) t = true := by simp [strIs]
theorem paperM_spec {s : Sheet} (g : GS s) : ∀ (fuel : Nat) (box : List (Nat × Nat)), GB s box → vol box < fuel → ((paperM s fuel box).isNone = !(truthsM s box).isEmpty) ∧ ∀ p, paperM s fuel box = some p → p.dep ≤ fuel ∧ ∀ m, fuel ≤ m → isPaperD s m p.d box = true
  | 0, box, b, hv => by omega
  | fuel + 1, box, b, hv => by
    have hw1 := g.w1
    have hlen := b.len
    rw [paperM_step]
    cases hfi : (List.range s.wide).find? (apartM s box) with
    | some k =>
      obtain ⟨hk, ha⟩ := find_range hfi
      refine ⟨by rw [apart_none g b hk ha]; rfl, fun p hp => ?_⟩
      cases hp
      refine ⟨by rw [Paper.dep]; omega, fun m hm => ?_⟩
      obtain ⟨m, rfl⟩ : ∃ m', m = m' + 1 := ⟨m - 1, by omega⟩
      rw [Paper.d, isPaperD, wholeD_ni (by omega) (by omega), strIs_self, numOf_ni, ha]
      rfl
    | none =>
      have hna : ∀ k, k < s.wide → apartM s box k = false := fun k hk => by
        have := List.find?_eq_none.mp hfi k (List.mem_range.mpr hk)
        simpa using this
      obtain ⟨hk, hws⟩ := widestM_spec (box := box) (by omega)
      have hat := b.at hk
      have hvs := fun p => vol_set hk p
      have hh := fun at' => truths_halves (s := s) (b := box) (k := widestM box) (at' := at') hk
      generalize widestM box = w at *
      by_cases e : (box.getD w (0, 0)).1 = (box.getD w (0, 0)).2
      · simp only [if_pos e]
        refine ⟨?_, fun p hp => by cases hp⟩
        have e2 : box = oneBox (box.map (·.1)) := box_one fun k hk => by
          have := hws k hk
          have := (b.at hk).1
          omega
        have hl : (box.map (·.1)).length = s.wide := by rw [List.length_map, hlen]
        have hw : haveW s (box.map (·.1)) = true := by
          rw [haveW, List.all_eq_true]
          intro k hk
          obtain ⟨p, hp, rfl⟩ := List.mem_map.mp hk
          have := b.lt p hp
          exact decide_eq_true (by omega)
        have ht := one_true g hl hw fun k hk => by rw [← e2]; exact hna k hk
        have hm : box.map (·.1) ∈ truthsM s box := mem_truths.mpr ⟨by conv => { lhs; arg 1; rw [e2] }; exact (inB_one _ _).mpr rfl, ht⟩
        cases htr : truthsM s box with
        | nil => rw [htr] at hm; cases hm
        | cons _ _ => rfl
      · simp only [if_neg e]
        have hh := hh (((box.getD w (0, 0)).1 + (box.getD w (0, 0)).2) / 2) (by omega) (by omega)
        generalize hl : (box.getD w (0, 0)).1 = l at *
        generalize hu : (box.getD w (0, 0)).2 = u at *
        have b1 : GB s (box.set w (l, (l + u) / 2)) := b.set ⟨by show l ≤ _; omega, by show (l + u) / 2 < _; omega⟩
        have b2 : GB s (box.set w ((l + u) / 2 + 1, u)) := b.set ⟨by show _ + 1 ≤ u; omega, by show u < _; omega⟩
        have v1 := hvs (l, (l + u) / 2)
        have v2 := hvs ((l + u) / 2 + 1, u)
        simp only at v1 v2
        obtain ⟨n1, p1⟩ := paperM_spec g fuel _ b1 (by omega)
        obtain ⟨n2, p2⟩ := paperM_spec g fuel _ b2 (by omega)
        have he : (truthsM s box).isEmpty = ((truthsM s (box.set w (l, (l + u) / 2))).isEmpty && (truthsM s (box.set w ((l + u) / 2 + 1, u))).isEmpty) := by
          rw [Bool.eq_iff_iff, Bool.and_eq_true]
          simp only [List.isEmpty_iff, List.eq_nil_iff_forall_not_mem, hh]
          constructor
          · intro h
            exact ⟨fun c hc => h c (.inl hc), fun c hc => h c (.inr hc)⟩
          · rintro ⟨h1, h2⟩ c (hc | hc)
            · exact h1 c hc
            · exact h2 c hc
        rw [he]
        cases e1 : paperM s fuel (box.set w (l, (l + u) / 2)) with
        | none =>
          rw [e1] at n1
          refine ⟨?_, fun p hp => by cases hp⟩
          simp only [Option.isNone_none] at n1 ⊢
          have : (truthsM s (box.set w (l, (l + u) / 2))).isEmpty = false := by simpa using n1.symm
          rw [this]
          rfl
        | some q1 =>
          rw [e1] at n1
          have z1 : (truthsM s (box.set w (l, (l + u) / 2))).isEmpty = true := by simpa using n1.symm
          cases e2 : paperM s fuel (box.set w ((l + u) / 2 + 1, u)) with
          | none =>
            rw [e2] at n2
            refine ⟨?_, fun p hp => by cases hp⟩
            have : (truthsM s (box.set w ((l + u) / 2 + 1, u))).isEmpty = false := by simpa using n2.symm
            rw [this, z1]
            rfl
          | some q2 =>
            rw [e2] at n2
            have z2 : (truthsM s (box.set w ((l + u) / 2 + 1, u))).isEmpty = true := by simpa using n2.symm
            refine ⟨by rw [z1, z2]; rfl, fun p hp => ?_⟩
            cases hp
            obtain ⟨d1, i1⟩ := p1 q1 e1
            obtain ⟨d2, i2⟩ := p2 q2 e2
            refine ⟨by rw [Paper.dep]; omega, fun m hm => ?_⟩
            obtain ⟨m, rfl⟩ : ∃ m', m = m' + 1 := ⟨m - 1, by omega⟩
            rw [Paper.d, isPaperD, numOf_ni, numOf_ni, strIs_self, wholeD_ni (k := w) (by omega) (by omega), hl, hu, wholeD_ni (by omega) (by omega), i1 m (by omega), i2 m (by omega)]
            rfl
end OC

/-! Part L14: walks without environments spelt out. -/
namespace OC
theorem compL_g {α : Type} {bnd : D → R Env} {cond elt : Env → R D} (f : α → D) (p : α → Bool) (g : α → D) : ∀ (xs : List α), (∀ x ∈ xs, (bnd (f x)).bind cond = .ok (.bl (p x))) → (∀ x ∈ xs, p x = true → (bnd (f x)).bind elt = .ok (g x)) → compL bnd cond elt (xs.map f) = .ok ((xs.filter p).map g)
  | [], _, _ => rfl
  | x :: xs, hc, hg => by
    have ih := compL_g (bnd := bnd) (cond := cond) (elt := elt) f p g xs (fun y hy => hc y (.tail _ hy)) (fun y hy => hg y (.tail _ hy))
    obtain ⟨e, h1, h2⟩ := R.bind_ok_inv (hc x (.head _))
    rw [List.map_cons, compL, h1, R.bind_ok, h2, R.bind_ok]
    cases hp : p x with
    | true =>
      have h3 := hg x (.head _) hp
      rw [h1, R.bind_ok] at h3
      simp only [h3, R.bind_ok, ih, List.filter_cons_of_pos hp, List.map_cons]
    | false => simp only [ih, List.filter_cons, hp]; rfl
theorem compI_g {α : Type} {Φ : String → List D → R D} {env : Env} {t : T} {elt : E} (f : α → D) (g : α → D) {xs : List α} (hl : xs.length ≤ 16777216) (hg : ∀ x ∈ xs, (bindT t (f x) (wipeE env t.slots)).bind (fun e1 => ev Φ e1 elt) = .ok (g x)) : compI Φ env t elt none (xs.map f) = .ok (.lst (xs.map g)) := by
  rw [compI, R.chk_pos (decide_eq_true (by rw [List.length_map]; exact hl)), compL_g f (fun _ => true) g xs ?_ (fun x hx _ => hg x hx), List.filter_eq_self.mpr (fun _ _ => rfl)]
  · rfl
  · intro x hx
    obtain ⟨e, h1, h2⟩ := R.bind_ok_inv (hg x hx)
    rw [h1]
    rfl
theorem compI_q {α : Type} {Φ : String → List D → R D} {env : Env} {t : T} {elt q : E} (f : α → D) (p : α → Bool) (g : α → D) {xs : List α} (hl : xs.length ≤ 16777216) (hp : ∀ x ∈ xs, (bindT t (f x) (wipeE env t.slots)).bind (fun e1 => ev Φ e1 q) = .ok (.bl (p x))) (hg : ∀ x ∈ xs, p x = true → (bindT t (f x) (wipeE env t.slots)).bind (fun e1 => ev Φ e1 elt) = .ok (g x)) : compI Φ env t elt (some q) (xs.map f) = .ok (.lst ((xs.filter p).map g)) := by
  rw [compI, R.chk_pos (decide_eq_true (by rw [List.length_map]; exact hl)), compL_g f p g xs hp hg]
  rfl
/-- a walk that always goes on -/
theorem forI_pass {α β : Type} {Φ : String → List D → R D} {t : T} {body : List S} {env0 : Env} {K : Out → R β} {r : R β} (f : α → D) (Inv : Env → Prop) {xs : List α} (h0 : Inv env0) (h : ∀ x ∈ xs, ∀ env, Inv env → ∃ env', (bindT t (f x) env).bind (evSs Φ body) = .ok (.nx env') ∧ Inv env') (hk : ∀ env', Inv env' → K (.nx env') = r) : (forI Φ t body env0 (xs.map f)).bind K = r :=
  forI_then f (fun _ => Inv) h0 (fun p x q env e hi => h x (by rw [e]; simp) env hi) hk
theorem forI_passE {α : Type} {Φ : String → List D → R D} {t : T} {body : List S} {env0 : Env} {K : Out → R Out} {Post : Env → Prop} (f : α → D) (Inv : Env → Prop) {xs : List α} (h0 : Inv env0) (h : ∀ x ∈ xs, ∀ env, Inv env → ∃ env', (bindT t (f x) env).bind (evSs Φ body) = .ok (.nx env') ∧ Inv env') (hk : ∀ env', Inv env' → ∃ env2, K (.nx env') = .ok (.nx env2) ∧ Post env2) : ∃ env2, (forI Φ t body env0 (xs.map f)).bind K = .ok (.nx env2) ∧ Post env2 :=
  forI_ex f (fun _ => Inv) h0 (fun p x q env e hi => h x (by rw [e]; simp) env hi) hk
/-- the last statement of a body is such a walk -/
theorem forI_passL {α : Type} {Φ : String → List D → R D} {t : T} {body : List S} {env0 : Env} {Post : Env → Prop} (f : α → D) (Inv : Env → Prop) {xs : List α} (h0 : Inv env0) (h : ∀ x ∈ xs, ∀ env, Inv env → ∃ env', (bindT t (f x) env).bind (evSs Φ body) = .ok (.nx env') ∧ Inv env') (hk : ∀ env', Inv env' → Post env') : ∃ env2, forI Φ t body env0 (xs.map f) = .ok (.nx env2) ∧ Post env2 := by
  obtain ⟨e, h1, h2⟩ := forI_pre (Φ := Φ) (t := t) (body := body) f (fun _ => Inv) xs env0 (fun p x q env e hi => h x (by rw [e]; simp) env hi) h0
  exact ⟨e, h1, hk e h2⟩
theorem sortedD_C {xs : List (List Nat)} (hne : ∀ x ∈ xs, x ≠ []) (hl : xs.length ≤ 16777216) (v : D) (hv : itemsD v = some (xs.map (tupE ni))) : sortedD v = .ok (.lst ((sortB ltC xs).map (tupE ni))) :=
  sortedD_enc (f := tupE ni) inferInstance inferInstance (by omega) (sortable_tup hne) hl v hv
theorem vol_le {s : Sheet} {box : List (Nat × Nat)} (h : ∀ p ∈ box, p.1 ≤ p.2 ∧ p.2 < s.words.length) {m : Nat} (hm : s.words.length ≤ m) : vol box + box.length ≤ box.length * m := by
  induction box with
  | nil => simp [vol]
  | cons p b ih =>
    have h1 := ih fun q hq => h q (.tail _ hq)
    have h2 := h p (.head _)
    simp only [vol, List.map_cons, List.sum_cons, List.length_cons, Nat.succ_mul] at h1 ⊢
    omega
theorem GB.vol {s : Sheet} {most : Nat} (S : SS most s) (hm : most ≤ 8) {box : List (Nat × Nat)} (b : GB s box) : OC.vol box < 22 := by
  have h1 := vol_le b.lt (m := 8) (by have := S.n8; omega)
  have h2 := b.len
  have h3 := S.w3
  omega
theorem notNone_opt (o : Option Paper) : op1 .notNone (optP o) = .ok (.bl o.isSome) := by
  cases o with
  | none => rfl
  | some p => cases p <;> rfl
theorem truths_len {s : Sheet} (g : GS s) {box : List (Nat × Nat)} (b : GB s box) : (truthsM s box).length ≤ 1000000 := by
  have := allIn_lim g b
  have := List.length_filter_le (isTrueM s) (allIn box)
  rw [truthsM]
  omega
theorem eqD_tnil {α : Type} (f : α → D) [DecidableEq α] {d : Nat} [E : Enc f d] (h : d ≤ 59) (xs : List α) : eqD (.tup (xs.map f)) (.tup []) = .ok (.bl xs.isEmpty) := by
  have := eqD_enc (f := tupE f) (d := d + 1) (by omega) xs []
  rw [show tupE f ([] : List α) = .tup [] from rfl, show tupE f xs = .tup (xs.map f) from rfl] at this
  rw [this]
  cases xs <;> simp
theorem neD_tnil {α : Type} (f : α → D) [DecidableEq α] {d : Nat} [E : Enc f d] (h : d ≤ 59) (xs : List α) : neD (.tup (xs.map f)) (.tup []) = .ok (.bl (!xs.isEmpty)) := by
  have := neD_enc (f := tupE f) (d := d + 1) (by omega) xs []
  rw [show tupE f ([] : List α) = .tup [] from rfl, show tupE f xs = .tup (xs.map f) from rfl] at this
  rw [this]
  cases xs <;> simp
theorem getD_get {α : Type} {l : List α} {k : Nat} {a d : α} (h : l[k]? = some a) : l.getD k d = a := by simp [List.getD, h]
end OC

/-! Part L16: boxes within boxes. -/
namespace OC
local macro_rules
  | `(tactic| simp_arith [$args,*]) => `(tactic| simp -implicitDefEqProofs only [callFn_eq, doneK_rt, startEnv, evSs_nil, evSs_cons, thenS_nx, thenS_rt, evS_ret, retK_eq, nxK_eq, evS_asg, asgK_eq, evS_asgF, asgFK_eq, evS_move, moveK_eq, evS_own, ownK_eq, evS_app, appK_eq, evS_ext, extK_l, extK_t, evS_setI, evS_ifS, ifK_t, ifK_f, evS_forS, forK_eq, evS_forM, forMK_eq, evS_whl, evS_nop, ev_var, ev_cst, ev_glb, ev_o1, ev_o2, ev_o3, ev_and, ev_or, ev_chain, ev_tup, ev_lst, ev_call, ev_comp, evs_nil, evs_cons, andK_t, andK_f, orK_t, orK_f, chain1_eq, chainK_t, chainK_f, compK_eq, R.b2_ok, R.b3_ok, R.rcons_ok, List.map_cons, List.map_nil, List.length_cons, List.length_nil, List.length_map, List.replicate, List.cons_append, List.nil_append, R.bind_ok, getV_z, getV_s, bindT_nm, bindT_p2, bindT_p3, Nat.reduceAdd, Nat.reduceSub, Nat.reduceLT, Nat.reduceEqDiff, decide_true, decide_false, R.chk_true, put_s, put_z, T.slots, wipeE, List.set_cons_zero, List.set_cons_succ, Bool.not_true, Bool.not_false, Bool.and_true, Bool.true_and, Bool.or_false, Bool.false_or, ltD_ni, gtD_ni, geD_ni, leD_ni, eqD_ni, neD_ni, addD_ni, lenD_lst, lenD_tup, lenD_scr, tupleD_lst, tupleD_tup, listD_lst, listD_tup, notD_bl, walk_lst, walk_tup, mkT_ok, mkL_ok, modD_ni, fdivD_ni, mulD_l, mulD_r, Nat.reduceLeDiff, eqD_bl, neD_bl, isBool_bl, isTrue_bl, notTrue_bl, isFalse_bl, notFalse_bl, op2_add, op2_sub, op2_mul, op2_fdiv, op2_mod, op2_pow, op2_eq, op2_ne, op2_le, op2_isin, op2_notin, op2_item, op2_count, op2_index, op2_join, op2_split, op2_min2, op2_max2, op2_from_, op2_upto, op1_neg, op1_len, op1_tuple, op1_list, op1_sorted, op1_sum, op1_min, op1_max, op1_all, op1_str, op1_int, op1_rev, op1_step2, op1_sset, op1_listRange, op1_lenset, op1_upper, op1_sortedS, op1_ssetS, op1_intS, op1_not, $args,*])
variable {P : Prog}
theorem evSs_split {Φ : String → List D → R D} {ss : List S} {env e1 : Env} {r : R Out} (n : Nat) (h1 : evSs Φ (ss.take n) env = .ok (.nx e1)) (h2 : evSs Φ (ss.drop n) e1 = r) : evSs Φ ss env = r := by
  have e := evSs_app (b := ss.drop n) h1
  rw [List.take_append_drop] at e
  rw [e, h2]
theorem call_fin {Φ : String → List D → R D} {fn : Fn} {ds : List D} {d : D} (hl : ds.length = fn.ps.length) (h1 : evSs Φ fn.body (startEnv fn ds) = .ok (.rt d)) : callFn Φ fn ds = .ok d := by
  rw [callFn_eq, R.chk_pos (decide_eq_true hl), h1]
  rfl
theorem opt_in (o1 o2 : Option Paper) (h1 : D.cmpb 59 (optP o1) = true) (h2 : D.cmpb 59 (optP o2) = true) : inD .non (.tup [optP o1, optP o2]) = .ok (.bl (o1.isNone || o2.isNone)) := by
  have c : D.cmpb 60 (.tup [optP o1, optP o2]) = true := by simp [D.cmpb, D.cmpbs, h1, h2]
  have e : ∀ o : Option Paper, D.eqv (optP o) .non = o.isNone := fun o => by
    cases o with
    | none => rfl
    | some p => cases p <;> rfl
  rw [inD, c, show D.cmpb 59 .non = true from rfl]
  simp only [Bool.and_self, R.chk_true, List.any_cons, List.any_nil, Bool.or_false, e]
theorem optP_cmp {o : Option Paper} {n : Nat} (hn : n ≤ 59) (h : ∀ p, o = some p → p.dep ≤ n) : D.cmpb 59 (optP o) = true := by
  cases o with
  | none => rfl
  | some p => exact p.cmp 59 (Nat.le_trans (h p rfl) hn)
theorem isPaper_cut {s : Sheet} {m k at' : Nat} {p q : Paper} {box : List (Nat × Nat)} (hk : k < s.wide) (h1 : (box.getD k (0, 0)).1 ≤ at') (h2 : at' < (box.getD k (0, 0)).2) : isPaperD s (m + 1) (.tup [.str [99, 117, 116], ni k, ni at', p.d, q.d]) box = (isPaperD s m p.d (box.set k ((box.getD k (0, 0)).1, at')) && isPaperD s m q.d (box.set k (at' + 1, (box.getD k (0, 0)).2))) := by
  rw [isPaperD, wholeD_ni (by omega) (by omega), numOf_ni, numOf_ni, show strIs (.str [99, 117, 116]) sCut = true from rfl, wholeD_ni (by omega) (by omega)]
  simp
def innerK (number : Nat) (q : Nat × (Nat × Nat)) : Nat × Nat := (q.2.1 + drawnN number q.1 / 4 % (q.2.2 - q.2.1 + 1), q.2.1 + drawnN number q.1 / 4 % (q.2.2 - q.2.1 + 1) + drawnN number q.1 / 4 / 16 % (q.2.2 - (q.2.1 + drawnN number q.1 / 4 % (q.2.2 - q.2.1 + 1)) + 1))
def innerN (box : List (Nat × Nat)) (number : Nat) : List (Nat × Nat) := ((List.range' 0 box.length).zip box).map (innerK number)
theorem innerK_in (number k : Nat) {p : Nat × Nat} (h : p.1 ≤ p.2) : p.1 ≤ (innerK number (k, p)).1 ∧ (innerK number (k, p)).2 ≤ p.2 ∧ (innerK number (k, p)).1 ≤ (innerK number (k, p)).2 := by
  unfold innerK
  simp only
  have h1 := Nat.mod_lt (drawnN number k / 4) (show 0 < p.2 - p.1 + 1 by omega)
  have h3 : p.1 ≤ p.1 + drawnN number k / 4 % (p.2 - p.1 + 1) ∧ p.1 + drawnN number k / 4 % (p.2 - p.1 + 1) ≤ p.2 := by omega
  generalize p.1 + drawnN number k / 4 % (p.2 - p.1 + 1) = f at *
  have h2 := Nat.mod_lt (drawnN number k / 4 / 16) (show 0 < p.2 - f + 1 by omega)
  omega
theorem inner_within (number : Nat) : ∀ (b : List (Nat × Nat)) (j : Nat), (∀ p ∈ b, p.1 ≤ p.2) → Within (((List.range' j b.length).zip b).map (innerK number)) b
  | [], _, _ => .nil
  | p :: b, j, h => by
    rw [List.length_cons, List.range'_succ, List.zip_cons_cons, List.map_cons]
    have := innerK_in number j (h p (.head _))
    exact .cons this.1 this.2.1 (inner_within number b (j + 1) fun q hq => h q (.tail _ hq))
theorem innerN_within {s : Sheet} {box : List (Nat × Nat)} (b : GB s box) (number : Nat) : Within (innerN box number) box := inner_within number box 0 fun p hp => (b.lt p hp).1
theorem innerN_gb {s : Sheet} {box : List (Nat × Nat)} (b : GB s box) (number : Nat) : GB s (innerN box number) := by
  refine ⟨by rw [innerN, List.length_map, List.length_zip, List.length_range', Nat.min_self, b.len], fun p hp => ?_⟩
  obtain ⟨q, hq, rfl⟩ := List.mem_map.mp hp
  have hq2 := (List.of_mem_zip (show (q.1, q.2) ∈ _ from hq)).2
  have h1 := b.lt _ hq2
  have h2 := innerK_in number q.1 h1.1
  exact ⟨h2.2.2, by have := h2.2.1; show (innerK number (q.1, q.2)).2 < _; omega⟩
theorem law_inner_run (h2 : P "_law_inner" = some fn_law_inner) (h1 : P "_law_drawn" = some fn_law_drawn) (n : Nat) {s : Sheet} (g : GS s) {box : List (Nat × Nat)} (b : GB s box) (number : Nat) : run P (n+2) "_law_inner" [boxE box, ni number] = .ok (boxE (innerN box number)) := by
  rw [run_of h2]
  have hw := g.w3
  have hl := b.len
  simp_arith [fn_law_inner, walk_enum (pairE ni ni) (l := box) (a := boxE box) rfl]
  rw [R.bind_assoc]
  refine forI_then (pairE ni (pairE ni ni)) (fun p env => ∃ a1 a2 a3 a4 a5, env = [some (boxE box), some (ni number), some (.tup ((p.map (innerK number)).map (pairE ni ni))), a1, a2, a3, a4, a5]) ⟨none, none, none, none, none, rfl⟩ ?_ ?_
  · rintro p q r env e ⟨a1, a2, a3, a4, a5, rfl⟩
    have hq : q ∈ (List.range' 0 box.length).zip box := by rw [e]; simp
    have hq2 := List.of_mem_zip (show (q.1, q.2) ∈ _ from hq)
    have h3 := b.lt _ hq2.2
    have h4 := List.mem_range'_1.mp hq2.1
    have h5 := innerK_in number q.1 h3.1
    have hf := Nat.mod_lt (drawnN number q.1 / 4) (show 0 < q.2.2 - q.2.1 + 1 by omega)
    have hpl : p.length + 1 ≤ 3 := by
      have := congrArg List.length e
      rw [List.length_zip, List.length_range', List.length_append, List.length_cons] at this
      omega
    refine ⟨_, ?_, some (ni q.1), some (ni q.2.1), some (ni q.2.2), some (ni (drawnN number q.1 / 4)), some (ni (q.2.1 + drawnN number q.1 / 4 % (q.2.2 - q.2.1 + 1))), rfl⟩
    simp_arith [pairE, drawn_run h1 n number q.1 (by omega), subD_ni h3.1, modD_ni (show 0 < q.2.2 - q.2.1 + 1 by omega), subD_ni (show q.2.1 + drawnN number q.1 / 4 % (q.2.2 - q.2.1 + 1) ≤ q.2.2 by omega), modD_ni (show 0 < q.2.2 - (q.2.1 + drawnN number q.1 / 4 % (q.2.2 - q.2.1 + 1)) + 1 by omega)]
    rw [addD_tup (by rw [List.length_map, List.length_map]; show p.length + 1 ≤ 16777216; omega)]
    simp_arith [List.map_append]
    rfl
  · rintro env' ⟨a1, a2, a3, a4, a5, rfl⟩
    simp_arith [boxE, tupE, innerN]
theorem foldl_min_mem : ∀ (xs : List Nat) (m : Nat), xs.foldl min m = m ∨ xs.foldl min m ∈ xs
  | [], m => .inl rfl
  | y :: xs, m => by
    rw [List.foldl_cons]
    rcases foldl_min_mem xs (min m y) with h | h
    · rw [h]
      by_cases e : m ≤ y
      · exact .inl (by omega)
      · exact .inr (by rw [Nat.min_eq_right (by omega)]; exact .head _)
    · exact .inr (.tail _ h)
theorem foldl_max_mem : ∀ (xs : List Nat) (m : Nat), xs.foldl max m = m ∨ xs.foldl max m ∈ xs
  | [], m => .inl rfl
  | y :: xs, m => by
    rw [List.foldl_cons]
    rcases foldl_max_mem xs (max m y) with h | h
    · rw [h]
      by_cases e : y ≤ m
      · exact .inl (by omega)
      · exact .inr (by rw [Nat.max_eq_right (by omega)]; exact .head _)
    · exact .inr (.tail _ h)
theorem lmin_mem {xs : List Nat} (h : xs ≠ []) : lmin xs ∈ xs := by
  cases xs with
  | nil => exact absurd rfl h
  | cons y xs =>
    rcases foldl_min_mem xs y with e | e
    · rw [show lmin (y :: xs) = _ from e]; exact .head _
    · exact .tail _ e
theorem lmax_mem {xs : List Nat} (h : xs ≠ []) : lmax xs ∈ xs := by
  cases xs with
  | nil => exact absurd rfl h
  | cons y xs =>
    rcases foldl_max_mem xs y with e | e
    · rw [show lmax (y :: xs) = _ from e]; exact .head _
    · exact .tail _ e
theorem sub_minmax {xs ys : List Nat} (h : xs ≠ []) (hs : ∀ x ∈ xs, x ∈ ys) : lmin ys ≤ lmin xs ∧ lmax xs ≤ lmax ys := ⟨lmin_le (hs _ (lmin_mem h)), le_lmax (hs _ (lmax_mem h))⟩
theorem bstep_within {s : Sheet} (l : Nat) : ∀ {b c : List (Nat × Nat)} (m n : Nat × Nat), Within b c → (∀ p ∈ b, p.1 ≤ p.2) → (∀ p ∈ c, p.2 < s.words.length) → n.1 ≤ m.1 ∧ m.2 ≤ n.2 → (c.foldl (bstep s l) n).1 ≤ (b.foldl (bstep s l) m).1 ∧ (b.foldl (bstep s l) m).2 ≤ (c.foldl (bstep s l) n).2
  | [], [], m, n, .nil, _, _, h => h
  | p :: b, q :: c, m, n, .cons h1 h2 hw, hb, hc, h => by
    rw [List.foldl_cons, List.foldl_cons]
    have hp := hb p (.head _)
    have hq := hc q (.head _)
    refine bstep_within l _ _ hw (fun r hr => hb r (.tail _ hr)) (fun r hr => hc r (.tail _ hr)) ?_
    have k1 := cut_words (s := s) (p := p) ⟨hp, by omega⟩
    have k2 := cut_words (s := s) (p := q) ⟨by omega, hq⟩
    have := sub_minmax (xs := ((s.words.drop p.1).take (p.2 + 1 - p.1)).map fun w => w.count l) (ys := ((s.words.drop q.1).take (q.2 + 1 - q.1)).map fun w => w.count l) (by
      intro z
      have := congrArg List.length z
      rw [List.length_map, cut_ne ⟨hp, by omega⟩] at this
      simp at this
      omega) (by
      intro x hx
      rw [← k1, List.map_map, List.mem_map] at hx
      obtain ⟨j, hj, rfl⟩ := hx
      rw [← k2, List.map_map, List.mem_map]
      refine ⟨j, ?_, rfl⟩
      rw [mem_rngs] at hj ⊢
      omega)
    simp only [bstep]
    omega
theorem bounds_within {s : Sheet} {b c : List (Nat × Nat)} (hb : GB s b) (hc : GB s c) (h : Within b c) (l : Nat) : (boundsOf s c l).1 ≤ (boundsOf s b l).1 ∧ (boundsOf s b l).2 ≤ (boundsOf s c l).2 :=
  bstep_within l _ _ h (fun p hp => (hb.lt p hp).1) (fun p hp => (hc.lt p hp).2) ⟨Nat.le_refl _, Nat.le_refl _⟩
theorem lows_in : ∀ {b : List (Nat × Nat)}, (∀ p ∈ b, p.1 ≤ p.2) → inB b (b.map (·.1)) = true
  | [], _ => rfl
  | p :: b, h => by
    have := h p (.head _)
    simp only [List.map_cons, inB, lows_in fun q hq => h q (.tail _ hq), Bool.and_true, Bool.and_eq_true, decide_eq_true_eq]
    omega
theorem bounds_le {s : Sheet} {b : List (Nat × Nat)} (hb : GB s b) (l : Nat) : (boundsOf s b l).1 ≤ (boundsOf s b l).2 := by
  have := real_bounds hb (lows_in fun p hp => (hb.lt p hp).1) l
  omega
theorem within_at : ∀ {b c : List (Nat × Nat)} {k : Nat}, Within b c → k < b.length → (c.getD k (0, 0)).1 ≤ (b.getD k (0, 0)).1 ∧ (b.getD k (0, 0)).2 ≤ (c.getD k (0, 0)).2
  | [], [], _, .nil, h => by simp at h
  | p :: b, q :: c, k, .cons h1 h2 hw, h => by
    cases k with
    | zero => exact ⟨h1, h2⟩
    | succ k => simpa using within_at (k := k) hw (by simpa using h)
theorem apart_within {s : Sheet} (g : GS s) {b c : List (Nat × Nat)} (hb : GB s b) (hc : GB s c) (h : Within b c) {k : Nat} (hk : k < s.wide) (ha : apartM s c k = true) : apartM s b k = true := by
  have h1 := bounds_within hb hc h ((letters s.wide).getD k 0)
  have h2 := within_at h (k := k) (by rw [hb.len]; exact hk)
  rw [apartM, boundsM_at g _ hk] at ha ⊢
  simp only [Bool.or_eq_true, decide_eq_true_eq] at ha ⊢
  omega
theorem isPaper_apart {s : Sheet} {m k : Nat} (hk : k < s.wide) (box : List (Nat × Nat)) : isPaperD s (m + 1) (.tup [.str [97, 112, 97, 114, 116], ni k]) box = apartM s box k := by
  rw [isPaperD, wholeD_ni (by omega) (by omega), numOf_ni, show strIs (.str [97, 112, 97, 114, 116]) sApart = true from rfl]
  simp
theorem within_set : ∀ {b : List (Nat × Nat)} {k : Nat} {p : Nat × Nat}, k < b.length → (b.getD k (0, 0)).1 ≤ p.1 → p.2 ≤ (b.getD k (0, 0)).2 → Within (b.set k p) b
  | [], _, _, h, _, _ => by simp at h
  | q :: b, 0, p, _, h1, h2 => by
    have : ∀ b : List (Nat × Nat), Within b b := fun b => by
      induction b with
      | nil => exact .nil
      | cons _ _ ih => exact .cons (Nat.le_refl _) (Nat.le_refl _) ih
    exact .cons h1 h2 (this b)
  | q :: b, k + 1, p, h, h1, h2 => .cons (Nat.le_refl _) (Nat.le_refl _) (within_set (k := k) (by simpa using h) (by simpa using h1) (by simpa using h2))
end OC

/-! Part L30: what is said. -/
namespace OC
local macro_rules
  | `(tactic| simp_arith [$args,*]) => `(tactic| simp -implicitDefEqProofs only [callFn_eq, doneK_rt, startEnv, evSs_nil, evSs_cons, thenS_nx, thenS_rt, evS_ret, retK_eq, nxK_eq, evS_asg, asgK_eq, evS_asgF, asgFK_eq, evS_move, moveK_eq, evS_own, ownK_eq, evS_app, appK_eq, evS_ext, extK_l, extK_t, evS_setI, evS_ifS, ifK_t, ifK_f, evS_forS, forK_eq, evS_forM, forMK_eq, evS_whl, evS_nop, ev_var, ev_cst, ev_glb, ev_o1, ev_o2, ev_o3, ev_and, ev_or, ev_chain, ev_tup, ev_lst, ev_call, ev_comp, evs_nil, evs_cons, andK_t, andK_f, orK_t, orK_f, chain1_eq, chainK_t, chainK_f, compK_eq, R.b2_ok, R.b3_ok, R.rcons_ok, List.map_cons, List.map_nil, List.length_cons, List.length_nil, List.length_map, List.replicate, List.cons_append, List.nil_append, R.bind_ok, getV_z, getV_s, bindT_nm, bindT_p2, bindT_p3, Nat.reduceAdd, Nat.reduceSub, Nat.reduceLT, Nat.reduceEqDiff, decide_true, decide_false, R.chk_true, put_s, put_z, T.slots, wipeE, List.set_cons_zero, List.set_cons_succ, Bool.not_true, Bool.not_false, Bool.and_true, Bool.true_and, Bool.or_false, Bool.false_or, ltD_ni, gtD_ni, geD_ni, leD_ni, eqD_ni, neD_ni, addD_ni, lenD_lst, lenD_tup, lenD_scr, tupleD_lst, tupleD_tup, listD_lst, listD_tup, notD_bl, walk_lst, walk_tup, mkT_ok, mkL_ok, modD_ni, fdivD_ni, mulD_l, mulD_r, Nat.reduceLeDiff, eqD_bl, neD_bl, isBool_bl, isTrue_bl, notTrue_bl, isFalse_bl, notFalse_bl, op2_add, op2_sub, op2_mul, op2_fdiv, op2_mod, op2_pow, op2_eq, op2_ne, op2_le, op2_isin, op2_notin, op2_item, op2_count, op2_index, op2_join, op2_split, op2_min2, op2_max2, op2_from_, op2_upto, op1_neg, op1_len, op1_tuple, op1_list, op1_sorted, op1_sum, op1_min, op1_max, op1_all, op1_str, op1_int, op1_rev, op1_step2, op1_sset, op1_listRange, op1_lenset, op1_upper, op1_sortedS, op1_ssetS, op1_intS, op1_not, $args,*])
variable {P : Prog}
/-! ### again and again, by a bound on what is unlike -/
section
variable {α : Type} {f : α → α} {x : α}
theorem while_orbitB [DecidableEq α] (N : Nat) (bound : ∀ m, (its f x m).Nodup → m ≤ N) {cond : Env → R D} {body : Env → R Out} (Inv : Nat → Env → Prop) (hc : ∀ m env, Inv m env → cond env = .ok (.bl (!decide (iter f x m ∈ its f x m)))) (hs : ∀ m env, m < N → Inv m env → ∃ env', body env = .ok (.nx env') ∧ Inv (m + 1) env') :
    ∀ (n m : Nat) (env : Env), Inv m env → (its f x m).Nodup → N < n + m → ∃ m' p env', OrbitAt f x m' p ∧ m' ≤ N ∧ whileL cond body n env = .ok (.nx env') ∧ Inv m' env' := by
  intro n
  induction n with
  | zero =>
    intro m env _ hn hl
    have := bound m hn
    omega
  | succ n ih =>
    intro m env hi hn hl
    rw [whileL, hc m env hi, R.bind_ok]
    by_cases hm : iter f x m ∈ its f x m
    · obtain ⟨p, hp, e⟩ := (mem_its f x).mp hm
      rw [decide_eq_true hm]
      exact ⟨m, p, env, ⟨hp, hn, e⟩, bound m hn, rfl, hi⟩
    · rw [decide_eq_false hm]
      have hn1 : (its f x (m + 1)).Nodup := by
        rw [its_succ, List.nodup_append]
        refine ⟨hn, by simp, ?_⟩
        intro a ha b hb e
        rw [List.mem_singleton] at hb
        subst hb
        exact hm (e ▸ ha)
      have := bound (m + 1) hn1
      obtain ⟨e1, h1, i1⟩ := hs m env (by omega) hi
      obtain ⟨m', p, e2, o, hl2, h2, i2⟩ := ih (m + 1) e1 i1 hn1 (by omega)
      refine ⟨m', p, e2, o, hl2, ?_, i2⟩
      show R.bind (body env) _ = _
      rw [h1, R.bind_ok]
      exact h2
theorem bound_of {N i j : Nat} (hij : i < j) (hj : j ≤ N) (e : iter f x i = iter f x j) : ∀ m, (its f x m).Nodup → m ≤ N := fun m hn => by
  rcases Nat.lt_or_ge j m with h | h
  · have := its_inj hn (show i < m by omega) h e
    omega
  · omega
end
theorem whl_orbitB {α β : Type} [DecidableEq α] {f : α → α} {x : α} (N : Nat) (bound : ∀ m, (its f x m).Nodup → m ≤ N) {Φ : String → List D → R D} {n : Nat} {c : E} {body : List S} {env : Env} {K : Out → R β} {r : R β} (Inv : Nat → Env → Prop) (hn : N < n) (h0 : Inv 0 env) (hc : ∀ m env, Inv m env → ev Φ env c = .ok (.bl (!decide (iter f x m ∈ its f x m)))) (hs : ∀ m env, m < N → Inv m env → ∃ env', evSs Φ body env = .ok (.nx env') ∧ Inv (m + 1) env')
    (hk : ∀ m p env', OrbitAt f x m p → m ≤ N → Inv m env' → K (.nx env') = r) : (whlK Φ n c body env).bind K = r := by
  obtain ⟨m, p, env', o, hm, h1, h2⟩ := while_orbitB N bound (cond := fun e1 => ev Φ e1 c) (body := evSs Φ body) Inv hc hs n 0 env h0 (by simp [its]) (by omega)
  rw [whlK, h1]
  exact hk m p env' o hm h2
/-! ### figures -/
abbrev FIG : List Nat := List.range' 48 10
abbrev Fig (t : List Nat) : Prop := ∀ c ∈ t, 48 ≤ c ∧ c ≤ 57
theorem mem_FIG {c : Nat} : c ∈ FIG ↔ 48 ≤ c ∧ c ≤ 57 := by rw [List.mem_range'_1]; omega
theorem figs_all : ∀ n ∈ List.range 100, (figs n).length ≤ 1 + n / 10 ∧ 1 ≤ (figs n).length ∧ ((figs n).all fun c => decide (48 ≤ c) && decide (c ≤ 57)) = true := by decide
theorem figs_small : ∀ n ∈ List.range 10, figs n = [48 + n] := by decide
theorem figs_fig {n : Nat} (h : n < 100) : Fig (figs n) := fun c hc => by
  have := List.all_eq_true.mp (figs_all n (List.mem_range.mpr h)).2.2 c hc
  simpa using this
theorem strD_ni {n : Nat} (h : n < 1000000) : strD (ni n) = .ok (.str (figs n)) := by
  rw [ni, strD, R.chk_pos]
  · rw [strOfInt, if_neg (by omega)]
    rfl
  · exact decide_eq_true (Nat.lt_of_lt_of_le (show ((n : Int)).natAbs < 2 ^ 20 by omega) (Nat.pow_le_pow_right (by omega) (by omega)))
def sf (t : List Nat) : List Nat := FIG.filter fun f => decide (f ∈ t)
def saidM (t : List Nat) : List Nat := (sf t).flatMap fun f => figs (t.count f) ++ [f]
theorem inD_fig (f : Nat) (t : List Nat) : inD (chE f) (.str t) = .ok (.bl (decide (f ∈ t))) := by
  show R.ok (D.bl (t.contains f)) = _
  congr 2
  rw [Bool.eq_iff_iff, decide_eq_true_eq]
  exact List.contains_iff_mem
theorem figs_len {n : Nat} (h : n < 100) : (figs n).length ≤ 11 := by
  have := (figs_all n (List.mem_range.mpr h)).1
  omega
theorem sf_len (t : List Nat) : (sf t).length ≤ 10 := by
  have := List.length_filter_le (fun f => decide (f ∈ t)) FIG
  simpa [sf] using this
theorem said_run (h : P "said" = some fn_said) (n : Nat) {t : List Nat} (ht : t.length ≤ 99) : run P (n+1) "said" [.str t] = .ok (.str (saidM t)) := by
  rw [run_of h]
  have hcl : ∀ f, t.count f < 100 := fun f => by
    have := List.count_le_length (a := f) (l := t)
    omega
  simp_arith [fn_said, show walk .seq (.str [48,49,50,51,52,53,54,55,56,57]) .non .non = .ok (FIG.map chE) from rfl]
  rw [compI_q chE (fun f => decide (f ∈ t)) (fun f => .str (figs (t.count f) ++ [f])) (by simp)]
  rotate_left
  · intro f _
    simp_arith [inD_fig]
  · intro f _ _
    have := figs_len (hcl f)
    simp_arith [countD_str, strD_ni (show t.count f < 1000000 by have := hcl f; omega)]
    rw [show chE f = .str [f] from rfl, addD_str (by show _ + 1 ≤ 16777216; omega)]
  rw [show (FIG.filter fun f => decide (f ∈ t)) = sf t from rfl, show (sf t).map (fun f => D.str (figs (t.count f) ++ [f])) = ((sf t).map fun f => figs (t.count f) ++ [f]).map D.str by rw [List.map_map]; rfl]
  have hb : (((sf t).map fun f => figs (t.count f) ++ [f]).flatten).length ≤ 1000 := by
    have e : ((sf t).map fun f => figs (t.count f) ++ [f]).flatten = (sf t).flatMap fun f => figs (t.count f) ++ [f] := (List.flatMap_def ..).symm
    rw [e]
    have h1 := sf_len t
    have : ∀ l : List Nat, (l.flatMap fun f => figs (t.count f) ++ [f]).length ≤ l.length * 12 := fun l => by
      induction l with
      | nil => simp
      | cons f l ih =>
        have := figs_len (hcl f)
        rw [List.flatMap_cons, List.length_append, List.length_append]
        simp only [List.length_cons, List.length_nil]
        omega
    have := this (sf t)
    omega
  simp_arith []
  rw [joinD_nil (by omega)]
  simp_arith []
  rw [saidM, List.flatMap_def]
theorem mem_sf {t : List Nat} {f : Nat} : f ∈ sf t ↔ (48 ≤ f ∧ f ≤ 57) ∧ f ∈ t := by
  rw [sf, List.mem_filter, mem_FIG, decide_eq_true_eq]
theorem sum_div (g : Nat → Nat) : ∀ l : List Nat, (l.map fun f => g f / 10).sum * 10 ≤ (l.map g).sum
  | [] => by simp
  | f :: l => by
    have := sum_div g l
    simp only [List.map_cons, List.sum_cons, Nat.add_mul]
    omega
theorem sum_sub {g : Nat → Nat} (p : Nat → Bool) : ∀ l : List Nat, ((l.filter p).map g).sum ≤ (l.map g).sum
  | [] => by simp
  | f :: l => by
    have := sum_sub (g := g) p l
    rw [List.filter_cons]
    split
    · simp only [List.map_cons, List.sum_cons]; omega
    · simp only [List.map_cons, List.sum_cons]; omega
theorem count_sum_le (L : List Nat) (hn : L.Nodup) : ∀ t : List Nat, (L.map fun f => t.count f).sum ≤ t.length
  | [] => by
    have : (L.map fun f => ([] : List Nat).count f) = L.map fun _ => 0 := by simp
    rw [this]
    clear this hn
    induction L with
    | nil => simp
    | cons _ _ ih => simpa using ih
  | c :: t => by
    have ih := count_sum_le L hn t
    have : ∀ M : List Nat, M.Nodup → (M.map fun f => (c :: t).count f).sum ≤ (M.map fun f => t.count f).sum + 1 ∧ (c ∉ M → (M.map fun f => (c :: t).count f).sum = (M.map fun f => t.count f).sum) := fun M => by
      induction M with
      | nil => intro _; simp
      | cons f M ih2 =>
        intro hM
        rw [List.nodup_cons] at hM
        obtain ⟨i1, i2⟩ := ih2 hM.2
        have hcf : (c :: t).count f = t.count f + if c = f then 1 else 0 := by
          rw [List.count_cons]
          by_cases e : c = f
          · simp [e]
          · simp [e]
        rw [List.map_cons, List.sum_cons, List.map_cons, List.sum_cons, hcf]
        by_cases e : c = f
        · subst e
          have i3 := i2 hM.1
          rw [if_pos rfl]
          exact ⟨by omega, fun z => absurd (.head _) z⟩
        · rw [if_neg e]
          refine ⟨by omega, fun z => ?_⟩
          have := i2 fun q => z (.tail _ q)
          omega
    have := (this L hn).1
    rw [List.length_cons]
    omega
theorem FIG_nodup : FIG.Nodup := List.nodup_range'
theorem saidM_len {t : List Nat} (ht : t.length ≤ 22) : (saidM t).length ≤ 22 := by
  have hcl : ∀ f, t.count f < 100 := fun f => by
    have := List.count_le_length (a := f) (l := t)
    omega
  have h1 : ∀ l : List Nat, (l.flatMap fun f => figs (t.count f) ++ [f]).length ≤ 2 * l.length + (l.map fun f => t.count f / 10).sum := fun l => by
    induction l with
    | nil => simp
    | cons f l ih =>
      have := (figs_all _ (List.mem_range.mpr (hcl f))).1
      rw [List.flatMap_cons, List.length_append, List.length_append, List.length_cons, List.map_cons, List.sum_cons]
      simp only [List.length_cons, List.length_nil]
      omega
  have h2 := h1 (sf t)
  have h3 := sf_len t
  have h4 := sum_div (fun f => t.count f) (sf t)
  have h5 := sum_sub (g := fun f => t.count f) (fun f => decide (f ∈ t)) FIG
  have h6 := count_sum_le FIG FIG_nodup t
  rw [saidM]
  have h7 : ((sf t).map fun f => t.count f).sum ≤ (FIG.map fun f => t.count f).sum := h5
  omega
theorem saidM_fig {t : List Nat} (ht : t.length ≤ 22) : Fig (saidM t) := by
  intro c hc
  obtain ⟨f, hf, hc⟩ := List.mem_flatMap.mp hc
  rcases List.mem_append.mp hc with hc | hc
  · have := List.count_le_length (a := f) (l := t)
    exact figs_fig (show t.count f < 100 by omega) c hc
  · rw [List.mem_singleton] at hc
    rw [hc]
    exact (mem_sf.mp hf).1
theorem saidM_mem {t : List Nat} {f : Nat} (hf : 48 ≤ f ∧ f ≤ 57) (h : f ∈ t) : f ∈ saidM t := by
  rw [saidM, List.mem_flatMap]
  exact ⟨f, mem_sf.mpr ⟨hf, h⟩, by simp⟩
theorem saidM_congr {t u : List Nat} (h : ∀ f, 48 ≤ f ∧ f ≤ 57 → t.count f = u.count f) : saidM t = saidM u := by
  have e : sf t = sf u := by
    rw [sf, sf]
    apply List.filter_congr
    intro f hf
    have h2 := h f (mem_FIG.mp hf)
    rw [decide_eq_decide]
    rw [← List.count_pos_iff, ← List.count_pos_iff, h2]
  rw [saidM, saidM, e]
  apply flatMap_congr
  intro f hf
  rw [h f (mem_sf.mp hf).1]
theorem saidM_perm {t u : List Nat} (h : t.Perm u) : saidM t = saidM u := saidM_congr fun f _ => h.count_eq f
/-! ### it comes back -/
theorem filter_sub {p q : Nat → Bool} : ∀ {L : List Nat}, (∀ x ∈ L, p x = true → q x = true) → (L.filter q).length ≤ (L.filter p).length → L.filter q = L.filter p
  | [], _, _ => rfl
  | x :: L, h, hl => by
    have hle : ∀ M : List Nat, (∀ y ∈ M, p y = true → q y = true) → (M.filter p).length ≤ (M.filter q).length := fun M hM => by
      induction M with
      | nil => simp
      | cons y M ih =>
        have := ih fun z hz => hM z (.tail _ hz)
        rw [List.filter_cons, List.filter_cons]
        cases hp : p y with
        | true => rw [hM y (.head _) hp]; simpa using this
        | false => cases q y <;> simp <;> omega
    have hs := hle L fun y hy => h y (.tail _ hy)
    rw [List.filter_cons, List.filter_cons] at hl ⊢
    cases hp : p x with
    | true =>
      have hq := h x (.head _) hp
      rw [hp, hq] at hl
      rw [hq]
      simp only [if_true, List.length_cons] at hl ⊢
      rw [filter_sub (fun y hy => h y (.tail _ hy)) (by omega)]
    | false =>
      cases hq : q x with
      | true =>
        rw [hp, hq] at hl
        simp only [if_true, List.length_cons, Bool.false_eq_true, if_false] at hl
        omega
      | false =>
        rw [hp, hq] at hl
        simp only [Bool.false_eq_true, if_false] at hl ⊢
        exact filter_sub (fun y hy => h y (.tail _ hy)) hl
def pcRow (f : Nat → Nat) : Nat → Nat
  | 0 => f 0
  | s + 1 => pcRow f s + f (s + 1)
def pc : Nat → Nat → Nat
  | 0 => fun _ => 1
  | L + 1 => pcRow (pc L)
theorem rowsLe_step (L s : Nat) : (rowsLe (L + 1) (s + 1)).length = (rowsLe (L + 1) s).length + (rowsLe L (s + 1)).length := by
  simp only [rowsLe, List.length_flatMap, List.length_map]
  rw [List.range_succ_eq_map (n := s + 1), List.map_cons, List.sum_cons, List.map_map]
  have e : ((List.range (s + 1)).map ((fun a => (rowsLe L (s + 1 - a)).length) ∘ Nat.succ)) = (List.range (s + 1)).map fun a => (rowsLe L (s - a)).length := by
    apply List.map_congr_left
    intro a _
    show (rowsLe L (s + 1 - (a + 1))).length = _
    rw [show s + 1 - (a + 1) = s - a by omega]
  rw [e]
  simp only [Nat.sub_zero]
  omega
theorem rowsLe_pc : ∀ L s, (rowsLe L s).length = pc L s
  | 0, s => rfl
  | L + 1, 0 => by
    show _ = pc L 0
    rw [← rowsLe_pc L 0]
    simp [rowsLe]
  | L + 1, s + 1 => by
    rw [rowsLe_step, rowsLe_pc (L + 1) s, rowsLe_pc L (s + 1)]
    rfl
set_option maxRecDepth 1000000 in
theorem pc_small : ∀ L ∈ List.range 11, pc L (22 - L) ≤ 646646 := by decide +kernel
theorem sf_in {t : List Nat} (i : Nat) : ∀ {f}, f ∈ sf t → f ∈ sf (iter saidM t i) := by
  induction i with
  | zero => exact fun h => h
  | succ i ih =>
    intro f hf
    have := mem_sf.mp (ih hf)
    exact mem_sf.mpr ⟨this.1, saidM_mem this.1 this.2⟩
theorem said_iter {t : List Nat} (hf : Fig t) (hl : t.length ≤ 22) : ∀ i, Fig (iter saidM t i) ∧ (iter saidM t i).length ≤ 22
  | 0 => ⟨hf, hl⟩
  | i + 1 => by
    have ih := said_iter hf hl i
    exact ⟨saidM_fig ih.2, saidM_len ih.2⟩
theorem pigeon {α : Type} [DecidableEq α] (U : List α) (k : Nat → α) (n : Nat) (hn : U.length < n) (h : ∀ i, i < n → k i ∈ U) : ∃ i j, i < j ∧ j < n ∧ k i = k j := by
  by_cases hex : ∃ i j, i < j ∧ j < n ∧ k i = k j
  · exact hex
  · exfalso
    have nd : ((List.range n).map k).Nodup := by
      rw [List.nodup_iff_pairwise_ne, List.pairwise_map]
      refine (List.pairwise_lt_range (n := n)).imp_of_mem fun {a b} ha hb hab e => hex ⟨a, b, hab, List.mem_range.mp hb, e⟩
    have := nodup_le _ U nd fun y hy => by
      obtain ⟨i, hi, rfl⟩ := List.mem_map.mp hy
      exact h i (List.mem_range.mp hi)
    rw [List.length_map, List.length_range] at this
    omega
def keyS (S t : List Nat) : List Nat := S.map fun f => t.count f - 1
theorem keyS_sum {t : List Nat} : ∀ {S : List Nat}, (∀ f ∈ S, f ∈ t) → (keyS S t).sum + S.length = (S.map fun f => t.count f).sum
  | [], _ => by simp [keyS]
  | f :: S, h => by
    have ih := keyS_sum (t := t) (S := S) fun g hg => h g (.tail _ hg)
    have := List.count_pos_iff.mpr (h f (.head _))
    simp only [keyS, List.map_cons, List.sum_cons, List.length_cons] at ih ⊢
    omega
theorem key_mem {t : List Nat} (hl : t.length ≤ 22) : keyS (sf t) t ∈ rowsLe (sf t).length (22 - (sf t).length) := by
  have h1 := keyS_sum (t := t) (S := sf t) fun f hf => (mem_sf.mp hf).2
  have h2 := sum_sub (g := fun f => t.count f) (fun f => decide (f ∈ t)) FIG
  have h3 := count_sum_le FIG FIG_nodup t
  have h4 : ((sf t).map fun f => t.count f).sum ≤ (FIG.map fun f => t.count f).sum := h2
  have := mem_rowsLe (keyS (sf t) t) (22 - (sf t).length) (by omega)
  have e : (keyS (sf t) t).length = (sf t).length := List.length_map _
  rwa [e] at this
theorem key_said {t u : List Nat} (hs : sf t = sf u) (hk : keyS (sf t) t = keyS (sf t) u) : saidM t = saidM u := by
  refine saidM_congr fun f hf => ?_
  by_cases h : f ∈ t
  · have h1 := mem_sf.mpr ⟨hf, h⟩
    have h2 : f ∈ u := (mem_sf.mp (hs ▸ h1)).2
    have h3 : t.count f - 1 = u.count f - 1 := List.map_inj_left.mp hk f h1
    have := List.count_pos_iff.mpr h
    have := List.count_pos_iff.mpr h2
    omega
  · have h2 : f ∉ u := fun z => h (mem_sf.mp (hs.symm ▸ mem_sf.mpr ⟨hf, z⟩)).2
    rw [List.count_eq_zero.mpr h, List.count_eq_zero.mpr h2]
theorem said_closes : ∀ (d : Nat) (t : List Nat), Fig t → t.length ≤ 22 → 10 - (sf t).length ≤ d → ∃ i j, i < j ∧ j ≤ (d + 1) * 646648 ∧ iter saidM t i = iter saidM t j
  | d, t, hf, hl, hd => by
    by_cases h : ∃ i, i ≤ 646646 ∧ (sf t).length < (sf (iter saidM t i)).length
    · obtain ⟨i, hi, hlt⟩ := h
      have h10 := sf_len (iter saidM t i)
      cases d with
      | zero => omega
      | succ d =>
        obtain ⟨a, b, hab, hb, e⟩ := said_closes d (iter saidM t i) (said_iter hf hl i).1 (said_iter hf hl i).2 (by omega)
        rw [iter_add, iter_add] at e
        exact ⟨i + a, i + b, by omega, by rw [Nat.succ_mul]; omega, e⟩
    · have hall : ∀ i, i ≤ 646646 → sf (iter saidM t i) = sf t := fun i hi => by
        refine filter_sub (fun f hf2 hp => ?_) ?_
        · rw [decide_eq_true_eq] at hp ⊢
          exact (mem_sf.mp (sf_in i (mem_sf.mpr ⟨mem_FIG.mp hf2, hp⟩))).2
        · rcases Nat.lt_or_ge (sf t).length (sf (iter saidM t i)).length with q | q
          · exact absurd ⟨i, hi, q⟩ h
          · exact q
      have h10 := sf_len t
      have hU := rowsLe_pc (sf t).length (22 - (sf t).length)
      have hp := pc_small (sf t).length (List.mem_range.mpr (by omega))
      obtain ⟨i, j, hij, hj, e⟩ := pigeon (rowsLe (sf t).length (22 - (sf t).length)) (fun i => keyS (sf t) (iter saidM t i)) 646647 (by omega) (fun i hi => by
        have := key_mem (said_iter hf hl i).2
        rwa [hall i (by omega)] at this)
      refine ⟨i + 1, j + 1, by omega, ?_, ?_⟩
      · have : 1 * 646648 ≤ (d + 1) * 646648 := Nat.mul_le_mul_right _ (by omega)
        omega
      · have h1 := hall i (by omega)
        have h2 := hall j (by omega)
        refine key_said (h1.trans h2.symm) ?_
        rw [h1]
        exact e
def NS : Nat := 7113128
theorem said_bound {t : List Nat} (hf : Fig t) (hl : t.length ≤ 22) : ∀ m, (its saidM t m).Nodup → m ≤ NS := by
  obtain ⟨i, j, hij, hj, e⟩ := said_closes 10 t hf hl (by omega)
  exact bound_of hij (by unfold NS; omega) e
theorem said_led_run (h : P "said_led" = some fn_said_led) (h1 : P "said" = some fn_said) (n : Nat) {t : List Nat} (hf : Fig t) (hl : t.length ≤ 22) : ∃ m p, OrbitAt saidM t m p ∧ m ≤ NS ∧ run P (n+2) "said_led" [.str t] = .ok (.tup [.tup ((its saidM t m).map D.str), ni p]) := by
  have hfl := said_iter hf hl
  have key : ∃ m p, OrbitAt saidM t m p ∧ m ≤ NS := by
    obtain ⟨m, p, _, o, hm, _⟩ := while_orbitB NS (said_bound hf hl) (f := saidM) (x := t) (cond := fun e => .ok (.bl (!decide (iter saidM t e.length ∈ its saidM t e.length)))) (body := fun e => .ok (.nx (none :: e))) (fun m e => e.length = m) (fun m e hi => by subst hi; congr) (fun m e _ hi => ⟨none :: e, rfl, by rw [List.length_cons, hi]⟩) (NS + 1) 0 [] rfl (by simp [its]) (by omega)
    exact ⟨m, p, o, hm⟩
  obtain ⟨m, p, o, hm⟩ := key
  refine ⟨m, p, o, hm, ?_⟩
  rw [run_of h]
  simp_arith [fn_said_led]
  refine (congrArg (fun z => R.bind z doneK) (?_ : _ = R.ok (Out.rt (.tup [.tup ((its saidM t m).map D.str), ni p])))).trans rfl
  refine whl_orbitB NS (said_bound hf hl) (fun k env => env = [some (.str (iter saidM t k)), some (.lst ((its saidM t k).map D.str))]) (by unfold NS; omega) rfl ?_ ?_ ?_
  · rintro k env rfl
    simp_arith [notinD_lst (f := D.str) (show 0 ≤ 59 by omega)]
  · rintro k env hk rfl
    have hlk := its_length saidM t k
    unfold NS at hk
    have h2 := said_run h1 n (t := iter saidM t k) (by have := (hfl k).2; omega)
    refine ⟨_, ?_, rfl⟩
    simp_arith [limlt_of (show (its saidM t k).length < 16777216 by omega), h2, its_succ, List.map_append]
    rfl
  · rintro k q env o2 _ rfl
    obtain ⟨rfl, rfl⟩ := o.uniq o2
    have hix : indexD (.lst ((its saidM t m).map D.str)) (.str (iter saidM t m)) = .ok (ni p) := by
      rw [indexD_lst (f := D.str) (by omega) _ _ o.mem, o.idx]
    simp_arith [hix]
end OC

/-! Part L31: rounds; things mixed up. -/
namespace OC
local macro_rules
  | `(tactic| simp_arith [$args,*]) => `(tactic| simp -implicitDefEqProofs only [callFn_eq, doneK_rt, startEnv, evSs_nil, evSs_cons, thenS_nx, thenS_rt, evS_ret, retK_eq, nxK_eq, evS_asg, asgK_eq, evS_asgF, asgFK_eq, evS_move, moveK_eq, evS_own, ownK_eq, evS_app, appK_eq, evS_ext, extK_l, extK_t, evS_setI, evS_ifS, ifK_t, ifK_f, evS_forS, forK_eq, evS_forM, forMK_eq, evS_whl, evS_nop, ev_var, ev_cst, ev_glb, ev_o1, ev_o2, ev_o3, ev_and, ev_or, ev_chain, ev_tup, ev_lst, ev_call, ev_comp, evs_nil, evs_cons, andK_t, andK_f, orK_t, orK_f, chain1_eq, chainK_t, chainK_f, compK_eq, R.b2_ok, R.b3_ok, R.rcons_ok, List.map_cons, List.map_nil, List.length_cons, List.length_nil, List.length_map, List.replicate, List.cons_append, List.nil_append, R.bind_ok, getV_z, getV_s, bindT_nm, bindT_p2, bindT_p3, Nat.reduceAdd, Nat.reduceSub, Nat.reduceLT, Nat.reduceEqDiff, decide_true, decide_false, R.chk_true, put_s, put_z, T.slots, wipeE, List.set_cons_zero, List.set_cons_succ, Bool.not_true, Bool.not_false, Bool.and_true, Bool.true_and, Bool.or_false, Bool.false_or, ltD_ni, gtD_ni, geD_ni, leD_ni, eqD_ni, neD_ni, addD_ni, lenD_lst, lenD_tup, lenD_scr, tupleD_lst, tupleD_tup, listD_lst, listD_tup, notD_bl, walk_lst, walk_tup, mkT_ok, mkL_ok, modD_ni, fdivD_ni, mulD_l, mulD_r, Nat.reduceLeDiff, eqD_bl, neD_bl, isBool_bl, isTrue_bl, notTrue_bl, isFalse_bl, notFalse_bl, op2_add, op2_sub, op2_mul, op2_fdiv, op2_mod, op2_pow, op2_eq, op2_ne, op2_le, op2_isin, op2_notin, op2_item, op2_count, op2_index, op2_join, op2_split, op2_min2, op2_max2, op2_from_, op2_upto, op1_neg, op1_len, op1_tuple, op1_list, op1_sorted, op1_sum, op1_min, op1_max, op1_all, op1_str, op1_int, op1_rev, op1_step2, op1_sset, op1_listRange, op1_lenset, op1_upper, op1_sortedS, op1_ssetS, op1_intS, op1_not, $args,*])
variable {P : Prog}
section
variable {α : Type} [DecidableEq α] {lt : α → α → Bool} {f : α → α} {x : α}
open Classical in
/-- the round to which x leads, sorted -/
noncomputable def rnd (lt : α → α → Bool) (f : α → α) (x : α) : List α := if h : ∃ q : Nat × Nat, OrbitAt f x q.1 q.2 then sortB lt ((its f x (choose h).1).drop (choose h).2) else []
theorem rnd_eq {m p : Nat} (o : OrbitAt f x m p) : rnd lt f x = sortB lt ((its f x m).drop p) := by
  have h : ∃ q : Nat × Nat, OrbitAt f x q.1 q.2 := ⟨(m, p), o⟩
  rw [rnd, dif_pos h]
  have := (Classical.choose_spec h).uniq o
  rw [this.1, this.2]
theorem its_shift (f : α → α) (x : α) (m : Nat) : its f (f x) m = (its f x (m + 1)).drop 1 := by
  have hi : ∀ i, iter f (f x) i = iter f x (i + 1) := fun i => by
    have := iter_add f x 1 i
    rw [Nat.add_comm 1 i] at this
    exact this
  rw [its, its, List.range_succ_eq_map, List.map_cons, List.drop_one, List.tail_cons, List.map_map]
  apply List.map_congr_left
  intro i _
  exact hi i
theorem iter_shift (f : α → α) (x : α) (i : Nat) : iter f (f x) i = iter f x (i + 1) := by
  have := iter_add f x 1 i
  rw [Nat.add_comm 1 i] at this
  exact this
theorem orbit_next {m p : Nat} (o : OrbitAt f x m (p + 1)) : OrbitAt f (f x) (m - 1) p := by
  have hlt := o.lt
  obtain ⟨m, rfl⟩ : ∃ k, m = k + 1 := ⟨m - 1, by omega⟩
  refine ⟨by omega, ?_, ?_⟩
  · show (its f (f x) m).Nodup
    rw [its_shift]
    exact o.nd.sublist (List.drop_sublist _ _)
  · show iter f (f x) p = iter f (f x) m
    rw [iter_shift, iter_shift]
    exact o.eq
theorem its_round {m : Nat} (hm : 0 < m) (e : iter f x 0 = iter f x m) : its f (f x) m = (its f x m).drop 1 ++ [x] := by
  rw [its_shift, its_succ, List.drop_append]
  have hl := its_length f x m
  rw [show 1 - (its f x m).length = 0 by omega, List.drop_zero, ← e]
  rfl
theorem its_cons {m : Nat} (hm : 0 < m) : its f x m = x :: (its f x m).drop 1 := by
  obtain ⟨m, rfl⟩ : ∃ k, m = k + 1 := ⟨m - 1, by omega⟩
  rw [its, List.range_succ_eq_map, List.map_cons]
  rfl
theorem orbit_round {m : Nat} (o : OrbitAt f x m 0) : OrbitAt f (f x) m 0 := by
  have hm := o.lt
  have he := its_round hm o.eq
  refine ⟨hm, ?_, ?_⟩
  · rw [he]
    have h1 := o.nd
    rw [its_cons hm] at h1
    rw [List.nodup_cons] at h1
    rw [List.nodup_append]
    refine ⟨h1.2, by simp, ?_⟩
    intro a ha b hb e
    rw [List.mem_singleton] at hb
    subst hb
    exact h1.1 (e ▸ ha)
  · rw [iter_shift, iter_shift]
    show f (iter f x 0) = f (iter f x m)
    rw [o.eq]
theorem rnd_step (S : STO lt) {m p : Nat} (o : OrbitAt f x m p) : rnd lt f (f x) = rnd lt f x ∧ ∃ m' p', OrbitAt f (f x) m' p' ∧ m' ≤ m := by
  cases p with
  | succ p =>
    have o2 := orbit_next o
    have hlt := o.lt
    obtain ⟨m, rfl⟩ : ∃ k, m = k + 1 := ⟨m - 1, by omega⟩
    refine ⟨?_, _, _, o2, by omega⟩
    rw [rnd_eq o2, rnd_eq o, show m + 1 - 1 = m by omega, its_shift, List.drop_drop, Nat.add_comm 1 p]
  | zero =>
    have o2 := orbit_round o
    refine ⟨?_, _, _, o2, Nat.le_refl _⟩
    rw [rnd_eq o2, rnd_eq o, List.drop_zero, List.drop_zero]
    refine sortB_congr S ?_
    rw [its_round o.lt o.eq]
    conv => { rhs; rw [its_cons o.lt] }
    exact List.perm_append_singleton _ _
theorem rnd_iter (S : STO lt) {m p : Nat} (o : OrbitAt f x m p) : ∀ i, rnd lt f (iter f x i) = rnd lt f x ∧ ∃ m' p', OrbitAt f (iter f x i) m' p' ∧ m' ≤ m
  | 0 => ⟨rfl, m, p, o, Nat.le_refl _⟩
  | i + 1 => by
    obtain ⟨h1, m', p', o', hm⟩ := rnd_iter S o i
    obtain ⟨h2, m2, p2, o2, hm2⟩ := rnd_step (lt := lt) S o'
    exact ⟨h2.trans h1, m2, p2, o2, by omega⟩
theorem orbit_rest (h : f x = x) : OrbitAt f x 1 0 := ⟨by omega, by simp [its], by show x = f x; exact h.symm⟩
theorem its_one : its f x 1 = [x] := rfl
theorem its_head {m : Nat} (hm : 0 < m) : (its f x m)[0]? = some x := its_get f x hm
/-- round and round: each is followed by the next -/
theorem zip_round {m p : Nat} (o : OrbitAt f x m p) : ∀ q ∈ ((its f x m).drop p).zip (((its f x m).drop (p + 1)) ++ ((its f x m).drop p).take 1), f q.1 = q.2 ∧ ∃ i, q.1 = iter f x i := by
  intro q hq
  obtain ⟨k, hk⟩ := List.mem_iff_getElem?.mp hq
  rw [List.getElem?_zip_eq_some] at hk
  obtain ⟨h1, h2⟩ := hk
  have hl := its_length f x m
  have hlt := o.lt
  rw [List.getElem?_drop] at h1
  have hkm : p + k < m := by
    have := (List.getElem?_eq_some_iff.mp h1).1
    omega
  rw [its_get f x hkm] at h1
  have e1 : q.1 = iter f x (p + k) := (Option.some.inj h1).symm
  refine ⟨?_, _, e1⟩
  rw [e1]
  by_cases hkl : p + k + 1 < m
  · rw [List.getElem?_append_left (by rw [List.length_drop]; omega), List.getElem?_drop, show p + 1 + k = p + k + 1 by omega, its_get f x hkl] at h2
    exact Option.some.inj h2
  · rw [List.getElem?_append_right (by rw [List.length_drop]; omega), List.length_drop, hl, show k - (m - (p + 1)) = 0 by omega, List.getElem?_take, if_pos (by omega), List.getElem?_drop, Nat.add_zero, its_get f x hlt] at h2
    have : m = p + k + 1 := by omega
    rw [← Option.some.inj h2, o.eq, this]
    rfl
end
/-! ### mixed up -/
theorem evS_appPop_ok {Φ : String → List D → R D} {env : Env} {i j : Nat} {e : E} {us xs : List D} {n : Nat} {d : D} (h1 : getV env i = .ok (.lst us)) (h2 : getV env j = .ok (.lst xs)) (h3 : ev Φ env e = .ok (ni n)) (hd : xs[n]? = some d) (hn : n < 2 ^ 62) (hu : us.length < 16777216) : evS Φ (.appPop i j e) env = .ok (.nx (put (put env j (.lst (xs.eraseIdx n))) i (.lst (us ++ [d])))) := by
  have hl : n < xs.length := (List.getElem?_eq_some_iff.mp hd).1
  rw [evS, h1, R.bind_ok, h2, R.bind_ok, h3, R.bind_ok]
  show (match ixI xs.length (n : Int) with | some m => (match xs[m]? with | some d => R.chk (bigI (n : Int) && decide (us.length < LIM)) (.ok (Out.nx (put (put env j (.lst (xs.eraseIdx m))) i (.lst (us ++ [d]))))) | none => R.bad) | none => R.bad) = _
  rw [ixI_nat hl]
  simp only [hd]
  rw [R.chk_pos]
  rw [bigI_nat hn]
  exact limlt_of hu
theorem eraseIdx_mapD {α β : Type} (f : α → β) (l : List α) (i : Nat) : (l.map f).eraseIdx i = (l.eraseIdx i).map f := by
  rw [List.eraseIdx_eq_take_drop_succ, List.eraseIdx_eq_take_drop_succ, List.map_append, List.map_take, List.map_drop]
theorem erase_perm {α : Type} : ∀ (l : List α) (i : Nat) (h : i < l.length), (l[i] :: l.eraseIdx i).Perm l
  | [], i, h => absurd h (by simp)
  | x :: l, 0, _ => .refl _
  | x :: l, i + 1, h => (List.Perm.swap ..).trans (List.Perm.cons x (erase_perm l i (by simpa using h)))
theorem mixed_loop {α : Type} [DecidableEq α] {f : α → D} {d : Nat} [E1 : Enc f d] (hd : d ≤ 59) {Φ : String → List D → R D} (sv : Option D) : ∀ (l : Nat) (left found : List α) (number n : Nat), left.length = l → l < n → left.length + found.length ≤ 1000 → ∃ r num', r.Perm left ∧ whlK Φ n (.o2 .ne (.var 2) (.lst [])) [.appPop 3 2 (.o2 .mod (.var 1) (.o1 .len (.var 2))), .asg (.nm 1) (.o2 .add (.o2 .fdiv (.var 1) (.cst (ni 3))) (.cst (ni 7)))] [sv, some (ni number), some (.lst (left.map f)), some (.lst (found.map f))] = .ok (.nx [sv, some (ni num'), some (.lst []), some (.lst ((found ++ r).map f))])
  | l, left, found, number, n, hl, hn, hb => by
    obtain ⟨n, rfl⟩ : ∃ k, n = k + 1 := ⟨n - 1, by omega⟩
    cases left with
    | nil =>
      refine ⟨[], number, .refl _, ?_⟩
      rw [whlK, whileL]
      have hc : ev Φ [sv, some (ni number), some (.lst (([] : List α).map f)), some (.lst (found.map f))] (.o2 .ne (.var 2) (.lst [])) = .ok (.bl false) := by
        simp_arith [show neD (.lst []) (.lst []) = .ok (.bl false) from rfl]
      rw [hc, List.append_nil]
      rfl
    | cons a left =>
      have hpos : 0 < (a :: left).length := by simp
      have hlt := Nat.mod_lt number hpos
      generalize hL : a :: left = L at hpos hlt hl hb
      have hne : L ≠ [] := by rw [← hL]; simp
      have hc : ev Φ [sv, some (ni number), some (.lst (L.map f)), some (.lst (found.map f))] (.o2 .ne (.var 2) (.lst [])) = .ok (.bl true) := by
        have : L.isEmpty = false := by cases L; exact absurd rfl hne; rfl
        simp_arith [neD_nil (f := f) hd, this]
      have hix : ev Φ [sv, some (ni number), some (.lst (L.map f)), some (.lst (found.map f))] (.o2 .mod (.var 1) (.o1 .len (.var 2))) = .ok (ni (number % L.length)) := by
        simp_arith [modD_ni hpos]
      have hg : L[number % L.length]? = some L[number % L.length] := List.getElem?_eq_getElem hlt
      have hap := evS_appPop_ok (Φ := Φ) (env := [sv, some (ni number), some (.lst (L.map f)), some (.lst (found.map f))]) (i := 3) (j := 2) (us := found.map f) (xs := L.map f) (d := f L[number % L.length]) rfl rfl hix (by rw [List.getElem?_map, hg]; rfl) (by omega) (by rw [List.length_map]; omega)
      have hel : (L.eraseIdx (number % L.length)).length = L.length - 1 := List.length_eraseIdx_of_lt hlt
      obtain ⟨r, num', hp, hr⟩ := mixed_loop (f := f) hd (Φ := Φ) sv (l - 1) (L.eraseIdx (number % L.length)) (found ++ [L[number % L.length]]) (number / 3 + 7) n (by omega) (by omega) (by rw [List.length_append]; simp; omega)
      refine ⟨L[number % L.length] :: r, num', ?_, ?_⟩
      · refine (List.Perm.cons _ hp).trans ?_
        exact erase_perm _ _ hlt
      · rw [whlK, whileL, hc, R.bind_ok]
        rw [whlK] at hr
        have hbody : evSs Φ [.appPop 3 2 (.o2 .mod (.var 1) (.o1 .len (.var 2))), .asg (.nm 1) (.o2 .add (.o2 .fdiv (.var 1) (.cst (ni 3))) (.cst (ni 7)))] [sv, some (ni number), some (.lst (L.map f)), some (.lst (found.map f))] = .ok (.nx [sv, some (ni (number / 3 + 7)), some (.lst ((L.eraseIdx (number % L.length)).map f)), some (.lst ((found ++ [L[number % L.length]]).map f))]) := by
          simp_arith [hap, eraseIdx_mapD, List.map_append]
        simp only [hbody, R.bind_ok]
        rw [hr]
        simp [List.append_assoc]
theorem mixed_up_run {α : Type} [DecidableEq α] {f : α → D} {d : Nat} [E1 : Enc f d] (hd : d ≤ 59) (h : P "_law_mixed_up" = some fn_law_mixed_up) (n : Nat) {v : D} {xs : List α} (hv : listD v = .ok (.lst (xs.map f))) (hl : xs.length ≤ 1000) (number : Nat) : ∃ r : List α, r.Perm xs ∧ run P (n+1) "_law_mixed_up" [v, ni number] = .ok (.lst (r.map f)) := by
  obtain ⟨r, num', hp, hr⟩ := mixed_loop (f := f) hd (Φ := run P n) (some v) xs.length xs [] number 16777300 rfl (by omega) (by simpa using hl)
  refine ⟨r, hp, ?_⟩
  rw [run_of h]
  simp_arith [fn_law_mixed_up, hv]
  rw [List.map_nil] at hr
  rw [hr]
  simp_arith [List.nil_append]
end OC

/-! Part L36: sets of encoded things. -/
namespace OC
def ddup {α : Type} [DecidableEq α] : List α → List α
  | [] => []
  | x :: xs => x :: (ddup xs).filter fun y => !decide (x = y)
theorem filterD {α : Type} (f : α → D) (p : D → Bool) : ∀ l : List α, (l.map f).filter p = (l.filter fun a => p (f a)).map f
  | [] => rfl
  | a :: l => by
    rw [List.map_cons, List.filter_cons, List.filter_cons, filterD f p l]
    split <;> rfl
theorem dedup_map {α : Type} [DecidableEq α] {f : α → D} {d : Nat} (E : Enc f d) : ∀ xs : List α, dedup (xs.map f) = (ddup xs).map f
  | [] => rfl
  | x :: xs => by
    rw [List.map_cons, dedup, dedup_map E xs, ddup, List.map_cons, filterD]
    congr 2
    apply List.filter_congr
    intro y _
    rw [E.beq]
theorem mem_ddup {α : Type} [DecidableEq α] {y : α} : ∀ {xs : List α}, y ∈ ddup xs ↔ y ∈ xs
  | [] => Iff.rfl
  | x :: xs => by
    rw [ddup, List.mem_cons, List.mem_cons, List.mem_filter, mem_ddup]
    constructor
    · rintro (h | h)
      · exact .inl h
      · exact .inr h.1
    · rintro (h | h)
      · exact .inl h
      · by_cases e : x = y
        · exact .inl e.symm
        · exact .inr ⟨h, by simp [e]⟩
theorem nodup_ddup {α : Type} [DecidableEq α] : ∀ xs : List α, (ddup xs).Nodup
  | [] => List.nodup_nil
  | x :: xs => by
    rw [ddup, List.nodup_cons]
    refine ⟨?_, (nodup_ddup xs).filter _⟩
    rw [List.mem_filter]
    rintro ⟨_, h⟩
    simp at h
theorem ddup_self {α : Type} [DecidableEq α] : ∀ {xs : List α}, xs.Nodup → ddup xs = xs
  | [], _ => rfl
  | x :: xs, h => by
    rw [List.nodup_cons] at h
    rw [ddup, ddup_self h.2, List.filter_eq_self.mpr]
    intro y hy
    have : ¬ x = y := fun e => h.1 (e ▸ hy)
    simp [this]
theorem numsD_map {α : Type} {f : α → D} {n : Nat} (h : ∀ a, numD n (f a) = true) : ∀ xs : List α, numsD n (xs.map f) = true
  | [] => by simp [numsD]
  | x :: xs => by rw [List.map_cons, numsD, h x, numsD_map h xs]; rfl
theorem numD_ni (n k : Nat) : numD n (ni k) = true := by cases n <;> rfl
theorem numD_tup {α : Type} {f : α → D} {n : Nat} (h : ∀ a, numD n (f a) = true) (xs : List α) : numD (n + 1) (tupE f xs) = true := by
  rw [tupE, numD, numsD_map h xs]
theorem tupsB_map {α : Type} {f : α → D} {xs : List (List α)} (h : ∀ x ∈ xs, x ≠ []) : tupsB (xs.map (tupE f)) = true := by
  rw [tupsB, List.all_eq_true]
  intro d hd
  obtain ⟨x, hx, rfl⟩ := List.mem_map.mp hd
  cases x with
  | nil => exact absurd rfl (h [] hx)
  | cons a x => rfl
theorem setOk_map {α : Type} [DecidableEq α] {f : α → D} {d : Nat} (E : Enc (tupE f) d) (hn : ∀ a, numD 7 (f a) = true) {xs : List (List α)} (h : ∀ x ∈ xs, x ≠ []) (hl : (ddup xs).length < 64) : setOk (xs.map (tupE f)) = true := by
  rw [setOk, tupsB_map h, numsD_map (numD_tup hn), dedup_map E, List.length_map, decide_eq_true hl]
  rfl
theorem ssetD_enc {α : Type} [DecidableEq α] {f : α → D} {d : Nat} {lt : List α → List α → Bool} (E : Enc (tupE f) d) (O : OrdE (tupE f) lt) (hd : d ≤ 58) (hn : ∀ a, numD 7 (f a) = true) {xs : List (List α)} (h : ∀ x ∈ xs, x ≠ []) (hl : (ddup xs).length < 64) (v : D) (hv : itemsD v = some (xs.map (tupE f))) (hs : sortable ((ddup xs).map (tupE f)) = true) : ssetD v = .ok (.lst ((sortB lt (ddup xs)).map (tupE f))) := by
  rw [ssetD, hv]
  dsimp only
  rw [R.chk_pos (setOk_map E hn h hl)]
  exact sortedD_enc E O hd hs (by omega) _ (by rw [dedup_map E]; rfl)
theorem lensetD_enc {α : Type} [DecidableEq α] {f : α → D} {d : Nat} (E : Enc (tupE f) d) (hn : ∀ a, numD 7 (f a) = true) {xs : List (List α)} (h : ∀ x ∈ xs, x ≠ []) (hl : (ddup xs).length < 64) (v : D) (hv : itemsD v = some (xs.map (tupE f))) : lensetD v = .ok (ni (ddup xs).length) := by
  rw [lensetD, hv]
  dsimp only
  rw [R.chk_pos (setOk_map E hn h hl), dedup_map E, List.length_map]
  rfl
theorem ssetD_C {xs : List (List Nat)} (h : ∀ x ∈ xs, x ≠ []) (hl : (ddup xs).length < 64) (v : D) (hv : itemsD v = some (xs.map (tupE ni))) : ssetD v = .ok (.lst ((sortB ltC (ddup xs)).map (tupE ni))) :=
  ssetD_enc (f := ni) inferInstance inferInstance (by omega) (numD_ni 7) h hl v hv (sortable_tup fun x hx => h x (mem_ddup.mp hx))
end OC

/-! Part L37: where it leads, again and again; things that lead out rest. -/
namespace OC
section
variable {α : Type} [DecidableEq α] {F : α → α} {H : α → Bool} {lt : α → α → Bool} {c : α}
theorem orbit_ex (U : List α) (hU : ∀ i, iter F c i ∈ U) : ∃ m p, OrbitAt F c m p ∧ m ≤ U.length := by
  have bound : ∀ m, (its F c m).Nodup → m ≤ U.length := by
    intro m hn
    have := nodup_le _ U hn fun y hy => by
      obtain ⟨i, _, rfl⟩ := (mem_its F c).mp hy
      exact hU i
    rwa [its_length] at this
  have go : ∀ n m, (its F c m).Nodup → U.length < n + m → ∃ m p, OrbitAt F c m p ∧ m ≤ U.length := by
    intro n
    induction n with
    | zero =>
      intro m hn hl
      have := bound m hn
      omega
    | succ n ih =>
      intro m hn hl
      by_cases hm : iter F c m ∈ its F c m
      · obtain ⟨p, hp, e⟩ := (mem_its F c).mp hm
        exact ⟨m, p, ⟨hp, hn, e⟩, bound m hn⟩
      · have hn1 : (its F c (m + 1)).Nodup := by
          rw [its_succ, List.nodup_append]
          refine ⟨hn, by simp, ?_⟩
          intro a ha b hb e
          rw [List.mem_singleton] at hb
          subst hb
          exact hm (e ▸ ha)
        exact ih (m + 1) hn1 (by omega)
  exact go (U.length + 1) 0 (by simp [its]) (by omega)
theorem while_led (hfix : ∀ x, H x = false → F x = x) (U : List α) (hU : ∀ i, iter F c i ∈ U) {cond : Env → R D} {body : Env → R Out} (Inv : Nat → Env → Prop) (ret : Nat → D) (hc : ∀ m env, Inv m env → cond env = .ok (.bl (!decide (iter F c m ∈ its F c m)))) (hs : ∀ m env, m < U.length → H (iter F c m) = true → Inv m env → ∃ env', body env = .ok (.nx env') ∧ Inv (m + 1) env') (hr : ∀ m env, m < U.length → H (iter F c m) = false → Inv m env → body env = .ok (.rt (ret m))) :
    ∀ (n m : Nat) (env : Env), Inv m env → (its F c m).Nodup → (∀ i, i < m → H (iter F c i) = true) → U.length < n + m → ∃ m' p, OrbitAt F c m' p ∧ m' ≤ U.length ∧ ((H (iter F c (m' - 1)) = true ∧ ∃ env', whileL cond body n env = .ok (.nx env') ∧ Inv m' env') ∨ (H (iter F c (m' - 1)) = false ∧ whileL cond body n env = .ok (.rt (ret (m' - 1))))) := by
  have bound : ∀ m, (its F c m).Nodup → m ≤ U.length := by
    intro m hn
    have := nodup_le _ U hn fun y hy => by
      obtain ⟨i, _, rfl⟩ := (mem_its F c).mp hy
      exact hU i
    rwa [its_length] at this
  intro n
  induction n with
  | zero =>
    intro m env _ hn _ hl
    have := bound m hn
    omega
  | succ n ih =>
    intro m env hi hn hH hl
    rw [whileL, hc m env hi, R.bind_ok]
    by_cases hm : iter F c m ∈ its F c m
    · obtain ⟨p, hp, e⟩ := (mem_its F c).mp hm
      rw [decide_eq_true hm]
      exact ⟨m, p, ⟨hp, hn, e⟩, bound m hn, .inl ⟨hH _ (by omega), env, rfl, hi⟩⟩
    · rw [decide_eq_false hm]
      have hn1 : (its F c (m + 1)).Nodup := by
        rw [its_succ, List.nodup_append]
        refine ⟨hn, by simp, ?_⟩
        intro a ha b hb e
        rw [List.mem_singleton] at hb
        subst hb
        exact hm (e ▸ ha)
      have hb := bound (m + 1) hn1
      cases hq : H (iter F c m) with
      | false =>
        refine ⟨m + 1, m, ⟨by omega, hn1, ?_⟩, hb, .inr ⟨by rw [show m + 1 - 1 = m by omega]; exact hq, ?_⟩⟩
        · show _ = F (iter F c m)
          rw [hfix _ hq]
        · show R.bind (body env) _ = _
          rw [hr m env (by omega) hq hi, show m + 1 - 1 = m by omega]
          rfl
      | true =>
        obtain ⟨e1, h1, i1⟩ := hs m env (by omega) hq hi
        obtain ⟨m', p, o, hl2, h2⟩ := ih (m + 1) e1 i1 hn1 (by
          intro i hi
          by_cases e : i = m
          · rw [e]; exact hq
          · exact hH i (by omega)) (by omega)
        refine ⟨m', p, o, hl2, ?_⟩
        have e2 : ∀ r, whileL cond body n e1 = r → (match (D.bl !false : D) with
          | .bl true => (body env).bind fun o => match o with
            | .nx e2 => whileL cond body n e2
            | .rt d => .ok (.rt d)
          | .bl false => .ok (.nx env)
          | _ => .bad) = r := by
          intro r h
          show R.bind (body env) _ = _
          rw [h1, R.bind_ok]
          exact h
        rcases h2 with ⟨h3, env', h4, h5⟩ | ⟨h3, h4⟩
        · exact .inl ⟨h3, env', e2 _ h4, h5⟩
        · exact .inr ⟨h3, e2 _ h4⟩
/-! ### the round -/
def cyc (F : α → α) (c : α) (m p : Nat) : List α := (its F c m).drop p
theorem mem_cyc {m p : Nat} {y : α} : y ∈ cyc F c m p ↔ ∃ i, p ≤ i ∧ i < m ∧ y = iter F c i := by
  rw [cyc, List.mem_iff_getElem?]
  constructor
  · rintro ⟨k, hk⟩
    rw [List.getElem?_drop] at hk
    have hkm : p + k < m := by
      have := (List.getElem?_eq_some_iff.mp hk).1
      rw [its_length] at this
      exact this
    rw [its_get F c hkm] at hk
    exact ⟨p + k, by omega, hkm, (Option.some.inj hk).symm⟩
  · rintro ⟨i, h1, h2, rfl⟩
    exact ⟨i - p, by rw [List.getElem?_drop, show p + (i - p) = i by omega, its_get F c h2]⟩
theorem cyc_length (m p : Nat) : (cyc F c m p).length = m - p := by rw [cyc, List.length_drop, its_length]
theorem cyc_nodup {m p : Nat} (o : OrbitAt F c m p) : (cyc F c m p).Nodup := o.nd.sublist (List.drop_sublist _ _)
/-- all but the last have words -/
theorem early {m p : Nat} (hfix : ∀ x, H x = false → F x = x) (o : OrbitAt F c m p) {j : Nat} (hj : j + 1 < m) : H (iter F c j) = true := by
  cases e : H (iter F c j) with
  | true => rfl
  | false =>
    have h1 : iter F c (j + 1) = iter F c j := hfix _ e
    have := its_inj o.nd hj (by omega) h1
    omega
theorem last_out {m p : Nat} (hfix : ∀ x, H x = false → F x = x) (o : OrbitAt F c m p) (h : H (iter F c (m - 1)) = false) : p = m - 1 := by
  have hlt := o.lt
  have h1 : iter F c (m - 1 + 1) = iter F c (m - 1) := hfix _ h
  rw [show m - 1 + 1 = m by omega, ← o.eq] at h1
  exact its_inj o.nd hlt (by omega) h1
theorem cyc_all {m p : Nat} (hfix : ∀ x, H x = false → F x = x) (o : OrbitAt F c m p) : (cyc F c m p).all H = H (iter F c (m - 1)) := by
  have hlt := o.lt
  rw [Bool.eq_iff_iff, List.all_eq_true]
  constructor
  · intro h
    exact h _ (mem_cyc.mpr ⟨m - 1, by omega, by omega, rfl⟩)
  · intro h x hx
    obtain ⟨i, h1, h2, rfl⟩ := mem_cyc.mp hx
    by_cases e : i + 1 < m
    · exact early hfix o e
    · rw [show i = m - 1 by omega]; exact h
theorem all_have {m p : Nat} (hfix : ∀ x, H x = false → F x = x) (o : OrbitAt F c m p) (h : H (iter F c (m - 1)) = true) {i : Nat} (hi : i < m) : H (iter F c i) = true := by
  by_cases e : i + 1 < m
  · exact early hfix o e
  · rw [show i = m - 1 by omega]; exact h
/-- the round begins anew -/
theorem orbit_tail : ∀ {p m : Nat} {c : α}, OrbitAt F c m p → OrbitAt F (iter F c p) (m - p) 0 ∧ its F (iter F c p) (m - p) = cyc F c m p
  | 0, m, c, o => ⟨o, rfl⟩
  | p + 1, m, c, o => by
    have o2 := orbit_next o
    have hlt := o.lt
    obtain ⟨m, rfl⟩ : ∃ k, m = k + 1 := ⟨m - 1, by omega⟩
    obtain ⟨h1, h2⟩ := orbit_tail o2
    rw [show m + 1 - 1 - p = m + 1 - (p + 1) by omega] at h1 h2
    rw [iter_shift] at h1 h2
    refine ⟨h1, h2.trans ?_⟩
    rw [cyc, cyc, show m + 1 - 1 = m by omega, its_shift, List.drop_drop, Nat.add_comm 1 p]
theorem its_rot {k : Nat} (o : OrbitAt F c k 0) : ∀ j, j ≤ k → OrbitAt F (iter F c j) k 0 ∧ its F (iter F c j) k = (its F c k).drop j ++ (its F c k).take j
  | 0, _ => ⟨o, by simp [iter]⟩
  | j + 1, hj => by
    obtain ⟨h1, h2⟩ := its_rot o j (by omega)
    have hl := its_length F c k
    refine ⟨orbit_round h1, ?_⟩
    show its F (F (iter F c j)) k = _
    rw [its_round h1.lt h1.eq, h2, List.drop_append, List.drop_drop, List.length_drop, hl, show 1 - (k - j) = 0 by omega, List.drop_zero, List.append_assoc]
    congr 1
    rw [List.take_succ, its_get F c (by omega)]
    rfl
def leastB (lt : α → α → Bool) (x : α) (xs : List α) : α := xs.foldl (fun m y => if lt y m then y else m) x
theorem leastB_mem (lt : α → α → Bool) : ∀ (xs : List α) (x : α), leastB lt x xs ∈ x :: xs
  | [], x => by simp [leastB]
  | y :: xs, x => by
    have := leastB_mem lt xs (if lt y x then y else x)
    rw [leastB] at this ⊢
    rw [List.foldl_cons]
    rcases List.mem_cons.mp this with h | h
    · rw [h]
      split <;> simp
    · exact List.mem_cons_of_mem _ (List.mem_cons_of_mem _ h)
theorem leastB_le (S : STO lt) : ∀ (xs : List α) (x : α), ∀ y ∈ x :: xs, lt y (leastB lt x xs) = false
  | [], x, y, hy => by
    rw [List.mem_singleton] at hy
    subst hy
    exact S.irr _
  | z :: xs, x, y, hy => by
    have ih := leastB_le S xs (if lt z x then z else x)
    rw [leastB, List.foldl_cons]
    rw [leastB] at ih
    generalize hM : xs.foldl (fun m y => if lt y m then y else m) (if lt z x then z else x) = M at ih
    rcases List.mem_cons.mp hy with rfl | hy
    · cases h : lt z y with
      | false => rw [h] at ih; exact ih y (by simp)
      | true =>
        rw [h] at ih
        cases h2 : lt y M with
        | false => rfl
        | true =>
          have := ih z (by simp)
          rw [S.tr _ _ _ h h2] at this
          cases this
    · rcases List.mem_cons.mp hy with rfl | hy
      · cases h : lt y x with
        | true => rw [h] at ih; exact ih y (by simp)
        | false =>
          rw [h] at ih
          have h3 := ih x (by simp)
          cases h2 : lt y M with
          | false => rfl
          | true =>
            cases h4 : lt M x with
            | true =>
              rw [S.tr _ _ _ h2 h4] at h
              cases h
            | false =>
              have := S.tri _ _ h3 h4
              rw [← this] at h2
              rw [h2] at h
              cases h
      · exact ih y (List.mem_cons_of_mem _ hy)
/-- the least of a list -/
def least? (lt : α → α → Bool) : List α → Option α
  | [] => none
  | x :: xs => some (leastB lt x xs)
theorem least_iff (S : STO lt) {l : List α} {x : α} : least? lt l = some x ↔ x ∈ l ∧ ∀ y ∈ l, lt y x = false := by
  cases l with
  | nil => simp [least?]
  | cons a l =>
    have h1 := leastB_mem lt l a
    have h2 := leastB_le S l a
    rw [least?, Option.some.injEq]
    constructor
    · rintro rfl
      exact ⟨h1, h2⟩
    · rintro ⟨h3, h4⟩
      exact S.tri _ _ (h4 _ h1) (h2 _ h3)
theorem least_perm (S : STO lt) {l k : List α} (h : l.Perm k) : least? lt l = least? lt k := by
  cases e : least? lt l with
  | none =>
    cases l with
    | nil => rw [List.nil_perm.mp h]; rfl
    | cons a l => cases e
  | some x =>
    rw [eq_comm, least_iff S]
    rw [least_iff S] at e
    exact ⟨h.mem_iff.mp e.1, fun y hy => e.2 y (h.mem_iff.mpr hy)⟩
theorem least_some (lt : α → α → Bool) {l : List α} (h : l ≠ []) : ∃ x, least? lt l = some x := by
  cases l with
  | nil => exact absurd rfl h
  | cons a l => exact ⟨_, rfl⟩
end
end OC

/-! Part L38: led, rounds, as plain functions. -/
namespace OC
section
variable {α : Type} [DecidableEq α] {F : α → α} {H : α → Bool} {lt : α → α → Bool} {c : α}
open Classical in
noncomputable def orb (F : α → α) (c : α) : Nat × Nat := if h : ∃ q : Nat × Nat, OrbitAt F c q.1 q.2 then choose h else (0, 0)
theorem orb_eq {m p : Nat} (o : OrbitAt F c m p) : orb F c = (m, p) := by
  have h : ∃ q : Nat × Nat, OrbitAt F c q.1 q.2 := ⟨(m, p), o⟩
  rw [orb, dif_pos h]
  have := (Classical.choose_spec h).uniq o
  exact Prod.ext this.1 this.2
noncomputable def ledL (F : α → α) (c : α) : List α := its F c (orb F c).1
noncomputable def ledP (F : α → α) (c : α) : Nat := (orb F c).2
noncomputable def isIn (F : α → α) (H : α → Bool) (c : α) : Bool := H (iter F c ((orb F c).1 - 1))
noncomputable def cycM (F : α → α) (c : α) : List α := cyc F c (orb F c).1 (orb F c).2
/-- begun with its least -/
def rot (lt : α → α → Bool) (l : List α) : List α := match least? lt l with
  | some x => l.drop (l.idxOf x) ++ l.take (l.idxOf x)
  | none => []
noncomputable def roundM (F : α → α) (H : α → Bool) (lt : α → α → Bool) (c : α) : Option (List α) := if isIn F H c then some (rot lt (cycM F c)) else none
theorem cycM_ne {m p : Nat} (o : OrbitAt F c m p) : cycM F c ≠ [] := by
  intro e
  have h1 := cyc_length (F := F) (c := c) m p
  have hlt := o.lt
  rw [cycM, orb_eq o] at e
  rw [e] at h1
  simp at h1
  omega
/-- a round, from its least on -/
theorem rot_its {m p : Nat} (S : STO lt) (o : OrbitAt F c m p) : ∃ x, least? lt (cycM F c) = some x ∧ x ∈ cycM F c ∧ rot lt (cycM F c) = its F x (m - p) ∧ OrbitAt F x (m - p) 0 := by
  obtain ⟨x, hx⟩ := least_some lt (cycM_ne o)
  have hm := ((least_iff S).mp hx).1
  refine ⟨x, hx, hm, ?_⟩
  rw [rot, hx]
  rw [cycM, orb_eq o] at hm ⊢
  dsimp only at hm ⊢
  obtain ⟨t1, t2⟩ := orbit_tail o
  rw [← t2] at hm ⊢
  obtain ⟨j, hj, rfl⟩ := (mem_its _ _).mp hm
  have hi : (its F (iter F c p) (m - p)).idxOf (iter F (iter F c p) j) = j := by
    have h2 := its_get F (iter F c p) hj
    obtain ⟨h3, h4⟩ := List.getElem?_eq_some_iff.mp h2
    have h5 := List.Nodup.idxOf_getElem t1.nd j h3
    rw [h4] at h5
    exact h5
  rw [hi]
  obtain ⟨r1, r2⟩ := its_rot t1 j (by omega)
  exact ⟨r2.symm, r1⟩
theorem cyc_step {m p : Nat} (S : STO lt) (o : OrbitAt F c m p) : (cycM F (F c)).Perm (cycM F c) := by
  obtain ⟨h1, m', p', o', _⟩ := rnd_step S o
  rw [rnd_eq o', rnd_eq o] at h1
  rw [cycM, cycM, orb_eq o, orb_eq o']
  have := (sortB_perm lt ((its F (F c) m').drop p')).symm
  rw [h1] at this
  exact this.trans (sortB_perm ..)
theorem isIn_all (hfix : ∀ x, H x = false → F x = x) {m p : Nat} (o : OrbitAt F c m p) : isIn F H c = (cycM F c).all H := by
  rw [isIn, cycM, orb_eq o, cyc_all hfix o]
theorem all_perm {l k : List α} (h : l.Perm k) (p : α → Bool) : l.all p = k.all p := by
  rw [Bool.eq_iff_iff, List.all_eq_true, List.all_eq_true]
  exact ⟨fun a x hx => a x (h.mem_iff.mpr hx), fun a x hx => a x (h.mem_iff.mp hx)⟩
theorem rot_congr (S : STO lt) {d : α} {m p m' p' : Nat} (o : OrbitAt F c m p) (o' : OrbitAt F d m' p') (h : (cycM F d).Perm (cycM F c)) : rot lt (cycM F d) = rot lt (cycM F c) := by
  obtain ⟨x, h1, _, h2, _⟩ := rot_its S o
  obtain ⟨y, h3, _, h4, _⟩ := rot_its S o'
  have hl := h.length_eq
  rw [least_perm S h, h1] at h3
  rw [cycM, cycM, orb_eq o, orb_eq o', cyc_length, cyc_length] at hl
  rw [h2, h4, Option.some.inj h3, hl]
theorem round_congr (S : STO lt) (hfix : ∀ x, H x = false → F x = x) {d : α} {m p m' p' : Nat} (o : OrbitAt F c m p) (o' : OrbitAt F d m' p') (h : (cycM F d).Perm (cycM F c)) : isIn F H d = isIn F H c ∧ roundM F H lt d = roundM F H lt c := by
  have h1 : isIn F H d = isIn F H c := by rw [isIn_all hfix o, isIn_all hfix o', all_perm h]
  exact ⟨h1, by rw [roundM, roundM, h1, rot_congr S o o' h]⟩
theorem round_step (S : STO lt) (hfix : ∀ x, H x = false → F x = x) {m p : Nat} (o : OrbitAt F c m p) : isIn F H (F c) = isIn F H c ∧ roundM F H lt (F c) = roundM F H lt c := by
  obtain ⟨_, m', p', o', _⟩ := rnd_step S o
  exact round_congr S hfix o o' (cyc_step S o)
theorem round_iter (S : STO lt) (hfix : ∀ x, H x = false → F x = x) {m p : Nat} (o : OrbitAt F c m p) : ∀ i, isIn F H (iter F c i) = isIn F H c ∧ roundM F H lt (iter F c i) = roundM F H lt c
  | 0 => ⟨rfl, rfl⟩
  | i + 1 => by
    obtain ⟨h1, h2⟩ := round_iter S hfix o i
    obtain ⟨_, m', p', o', _⟩ := rnd_iter (lt := lt) S o i
    obtain ⟨h3, h4⟩ := round_step (lt := lt) S hfix o'
    exact ⟨h3.trans h1, h4.trans h2⟩
/-- what a round is -/
structure IsRound (F : α → α) (H : α → Bool) (lt : α → α → Bool) (r : List α) : Prop where
  ne : r ≠ []
  nd : r.Nodup
  min : least? lt r = r[0]?
  orb : ∀ y ∈ r, OrbitAt F y r.length 0
  have_ : ∀ y ∈ r, H y = true
  back : ∀ y ∈ r, roundM F H lt y = some r
  its : ∀ x, r[0]? = some x → r = OC.its F x r.length
  mem : ∀ y ∈ r, ∀ z, z ∈ OC.its F y r.length ↔ z ∈ r
theorem round_is (S : STO lt) (hfix : ∀ x, H x = false → F x = x) {m p : Nat} (o : OrbitAt F c m p) {r : List α} (h : roundM F H lt c = some r) : IsRound F H lt r ∧ r.length = m - p ∧ (∀ y, y ∈ r ↔ y ∈ cycM F c) := by
  rw [roundM] at h
  cases hin : isIn F H c with
  | false => rw [hin] at h; cases h
  | true =>
    rw [hin] at h
    have hr : rot lt (cycM F c) = r := Option.some.inj h
    obtain ⟨x, h1, h2, h3, h4⟩ := rot_its S o
    have hlt := o.lt
    have hlen : r.length = m - p := by rw [← hr, h3, its_length]
    have hmem : ∀ y, y ∈ r ↔ y ∈ cycM F c := by
      intro y
      rw [← hr, rot, h1, List.mem_append, ← List.mem_append]
      rw [List.mem_append, or_comm, ← List.mem_append, List.take_append_drop]
    have h0 : r[0]? = some x := by rw [← hr, h3]; exact its_get F x (by omega)
    have hall : ∀ y ∈ r, H y = true := by
      intro y hy
      rw [isIn_all hfix o, List.all_eq_true] at hin
      exact hin y ((hmem y).mp hy)
    have hnd : r.Nodup := by rw [← hr, h3]; exact h4.nd
    have hrx : r = its F x r.length := by rw [hlen, ← h3, hr]
    have horb : ∀ y ∈ r, OrbitAt F y r.length 0 ∧ (its F y r.length).Perm r := by
      intro y hy
      have hy2 := hy
      rw [hrx] at hy2
      obtain ⟨j, hj, rfl⟩ := (mem_its _ _).mp hy2
      rw [← hlen] at h4
      obtain ⟨r1, r2⟩ := its_rot h4 j (by omega)
      refine ⟨r1, ?_⟩
      rw [r2, ← hrx]
      exact List.perm_append_comm.trans (by rw [List.take_append_drop])
    refine ⟨⟨?_, hnd, ?_, fun y hy => (horb y hy).1, hall, ?_, ?_, fun y hy z => (horb y hy).2.mem_iff⟩, hlen, hmem⟩
    · intro e
      rw [e] at hlen
      simp at hlen
      omega
    · rw [h0, least_iff S]
      rw [least_iff S] at h1
      exact ⟨(hmem x).mpr h1.1, fun y hy => h1.2 y ((hmem y).mp hy)⟩
    · intro y hy
      obtain ⟨o2, hp⟩ := horb y hy
      have : (cycM F y).Perm (cycM F c) := by
        rw [cycM, orb_eq o2, cyc, List.drop_zero]
        refine hp.trans ?_
        have hc2 : r.Perm (cycM F c) := by
          rw [← hr, rot, h1]
          exact List.perm_append_comm.trans (by rw [List.take_append_drop])
        exact hc2
      rw [(round_congr S hfix o o2 this).2, roundM, hin, ← hr]
      rfl
    · intro z hz
      rw [h0] at hz
      rw [← Option.some.inj hz]
      exact hrx
end
end OC

/-! Part L39: counts led on. -/
namespace OC
local macro_rules
  | `(tactic| simp_arith [$args,*]) => `(tactic| simp -implicitDefEqProofs only [callFn_eq, doneK_rt, startEnv, evSs_nil, evSs_cons, thenS_nx, thenS_rt, evS_ret, retK_eq, nxK_eq, evS_asg, asgK_eq, evS_asgF, asgFK_eq, evS_move, moveK_eq, evS_own, ownK_eq, evS_app, appK_eq, evS_ext, extK_l, extK_t, evS_setI, evS_ifS, ifK_t, ifK_f, evS_forS, forK_eq, evS_forM, forMK_eq, evS_whl, evS_nop, ev_var, ev_cst, ev_glb, ev_o1, ev_o2, ev_o3, ev_and, ev_or, ev_chain, ev_tup, ev_lst, ev_call, ev_comp, evs_nil, evs_cons, andK_t, andK_f, orK_t, orK_f, chain1_eq, chainK_t, chainK_f, compK_eq, R.b2_ok, R.b3_ok, R.rcons_ok, List.map_cons, List.map_nil, List.length_cons, List.length_nil, List.length_map, List.replicate, List.cons_append, List.nil_append, R.bind_ok, getV_z, getV_s, bindT_nm, bindT_p2, bindT_p3, Nat.reduceAdd, Nat.reduceSub, Nat.reduceLT, Nat.reduceEqDiff, decide_true, decide_false, R.chk_true, put_s, put_z, T.slots, wipeE, List.set_cons_zero, List.set_cons_succ, Bool.not_true, Bool.not_false, Bool.and_true, Bool.true_and, Bool.or_false, Bool.false_or, ltD_ni, gtD_ni, geD_ni, leD_ni, eqD_ni, neD_ni, addD_ni, lenD_lst, lenD_tup, lenD_scr, tupleD_lst, tupleD_tup, listD_lst, listD_tup, notD_bl, walk_lst, walk_tup, mkT_ok, mkL_ok, modD_ni, fdivD_ni, mulD_l, mulD_r, Nat.reduceLeDiff, eqD_bl, neD_bl, isBool_bl, isTrue_bl, notTrue_bl, isFalse_bl, notFalse_bl, op2_add, op2_sub, op2_mul, op2_fdiv, op2_mod, op2_pow, op2_eq, op2_ne, op2_le, op2_isin, op2_notin, op2_item, op2_count, op2_index, op2_join, op2_split, op2_min2, op2_max2, op2_from_, op2_upto, op1_neg, op1_len, op1_tuple, op1_list, op1_sorted, op1_sum, op1_min, op1_max, op1_all, op1_str, op1_int, op1_rev, op1_step2, op1_sset, op1_listRange, op1_lenset, op1_upper, op1_sortedS, op1_ssetS, op1_intS, op1_not, $args,*])
variable {P : Prog}
theorem inB_repL {n : Nat} (hn : 1 ≤ n) : ∀ (w : Nat) (c : List Nat), inB (List.replicate w (0, n - 1)) c = true ↔ c.length = w ∧ ∀ k ∈ c, k < n
  | 0, [] => by simp [inB]
  | 0, _ :: _ => by simp [inB]
  | w + 1, [] => by simp [inB, List.replicate_succ]
  | w + 1, k :: c => by
    have ih := inB_repL hn w c
    simp only [List.replicate_succ, inB, Bool.and_eq_true, decide_eq_true_eq, ih, List.length_cons, List.mem_cons]
    constructor
    · rintro ⟨h1, h2, h3⟩
      refine ⟨by omega, fun j hj => ?_⟩
      rcases hj with rfl | hj
      · omega
      · exact h3 j hj
    · rintro ⟨h1, h2⟩
      exact ⟨⟨Nat.zero_le _, by have := h2 k (.inl rfl); omega⟩, by omega, fun j hj => h2 j (.inr hj)⟩
abbrev allM (s : Sheet) : List (List Nat) := allIn (wholeBox s)
theorem mem_all {s : Sheet} (g : GS s) {c : List Nat} : c ∈ allM s ↔ c.length = s.wide ∧ haveW s c = true := by
  rw [allM, mem_allIn, wholeBox, inB_repL g.n1, haveW, List.all_eq_true]
  simp only [decide_eq_true_eq]
/-- one step; what has no words rests -/
def stepM (s : Sheet) (c : List Nat) : List Nat := if haveW s c then realM s c else c
theorem step_fix (s : Sheet) : ∀ x, haveW s x = false → stepM s x = x := fun x h => by rw [stepM, h]; rfl
theorem step_have {s : Sheet} {x : List Nat} (h : haveW s x = true) : stepM s x = realM s x := by rw [stepM, h]; rfl
theorem step_len {s : Sheet} (g : GS s) {x : List Nat} (h : x.length = s.wide) : (stepM s x).length = s.wide := by
  rw [stepM]
  split
  · exact realM_len g x
  · exact h
theorem iterS_len {s : Sheet} (g : GS s) {c : List Nat} (h : c.length = s.wide) : ∀ i, (iter (stepM s) c i).length = s.wide
  | 0 => h
  | i + 1 => step_len g (iterS_len g h i)
def ledU (s : Sheet) (c : List Nat) : List (List Nat) := c :: (allM s).map (realM s)
theorem mem_ledU {s : Sheet} (g : GS s) {c : List Nat} (h : c.length = s.wide) : ∀ i, iter (stepM s) c i ∈ ledU s c
  | 0 => by simp [ledU, iter]
  | i + 1 => by
    show stepM s (iter (stepM s) c i) ∈ _
    rw [stepM]
    split
    · rename_i hw
      exact List.mem_cons_of_mem _ (List.mem_map.mpr ⟨_, (mem_all g).mpr ⟨iterS_len g h i, hw⟩, rfl⟩)
    · exact mem_ledU g h i
theorem ledU_len {s : Sheet} (g : GS s) (c : List Nat) : (ledU s c).length ≤ 1000001 := by
  have : (allM s).length ≤ 1000000 := allIn_lim g (GB.whole g)
  rw [ledU, List.length_cons, List.length_map]
  omega
theorem orbS {s : Sheet} (g : GS s) {c : List Nat} (h : c.length = s.wide) : ∃ m p, OrbitAt (stepM s) c m p ∧ m ≤ 1000001 := by
  obtain ⟨m, p, o, hm⟩ := orbit_ex (F := stepM s) (c := c) (ledU s c) (mem_ledU g h)
  have := ledU_len g c
  exact ⟨m, p, o, by omega⟩
noncomputable abbrev ledS (s : Sheet) (c : List Nat) : List (List Nat) := ledL (stepM s) c
noncomputable abbrev insS (s : Sheet) (c : List Nat) : Bool := isIn (stepM s) (haveW s) c
noncomputable abbrev placeS (s : Sheet) (c : List Nat) : Nat := ledP (stepM s) c
noncomputable abbrev roundS (s : Sheet) (c : List Nat) : Option (List (List Nat)) := roundM (stepM s) (haveW s) ltC c
def optT {α : Type} (f : α → D) : Option α → D
  | none => .non
  | some a => f a
noncomputable def placeO (s : Sheet) (c : List Nat) : Option Nat := if insS s c then some (placeS s c) else none
noncomputable def ledD (s : Sheet) (c : List Nat) : D := .tup [.tup ((ledS s c).map (tupE ni)), optT ni (placeO s c)]
structure LB (P : Prog) : Prop where
  led : P "led" = some fn_led
  ac : P "all_counts" = some fn_all_counts
  ai : P "all_in" = some fn_all_in
  wb : P "whole_box" = some fn_whole_box
  hw : P "have_words" = some fn_have_words
  tx : P "text_of" = some fn_text_of
  re : P "real" = some fn_real
theorem led_run (h : P "led" = some fn_led) (h1 : P "have_words" = some fn_have_words) (h2 : P "text_of" = some fn_text_of) (h3 : P "real" = some fn_real) (n : Nat) {s : Sheet} (g : GS s) {c : List Nat} (hc : c.length = s.wide) : run P (n+4) "led" [shD s, tupE ni c] = .ok (ledD s c) := by
  have hU := ledU_len g c
  have h3w := g.w3
  have hil := iterS_len g hc
  obtain ⟨m, p, o, hm, hw⟩ := while_led (F := stepM s) (H := haveW s) (c := c) (step_fix s) (ledU s c) (mem_ledU g hc) (cond := fun e1 => ev (run P (n + 3)) e1 (.o2 .notin (.var 1) (.var 2))) (body := evSs (run P (n + 3)) [.app 2 (.var 1), .ifS (.o1 .not (.call "have_words" [.var 0, .var 1])) [.ret (.tup [.o1 .tuple (.var 2), .cst .non])] [], .asg (.nm 1) (.call "real" [.var 0, .var 1])])
    (fun m env => env = [some (shD s), some (tupE ni (iter (stepM s) c m)), some (.lst ((its (stepM s) c m).map (tupE ni)))])
    (fun m => .tup [.tup ((its (stepM s) c (m + 1)).map (tupE ni)), .non])
    (by
      intro m env e
      subst e
      simp_arith [notinD_lst (f := tupE ni) (show 0 + 1 ≤ 59 by omega)])
    (by
      intro m env hm hH e
      subst e
      refine ⟨_, ?_, rfl⟩
      have hhw := have_words_run (P := P) h1 (n+2) s (iter (stepM s) c m) (by rw [hil]; omega)
      rw [hH] at hhw
      have hre := real_run (P := P) h3 h2 h1 n g (c := iter (stepM s) c m) (by rw [hil]; omega) hH
      rw [← step_have hH] at hre
      simp_arith [its_length, limlt_of (show m < 16777216 by omega), hhw, hre, its_succ, List.map_append]
      rfl)
    (by
      intro m env hm hH e
      subst e
      have hhw := have_words_run (P := P) h1 (n+2) s (iter (stepM s) c m) (by rw [hil]; omega)
      rw [hH] at hhw
      simp_arith [its_length, limlt_of (show m < 16777216 by omega), hhw, its_succ, List.map_append])
    16777300 0 [some (shD s), some (tupE ni c), some (.lst [])] rfl (by simp [its]) (by intro i hi; omega) (by omega)
  rw [run_of h]
  have ho := orb_eq o
  have hlt := o.lt
  rcases hw with ⟨hH, env', hw, rfl⟩ | ⟨hH, hw⟩
  · have hw2 : whlK (run P (n + 3)) 16777300 (.o2 .notin (.var 1) (.var 2)) [.app 2 (.var 1), .ifS (.o1 .not (.call "have_words" [.var 0, .var 1])) [.ret (.tup [.o1 .tuple (.var 2), .cst .non])] [], .asg (.nm 1) (.call "real" [.var 0, .var 1])] [some (shD s), some (tupE ni c), some (.lst [])] = .ok (.nx [some (shD s), some (tupE ni (iter (stepM s) c m)), some (.lst ((its (stepM s) c m).map (tupE ni)))]) := hw
    simp_arith [fn_led, hw2, indexD_lst (f := tupE ni) (show 0 + 1 ≤ 59 by omega) _ _ o.mem, o.idx]
    rw [ledD, placeO, insS, isIn, ho, hH, if_pos rfl, ledS, ledL, ho, placeS, ledP, ho]
    rfl
  · have hw2 : whlK (run P (n + 3)) 16777300 (.o2 .notin (.var 1) (.var 2)) [.app 2 (.var 1), .ifS (.o1 .not (.call "have_words" [.var 0, .var 1])) [.ret (.tup [.o1 .tuple (.var 2), .cst .non])] [], .asg (.nm 1) (.call "real" [.var 0, .var 1])] [some (shD s), some (tupE ni c), some (.lst [])] = .ok (.rt (.tup [.tup ((its (stepM s) c (m - 1 + 1)).map (tupE ni)), .non])) := hw
    simp_arith [fn_led, hw2]
    rw [ledD, placeO, insS, isIn, ho, hH, ledS, ledL, ho, show m - 1 + 1 = m by omega]
    rfl
/-- the law's own -/
theorem law_led_run (h : P "_law_led" = some fn_law_led_k30) (h1 : P "_law_have" = some fn_law_have) (h3 : P "_law_real" = some fn_law_real) (n : Nat) {s : Sheet} (g : GS s) {c : List Nat} (hc : c.length = s.wide) : run P (n+2) "_law_led" [shD s, tupE ni c] = .ok (ledD s c) := by
  have hU := ledU_len g c
  have h3w := g.w3
  have hil := iterS_len g hc
  obtain ⟨m, p, o, hm, hw⟩ := while_led (F := stepM s) (H := haveW s) (c := c) (step_fix s) (ledU s c) (mem_ledU g hc) (cond := fun e1 => ev (run P (n + 1)) e1 (.o2 .notin (.var 1) (.var 2))) (body := evSs (run P (n + 1)) [.asg (.nm 2) (.o2 .add (.var 2) (.tup [.var 1])), .ifS (.o1 .not (.call "_law_have" [.var 0, .var 1])) [.ret (.tup [.var 2, .cst .non])] [], .asg (.nm 1) (.call "_law_real" [.var 0, .var 1])])
    (fun m env => env = [some (shD s), some (tupE ni (iter (stepM s) c m)), some (.tup ((its (stepM s) c m).map (tupE ni)))])
    (fun m => .tup [.tup ((its (stepM s) c (m + 1)).map (tupE ni)), .non])
    (by
      intro m env e
      subst e
      simp_arith [notinD_tup (f := tupE ni) (show 0 + 1 ≤ 59 by omega)])
    (by
      intro m env hm hH e
      subst e
      refine ⟨_, ?_, rfl⟩
      have hhw := law_have_run (P := P) h1 n s (c := iter (stepM s) c m) (by rw [hil]; omega)
      rw [hH] at hhw
      have hre := law_real_run (P := P) h3 n g (c := iter (stepM s) c m) (by rw [hil]; omega) hH
      rw [← step_have hH] at hre
      simp_arith [addD_tup (xs := (its (stepM s) c m).map (tupE ni)) (ys := [tupE ni (iter (stepM s) c m)]) (by rw [List.length_map, its_length]; show m + 1 ≤ 16777216; omega), hhw, hre, its_succ, List.map_append]
      rfl)
    (by
      intro m env hm hH e
      subst e
      have hhw := law_have_run (P := P) h1 n s (c := iter (stepM s) c m) (by rw [hil]; omega)
      rw [hH] at hhw
      simp_arith [addD_tup (xs := (its (stepM s) c m).map (tupE ni)) (ys := [tupE ni (iter (stepM s) c m)]) (by rw [List.length_map, its_length]; show m + 1 ≤ 16777216; omega), hhw, its_succ, List.map_append])
    16777300 0 [some (shD s), some (tupE ni c), some (.tup [])] rfl (by simp [its]) (by intro i hi; omega) (by omega)
  rw [run_of h]
  have ho := orb_eq o
  have hlt := o.lt
  rcases hw with ⟨hH, env', hw, rfl⟩ | ⟨hH, hw⟩
  · have hw2 : whlK (run P (n + 1)) 16777300 (.o2 .notin (.var 1) (.var 2)) [.asg (.nm 2) (.o2 .add (.var 2) (.tup [.var 1])), .ifS (.o1 .not (.call "_law_have" [.var 0, .var 1])) [.ret (.tup [.var 2, .cst .non])] [], .asg (.nm 1) (.call "_law_real" [.var 0, .var 1])] [some (shD s), some (tupE ni c), some (.tup [])] = .ok (.nx [some (shD s), some (tupE ni (iter (stepM s) c m)), some (.tup ((its (stepM s) c m).map (tupE ni)))]) := hw
    simp_arith [fn_law_led_k30, hw2, indexD_tup (f := tupE ni) (show 0 + 1 ≤ 59 by omega) _ _ o.mem, o.idx]
    rw [ledD, placeO, insS, isIn, ho, hH, if_pos rfl, ledS, ledL, ho, placeS, ledP, ho]
    rfl
  · have hw2 : whlK (run P (n + 1)) 16777300 (.o2 .notin (.var 1) (.var 2)) [.asg (.nm 2) (.o2 .add (.var 2) (.tup [.var 1])), .ifS (.o1 .not (.call "_law_have" [.var 0, .var 1])) [.ret (.tup [.var 2, .cst .non])] [], .asg (.nm 1) (.call "_law_real" [.var 0, .var 1])] [some (shD s), some (tupE ni c), some (.tup [])] = .ok (.rt (.tup [.tup ((its (stepM s) c (m - 1 + 1)).map (tupE ni)), .non])) := hw
    simp_arith [fn_law_led_k30, hw2]
    rw [ledD, placeO, insS, isIn, ho, hH, ledS, ledL, ho, show m - 1 + 1 = m by omega]
    rfl
end OC

/-! Part L40: ends, rounds. -/
namespace OC
local macro_rules
  | `(tactic| simp_arith [$args,*]) => `(tactic| simp -implicitDefEqProofs only [callFn_eq, doneK_rt, startEnv, evSs_nil, evSs_cons, thenS_nx, thenS_rt, evS_ret, retK_eq, nxK_eq, evS_asg, asgK_eq, evS_asgF, asgFK_eq, evS_move, moveK_eq, evS_own, ownK_eq, evS_app, appK_eq, evS_ext, extK_l, extK_t, evS_setI, evS_ifS, ifK_t, ifK_f, evS_forS, forK_eq, evS_forM, forMK_eq, evS_whl, evS_nop, ev_var, ev_cst, ev_glb, ev_o1, ev_o2, ev_o3, ev_and, ev_or, ev_chain, ev_tup, ev_lst, ev_call, ev_comp, evs_nil, evs_cons, andK_t, andK_f, orK_t, orK_f, chain1_eq, chainK_t, chainK_f, compK_eq, R.b2_ok, R.b3_ok, R.rcons_ok, List.map_cons, List.map_nil, List.length_cons, List.length_nil, List.length_map, List.replicate, List.cons_append, List.nil_append, R.bind_ok, getV_z, getV_s, bindT_nm, bindT_p2, bindT_p3, Nat.reduceAdd, Nat.reduceSub, Nat.reduceLT, Nat.reduceEqDiff, decide_true, decide_false, R.chk_true, put_s, put_z, T.slots, wipeE, List.set_cons_zero, List.set_cons_succ, Bool.not_true, Bool.not_false, Bool.and_true, Bool.true_and, Bool.or_false, Bool.false_or, ltD_ni, gtD_ni, geD_ni, leD_ni, eqD_ni, neD_ni, addD_ni, lenD_lst, lenD_tup, lenD_scr, tupleD_lst, tupleD_tup, listD_lst, listD_tup, notD_bl, walk_lst, walk_tup, mkT_ok, mkL_ok, modD_ni, fdivD_ni, mulD_l, mulD_r, Nat.reduceLeDiff, eqD_bl, neD_bl, isBool_bl, isTrue_bl, notTrue_bl, isFalse_bl, notFalse_bl, op2_add, op2_sub, op2_mul, op2_fdiv, op2_mod, op2_pow, op2_eq, op2_ne, op2_le, op2_isin, op2_notin, op2_item, op2_count, op2_index, op2_join, op2_split, op2_min2, op2_max2, op2_from_, op2_upto, op1_neg, op1_len, op1_tuple, op1_list, op1_sorted, op1_sum, op1_min, op1_max, op1_all, op1_str, op1_int, op1_rev, op1_step2, op1_sset, op1_listRange, op1_lenset, op1_upper, op1_sortedS, op1_ssetS, op1_intS, op1_not, $args,*])
variable {P : Prog}
theorem all_counts_run (b : LB P) (n : Nat) {s : Sheet} (g : GS s) : run P (n+2) "all_counts" [shD s] = .ok (.lst ((allM s).map (tupE ni))) := by
  rw [run_of b.ac]
  simp_arith [fn_all_counts, whole_box_run b.wb n g, all_in_run b.ai n _ (GB.l3 g (GB.whole g)) (GB.hh g (GB.whole g))]
theorem allM_lim {s : Sheet} (g : GS s) : (allM s).length ≤ 16777216 := by
  have : (allM s).length ≤ 1000000 := allIn_lim g (GB.whole g)
  omega
theorem isNone_t {α : Type} (f : List α → D) (o : Option (List α)) (hf : ∀ a, ∃ xs, f a = .tup xs) : op1 .isNone (optT f o) = .ok (.bl o.isNone) := by
  cases o with
  | none => rfl
  | some a =>
    obtain ⟨xs, h⟩ := hf a
    rw [optT, h]
    rfl
theorem notNone_t {α : Type} (f : List α → D) (o : Option (List α)) (hf : ∀ a, ∃ xs, f a = .tup xs) : op1 .notNone (optT f o) = .ok (.bl o.isSome) := by
  cases o with
  | none => rfl
  | some a =>
    obtain ⟨xs, h⟩ := hf a
    rw [optT, h]
    rfl
theorem isNone_n (o : Option Nat) : op1 .isNone (optT ni o) = .ok (.bl o.isNone) := by cases o <;> rfl
theorem notNone_n (o : Option Nat) : op1 .notNone (optT ni o) = .ok (.bl o.isSome) := by cases o <;> rfl
instance encOptT {α : Type} {f : α → D} {d : Nat} [E : Enc (tupE f) d] : Enc (optT (tupE f)) d := ⟨fun n a h => by
  cases a with
  | none => cases n <;> rfl
  | some a => exact E.cmp n a h, fun a b => by
  cases a with
  | none =>
    cases b with
    | none => simp [optT, D.eqv]
    | some b => simp [optT, tupE, D.eqv]
  | some a =>
    cases b with
    | none => simp [optT, tupE, D.eqv]
    | some b => rw [optT, optT, E.eqv]; simp⟩
instance encOptN : Enc (optT ni) 0 := ⟨fun n a h => by
  cases a with
  | none => cases n <;> rfl
  | some a => exact (inferInstance : Enc ni 0).cmp n a h, fun a b => by
  cases a with
  | none =>
    cases b with
    | none => simp [optT, D.eqv]
    | some b => simp [optT, ni, D.eqv]
  | some a =>
    cases b with
    | none => simp [optT, ni, D.eqv]
    | some b => rw [optT, optT, (inferInstance : Enc ni 0).eqv]; simp⟩
theorem minL_enc {α : Type} {f : α → D} {lt : α → α → Bool} (O : OrdE f lt) : ∀ (xs : List α) (m : α), minL (xs.map f) (f m) = f (leastB lt m xs)
  | [], m => rfl
  | x :: xs, m => by
    rw [List.map_cons, minL, O.lt, leastB, List.foldl_cons]
    by_cases h : lt x m = true
    · rw [if_pos h, if_pos h]; exact minL_enc O xs x
    · rw [if_neg h, if_neg h]; exact minL_enc O xs m
theorem minD_enc {α : Type} {f : α → D} {lt : α → α → Bool} {d : Nat} (E1 : Enc f d) (O : OrdE f lt) (hd : d ≤ 58) {v : D} {l : List α} (hv : itemsD v = some (l.map f)) {x : α} (hl : least? lt l = some x) : minD v = .ok (f x) := by
  cases l with
  | nil => cases hl
  | cons a l =>
    have a1 := alikeAll_enc O (a :: l)
    have c := E1.cmps hd (a :: l)
    rw [least?] at hl
    rw [← Option.some.inj hl]
    simp only [List.map_cons] at a1 c hv
    simp only [minD, hv, a1, c, minL_enc O]
    rfl
theorem rot_index {α : Type} [DecidableEq α] {f : α → D} {d : Nat} [E : Enc f d] (hd : d ≤ 59) {lt : α → α → Bool} {l : List α} {x : α} (hx : least? lt l = some x) (hm : x ∈ l) : ∃ j, j < l.length ∧ l[j]? = some x ∧ rot lt l = l.drop j ++ l.take j ∧ indexD (.tup (l.map f)) (f x) = .ok (ni j) := by
  have hil := List.idxOf_lt_length_of_mem hm
  refine ⟨l.idxOf x, hil, ?_, ?_, indexD_tup hd x l hm⟩
  · rw [List.getElem?_eq_getElem hil, List.getElem_idxOf]
  · rw [rot, hx]
theorem index_at {α : Type} [DecidableEq α] {f : α → D} {d : Nat} [E : Enc f d] (hd : d ≤ 59) {l : List α} {x : α} {i : Nat} (hn : l.Nodup) (hi : l[i]? = some x) : indexD (.tup (l.map f)) (f x) = .ok (ni i) := by
  obtain ⟨e2, e3⟩ := List.getElem?_eq_some_iff.mp hi
  have := List.Nodup.idxOf_getElem hn _ e2
  rw [e3] at this
  rw [indexD_tup hd x l (List.mem_of_getElem? hi), this]
theorem cycS {s : Sheet} {c : List Nat} : (ledS s c).drop (placeS s c) = cycM (stepM s) c := rfl
/-- how it ends -/
noncomputable def endS (s : Sheet) (c : List Nat) : List Nat := if insS s c then (if placeS s c = (ledS s c).length - 1 then [114, 101, 115, 116] else [114, 111, 117, 110, 100]) else [111, 117, 116]
theorem ledS_pos {s : Sheet} (g : GS s) {c : List Nat} (hc : c.length = s.wide) : 1 ≤ (ledS s c).length ∧ placeS s c < (ledS s c).length ∧ (ledS s c).length ≤ 1000001 := by
  obtain ⟨m, p, o, hm⟩ := orbS g hc
  have hlt := o.lt
  rw [ledS, ledL, placeS, ledP, orb_eq o, its_length]
  dsimp only
  omega
theorem end_run (b : LB P) (h : P "end" = some fn_end) (n : Nat) {s : Sheet} (g : GS s) {c : List Nat} (hc : c.length = s.wide) : run P (n+5) "end" [shD s, tupE ni c] = .ok (.str (endS s c)) := by
  rw [run_of h]
  have hl := led_run b.led b.hw b.tx b.re n g hc
  obtain ⟨h1, h2, h3⟩ := ledS_pos g hc
  cases hin : insS s c with
  | false =>
    rw [ledD, placeO, hin] at hl
    simp_arith [fn_end, hl, isNone_n, optT]
    rw [endS, hin]
    rfl
  | true =>
    rw [ledD, placeO, hin] at hl
    simp_arith [fn_end, hl, if_true, optT, show op1 .isNone (ni (placeS s c)) = .ok (.bl false) from rfl, subD_ni h1]
    rw [endS, hin, if_pos rfl]
    by_cases e : placeS s c = (ledS s c).length - 1
    · rw [if_pos e]
      simp_arith [e]
    · rw [if_neg e]
      simp_arith [e]
abbrev rD : Option (List (List Nat)) → D := optT (tupE (tupE ni))
theorem round_from_run (b : LB P) (h : P "round_from" = some fn_round_from) (n : Nat) {s : Sheet} (g : GS s) {c : List Nat} (hc : c.length = s.wide) : run P (n+5) "round_from" [shD s, tupE ni c] = .ok (rD (roundS s c)) := by
  rw [run_of h]
  have hl := led_run b.led b.hw b.tx b.re n g hc
  obtain ⟨h1, h2, h3⟩ := ledS_pos g hc
  cases hin : insS s c with
  | false =>
    rw [ledD, placeO, hin] at hl
    simp_arith [fn_round_from, hl, isNone_n, optT]
    rw [roundS, roundM, show isIn (stepM s) (haveW s) c = false from hin]
    rfl
  | true =>
    rw [ledD, placeO, hin] at hl
    obtain ⟨m, p, o, hm⟩ := orbS g hc
    obtain ⟨x, hx, hxm, hr, _⟩ := rot_its (lt := ltC) stoC o
    have hcl : (cycM (stepM s) c).length ≤ 1000001 := by
      rw [← cycS, List.length_drop]
      omega
    have hmin : minD (.tup ((cycM (stepM s) c).map (tupE ni))) = .ok (tupE ni x) := minD_enc (f := tupE ni) inferInstance inferInstance (by omega) rfl hx
    obtain ⟨j, hj, hjx, hrot, hidx⟩ := rot_index (f := tupE ni) (by omega) hx hxm
    simp_arith [fn_round_from, hl, if_true, optT, show op1 .isNone (ni (placeS s c)) = .ok (.bl false) from rfl, fromD_tup (xs := (ledS s c).map (tupE ni)) (show placeS s c ≤ _ by rw [List.length_map]; omega), ← List.map_drop, cycS, hmin, hidx, fromD_tup (xs := (cycM (stepM s) c).map (tupE ni)) (show j ≤ _ by rw [List.length_map]; omega), uptoD_tup, ← List.map_take]
    rw [addD_tup (by simp only [List.length_map, List.length_drop, List.length_take]; show _ ≤ 16777216; omega), ← List.map_append]
    rw [roundS, roundM, show isIn (stepM s) (haveW s) c = true from hin, if_pos rfl, hrot]
    rfl
theorem law_round_run (h : P "_law_round" = some fn_law_round) (h0 : P "_law_led" = some fn_law_led_k30) (h1 : P "_law_have" = some fn_law_have) (h3 : P "_law_real" = some fn_law_real) (n : Nat) {s : Sheet} (g : GS s) {c : List Nat} (hc : c.length = s.wide) : run P (n+3) "_law_round" [shD s, tupE ni c] = .ok (rD (roundS s c)) := by
  rw [run_of h]
  have hl := law_led_run h0 h1 h3 n g hc
  obtain ⟨h1, h2, h3⟩ := ledS_pos g hc
  cases hin : insS s c with
  | false =>
    rw [ledD, placeO, hin] at hl
    simp_arith [fn_law_round, hl, isNone_n, optT]
    rw [roundS, roundM, show isIn (stepM s) (haveW s) c = false from hin]
    rfl
  | true =>
    rw [ledD, placeO, hin] at hl
    obtain ⟨m, p, o, hm⟩ := orbS g hc
    obtain ⟨x, hx, hxm, hr, _⟩ := rot_its (lt := ltC) stoC o
    have hmin : minD (.tup ((cycM (stepM s) c).map (tupE ni))) = .ok (tupE ni x) := minD_enc (f := tupE ni) inferInstance inferInstance (by omega) rfl hx
    obtain ⟨j, hj, hjx, hrot, _⟩ := rot_index (f := tupE ni) (by omega) hx hxm
    have hnd : (ledS s c).Nodup := by rw [ledS, ledL, orb_eq o]; exact o.nd
    have e1 : (ledS s c)[placeS s c + j]? = some x := by
      rw [← List.getElem?_drop, cycS, hjx]
    have hidx := index_at (f := tupE ni) (by omega) hnd e1
    have hcl : (cycM (stepM s) c).length = (ledS s c).length - placeS s c := by
      rw [← cycS, List.length_drop]
    simp_arith [fn_law_round, hl, if_true, optT, show op1 .isNone (ni (placeS s c)) = .ok (.bl false) from rfl, fromD_tup (xs := (ledS s c).map (tupE ni)) (show placeS s c ≤ _ by rw [List.length_map]; omega), ← List.map_drop, cycS, hmin, hidx, fromD_tup (xs := (ledS s c).map (tupE ni)) (show placeS s c + j ≤ _ by rw [List.length_map]; omega), cut_tup, ← List.map_take]
    rw [addD_tup (by simp only [List.length_map, List.length_drop, List.length_take]; show _ ≤ 16777216; omega), ← List.map_append]
    rw [roundS, roundM, show isIn (stepM s) (haveW s) c = true from hin, if_pos rfl, hrot, show placeS s c + j - placeS s c = j by omega, ← List.drop_drop, cycS]
    rfl
theorem leading_run (b : LB P) (h : P "leading" = some fn_leading) (n : Nat) {s : Sheet} (g : GS s) (c : List Nat) : run P (n+4) "leading" [shD s, tupE ni c] = .ok (.tup (((allM s).filter fun x => decide (realM s x = c)).map (tupE ni))) := by
  rw [run_of h]
  have h3 := g.w3
  simp_arith [fn_leading, all_counts_run b (n+1) g]
  rw [compI_q (tupE ni) (fun x => decide (realM s x = c)) (tupE ni) (allM_lim g)]
  · simp_arith []
  · intro x hx
    obtain ⟨h1, h2⟩ := (mem_all g).mp hx
    simp_arith [real_run b.re b.tx b.hw n g (c := x) (by omega) h2, eqD_enc (f := tupE ni) (show 0 + 1 ≤ 60 by omega)]
  · intro x _ _
    simp_arith []
theorem drawn_in_run (b : LB P) (h : P "drawn_in" = some fn_drawn_in) (h1 : P "round_from" = some fn_round_from) (n : Nat) {s : Sheet} (g : GS s) (r : List (List Nat)) : run P (n+6) "drawn_in" [shD s, tupE (tupE ni) r] = .ok (ni ((allM s).countP fun x => decide (roundS s x = some r))) := by
  rw [run_of h]
  simp_arith [fn_drawn_in, all_counts_run b (n+3) g]
  rw [compI_q (tupE ni) (fun x => decide (roundS s x = some r)) (tupE ni) (allM_lim g)]
  · simp_arith [List.length_map, ← List.countP_eq_length_filter]
  · intro x hx
    obtain ⟨h2, _⟩ := (mem_all g).mp hx
    have := eqD_enc (f := rD) (show 0 + 1 + 1 ≤ 60 by omega) (roundS s x) (some r)
    simp_arith [round_from_run b h1 n g h2, show eqD (rD (roundS s x)) (tupE (tupE ni) r) = _ from this]
  · intro x _ _
    simp_arith []
theorem fallen_run (b : LB P) (h : P "fallen" = some fn_fallen) (h1 : P "round_from" = some fn_round_from) (n : Nat) {s : Sheet} (g : GS s) : run P (n+6) "fallen" [shD s] = .ok (ni ((allM s).countP fun x => (roundS s x).isNone)) := by
  rw [run_of h]
  simp_arith [fn_fallen, all_counts_run b (n+3) g]
  rw [compI_q (tupE ni) (fun x => (roundS s x).isNone) (tupE ni) (allM_lim g)]
  · simp_arith [List.length_map, ← List.countP_eq_length_filter]
  · intro x hx
    obtain ⟨h2, _⟩ := (mem_all g).mp hx
    simp_arith [round_from_run b h1 n g h2, isNone_t (tupE (tupE ni)) _ (fun a => ⟨_, rfl⟩)]
  · intro x _ _
    simp_arith []
end OC

/-! Part L41: there are few unlike real counts, and few rounds. -/
namespace OC
local macro_rules
  | `(tactic| simp_arith [$args,*]) => `(tactic| simp -implicitDefEqProofs only [callFn_eq, doneK_rt, startEnv, evSs_nil, evSs_cons, thenS_nx, thenS_rt, evS_ret, retK_eq, nxK_eq, evS_asg, asgK_eq, evS_asgF, asgFK_eq, evS_move, moveK_eq, evS_own, ownK_eq, evS_app, appK_eq, evS_ext, extK_l, extK_t, evS_setI, evS_ifS, ifK_t, ifK_f, evS_forS, forK_eq, evS_forM, forMK_eq, evS_whl, evS_nop, ev_var, ev_cst, ev_glb, ev_o1, ev_o2, ev_o3, ev_and, ev_or, ev_chain, ev_tup, ev_lst, ev_call, ev_comp, evs_nil, evs_cons, andK_t, andK_f, orK_t, orK_f, chain1_eq, chainK_t, chainK_f, compK_eq, R.b2_ok, R.b3_ok, R.rcons_ok, List.map_cons, List.map_nil, List.length_cons, List.length_nil, List.length_map, List.replicate, List.cons_append, List.nil_append, R.bind_ok, getV_z, getV_s, bindT_nm, bindT_p2, bindT_p3, Nat.reduceAdd, Nat.reduceSub, Nat.reduceLT, Nat.reduceEqDiff, decide_true, decide_false, R.chk_true, put_s, put_z, T.slots, wipeE, List.set_cons_zero, List.set_cons_succ, Bool.not_true, Bool.not_false, Bool.and_true, Bool.true_and, Bool.or_false, Bool.false_or, ltD_ni, gtD_ni, geD_ni, leD_ni, eqD_ni, neD_ni, addD_ni, lenD_lst, lenD_tup, lenD_scr, tupleD_lst, tupleD_tup, listD_lst, listD_tup, notD_bl, walk_lst, walk_tup, mkT_ok, mkL_ok, modD_ni, fdivD_ni, mulD_l, mulD_r, Nat.reduceLeDiff, eqD_bl, neD_bl, isBool_bl, isTrue_bl, notTrue_bl, isFalse_bl, notFalse_bl, op2_add, op2_sub, op2_mul, op2_fdiv, op2_mod, op2_pow, op2_eq, op2_ne, op2_le, op2_isin, op2_notin, op2_item, op2_count, op2_index, op2_join, op2_split, op2_min2, op2_max2, op2_from_, op2_upto, op1_neg, op1_len, op1_tuple, op1_list, op1_sorted, op1_sum, op1_min, op1_max, op1_all, op1_str, op1_int, op1_rev, op1_step2, op1_sset, op1_listRange, op1_lenset, op1_upper, op1_sortedS, op1_ssetS, op1_intS, op1_not, $args,*])
variable {P : Prog}
theorem textM_perm {s : Sheet} {c d : List Nat} (h : c.Perm d) : (textM s c).Perm (textM s d) := by
  rw [textM, textM]
  exact List.Perm.append_left _ (h.map _).flatten
theorem realM_perm {s : Sheet} {c d : List Nat} (h : c.Perm d) : realM s c = realM s d := by
  rw [realM, realM]
  apply List.map_congr_left
  intro l _
  exact (textM_perm h).count_eq l
def risingB : List Nat → Bool
  | [] => true
  | [_] => true
  | a :: b :: l => decide (a ≤ b) && risingB (b :: l)
def keyL (n w : Nat) : List (List Nat) := (allIn (List.replicate w (0, n - 1))).filter risingB
theorem keyL_le : ∀ n ∈ List.range 6, ∀ w ∈ List.range 4, (keyL n w).length ≤ 35 := by decide +kernel
theorem rising_sort : ∀ (l : List Nat), l.Pairwise (· ≤ ·) → risingB l = true
  | [], _ => rfl
  | [_], _ => rfl
  | a :: b :: l, h => by
    rw [List.pairwise_cons] at h
    rw [risingB, rising_sort (b :: l) h.2, decide_eq_true (h.1 b (by simp))]
    rfl
def natSort (c : List Nat) : List Nat := c.mergeSort fun a b => decide (a ≤ b)
theorem natSort_perm (c : List Nat) : (natSort c).Perm c := List.mergeSort_perm _ _
theorem natSort_sorted (c : List Nat) : (natSort c).Pairwise (· ≤ ·) := by
  have := List.pairwise_mergeSort (le := fun a b : Nat => decide (a ≤ b)) (by simp; omega) (by simp; omega) c
  exact this.imp fun {a b} h => by simpa using h
def U35 (s : Sheet) : List (List Nat) := (keyL s.words.length s.wide).map (realM s)
theorem U35_len {s : Sheet} (g : GS s) (hn : s.words.length ≤ 5) : (U35 s).length ≤ 35 := by
  rw [U35, List.length_map]
  have := g.w3
  exact keyL_le _ (List.mem_range.mpr (by omega)) _ (List.mem_range.mpr (by omega))
theorem real_U35 {s : Sheet} (g : GS s) {c : List Nat} (hc : c.length = s.wide) (h : haveW s c = true) : realM s c ∈ U35 s := by
  rw [← realM_perm (natSort_perm c), U35]
  refine List.mem_map.mpr ⟨_, ?_, rfl⟩
  rw [keyL, List.mem_filter]
  refine ⟨?_, rising_sort _ (natSort_sorted c)⟩
  refine (mem_all g).mpr ⟨?_, ?_⟩
  · rw [(natSort_perm c).length_eq, hc]
  · rw [haveW, List.all_eq_true] at h ⊢
    intro k hk
    exact h k ((natSort_perm c).mem_iff.mp hk)
/-- each that comes behind the first is one of the few -/
theorem iter_U35 {s : Sheet} (g : GS s) {c : List Nat} (hc : c.length = s.wide) {m p : Nat} (o : OrbitAt (stepM s) c m p) {i : Nat} (hi : i + 1 < m) : iter (stepM s) c (i + 1) ∈ U35 s := by
  have h1 := early (step_fix s) o hi
  show stepM s (iter (stepM s) c i) ∈ _
  rw [step_have h1]
  exact real_U35 g (iterS_len g hc i) h1
theorem orb36 {s : Sheet} (g : GS s) (hn : s.words.length ≤ 5) {c : List Nat} (hc : c.length = s.wide) {m p : Nat} (o : OrbitAt (stepM s) c m p) : m ≤ 36 := by
  have h1 := nodup_le ((its (stepM s) c m).drop 1) (U35 s) (o.nd.sublist (List.drop_sublist _ _)) (by
    intro y hy
    have hy2 : y ∈ cyc (stepM s) c m 1 := hy
    obtain ⟨i, h1, h2, rfl⟩ := mem_cyc.mp hy2
    obtain ⟨i, rfl⟩ : ∃ k, i = k + 1 := ⟨i - 1, by omega⟩
    exact iter_U35 g hc o h2)
  have h2 := U35_len g hn
  rw [List.length_drop, its_length] at h1
  omega
theorem cyc_U35 {s : Sheet} (g : GS s) {c : List Nat} (hc : c.length = s.wide) (hin : insS s c = true) {y : List Nat} (hy : y ∈ cycM (stepM s) c) : y ∈ U35 s := by
  obtain ⟨m, p, o, _⟩ := orbS g hc
  rw [cycM, orb_eq o] at hy
  obtain ⟨i, h1, h2, rfl⟩ := mem_cyc.mp hy
  rw [insS, isIn, orb_eq o] at hin
  cases i with
  | succ i => exact iter_U35 g hc o h2
  | zero =>
    have hp : p = 0 := by omega
    have e := o.eq
    rw [hp] at e
    rw [e]
    have hm := o.lt
    obtain ⟨m, rfl⟩ : ∃ k, m = k + 1 := ⟨m - 1, by omega⟩
    show stepM s (iter (stepM s) c m) ∈ _
    have h3 : haveW s (iter (stepM s) c m) = true := hin
    rw [step_have h3]
    exact real_U35 g (iterS_len g hc m) h3
/-! ### all rounds -/
abbrev ltR : List (List Nat) → List (List Nat) → Bool := lexB ltC
theorem stoR : STO ltR := stoC.lex
noncomputable def roundL (s : Sheet) : List (List (List Nat)) := (allM s).filterMap (roundS s)
noncomputable def roundsM (s : Sheet) : List (List (List Nat)) := sortB ltR (ddup (roundL s))
abbrev RoundS (s : Sheet) (r : List (List Nat)) : Prop := IsRound (stepM s) (haveW s) ltC r
theorem mem_roundL {s : Sheet} {r : List (List Nat)} : r ∈ roundL s ↔ ∃ c ∈ allM s, roundS s c = some r := List.mem_filterMap
theorem roundS_is {s : Sheet} (g : GS s) {c : List Nat} (hc : c.length = s.wide) {r : List (List Nat)} (h : roundS s c = some r) : RoundS s r ∧ (∀ y ∈ r, y ∈ U35 s ∧ y ∈ allM s) ∧ insS s c = true ∧ ∀ y, y ∈ r ↔ y ∈ cycM (stepM s) c := by
  obtain ⟨m, p, o, _⟩ := orbS g hc
  obtain ⟨h1, h2, h3⟩ := round_is stoC (step_fix s) o h
  have hin : insS s c = true := by
    cases e : insS s c with
    | true => rfl
    | false =>
      rw [roundS, roundM, show isIn (stepM s) (haveW s) c = false from e] at h
      cases h
  refine ⟨h1, fun y hy => ⟨cyc_U35 g hc hin ((h3 y).mp hy), (mem_all g).mpr ⟨?_, h1.have_ y hy⟩⟩, hin, h3⟩
  have := (h3 y).mp hy
  rw [cycM, orb_eq o] at this
  obtain ⟨i, _, _, rfl⟩ := mem_cyc.mp this
  exact iterS_len g hc i
theorem roundL_is {s : Sheet} (g : GS s) {r : List (List Nat)} (h : r ∈ roundL s) : RoundS s r ∧ ∀ y ∈ r, y ∈ U35 s ∧ y ∈ allM s := by
  obtain ⟨c, hc, hr⟩ := mem_roundL.mp h
  obtain ⟨h1, h2, _⟩ := roundS_is g ((mem_all g).mp hc).1 hr
  exact ⟨h1, h2⟩
theorem round_len {s : Sheet} (g : GS s) (hn : s.words.length ≤ 5) {r : List (List Nat)} (h : r ∈ roundL s) : r.length ≤ 35 := by
  obtain ⟨h1, h2⟩ := roundL_is g h
  have := nodup_le r (U35 s) h1.nd fun y hy => (h2 y hy).1
  have := U35_len g hn
  omega
theorem roundL_few {s : Sheet} (g : GS s) (hn : s.words.length ≤ 5) : (ddup (roundL s)).length ≤ 35 := by
  have h0 := U35_len g hn
  have hnd := nodup_ddup (roundL s)
  have hm : ∀ r ∈ ddup (roundL s), RoundS s r ∧ ∀ y ∈ r, y ∈ U35 s ∧ y ∈ allM s := fun r hr => roundL_is g (mem_ddup.mp hr)
  generalize ddup (roundL s) = L at hnd hm
  have h1 := nodup_le (L.map fun r => r.headD []) (U35 s) ?_ ?_
  · rw [List.length_map] at h1
    omega
  · rw [List.Nodup, List.pairwise_map]
    refine List.Pairwise.imp_of_mem ?_ hnd
    intro a b ha hb hab e
    apply hab
    obtain ⟨ra, _⟩ := hm a ha
    obtain ⟨rb, _⟩ := hm b hb
    cases a with
    | nil => exact absurd rfl ra.ne
    | cons x a =>
      cases b with
      | nil => exact absurd rfl rb.ne
      | cons y b =>
        have e2 : x = y := e
        subst e2
        have k1 := ra.back x (by simp)
        have k2 := rb.back x (by simp)
        rw [k1] at k2
        exact Option.some.inj k2
  · intro y hy
    obtain ⟨r, hr, rfl⟩ := List.mem_map.mp hy
    obtain ⟨r1, r2⟩ := hm r hr
    cases r with
    | nil => exact absurd rfl r1.ne
    | cons x r => exact (r2 x (by simp)).1
theorem filter_someL {α β : Type} (f : α → Option β) : ∀ l : List α, ((l.map f).filter Option.isSome) = (l.filterMap f).map some
  | [] => rfl
  | a :: l => by
    rw [List.map_cons, List.filter_cons, List.filterMap_cons, filter_someL f l]
    cases f a <;> rfl
theorem sset_rounds {s : Sheet} (g : GS s) (hn : s.words.length ≤ 5) (v : D) (hv : itemsD v = some ((roundL s).map (tupE (tupE ni)))) : ssetD v = .ok (.lst ((roundsM s).map (tupE (tupE ni)))) :=
  ssetD_enc (f := tupE ni) inferInstance inferInstance (by omega) (numD_tup (numD_ni 6)) (fun r hr => (roundL_is g hr).1.ne) (by have := roundL_few g hn; omega) v hv (sortable_tup fun r hr => (roundL_is g (mem_ddup.mp hr)).1.ne)
theorem rounds_run (b : LB P) (h : P "rounds" = some fn_rounds) (h1 : P "round_from" = some fn_round_from) (n : Nat) {s : Sheet} (g : GS s) (hn : s.words.length ≤ 5) : run P (n+6) "rounds" [shD s] = .ok (.tup ((roundsM s).map (tupE (tupE ni)))) := by
  rw [run_of h]
  simp_arith [fn_rounds, all_counts_run b (n+3) g]
  rw [compI_g (tupE ni) (fun x => rD (roundS s x)) (allM_lim g)]
  rotate_left
  · intro x hx
    simp_arith [round_from_run b h1 n g ((mem_all g).mp hx).1]
  rw [show (allM s).map (fun x => rD (roundS s x)) = ((allM s).map (roundS s)).map rD by rw [List.map_map]; rfl]
  simp_arith []
  rw [compI_q rD Option.isSome rD (by rw [List.length_map]; exact allM_lim g)]
  rotate_left
  · intro x _
    simp_arith [notNone_t (tupE (tupE ni)) _ (fun a => ⟨_, rfl⟩)]
  · intro x _ _
    simp_arith []
  rw [filter_someL, List.map_map, show rD ∘ some = tupE (tupE ni) from rfl]
  have hs := sset_rounds g hn (.lst ((roundL s).map (tupE (tupE ni)))) rfl
  rw [roundL] at hs
  simp_arith [hs]
theorem mem_rounds {s : Sheet} {r : List (List Nat)} : r ∈ roundsM s ↔ ∃ c ∈ allM s, roundS s c = some r := by
  rw [roundsM, (sortB_perm ltR _).mem_iff, mem_ddup, mem_roundL]
theorem rounds_sorted (s : Sheet) : (roundsM s).Pairwise fun a b => ltR a b = true := sortB_strict stoR (nodup_ddup _)
theorem rounds_nodup (s : Sheet) : (roundsM s).Nodup := sorted_nodup stoR (rounds_sorted s)
theorem rounds_few {s : Sheet} (g : GS s) (hn : s.words.length ≤ 5) : (roundsM s).length ≤ 35 := by
  rw [roundsM, (sortB_perm ltR _).length_eq]
  exact roundL_few g hn
end OC

/-! Part L43: plain facts about rounds. -/
namespace OC
variable {P : Prog}
theorem part_count {α β : Type} [DecidableEq β] (f : α → Option β) (L : List β) (hL : L.Nodup) : ∀ l : List α, (∀ x ∈ l, ∀ r, f x = some r → r ∈ L) → l.countP (fun x => (f x).isNone) + (L.map fun r => l.countP fun x => decide (f x = some r)).sum = l.length
  | [], _ => by
    simp only [List.countP_nil, List.length_nil, Nat.zero_add]
    rename_i hh
    clear hL hh
    induction L with
    | nil => rfl
    | cons r L ih => rw [List.map_cons, List.sum_cons, ih]
  | x :: l, h => by
    have ih := part_count f L hL l fun y hy => h y (List.mem_cons_of_mem _ hy)
    rw [List.countP_cons, List.length_cons]
    have hs : (L.map fun r => (x :: l).countP fun x => decide (f x = some r)).sum = (L.map fun r => l.countP fun x => decide (f x = some r)).sum + (if (f x).isSome then 1 else 0) := by
      have hx := h x (by simp)
      cases hfx : f x with
      | none =>
        simp only [Option.isSome_none, Bool.false_eq_true, if_false, Nat.add_zero]
        congr 1
        apply List.map_congr_left
        intro r _
        rw [List.countP_cons, hfx]
        simp
      | some q =>
        have hq := hx q hfx
        clear hx ih h
        simp only [Option.isSome_some, if_true]
        induction L with
        | nil => simp at hq
        | cons r L ih =>
          rw [List.nodup_cons] at hL
          rw [List.map_cons, List.map_cons, List.sum_cons, List.sum_cons, List.countP_cons, hfx]
          rcases List.mem_cons.mp hq with rfl | hq
          · have : (L.map fun r => (x :: l).countP fun x => decide (f x = some r)) = (L.map fun r => l.countP fun x => decide (f x = some r)) := by
              apply List.map_congr_left
              intro r hr
              rw [List.countP_cons, hfx]
              have : ¬ q = r := fun e => hL.1 (e ▸ hr)
              simp [this]
            rw [this]
            simp
            omega
          · rw [ih hL.2 hq]
            have : ¬ q = r := fun e => hL.1 (e ▸ hq)
            simp [this]
            omega
    rw [hs]
    cases f x with
    | none => simp; omega
    | some q => simp; omega
theorem rounds_part {s : Sheet} : (allM s).countP (fun x => (roundS s x).isNone) + ((roundsM s).map fun r => (allM s).countP fun x => decide (roundS s x = some r)).sum = (allM s).length :=
  part_count (roundS s) (roundsM s) (rounds_nodup s) (allM s) fun x hx r h => mem_rounds.mpr ⟨x, hx, h⟩
theorem sset_roundsM {s : Sheet} (g : GS s) (hn : s.words.length ≤ 5) : ssetD (.tup ((roundsM s).map (tupE (tupE ni)))) = .ok (.lst ((roundsM s).map (tupE (tupE ni)))) := by
  have hne : ∀ r ∈ roundsM s, r ≠ [] := fun r hr => by
    obtain ⟨c, hc, h⟩ := mem_rounds.mp hr
    exact (roundS_is g ((mem_all g).mp hc).1 h).1.ne
  have hd := ddup_self (rounds_nodup s)
  have hl := rounds_few g hn
  have := ssetD_enc (f := tupE ni) (xs := roundsM s) inferInstance (inferInstance : OrdE (tupE (tupE ni)) ltR) (by omega) (numD_tup (numD_ni 6)) hne (by rw [hd]; omega) (.tup ((roundsM s).map (tupE (tupE ni)))) rfl (by rw [hd]; exact sortable_tup hne)
  rw [hd, sortB_id stoR (rounds_sorted s)] at this
  exact this
theorem rounds_is {s : Sheet} (g : GS s) {r : List (List Nat)} (h : r ∈ roundsM s) : RoundS s r ∧ r ∈ roundL s ∧ ∀ y ∈ r, y ∈ allM s := by
  obtain ⟨c, hc, h⟩ := mem_rounds.mp h
  have h1 := mem_roundL.mpr ⟨c, hc, h⟩
  have := roundL_is g h1
  exact ⟨this.1, h1, fun y hy => (this.2 y hy).2⟩
/-- one of a round: how it is led -/
theorem round_led {s : Sheet} {r : List (List Nat)} (h : RoundS s r) {y : List Nat} (hy : y ∈ r) : orb (stepM s) y = (r.length, 0) ∧ insS s y = true ∧ endS s y = if r.length = 1 then [114, 101, 115, 116] else [114, 111, 117, 110, 100] := by
  have o := h.orb y hy
  have ho := orb_eq o
  have hin : insS s y = true := by
    have hb := h.back y hy
    cases e : insS s y with
    | true => rfl
    | false =>
      rw [roundM, show isIn (stepM s) (haveW s) y = false from e] at hb
      cases hb
  refine ⟨ho, hin, ?_⟩
  have hlt := o.lt
  rw [endS, hin, if_pos rfl, placeS, ledP, ledS, ledL, ho, its_length]
  dsimp only
  by_cases e : r.length = 1
  · rw [if_pos (by omega), if_pos e]
  · rw [if_neg (by omega), if_neg e]
theorem round_real {s : Sheet} {r : List (List Nat)} (h : RoundS s r) : ∀ q ∈ r.zip (r.drop 1 ++ r.take 1), realM s q.1 = q.2 ∧ q.1 ∈ r := by
  intro q hq
  obtain ⟨x, hx⟩ : ∃ x, r[0]? = some x := by
    cases hr : r with
    | nil => exact absurd hr h.ne
    | cons a b => exact ⟨a, rfl⟩
  have hm : q.1 ∈ r := (List.of_mem_zip hq).1
  have hi := h.its x hx
  have hxr : x ∈ r := List.mem_of_getElem? hx
  have hz := zip_round (h.orb x hxr) q (by
    rw [← hi]
    exact hq)
  rw [← step_have (h.have_ _ hm)]
  exact ⟨hz.1, hm⟩
theorem rot_one {α : Type} [DecidableEq α] {lt : α → α → Bool} (x : α) : rot lt [x] = [x] := by
  simp [rot, least?, leastB]
theorem true_round {s : Sheet} {x : List Nat} (h : haveW s x = true) (hr : realM s x = x) : roundS s x = some [x] := by
  have hf : stepM s x = x := by rw [step_have h, hr]
  have ho := orb_eq (orbit_rest hf)
  rw [roundS, roundM, isIn, ho, show iter (stepM s) x (1 - 1) = x from rfl, h, if_pos rfl, cycM, ho]
  exact congrArg some (rot_one x)
theorem round_true {s : Sheet} {x : List Nat} (h : RoundS s [x]) : haveW s x = true ∧ realM s x = x := by
  have h1 := h.have_ x (by simp)
  have := (h.orb x (by simp)).eq
  refine ⟨h1, ?_⟩
  have e : x = stepM s x := this
  rw [step_have h1] at e
  exact e.symm
theorem rounds_truths {s : Sheet} (g : GS s) : ((roundsM s).filter fun r => decide (r.length = 1)).map (fun r => r.headD []) = truthsM s (wholeBox s) := by
  refine rising_ext stoC ?_ (truthsM_sorted s _) ?_
  · rw [List.pairwise_map]
    refine List.Pairwise.imp_of_mem ?_ ((rounds_sorted s).filter _)
    intro a b ha hb h
    have ha := (List.mem_filter.mp ha).2
    have hb := (List.mem_filter.mp hb).2
    rw [decide_eq_true_eq] at ha hb
    match a, b, ha, hb, h with
    | [x], [y], _, _, h =>
      rw [ltR, lexB] at h
      split at h
      · cases h
      · exact h
  · intro x
    rw [List.mem_map, mem_truths]
    constructor
    · rintro ⟨r, hr, rfl⟩
      obtain ⟨h1, h2⟩ := List.mem_filter.mp hr
      rw [decide_eq_true_eq] at h2
      obtain ⟨h3, h4, h5⟩ := rounds_is g h1
      match r, h2, h3, h5 with
      | [y], _, h3, h5 =>
        obtain ⟨e1, e2⟩ := round_true h3
        exact ⟨mem_allIn.mp (h5 y (by simp)), by rw [isTrueM]; simp [e1, e2]⟩
    · rintro ⟨h1, h2⟩
      rw [isTrueM, Bool.and_eq_true, decide_eq_true_eq] at h2
      refine ⟨[x], ?_, rfl⟩
      rw [List.mem_filter]
      exact ⟨mem_rounds.mpr ⟨x, mem_allIn.mpr h1, true_round h2.1 h2.2⟩, by simp⟩
theorem rot_perm {α : Type} [DecidableEq α] {lt : α → α → Bool} {l : List α} (h : l ≠ []) : (rot lt l).Perm l := by
  obtain ⟨x, hx⟩ := least_some lt h
  rw [rot, hx]
  exact List.perm_append_comm.trans (by rw [List.take_append_drop])
theorem round_perm {s : Sheet} (g : GS s) {c : List Nat} (hc : c.length = s.wide) {r : List (List Nat)} (h : roundS s c = some r) : r.Perm (cycM (stepM s) c) := by
  obtain ⟨m, p, o, _⟩ := orbS g hc
  rw [roundS, roundM] at h
  split at h
  · rw [← Option.some.inj h]
    exact rot_perm (cycM_ne o)
  · cases h
theorem round_of_in {s : Sheet} {c : List Nat} (h : insS s c = true) : roundS s c = some (rot ltC (cycM (stepM s) c)) := by
  rw [roundS, roundM, show isIn (stepM s) (haveW s) c = true from h, if_pos rfl]
theorem round_of_out {s : Sheet} {c : List Nat} (h : insS s c = false) : roundS s c = none := by
  rw [roundS, roundM, show isIn (stepM s) (haveW s) c = false from h]
  rfl
theorem ledS_nodup {s : Sheet} (g : GS s) {c : List Nat} (hc : c.length = s.wide) : (ledS s c).Nodup := by
  obtain ⟨m, p, o, _⟩ := orbS g hc
  rw [ledS, ledL, orb_eq o]
  exact o.nd
theorem endS_out {s : Sheet} (c : List Nat) : decide (endS s c = [111, 117, 116]) = !insS s c := by
  rw [endS]
  cases insS s c with
  | false => rfl
  | true =>
    rw [if_pos rfl]
    split <;> rfl
/-- sets of tuples of numbers: how many -/
theorem lenset_C {xs : List (List Nat)} (hn : xs.Nodup) (h : ∀ x ∈ xs, x ≠ []) (hl : xs.length < 64) : lensetD (.tup (xs.map (tupE ni))) = .ok (ni xs.length) := by
  have hd := ddup_self hn
  have := lensetD_enc (f := ni) (xs := xs) inferInstance (numD_ni 7) h (by rw [hd]; exact hl) (.tup (xs.map (tupE ni))) rfl
  rw [hd] at this
  exact this
theorem itemD_last {α : Type} {f : α → D} {xs : List α} {a : α} (h : xs[xs.length - 1]? = some a) : itemD (.tup (xs.map f)) (.int (-1)) = .ok (f a) := by
  have hl := (List.getElem?_eq_some_iff.mp h).1
  rw [itemD, atD, ixI, if_neg (by omega), if_pos (by rw [List.length_map]; omega), Option.bind_some, List.length_map, show ((-1 : Int) + (xs.length : Nat)).toNat = xs.length - 1 by omega, List.getElem?_map, h]
  rfl
theorem uptoD_last (xs : List D) (h : 1 ≤ xs.length) : uptoD (.tup xs) (.int (-1)) = .ok (.tup (xs.take (xs.length - 1))) := by
  rw [uptoD, cutD, cutL]
  have h1 : sIx xs.length 0 none = 0 := rfl
  have h2 : sIx xs.length xs.length (some (-1)) = xs.length - 1 := by
    rw [sIx, if_pos (by omega)]
    omega
  rw [h1, h2, List.drop_zero, Nat.sub_zero]
end OC

/-! Part L45: one step on. -/
namespace OC
variable {P : Prog}
theorem not_one {s : Sheet} {c : List Nat} (h : haveW s c = true) {m p : Nat} (o : OrbitAt (stepM s) c m p) (hin : insS s c = false) : 2 ≤ m ∧ p = m - 1 := by
  rw [insS, isIn, orb_eq o] at hin
  have h1 := last_out (step_fix s) o hin
  have hlt := o.lt
  refine ⟨?_, h1⟩
  by_cases e : m = 1
  · subst e
    have : haveW s c = false := hin
    rw [h] at this
    cases this
  · omega
/-- led on from the next one -/
theorem led_next {s : Sheet} (g : GS s) {c : List Nat} (hc : c.length = s.wide) (h : haveW s c = true) : insS s (realM s c) = insS s c ∧ roundS s (realM s c) = roundS s c ∧ endS s (realM s c) = endS s c ∧ (insS s c = true ∧ placeS s c = 0 ∨ ledS s (realM s c) = (ledS s c).drop 1) := by
  obtain ⟨m, p, o, _⟩ := orbS g hc
  have hs := step_have h
  obtain ⟨h1, h2⟩ := round_step (lt := ltC) stoC (step_fix s) o
  rw [hs] at h1 h2
  have hlt := o.lt
  have ho := orb_eq o
  refine ⟨h1, h2, ?_⟩
  cases p with
  | zero =>
    have o2 := orbit_round o
    rw [hs] at o2
    have ho2 := orb_eq o2
    have hin : insS s c = true := by
      cases e : insS s c with
      | true => rfl
      | false =>
        have := not_one h o e
        omega
    refine ⟨?_, .inl ⟨hin, by rw [placeS, ledP, ho]⟩⟩
    rw [endS, endS, show insS s (realM s c) = insS s c from h1, placeS, placeS, ledP, ledP, ledS, ledS, ledL, ledL, ho, ho2, its_length, its_length]
  | succ p =>
    have o2 := orbit_next o
    rw [hs] at o2
    have ho2 := orb_eq o2
    have hl : ledS s (realM s c) = (ledS s c).drop 1 := by
      rw [ledS, ledS, ledL, ledL, ho, ho2]
      dsimp only
      rw [← hs, its_shift, show m - 1 + 1 = m by omega]
    refine ⟨?_, .inr hl⟩
    rw [endS, endS, show insS s (realM s c) = insS s c from h1, placeS, placeS, ledP, ledP, hl, ho, ho2, List.length_drop, ledS, ledL, ho, its_length]
    dsimp only
    have e : (p + 1 = m - 1) = (p = m - 1 - 1) := propext ⟨fun h => by omega, fun h => by omega⟩
    simp only [e]
/-- what comes out at once -/
theorem led_out {s : Sheet} (g : GS s) {c : List Nat} (hc : c.length = s.wide) (h : haveW s c = true) (h2 : haveW s (realM s c) = false) : insS s c = false ∧ (ledS s c).length = 2 := by
  have hs := step_have h
  have hne : c ≠ realM s c := fun e => by rw [← e, h] at h2; cases h2
  have hf : stepM s (realM s c) = realM s c := step_fix s _ h2
  have o : OrbitAt (stepM s) c 2 1 := by
    refine ⟨by omega, ?_, ?_⟩
    · show [c, stepM s c].Nodup
      rw [hs]
      simp [hne]
    · show stepM s c = stepM s (stepM s c)
      rw [hs, hf]
  have ho := orb_eq o
  refine ⟨?_, ?_⟩
  · rw [insS, isIn, ho]
    show haveW s (stepM s c) = false
    rw [hs, h2]
  · rw [ledS, ledL, ho, its_length]
/-- who comes into a round -/
theorem round_iff {s : Sheet} (g : GS s) {c : List Nat} (hc : c.length = s.wide) {r : List (List Nat)} (hr : RoundS s r) {m p : Nat} (o : OrbitAt (stepM s) c m p) : roundS s c = some r ↔ insS s c = true ∧ iter (stepM s) c (m - 1) ∈ r := by
  have hlt := o.lt
  have ho := orb_eq o
  constructor
  · intro h
    obtain ⟨_, _, h1, h2⟩ := roundS_is g hc h
    refine ⟨h1, (h2 _).mpr ?_⟩
    rw [cycM, ho]
    exact mem_cyc.mpr ⟨m - 1, by show p ≤ _; omega, by show m - 1 < m; omega, rfl⟩
  · rintro ⟨h1, h2⟩
    have := hr.back _ h2
    rw [(round_iter (lt := ltC) stoC (step_fix s) o (m - 1)).2] at this
    exact this
theorem round_none {s : Sheet} (c : List Nat) : (roundS s c).isNone = !insS s c := by
  rw [roundS, roundM]
  cases hi : isIn (stepM s) (haveW s) c with
  | true =>
    rw [show insS s c = true from hi]
    rfl
  | false =>
    rw [show insS s c = false from hi]
    rfl
theorem round_many {s : Sheet} (g : GS s) {r : List (List Nat)} (h : r ∈ roundsM s) : r.length ≤ (allM s).countP fun x => decide (roundS s x = some r) := by
  obtain ⟨hR, _, hra⟩ := rounds_is g h
  rw [List.countP_eq_length_filter]
  refine nodup_le r _ hR.nd fun y hy => List.mem_filter.mpr ⟨hra y hy, ?_⟩
  rw [decide_eq_true_eq]
  exact hR.back y hy
theorem allM_nodup (s : Sheet) : (allM s).Nodup := sorted_nodup stoC (allIn_sorted _)
/-- all that lead to some -/
theorem lead_sum {s : Sheet} (g : GS s) : ((allM s).map fun c => ((allM s).filter fun x => decide (realM s x = c)).length).sum = (allM s).countP fun x => haveW s (realM s x) := by
  have h := part_count (fun x => if haveW s (realM s x) then some (realM s x) else none) (allM s) (allM_nodup s) (allM s) (by
    intro x hx r h
    split at h
    · rename_i hw
      rw [← Option.some.inj h]
      exact (mem_all g).mpr ⟨realM_len g x, hw⟩
    · cases h)
  have e1 : ((allM s).map fun c => ((allM s).filter fun x => decide (realM s x = c)).length) = (allM s).map fun r => (allM s).countP fun x => decide ((if haveW s (realM s x) then some (realM s x) else none) = some r) := by
    apply List.map_congr_left
    intro r hr
    rw [← List.countP_eq_length_filter]
    apply List.countP_congr
    intro x _
    rw [decide_eq_true_eq, decide_eq_true_eq]
    constructor
    · rintro rfl
      rw [((mem_all g).mp hr).2]
      rfl
    · intro h
      split at h
      · exact Option.some.inj h
      · cases h
  rw [e1]
  have e2 : (allM s).countP (fun x => (if haveW s (realM s x) then some (realM s x) else none).isNone) + (allM s).countP (fun x => haveW s (realM s x)) = (allM s).length := by
    generalize allM s = l
    induction l with
    | nil => rfl
    | cons x l ih =>
      rw [List.countP_cons, List.countP_cons, List.length_cons]
      cases haveW s (realM s x) <;> simp <;> omega
  omega
end OC

/-! Part L47: a word more. -/
namespace OC
variable {P : Prog}
def moreW (s : Sheet) (w : List Nat) : Sheet := { s with words := s.words ++ [w] }
section
variable {s : Sheet} {w : List Nat}
theorem more_gs (g : GS s) (hn : s.words.length ≤ 99) (hw : w.length ≤ 1000) : GS (moreW s w) := ⟨g.w1, g.w3, g.fl, by simp [moreW], by simp [moreW]; omega, fun x hx => by
  rcases List.mem_append.mp hx with h | h
  · exact g.wl x h
  · rw [List.mem_singleton.mp h]; exact hw⟩
theorem more_have {c : List Nat} (h : haveW s c = true) : haveW (moreW s w) c = true := by
  rw [haveW, List.all_eq_true] at h ⊢
  intro k hk
  have := h k hk
  rw [decide_eq_true_eq] at this ⊢
  simp [moreW]
  omega
theorem more_word {k : Nat} (h : k < s.words.length) : wordAt (moreW s w) k = wordAt s k := by
  rw [wordAt, wordAt, moreW, List.getD, List.getD, List.getElem?_append_left h]
theorem more_text {c : List Nat} (h : haveW s c = true) : textM (moreW s w) c = textM s c := by
  have e : c.map (wordAt (moreW s w)) = c.map (wordAt s) := List.map_congr_left fun k hk => more_word (haveW_mem h hk)
  rw [textM, textM, e]
  rfl
theorem more_real {c : List Nat} (h : haveW s c = true) : realM (moreW s w) c = realM s c := by
  rw [realM, realM, more_text h]
  rfl
theorem more_all (g : GS s) (hn : s.words.length ≤ 99) (hw : w.length ≤ 1000) {c : List Nat} (h : c ∈ allM s) : c ∈ allM (moreW s w) := by
  obtain ⟨h1, h2⟩ := (mem_all g).mp h
  exact (mem_all (more_gs g hn hw)).mpr ⟨h1, more_have h2⟩
theorem more_true {c : List Nat} (h : haveW s c = true) : isTrueM (moreW s w) c = isTrueM s c := by
  rw [isTrueM, isTrueM, more_have h, h, more_real h]
theorem more_gb {box : List (Nat × Nat)} (b : GB s box) : GB (moreW s w) box := ⟨b.len, fun p hp => by
  have := b.lt p hp
  simp [moreW]
  omega⟩
theorem more_truths (b : GB s box) : truthsM (moreW s w) box = truthsM s box := by
  rw [truthsM, truthsM]
  apply List.filter_congr
  intro c hc
  exact more_true (b.have hc)
theorem more_bstep {l : Nat} {m p : Nat × Nat} (h : p.1 ≤ p.2 ∧ p.2 < s.words.length) : bstep (moreW s w) l m p = bstep s l m p := by
  have e : (((moreW s w).words.drop p.1).take (p.2 + 1 - p.1)) = ((s.words.drop p.1).take (p.2 + 1 - p.1)) := by
    rw [moreW, List.drop_append_of_le_length (by omega), List.take_append_of_le_length (by rw [List.length_drop]; omega)]
  rw [bstep, bstep, e]
theorem more_bounds {box : List (Nat × Nat)} (b : GB s box) : boundsM (moreW s w) box = boundsM s box := by
  rw [boundsM, boundsM, show (moreW s w).wide = s.wide from rfl]
  apply List.map_congr_left
  intro l _
  rw [boundsOf, boundsOf, show (moreW s w).frame = s.frame from rfl]
  have hb := b.lt
  generalize (s.frame.count l, s.frame.count l) = m
  clear b
  induction box generalizing m with
  | nil => rfl
  | cons p box ih =>
    rw [List.foldl_cons, List.foldl_cons, more_bstep (hb p (by simp)), ih fun q hq => hb q (List.mem_cons_of_mem _ hq)]
/-- so far the way is the same -/
theorem more_iter {c : List Nat} {m p : Nat} (o : OrbitAt (stepM s) c m p) : ∀ i, i < m → iter (stepM (moreW s w)) c i = iter (stepM s) c i
  | 0, _ => rfl
  | i + 1, hi => by
    have h1 := early (step_fix s) o hi
    show stepM (moreW s w) (iter (stepM (moreW s w)) c i) = stepM s (iter (stepM s) c i)
    rw [more_iter o i (by omega), step_have h1, step_have (more_have h1), more_real h1]
theorem more_its {c : List Nat} {m p : Nat} (o : OrbitAt (stepM s) c m p) : its (stepM (moreW s w)) c m = its (stepM s) c m := by
  rw [its, its]
  apply List.map_congr_left
  intro i hi
  exact more_iter o i (List.mem_range.mp hi)
theorem more_orb {c : List Nat} {m p : Nat} (o : OrbitAt (stepM s) c m p) (hin : insS s c = true) : OrbitAt (stepM (moreW s w)) c m p := by
  have hlt := o.lt
  refine ⟨hlt, by rw [more_its o]; exact o.nd, ?_⟩
  rw [more_iter o p hlt, o.eq]
  rw [insS, isIn, orb_eq o] at hin
  obtain ⟨m, rfl⟩ : ∃ k, m = k + 1 := ⟨m - 1, by omega⟩
  have hin : haveW s (iter (stepM s) c m) = true := hin
  show stepM s (iter (stepM s) c m) = stepM (moreW s w) (iter (stepM (moreW s w)) c m)
  rw [more_iter o m (by omega), step_have hin, step_have (more_have hin), more_real hin]
theorem more_in {c : List Nat} {m p : Nat} (o : OrbitAt (stepM s) c m p) (hin : insS s c = true) : insS (moreW s w) c = true ∧ ledS (moreW s w) c = ledS s c ∧ placeS (moreW s w) c = placeS s c ∧ roundS (moreW s w) c = roundS s c ∧ endS (moreW s w) c = endS s c ∧ placeO (moreW s w) c = placeO s c := by
  have o2 := more_orb (w := w) o hin
  have ho := orb_eq o
  have ho2 := orb_eq o2
  have hlt := o.lt
  have h1 : insS (moreW s w) c = true := by
    rw [insS, isIn, ho2, more_iter o _ (by show m - 1 < m; omega)]
    rw [insS, isIn, ho] at hin
    exact more_have hin
  have h2 : ledS (moreW s w) c = ledS s c := by rw [ledS, ledS, ledL, ledL, ho, ho2, more_its o]
  have h3 : placeS (moreW s w) c = placeS s c := by rw [placeS, placeS, ledP, ledP, ho, ho2]
  refine ⟨h1, h2, h3, ?_, ?_, ?_⟩
  · rw [round_of_in h1, round_of_in hin]
    congr 1
    rw [cycM, cycM, ho, ho2, cyc, cyc, more_its o]
  · rw [endS, endS, h1, hin, h2, h3]
  · rw [placeO, placeO, h1, hin, h3]
theorem more_out {c : List Nat} {m p m' p' : Nat} (o : OrbitAt (stepM s) c m p) (o2 : OrbitAt (stepM (moreW s w)) c m' p') : m ≤ m' ∧ (its (stepM (moreW s w)) c m').take m = its (stepM s) c m := by
  have hle : m ≤ m' := by
    by_cases h : m ≤ m'
    · exact h
    · have h1 := o2.eq
      have h2 := o2.lt
      rw [more_iter o _ (by omega), more_iter o _ (by omega)] at h1
      have := its_inj o.nd (by omega) (by omega) h1
      omega
  refine ⟨hle, ?_⟩
  rw [← more_its (w := w) o, its, its, ← List.map_take, List.take_range]
  congr 2
  omega
theorem more_rounds (g : GS s) (hn : s.words.length ≤ 99) (hw : w.length ≤ 1000) {r : List (List Nat)} (h : r ∈ roundsM s) : r ∈ roundsM (moreW s w) := by
  obtain ⟨c, hc, hr⟩ := mem_rounds.mp h
  obtain ⟨h1, _⟩ := (mem_all g).mp hc
  obtain ⟨m, p, o, _⟩ := orbS g h1
  refine mem_rounds.mpr ⟨c, more_all g hn hw hc, ?_⟩
  rw [(more_in o (roundS_is g h1 hr).2.2.1).2.2.2.1, hr]
theorem more_drawn (g : GS s) (hn : s.words.length ≤ 99) (hw : w.length ≤ 1000) (r : List (List Nat)) : (allM s).countP (fun x => decide (roundS s x = some r)) ≤ (allM (moreW s w)).countP fun x => decide (roundS (moreW s w) x = some r) := by
  rw [List.countP_eq_length_filter, List.countP_eq_length_filter]
  refine nodup_le _ _ ((allM_nodup s).filter _) fun x hx => ?_
  obtain ⟨h1, h2⟩ := List.mem_filter.mp hx
  rw [decide_eq_true_eq] at h2
  have hl := ((mem_all g).mp h1).1
  obtain ⟨m, p, o, _⟩ := orbS g hl
  refine List.mem_filter.mpr ⟨more_all g hn hw h1, ?_⟩
  rw [decide_eq_true_eq, (more_in o (roundS_is g hl h2).2.2.1).2.2.2.1, h2]
theorem more_many (g : GS s) (hn : s.words.length ≤ 99) (hw : w.length ≤ 1000) : (roundsM s).length ≤ (roundsM (moreW s w)).length :=
  nodup_le _ _ (rounds_nodup s) fun r hr => more_rounds g hn hw hr
end
/-- round and round, by places -/
theorem round_at {s : Sheet} {r : List (List Nat)} (h : RoundS s r) {k : Nat} {c : List Nat} (hk : r[k]? = some c) : r[(k + 1) % r.length]? = some (realM s c) := by
  obtain ⟨x, hx⟩ : ∃ x, r[0]? = some x := by
    cases hr : r with
    | nil => exact absurd hr h.ne
    | cons a b => exact ⟨a, rfl⟩
  have hi := h.its x hx
  have hxr : x ∈ r := List.mem_of_getElem? hx
  have o := h.orb x hxr
  have hkl : k < r.length := (List.getElem?_eq_some_iff.mp hk).1
  have hc : haveW s c = true := h.have_ c (List.mem_of_getElem? hk)
  generalize hN : r.length = N at *
  rw [hi, its_get _ _ hkl] at hk
  have hk2 : iter (stepM s) x k = c := Option.some.inj hk
  have hs : iter (stepM s) x (k + 1) = realM s c := by
    show stepM s (iter (stepM s) x k) = _
    rw [hk2, step_have hc]
  by_cases e : k + 1 < N
  · rw [Nat.mod_eq_of_lt e, hi, its_get _ _ e, hs]
  · have e2 : k + 1 = N := by omega
    rw [e2, Nat.mod_self, hi, its_get _ _ (by omega), o.eq, ← e2, hs]
end OC

/-! Part L48: law k33. -/
namespace OC
local macro_rules
  | `(tactic| simp_arith [$args,*]) => `(tactic| simp -implicitDefEqProofs only [callFn_eq, doneK_rt, startEnv, evSs_nil, evSs_cons, thenS_nx, thenS_rt, evS_ret, retK_eq, nxK_eq, evS_asg, asgK_eq, evS_asgF, asgFK_eq, evS_move, moveK_eq, evS_own, ownK_eq, evS_app, appK_eq, evS_ext, extK_l, extK_t, evS_setI, evS_ifS, ifK_t, ifK_f, evS_forS, forK_eq, evS_forM, forMK_eq, evS_whl, evS_nop, ev_var, ev_cst, ev_glb, ev_o1, ev_o2, ev_o3, ev_and, ev_or, ev_chain, ev_tup, ev_lst, ev_call, ev_comp, evs_nil, evs_cons, andK_t, andK_f, orK_t, orK_f, chain1_eq, chainK_t, chainK_f, compK_eq, R.b2_ok, R.b3_ok, R.rcons_ok, List.map_cons, List.map_nil, List.length_cons, List.length_nil, List.length_map, List.replicate, List.cons_append, List.nil_append, R.bind_ok, getV_z, getV_s, bindT_nm, bindT_p2, bindT_p3, Nat.reduceAdd, Nat.reduceSub, Nat.reduceLT, Nat.reduceEqDiff, decide_true, decide_false, R.chk_true, put_s, put_z, T.slots, wipeE, List.set_cons_zero, List.set_cons_succ, Bool.not_true, Bool.not_false, Bool.and_true, Bool.true_and, Bool.or_false, Bool.false_or, ltD_ni, gtD_ni, geD_ni, leD_ni, eqD_ni, neD_ni, addD_ni, lenD_lst, lenD_tup, lenD_scr, tupleD_lst, tupleD_tup, listD_lst, listD_tup, notD_bl, walk_lst, walk_tup, mkT_ok, mkL_ok, modD_ni, fdivD_ni, mulD_l, mulD_r, Nat.reduceLeDiff, eqD_bl, neD_bl, isBool_bl, isTrue_bl, notTrue_bl, isFalse_bl, notFalse_bl, op2_add, op2_sub, op2_mul, op2_fdiv, op2_mod, op2_pow, op2_eq, op2_ne, op2_le, op2_isin, op2_notin, op2_item, op2_count, op2_index, op2_join, op2_split, op2_min2, op2_max2, op2_from_, op2_upto, op1_neg, op1_len, op1_tuple, op1_list, op1_sorted, op1_sum, op1_min, op1_max, op1_all, op1_str, op1_int, op1_rev, op1_step2, op1_sset, op1_listRange, op1_lenset, op1_upper, op1_sortedS, op1_ssetS, op1_intS, op1_not, $args,*])
abbrev P33 : Prog := progOf tab_k33
theorem lb33 : LB P33 := ⟨rfl, rfl, rfl, rfl, rfl, rfl, rfl⟩
theorem neS_self (x : List Nat) : neD (.str x) (.str x) = .ok (.bl false) := by rw [neD_str]; simp
theorem intD_bl (q : Bool) : intD (.bl q) = .ok (ni (if q then 1 else 0)) := by cases q <;> rfl
theorem ledD_cmp (s : Sheet) (c : List Nat) : D.cmpb 60 (ledD s c) = true := by
  have := (inferInstance : Enc (pairE (tupE (tupE ni)) (optT ni)) _).cmp 60 (ledS s c, placeO s c) (by omega)
  exact this
theorem still_run {s : Sheet} (g : GS s) {w : List Nat} (gt : GS (moreW s w)) (hn : s.words.length ≤ 99) (hw4 : w.length ≤ 1000) {c : List Nat} (hc : c ∈ allM s) : run P33 11 "_law_led_still" [shD s, shD (moreW s w), tupE ni c] = .ok (.bl true) := by
  rw [run_of (fn := fn_law_led_still) rfl]
  have hw := g.w3
  obtain ⟨hcl, hch⟩ := (mem_all g).mp hc
  have hct := more_have (w := w) hch
  have hclt : c.length = (moreW s w).wide := hcl
  obtain ⟨m, p, o, _⟩ := orbS g hcl
  obtain ⟨m', p', o2, _⟩ := orbS gt hclt
  have hled := led_run lb33.led lb33.hw lb33.tx lb33.re 6 g hcl
  have hled2 := led_run lb33.led lb33.hw lb33.tx lb33.re 6 gt hclt
  have hend := end_run lb33 rfl 5 g hcl
  have hre := real_run lb33.re lb33.tx lb33.hw 7 g (c := c) (by omega) hch
  have hre2 := real_run lb33.re lb33.tx lb33.hw 7 gt (c := c) (by omega) hct
  rw [more_real hch] at hre2
  have hit := is_true_run (P := P33) rfl rfl rfl rfl 6 g (c := c) (by omega)
  have hit2 := is_true_run (P := P33) rfl rfl rfl rfl 6 gt (c := c) (by omega)
  rw [more_true hch] at hit2
  have hlead := leading_run lb33 rfl 6 g c
  have hlead2 := leading_run lb33 rfl 6 gt c
  obtain ⟨l1, l2, l3⟩ := ledS_pos g hcl
  obtain ⟨n1, n2, n3, n4⟩ := led_next g hcl hch
  have hled3 := led_run lb33.led lb33.hw lb33.tx lb33.re 6 g (realM_len g c)
  have hno : op1 .isNone (optT ni (placeO s c)) = .ok (.bl (!insS s c)) := by
    rw [isNone_n, placeO]
    cases insS s c <;> rfl
  have hno2 : op1 .notNone (optT ni (placeO s c)) = .ok (.bl (insS s c)) := by
    rw [notNone_n, placeO]
    cases insS s c <;> rfl
  have heq : eqD (.str (endS s c)) (.str [111, 117, 116]) = .ok (.bl (!insS s c)) := by
    rw [eqD_enc (f := D.str) (by omega), endS_out]
  have hneb : ∀ q : Bool, neD (.bl q) (.bl q) = .ok (.bl false) := fun q => by cases q <;> rfl
  have heqb : ∀ q : Bool, eqD (.bl q) (.bl q) = .ok (.bl true) := fun q => by cases q <;> rfl
  have hi0 : itemD (ledD (moreW s w) c) (ni 0) = .ok (.tup ((ledS (moreW s w) c).map (tupE ni))) := rfl
  have hup : uptoD (.tup ((ledS (moreW s w) c).map (tupE ni))) (ni (ledS s c).length) = .ok (.tup ((ledS s c).map (tupE ni))) := by
    rw [uptoD_tup, ← List.map_take]
    have := (more_out o o2).2
    rw [ledS, ledS, ledL, ledL, orb_eq o, orb_eq o2, its_length, this]
  have hnl : neD (.tup ((ledS s c).map (tupE ni))) (.tup ((ledS s c).map (tupE ni))) = .ok (.bl false) := neD_self (cmp60T (f := tupE ni) (by omega) _)
  have hfr : fromD (.tup ((ledS s c).map (tupE ni))) (ni 1) = .ok (.tup (((ledS s c).drop 1).map (tupE ni))) := by
    rw [fromD_tup (by rw [List.length_map]; omega), List.map_drop]
  refine call_two 4 [some (shD s), some (shD (moreW s w)), some (tupE ni c), some (.tup ((ledS s c).map (tupE ni))), some (optT ni (placeO s c)), some (ledD (moreW s w) c), none] rfl ?_ ?_
  · rw [ledD] at hled
    cases hi : insS s c with
    | true =>
      rw [hi] at hno hno2 heq
      have he : ledD (moreW s w) c = .tup [.tup ((ledS s c).map (tupE ni)), optT ni (placeO s c)] := by
        obtain ⟨_, q1, _, _, _, q2⟩ := more_in (w := w) o hi
        rw [ledD, q1, q2]
      have hnel : neD (ledD (moreW s w) c) (.tup [.tup ((ledS s c).map (tupE ni)), optT ni (placeO s c)]) = .ok (.bl false) := by
        rw [he]
        have := neD_self (ledD_cmp s c)
        exact this
      simp_arith [fn_law_led_still, List.take_succ_cons, List.take_zero, hled, hled2, hno2, hnel, hno, hend, heq, hneb, hre, hre2, neD_enc (f := tupE ni) (show 0 + 1 ≤ 60 by omega)]
    | false =>
      rw [hi] at hno hno2 heq
      simp_arith [fn_law_led_still, List.take_succ_cons, List.take_zero, hled, hled2, hno2, hno, hi0, List.length_map, hup, hnl, hend, heq, hneb, hre, hre2, neD_enc (f := tupE ni) (show 0 + 1 ≤ 60 by omega)]
  simp_arith [fn_law_led_still, List.drop_succ_cons, List.drop_zero, hlead]
  refine forI_pass (tupE ni) (fun env => ∃ x6, env = [some (shD s), some (shD (moreW s w)), some (tupE ni c), some (.tup ((ledS s c).map (tupE ni))), some (optT ni (placeO s c)), some (ledD (moreW s w) c), x6]) ⟨none, rfl⟩ ?_ ?_
  · rintro x hx env ⟨x6, rfl⟩
    obtain ⟨h1, h2⟩ := List.mem_filter.mp hx
    rw [decide_eq_true_eq] at h2
    obtain ⟨h3, h4⟩ := (mem_all g).mp h1
    have hrx := real_run lb33.re lb33.tx lb33.hw 7 g (c := x) (by omega) h4
    have hnin : notinD (tupE ni x) (.tup (((allM (moreW s w)).filter fun x => decide (realM (moreW s w) x = c)).map (tupE ni))) = .ok (.bl false) := (notinD_tup (f := tupE ni) (show 0 + 1 ≤ 59 by omega) x _).trans (by
      have : x ∈ (allM (moreW s w)).filter fun x => decide (realM (moreW s w) x = c) := List.mem_filter.mpr ⟨more_all g hn hw4 h1, by rw [more_real h4, h2]; simp⟩
      simp [this])
    refine ⟨_, ?_, some (tupE ni x), rfl⟩
    simp_arith [hlead2, hnin, hrx, h2, neD_enc (f := tupE ni) (show 0 + 1 ≤ 60 by omega)]
  rintro env ⟨x6, rfl⟩
  cases hi : insS s c with
  | true =>
    rw [hi] at hno
    by_cases hl : 1 < (ledS s c).length
    · simp_arith [List.length_map, hl, hno, hit, hit2, heqb]
    · simp_arith [List.length_map, hl, hno, hit, hit2, heqb]
  | false =>
    rw [hi] at hno n1
    have hl : 1 < (ledS s c).length := by
      have := not_one hch o hi
      rw [ledS, ledL, orb_eq o, its_length]
      dsimp only
      omega
    have h1 : itemD (.tup ((ledS s c).map (tupE ni))) (ni 1) = .ok (tupE ni (realM s c)) := itemD_tupE (by
      have := not_one hch o hi
      rw [ledS, ledL, orb_eq o, its_get _ _ (by show 1 < m; omega)]
      show some (stepM s c) = _
      rw [step_have hch])
    have hq : ledS s (realM s c) = (ledS s c).drop 1 := by
      rcases n4 with ⟨q, _⟩ | q
      · rw [hi] at q; cases q
      · exact q
    have hnel : neD (ledD s (realM s c)) (.tup [.tup (((ledS s c).drop 1).map (tupE ni)), .non]) = .ok (.bl false) := by
      have he : ledD s (realM s c) = .tup [.tup (((ledS s c).drop 1).map (tupE ni)), .non] := by
        rw [ledD, hq, placeO, n1]
        rfl
      have := neD_self (ledD_cmp s (realM s c))
      rw [he] at this ⊢
      exact this
    simp_arith [List.length_map, hl, hno, h1, hled3, hfr, hnel, hit, hit2, heqb]
noncomputable abbrev evD (s : Sheet) : D := .tup ((roundsM s).map (tupE (tupE ni)))
abbrev everyD (s : Sheet) : D := .lst ((allM s).map (tupE ni))
theorem rr_at (q : Bool) : itemD (.tup [.str [114, 101, 115, 116], .str [114, 111, 117, 110, 100]]) (ni (if q then 1 else 0)) = .ok (.str (if q then [114, 111, 117, 110, 100] else [114, 101, 115, 116])) := by
  cases q <;> rfl
theorem k33_turn (ns : List Int) {s : Sheet} (g : GS s) {w : List Nat} (gt : GS (moreW s w)) (hn : s.words.length ≤ 4) (hw4 : w.length ≤ 4) {r : List (List Nat)} (hr : r ∈ roundsM s) (x8 x9 x10 : Option D) : ∃ env', (bindT (.nm 8) (tupE (tupE ni) r) [some (.scr ns), some (shD s), some (.str w), some (shD (moreW s w)), some (boxE (wholeBox s)), some (everyD s), some (evD s), some (evD (moreW s w)), x8, x9, x10]).bind (evSs (run P33 11) [
        .ifS (.or (.o2 .notin (.var 8) (.var 7)) (.or (.o2 .lt (.call "drawn_in" [.var 3, .var 8]) (.call "drawn_in" [.var 1, .var 8])) (.o2 .ne (.o2 .item (.var 8) (.cst (ni 0))) (.o1 .min (.var 8)))))
          [
            .ret (.cst (.bl false))]
          [],
        .forS .enum (.var 8) (.cst .non) (.cst .non) (.p2 (.nm 9) (.nm 10))
          [
            .ifS (.o2 .ne (.call "real" [.var 1, .var 10]) (.o2 .item (.var 8) (.o2 .mod (.o2 .add (.var 9) (.cst (ni 1))) (.o1 .len (.var 8)))))
              [
                .ret (.cst (.bl false))]
              [],
            .ifS (.or (.o2 .ne (.call "end" [.var 1, .var 10]) (.o2 .item (.tup [.cst (.str [114,101,115,116]), .cst (.str [114,111,117,110,100])]) (.o1 .int (.o2 .gt (.o1 .len (.var 8)) (.cst (ni 1)))))) (.o2 .ne (.call "end" [.var 3, .var 10]) (.call "end" [.var 1, .var 10])))
              [
                .ret (.cst (.bl false))]
              []]]) = .ok (.nx env') ∧ ∃ x8 x9 x10, env' = [some (.scr ns), some (shD s), some (.str w), some (shD (moreW s w)), some (boxE (wholeBox s)), some (everyD s), some (evD s), some (evD (moreW s w)), x8, x9, x10] := by
  have hw := g.w3
  obtain ⟨hR, hrl, hra⟩ := rounds_is g hr
  have hfar := more_rounds (w := w) g (by omega) (by omega) hr
  have hdr := more_drawn (w := w) g (by omega) (by omega) r
  have hnin : notinD (tupE (tupE ni) r) (evD (moreW s w)) = .ok (.bl false) := (notinD_tup (f := tupE (tupE ni)) (show 0 + 1 + 1 ≤ 59 by omega) r _).trans (by simp [hfar])
  obtain ⟨x, hx⟩ : ∃ x, r[0]? = some x := by
    cases hr : r with
    | nil => exact absurd hr hR.ne
    | cons a b => exact ⟨a, rfl⟩
  have h1 : 1 ≤ r.length := by
    have := (List.getElem?_eq_some_iff.mp hx).1
    omega
  have hit : itemD (tupE (tupE ni) r) (ni 0) = .ok (tupE ni x) := itemD_tupE hx
  have hmin : minD (tupE (tupE ni) r) = .ok (tupE ni x) := minD_enc (f := tupE ni) inferInstance inferInstance (by omega) rfl (hR.min.trans hx)
  have hl : lenD (tupE (tupE ni) r) = .ok (ni r.length) := by rw [tupE, lenD_tup, List.length_map]
  simp_arith [hnin, drawn_in_run lb33 rfl rfl 5 g r, drawn_in_run lb33 rfl rfl 5 gt r, show ¬ (allM (moreW s w)).countP (fun x => decide (roundS (moreW s w) x = some r)) < (allM s).countP (fun x => decide (roundS s x = some r)) by omega, hit, hmin, neD_enc (f := tupE ni) (show 0 + 1 ≤ 60 by omega), walk_enum (tupE ni) (l := r) (a := tupE (tupE ni) r) rfl]
  refine forI_passE (pairE ni (tupE ni)) (fun env => ∃ x9 x10, env = [some (.scr ns), some (shD s), some (.str w), some (shD (moreW s w)), some (boxE (wholeBox s)), some (everyD s), some (evD s), some (evD (moreW s w)), some (tupE (tupE ni) r), x9, x10]) ⟨x9, x10, rfl⟩ ?_ ?_
  · rintro ⟨k, c⟩ hkc env ⟨x9, x10, rfl⟩
    obtain ⟨j, hj⟩ := List.mem_iff_getElem?.mp hkc
    rw [List.getElem?_zip_eq_some] at hj
    obtain ⟨j1, j2⟩ := hj
    have hjl : j < r.length := (List.getElem?_eq_some_iff.mp j2).1
    rw [List.getElem?_range' hjl] at j1
    have hk : j = k := by
      have := Option.some.inj j1
      dsimp only at this
      omega
    subst hk
    dsimp only at j2
    have hcr : c ∈ r := List.mem_of_getElem? j2
    obtain ⟨e3, e4⟩ := (mem_all g).mp (hra c hcr)
    have hre := real_run lb33.re lb33.tx lb33.hw 8 g (c := c) (by omega) e4
    have hat : itemD (tupE (tupE ni) r) (ni ((j + 1) % r.length)) = .ok (tupE ni (realM s c)) := itemD_tupE (round_at hR j2)
    have hen := end_run lb33 rfl 6 g e3
    have hen2 := end_run lb33 rfl 6 gt (c := c) e3
    obtain ⟨r1, r2, r3⟩ := round_led hR hcr
    obtain ⟨m, p, o, _⟩ := orbS g e3
    rw [(more_in o r2).2.2.2.2.1] at hen2
    rw [r3] at hen hen2
    refine ⟨_, ?_, some (ni j), some (tupE ni c), rfl⟩
    simp_arith [pairE, hre, hl, modD_ni h1, hat, neD_enc (f := tupE ni) (show 0 + 1 ≤ 60 by omega), hen, hen2, intD_bl]
    rw [rr_at, show (if decide (1 < r.length) = true then [114, 111, 117, 110, 100] else [114, 101, 115, 116]) = if r.length = 1 then [114, 101, 115, 116] else [114, 111, 117, 110, 100] by
      by_cases e : r.length = 1
      · simp [e]
      · rw [if_neg e, if_pos (by simp; omega)]]
    simp_arith [neS_self, hen, hen2]
  · rintro env ⟨x9, x10, rfl⟩
    exact ⟨_, rfl, _, _, _, rfl⟩
theorem pure_k33 (ns : List Int) (hns : ns.length ≤ 63) : run (progOf tab_k33) 12 "law" [.scr ns] = .ok (.bl true) := by
  rw [run_of (fn := fn_law_k33) rfl]
  have hm := mixed_run (P := P33) rfl rfl 9 ns 0 (by omega)
  have hm1 := mixed_run (P := P33) rfl rfl 9 ns 1 (by omega)
  have hS := goodN_ss (mixN ns 0) 4 (by omega) (by omega)
  have hg := law_good_sheet_run (P := P33) rfl rfl rfl rfl rfl rfl 7 (mixN ns 0) 4 (by omega) (by omega)
  generalize goodN (mixN ns 0) 4 = s at hS hg
  have hlt := law_letters_run (P := P33) rfl rfl 9 (mixN ns 1) 4 4 (by omega) (by omega) (by omega)
  have hwl := lettersN_len (mixN ns 1) 4 4
  generalize lettersN (mixN ns 1) 4 4 = w at hlt hwl
  have g := hS.gs (by omega)
  have hn : s.words.length ≤ 4 := hS.n8
  have gt := more_gs (w := w) g (by omega) (by omega)
  have hnt : (moreW s w).words.length ≤ 5 := by simp [moreW]; omega
  have hlim := allM_lim g
  have hlen := rounds_few g (by omega)
  have hw := g.w3
  have b := GB.whole g
  have bt := more_gb (w := w) b
  have hmore : D.tup [ni s.wide, .str s.frame, .tup (s.words.map D.str ++ [.str w])] = shD (moreW s w) := by
    simp [shD, moreW]
  have hadd : addD (.tup (s.words.map D.str)) (.tup [.str w]) = .ok (.tup (s.words.map D.str ++ [.str w])) := addD_tup (by simp; show _ ≤ 16777216; omega)
  have htr := truths_run (P := P33) rfl rfl rfl rfl rfl rfl 6 g b
  have htr2 := truths_run (P := P33) rfl rfl rfl rfl rfl rfl 6 gt bt
  have hbd := bounds_run (P := P33) rfl rfl 9 g b
  have hbd2 := bounds_run (P := P33) rfl rfl 9 gt bt
  rw [more_truths b] at htr2
  rw [more_bounds b] at hbd2
  have hntr : neD (.tup ((truthsM s (wholeBox s)).map (tupE ni))) (.tup ((truthsM s (wholeBox s)).map (tupE ni))) = .ok (.bl false) := neD_self (cmp60T (f := tupE ni) (by omega) _)
  have hnbd : neD (boxE (boundsM s (wholeBox s))) (boxE (boundsM s (wholeBox s))) = .ok (.bl false) := neD_self (cmp60T (f := pairE ni ni) (by omega) _)
  refine call_two 7 [some (.scr ns), some (shD s), some (.str w), some (shD (moreW s w)), some (boxE (wholeBox s)), some (everyD s), some (evD s), some (evD (moreW s w)), none, none, none] rfl ?_ ?_
  · simp_arith [fn_law_k33, List.take_succ_cons, List.take_zero, hm, hg, hm1, hlt, sh0, sh1, sh2, hadd, hmore, whole_box_run lb33.wb 10 g, htr, htr2, hntr, hbd, hbd2, hnbd, law_all_run (P := P33) rfl 10 g, rounds_run lb33 rfl rfl 5 g (by omega), rounds_run lb33 rfl rfl 5 gt hnt]
  simp_arith [fn_law_k33, List.drop_succ_cons, List.drop_zero]
  refine forI_pass (tupE (tupE ni)) (fun env => ∃ x8 x9 x10, env = [some (.scr ns), some (shD s), some (.str w), some (shD (moreW s w)), some (boxE (wholeBox s)), some (everyD s), some (evD s), some (evD (moreW s w)), x8, x9, x10]) ⟨none, none, none, rfl⟩ ?_ ?_
  · rintro r hr env ⟨x8, x9, x10, rfl⟩
    exact k33_turn ns g gt hn hwl hr x8 x9 x10
  rintro env ⟨x8, x9, x10, rfl⟩
  simp_arith []
  rw [compI_g (tupE (tupE ni)) (fun r => ni ((allM s).countP fun x => decide (roundS s x = some r))) (by omega)]
  rotate_left
  · intro r _
    simp_arith [drawn_in_run lb33 rfl rfl 5 g r]
  rw [show (roundsM s).map (fun r => ni ((allM s).countP fun x => decide (roundS s x = some r))) = ((roundsM s).map fun r => (allM s).countP fun x => decide (roundS s x = some r)).map ni by rw [List.map_map]; rfl]
  have hpart := rounds_part (s := s)
  rw [Nat.add_comm] at hpart
  simp_arith [sumD_lst, fallen_run lb33 rfl rfl 5 g, hpart, List.length_map]
  refine forI_pass (tupE ni) (fun env => ∃ x10, env = [some (.scr ns), some (shD s), some (.str w), some (shD (moreW s w)), some (boxE (wholeBox s)), some (everyD s), some (evD s), some (evD (moreW s w)), x8, x9, x10]) ⟨x10, rfl⟩ ?_ ?_
  · rintro c hc env ⟨x10, rfl⟩
    refine ⟨_, ?_, some (tupE ni c), rfl⟩
    simp_arith [still_run g gt (by omega) (by omega) hc]
  rintro env ⟨x10, rfl⟩
  simp_arith [List.length_map, more_many (w := w) g (by omega) (by omega)]
end OC

namespace OC
open PySem PySem.Spec PyProof.Rows L2
def topS (i : Nat) : Stmt := PySem.Challenge.pw_owncounts_k33_whole_words_behind.main.body.getD i (.Pass ⟨0, 0, 0, 0⟩)
set_option maxRecDepth 1000000 in
theorem ck_have_words : chkFn (progOf tab_k33) (constsOf con_k33) fn_have_words (topS 5) = true := by decide +kernel
set_option maxRecDepth 1000000 in
theorem ck_text_of : chkFn (progOf tab_k33) (constsOf con_k33) fn_text_of (topS 6) = true := by decide +kernel
set_option maxRecDepth 1000000 in
theorem ck_real : chkFn (progOf tab_k33) (constsOf con_k33) fn_real (topS 7) = true := by decide +kernel
set_option maxRecDepth 1000000 in
theorem ck_is_true : chkFn (progOf tab_k33) (constsOf con_k33) fn_is_true (topS 8) = true := by decide +kernel
set_option maxRecDepth 1000000 in
theorem ck_all_in : chkFn (progOf tab_k33) (constsOf con_k33) fn_all_in (topS 9) = true := by decide +kernel
set_option maxRecDepth 1000000 in
theorem ck_whole_box : chkFn (progOf tab_k33) (constsOf con_k33) fn_whole_box (topS 10) = true := by decide +kernel
set_option maxRecDepth 1000000 in
theorem ck_all_counts : chkFn (progOf tab_k33) (constsOf con_k33) fn_all_counts (topS 11) = true := by decide +kernel
set_option maxRecDepth 1000000 in
theorem ck_led : chkFn (progOf tab_k33) (constsOf con_k33) fn_led (topS 13) = true := by decide +kernel
set_option maxRecDepth 1000000 in
theorem ck_end : chkFn (progOf tab_k33) (constsOf con_k33) fn_end (topS 14) = true := by decide +kernel
set_option maxRecDepth 1000000 in
theorem ck_round_from : chkFn (progOf tab_k33) (constsOf con_k33) fn_round_from (topS 15) = true := by decide +kernel
set_option maxRecDepth 1000000 in
theorem ck_rounds : chkFn (progOf tab_k33) (constsOf con_k33) fn_rounds (topS 16) = true := by decide +kernel
set_option maxRecDepth 1000000 in
theorem ck_leading : chkFn (progOf tab_k33) (constsOf con_k33) fn_leading (topS 17) = true := by decide +kernel
set_option maxRecDepth 1000000 in
theorem ck_drawn_in : chkFn (progOf tab_k33) (constsOf con_k33) fn_drawn_in (topS 18) = true := by decide +kernel
set_option maxRecDepth 1000000 in
theorem ck_fallen : chkFn (progOf tab_k33) (constsOf con_k33) fn_fallen (topS 19) = true := by decide +kernel
set_option maxRecDepth 1000000 in
theorem ck_truths : chkFn (progOf tab_k33) (constsOf con_k33) fn_truths (topS 21) = true := by decide +kernel
set_option maxRecDepth 1000000 in
theorem ck_bounds_of : chkFn (progOf tab_k33) (constsOf con_k33) fn_bounds_of (topS 22) = true := by decide +kernel
set_option maxRecDepth 1000000 in
theorem ck_bounds : chkFn (progOf tab_k33) (constsOf con_k33) fn_bounds (topS 23) = true := by decide +kernel
set_option maxRecDepth 1000000 in
theorem ck_law_cell_at : chkFn (progOf tab_k33) (constsOf con_k33) fn_law_cell_at (topS 25) = true := by decide +kernel
set_option maxRecDepth 1000000 in
theorem ck_law_mixed : chkFn (progOf tab_k33) (constsOf con_k33) fn_law_mixed (topS 26) = true := by decide +kernel
set_option maxRecDepth 1000000 in
theorem ck_law_drawn : chkFn (progOf tab_k33) (constsOf con_k33) fn_law_drawn (topS 27) = true := by decide +kernel
set_option maxRecDepth 1000000 in
theorem ck_law_letters : chkFn (progOf tab_k33) (constsOf con_k33) fn_law_letters (topS 28) = true := by decide +kernel
set_option maxRecDepth 1000000 in
theorem ck_law_sheet : chkFn (progOf tab_k33) (constsOf con_k33) fn_law_sheet (topS 29) = true := by decide +kernel
set_option maxRecDepth 1000000 in
theorem ck_law_real : chkFn (progOf tab_k33) (constsOf con_k33) fn_law_real (topS 30) = true := by decide +kernel
set_option maxRecDepth 1000000 in
theorem ck_law_all : chkFn (progOf tab_k33) (constsOf con_k33) fn_law_all (topS 31) = true := by decide +kernel
set_option maxRecDepth 1000000 in
theorem ck_law_good_sheet : chkFn (progOf tab_k33) (constsOf con_k33) fn_law_good_sheet (topS 32) = true := by decide +kernel
set_option maxRecDepth 1000000 in
theorem ck_law_led_still : chkFn (progOf tab_k33) (constsOf con_k33) fn_law_led_still (topS 33) = true := by decide +kernel
set_option maxRecDepth 1000000 in
theorem ck_law : chkFn (progOf tab_k33) (constsOf con_k33) fn_law_k33 (topS 34) = true := by decide +kernel
theorem all_mk {l : PySem.W.OpenLaw} {w : World} {K : PySem.W.Frag} {h : Heap} {mg : Str → Option Value} {fa : Addr} (X : K.In h) (G : h.Ns mainGlobals mg) (hfa : mg "law" = some (.ref fa))
    {od0 an0 : Option Addr} {sl0 : Array (Option Value)} {oc0 kV0 dc0 pm0 cd0 ct0 : Value} {f0 : Addr}
    {od1 an1 : Option Addr} {sl1 : Array (Option Value)} {oc1 kV1 dc1 pm1 cd1 ct1 : Value} {f1 : Addr}
    {od2 an2 : Option Addr} {sl2 : Array (Option Value)} {oc2 kV2 dc2 pm2 cd2 ct2 : Value} {f2 : Addr}
    {od3 an3 : Option Addr} {sl3 : Array (Option Value)} {oc3 kV3 dc3 pm3 cd3 ct3 : Value} {f3 : Addr}
    {od4 an4 : Option Addr} {sl4 : Array (Option Value)} {oc4 kV4 dc4 pm4 cd4 ct4 : Value} {f4 : Addr}
    {od5 an5 : Option Addr} {sl5 : Array (Option Value)} {oc5 kV5 dc5 pm5 cd5 ct5 : Value} {f5 : Addr}
    {od6 an6 : Option Addr} {sl6 : Array (Option Value)} {oc6 kV6 dc6 pm6 cd6 ct6 : Value} {f6 : Addr}
    {od7 an7 : Option Addr} {sl7 : Array (Option Value)} {oc7 kV7 dc7 pm7 cd7 ct7 : Value} {f7 : Addr}
    {od8 an8 : Option Addr} {sl8 : Array (Option Value)} {oc8 kV8 dc8 pm8 cd8 ct8 : Value} {f8 : Addr}
    {od9 an9 : Option Addr} {sl9 : Array (Option Value)} {oc9 kV9 dc9 pm9 cd9 ct9 : Value} {f9 : Addr}
    {od10 an10 : Option Addr} {sl10 : Array (Option Value)} {oc10 kV10 dc10 pm10 cd10 ct10 : Value} {f10 : Addr}
    {od11 an11 : Option Addr} {sl11 : Array (Option Value)} {oc11 kV11 dc11 pm11 cd11 ct11 : Value} {f11 : Addr}
    {od12 an12 : Option Addr} {sl12 : Array (Option Value)} {oc12 kV12 dc12 pm12 cd12 ct12 : Value} {f12 : Addr}
    {od13 an13 : Option Addr} {sl13 : Array (Option Value)} {oc13 kV13 dc13 pm13 cd13 ct13 : Value} {f13 : Addr}
    {od14 an14 : Option Addr} {sl14 : Array (Option Value)} {oc14 kV14 dc14 pm14 cd14 ct14 : Value} {f14 : Addr}
    {od15 an15 : Option Addr} {sl15 : Array (Option Value)} {oc15 kV15 dc15 pm15 cd15 ct15 : Value} {f15 : Addr}
    {od16 an16 : Option Addr} {sl16 : Array (Option Value)} {oc16 kV16 dc16 pm16 cd16 ct16 : Value} {f16 : Addr}
    {od17 an17 : Option Addr} {sl17 : Array (Option Value)} {oc17 kV17 dc17 pm17 cd17 ct17 : Value} {f17 : Addr}
    {od18 an18 : Option Addr} {sl18 : Array (Option Value)} {oc18 kV18 dc18 pm18 cd18 ct18 : Value} {f18 : Addr}
    {od19 an19 : Option Addr} {sl19 : Array (Option Value)} {oc19 kV19 dc19 pm19 cd19 ct19 : Value} {f19 : Addr}
    {od20 an20 : Option Addr} {sl20 : Array (Option Value)} {oc20 kV20 dc20 pm20 cd20 ct20 : Value} {f20 : Addr}
    {od21 an21 : Option Addr} {sl21 : Array (Option Value)} {oc21 kV21 dc21 pm21 cd21 ct21 : Value} {f21 : Addr}
    {od22 an22 : Option Addr} {sl22 : Array (Option Value)} {oc22 kV22 dc22 pm22 cd22 ct22 : Value} {f22 : Addr}
    {od23 an23 : Option Addr} {sl23 : Array (Option Value)} {oc23 kV23 dc23 pm23 cd23 ct23 : Value} {f23 : Addr}
    {od24 an24 : Option Addr} {sl24 : Array (Option Value)} {oc24 kV24 dc24 pm24 cd24 ct24 : Value} {f24 : Addr}
    {od25 an25 : Option Addr} {sl25 : Array (Option Value)} {oc25 kV25 dc25 pm25 cd25 ct25 : Value} {f25 : Addr}
    {od26 an26 : Option Addr} {sl26 : Array (Option Value)} {oc26 kV26 dc26 pm26 cd26 ct26 : Value} {f26 : Addr}
    {tk0 : Tok}
    (a0 : PySem.W.nsIn K mainGlobals "have_words" = some (some (.ref f0))) (l0 : K.lookup f0 = some ⟨oc0, od0, .func (PySem.W.fnOf "have_words" "have_words" (defArgs (topS 5)) (defBody (topS 5)) (defScope (topS 5)) .none kV0 dc0 pm0 an0 cd0 ct0), sl0⟩) (c0 : PySem.W.codeIn K cd0 "have_words" = true) (k0 : PySem.W.keepIn K (.ref f0) = true)
    (a1 : PySem.W.nsIn K mainGlobals "text_of" = some (some (.ref f1))) (l1 : K.lookup f1 = some ⟨oc1, od1, .func (PySem.W.fnOf "text_of" "text_of" (defArgs (topS 6)) (defBody (topS 6)) (defScope (topS 6)) .none kV1 dc1 pm1 an1 cd1 ct1), sl1⟩) (c1 : PySem.W.codeIn K cd1 "text_of" = true) (k1 : PySem.W.keepIn K (.ref f1) = true)
    (a2 : PySem.W.nsIn K mainGlobals "real" = some (some (.ref f2))) (l2 : K.lookup f2 = some ⟨oc2, od2, .func (PySem.W.fnOf "real" "real" (defArgs (topS 7)) (defBody (topS 7)) (defScope (topS 7)) .none kV2 dc2 pm2 an2 cd2 ct2), sl2⟩) (c2 : PySem.W.codeIn K cd2 "real" = true) (k2 : PySem.W.keepIn K (.ref f2) = true)
    (a3 : PySem.W.nsIn K mainGlobals "is_true" = some (some (.ref f3))) (l3 : K.lookup f3 = some ⟨oc3, od3, .func (PySem.W.fnOf "is_true" "is_true" (defArgs (topS 8)) (defBody (topS 8)) (defScope (topS 8)) .none kV3 dc3 pm3 an3 cd3 ct3), sl3⟩) (c3 : PySem.W.codeIn K cd3 "is_true" = true) (k3 : PySem.W.keepIn K (.ref f3) = true)
    (a4 : PySem.W.nsIn K mainGlobals "all_in" = some (some (.ref f4))) (l4 : K.lookup f4 = some ⟨oc4, od4, .func (PySem.W.fnOf "all_in" "all_in" (defArgs (topS 9)) (defBody (topS 9)) (defScope (topS 9)) .none kV4 dc4 pm4 an4 cd4 ct4), sl4⟩) (c4 : PySem.W.codeIn K cd4 "all_in" = true) (k4 : PySem.W.keepIn K (.ref f4) = true)
    (a5 : PySem.W.nsIn K mainGlobals "whole_box" = some (some (.ref f5))) (l5 : K.lookup f5 = some ⟨oc5, od5, .func (PySem.W.fnOf "whole_box" "whole_box" (defArgs (topS 10)) (defBody (topS 10)) (defScope (topS 10)) .none kV5 dc5 pm5 an5 cd5 ct5), sl5⟩) (c5 : PySem.W.codeIn K cd5 "whole_box" = true) (k5 : PySem.W.keepIn K (.ref f5) = true)
    (a6 : PySem.W.nsIn K mainGlobals "all_counts" = some (some (.ref f6))) (l6 : K.lookup f6 = some ⟨oc6, od6, .func (PySem.W.fnOf "all_counts" "all_counts" (defArgs (topS 11)) (defBody (topS 11)) (defScope (topS 11)) .none kV6 dc6 pm6 an6 cd6 ct6), sl6⟩) (c6 : PySem.W.codeIn K cd6 "all_counts" = true) (k6 : PySem.W.keepIn K (.ref f6) = true)
    (a7 : PySem.W.nsIn K mainGlobals "led" = some (some (.ref f7))) (l7 : K.lookup f7 = some ⟨oc7, od7, .func (PySem.W.fnOf "led" "led" (defArgs (topS 13)) (defBody (topS 13)) (defScope (topS 13)) .none kV7 dc7 pm7 an7 cd7 ct7), sl7⟩) (c7 : PySem.W.codeIn K cd7 "led" = true) (k7 : PySem.W.keepIn K (.ref f7) = true)
    (a8 : PySem.W.nsIn K mainGlobals "end" = some (some (.ref f8))) (l8 : K.lookup f8 = some ⟨oc8, od8, .func (PySem.W.fnOf "end" "end" (defArgs (topS 14)) (defBody (topS 14)) (defScope (topS 14)) .none kV8 dc8 pm8 an8 cd8 ct8), sl8⟩) (c8 : PySem.W.codeIn K cd8 "end" = true) (k8 : PySem.W.keepIn K (.ref f8) = true)
    (a9 : PySem.W.nsIn K mainGlobals "round_from" = some (some (.ref f9))) (l9 : K.lookup f9 = some ⟨oc9, od9, .func (PySem.W.fnOf "round_from" "round_from" (defArgs (topS 15)) (defBody (topS 15)) (defScope (topS 15)) .none kV9 dc9 pm9 an9 cd9 ct9), sl9⟩) (c9 : PySem.W.codeIn K cd9 "round_from" = true) (k9 : PySem.W.keepIn K (.ref f9) = true)
    (a10 : PySem.W.nsIn K mainGlobals "rounds" = some (some (.ref f10))) (l10 : K.lookup f10 = some ⟨oc10, od10, .func (PySem.W.fnOf "rounds" "rounds" (defArgs (topS 16)) (defBody (topS 16)) (defScope (topS 16)) .none kV10 dc10 pm10 an10 cd10 ct10), sl10⟩) (c10 : PySem.W.codeIn K cd10 "rounds" = true) (k10 : PySem.W.keepIn K (.ref f10) = true)
    (a11 : PySem.W.nsIn K mainGlobals "leading" = some (some (.ref f11))) (l11 : K.lookup f11 = some ⟨oc11, od11, .func (PySem.W.fnOf "leading" "leading" (defArgs (topS 17)) (defBody (topS 17)) (defScope (topS 17)) .none kV11 dc11 pm11 an11 cd11 ct11), sl11⟩) (c11 : PySem.W.codeIn K cd11 "leading" = true) (k11 : PySem.W.keepIn K (.ref f11) = true)
    (a12 : PySem.W.nsIn K mainGlobals "drawn_in" = some (some (.ref f12))) (l12 : K.lookup f12 = some ⟨oc12, od12, .func (PySem.W.fnOf "drawn_in" "drawn_in" (defArgs (topS 18)) (defBody (topS 18)) (defScope (topS 18)) .none kV12 dc12 pm12 an12 cd12 ct12), sl12⟩) (c12 : PySem.W.codeIn K cd12 "drawn_in" = true) (k12 : PySem.W.keepIn K (.ref f12) = true)
    (a13 : PySem.W.nsIn K mainGlobals "fallen" = some (some (.ref f13))) (l13 : K.lookup f13 = some ⟨oc13, od13, .func (PySem.W.fnOf "fallen" "fallen" (defArgs (topS 19)) (defBody (topS 19)) (defScope (topS 19)) .none kV13 dc13 pm13 an13 cd13 ct13), sl13⟩) (c13 : PySem.W.codeIn K cd13 "fallen" = true) (k13 : PySem.W.keepIn K (.ref f13) = true)
    (a14 : PySem.W.nsIn K mainGlobals "truths" = some (some (.ref f14))) (l14 : K.lookup f14 = some ⟨oc14, od14, .func (PySem.W.fnOf "truths" "truths" (defArgs (topS 21)) (defBody (topS 21)) (defScope (topS 21)) .none kV14 dc14 pm14 an14 cd14 ct14), sl14⟩) (c14 : PySem.W.codeIn K cd14 "truths" = true) (k14 : PySem.W.keepIn K (.ref f14) = true)
    (a15 : PySem.W.nsIn K mainGlobals "bounds_of" = some (some (.ref f15))) (l15 : K.lookup f15 = some ⟨oc15, od15, .func (PySem.W.fnOf "bounds_of" "bounds_of" (defArgs (topS 22)) (defBody (topS 22)) (defScope (topS 22)) .none kV15 dc15 pm15 an15 cd15 ct15), sl15⟩) (c15 : PySem.W.codeIn K cd15 "bounds_of" = true) (k15 : PySem.W.keepIn K (.ref f15) = true)
    (a16 : PySem.W.nsIn K mainGlobals "bounds" = some (some (.ref f16))) (l16 : K.lookup f16 = some ⟨oc16, od16, .func (PySem.W.fnOf "bounds" "bounds" (defArgs (topS 23)) (defBody (topS 23)) (defScope (topS 23)) .none kV16 dc16 pm16 an16 cd16 ct16), sl16⟩) (c16 : PySem.W.codeIn K cd16 "bounds" = true) (k16 : PySem.W.keepIn K (.ref f16) = true)
    (a17 : PySem.W.nsIn K mainGlobals "_law_cell_at" = some (some (.ref f17))) (l17 : K.lookup f17 = some ⟨oc17, od17, .func (PySem.W.fnOf "_law_cell_at" "_law_cell_at" (defArgs (topS 25)) (defBody (topS 25)) (defScope (topS 25)) .none kV17 dc17 pm17 an17 cd17 ct17), sl17⟩) (c17 : PySem.W.codeIn K cd17 "_law_cell_at" = true) (k17 : PySem.W.keepIn K (.ref f17) = true)
    (a18 : PySem.W.nsIn K mainGlobals "_law_mixed" = some (some (.ref f18))) (l18 : K.lookup f18 = some ⟨oc18, od18, .func (PySem.W.fnOf "_law_mixed" "_law_mixed" (defArgs (topS 26)) (defBody (topS 26)) (defScope (topS 26)) .none kV18 dc18 pm18 an18 cd18 ct18), sl18⟩) (c18 : PySem.W.codeIn K cd18 "_law_mixed" = true) (k18 : PySem.W.keepIn K (.ref f18) = true)
    (a19 : PySem.W.nsIn K mainGlobals "_law_drawn" = some (some (.ref f19))) (l19 : K.lookup f19 = some ⟨oc19, od19, .func (PySem.W.fnOf "_law_drawn" "_law_drawn" (defArgs (topS 27)) (defBody (topS 27)) (defScope (topS 27)) .none kV19 dc19 pm19 an19 cd19 ct19), sl19⟩) (c19 : PySem.W.codeIn K cd19 "_law_drawn" = true) (k19 : PySem.W.keepIn K (.ref f19) = true)
    (a20 : PySem.W.nsIn K mainGlobals "_law_letters" = some (some (.ref f20))) (l20 : K.lookup f20 = some ⟨oc20, od20, .func (PySem.W.fnOf "_law_letters" "_law_letters" (defArgs (topS 28)) (defBody (topS 28)) (defScope (topS 28)) .none kV20 dc20 pm20 an20 cd20 ct20), sl20⟩) (c20 : PySem.W.codeIn K cd20 "_law_letters" = true) (k20 : PySem.W.keepIn K (.ref f20) = true)
    (a21 : PySem.W.nsIn K mainGlobals "_law_sheet" = some (some (.ref f21))) (l21 : K.lookup f21 = some ⟨oc21, od21, .func (PySem.W.fnOf "_law_sheet" "_law_sheet" (defArgs (topS 29)) (defBody (topS 29)) (defScope (topS 29)) .none kV21 dc21 pm21 an21 cd21 ct21), sl21⟩) (c21 : PySem.W.codeIn K cd21 "_law_sheet" = true) (k21 : PySem.W.keepIn K (.ref f21) = true)
    (a22 : PySem.W.nsIn K mainGlobals "_law_real" = some (some (.ref f22))) (l22 : K.lookup f22 = some ⟨oc22, od22, .func (PySem.W.fnOf "_law_real" "_law_real" (defArgs (topS 30)) (defBody (topS 30)) (defScope (topS 30)) .none kV22 dc22 pm22 an22 cd22 ct22), sl22⟩) (c22 : PySem.W.codeIn K cd22 "_law_real" = true) (k22 : PySem.W.keepIn K (.ref f22) = true)
    (a23 : PySem.W.nsIn K mainGlobals "_law_all" = some (some (.ref f23))) (l23 : K.lookup f23 = some ⟨oc23, od23, .func (PySem.W.fnOf "_law_all" "_law_all" (defArgs (topS 31)) (defBody (topS 31)) (defScope (topS 31)) .none kV23 dc23 pm23 an23 cd23 ct23), sl23⟩) (c23 : PySem.W.codeIn K cd23 "_law_all" = true) (k23 : PySem.W.keepIn K (.ref f23) = true)
    (a24 : PySem.W.nsIn K mainGlobals "_law_good_sheet" = some (some (.ref f24))) (l24 : K.lookup f24 = some ⟨oc24, od24, .func (PySem.W.fnOf "_law_good_sheet" "_law_good_sheet" (defArgs (topS 32)) (defBody (topS 32)) (defScope (topS 32)) .none kV24 dc24 pm24 an24 cd24 ct24), sl24⟩) (c24 : PySem.W.codeIn K cd24 "_law_good_sheet" = true) (k24 : PySem.W.keepIn K (.ref f24) = true)
    (a25 : PySem.W.nsIn K mainGlobals "_law_led_still" = some (some (.ref f25))) (l25 : K.lookup f25 = some ⟨oc25, od25, .func (PySem.W.fnOf "_law_led_still" "_law_led_still" (defArgs (topS 33)) (defBody (topS 33)) (defScope (topS 33)) .none kV25 dc25 pm25 an25 cd25 ct25), sl25⟩) (c25 : PySem.W.codeIn K cd25 "_law_led_still" = true) (k25 : PySem.W.keepIn K (.ref f25) = true)
    (a26 : PySem.W.nsIn K mainGlobals "law" = some (some (.ref f26))) (l26 : K.lookup f26 = some ⟨oc26, od26, .func (PySem.W.fnOf "law" "law" (defArgs (topS 34)) (defBody (topS 34)) (defScope (topS 34)) .none kV26 dc26 pm26 an26 cd26 ct26), sl26⟩) (c26 : PySem.W.codeIn K cd26 "law" = true) (k26 : PySem.W.keepIn K (.ref f26) = true)
    (q0 : PySem.W.nsIn K mainGlobals "LETTERS" = some (some (.str (Str.ofString "abcd") tk0)))
    (z0 : PySem.W.nsIn K mainGlobals "len" = some none)
    (z1 : PySem.W.nsIn K mainGlobals "range" = some none)
    (z2 : PySem.W.nsIn K mainGlobals "tuple" = some none)
    (z3 : PySem.W.nsIn K mainGlobals "list" = some none)
    (z4 : PySem.W.nsIn K mainGlobals "sorted" = some none)
    (z5 : PySem.W.nsIn K mainGlobals "sum" = some none)
    (z6 : PySem.W.nsIn K mainGlobals "min" = some none)
    (z7 : PySem.W.nsIn K mainGlobals "max" = some none)
    (z8 : PySem.W.nsIn K mainGlobals "all" = some none)
    (z9 : PySem.W.nsIn K mainGlobals "str" = some none)
    (z10 : PySem.W.nsIn K mainGlobals "int" = some none)
    (z11 : PySem.W.nsIn K mainGlobals "isinstance" = some none)
    (z12 : PySem.W.nsIn K mainGlobals "bool" = some none)
    (z13 : PySem.W.nsIn K mainGlobals "enumerate" = some none)
    (z14 : PySem.W.nsIn K mainGlobals "zip" = some none)
    (z15 : PySem.W.nsIn K mainGlobals "set" = some none) :
    ∃ fd : FuncData, (∀ (s : Shared) (v : Value), BindsTo s fd ⟨[v], []⟩ [("script", v)]) ∧ ∀ base : Heap, K.In base → base.Ns mainGlobals mg → FnOk l.prog w K mg base CX0 12 fa fd ["script"] (spOf K 1 (run (progOf tab_k33) 12 "law")) := by
  have e := hfa.symm.trans (PySem.W.mg_of X G a26)
  cases e
  have F0 := fun_mk (st := topS 5) l0 c0 k0
  have T0 : Tab K mg "have_words" fn_have_words (topS 5) := ⟨_, _, F0, PySem.W.mg_of X G a0, F0.binds (ps := ["sheet", "counts"]) fun _ _ _ _ _ _ us hl => match us, hl with | [_, _], _ => rfl⟩
  have F1 := fun_mk (st := topS 6) l1 c1 k1
  have T1 : Tab K mg "text_of" fn_text_of (topS 6) := ⟨_, _, F1, PySem.W.mg_of X G a1, F1.binds (ps := ["sheet", "counts"]) fun _ _ _ _ _ _ us hl => match us, hl with | [_, _], _ => rfl⟩
  have F2 := fun_mk (st := topS 7) l2 c2 k2
  have T2 : Tab K mg "real" fn_real (topS 7) := ⟨_, _, F2, PySem.W.mg_of X G a2, F2.binds (ps := ["sheet", "counts"]) fun _ _ _ _ _ _ us hl => match us, hl with | [_, _], _ => rfl⟩
  have F3 := fun_mk (st := topS 8) l3 c3 k3
  have T3 : Tab K mg "is_true" fn_is_true (topS 8) := ⟨_, _, F3, PySem.W.mg_of X G a3, F3.binds (ps := ["sheet", "counts"]) fun _ _ _ _ _ _ us hl => match us, hl with | [_, _], _ => rfl⟩
  have F4 := fun_mk (st := topS 9) l4 c4 k4
  have T4 : Tab K mg "all_in" fn_all_in (topS 9) := ⟨_, _, F4, PySem.W.mg_of X G a4, F4.binds (ps := ["box"]) fun _ _ _ _ _ _ us hl => match us, hl with | [_], _ => rfl⟩
  have F5 := fun_mk (st := topS 10) l5 c5 k5
  have T5 : Tab K mg "whole_box" fn_whole_box (topS 10) := ⟨_, _, F5, PySem.W.mg_of X G a5, F5.binds (ps := ["sheet"]) fun _ _ _ _ _ _ us hl => match us, hl with | [_], _ => rfl⟩
  have F6 := fun_mk (st := topS 11) l6 c6 k6
  have T6 : Tab K mg "all_counts" fn_all_counts (topS 11) := ⟨_, _, F6, PySem.W.mg_of X G a6, F6.binds (ps := ["sheet"]) fun _ _ _ _ _ _ us hl => match us, hl with | [_], _ => rfl⟩
  have F7 := fun_mk (st := topS 13) l7 c7 k7
  have T7 : Tab K mg "led" fn_led (topS 13) := ⟨_, _, F7, PySem.W.mg_of X G a7, F7.binds (ps := ["sheet", "counts"]) fun _ _ _ _ _ _ us hl => match us, hl with | [_, _], _ => rfl⟩
  have F8 := fun_mk (st := topS 14) l8 c8 k8
  have T8 : Tab K mg "end" fn_end (topS 14) := ⟨_, _, F8, PySem.W.mg_of X G a8, F8.binds (ps := ["sheet", "counts"]) fun _ _ _ _ _ _ us hl => match us, hl with | [_, _], _ => rfl⟩
  have F9 := fun_mk (st := topS 15) l9 c9 k9
  have T9 : Tab K mg "round_from" fn_round_from (topS 15) := ⟨_, _, F9, PySem.W.mg_of X G a9, F9.binds (ps := ["sheet", "counts"]) fun _ _ _ _ _ _ us hl => match us, hl with | [_, _], _ => rfl⟩
  have F10 := fun_mk (st := topS 16) l10 c10 k10
  have T10 : Tab K mg "rounds" fn_rounds (topS 16) := ⟨_, _, F10, PySem.W.mg_of X G a10, F10.binds (ps := ["sheet"]) fun _ _ _ _ _ _ us hl => match us, hl with | [_], _ => rfl⟩
  have F11 := fun_mk (st := topS 17) l11 c11 k11
  have T11 : Tab K mg "leading" fn_leading (topS 17) := ⟨_, _, F11, PySem.W.mg_of X G a11, F11.binds (ps := ["sheet", "counts"]) fun _ _ _ _ _ _ us hl => match us, hl with | [_, _], _ => rfl⟩
  have F12 := fun_mk (st := topS 18) l12 c12 k12
  have T12 : Tab K mg "drawn_in" fn_drawn_in (topS 18) := ⟨_, _, F12, PySem.W.mg_of X G a12, F12.binds (ps := ["sheet", "its"]) fun _ _ _ _ _ _ us hl => match us, hl with | [_, _], _ => rfl⟩
  have F13 := fun_mk (st := topS 19) l13 c13 k13
  have T13 : Tab K mg "fallen" fn_fallen (topS 19) := ⟨_, _, F13, PySem.W.mg_of X G a13, F13.binds (ps := ["sheet"]) fun _ _ _ _ _ _ us hl => match us, hl with | [_], _ => rfl⟩
  have F14 := fun_mk (st := topS 21) l14 c14 k14
  have T14 : Tab K mg "truths" fn_truths (topS 21) := ⟨_, _, F14, PySem.W.mg_of X G a14, F14.binds (ps := ["sheet", "box"]) fun _ _ _ _ _ _ us hl => match us, hl with | [_, _], _ => rfl⟩
  have F15 := fun_mk (st := topS 22) l15 c15 k15
  have T15 : Tab K mg "bounds_of" fn_bounds_of (topS 22) := ⟨_, _, F15, PySem.W.mg_of X G a15, F15.binds (ps := ["sheet", "box", "letter"]) fun _ _ _ _ _ _ us hl => match us, hl with | [_, _, _], _ => rfl⟩
  have F16 := fun_mk (st := topS 23) l16 c16 k16
  have T16 : Tab K mg "bounds" fn_bounds (topS 23) := ⟨_, _, F16, PySem.W.mg_of X G a16, F16.binds (ps := ["sheet", "box"]) fun _ _ _ _ _ _ us hl => match us, hl with | [_, _], _ => rfl⟩
  have F17 := fun_mk (st := topS 25) l17 c17 k17
  have T17 : Tab K mg "_law_cell_at" fn_law_cell_at (topS 25) := ⟨_, _, F17, PySem.W.mg_of X G a17, F17.binds (ps := ["script", "k"]) fun _ _ _ _ _ _ us hl => match us, hl with | [_, _], _ => rfl⟩
  have F18 := fun_mk (st := topS 26) l18 c18 k18
  have T18 : Tab K mg "_law_mixed" fn_law_mixed (topS 26) := ⟨_, _, F18, PySem.W.mg_of X G a18, F18.binds (ps := ["script", "k"]) fun _ _ _ _ _ _ us hl => match us, hl with | [_, _], _ => rfl⟩
  have F19 := fun_mk (st := topS 27) l19 c19 k19
  have T19 : Tab K mg "_law_drawn" fn_law_drawn (topS 27) := ⟨_, _, F19, PySem.W.mg_of X G a19, F19.binds (ps := ["number", "k"]) fun _ _ _ _ _ _ us hl => match us, hl with | [_, _], _ => rfl⟩
  have F20 := fun_mk (st := topS 28) l20 c20 k20
  have T20 : Tab K mg "_law_letters" fn_law_letters (topS 28) := ⟨_, _, F20, PySem.W.mg_of X G a20, F20.binds (ps := ["number", "most", "of"]) fun _ _ _ _ _ _ us hl => match us, hl with | [_, _, _], _ => rfl⟩
  have F21 := fun_mk (st := topS 29) l21 c21 k21
  have T21 : Tab K mg "_law_sheet" fn_law_sheet (topS 29) := ⟨_, _, F21, PySem.W.mg_of X G a21, F21.binds (ps := ["number", "most"]) fun _ _ _ _ _ _ us hl => match us, hl with | [_, _], _ => rfl⟩
  have F22 := fun_mk (st := topS 30) l22 c22 k22
  have T22 : Tab K mg "_law_real" fn_law_real (topS 30) := ⟨_, _, F22, PySem.W.mg_of X G a22, F22.binds (ps := ["sheet", "counts"]) fun _ _ _ _ _ _ us hl => match us, hl with | [_, _], _ => rfl⟩
  have F23 := fun_mk (st := topS 31) l23 c23 k23
  have T23 : Tab K mg "_law_all" fn_law_all (topS 31) := ⟨_, _, F23, PySem.W.mg_of X G a23, F23.binds (ps := ["sheet"]) fun _ _ _ _ _ _ us hl => match us, hl with | [_], _ => rfl⟩
  have F24 := fun_mk (st := topS 32) l24 c24 k24
  have T24 : Tab K mg "_law_good_sheet" fn_law_good_sheet (topS 32) := ⟨_, _, F24, PySem.W.mg_of X G a24, F24.binds (ps := ["number", "most"]) fun _ _ _ _ _ _ us hl => match us, hl with | [_, _], _ => rfl⟩
  have F25 := fun_mk (st := topS 33) l25 c25 k25
  have T25 : Tab K mg "_law_led_still" fn_law_led_still (topS 33) := ⟨_, _, F25, PySem.W.mg_of X G a25, F25.binds (ps := ["sheet", "more", "counts"]) fun _ _ _ _ _ _ us hl => match us, hl with | [_, _, _], _ => rfl⟩
  have F26 := fun_mk (st := topS 34) l26 c26 k26
  have T26 : Tab K mg "law" fn_law_k33 (topS 34) := ⟨_, _, F26, PySem.W.mg_of X G a26, F26.binds (ps := ["script"]) fun _ _ _ _ _ _ us hl => match us, hl with | [_], _ => rfl⟩
  have tab : AllTab K mg (progOf tab_k33) (constsOf con_k33) tab_k33 := ⟨⟨_, T0, ck_have_words⟩, ⟨_, T1, ck_text_of⟩, ⟨_, T2, ck_real⟩, ⟨_, T3, ck_is_true⟩, ⟨_, T4, ck_all_in⟩, ⟨_, T5, ck_whole_box⟩, ⟨_, T6, ck_all_counts⟩, ⟨_, T7, ck_led⟩, ⟨_, T8, ck_end⟩, ⟨_, T9, ck_round_from⟩, ⟨_, T10, ck_rounds⟩, ⟨_, T11, ck_leading⟩, ⟨_, T12, ck_drawn_in⟩, ⟨_, T13, ck_fallen⟩, ⟨_, T14, ck_truths⟩, ⟨_, T15, ck_bounds_of⟩, ⟨_, T16, ck_bounds⟩, ⟨_, T17, ck_law_cell_at⟩, ⟨_, T18, ck_law_mixed⟩, ⟨_, T19, ck_law_drawn⟩, ⟨_, T20, ck_law_letters⟩, ⟨_, T21, ck_law_sheet⟩, ⟨_, T22, ck_law_real⟩, ⟨_, T23, ck_law_all⟩, ⟨_, T24, ck_law_good_sheet⟩, ⟨_, T25, ck_law_led_still⟩, ⟨_, T26, ck_law⟩, trivial⟩
  have cs : AllC mg con_k33 := ⟨⟨tk0, (PySem.W.mg_of X G q0).trans (congrArg (fun z => some (Value.str z tk0)) (show Str.ofString "abcd" = toStr [97,98,99,100] by decide +kernel))⟩, trivial⟩
  have bn : ∀ x ∈ bnames, mg (sN x) = none := by
    intro x hx
    simp only [bnames, List.mem_cons, List.not_mem_nil, or_false] at hx
    rcases hx with rfl | rfl | rfl | rfl | rfl | rfl | rfl | rfl | rfl | rfl | rfl | rfl | rfl | rfl | rfl | rfl
    · exact PySem.W.mg_none_of X G z0
    · exact PySem.W.mg_none_of X G z1
    · exact PySem.W.mg_none_of X G z2
    · exact PySem.W.mg_none_of X G z3
    · exact PySem.W.mg_none_of X G z4
    · exact PySem.W.mg_none_of X G z5
    · exact PySem.W.mg_none_of X G z6
    · exact PySem.W.mg_none_of X G z7
    · exact PySem.W.mg_none_of X G z8
    · exact PySem.W.mg_none_of X G z9
    · exact PySem.W.mg_none_of X G z10
    · exact PySem.W.mg_none_of X G z11
    · exact PySem.W.mg_none_of X G z12
    · exact PySem.W.mg_none_of X G z13
    · exact PySem.W.mg_none_of X G z14
    · exact PySem.W.mg_none_of X G z15
  refine ⟨PySem.W.fnOf "law" "law" (defArgs (topS 34)) (defBody (topS 34)) (defScope (topS 34)) .none kV26 dc26 pm26 an26 cd26 ct26, fun s v => .of_eq rfl, fun base _ _ => ?_⟩
  exact ok_step (n := 11) bn cs (all_ok tab bn cs 11) (f := "law") (fn := fn_law_k33) rfl F26 ck_law
end OC
open PySem PySem.W PyProof.Rows
set_option maxHeartbeats 0 in
theorem PySem.Challenge.cw_owncounts_k33_whole_words_behind_holds : PySem.Challenge.rw_owncounts_k33_whole_words_behind.Holds := by
  w_on; o_law; k_head; (case hw => w_witness2)
  k_fill
  refine L2.walk_of (l := PySem.Challenge.rw_owncounts_k33_whole_words_behind) (n := 63) (k := 12) (x := "script") (CX := fun _ => L2.CX0) (sp := fun w => OC.spOf _ 1 (OC.run (OC.progOf OC.tab_k33) 12 "law")) rfl (by decide) rfl ⟨rfl, by decide, by decide⟩ (fun w h Y => PySem.W.kIn_of Y) ?F (fun _ _ a ns hl _ hS => OC.law_sp hS (OC.pure_k33 ns hl)) (fun _ _ _ _ _ h => h)
  case F =>
    intro w mg fa h KX G hmg
    refine' OC.all_mk KX G hmg ?a0 ?l0 ?c0 ?k0 ?a1 ?l1 ?c1 ?k1 ?a2 ?l2 ?c2 ?k2 ?a3 ?l3 ?c3 ?k3 ?a4 ?l4 ?c4 ?k4 ?a5 ?l5 ?c5 ?k5 ?a6 ?l6 ?c6 ?k6 ?a7 ?l7 ?c7 ?k7 ?a8 ?l8 ?c8 ?k8 ?a9 ?l9 ?c9 ?k9 ?a10 ?l10 ?c10 ?k10 ?a11 ?l11 ?c11 ?k11 ?a12 ?l12 ?c12 ?k12 ?a13 ?l13 ?c13 ?k13 ?a14 ?l14 ?c14 ?k14 ?a15 ?l15 ?c15 ?k15 ?a16 ?l16 ?c16 ?k16 ?a17 ?l17 ?c17 ?k17 ?a18 ?l18 ?c18 ?k18 ?a19 ?l19 ?c19 ?k19 ?a20 ?l20 ?c20 ?k20 ?a21 ?l21 ?c21 ?k21 ?a22 ?l22 ?c22 ?k22 ?a23 ?l23 ?c23 ?k23 ?a24 ?l24 ?c24 ?k24 ?a25 ?l25 ?c25 ?k25 ?a26 ?l26 ?c26 ?k26 ?q0 ?z0 ?z1 ?z2 ?z3 ?z4 ?z5 ?z6 ?z7 ?z8 ?z9 ?z10 ?z11 ?z12 ?z13 ?z14 ?z15
    (case a0 => k_is); (case l0 => k_is); (case c0 => k_is); (case k0 => k_is); (case a1 => k_is); (case l1 => k_is); (case c1 => k_is); (case k1 => k_is); (case a2 => k_is); (case l2 => k_is); (case c2 => k_is); (case k2 => k_is); (case a3 => k_is); (case l3 => k_is); (case c3 => k_is); (case k3 => k_is); (case a4 => k_is); (case l4 => k_is); (case c4 => k_is); (case k4 => k_is); (case a5 => k_is); (case l5 => k_is); (case c5 => k_is); (case k5 => k_is); (case a6 => k_is); (case l6 => k_is); (case c6 => k_is); (case k6 => k_is); (case a7 => k_is); (case l7 => k_is); (case c7 => k_is); (case k7 => k_is); (case a8 => k_is); (case l8 => k_is); (case c8 => k_is); (case k8 => k_is); (case a9 => k_is); (case l9 => k_is); (case c9 => k_is); (case k9 => k_is); (case a10 => k_is); (case l10 => k_is); (case c10 => k_is); (case k10 => k_is); (case a11 => k_is); (case l11 => k_is); (case c11 => k_is); (case k11 => k_is); (case a12 => k_is); (case l12 => k_is); (case c12 => k_is); (case k12 => k_is); (case a13 => k_is); (case l13 => k_is); (case c13 => k_is); (case k13 => k_is); (case a14 => k_is); (case l14 => k_is); (case c14 => k_is); (case k14 => k_is); (case a15 => k_is); (case l15 => k_is); (case c15 => k_is); (case k15 => k_is); (case a16 => k_is); (case l16 => k_is); (case c16 => k_is); (case k16 => k_is); (case a17 => k_is); (case l17 => k_is); (case c17 => k_is); (case k17 => k_is); (case a18 => k_is); (case l18 => k_is); (case c18 => k_is); (case k18 => k_is); (case a19 => k_is); (case l19 => k_is); (case c19 => k_is); (case k19 => k_is); (case a20 => k_is); (case l20 => k_is); (case c20 => k_is); (case k20 => k_is); (case a21 => k_is); (case l21 => k_is); (case c21 => k_is); (case k21 => k_is); (case a22 => k_is); (case l22 => k_is); (case c22 => k_is); (case k22 => k_is); (case a23 => k_is); (case l23 => k_is); (case c23 => k_is); (case k23 => k_is); (case a24 => k_is); (case l24 => k_is); (case c24 => k_is); (case k24 => k_is); (case a25 => k_is); (case l25 => k_is); (case c25 => k_is); (case k25 => k_is); (case a26 => k_is); (case l26 => k_is); (case c26 => k_is); (case k26 => k_is); (case q0 => k_is); (case z0 => k_is); (case z1 => k_is); (case z2 => k_is); (case z3 => k_is); (case z4 => k_is); (case z5 => k_is); (case z6 => k_is); (case z7 => k_is); (case z8 => k_is); (case z9 => k_is); (case z10 => k_is); (case z11 => k_is); (case z12 => k_is); (case z13 => k_is); (case z14 => k_is); (case z15 => k_is)
