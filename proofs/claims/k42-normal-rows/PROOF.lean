import PyProof.Rows.All
import Wide.All
import OpenK.AllK
import Wide.FinOn
import HandS.ForMost
import HandS.IsInst
import HandS.Style
import HandS.Walk
import HandS.Zip
import HandS.Conv
import HandS.Deep
import HandS.Flow
import HandS.Codes
import HandS.TupAny
import HandS.WideMore
import HandS.HeadEnd
import HandS.HeadHook2
import HandS.Head2
import HandS.Defaults
import HandS.WordsExc
import PyProof.ListStr
import PyProof.Rows.SortShellAny
import HandS.SortInts
import HandS.ExcValue
import HandS.Replace
import HandS.SetFor
import KE.GoesEnum
import KE.GoesZip
import KE.GoesMore
import HandS.Small
import HandS.Dict
import PySem.Challenge.RW_palbuilds_k42_whole_normal_rows
set_option autoImplicit false
set_option linter.all false
/-! Ev0: values, outcomes, the plain operations, the compact programs and what they compute. Core Lean alone. -/
namespace Ev

/-- a Python value, written out (no addresses); `row` stands for the law's row of draws -/
inductive PV where
  | non
  | bl (b : Bool)
  | int (i : Int)
  | str (s : List Nat)
  | tup (xs : List PV)
  | lst (xs : List PV)
  | dic (kvs : List (PV × PV))
  | row
  /-- an instance of the class at C (and where it is, if that is told): its attributes in order -/
  | obj (C : Nat) (at_ : Option Nat) (fs : List PV)
  deriving Inhabited

/-- an outcome: a value, an error, nothing known, or one outcome for each draw below m -/
inductive Res (α : Type) where
  | ok (a : α)
  | err (e : PV)
  | no
  | draw (m : Nat) (k : Nat → Res α)

namespace Res
variable {α β : Type}
def bind (r : Res α) (f : α → Res β) : Res β :=
  match r with
  | .ok a => f a
  | .err e => .err e
  | .no => .no
  | .draw m k => .draw m fun i => bind (k i) f
instance : Monad Res where
  pure := .ok
  bind := bind
def ofO : Option α → Res α
  | some a => .ok a
  | none => .no
/-- all outcomes are as Q (values) and E (errors) say -/
def wp (Q : α → Prop) (E : PV → Prop) : Res α → Prop
  | .ok a => Q a
  | .err e => E e
  | .no => False
  | .draw m k => ∀ i, i < m → wp Q E (k i)
def allB (p : α → Bool) : Res α → Bool
  | .ok a => p a
  | .err _ => false
  | .no => false
  | .draw m k => (List.range m).all fun i => allB p (k i)
@[simp] theorem ok_bind (a : α) (f : α → Res β) : (Res.ok a >>= f) = f a := rfl
@[simp] theorem err_bind (e : PV) (f : α → Res β) : (Res.err e >>= f) = .err e := rfl
@[simp] theorem no_bind (f : α → Res β) : ((.no : Res α) >>= f) = .no := rfl
@[simp] theorem draw_bind (m : Nat) (k : Nat → Res α) (f : α → Res β) : (Res.draw m k >>= f) = .draw m fun i => k i >>= f := rfl
@[simp] theorem pure_eq (a : α) : (pure a : Res α) = .ok a := rfl
@[simp] theorem ofO_some (a : α) : ofO (some a) = .ok a := rfl
@[simp] theorem ofO_none : ofO (none : Option α) = .no := rfl
@[simp] theorem wp_ok {Q : α → Prop} {E : PV → Prop} {a : α} : wp Q E (.ok a) ↔ Q a := Iff.rfl
@[simp] theorem wp_err {Q : α → Prop} {E : PV → Prop} {e : PV} : wp Q E (.err e) ↔ E e := Iff.rfl
@[simp] theorem wp_no {Q : α → Prop} {E : PV → Prop} : wp Q E (.no) ↔ False := Iff.rfl
@[simp] theorem wp_draw {Q : α → Prop} {E : PV → Prop} {m : Nat} {k : Nat → Res α} : wp Q E (.draw m k) ↔ ∀ i, i < m → wp Q E (k i) := Iff.rfl
theorem bind_assoc {γ : Type} (r : Res α) (f : α → Res β) (g : β → Res γ) : ((r >>= f) >>= g) = (r >>= fun a => f a >>= g) := by
  induction r with
  | ok a => rfl
  | err e => rfl
  | no => rfl
  | draw m k ih => exact congrArg (Res.draw m) (funext ih)
theorem bind_ok (r : Res α) : (r >>= Res.ok) = r := by
  induction r with
  | ok a => rfl
  | err e => rfl
  | no => rfl
  | draw m k ih => exact congrArg (Res.draw m) (funext ih)
theorem wp_bind {Q : β → Prop} {E : PV → Prop} {r : Res α} {f : α → Res β} : wp Q E (r >>= f) ↔ wp (fun a => wp Q E (f a)) E r := by
  induction r with
  | ok a => exact Iff.rfl
  | err e => exact Iff.rfl
  | no => exact Iff.rfl
  | draw m k ih => exact ⟨fun h i hi => (ih i).mp (h i hi), fun h i hi => (ih i).mpr (h i hi)⟩
theorem wp_mono {Q Q' : α → Prop} {E E' : PV → Prop} {r : Res α} (h : wp Q E r) (hQ : ∀ a, Q a → Q' a) (hE : ∀ e, E e → E' e) : wp Q' E' r := by
  induction r with
  | ok a => exact hQ a h
  | err e => exact hE e h
  | no => exact h
  | draw m k ih => exact fun i hi => ih i (h i hi)
theorem wp_imp {Q Q' : α → Prop} {E : PV → Prop} {r : Res α} (h : wp Q E r) (hQ : ∀ a, Q a → Q' a) : wp Q' E r := wp_mono h hQ fun _ x => x
theorem wp_of_allB {p : α → Bool} {E : PV → Prop} {r : Res α} (h : allB p r = true) : wp (fun a => p a = true) E r := by
  induction r with
  | ok a => exact h
  | err e => cases h
  | no => cases h
  | draw m k ih =>
    intro i hi
    have h' : (List.range m).all (fun i => allB p (k i)) = true := h
    exact ih i (List.all_eq_true.mp h' i (List.mem_range.mpr hi))
end Res

/-! ### the plain operations -/
/-- the most letters or items -/
def lim : Nat := 16777216
/-- ints that are multiplied or divided with no bound of 64 bits -/
def mulOk (i j : Int) : Bool := decide (i.natAbs.log2 + j.natAbs.log2 < 1000000)
def divOk (j : Int) : Bool := decide (j.natAbs.log2 < 9000)
def sm64 (i : Int) : Bool := decide (-(2 ^ 64) < i) && decide (i < 2 ^ 64)
def sm62 (i : Int) : Bool := decide (-(2 ^ 62) ≤ i) && decide (i < 2 ^ 62)

def ltS : List Nat → List Nat → Bool
  | _, [] => false
  | [], _ :: _ => true
  | a :: r, b :: s => if a < b then true else if b < a then false else ltS r s

mutual
/-- == -/
def peq : PV → PV → Bool
  | .non, .non => true
  | .bl a, .bl b => a == b
  | .bl a, .int j => (if a then 1 else 0) == j
  | .int i, .bl b => i == (if b then 1 else 0)
  | .int i, .int j => i == j
  | .str x, .str y => x == y
  | .lst xs, .lst ys => peqs xs ys
  | .tup xs, .tup ys => peqs xs ys
  | _, _ => false
def peqs : List PV → List PV → Bool
  | [], [] => true
  | x :: xs, y :: ys => peq x y && peqs xs ys
  | _, _ => false
end
/-- data of a depth below n: no dicts -/
def dok : Nat → PV → Bool
  | _, .non => true
  | _, .bl _ => true
  | _, .int _ => true
  | _, .str _ => true
  | n + 1, .lst xs => xs.all (dok n)
  | n + 1, .tup xs => xs.all (dok n)
  | _, _ => false
/-- no list, no dict within -/
def flat : Nat → PV → Bool
  | _, .non => true
  | _, .bl _ => true
  | _, .int _ => true
  | _, .str _ => true
  | n + 1, .tup xs => xs.all (flat n)
  | _, _ => false

/-- a slice's bound as a place among n -/
def sIx (n d : Nat) : Option Int → Nat
  | none => d
  | some v => if v < 0 then (v + (n : Int)).toNat else min v.toNat n
def cutL {α : Type} (xs : List α) (lo hi : Option Int) : List α :=
  (xs.drop (sIx xs.length 0 lo)).take (sIx xs.length xs.length hi - sIx xs.length 0 lo)
def ixN (n : Nat) (i : Int) : Option Nat := if 0 ≤ i then (if i < n then some i.toNat else none) else if -(n : Int) ≤ i then some (i + n).toNat else none
def atL {α : Type} (xs : List α) (i : Int) : Option α := (ixN xs.length i).bind fun j => xs[j]?

/-- a key of a dict: an int or a text -/
def isKey : PV → Bool
  | .int _ => true
  | .str _ => true
  | _ => false
def keq : PV → PV → Bool
  | .int i, .int j => i == j
  | .str x, .str y => x == y
  | _, _ => false
def dget (k : PV) : List (PV × PV) → Option PV
  | [] => none
  | (k', v) :: r => if keq k' k then some v else dget k r
def dput (k v : PV) (kvs : List (PV × PV)) : List (PV × PV) :=
  if (kvs.any fun e => keq e.1 k) = true then kvs.map (fun e => if keq e.1 k = true then (e.1, v) else e) else kvs ++ [(k, v)]
def ddrop (k : PV) : List (PV × PV) → List (PV × PV)
  | [] => []
  | (k', v') :: r => if keq k' k then r else (k', v') :: ddrop k r

inductive BOp where
  | add | sub | mul | div | mod | pow
  deriving DecidableEq
inductive COp where
  | eq | ne | lt | le | gt | ge | isin | notin | is | isnot
  deriving DecidableEq

def binP : BOp → PV → PV → Option PV
  | .add, .int i, .int j => some (.int (i + j))
  | .add, .str a, .str b => if a.length + b.length ≤ lim then some (.str (a ++ b)) else none
  | .add, .lst a, .lst b => if a.length + b.length ≤ lim then some (.lst (a ++ b)) else none
  | .add, .tup a, .tup b => if a.length + b.length ≤ lim then some (.tup (a ++ b)) else none
  | .sub, .int i, .int j => some (.int (i - j))
  | .mul, .int i, .int j => if sm64 i || sm64 j || mulOk i j then some (.int (i * j)) else none
  | .mul, .str a, .int k => if sm62 k && decide (a.length * k.toNat ≤ lim) then some (.str (List.flatten (List.replicate k.toNat a))) else none
  | .mul, .lst a, .int k => if sm62 k && decide (a.length * k.toNat ≤ lim) then some (.lst (List.flatten (List.replicate k.toNat a))) else none
  | .div, .int i, .int j => if 0 < j && (decide (j < 1073741824) || divOk j) then some (.int (i / j)) else none
  | .mod, .int i, .int j => if 0 < j then some (.int (i % j)) else none
  | .pow, .int i, .int j => if 0 ≤ j && decide (j ≤ 1000000) && decide (i.natAbs < 2 ^ 64) then some (.int (i ^ j.toNat)) else none
  | _, _, _ => none

/-- a op= b -/
def ibinP : BOp → PV → PV → Option PV
  | .add, .int i, .int j => some (.int (i + j))
  | .add, .str a, .str b => if a.length + b.length ≤ lim then some (.str (a ++ b)) else none
  | .sub, .int i, .int j => some (.int (i - j))
  | .mul, .int i, .int j => if sm64 i || sm64 j then some (.int (i * j)) else none
  | .div, .int i, .int j => if 0 < j && (decide (j < 1073741824) || divOk j) then some (.int (i / j)) else none
  | .mod, .int i, .int j => if 0 < j then some (.int (i % j)) else none
  | _, _, _ => none

/-- is y within x, as a piece -/
def isPre : List Nat → List Nat → Bool
  | [], _ => true
  | _ :: _, [] => false
  | a :: r, b :: s => a == b && isPre r s
def isSub (y : List Nat) : List Nat → Bool
  | [] => isPre y []
  | b :: s => isPre y (b :: s) || isSub y s

def inP : PV → PV → Option Bool
  | .str y, .str x => some (isSub y x)
  | x, .lst ys => if dok 60 x && ys.all (dok 60) then some (ys.any fun y => peq y x) else none
  | x, .tup ys => if flat 0 x && ys.all (flat 0) then some (ys.any fun y => peq y x) else none
  | x, .dic kvs => if isKey x then some (dget x kvs).isSome else none
  | _, _ => none

def cmpP : COp → PV → PV → Option Bool
  | .eq, a, b => if dok 60 a && dok 60 b then some (peq a b) else none
  | .ne, a, b => if dok 60 a && dok 60 b then some (!peq a b) else none
  | .lt, .int i, .int j => some (decide (i < j))
  | .le, .int i, .int j => some (decide (i ≤ j))
  | .gt, .int i, .int j => some (decide (j < i))
  | .ge, .int i, .int j => some (decide (j ≤ i))
  | .lt, .str x, .str y => some (ltS x y)
  | .le, .str x, .str y => some (!ltS y x)
  | .gt, .str x, .str y => some (ltS y x)
  | .ge, .str x, .str y => some (!ltS x y)
  | .isin, a, b => inP a b
  | .notin, a, b => (inP a b).map (!·)
  | .is, a, .non => some (match a with | .non => true | _ => false)
  | .isnot, a, .non => some (match a with | .non => false | _ => true)
  | .is, .bl a, .bl b => some (a == b)
  | .isnot, .bl a, .bl b => some (!(a == b))
  | _, _, _ => none

def truthP : PV → Option Bool
  | .non => some false
  | .bl b => some b
  | .int i => some (i != 0)
  | .str s => some (!s.isEmpty)
  | .tup xs => some (!xs.isEmpty)
  | .lst xs => some (!xs.isEmpty)
  | .dic kvs => some (!kvs.isEmpty)
  | .row => none
  | .obj _ _ _ => none

def idxP : PV → PV → Option PV
  | .lst xs, .int i => atL xs i
  | .tup xs, .int i => atL xs i
  | .str s, .int i => (atL s i).map fun c => .str [c]
  | .dic kvs, k => if isKey k then dget k kvs else none
  | _, _ => none
def cutP : PV → Option Int → Option Int → Option PV
  | .str s, lo, hi => some (.str (cutL s lo hi))
  | .lst xs, lo, hi => some (.lst (cutL xs lo hi))
  | .tup xs, lo, hi => some (.tup (cutL xs lo hi))
  | _, _, _ => none
def revP : PV → Option PV
  | .str s => some (.str s.reverse)
  | .lst xs => some (.lst xs.reverse)
  | _ => none

def ints? : List PV → Option (List Int)
  | [] => some []
  | .int i :: r => (ints? r).map (i :: ·)
  | _ :: _ => none
def strs? : List PV → Option (List (List Nat))
  | [] => some []
  | .str s :: r => (strs? r).map (s :: ·)
  | _ :: _ => none
def bools? : List PV → Option (List Bool)
  | [] => some []
  | .bl b :: r => (bools? r).map (b :: ·)
  | _ :: _ => none

inductive Bi where
  | len | int | list | tuple | sum | all | any | min2 | max2 | minl | maxl | sorted | lenset | sortedset | isinst (t : List Nat)
  deriving DecidableEq
inductive Me where
  | join | index | find | startswith | endswith | lindex | scount | lcount
  deriving DecidableEq

def sumI : List Int → Int
  | [] => 0
  | a :: r => a + sumI r
def minI : Int → List Int → Int
  | m, [] => m
  | m, a :: r => minI (if a < m then a else m) r
def maxI : Int → List Int → Int
  | m, [] => m
  | m, a :: r => maxI (if m < a then a else m) r
def minS : List Nat → List (List Nat) → List Nat
  | m, [] => m
  | m, a :: r => minS (if ltS a m then a else m) r
def maxS : List Nat → List (List Nat) → List Nat
  | m, [] => m
  | m, a :: r => maxS (if ltS m a then a else m) r

def lenP : PV → Option PV
  | .str s => some (.int s.length)
  | .lst xs => some (.int xs.length)
  | .tup xs => some (.int xs.length)
  | .dic kvs => some (.int kvs.length)
  | _ => none
/-- the types by number: 0 int, 1 bool, 2 str, 3 tuple, 4 list, 5 dict -/
def isTy : PV → Nat → Option Bool
  | .non, _ => some false
  | .bl _, t => some (t == 0 || t == 1)
  | .int _, t => some (t == 0)
  | .str _, t => some (t == 2)
  | .tup _, t => some (t == 3)
  | .lst _, t => some (t == 4)
  | .dic _, t => some (t == 5)
  | .row, _ => none
  | .obj _ _ _, _ => none
def isTys (v : PV) : List Nat → Option Bool
  | [] => match v with
    | .obj _ _ _ => none
    | _ => some false
  | t :: r => match isTy v t, isTys v r with
    | some a, some b => some (a || b)
    | _, _ => none
def nubS : List (List Nat) → List (List Nat)
  | [] => []
  | a :: r => if (nubS r).contains a then nubS r else a :: nubS r
def insS (a : List Nat) : List (List Nat) → List (List Nat)
  | [] => [a]
  | b :: r => if ltS b a then b :: insS a r else a :: b :: r
def sortS : List (List Nat) → List (List Nat)
  | [] => []
  | a :: r => insS a (sortS r)
def insI (a : Int) : List Int → List Int
  | [] => [a]
  | b :: r => if b < a then b :: insI a r else a :: b :: r
def sortI : List Int → List Int
  | [] => []
  | a :: r => insI a (sortI r)

def biP : Bi → List PV → Option PV
  | .len, [v] => lenP v
  | .int, [.int i] => some (.int i)
  | .list, [.lst xs] => some (.lst xs)
  | .list, [.tup xs] => some (.lst xs)
  | .list, [.str s] => some (.lst (s.map fun c => .str [c]))
  | .tuple, [.lst xs] => some (.tup xs)
  | .tuple, [.tup xs] => some (.tup xs)
  | .sorted, [.lst xs] => match ints? xs with
    | some ns => some (.lst ((sortI ns).map .int))
    | none => match strs? xs with
      | some ss => some (.lst ((sortS ss).map .str))
      | none => none
  | .sorted, [.str s] => some (.lst ((sortS (s.map fun c => [c])).map .str))
  | .sum, [.lst xs] => (ints? xs).map fun ns => .int (sumI ns)
  | .sum, [.tup xs] => (ints? xs).map fun ns => .int (sumI ns)
  | .all, [.lst xs] => (bools? xs).map fun bs => .bl (bs.all id)
  | .any, [.lst xs] => (bools? xs).map fun bs => .bl (bs.any id)
  | .min2, [.int i, .int j] => some (.int (if j < i then j else i))
  | .max2, [.int i, .int j] => some (.int (if i < j then j else i))
  | .minl, [.lst xs] => match ints? xs with
    | some (a :: r) => some (.int (minI a r))
    | _ => none
  | .minl, [.tup xs] => match ints? xs with
    | some (a :: r) => some (.int (minI a r))
    | _ => none
  | .maxl, [.lst xs] => match ints? xs with
    | some (a :: r) => some (.int (maxI a r))
    | _ => none
  | .maxl, [.tup xs] => match ints? xs with
    | some (a :: r) => some (.int (maxI a r))
    | _ => none
  | .isinst ts, [v] => (isTys v ts).map .bl
  | _, _ => none

def joinS (sep : List Nat) : List (List Nat) → List Nat
  | [] => []
  | [x] => x
  | x :: y :: r => x ++ sep ++ joinS sep (y :: r)
def endsW (x y : List Nat) : Bool := isPre y.reverse x.reverse
def sumN : List Nat → Nat
  | [] => 0
  | a :: r => a + sumN r
/-- the first place at which y stands in x -/
def findS (y : List Nat) : List Nat → Option Nat
  | [] => if isPre y [] then some 0 else none
  | b :: s => if isPre y (b :: s) then some 0 else (findS y s).map (· + 1)
def indexD (v : PV) : List PV → Option Nat
  | [] => none
  | x :: r => if peq x v then some 0 else (indexD v r).map (· + 1)

def meP : Me → PV → List PV → Option PV
  | .join, .str sep, [.lst xs] => match strs? xs with
    | some ss => if sumN (ss.map List.length) + ss.length * sep.length ≤ lim then some (.str (joinS sep ss)) else none
    | none => none
  | .startswith, .str x, [.str y] => some (.bl (isPre y x))
  | .endswith, .str x, [.str y] => some (.bl (endsW x y))
  | .index, .str x, [.str y] => (findS y x).map fun i => .int (i : Nat)
  | .lindex, .lst xs, [v] => if dok 60 v && xs.all (dok 60) then (indexD v xs).map fun i => .int (i : Nat) else none
  | .scount, .str x, [.str [c]] => some (.int (x.count c : Nat))
  | .lcount, .lst xs, [.int k] => (ints? xs).map fun ns => .int (ns.count k : Nat)
  | .find, .str x, [.str y] => some (.int (match findS y x with | some i => (i : Int) | none => -1))
  | _, _, _ => none

/-- of lists, not of texts -/
def meL : Me → Bool
  | .lindex => true
  | .lcount => true
  | _ => false
def meOk (m : Me) : PV → Bool
  | .str _ => !meL m
  | .lst _ => meL m
  | _ => false

/-! ### compact programs -/
mutual
inductive CE where
  | con (v : PV)
  | var (i : Nat)
  | bor (i : Nat)
  | glo (g : Nat)
  | bin (o : BOp) (a b : CE)
  | neg (a : CE)
  | not (a : CE)
  | cmp (o : COp) (a b : CE)
  | cmp2 (o p : COp) (a b c : CE)
  | and (a b : CE)
  | or (a b : CE)
  | ifx (c a b : CE)
  | tup (es : CEs)
  | lst (es : CEs)
  | dic0
  | idx (a i : CE)
  | cut (a lo hi : CE)
  | nop
  | rev (a : CE)
  | bi (b : Bi) (es : CEs)
  | me (m : Me) (r : CE) (es : CEs)
  | call (f : Nat) (es : CEs)
  | draw (r : Nat) (m : CE)
  | comp (elt : CE) (tg : CT) (sr : CR) (cond : CE)
  /-- list(range(a)) -/
  | lrng (a : CE)
  /-- an attribute -/
  | attr (g : Nat) (a : CE) (f : Nat)
  /-- a method of an object of the class of number g -/
  | mcall (g f : Nat) (o : CE) (es : CEs)
  /-- a new Tower: the class's number, the def of the sizes, the plan -/
  | twr (g f : Nat) (a : CE)
inductive CEs where
  | nil
  | cons (e : CE) (es : CEs)
/-- what is walked -/
inductive CR where
  | seq (e : CE)
  | rng1 (a : CE)
  | rng2 (a b : CE)
  /-- range(a, b, -1) -/
  | rngd (a b : CE)
  | enum (e : CE)
  | zip (a b : CE)
/-- a target: a slot, or a tuple of slots -/
inductive CT where
  | nm (i : Nat)
  | tp (ts : CTs)
inductive CTs where
  | nil
  | cons (t : CT) (ts : CTs)
end
/-- a slot: nothing, a value that is shared, a list or dict that this name alone holds -/
inductive Slt where
  | no
  | shr (v : PV)
  | own (v : PV)
  deriving Inhabited
abbrev Stt := List Slt

/-- a target among several: a name, or an item of a name's own list or dict -/
inductive Tg where
  | nm (i : Nat)
  | sub (i : Nat) (ix : CE)
mutual
inductive CS where
  | set (i : Nat) (e : CE)
  | own (i : Nat) (e : CE)
  | par2 (o1 : Bool) (i : Nat) (e : CE) (o2 : Bool) (j : Nat) (f : CE)
  | par3 (o1 : Bool) (i : Nat) (e : CE) (o2 : Bool) (j : Nat) (f : CE) (o3 : Bool) (k : Nat) (g : CE)
  | unp (t : CTs) (e : CE)
  /-- names, of which some get a list or dict of their own, by a tuple -/
  | parn (ts : List (Bool × Nat)) (es : CEs)
  /-- names and items, by a tuple -/
  | pars (ts : List Tg) (es : CEs)
  | seti (i : Nat) (ix e : CE)
  | aug (i : Nat) (o : BOp) (e : CE)
  | augi (i : Nat) (ix : CE) (o : BOp) (e : CE)
  | app (i : Nat) (e : CE)
  | pop (t : CT) (i : Nat)
  /-- target = list.pop(e) -/
  | popa (t : Tg) (j : Nat) (e : CE)
  /-- i = list.pop(e) if c else z -/
  | popif (i j : Nat) (e c z : CE)
  /-- list.extend(e) -/
  | ext (i : Nat) (e : CE)
  | expr (e : CE)
  | ret (e : CE)
  | reto (i : Nat)
  | rett (es : CEs)
  | ifs (c : CE) (a b : CSs)
  | whl (c : CE) (b : CSs)
  | for (t : CT) (sr : CR) (b : CSs)
  | brk
  | raise
  | doc
inductive CSs where
  | nil
  | cons (s : CS) (r : CSs)
  /-- a list or dict that is written no more -/
  | frz (i : Nat) (r : CSs)
  /-- a name that is read no more -/
  | kil (i : Nat) (r : CSs)
end
inductive Fl where
  | next | brk | ret (v : PV)

def Slt.val? : Slt → Option PV
  | .no => none
  | .shr v => some v
  | .own v => some v
def Slt.shr? : Slt → Option PV
  | .shr v => some v
  | _ => none
def Slt.own? : Slt → Option PV
  | .own v => some v
  | _ => none
def getS (s : Stt) (i : Nat) : Slt := s.getD i .no

mutual
def bindT : CT → PV → Stt → Option Stt
  | .nm i, v, s => some (s.set i (.shr v))
  | .tp ts, .tup vs, s => bindTs ts vs s
  | .tp _, _, _ => none
def bindTs : CTs → List PV → Stt → Option Stt
  | .nil, [], s => some s
  | .cons t ts, v :: vs, s => (bindT t v s).bind (bindTs ts vs)
  | _, _, _ => none
end

mutual
/-- the slots of a target -/
def slotsT : CT → List Nat
  | .nm i => [i]
  | .tp ts => slotsTs ts
def slotsTs : CTs → List Nat
  | .nil => []
  | .cons t ts => slotsT t ++ slotsTs ts
end
def wipeS (s : Stt) : List Nat → Stt
  | [] => s
  | i :: is => (wipeS s is).set i .no
/-- ints lo, lo + 1, .. (n of them) -/
def rangeL (lo : Int) : Nat → List PV
  | 0 => []
  | n + 1 => .int lo :: rangeL (lo + 1) n
/-- ints hi, hi - 1, .. (n of them) -/
def rangeD (hi : Int) : Nat → List PV
  | 0 => []
  | n + 1 => .int hi :: rangeD (hi - 1) n
def enumL (k : Int) : List PV → List PV
  | [] => []
  | x :: r => .tup [.int k, x] :: enumL (k + 1) r
def zipL : List PV → List PV → List PV
  | x :: r, y :: s => .tup [x, y] :: zipL r s
  | _, _ => []
def items : PV → Option (List PV)
  | .lst xs => some xs
  | .tup xs => some xs
  | .str s => some (s.map fun c => .str [c])
  | _ => none

/-! ### a tower: its numbers of letters -/
/-- the numbers as a dict -/
def rowD (r : List Int) : PV := .dic ((([97, 98, 99, 100, 101] : List Nat).map fun c => PV.str [c]).zip (r.map .int))
/-- one step: the letter, the numbers now, those ahead of its last place -/
def rowN (c : Nat) (now : List Int) (less : Option (List Int)) : List Int :=
  (List.range 5).map fun i => 2 * now.getD i 0 - (match less with | some l => l.getD i 0 | none => 0) + (if less.isNone && (97 + i == c) then 1 else 0)
/-- rows so far, the last places, the letters to come -/
def rowsT (rows : List (List Int)) (last : List (Nat × Nat)) : List Nat → List (List Int)
  | [] => rows
  | c :: r => rowsT (rows ++ [rowN c (rows.getLast?.getD []) ((last.lookup c).bind fun p => rows[p]?)]) ((c, rows.length - 1) :: last) r
def twrC (s : List Nat) : List PV := (rowsT [[0, 0, 0, 0, 0]] [] s).map rowD
def twrP : Option PV → PV → PV → Option PV
  | some (.int C), .str s, .lst (.int z :: zr) => if s.all (fun c => decide (97 ≤ c) && decide (c ≤ 101)) && decide (s.length ≤ 100000) && zr.all (flat 0) then some (.obj C.toNat none [.str s, .lst (.int z :: zr), .lst (twrC s)]) else none
  | _, _, _ => none
def isObj : Option PV → PV → Bool
  | some (.int i), .obj C _ _ => i == (C : Int)
  | _, _ => false
def attrP : PV → Nat → Option PV
  | .obj _ _ fs, f => fs[f]?
  | _, _ => none
section
variable (gl : Nat → Option PV) (cl : Nat → List PV → Res PV)
/-- [elt for tg in items if cond] -/
def compL (tg : CT) (cond elt : Stt → Res PV) (s : Stt) : List PV → Res (List PV)
  | [] => .ok []
  | x :: r => do
    let s1 ← Res.ofO (bindT tg x s)
    let c ← cond s1
    let b ← Res.ofO (truthP c)
    if b then
      let y ← elt s1
      let ys ← compL tg cond elt s r
      .ok (y :: ys)
    else compL tg cond elt s r
def asI : PV → Res (Option Int)
  | .int i => .ok (some i)
  | _ => .no
def optE (b : Bool) (r : Res PV) : Res (Option Int) := if b then .ok none else r >>= asI
def isNop : CE → Bool
  | .nop => true
  | _ => false
/-- may be a list or dict that one name alone holds -/
def isRaw : CE → Bool
  | .bor _ => true
  | .ifx _ a b => isRaw a || isRaw b
  | .and a b => isRaw a || isRaw b
  | .or a b => isRaw a || isRaw b
  | _ => false
def anyRaw : CEs → Bool
  | .nil => false
  | .cons e es => isRaw e || anyRaw es
mutual
def evE (s : Stt) : CE → Res PV
  | .con v => .ok v
  | .var i => Res.ofO (getS s i).shr?
  | .bor i => Res.ofO (getS s i).val?
  | .glo g => Res.ofO (gl g)
  | .bin o a b => do
    let x ← evE s a
    let y ← evE s b
    Res.ofO (binP o x y)
  | .neg a => do
    match ← evE s a with
    | .int i => .ok (.int (-i))
    | _ => .no
  | .not a => do
    let x ← evE s a
    let b ← Res.ofO (truthP x)
    .ok (.bl (!b))
  | .cmp o a b => do
    let x ← evE s a
    let y ← evE s b
    let r ← Res.ofO (cmpP o x y)
    .ok (.bl r)
  | .cmp2 o p a b c => do
    let x ← evE s a
    let y ← evE s b
    let r ← Res.ofO (cmpP o x y)
    if r then
      let z ← evE s c
      let q ← Res.ofO (cmpP p y z)
      .ok (.bl q)
    else .ok (.bl false)
  | .and a b => do
    let x ← evE s a
    let t ← Res.ofO (truthP x)
    if t then evE s b else .ok x
  | .or a b => do
    let x ← evE s a
    let t ← Res.ofO (truthP x)
    if t then .ok x else evE s b
  | .ifx c a b => do
    let x ← evE s c
    let t ← Res.ofO (truthP x)
    if t then evE s a else evE s b
  | .tup es => do
    let xs ← evEs s es
    .ok (.tup xs)
  | .lst es => do
    let xs ← evEs s es
    .ok (.lst xs)
  | .dic0 => .ok (.dic [])
  | .idx a i => do
    let x ← evE s a
    let y ← evE s i
    Res.ofO (idxP x y)
  | .cut a lo hi => do
    let x ← evE s a
    let l ← optE (isNop lo) (evE s lo)
    let h ← optE (isNop hi) (evE s hi)
    Res.ofO (cutP x l h)
  | .nop => .no
  | .rev a => do
    let x ← evE s a
    Res.ofO (revP x)
  | .bi b es => do
    let xs ← evEs s es
    Res.ofO (biP b xs)
  | .me m r es => do
    let x ← evE s r
    if meOk m x then
      let xs ← evEs s es
      Res.ofO (meP m x xs)
    else .no
  | .call f es => do
    let xs ← evEs s es
    let r ← cl f xs
    if anyRaw es && !flat 8 r then .no else .ok r
  | .draw r m => do
    match (getS s r).shr? with
    | some .row =>
      match ← evE s m with
      | .int k => if 0 < k && decide (k < 1073741824) then .draw k.toNat fun i => .ok (.int i) else .no
      | _ => .no
    | _ => .no
  | .comp elt tg sr cond => do
    let xs ← evR s sr
    if xs.length ≤ lim then
      let ys ← compL tg (fun s1 => evE s1 cond) (fun s1 => evE s1 elt) (wipeS s (slotsT tg)) xs
      .ok (.lst ys)
    else .no
  | .lrng a => do
    match ← evE s a with
    | .int i => if sm62 i && decide (i.toNat ≤ lim) then .ok (.lst (rangeL 0 i.toNat)) else .no
    | _ => .no
  | .attr g a f => do
    let x ← evE s a
    if isObj (gl g) x then Res.ofO (attrP x f) else .no
  | .mcall g f o es => do
    let x ← evE s o
    if isObj (gl g) x then
      let xs ← evEs s es
      cl f (x :: xs)
    else .no
  | .twr g f a => do
    let x ← evE s a
    let z ← cl f [x]
    Res.ofO (twrP (gl g) x z)
def evEs (s : Stt) : CEs → Res (List PV)
  | .nil => .ok []
  | .cons e es => do
    let x ← evE s e
    let xs ← evEs s es
    .ok (x :: xs)
def evR (s : Stt) : CR → Res (List PV)
  | .seq e => do
    let x ← evE s e
    Res.ofO (items x)
  | .rng1 a => do
    match ← evE s a with
    | .int i => if sm62 i then .ok (rangeL 0 i.toNat) else .no
    | _ => .no
  | .rng2 a b => do
    let x ← evE s a
    let y ← evE s b
    match x, y with
    | .int i, .int j => if sm62 i && sm62 j then .ok (rangeL i (j - i).toNat) else .no
    | _, _ => .no
  | .rngd a b => do
    let x ← evE s a
    let y ← evE s b
    match x, y with
    | .int i, .int j => if sm62 i && sm62 j then .ok (rangeD i (i - j).toNat) else .no
    | _, _ => .no
  | .enum e => do
    let x ← evE s e
    let xs ← Res.ofO (items x)
    .ok (enumL 0 xs)
  | .zip a b => do
    let x ← evE s a
    let y ← evE s b
    let xs ← Res.ofO (items x)
    let ys ← Res.ofO (items y)
    .ok (zipL xs ys)
end
/-- at most so many turns of a while -/
def most : Nat := 1000000000000
def whileL (c : Stt → Res PV) (b : Stt → Res (Fl × Stt)) : Nat → Stt → Res (Fl × Stt)
  | 0, _ => .no
  | n + 1, s => do
    let x ← c s
    let t ← Res.ofO (truthP x)
    if t then
      let r ← b s
      match r with
      | (.next, s') => whileL c b n s'
      | (.brk, s') => .ok (.next, s')
      | (.ret v, s') => .ok (.ret v, s')
    else .ok (.next, s)
def forL (tg : CT) (b : Stt → Res (Fl × Stt)) : List PV → Stt → Res (Fl × Stt)
  | [], s => .ok (.next, s)
  | x :: r, s => do
    let s1 ← Res.ofO (bindT tg x s)
    let q ← b s1
    match q with
    | (.next, s') => forL tg b r s'
    | (.brk, s') => .ok (.next, s')
    | (.ret v, s') => .ok (.ret v, s')
/-- a list or dict: held by the name alone -/
def mkOwn : PV → Slt
  | .lst xs => .own (.lst xs)
  | .dic kvs => .own (.dic kvs)
  | v => .shr v
def mkS (o : Bool) (v : PV) : Slt := if o then mkOwn v else .shr v
def setAt : PV → PV → PV → Option PV
  | .lst xs, .int i, v => (ixN xs.length i).map fun j => .lst (xs.set j v)
  | .dic kvs, k, v => if isKey k && decide (kvs.length < lim) then some (.dic (dput k v kvs)) else none
  | _, _, _ => none
def popL : PV → Option (PV × PV)
  | .lst xs => match xs.getLast? with
    | some v => some (v, .lst xs.dropLast)
    | none => none
  | _ => none
/-- l.pop(i) -/
def popAt : PV → PV → Option (PV × PV)
  | .lst xs, .int i => if sm62 i then (ixN xs.length i).bind fun j => xs[j]?.map fun v => (v, .lst (xs.eraseIdx j)) else none
  | _, _ => none
def extL : PV → PV → Option PV
  | .lst xs, .lst ys => if xs.length + ys.length ≤ lim then some (.lst (xs ++ ys)) else none
  | _, _ => none
def isLst : PV → Bool
  | .lst _ => true
  | _ => false
def appL : PV → PV → Option PV
  | .lst xs, v => if xs.length < lim then some (.lst (xs ++ [v])) else none
  | _, _ => none
def storeN : List (Bool × Nat) → List PV → Stt → Option Stt
  | [], [], s => some s
  | (o, i) :: ts, v :: vs, s => storeN ts vs (s.set i (mkS o v))
  | _, _, _ => none
def storeT : List Tg → List PV → Stt → Res Stt
  | [], [], s => .ok s
  | .nm i :: ts, v :: vs, s => storeT ts vs (s.set i (.shr v))
  | .sub i ix :: ts, v :: vs, s => do
    let o ← Res.ofO (getS s i).own?
    let x ← evE gl cl s ix
    let o' ← Res.ofO (setAt o x v)
    storeT ts vs (s.set i (.own o'))
  | _, _, _ => .no
mutual
def exS (s : Stt) : CS → Res (Fl × Stt)
  | .set i e => do
    let v ← evE gl cl s e
    .ok (.next, s.set i (.shr v))
  | .own i e => do
    let v ← evE gl cl s e
    .ok (.next, s.set i (mkOwn v))
  | .par2 o1 i e o2 j f => do
    let v ← evE gl cl s e
    let w ← evE gl cl s f
    .ok (.next, (s.set i (mkS o1 v)).set j (mkS o2 w))
  | .par3 o1 i e o2 j f o3 k g => do
    let v ← evE gl cl s e
    let w ← evE gl cl s f
    let u ← evE gl cl s g
    .ok (.next, ((s.set i (mkS o1 v)).set j (mkS o2 w)).set k (mkS o3 u))
  | .unp ts e => do
    let v ← evE gl cl s e
    let s' ← Res.ofO (bindT (.tp ts) v s)
    .ok (.next, s')
  | .parn ts es => do
    let vs ← evEs gl cl s es
    let s' ← Res.ofO (storeN ts vs s)
    .ok (.next, s')
  | .pars ts es => do
    let vs ← evEs gl cl s es
    let s' ← storeT gl cl ts vs s
    .ok (.next, s')
  | .seti i ix e => do
    let v ← evE gl cl s e
    let o ← Res.ofO (getS s i).own?
    let x ← evE gl cl s ix
    let o' ← Res.ofO (setAt o x v)
    .ok (.next, s.set i (.own o'))
  | .aug i o e => do
    let x ← Res.ofO (getS s i).shr?
    let y ← evE gl cl s e
    let v ← Res.ofO (ibinP o x y)
    .ok (.next, s.set i (.shr v))
  | .augi i ix o e => do
    let q ← Res.ofO (getS s i).own?
    let x ← evE gl cl s ix
    let old ← Res.ofO (idxP q x)
    let y ← evE gl cl s e
    let v ← Res.ofO (ibinP o old y)
    let q' ← Res.ofO (setAt q x v)
    .ok (.next, s.set i (.own q'))
  | .app i e => do
    let o ← Res.ofO (getS s i).own?
    if isLst o then
      let v ← evE gl cl s e
      let o' ← Res.ofO (appL o v)
      .ok (.next, s.set i (.own o'))
    else .no
  | .pop t i => do
    let o ← Res.ofO (getS s i).own?
    let vo ← Res.ofO (popL o)
    let s' ← Res.ofO (bindT t vo.1 (s.set i (.own vo.2)))
    .ok (.next, s')
  | .popa t j e => do
    let o ← Res.ofO (getS s j).own?
    if isLst o then
      let k ← evE gl cl s e
      let vo ← Res.ofO (popAt o k)
      match t with
      | .nm i => .ok (.next, (s.set j (.own vo.2)).set i (.shr vo.1))
      | .sub i ix => do
        let q ← Res.ofO (getS (s.set j (.own vo.2)) i).own?
        let x ← evE gl cl (s.set j (.own vo.2)) ix
        let q' ← Res.ofO (setAt q x vo.1)
        .ok (.next, (s.set j (.own vo.2)).set i (.own q'))
    else .no
  | .popif i j e c z => do
    let x ← evE gl cl s c
    let b ← Res.ofO (truthP x)
    if b then
      let o ← Res.ofO (getS s j).own?
      if isLst o then
        let k ← evE gl cl s e
        let vo ← Res.ofO (popAt o k)
        .ok (.next, (s.set j (.own vo.2)).set i (.shr vo.1))
      else .no
    else
      let v ← evE gl cl s z
      .ok (.next, s.set i (.shr v))
  | .ext i e => do
    let o ← Res.ofO (getS s i).own?
    if isLst o then
      let v ← evE gl cl s e
      let o' ← Res.ofO (extL o v)
      .ok (.next, s.set i (.own o'))
    else .no
  | .expr e => do
    let _ ← evE gl cl s e
    .ok (.next, s)
  | .ret e => do
    let v ← evE gl cl s e
    .ok (.ret v, s)
  | .reto i => do
    let v ← Res.ofO (getS s i).own?
    .ok (.ret v, s)
  | .rett es => do
    let vs ← evEs gl cl s es
    .ok (.ret (.tup vs), s)
  | .ifs c a b => do
    let x ← evE gl cl s c
    let t ← Res.ofO (truthP x)
    if t then exSs s a else exSs s b
  | .whl c b => whileL (fun s => evE gl cl s c) (fun s => exSs s b) most s
  | .for t sr b => do
    let xs ← evR gl cl s sr
    forL t (fun s => exSs s b) xs s
  | .brk => .ok (.brk, s)
  | .raise => .no
  | .doc => .ok (.next, s)
def exSs (s : Stt) : CSs → Res (Fl × Stt)
  | .nil => .ok (.next, s)
  | .cons c r => do
    let q ← exS s c
    match q with
    | (.next, s') => exSs s' r
    | (f, s') => .ok (f, s')
  | .frz i r =>
    match getS s i with
    | .own v => exSs (s.set i (.shr v)) r
    | _ => exSs s r
  | .kil i r => exSs (s.set i .no) r
end
end
/-- a def: how many parameters, how many slots, whether what it returns is a new list or dict, its body -/
structure Fn where
  np : Nat
  ns : Nat
  fresh : Bool
  body : CSs
def startS (d : Fn) (args : List PV) : Stt := args.map .shr ++ List.replicate (d.ns - d.np) .no
def endV : Fl × Stt → Res PV
  | (.ret v, _) => .ok v
  | (.next, _) => .ok .non
  | (.brk, _) => .no
def callF (fns : Nat → Option Fn) (gl : Nat → Option PV) : Nat → Nat → List PV → Res PV
  | 0, _, _ => .no
  | l + 1, f, args => match fns f with
    | none => .no
    | some d => if args.length = d.np then (exSs gl (callF fns gl l) (startS d args) d.body) >>= endV else .no
end Ev
set_option autoImplicit false
set_option linter.all false
set_option Elab.async false
set_option maxRecDepth 100000
/-! Ev1: how the values of Ev0 lie in the heap. -/
namespace Ev
open PySem PySem.Spec PyProof.Rows L2

abbrev toStr (s : List Nat) : Str := ⟨s.toArray⟩
structure OkS (s : List Nat) : Prop where
  len : s.length ≤ sizeLine
  cps : ∀ c ∈ s, c < 1114112

abbrev AP1 := Addr → Prop
/-- all that is not in O, and every tuple, is as it was -/
def Kp (O : AP1) (H H' : Hp) : Prop := ∀ a o, H a = some o → (¬ O a ∨ ∃ vs, o = .tup vs) → H' a = some o
theorem Kp.refl {O : AP1} {H : Hp} : Kp O H H := fun _ _ h _ => h
theorem Kp.trans {O : AP1} {H H1 H2 : Hp} (a : Kp O H H1) (b : Kp O H1 H2) : Kp O H H2 := fun c o h k => b c o (a c o h k) k
theorem Kp.mono {O O' : AP1} {H H' : Hp} (a : Kp O H H') (h : ∀ a, O a → O' a) : Kp O' H H' := fun c o e k => a c o e (k.imp (fun n z => n (h c z)) id)
theorem Kp.upd {O : AP1} {H : Hp} {p : Addr} {o : HO} (n : H p = none) : Kp O H (upd H p o) := fun a u e _ => by
  rw [upd_ne (ne_of_none e n)]; exact e

/-- the attributes of a Tower -/
def tNames : List Str := ["letters", "sizes", "counts"]
mutual
/-- the value, laid out: its lists and dicts are not in O; the row of draws is at a place of Rw -/
def Rep (H : Hp) (Rw O : AP1) : PV → V → Prop
  | .non, v => v = .non
  | .bl b, v => v = .bl b
  | .int i, v => v = .int i
  | .str s, v => v = .str (toStr s) ∧ OkS s
  | .tup xs, v => ∃ a vs, v = .ref a ∧ H a = some (.tup vs) ∧ Reps H Rw O xs vs
  | .lst xs, v => ∃ a vs, v = .ref a ∧ H a = some (.lst vs) ∧ ¬ O a ∧ Reps H Rw O xs vs
  | .dic kvs, v => ∃ a kv, v = .ref a ∧ H a = some (.dK kv) ∧ ¬ O a ∧ RepsK H Rw O kvs kv
  | .row, v => ∃ a, v = .ref a ∧ Rw a
  | .obj C z0 fs, v => ∃ a dx vs, v = .ref a ∧ H a = some (.ins C dx (tNames.zip vs)) ∧ ¬ O a ∧ (∀ b, z0 = some b → a = b) ∧ Reps H Rw O fs vs
def Reps (H : Hp) (Rw O : AP1) : List PV → List V → Prop
  | [], vs => vs = []
  | x :: xs, vs => ∃ w ws, vs = w :: ws ∧ Rep H Rw O x w ∧ Reps H Rw O xs ws
def RepsK (H : Hp) (Rw O : AP1) : List (PV × PV) → List (Key × V) → Prop
  | [], kv => kv = []
  | (k, x) :: xs, kv => ∃ j w ws, kv = (j, w) :: ws ∧ Rep H Rw O k (kV j) ∧ Rep H Rw O x w ∧ RepsK H Rw O xs ws
end
/-- .. its own object may be in O' (not in O) -/
def WRep (H : Hp) (Rw O O' : AP1) (p : PV) (v : V) : Prop :=
  match p with
  | .lst xs => ∃ a vs, v = .ref a ∧ H a = some (.lst vs) ∧ ¬ O a ∧ Reps H Rw O' xs vs
  | .dic kvs => ∃ a kv, v = .ref a ∧ H a = some (.dK kv) ∧ ¬ O a ∧ RepsK H Rw O' kvs kv
  | p => Rep H Rw O' p v
/-- a list or dict at a, whatever holds it -/
def TRep (H : Hp) (Rw O' : AP1) (p : PV) (a : Addr) : Prop :=
  match p with
  | .lst xs => ∃ vs, H a = some (.lst vs) ∧ Reps H Rw O' xs vs
  | .dic kvs => ∃ kv, H a = some (.dK kv) ∧ RepsK H Rw O' kvs kv
  | _ => False

section
variable {H H' : Hp} {Rw O O' O2 : AP1}
mutual
theorem Rep.go (k : Kp O H H') (h2 : ∀ a, O2 a → O a ∨ H a = none) : ∀ (p : PV) (v : V), Rep H Rw O p v → Rep H' Rw O2 p v
  | .non, _, h => by simp only [Rep] at h ⊢; exact h
  | .bl _, _, h => by simp only [Rep] at h ⊢; exact h
  | .int _, _, h => by simp only [Rep] at h ⊢; exact h
  | .str _, _, h => by simp only [Rep] at h ⊢; exact h
  | .tup xs, _, h => by
    simp only [Rep] at h ⊢
    obtain ⟨a, vs, e, ha, r⟩ := h
    exact ⟨a, vs, e, k a _ ha (.inr ⟨_, rfl⟩), Reps.go k h2 xs vs r⟩
  | .lst xs, _, h => by
    simp only [Rep] at h ⊢
    obtain ⟨a, vs, e, ha, n, r⟩ := h
    exact ⟨a, vs, e, k a _ ha (.inl n), fun z => (h2 a z).elim n fun q => (by rw [ha] at q; cases q), Reps.go k h2 xs vs r⟩
  | .dic kvs, _, h => by
    simp only [Rep] at h ⊢
    obtain ⟨a, vs, e, ha, n, r⟩ := h
    exact ⟨a, vs, e, k a _ ha (.inl n), fun z => (h2 a z).elim n fun q => (by rw [ha] at q; cases q), RepsK.go k h2 kvs vs r⟩
  | .row, _, h => by simp only [Rep] at h ⊢; exact h
  | .obj C z0 fs, _, h => by
    simp only [Rep] at h ⊢
    obtain ⟨a, dx, vs, e, ha, n, ez, r⟩ := h
    exact ⟨a, dx, vs, e, k a _ ha (.inl n), fun z => (h2 a z).elim n fun q => (by rw [ha] at q; cases q), ez, Reps.go k h2 fs vs r⟩
theorem Reps.go (k : Kp O H H') (h2 : ∀ a, O2 a → O a ∨ H a = none) : ∀ (p : List PV) (v : List V), Reps H Rw O p v → Reps H' Rw O2 p v
  | [], _, h => by simp only [Reps] at h ⊢; exact h
  | x :: xs, _, h => by
    simp only [Reps] at h ⊢
    obtain ⟨w, ws, e, r, rs⟩ := h
    exact ⟨w, ws, e, Rep.go k h2 x w r, Reps.go k h2 xs ws rs⟩
theorem RepsK.go (k : Kp O H H') (h2 : ∀ a, O2 a → O a ∨ H a = none) : ∀ (p : List (PV × PV)) (v : List (Key × V)), RepsK H Rw O p v → RepsK H' Rw O2 p v
  | [], _, h => by simp only [RepsK] at h ⊢; exact h
  | (y, x) :: xs, _, h => by
    simp only [RepsK] at h ⊢
    obtain ⟨j, w, ws, e, r1, r, rs⟩ := h
    exact ⟨j, w, ws, e, Rep.go k h2 y _ r1, Rep.go k h2 x w r, RepsK.go k h2 xs ws rs⟩
end
theorem Rep.kp {p : PV} {v : V} (h : Rep H Rw O p v) (k : Kp O H H') : Rep H' Rw O p v := Rep.go k (fun _ => .inl) p v h
theorem Reps.kp {p : List PV} {v : List V} (h : Reps H Rw O p v) (k : Kp O H H') : Reps H' Rw O p v := Reps.go k (fun _ => .inl) p v h
theorem RepsK.kp {p : List (PV × PV)} {v : List (Key × V)} (h : RepsK H Rw O p v) (k : Kp O H H') : RepsK H' Rw O p v := RepsK.go k (fun _ => .inl) p v h
theorem Rep.sub {p : PV} {v : V} (h : Rep H Rw O p v) (h2 : ∀ a, O2 a → O a) : Rep H Rw O2 p v := Rep.go Kp.refl (fun a z => .inl (h2 a z)) p v h
theorem WRep.kp {p : PV} {v : V} (h : WRep H Rw O O' p v) (k : Kp O' H H') (kO : ∀ a o, H a = some o → (∃ xs, o = .lst xs) ∨ (∃ kv, o = .dK kv) → O' a → ¬ O a → H' a = some o) : WRep H' Rw O O' p v := by
  cases p with
  | lst xs =>
    obtain ⟨a, vs, e, ha, n, r⟩ := h
    refine ⟨a, vs, e, ?_, n, r.kp k⟩
    by_cases z : O' a
    · exact kO a _ ha (.inl ⟨_, rfl⟩) z n
    · exact k a _ ha (.inl z)
  | dic kvs =>
    obtain ⟨a, vs, e, ha, n, r⟩ := h
    refine ⟨a, vs, e, ?_, n, r.kp k⟩
    by_cases z : O' a
    · exact kO a _ ha (.inr ⟨_, rfl⟩) z n
    · exact k a _ ha (.inl z)
  | non => exact Rep.kp h k
  | bl b => exact Rep.kp h k
  | int b => exact Rep.kp h k
  | str b => exact Rep.kp h k
  | tup b => exact Rep.kp h k
  | row => exact Rep.kp h k
  | obj C z0 fs => exact Rep.kp h k
theorem Rep.w {p : PV} {v : V} (h : Rep H Rw O' p v) (s : ∀ a, O a → O' a) : WRep H Rw O O' p v := by
  cases p with
  | lst xs =>
    simp only [Rep] at h
    obtain ⟨a, vs, e, ha, n, r⟩ := h
    exact ⟨a, vs, e, ha, fun z => n (s a z), r⟩
  | dic kvs =>
    simp only [Rep] at h
    obtain ⟨a, vs, e, ha, n, r⟩ := h
    exact ⟨a, vs, e, ha, fun z => n (s a z), r⟩
  | non => exact h
  | bl b => exact h
  | int b => exact h
  | str b => exact h
  | tup b => exact h
  | row => exact h
  | obj C z0 fs => exact h
theorem WRep.rep {p : PV} {v : V} (h : WRep H Rw O O' p v) (s : ∀ a, O a → O' a) : Rep H Rw O p v := by
  cases p with
  | lst xs =>
    simp only [Rep]
    obtain ⟨a, vs, e, ha, n, r⟩ := h
    exact ⟨a, vs, e, ha, n, Reps.go Kp.refl (fun a z => .inl (s a z)) xs vs r⟩
  | dic kvs =>
    simp only [Rep]
    obtain ⟨a, vs, e, ha, n, r⟩ := h
    exact ⟨a, vs, e, ha, n, RepsK.go Kp.refl (fun a z => .inl (s a z)) kvs vs r⟩
  | non => exact Rep.sub h s
  | bl b => exact Rep.sub h s
  | int b => exact Rep.sub h s
  | str b => exact Rep.sub h s
  | tup b => exact Rep.sub h s
  | row => exact Rep.sub h s
  | obj C z0 fs => exact Rep.sub h s
theorem TRep.go {p : PV} {a : Addr} (h : TRep H Rw O p a) (k : Kp O H H') (h2 : ∀ a, O2 a → O a ∨ H a = none) (ha : H' a = H a) : TRep H' Rw O2 p a := by
  cases p with
  | lst xs =>
    obtain ⟨vs, e, r⟩ := h
    exact ⟨vs, ha.trans e, Reps.go k h2 xs vs r⟩
  | dic kvs =>
    obtain ⟨vs, e, r⟩ := h
    exact ⟨vs, ha.trans e, RepsK.go k h2 kvs vs r⟩
  | _ => exact h.elim
theorem TRep.there {p : PV} {a : Addr} (h : TRep H Rw O p a) : H a ≠ none := by
  cases p with
  | lst xs => obtain ⟨vs, e, r⟩ := h; rw [e]; exact Option.some_ne_none _
  | dic xs => obtain ⟨vs, e, r⟩ := h; rw [e]; exact Option.some_ne_none _
  | _ => exact h.elim
theorem TRep.w {p : PV} {a : Addr} (h : TRep H Rw O' p a) (n : ¬ O a) : WRep H Rw O O' p (.ref a) := by
  cases p with
  | lst xs => obtain ⟨vs, e, r⟩ := h; exact ⟨a, vs, rfl, e, n, r⟩
  | dic xs => obtain ⟨vs, e, r⟩ := h; exact ⟨a, vs, rfl, e, n, r⟩
  | _ => exact h.elim
/-- flat values: nothing in O -/
theorem flat_rep : ∀ (n : Nat) (p : PV) (v : V), flat n p = true → Rep H Rw O p v → Rep H Rw O2 p v := by
  intro n
  induction n with
  | zero =>
    intro p v f h
    cases p with
    | lst xs => simp [flat] at f
    | dic xs => simp [flat] at f
    | tup xs => simp [flat] at f
    | row => simp [flat] at f
    | obj C z0 fs => simp [flat] at f
    | non => simp only [Rep] at h ⊢; exact h
    | bl b => simp only [Rep] at h ⊢; exact h
    | int b => simp only [Rep] at h ⊢; exact h
    | str b => simp only [Rep] at h ⊢; exact h
  | succ n ih =>
    intro p v f h
    cases p with
    | lst xs => simp [flat] at f
    | dic xs => simp [flat] at f
    | tup xs =>
      simp only [flat] at f
      simp only [Rep] at h ⊢
      obtain ⟨a, vs, e, ha, r⟩ := h
      refine ⟨a, vs, e, ha, ?_⟩
      clear e ha
      induction xs generalizing vs with
      | nil => simp only [Reps] at r ⊢; exact r
      | cons x xs ihx =>
        simp only [List.all_cons, Bool.and_eq_true] at f
        simp only [Reps] at r ⊢
        obtain ⟨w, ws, e, r1, r2⟩ := r
        exact ⟨w, ws, e, ih x w f.1 r1, ihx f.2 ws r2⟩
    | row => simp [flat] at f
    | obj C z0 fs => simp [flat] at f
    | non => simp only [Rep] at h ⊢; exact h
    | bl b => simp only [Rep] at h ⊢; exact h
    | int b => simp only [Rep] at h ⊢; exact h
    | str b => simp only [Rep] at h ⊢; exact h
theorem Reps.length : ∀ {xs : List PV} {vs : List V}, Reps H Rw O xs vs → xs.length = vs.length
  | [], _, h => by simp only [Reps] at h; subst h; rfl
  | x :: xs, _, h => by
    simp only [Reps] at h
    obtain ⟨w, ws, e, _, r⟩ := h
    subst e
    simp only [List.length_cons, Reps.length r]
theorem Reps.get : ∀ {xs : List PV} {vs : List V} {i : Nat} {x : PV}, Reps H Rw O xs vs → xs[i]? = some x → ∃ v, vs[i]? = some v ∧ Rep H Rw O x v
  | [], _, _, _, _, e => by simp at e
  | y :: xs, _, 0, x, h, e => by
    simp only [Reps] at h
    obtain ⟨w, ws, rfl, r, _⟩ := h
    simp at e; subst e
    exact ⟨w, rfl, r⟩
  | y :: xs, _, i + 1, x, h, e => by
    simp only [Reps] at h
    obtain ⟨w, ws, rfl, _, r⟩ := h
    simp at e
    obtain ⟨v, h1, h2⟩ := Reps.get r e
    exact ⟨v, by simpa using h1, h2⟩
theorem Reps.set {x : PV} {v : V} (r : Rep H Rw O x v) : ∀ {xs : List PV} {vs : List V} (i : Nat), Reps H Rw O xs vs → Reps H Rw O (xs.set i x) (vs.set i v)
  | [], _, _, h => by simp only [Reps] at h; subst h; simp [Reps]
  | y :: xs, _, 0, h => by
    simp only [Reps] at h
    obtain ⟨w, ws, rfl, _, r2⟩ := h
    simp only [List.set_cons_zero, Reps]
    exact ⟨v, ws, rfl, r, r2⟩
  | y :: xs, _, i + 1, h => by
    simp only [Reps] at h
    obtain ⟨w, ws, rfl, r1, r2⟩ := h
    simp only [List.set_cons_succ, Reps]
    exact ⟨w, _, rfl, r1, Reps.set r i r2⟩
theorem Reps.append : ∀ {xs ys : List PV} {vs ws : List V}, Reps H Rw O xs vs → Reps H Rw O ys ws → Reps H Rw O (xs ++ ys) (vs ++ ws)
  | [], _, _, _, h, k => by simp only [Reps] at h; subst h; exact k
  | y :: xs, _, _, _, h, k => by
    simp only [Reps] at h
    obtain ⟨w, ws, rfl, r1, r2⟩ := h
    simp only [List.cons_append, Reps]
    exact ⟨w, _, rfl, r1, Reps.append r2 k⟩
theorem Reps.take : ∀ {xs : List PV} {vs : List V} (n : Nat), Reps H Rw O xs vs → Reps H Rw O (xs.take n) (vs.take n)
  | _, _, 0, _ => by simp [Reps]
  | [], _, n + 1, h => by simp only [Reps] at h; subst h; simp [Reps]
  | y :: xs, _, n + 1, h => by
    simp only [Reps] at h
    obtain ⟨w, ws, rfl, r1, r2⟩ := h
    simp only [List.take_succ_cons, Reps]
    exact ⟨w, _, rfl, r1, Reps.take n r2⟩
theorem Reps.drop : ∀ {xs : List PV} {vs : List V} (n : Nat), Reps H Rw O xs vs → Reps H Rw O (xs.drop n) (vs.drop n)
  | _, _, 0, h => h
  | [], _, n + 1, h => by simp only [Reps] at h; subst h; simp [Reps]
  | y :: xs, _, n + 1, h => by
    simp only [Reps] at h
    obtain ⟨w, ws, rfl, r1, r2⟩ := h
    exact Reps.drop n r2
theorem Reps.reverse : ∀ {xs : List PV} {vs : List V}, Reps H Rw O xs vs → Reps H Rw O xs.reverse vs.reverse
  | [], _, h => by simp only [Reps] at h; subst h; simp [Reps]
  | y :: xs, _, h => by
    simp only [Reps] at h
    obtain ⟨w, ws, rfl, r1, r2⟩ := h
    rw [List.reverse_cons, List.reverse_cons]
    refine Reps.append (Reps.reverse r2) ?_
    simp only [Reps]
    exact ⟨w, [], rfl, r1, rfl⟩
theorem Reps.flatten_rep {xs : List PV} {vs : List V} (h : Reps H Rw O xs vs) : ∀ n : Nat, Reps H Rw O (List.replicate n xs).flatten (List.replicate n vs).flatten
  | 0 => by simp [Reps]
  | n + 1 => by
    rw [List.replicate_succ, List.replicate_succ, List.flatten_cons, List.flatten_cons]
    exact Reps.append h (Reps.flatten_rep h n)
end
end Ev
set_option autoImplicit false
set_option linter.all false
set_option Elab.async false
set_option maxRecDepth 100000
/-! Ev2: the plain operations of Ev0 are what the machine does. -/
namespace Ev
open PySem PySem.Spec PyProof.Rows L2

inductive FL where
  | raw | cln | frs
  deriving DecidableEq
def Ad (O : AP1) (a : Addr) : AP1 := fun b => O b ∨ b = a
/-- a value that has just come: H0 the heap ahead -/
def FRep (f : FL) (H0 H : Hp) (Rw O O' : AP1) (p : PV) (v : V) : Prop :=
  match f with
  | .raw => WRep H Rw O O' p v
  | .cln => Rep H Rw O' p v
  | .frs => match p with
    | .lst xs => ∃ a, v = .ref a ∧ H0 a = none ∧ ¬ O' a ∧ TRep H Rw (Ad O' a) (.lst xs) a
    | .dic xs => ∃ a, v = .ref a ∧ H0 a = none ∧ ¬ O' a ∧ TRep H Rw (Ad O' a) (.dic xs) a
    | p => Rep H Rw O' p v
section
variable {H0 H H' : Hp} {Rw O O' : AP1} {p : PV} {v : V}
theorem TRep.sub {a : Addr} {O2 : AP1} (h : TRep H Rw O p a) (s : ∀ a, O2 a → O a) : TRep H Rw O2 p a := TRep.go h Kp.refl (fun a z => .inl (s a z)) rfl
theorem FRep.cln (h : FRep .frs H0 H Rw O O' p v) : Rep H Rw O' p v := by
  cases p with
  | lst xs =>
    obtain ⟨a, e, _, n, t⟩ := h
    obtain ⟨vs, ha, r⟩ := TRep.sub (O2 := O') t (fun _ z => .inl z)
    simp only [Rep]
    exact ⟨a, vs, e, ha, n, r⟩
  | dic xs =>
    obtain ⟨a, e, _, n, t⟩ := h
    obtain ⟨vs, ha, r⟩ := TRep.sub (O2 := O') t (fun _ z => .inl z)
    simp only [Rep]
    exact ⟨a, vs, e, ha, n, r⟩
  | non => exact h
  | bl b => exact h
  | int b => exact h
  | str b => exact h
  | tup b => exact h
  | row => exact h
  | obj C z0 fs => exact h
/-- an answer of any kind from a new one -/
theorem FRep.any (f : FL) (h : FRep .frs H0 H Rw O O' p v) (s : ∀ a, O a → O' a) : FRep f H0 H Rw O O' p v := by
  cases f with
  | raw => exact Rep.w h.cln s
  | cln => exact h.cln
  | frs => exact h
theorem FRep.raw {f : FL} (h : FRep f H0 H Rw O O' p v) (s : ∀ a, O a → O' a) : WRep H Rw O O' p v := by
  cases f with
  | raw => exact h
  | cln => exact Rep.w h s
  | frs => exact Rep.w h.cln s
/-- the answer by a rule that leaves the heap -/
def Ans (H : Hp) (Rw O O' : AP1) (p : PV) (Q : VK) : Prop := ∀ v' H', Kp Rw H H' → (∀ a, Rw a → H' a = H a) → FRep .frs H H' Rw O O' p v' → Q v' H'
theorem Ans.scal {Q : VK} (h : Ans H Rw O O' p Q) (q : FRep .frs H H Rw O O' p v) : Q v H := h v H Kp.refl (fun _ _ => rfl) q
theorem Ans.lst {xs : List PV} {vs : List V} {Q : VK} {q : Addr} (h : Ans H Rw O O' (.lst xs) Q) (trk : ∀ a, O' a → H a ≠ none) (ro : ∀ a, Rw a → O' a) (r : Reps H Rw O' xs vs) (n : H q = none) : Q (.ref q) (upd H q (.lst vs)) := by
  refine h _ _ (Kp.upd n) (fun a z => upd_ne fun e => trk a (ro a z) (e ▸ n)) ⟨q, rfl, n, fun z => trk q z n, vs, upd_same, ?_⟩
  exact Reps.go (Kp.upd n) (fun a z => z.imp id fun e => by rw [e]; exact n) _ _ r
theorem Ans.dic {xs : List (PV × PV)} {vs : List (Key × V)} {Q : VK} {q : Addr} (h : Ans H Rw O O' (.dic xs) Q) (trk : ∀ a, O' a → H a ≠ none) (ro : ∀ a, Rw a → O' a) (r : RepsK H Rw O' xs vs) (n : H q = none) : Q (.ref q) (upd H q (.dK vs)) := by
  refine h _ _ (Kp.upd n) (fun a z => upd_ne fun e => trk a (ro a z) (e ▸ n)) ⟨q, rfl, n, fun z => trk q z n, vs, upd_same, ?_⟩
  exact RepsK.go (Kp.upd n) (fun a z => z.imp id fun e => by rw [e]; exact n) _ _ r
theorem Ans.tup {xs : List PV} {vs : List V} {Q : VK} {q : Addr} (h : Ans H Rw O O' (.tup xs) Q) (trk : ∀ a, O' a → H a ≠ none) (ro : ∀ a, Rw a → O' a) (r : Reps H Rw O' xs vs) (n : H q = none) : Q (.ref q) (upd H q (.tup vs)) := by
  refine h _ _ (Kp.upd n) (fun a z => upd_ne fun e => trk a (ro a z) (e ▸ n)) ?_
  show Rep _ _ _ (.tup xs) _
  simp only [Rep]
  exact ⟨q, vs, rfl, upd_same, Reps.kp r (Kp.upd n)⟩
theorem Ans.same {Q : VK} (h : Ans H Rw O O' p Q) (r : Rep H Rw O' p v) (f : flat 8 p = true) : Q v H := by
  refine h.scal ?_
  cases p with
  | lst xs => simp [flat] at f
  | dic xs => simp [flat] at f
  | non => exact r
  | bl b => exact r
  | int b => exact r
  | str b => exact r
  | tup b => exact r
  | row => exact r
  | obj C z0 fs => exact r
/-- the sets of addresses as they stand -/
structure Sts (H : Hp) (Rw O O' : AP1) : Prop where
  trk : ∀ a, O' a → H a ≠ none
  ro : ∀ a, Rw a → O' a
  oo : ∀ a, O a → O' a
theorem okS_append {a b : List Nat} (ha : OkS a) (hb : OkS b) (h : a.length + b.length ≤ lim) : OkS (a ++ b) :=
  ⟨by rw [List.length_append]; exact h, fun c hc => (List.mem_append.mp hc).elim (ha.cps c) (hb.cps c)⟩
theorem toStr_append (a b : List Nat) : toStr a ++ toStr b = toStr (a ++ b) := by
  show Str.append _ _ = _
  unfold Str.append
  simp
theorem toStr_len (a : List Nat) : (toStr a).length = a.length := by
  show (a.toArray).size = a.length
  simp
theorem lim_eq : lim = sizeLine := rfl
theorem w_int {i : Int} (h : WRep H Rw O O' (.int i) v) : v = .int i := h
theorem w_str {s : List Nat} (h : WRep H Rw O O' (.str s) v) : v = .str (toStr s) ∧ OkS s := h
theorem w_bl {b : Bool} (h : WRep H Rw O O' (.bl b) v) : v = .bl b := h
theorem r_int (i : Int) : Rep H Rw O (.int i) (.int i) := by simp [Rep]
theorem r_bl (i : Bool) : Rep H Rw O (.bl i) (.bl i) := by simp [Rep]
theorem r_non : Rep H Rw O .non .non := by simp [Rep]
theorem r_str {s : List Nat} (o : OkS s) : Rep H Rw O (.str s) (.str (toStr s)) := by simp only [Rep]; exact ⟨trivial, o⟩
theorem Ans.int {i : Int} {Q : VK} (h : Ans H Rw O O' (.int i) Q) : Q (.int i) H := h.scal (v := .int i) (show Rep H Rw O' _ _ from r_int i)
theorem Ans.bl {i : Bool} {Q : VK} (h : Ans H Rw O O' (.bl i) Q) : Q (.bl i) H := h.scal (v := .bl i) (show Rep H Rw O' _ _ from r_bl i)
theorem Ans.non {Q : VK} (h : Ans H Rw O O' .non Q) : Q .non H := h.scal (v := .non) (show Rep H Rw O' _ _ from r_non)
theorem Ans.str {i : List Nat} {Q : VK} (h : Ans H Rw O O' (.str i) Q) (o : OkS i) : Q (.str (toStr i)) H := h.scal (v := .str (toStr i)) (show Rep H Rw O' _ _ from r_str o)
end

/-! ### text times int -/
section
variable {X : Cx}
theorem foldl_repA (xs : Array Nat) : ∀ (n : Nat) (acc : Array Nat), (List.replicate n xs).foldl (· ++ ·) acc = (acc.toList ++ (List.replicate n xs.toList).flatten).toArray
  | 0, acc => by simp
  | n + 1, acc => by
    rw [List.replicate_succ, List.foldl_cons, foldl_repA xs n, List.replicate_succ, List.flatten_cons]
    simp
def rMulS : R2 := fun x y H Q => ∃ (s : List Nat) (k : Int), x = .str (toStr s) ∧ y = .int k ∧ -(2 ^ 62) ≤ k ∧ k < 2 ^ 62 ∧ s.length ≤ sizeLine ∧ s.length * k.toNat ≤ sizeLine ∧ Q (.str (toStr (List.replicate k.toNat s).flatten)) H
theorem op_mulS : OpR X (binaryOp .Mult) rMulS := by
  intro pins s σ H x y v u Q I rx ry h
  obtain ⟨z, k, rfl, rfl, h1, h2, h0, h3, q⟩ := h
  obtain ⟨t, rfl⟩ := rx
  obtain ⟨t', rfl⟩ := ry
  have hz : (toStr z).length = z.length := toStr_len z
  have hsl : (sizeLine : Nat) = 2 ^ 24 := rfl
  refine P.mul_str ?_ ?_ ?_ ?_
  · have a : ¬ k < -(2 ^ 63 : Int) := by omega
    have b : ¬ k ≥ 2 ^ 63 := by omega
    rw [decide_eq_false a, decide_eq_false b]; rfl
  · intro hk hc hb
    rw [hz] at hb
    have e : (z.length : Int) * k ≤ 2 ^ 24 := by
      have : ((z.length * k.toNat : Nat) : Int) = (z.length : Int) * k := by
        rw [Int.natCast_mul, Int.toNat_of_nonneg (by omega)]
      rw [← this]; omega
    have : (2 ^ 63 - 1 : Int) / k < z.length := hb
    have h5 : (2 ^ 63 - 1 : Int) < (z.length : Int) * k := (Int.ediv_lt_iff_lt_mul (by omega)).mp this
    omega
  · intro hk hc
    unfold Builtin.Str.tooLong
    rw [hz]
    exact decide_eq_false (by rw [hsl] at h3; show ¬ _ > 2 ^ 24; omega)
  · by_cases c : k < 1
    · rw [if_pos c]
      have e : k.toNat = 0 := by omega
      rw [e] at q
      exact ⟨by decide, ⟨.str _, H, I.tok _, ⟨_, rfl⟩, q⟩⟩
    · rw [if_neg c]
      by_cases c2 : (k == 1 || (toStr z).length == 0) = true
      · rw [if_pos c2]
        have e : (List.replicate k.toNat z).flatten = z := by
          rw [hz] at c2
          rcases Bool.or_eq_true_iff.mp c2 with e | e
          · have e' : k = 1 := by simpa using e
            subst e'
            simp
          · have e' : z.length = 0 := by simpa using e
            have e2 : z = [] := List.eq_nil_of_length_eq_zero e'
            subst e2
            simp
        rw [e] at q
        exact ⟨.str _, H, I, ⟨_, rfl⟩, q⟩
      · rw [if_neg c2]
        have e : (⟨(List.replicate k.toNat (toStr z).cps).foldl (· ++ ·) #[]⟩ : Str) = toStr (List.replicate k.toNat z).flatten := by
          rw [foldl_repA]
          simp
        rw [e]
        refine ⟨?_, ⟨.str _, H, I.tok _, ⟨_, rfl⟩, q⟩⟩
        rw [toStr_len, List.length_flatten]
        simp only [List.map_replicate, List.sum_replicate_nat]
        rw [Nat.mul_comm]; exact h3
end

/-! ### the operators -/
def opOf : BOp → Operator
  | .add => .Add
  | .sub => .Sub
  | .mul => .Mult
  | .div => .FloorDiv
  | .mod => .Mod
  | .pow => .Pow
section
variable {X : Cx}
theorem reps_len {H : Hp} {Rw O : AP1} {xs : List PV} {vs : List V} (h : Reps H Rw O xs vs) : vs.length = xs.length := (Reps.length h).symm
theorem bin_snd (K : PySem.W.Frag) (o : BOp) : ∃ r : R2, (∀ X : Cx, X.K = K → OpR X (binaryOp (opOf o)) r) ∧ ∀ (a b p : PV) (v u : V) (H : Hp) (Rw O O' : AP1) (Q : VK), binP o a b = some p → Sts H Rw O O' → WRep H Rw O O' a v → WRep H Rw O O' b u → Ans H Rw O O' p Q → r v u H Q := by
  cases o with
  | add =>
    refine ⟨_, fun X hK => OpR.or op_add (OpR.or op_add_str (OpR.or op_cat (hK ▸ op_catA))), fun a b p v u H Rw O O' Q e S ra rb q => ?_⟩
    unfold binP at e
    split at e <;> first | (cases e; done) | skip
    all_goals first | contradiction | skip
    · rename_i i j he
      cases e
      exact .inl ⟨i, j, w_int ra, w_int rb, q.int⟩
    · rename_i x y he
      split at e
      · rename_i hl
        cases e
        obtain ⟨rfl, ok1⟩ := w_str ra
        obtain ⟨rfl, ok2⟩ := w_str rb
        refine .inr (.inl ⟨_, _, rfl, rfl, by rw [toStr_len, toStr_len]; exact hl, ?_⟩)
        rw [toStr_append]
        exact q.str (okS_append ok1 ok2 hl)
      · cases e
    · rename_i x y he
      split at e
      · rename_i hl
        cases e
        obtain ⟨a1, vs, rfl, h1, _, r1⟩ := ra
        obtain ⟨a2, ws, rfl, h2, _, r2⟩ := rb
        exact .inr (.inr (.inl ⟨a1, a2, vs, ws, rfl, rfl, h1, h2, by rw [reps_len r1, reps_len r2]; exact hl, fun p hp => q.lst S.trk S.ro (r1.append r2) hp⟩))
      · cases e
    · rename_i x y he
      split at e
      · rename_i hl
        cases e
        simp only [WRep, Rep] at ra rb
        obtain ⟨a1, vs, rfl, h1, r1⟩ := ra
        obtain ⟨a2, ws, rfl, h2, r2⟩ := rb
        refine .inr (.inr (.inr ⟨a1, a2, vs, ws, rfl, rfl, SqT.of h1, SqT.of h2, by rw [reps_len r1, reps_len r2]; exact hl, fun z => ?_, fun _ z => ?_, fun _ _ p hp => q.tup S.trk S.ro (r1.append r2) hp⟩))
        · have hx : x = [] := List.eq_nil_of_length_eq_zero (by rw [← reps_len r1, z]; rfl)
          subst hx
          refine q.scal ?_
          show Rep _ _ _ _ _
          simp only [Rep, List.nil_append]
          exact ⟨a2, ws, rfl, h2, r2⟩
        · have hy : y = [] := List.eq_nil_of_length_eq_zero (by rw [← reps_len r2, z]; rfl)
          subst hy
          refine q.scal ?_
          show Rep _ _ _ _ _
          simp only [Rep, List.append_nil]
          exact ⟨a1, vs, rfl, h1, r1⟩
      · cases e
  | sub =>
    refine ⟨_, fun X _ => op_sub, fun a b p v u H Rw O O' Q e S ra rb q => ?_⟩
    unfold binP at e
    split at e <;> first | contradiction | skip
    cases e
    exact ⟨_, _, w_int ra, w_int rb, q.int⟩
  | mul =>
    refine ⟨_, fun X _ => OpR.or op_mul (OpR.or op_mulW (OpR.or op_mulS op_rep)), fun a b p v u H Rw O O' Q e S ra rb q => ?_⟩
    unfold binP at e
    split at e <;> first | contradiction | skip
    · rename_i i j he
      split at e
      · rename_i hc
        cases e
        simp only [Bool.or_eq_true] at hc
        rcases hc with (hc | hc) | hc
        · simp only [sm64, Bool.and_eq_true, decide_eq_true_eq] at hc
          exact .inl ⟨i, j, w_int ra, w_int rb, .inl hc, q.int⟩
        · simp only [sm64, Bool.and_eq_true, decide_eq_true_eq] at hc
          exact .inl ⟨i, j, w_int ra, w_int rb, .inr hc, q.int⟩
        · exact .inr (.inl ⟨i, j, w_int ra, w_int rb, (by simpa [mulOk, CMulW] using hc), q.int⟩)
      · cases e
    · rename_i x k he
      split at e
      · rename_i hc
        cases e
        simp only [sm62, Bool.and_eq_true, decide_eq_true_eq] at hc
        obtain ⟨rfl, ok1⟩ := w_str ra
        refine .inr (.inr (.inl ⟨x, k, rfl, w_int rb, hc.1.1, hc.1.2, ok1.len, hc.2, q.str ⟨?_, fun c hm => ?_⟩⟩))
        · rw [List.length_flatten]
          simp only [List.map_replicate, List.sum_replicate_nat]
          rw [Nat.mul_comm]; exact hc.2
        · obtain ⟨l, hl, hcl⟩ := List.mem_flatten.mp hm
          rw [List.eq_of_mem_replicate hl] at hcl
          exact ok1.cps c hcl
      · cases e
    · rename_i x k he
      split at e
      · rename_i hc
        cases e
        simp only [sm62, Bool.and_eq_true, decide_eq_true_eq] at hc
        obtain ⟨a1, vs, rfl, h1, _, r1⟩ := ra
        exact .inr (.inr (.inr ⟨a1, k, vs, rfl, w_int rb, h1, by omega, by omega, by rw [reps_len r1]; exact hc.2, fun p hp => q.lst S.trk S.ro (r1.flatten_rep _) hp⟩))
      · cases e
  | div =>
    refine ⟨_, fun X _ => OpR.or op_fdiv op_fdivW, fun a b p v u H Rw O O' Q e S ra rb q => ?_⟩
    unfold binP at e
    split at e <;> first | contradiction | skip
    split at e
    · rename_i hc
      cases e
      simp only [Bool.and_eq_true, Bool.or_eq_true, decide_eq_true_eq] at hc
      rcases hc.2 with h | h
      · exact .inl ⟨_, _, w_int ra, w_int rb, ⟨hc.1, h⟩, q.int⟩
      · exact .inr ⟨_, _, w_int ra, w_int rb, ⟨hc.1, by simpa [divOk] using h⟩, q.int⟩
    · cases e
  | mod =>
    refine ⟨_, fun X _ => op_mod, fun a b p v u H Rw O O' Q e S ra rb q => ?_⟩
    unfold binP at e
    split at e <;> first | contradiction | skip
    split at e
    · rename_i hc
      cases e
      exact ⟨_, _, w_int ra, w_int rb, hc, q.int⟩
    · cases e
  | pow =>
    refine ⟨_, fun X _ => op_pow, fun a b p v u H Rw O O' Q e S ra rb q => ?_⟩
    unfold binP at e
    split at e <;> first | contradiction | skip
    split at e
    · rename_i hc
      cases e
      simp only [Bool.and_eq_true, decide_eq_true_eq] at hc
      exact ⟨_, _, w_int ra, w_int rb, ⟨hc.1.1, hc.1.2, hc.2⟩, q.int⟩
    · cases e
theorem iopPow_none {f : Value → Value → Sem Value} : OpR X f (fun _ _ _ _ => False) := fun _ _ _ _ _ _ _ _ _ _ _ _ h => h.elim
/-- .. in place, of ints and texts -/
theorem ibin_snd (o : BOp) : ∃ r : R2, (∀ X : Cx, OpR X (inplaceOp (opOf o)) r) ∧ ∀ (a b p : PV) (v u : V) (H : Hp) (Rw O O' : AP1) (Q : VK), ibinP o a b = some p → Sts H Rw O O' → WRep H Rw O O' a v → WRep H Rw O O' b u → Ans H Rw O O' p Q → r v u H Q := by
  cases o with
  | add =>
    refine ⟨_, fun X => OpR.or iop_add iop_add_str, fun a b p v u H Rw O O' Q e S ra rb q => ?_⟩
    unfold ibinP at e
    split at e <;> first | contradiction | skip
    · cases e
      exact .inl ⟨_, _, w_int ra, w_int rb, q.int⟩
    · rename_i x y he
      split at e
      · rename_i hl
        cases e
        obtain ⟨rfl, ok1⟩ := w_str ra
        obtain ⟨rfl, ok2⟩ := w_str rb
        refine .inr ⟨_, _, rfl, rfl, by rw [toStr_len, toStr_len]; exact hl, ?_⟩
        rw [toStr_append]
        exact q.str (okS_append ok1 ok2 hl)
      · cases e
  | sub =>
    refine ⟨_, fun X => iop_sub, fun a b p v u H Rw O O' Q e S ra rb q => ?_⟩
    unfold ibinP at e
    split at e <;> first | contradiction | skip
    cases e
    exact ⟨_, _, w_int ra, w_int rb, q.int⟩
  | mul =>
    refine ⟨_, fun X => iop_mul, fun a b p v u H Rw O O' Q e S ra rb q => ?_⟩
    unfold ibinP at e
    split at e <;> first | contradiction | skip
    split at e
    · rename_i hc
      cases e
      simp only [Bool.or_eq_true] at hc
      rcases hc with hc | hc
      · simp only [sm64, Bool.and_eq_true, decide_eq_true_eq] at hc
        exact ⟨_, _, w_int ra, w_int rb, .inl hc, q.int⟩
      · simp only [sm64, Bool.and_eq_true, decide_eq_true_eq] at hc
        exact ⟨_, _, w_int ra, w_int rb, .inr hc, q.int⟩
    · cases e
  | div =>
    refine ⟨_, fun X => OpR.or iop_fdiv iop_fdivW, fun a b p v u H Rw O O' Q e S ra rb q => ?_⟩
    unfold ibinP at e
    split at e <;> first | contradiction | skip
    split at e
    · rename_i hc
      cases e
      simp only [Bool.and_eq_true, Bool.or_eq_true, decide_eq_true_eq] at hc
      rcases hc.2 with h | h
      · exact .inl ⟨_, _, w_int ra, w_int rb, ⟨hc.1, h⟩, q.int⟩
      · exact .inr ⟨_, _, w_int ra, w_int rb, ⟨hc.1, by simpa [divOk] using h⟩, q.int⟩
    · cases e
  | mod =>
    refine ⟨_, fun X => iop_mod, fun a b p v u H Rw O O' Q e S ra rb q => ?_⟩
    unfold ibinP at e
    split at e <;> first | contradiction | skip
    split at e
    · rename_i hc
      cases e
      exact ⟨_, _, w_int ra, w_int rb, hc, q.int⟩
    · cases e
  | pow =>
    refine ⟨_, fun X => iopPow_none, fun a b p v u H Rw O O' Q e S ra rb q => ?_⟩
    unfold ibinP at e
    split at e <;> contradiction
end
end Ev
set_option autoImplicit false
set_option linter.all false
set_option Elab.async false
set_option maxRecDepth 100000
/-! Ev3: comparisons, truth, subscripts, slices. -/
namespace Ev
open PySem PySem.Spec PyProof.Rows L2

/-! ### values as data -/
mutual
def toPD : PV → PyData
  | .non => .none
  | .bl b => .bool b
  | .int i => .int i
  | .str s => .str (toStr s)
  | .tup xs => .tuple (toPDs xs)
  | .lst xs => .list (toPDs xs)
  | .dic _ => .dict []
  | .row => .dict []
  | .obj _ _ _ => .dict []
def toPDs : List PV → List PyData
  | [] => []
  | x :: xs => toPD x :: toPDs xs
end
theorem toStr_beq (a b : List Nat) : (toStr a == toStr b) = (a == b) := by
  have : (toStr a = toStr b) ↔ a = b := ⟨fun h => by simpa [toStr] using h, fun h => by rw [h]⟩
  rw [Bool.eq_iff_iff, beq_iff_eq, beq_iff_eq, this]
mutual
theorem eqv_peq : ∀ (n m : Nat) (a b : PV), dok n a = true → dok m b = true → PyData.eqv (toPD a) (toPD b) = peq a b
  | n, m, .non, b, _, hb => by cases b <;> simp [toPD, peq, PyData.eqv, dok] at hb ⊢
  | n, m, .bl x, b, _, hb => by cases b <;> simp [toPD, peq, PyData.eqv, dok] at hb ⊢
  | n, m, .int x, b, _, hb => by cases b <;> simp [toPD, peq, PyData.eqv, dok] at hb ⊢
  | n, m, .str x, b, _, hb => by
    cases b with
    | str y =>
      simp only [toPD, peq, PyData.eqv]
      exact toStr_beq x y
    | _ => simp [toPD, peq, PyData.eqv, dok] at hb ⊢
  | n, m, .tup xs, b, ha, hb => by
    cases b with
    | tup ys =>
      cases n with
      | zero => simp [dok] at ha
      | succ n =>
        cases m with
        | zero => simp [dok] at hb
        | succ m =>
          simp only [toPD, peq, PyData.eqv]
          simp only [dok] at ha hb
          exact eqvs_peqs n m xs ys ha hb
    | _ => simp [toPD, peq, PyData.eqv, dok] at hb ⊢
  | n, m, .lst xs, b, ha, hb => by
    cases b with
    | lst ys =>
      cases n with
      | zero => simp [dok] at ha
      | succ n =>
        cases m with
        | zero => simp [dok] at hb
        | succ m =>
          simp only [toPD, peq, PyData.eqv]
          simp only [dok] at ha hb
          exact eqvs_peqs n m xs ys ha hb
    | _ => simp [toPD, peq, PyData.eqv, dok] at hb ⊢
  | n, m, .dic xs, b, ha, hb => by cases n <;> simp [dok] at ha
  | n, m, .row, b, ha, hb => by cases n <;> simp [dok] at ha
  | n, m, .obj _ _ _, b, ha, hb => by cases n <;> simp [dok] at ha
theorem eqvs_peqs : ∀ (n m : Nat) (a b : List PV), a.all (dok n) = true → b.all (dok m) = true → PyData.eqvAll (toPDs a) (toPDs b) = peqs a b
  | _, _, [], [], _, _ => by simp [toPDs, peqs, PyData.eqvAll]
  | _, _, [], _ :: _, _, _ => by simp [toPDs, peqs, PyData.eqvAll]
  | _, _, _ :: _, [], _, _ => by simp [toPDs, peqs, PyData.eqvAll]
  | n, m, x :: xs, y :: ys, ha, hb => by
    simp only [List.all_cons, Bool.and_eq_true] at ha hb
    simp only [toPDs, peqs, PyData.eqvAll]
    rw [eqv_peq n m x y ha.1 hb.1, eqvs_peqs n m xs ys ha.2 hb.2]
end
mutual
theorem dep_dok : ∀ (n : Nat) (a : PV), dok n a = true → (toPD a).depth ≤ n
  | _, .non, _ => by simp [toPD, PyData.depth]
  | _, .bl _, _ => by simp [toPD, PyData.depth]
  | _, .int _, _ => by simp [toPD, PyData.depth]
  | _, .str _, _ => by simp [toPD, PyData.depth]
  | 0, .tup xs, h => by simp [dok] at h
  | n + 1, .tup xs, h => by
    simp only [toPD, PyData.depth]
    simp only [dok] at h
    exact Nat.succ_le_succ (deps_dok n xs h)
  | 0, .lst xs, h => by simp [dok] at h
  | n + 1, .lst xs, h => by
    simp only [toPD, PyData.depth]
    simp only [dok] at h
    exact Nat.succ_le_succ (deps_dok n xs h)
  | n, .dic xs, h => by cases n <;> simp [dok] at h
  | n, .row, h => by cases n <;> simp [dok] at h
  | n, .obj _ _ _, h => by cases n <;> simp [dok] at h
theorem deps_dok : ∀ (n : Nat) (a : List PV), a.all (dok n) = true → PyData.depthAll (toPDs a) ≤ n
  | _, [], _ => by simp [toPDs, PyData.depthAll]
  | n, x :: xs, h => by
    simp only [List.all_cons, Bool.and_eq_true] at h
    simp only [toPDs, PyData.depthAll]
    exact Nat.max_le.mpr ⟨dep_dok n x h.1, deps_dok n xs h.2⟩
end
section
variable {K : PySem.W.Frag} {H : Hp} {Rw O O' : AP1}
mutual
theorem Rep.dp : ∀ (n : Nat) (p : PV) (v : V), dok n p = true → Rep H Rw O p v → Dp K H v (toPD p) ∧ (toPD p).canLay0 = true
  | _, .non, _, _, h => by simp only [Rep] at h; subst h; exact ⟨.non, by simp [toPD, PyData.canLay0]⟩
  | _, .bl b, _, _, h => by simp only [Rep] at h; subst h; exact ⟨.bl b, by simp [toPD, PyData.canLay0]⟩
  | _, .int i, _, _, h => by simp only [Rep] at h; subst h; exact ⟨.int i, by simp [toPD, PyData.canLay0]⟩
  | _, .str s, _, _, h => by
    simp only [Rep] at h
    obtain ⟨rfl, ok⟩ := h
    refine ⟨.str _, ?_⟩
    simp only [toPD, PyData.canLay0, PyData.strOk]
    simp only [toStr, Array.all_eq_true_iff_forall_mem, decide_eq_true_eq]
    exact fun c hc => ok.cps c (by simpa using hc)
  | 0, .tup xs, _, d, _ => by simp [dok] at d
  | n + 1, .tup xs, _, d, h => by
    simp only [Rep] at h
    obtain ⟨a, vs, rfl, ha, r⟩ := h
    simp only [dok] at d
    obtain ⟨h1, h2⟩ := Reps.dp n xs vs d r
    exact ⟨.tup (SqT.of ha) h1, by simp only [toPD, PyData.canLay0]; exact h2⟩
  | 0, .lst xs, _, d, _ => by simp [dok] at d
  | n + 1, .lst xs, _, d, h => by
    simp only [Rep] at h
    obtain ⟨a, vs, rfl, ha, _, r⟩ := h
    simp only [dok] at d
    obtain ⟨h1, h2⟩ := Reps.dp n xs vs d r
    exact ⟨.lst (SqL.of ha) h1, by simp only [toPD, PyData.canLay0]; exact h2⟩
  | n, .dic xs, _, d, _ => by cases n <;> simp [dok] at d
  | n, .row, _, d, _ => by cases n <;> simp [dok] at d
  | n, .obj _ _ _, _, d, _ => by cases n <;> simp [dok] at d
theorem Reps.dp : ∀ (n : Nat) (p : List PV) (v : List V), p.all (dok n) = true → Reps H Rw O p v → DpAll K H v (toPDs p) ∧ PyData.canLayAll0 (toPDs p) = true
  | _, [], _, _, h => by simp only [Reps] at h; subst h; exact ⟨.nil, by simp [toPDs, PyData.canLayAll0]⟩
  | n, x :: xs, _, d, h => by
    simp only [Reps] at h
    obtain ⟨w, ws, rfl, r1, r2⟩ := h
    simp only [List.all_cons, Bool.and_eq_true] at d
    obtain ⟨h1, h2⟩ := Rep.dp n x w d.1 r1
    obtain ⟨h3, h4⟩ := Reps.dp n xs ws d.2 r2
    refine ⟨.cons h1 h3, ?_⟩
    simp only [toPDs, PyData.canLayAll0, Bool.and_eq_true]
    exact ⟨h2, h4⟩
end
theorem WRep.dp {n : Nat} {p : PV} {v : V} (d : dok n p = true) (h : WRep H Rw O O' p v) : Dp K H v (toPD p) ∧ (toPD p).canLay0 = true := by
  cases p with
  | lst xs =>
    obtain ⟨a, vs, rfl, ha, _, r⟩ := h
    cases n with
    | zero => simp [dok] at d
    | succ n =>
      simp only [dok] at d
      obtain ⟨h1, h2⟩ := Reps.dp (K := K) n xs vs d r
      exact ⟨.lst (SqL.of ha) h1, by simp only [toPD, PyData.canLay0]; exact h2⟩
  | dic xs => cases n <;> simp [dok] at d
  | non => exact Rep.dp (Rw := Rw) (O := O') n _ _ d h
  | bl b => exact Rep.dp (Rw := Rw) (O := O') n _ _ d h
  | int b => exact Rep.dp (Rw := Rw) (O := O') n _ _ d h
  | str b => exact Rep.dp (Rw := Rw) (O := O') n _ _ d h
  | tup b => exact Rep.dp (Rw := Rw) (O := O') n _ _ d h
  | row => exact Rep.dp (Rw := Rw) (O := O') n _ _ d h
  | obj C z0 fs => exact Rep.dp (Rw := Rw) (O := O') n _ _ d h
theorem WRep.shaped {n : Nat} {p : PV} {v : V} (hn : n ≤ 64) (d : dok n p = true) (h : WRep H Rw O O' p v) : Dp K H v (toPD p) ∧ SeqAt.shaped (toPD p) = true := by
  obtain ⟨h1, h2⟩ := WRep.dp (K := K) d h
  refine ⟨h1, ?_⟩
  unfold SeqAt.shaped
  rw [h2, decide_eq_true (Nat.le_trans (dep_dok n p d) hn)]
  rfl
end

/-! ### order of texts; pieces of texts -/
theorem ltS_eq : ∀ a b : List Nat, ltS a b = decide (a < b)
  | [], [] => by simp [ltS]
  | _ :: _, [] => by simp [ltS]
  | [], _ :: _ => by simp [ltS]
  | x :: r, y :: s => by
    have ih := ltS_eq r s
    unfold ltS
    rw [ih, Bool.eq_iff_iff]
    simp only [decide_eq_true_eq, List.cons_lt_cons_iff]
    by_cases h : x < y
    · simp [h]
    · by_cases h2 : y < x
      · rw [if_neg h, if_pos h2]
        simp
        omega
      · have : x = y := by omega
        subst this
        simp
theorem isPre_iff : ∀ (y x : List Nat), isPre y x = true ↔ ∃ t, x = y ++ t
  | [], x => by simp [isPre]
  | a :: r, [] => by simp [isPre]
  | a :: r, b :: s => by
    simp only [isPre, Bool.and_eq_true, beq_iff_eq, isPre_iff r s, List.cons_append, List.cons.injEq]
    constructor
    · rintro ⟨rfl, t, rfl⟩; exact ⟨t, rfl, rfl⟩
    · rintro ⟨t, rfl, rfl⟩; exact ⟨rfl, t, rfl⟩
theorem isSub_iff : ∀ (y x : List Nat), isSub y x = true ↔ ∃ u t, x = u ++ y ++ t
  | y, [] => by
    simp only [isSub, isPre_iff]
    constructor
    · rintro ⟨t, e⟩; exact ⟨[], t, by simpa using e⟩
    · rintro ⟨u, t, e⟩
      have e' := e.symm
      simp at e'
      exact ⟨[], by simp [e'.2.1]⟩
  | y, b :: s => by
    simp only [isSub, Bool.or_eq_true, isPre_iff, isSub_iff y s]
    constructor
    · rintro (⟨t, e⟩ | ⟨u, t, e⟩)
      · exact ⟨[], t, by simpa using e⟩
      · exact ⟨b :: u, t, by simp [e]⟩
    · rintro ⟨u, t, e⟩
      cases u with
      | nil => exact .inl ⟨t, by simpa using e⟩
      | cons c u =>
        simp only [List.cons_append, List.cons.injEq] at e
        exact .inr ⟨u, t, e.2⟩
theorem subAt_iff (x y : List Nat) (i : Nat) (h : i + y.length ≤ x.length) : Builtin.Str.subAt (toStr x) (toStr y) i = true ↔ (x.drop i).take y.length = y := by
  unfold Builtin.Str.subAt
  rw [beq_iff_eq, toStr_len]
  show Array.extract x.toArray i (i + y.length) = y.toArray ↔ _
  rw [← Array.toList_inj]
  simp [List.extract_eq_take_drop]
theorem isSub_occ (y x : List Nat) : (!(Builtin.Str.occurrences (toStr x) (toStr y) 0 (toStr x).length 1).isEmpty) = isSub y x := by
  rw [Bool.eq_iff_iff, StrLaws.found_iff, isSub_iff]
  simp only [toStr_len]
  constructor
  · rintro ⟨i, hi, hs⟩
    rw [subAt_iff x y i hi] at hs
    refine ⟨x.take i, x.drop (i + y.length), ?_⟩
    have e1 := List.take_append_drop i x
    have e2 := List.take_append_drop y.length (x.drop i)
    rw [hs, List.drop_drop] at e2
    rw [List.append_assoc, e2, e1]
  · rintro ⟨u, t, rfl⟩
    refine ⟨u.length, by simp, ?_⟩
    rw [subAt_iff _ _ _ (by simp)]
    simp

/-! ### keys -/
section
variable {H : Hp} {Rw O O' : AP1}
theorem key_eq {k k' : PV} {j j' : Key} (h : Rep H Rw O k (kV j)) (h' : Rep H Rw O' k' (kV j')) (ki : isKey k = true) (ki' : isKey k' = true) : keq k k' = decide (j = j') := by
  cases k with
  | int i =>
    simp only [Rep] at h
    cases j with
    | inl a =>
      cases h
      cases k' with
      | int i' =>
        simp only [Rep] at h'
        cases j' with
        | inl b => cases h'; simp only [keq]; rw [key_ll]
        | inr b => cases h'
      | str s' =>
        simp only [Rep] at h'
        cases j' with
        | inl b => cases h'.1
        | inr b => simp only [keq]; rw [key_lr]
      | _ => simp [isKey] at ki'
    | inr a => cases h
  | str s =>
    simp only [Rep] at h
    cases j with
    | inl a => cases h.1
    | inr a =>
      have e : a = toStr s := V.str.inj h.1
      subst e
      cases k' with
      | int i' =>
        simp only [Rep] at h'
        cases j' with
        | inl b => simp only [keq]; rw [key_rl]
        | inr b => cases h'
      | str s' =>
        simp only [Rep] at h'
        cases j' with
        | inl b => cases h'.1
        | inr b =>
          have e : b = toStr s' := V.str.inj h'.1
          subst e
          simp only [keq]
          rw [key_rr, ← toStr_beq, Bool.beq_eq_decide_eq]
      | _ => simp [isKey] at ki'
  | _ => simp [isKey] at ki
theorem rep_isKey {k : PV} {j : Key} (h : Rep H Rw O k (kV j)) : isKey k = true := by
  cases k with
  | int i => rfl
  | str s => rfl
  | non => simp only [Rep] at h; cases j <;> cases h
  | bl b => simp only [Rep] at h; cases j <;> cases h
  | tup xs => simp only [Rep] at h; obtain ⟨a, vs, e, _⟩ := h; cases j <;> cases e
  | lst xs => simp only [Rep] at h; obtain ⟨a, vs, e, _⟩ := h; cases j <;> cases e
  | dic xs => simp only [Rep] at h; obtain ⟨a, vs, e, _⟩ := h; cases j <;> cases e
  | row => simp only [Rep] at h; obtain ⟨a, e, _⟩ := h; cases j <;> cases e
  | obj C z0 fs => simp only [Rep] at h; obtain ⟨a, dx, vs, e, _⟩ := h; cases j <;> cases e
theorem isKey_rep {k : PV} {v : V} (ki : isKey k = true) (h : Rep H Rw O k v) : ∃ j : Key, v = kV j ∧ Rep H Rw O k (kV j) := by
  cases k with
  | int i => simp only [Rep] at h; subst h; exact ⟨.inl i, rfl, by simp [Rep, kV]⟩
  | str s => simp only [Rep] at h; obtain ⟨rfl, ok⟩ := h; exact ⟨.inr (toStr s), rfl, by simp only [Rep, kV]; exact ⟨trivial, ok⟩⟩
  | _ => simp [isKey] at ki
theorem isKey_w {k : PV} {v : V} (ki : isKey k = true) (h : WRep H Rw O O' k v) : ∃ j : Key, v = kV j ∧ Rep H Rw O' k (kV j) := by
  cases k with
  | int i => exact isKey_rep ki h
  | str s => exact isKey_rep ki h
  | _ => simp [isKey] at ki
/-- the item under a key -/
theorem dget_val {k : PV} {j : Key} (hk : Rep H Rw O k (kV j)) : ∀ {kvs : List (PV × PV)} {kv : List (Key × V)}, RepsK H Rw O kvs kv → match dget k kvs with
    | none => valV kv j = none
    | some p => ∃ v, valV kv j = some v ∧ Rep H Rw O p v
  | [], _, h => by simp only [RepsK] at h; subst h; rfl
  | (k', p) :: r, _, h => by
    simp only [RepsK] at h
    obtain ⟨j', w, ws, rfl, r1, r2, r3⟩ := h
    have e := key_eq r1 hk (rep_isKey r1) (rep_isKey hk)
    unfold dget
    rw [e]
    by_cases c : j' = j
    · rw [decide_eq_true c, if_pos rfl]
      exact ⟨w, valV_pos (p := (j', w)) c, r2⟩
    · rw [decide_eq_false c, if_neg Bool.false_ne_true]
      have ih := dget_val hk r3
      rw [show valV ((j', w) :: ws) j = valV ws j from valV_neg (p := (j', w)) c]
      exact ih
end

/-! ### comparisons -/
def copOf : COp → CmpOp
  | .eq => .Eq
  | .ne => .NotEq
  | .lt => .Lt
  | .le => .LtE
  | .gt => .Gt
  | .ge => .GtE
  | .isin => .In
  | .notin => .NotIn
  | .is => .Is
  | .isnot => .IsNot
section
variable {X : Cx}
theorem Rep.flatV {H : Hp} {Rw O : AP1} {p : PV} {v : V} (f : flat 0 p = true) (h : Rep H Rw O p v) : L2.flatV v = true := by
  cases p with
  | non => simp only [Rep] at h; subst h; rfl
  | bl b => simp only [Rep] at h; subst h; rfl
  | int i => simp only [Rep] at h; subst h; rfl
  | str s => simp only [Rep] at h; obtain ⟨rfl, _⟩ := h; rfl
  | _ => simp [flat] at f
theorem WRep.flat0 {H : Hp} {Rw O O' : AP1} {p : PV} {v : V} (f : flat 0 p = true) (h : WRep H Rw O O' p v) : Rep H Rw O' p v := by
  cases p with
  | lst xs => simp [flat] at f
  | dic xs => simp [flat] at f
  | non => exact h
  | bl b => exact h
  | int b => exact h
  | str b => exact h
  | tup b => exact h
  | row => exact h
  | obj C z0 fs => exact h
theorem eqV_peq {H H' : Hp} {Rw O Rw' O2 : AP1} {p q : PV} {v w : V} (f : flat 0 p = true) (g : flat 0 q = true) (h : Rep H Rw O p v) (k : Rep H' Rw' O2 q w) : eqV v w = peq p q := by
  cases p with
  | non => simp only [Rep] at h; subst h; cases q <;> simp [flat] at g <;> simp only [Rep] at k <;> first | (subst k; rfl) | (obtain ⟨rfl, _⟩ := k; rfl)
  | bl b => simp only [Rep] at h; subst h; cases q <;> simp [flat] at g <;> simp only [Rep] at k <;> first | (subst k; rfl) | (obtain ⟨rfl, _⟩ := k; rfl)
  | int i => simp only [Rep] at h; subst h; cases q <;> simp [flat] at g <;> simp only [Rep] at k <;> first | (subst k; rfl) | (obtain ⟨rfl, _⟩ := k; rfl)
  | str s =>
    simp only [Rep] at h
    obtain ⟨rfl, _⟩ := h
    cases q with
    | str t => simp only [Rep] at k; obtain ⟨rfl, _⟩ := k; exact toStr_beq s t
    | _ => simp [flat] at g <;> simp only [Rep] at k <;> first | (subst k; rfl) | (obtain ⟨rfl, _⟩ := k; rfl)
  | _ => simp [flat] at f
theorem Reps.allFlat {H : Hp} {Rw O : AP1} : ∀ {xs : List PV} {vs : List V}, xs.all (flat 0) = true → Reps H Rw O xs vs → vs.all L2.flatV = true
  | [], _, _, h => by simp only [Reps] at h; subst h; rfl
  | x :: xs, _, f, h => by
    simp only [Reps] at h
    obtain ⟨w, ws, rfl, r1, r2⟩ := h
    simp only [List.all_cons, Bool.and_eq_true] at f ⊢
    exact ⟨r1.flatV f.1, Reps.allFlat f.2 r2⟩
theorem inV_any {H H' : Hp} {Rw O Rw' O2 : AP1} {x : PV} {v : V} (f : flat 0 x = true) (h : Rep H' Rw' O2 x v) : ∀ {xs : List PV} {vs : List V}, xs.all (flat 0) = true → Reps H Rw O xs vs → inV v vs = xs.any fun y => peq y x
  | [], _, _, k => by simp only [Reps] at k; subst k; rfl
  | y :: xs, _, g, k => by
    simp only [Reps] at k
    obtain ⟨w, ws, rfl, r1, r2⟩ := k
    simp only [List.all_cons, Bool.and_eq_true] at g
    have ih := inV_any f h g.2 r2
    unfold inV at ih ⊢
    rw [List.any_cons, List.any_cons, ih, eqV_peq g.1 f r1 h]
theorem anyPD {n m : Nat} {x : PV} (d : dok n x = true) : ∀ {ys : List PV}, ys.all (dok m) = true → ((toPDs ys).any fun z => PyData.eqv z (toPD x)) = ys.any fun y => peq y x
  | [], _ => by simp [toPDs]
  | y :: ys, g => by
    simp only [List.all_cons, Bool.and_eq_true] at g
    simp only [toPDs, List.any_cons]
    rw [eqv_peq m n y x g.1 d, anyPD d g.2]
theorem dok_lst {n : Nat} {ys : List PV} (h : ys.all (dok n) = true) : dok (n + 1) (.lst ys) = true := by simp only [dok]; exact h
def rInS : R2 := fun x y H Q => ∃ i j, x = .str i ∧ y = .str j ∧ Q (.bl (!(Builtin.Str.occurrences j i 0 j.length 1).isEmpty)) H
def rNotInS : R2 := fun x y H Q => ∃ i j, x = .str i ∧ y = .str j ∧ Q (.bl (!(!(Builtin.Str.occurrences j i 0 j.length 1).isEmpty))) H
def rInDi : R2 := fun x y H Q => ∃ a o, y = .ref a ∧ DGet H a x o ∧ Q (.bl o.isSome) H
def rNotInDi : R2 := fun x y H Q => ∃ a o, y = .ref a ∧ DGet H a x o ∧ Q (.bl (!o.isSome)) H
theorem op_inDi {X : Cx} (hu : X.A.units + 1 < cLine) : OpR X (compareOp .In) rInDi := by
  rintro pins s σ H x y v u Q I rx ry ⟨a, o, rfl, g, q⟩
  cases ry
  exact d_in hu I g rx fun s' I' => ⟨.bl o.isSome, H, I', rfl, q⟩
theorem op_notInDi {X : Cx} (hu : X.A.units + 1 < cLine) : OpR X (compareOp .NotIn) rNotInDi := by
  rintro pins s σ H x y v u Q I rx ry ⟨a, o, rfl, g, q⟩
  cases ry
  exact d_notIn hu I g rx fun s' I' => ⟨.bl (!o.isSome), H, I', rfl, q⟩
theorem dget_get {H : Hp} {Rw O O' : AP1} {k : PV} {kvs : List (PV × PV)} {v u : V} (ki : isKey k = true) (rk : WRep H Rw O O' k v) (rd : WRep H Rw O O' (.dic kvs) u) :
    ∃ a o, u = .ref a ∧ DGet H a v o ∧ o.isSome = (dget k kvs).isSome ∧ ∀ p, dget k kvs = some p → ∃ w, o = some w ∧ Rep H Rw O' p w := by
  obtain ⟨j, rfl, hj⟩ := isKey_w ki rk
  obtain ⟨a, kv, rfl, ha, _, r⟩ := rd
  refine ⟨a, valV kv j, rfl, DGet.k ha, ?_, fun p hp => ?_⟩
  · have := dget_val hj r
    cases e : dget k kvs with
    | none => rw [e] at this; rw [this]; rfl
    | some p => rw [e] at this; obtain ⟨w, hw, _⟩ := this; rw [hw]; rfl
  · have := dget_val hj r
    rw [hp] at this
    exact this
def orR (r r' : R2) : R2 := fun x y H Q => r x y H Q ∨ r' x y H Q
theorem cmp_snd (K : PySem.W.Frag) (o : COp) : ∃ r : R2, (∀ X : Cx, X.K = K → X.A.units + 65 < cLine → OpR X (compareOp (copOf o)) r) ∧ ∀ (a b : PV) (c : Bool) (v u : V) (H : Hp) (Rw O O' : AP1) (Q : VK), cmpP o a b = some c → WRep H Rw O O' a v → WRep H Rw O O' b u → Q (.bl c) H → r v u H Q := by
  cases o with
  | eq =>
    refine ⟨rEqD K, fun X hK hu => by subst hK; exact op_eqD (by omega), fun a b c v u H Rw O O' Q e ra rb q => ?_⟩
    unfold cmpP at e
    split at e <;> first | contradiction | skip
    split at e
    · rename_i hd
      cases e
      simp only [Bool.and_eq_true] at hd
      obtain ⟨h1, h2⟩ := WRep.shaped (K := K) (by decide : 60 ≤ 64) hd.1 ra
      obtain ⟨h3, h4⟩ := WRep.shaped (K := K) (by decide : 60 ≤ 64) hd.2 rb
      exact ⟨_, _, h1, h3, h2, h4, by rw [eqv_peq 60 60 _ _ hd.1 hd.2]; exact q⟩
    · cases e
  | ne =>
    refine ⟨rNeD K, fun X hK hu => by subst hK; exact op_neD (by omega), fun a b c v u H Rw O O' Q e ra rb q => ?_⟩
    unfold cmpP at e
    split at e <;> first | contradiction | skip
    split at e
    · rename_i hd
      cases e
      simp only [Bool.and_eq_true] at hd
      obtain ⟨h1, h2⟩ := WRep.shaped (K := K) (by decide : 60 ≤ 64) hd.1 ra
      obtain ⟨h3, h4⟩ := WRep.shaped (K := K) (by decide : 60 ≤ 64) hd.2 rb
      exact ⟨_, _, h1, h3, h2, h4, by rw [eqv_peq 60 60 _ _ hd.1 hd.2]; exact q⟩
    · cases e
  | lt =>
    refine ⟨_, fun X _ _ => OpR.or op_lt op_lt_str, fun a b c v u H Rw O O' Q e ra rb q => ?_⟩
    unfold cmpP at e
    split at e <;> first | contradiction | skip
    · cases e; exact .inl ⟨_, _, w_int ra, w_int rb, q⟩
    · cases e; exact .inr ⟨_, _, (w_str ra).1, (w_str rb).1, by rw [ltS_eq] at q; simpa using q⟩
  | le =>
    refine ⟨_, fun X _ _ => OpR.or op_le op_le_str, fun a b c v u H Rw O O' Q e ra rb q => ?_⟩
    unfold cmpP at e
    split at e <;> first | contradiction | skip
    · cases e; exact .inl ⟨_, _, w_int ra, w_int rb, q⟩
    · cases e; exact .inr ⟨_, _, (w_str ra).1, (w_str rb).1, by rw [ltS_eq] at q; simpa using q⟩
  | gt =>
    refine ⟨_, fun X _ _ => OpR.or op_gt op_gt_str, fun a b c v u H Rw O O' Q e ra rb q => ?_⟩
    unfold cmpP at e
    split at e <;> first | contradiction | skip
    · cases e; exact .inl ⟨_, _, w_int ra, w_int rb, q⟩
    · cases e; exact .inr ⟨_, _, (w_str ra).1, (w_str rb).1, by rw [ltS_eq] at q; simpa using q⟩
  | ge =>
    refine ⟨_, fun X _ _ => OpR.or op_ge op_ge_str, fun a b c v u H Rw O O' Q e ra rb q => ?_⟩
    unfold cmpP at e
    split at e <;> first | contradiction | skip
    · cases e; exact .inl ⟨_, _, w_int ra, w_int rb, q⟩
    · cases e; exact .inr ⟨_, _, (w_str ra).1, (w_str rb).1, by rw [ltS_eq] at q; simpa using q⟩
  | isin =>
    refine ⟨orR rInS (orR (rInD K) (orR (rIn K false) rInDi)), fun X hK hu => by subst hK; exact OpR.or op_in_str (OpR.or (op_inD (by omega)) (OpR.or op_in_seq (op_inDi (by omega)))), fun a b c v u H Rw O O' Q e ra rb q => ?_⟩
    unfold cmpP at e
    split at e <;> first | contradiction | skip
    unfold inP at e
    split at e <;> first | contradiction | skip
    · cases e
      exact .inl ⟨_, _, (w_str ra).1, (w_str rb).1, by rw [isSub_occ]; exact q⟩
    · split at e
      · rename_i hd
        cases e
        simp only [Bool.and_eq_true] at hd
        obtain ⟨h1, h2⟩ := WRep.shaped (K := K) (by decide : 60 ≤ 64) hd.1 ra
        obtain ⟨h3, h4⟩ := WRep.shaped (K := K) (by decide : 61 ≤ 64) (dok_lst hd.2) rb
        exact .inr (.inl ⟨_, _, h1, h3, h2, h4, by rw [anyPD hd.1 hd.2]; exact q⟩)
      · cases e
    · split at e
      · rename_i hd
        cases e
        simp only [Bool.and_eq_true] at hd
        have ra' := WRep.flat0 hd.1 ra
        have rb' : Rep H Rw O' _ u := rb
        simp only [Rep] at rb'
        obtain ⟨t, vs, rfl, ht, rs⟩ := rb'
        exact .inr (.inr (.inl ⟨t, vs, rfl, .inr (SqT.of ht), ra'.flatV hd.1, Reps.allFlat hd.2 rs, by rw [inV_any hd.1 ra' hd.2 rs]; exact q⟩))
      · cases e
    · split at e
      · rename_i ki
        obtain ⟨a, o, rfl, g, e1, _⟩ := dget_get ki ra rb
        simp only [Option.some.injEq] at e
        exact .inr (.inr (.inr ⟨a, o, rfl, g, by rw [e1, e]; exact q⟩))
      · cases e
  | notin =>
    refine ⟨orR rNotInS (orR (rNotInD K) (orR (rIn K true) rNotInDi)), fun X hK hu => by subst hK; exact OpR.or op_notin_str (OpR.or (op_notInD (by omega)) (OpR.or op_notIn_seq (op_notInDi (by omega)))), fun a b c v u H Rw O O' Q e ra rb q => ?_⟩
    unfold cmpP at e
    split at e <;> first | contradiction | skip
    obtain ⟨c', e', rfl⟩ := Option.map_eq_some_iff.mp e
    unfold inP at e'
    split at e' <;> first | contradiction | skip
    · cases e'
      exact .inl ⟨_, _, (w_str ra).1, (w_str rb).1, by rw [isSub_occ]; exact q⟩
    · split at e'
      · rename_i hd
        cases e'
        simp only [Bool.and_eq_true] at hd
        obtain ⟨h1, h2⟩ := WRep.shaped (K := K) (by decide : 60 ≤ 64) hd.1 ra
        obtain ⟨h3, h4⟩ := WRep.shaped (K := K) (by decide : 61 ≤ 64) (dok_lst hd.2) rb
        exact .inr (.inl ⟨_, _, h1, h3, h2, h4, by rw [anyPD hd.1 hd.2]; exact q⟩)
      · cases e'
    · split at e'
      · rename_i hd
        cases e'
        simp only [Bool.and_eq_true] at hd
        have ra' := WRep.flat0 hd.1 ra
        have rb' : Rep H Rw O' _ u := rb
        simp only [Rep] at rb'
        obtain ⟨t, vs, rfl, ht, rs⟩ := rb'
        exact .inr (.inr (.inl ⟨t, vs, rfl, .inr (SqT.of ht), ra'.flatV hd.1, Reps.allFlat hd.2 rs, by rw [inV_any hd.1 ra' hd.2 rs]; exact q⟩))
      · cases e'
    · split at e'
      · rename_i ki
        obtain ⟨a, o, rfl, g, e1, _⟩ := dget_get ki ra rb
        simp only [Option.some.injEq] at e'
        exact .inr (.inr (.inr ⟨a, o, rfl, g, by rw [e1, e']; exact q⟩))
      · cases e'
  | is =>
    refine ⟨_, fun X _ _ => OpR.or op_isN op_isBl, fun a b c v u H Rw O O' Q e ra rb q => ?_⟩
    cases b with
    | non =>
      have hb : u = .non := rb
      refine .inl ⟨hb, ?_⟩
      cases a with
      | non => have hv : v = .non := ra; subst hv; simp only [cmpP, Option.some.injEq] at e; subst e; exact q
      | bl b => have hv : v = .bl b := ra; subst hv; simp only [cmpP, Option.some.injEq] at e; subst e; exact q
      | int b => have hv : v = .int b := ra; subst hv; simp only [cmpP, Option.some.injEq] at e; subst e; exact q
      | str b => obtain ⟨rfl, _⟩ := w_str ra; simp only [cmpP, Option.some.injEq] at e; subst e; exact q
      | tup b => have ra' : Rep H Rw O' _ v := ra; simp only [Rep] at ra'; obtain ⟨t, vs, rfl, _⟩ := ra'; simp only [cmpP, Option.some.injEq] at e; subst e; exact q
      | lst b => obtain ⟨t, vs, rfl, _⟩ := ra; simp only [cmpP, Option.some.injEq] at e; subst e; exact q
      | dic b => obtain ⟨t, vs, rfl, _⟩ := ra; simp only [cmpP, Option.some.injEq] at e; subst e; exact q
      | row => have ra' : Rep H Rw O' _ v := ra; simp only [Rep] at ra'; obtain ⟨t, rfl, _⟩ := ra'; simp only [cmpP, Option.some.injEq] at e; subst e; exact q
      | obj C z0 fs => have ra' : Rep H Rw O' _ v := ra; simp only [Rep] at ra'; obtain ⟨t, dx, vs, rfl, _⟩ := ra'; simp only [cmpP, Option.some.injEq] at e; subst e; exact q
    | bl y =>
      cases a with
      | bl x =>
        simp only [cmpP, Option.some.injEq] at e
        subst e
        exact .inr ⟨x, y, w_bl ra, w_bl rb, by rw [← Bool.beq_eq_decide_eq]; exact q⟩
      | _ => simp [cmpP] at e
    | _ => cases a <;> simp [cmpP] at e
  | isnot =>
    refine ⟨_, fun X _ _ => OpR.or op_notN op_notBl, fun a b c v u H Rw O O' Q e ra rb q => ?_⟩
    cases b with
    | non =>
      have hb : u = .non := rb
      refine .inl ⟨hb, ?_⟩
      cases a with
      | non => have hv : v = .non := ra; subst hv; simp only [cmpP, Option.some.injEq] at e; subst e; exact q
      | bl b => have hv : v = .bl b := ra; subst hv; simp only [cmpP, Option.some.injEq] at e; subst e; exact q
      | int b => have hv : v = .int b := ra; subst hv; simp only [cmpP, Option.some.injEq] at e; subst e; exact q
      | str b => obtain ⟨rfl, _⟩ := w_str ra; simp only [cmpP, Option.some.injEq] at e; subst e; exact q
      | tup b => have ra' : Rep H Rw O' _ v := ra; simp only [Rep] at ra'; obtain ⟨t, vs, rfl, _⟩ := ra'; simp only [cmpP, Option.some.injEq] at e; subst e; exact q
      | lst b => obtain ⟨t, vs, rfl, _⟩ := ra; simp only [cmpP, Option.some.injEq] at e; subst e; exact q
      | dic b => obtain ⟨t, vs, rfl, _⟩ := ra; simp only [cmpP, Option.some.injEq] at e; subst e; exact q
      | row => have ra' : Rep H Rw O' _ v := ra; simp only [Rep] at ra'; obtain ⟨t, rfl, _⟩ := ra'; simp only [cmpP, Option.some.injEq] at e; subst e; exact q
      | obj C z0 fs => have ra' : Rep H Rw O' _ v := ra; simp only [Rep] at ra'; obtain ⟨t, dx, vs, rfl, _⟩ := ra'; simp only [cmpP, Option.some.injEq] at e; subst e; exact q
    | bl y =>
      cases a with
      | bl x =>
        simp only [cmpP, Option.some.injEq] at e
        subst e
        exact .inr ⟨x, y, w_bl ra, w_bl rb, by rw [← Bool.beq_eq_decide_eq]; exact q⟩
      | _ => simp [cmpP] at e
    | _ => cases a <;> simp [cmpP] at e
end
end Ev
set_option autoImplicit false
set_option linter.all false
set_option Elab.async false
set_option maxRecDepth 100000
/-! Ev3a: more rules: sorted of any number of texts, list of a text. -/
namespace Ev
open PySem PySem.Spec PyProof.Rows L2
section
variable {X : Cx}
def rSortedSA (K : PySem.W.Frag) : List V → Hp → VK → Prop := fun vs H Q => ∃ (a : Addr) (xs : List Str), vs = [V.ref a] ∧ SqL K H a (xs.map V.str) ∧
  ∀ (ys : List Str) (p : Addr), ys.Perm xs → sortedS ys = true → H p = none → Q (.ref p) (upd H p (.lst (ys.map V.str)))
theorem cr_sortedSA : CallR X (.builtin "sorted") (rSortedSA X.K) := by
  intro pins s σ H vs us Q I r h
  obtain ⟨a, xs, rfl, hs, q⟩ := h
  obtain ⟨its, rv, hl, hz⟩ := I.list hs
  rw [Vals.ref1 r]
  have hlen0 := rv.length
  refine PyProof.Rows.sorted_strsAny hl.isList rv.strs (by rw [← hlen0]; exact hz) fun out ys h1 h2 h3 => ?_
  obtain ⟨ep, he'⟩ := PyProof.Rows.sortedAll_at s.heap its out
  have hlen : (ys.map V.str).length ≤ sizeLine := by rw [List.length_map, h2.length_eq]; rw [List.length_map] at hz; exact hz
  exact ⟨.ref _, upd H (s.heap.objs.size + 1) (.lst (ys.map V.str)), I.laid (t' := s.toks) (fun _ _ => PyProof.Rows.sortedAll_old) (Nat.le_succ _) ⟨hlen, out.toList, ep, vals_of_strs h1, he'⟩, rfl, q ys _ h2 h3 (I.hok.fresh (Nat.le_succ _))⟩
/-- list(text) -/
def rListTxt : List V → Hp → VK → Prop := fun xs H Q => ∃ x : List Nat, xs = [.str (toStr x)] ∧ x.length ≤ sizeLine ∧ ∀ p, H p = none → Q (.ref p) (upd H p (.lst (x.map fun c => V.str (toStr [c]))))
theorem call_listTxt (hc : X.calm = true) : CallR X (.type "list") rListTxt := by
  intro pins s σ H xs us Q I r h
  obtain ⟨x, rfl, hz, q⟩ := h
  obtain ⟨u, rfl, ru⟩ := r.one
  obtain ⟨t, rfl⟩ := ru
  refine PySem.call_list_str (hn := by simpa using hz) (I.ok.hd hc) (toStr x) t fun h' tk acc' c' hk hS hacc => ?_
  refine ⟨.ref s.heap.objs.size, upd H s.heap.objs.size (.lst (x.map fun c => V.str (toStr [c]))), I.laid (t' := tk) hk (Nat.le_refl _) (show ObjOk X.prog X.w _ _ _ (.lst (x.map fun c => V.str (toStr [c]))) from ⟨by rw [List.length_map]; exact hz, acc'.toList, c', ?_, ?_⟩), rfl, q _ (I.hok.fresh (Nat.le_refl _))⟩
  · have hl := hacc.1
    refine vals_of_at (by rw [List.length_map]; simp at hl; simp [hl]) fun j y w h1 h2 => ?_
    obtain ⟨c, tk2, e1, e2⟩ := hacc.2 j w (by rw [← Array.getElem?_toList]; exact h2)
    rw [List.getElem?_map] at h1
    have e3 : x[j]? = some c := by simpa using e1
    rw [e3] at h1
    simp only [Option.map_some, Option.some.injEq] at h1
    subst h1; subst e2
    exact ⟨tk2, rfl⟩
  · simpa using hS
/-- sorted(text) -/
def rSortedTxt : List V → Hp → VK → Prop := fun vs H Q => ∃ x : List Nat, vs = [.str (toStr x)] ∧ x.length ≤ sizeLine ∧
  ∀ (ys : List Str) (p : Addr), ys.Perm (x.map fun c => toStr [c]) → sortedS ys = true → H p = none → Q (.ref p) (upd H p (.lst (ys.map V.str)))
theorem strs_signs {x : List Nat} {acc : Array Value} {n : Nat} (hn : n = x.length) (h : ItemsOf (SignAt (toStr x)) acc n) : StrsAre acc.toList (x.map fun c => toStr [c]) := by
  refine StrsAre.ofCarried (carriedAll_of_get _ _ (by simp [h.1, hn]) fun j v hv => ?_)
  obtain ⟨c, u, hc, rfl⟩ := h.2 j v (by simpa using hv)
  have e3 : x[j]? = some c := by simpa using hc
  exact ⟨.str (toStr [c]), by simp [e3], .str _ _⟩
theorem cr_sortedTxt (hc : X.calm = true) : CallR X (.builtin "sorted") rSortedTxt := by
  intro pins s σ H vs us Q I r h
  obtain ⟨x, rfl, hz, q⟩ := h
  obtain ⟨u, rfl, ru⟩ := r.one
  obtain ⟨t, rfl⟩ := ru
  refine Calls.call_function_entry kind_sorted plain_sorted entry_sorted (args_sorted1 _) ?_
  unfold Builtin.«sorted»
  refine wpAny_bind (m := checkCount "sorted" 1 1 _) (wpAny_pure ?_)
  have hh1 : X.A.in1.handled = none := I.ok.hd hc
  refine wpAny_bind (PySem.wpAny_collect_str (A := X.A.in1) hh1 (toStr x) t (hn := by simpa using hz) fun s1 acc k1 g1 d1 o1 hacc => ?_)
  have hS := strs_signs (x := x) (by simp) hacc
  have hvl : acc.toList.length ≤ sizeLine := by rw [hS.length, List.length_map]; exact hz
  refine wpAny_bind (wpAny_newList ?_ hvl)
  have hoL : (s1.heap.push (seqObj "list" acc.toList.toArray 0)).get? s1.heap.objs.size = some (seqObj "list" acc.toList.toArray 0) := Heap.get?_push_size _ rfl
  refine wpAny_bind (wpAny_holding (wpAny_call_entry slot_list_sort ⟨_, hoL, rfl⟩ entry_list_sort (list_sort_treeKAny strKind_oneLt hoL hS.keysOf (fun v₁ v₂ rest e => keyKind_strs (by rw [← e]; exact hS)) hvl fun st' hp hs => ⟨_, rfl, ?_⟩) (args_list_sort _)))
  obtain ⟨ys, h1, h2, h3⟩ := sorted_out_str hS hp hs
  obtain ⟨c, hcc⟩ := sortedHeap_at (vs := acc.toList) (out := (arrOf st').map (·.2)) hoL
  have hn : H s1.heap.objs.size = none := (I.hok.kept k1).fresh (Nat.le_refl _)
  have hg : s.heap.get? s1.heap.objs.size = none := by
    cases e : s.heap.get? s1.heap.objs.size with
    | none => rfl
    | some o => exact absurd (Heap.lt_size (k1 _ _ e)) (Nat.lt_irrefl _)
  have k : ∀ b o, s.heap.get? b = some o → (sortedHeap (s1.heap.push (seqObj "list" acc.toList.toArray 0)) s1.heap.objs.size acc.toList ((arrOf st').map (·.2))).get? b = some o := fun b u e => by
    have q := k1 b u e
    have hlt := Heap.lt_size q
    rw [sortedHeap_old (Nat.ne_of_lt hlt) (by rw [size_push']; exact Nat.lt_succ_of_lt hlt)]
    exact Heap.get?_push_of_some _ q
  have hlen : (ys.map V.str).length ≤ sizeLine := by rw [List.length_map, h2.length_eq, List.length_map]; exact hz
  have J : Inv X pins σ (upd H s1.heap.objs.size (.lst (ys.map V.str))) { s with heap := sortedHeap (s1.heap.push (seqObj "list" acc.toList.toArray 0)) s1.heap.objs.size acc.toList ((arrOf st').map (·.2)), toks := s1.toks } :=
    I.laidN k hg hn ⟨hlen, ((arrOf st').map (·.2)).toList, c, vals_of_strs h1, hcc⟩
  refine wpAny_pure ⟨_, rfl, ?_⟩
  have e : ({ s1 with heap := sortedHeap (s1.heap.push (seqObj "list" acc.toList.toArray 0)) s1.heap.objs.size acc.toList ((arrOf st').map (·.2)) } : Shared) = { s with heap := sortedHeap (s1.heap.push (seqObj "list" acc.toList.toArray 0)) s1.heap.objs.size acc.toList ((arrOf st').map (·.2)), toks := s1.toks } := by
    cases s1
    cases s
    cases g1
    cases d1
    cases o1
    rfl
  show EP X pins σ Q _ { s1 with heap := sortedHeap (s1.heap.push (seqObj "list" acc.toList.toArray 0)) s1.heap.objs.size acc.toList ((arrOf st').map (·.2)) }
  rw [e]
  exact ⟨.ref _, _, J, rfl, q ys _ h2 h3 hn⟩
end
/-! ### sorted lists are one -/
theorem perm_srt {α : Type} {le : α → α → Prop} (anti : ∀ a b, le a b → le b a → a = b) : ∀ {l m : List α}, l.Perm m → l.Pairwise le → m.Pairwise le → l = m
  | [], m, h, _, _ => (List.Perm.eq_nil h.symm).symm
  | a :: l, [], h, _, _ => absurd (List.Perm.eq_nil h) (by simp)
  | a :: l, b :: m, h, h1, h2 => by
    have ha := List.pairwise_cons.mp h1
    have hb := List.pairwise_cons.mp h2
    have e : a = b := by
      rcases List.mem_cons.mp (h.mem_iff.mp List.mem_cons_self) with e | e
      · exact e
      · rcases List.mem_cons.mp (h.mem_iff.mpr List.mem_cons_self) with e2 | e2
        · exact e2.symm
        · exact anti a b (ha.1 b e2) (hb.1 a e)
    subst e
    rw [perm_srt anti (List.Perm.cons_inv h) ha.2 hb.2]
theorem insI_perm (a : Int) : ∀ l : List Int, (insI a l).Perm (a :: l)
  | [] => .refl _
  | b :: r => by
    unfold insI
    split
    · exact ((insI_perm a r).cons b).trans (List.Perm.swap a b r)
    · exact .refl _
theorem sortI_perm : ∀ l : List Int, (sortI l).Perm l
  | [] => .refl _
  | a :: r => (insI_perm a (sortI r)).trans ((sortI_perm r).cons a)
theorem insI_srt (a : Int) : ∀ l : List Int, l.Pairwise (· ≤ ·) → (insI a l).Pairwise (· ≤ ·)
  | [], _ => List.pairwise_singleton _ _
  | b :: r, h => by
    have hb := List.pairwise_cons.mp h
    unfold insI
    split
    · refine List.pairwise_cons.mpr ⟨fun c hc => ?_, insI_srt a r hb.2⟩
      rcases List.mem_cons.mp ((insI_perm a r).mem_iff.mp hc) with e | e
      · subst e; omega
      · exact hb.1 c e
    · refine List.pairwise_cons.mpr ⟨fun c hc => ?_, h⟩
      rcases List.mem_cons.mp hc with e | e
      · subst e; omega
      · have := hb.1 c e; omega
theorem sortI_srt : ∀ l : List Int, (sortI l).Pairwise (· ≤ ·)
  | [] => .nil
  | a :: r => insI_srt a _ (sortI_srt r)
theorem sortI_uniq {l m : List Int} (h : m.Perm l) (s : m.Pairwise (· ≤ ·)) : m = sortI l := perm_srt (fun a b h1 h2 => Int.le_antisymm h1 h2) (h.trans (sortI_perm l).symm) s (sortI_srt l)
/-- b is not less than a -/
def leS (a b : List Nat) : Prop := ltS b a = false
theorem leS_iff {a b : List Nat} : leS a b ↔ a ≤ b := by
  unfold leS
  rw [ltS_eq, decide_eq_false_iff_not, List.not_lt]
theorem leS_anti (a b : List Nat) (h1 : leS a b) (h2 : leS b a) : a = b := List.le_antisymm (leS_iff.mp h1) (leS_iff.mp h2)
theorem leS_trans {a b c : List Nat} (h1 : leS a b) (h2 : leS b c) : leS a c := leS_iff.mpr (List.le_trans (leS_iff.mp h1) (leS_iff.mp h2))
theorem leS_total (a b : List Nat) : leS a b ∨ leS b a := by
  rcases List.le_total a b with h | h
  · exact .inl (leS_iff.mpr h)
  · exact .inr (leS_iff.mpr h)
theorem insS_perm (a : List Nat) : ∀ l : List (List Nat), (insS a l).Perm (a :: l)
  | [] => .refl _
  | b :: r => by
    unfold insS
    split
    · exact ((insS_perm a r).cons b).trans (List.Perm.swap a b r)
    · exact .refl _
theorem sortS_perm : ∀ l : List (List Nat), (sortS l).Perm l
  | [] => .refl _
  | a :: r => (insS_perm a (sortS r)).trans ((sortS_perm r).cons a)
theorem insS_srt (a : List Nat) : ∀ l : List (List Nat), l.Pairwise leS → (insS a l).Pairwise leS
  | [], _ => List.pairwise_singleton _ _
  | b :: r, h => by
    have hb := List.pairwise_cons.mp h
    unfold insS
    split
    · rename_i q
      refine List.pairwise_cons.mpr ⟨fun c hc => ?_, insS_srt a r hb.2⟩
      rcases List.mem_cons.mp ((insS_perm a r).mem_iff.mp hc) with e | e
      · subst e
        rcases leS_total b c with z | z
        · exact z
        · unfold leS at z; rw [q] at z; cases z
      · exact hb.1 c e
    · rename_i q
      have q' : leS a b := by unfold leS; simpa using q
      refine List.pairwise_cons.mpr ⟨fun c hc => ?_, h⟩
      rcases List.mem_cons.mp hc with e | e
      · subst e; exact q'
      · exact leS_trans q' (hb.1 c e)
theorem sortS_srt : ∀ l : List (List Nat), (sortS l).Pairwise leS
  | [] => .nil
  | a :: r => insS_srt a _ (sortS_srt r)
theorem sortS_uniq {l m : List (List Nat)} (h : m.Perm l) (s : m.Pairwise leS) : m = sortS l := perm_srt leS_anti (h.trans (sortS_perm l).symm) s (sortS_srt l)
theorem ltCps_eq : ∀ a b : List Nat, ltCps a b = ltS a b
  | [], [] => rfl
  | [], _ :: _ => rfl
  | _ :: _, [] => rfl
  | a :: r, b :: t => by
    unfold ltCps ltS
    rw [ltCps_eq r t]
    by_cases h : a < b
    · simp [h]
    · by_cases h2 : b < a
      · have : ¬ a = b := by omega
        simp [h, h2, this]
      · have : a = b := by omega
        simp [this]
theorem rising_pw : ∀ (p : Str) (l : List Str), risingS p l = true → ((p :: l).map fun y => y.cps.toList).Pairwise leS
  | p, [], _ => List.pairwise_singleton _ _
  | p, x :: r, h => by
    unfold risingS at h
    simp only [Bool.and_eq_true, Bool.not_eq_true'] at h
    have ih := rising_pw x r h.2
    have hp : leS p.cps.toList x.cps.toList := by unfold leS; rw [← ltCps_eq]; exact h.1
    rw [List.map_cons]
    refine List.pairwise_cons.mpr ⟨fun c hc => ?_, ih⟩
    rw [List.map_cons] at hc ih
    rcases List.mem_cons.mp hc with e | e
    · rw [e]; exact hp
    · exact leS_trans hp ((List.pairwise_cons.mp ih).1 c e)
theorem sortedS_out {ss : List (List Nat)} {ys : List Str} (h : ys.Perm (ss.map toStr)) (s : sortedS ys = true) : ys = (sortS ss).map toStr := by
  have hp : (ys.map fun y => y.cps.toList).Perm ss := by
    have := h.map fun y : Str => y.cps.toList
    rw [List.map_map] at this
    have e : ((fun y : Str => y.cps.toList) ∘ toStr) = id := by funext x; simp
    rwa [e, List.map_id] at this
  have hw : (ys.map fun y => y.cps.toList).Pairwise leS := by
    cases ys with
    | nil => exact .nil
    | cons y r => exact rising_pw y r s
  have := congrArg (List.map toStr) (sortS_uniq hp hw)
  rw [List.map_map] at this
  have e : (toStr ∘ fun y : Str => y.cps.toList) = id := by funext x; simp
  rwa [e, List.map_id] at this
end Ev
/-! ### sum, min, max of a tuple of ints -/
namespace Ev
open PySem PySem.Spec PyProof.Rows L2
section
variable {prog : Program} {w : World} {A : Around} {E : Value → Shared → Prop} {s : Shared} {l : Addr} {xs : Array (Int × Tok)}
theorem iterT {items : Array Value} {Q : Value → Shared → Prop} (hl : s.heap.IsTuple l items)
    (h : ∀ s₂ : Shared, s₂ = { s with heap := s.heap.push { cls := .type "tuple_iterator", data := .fields #[.ref l, .int 0 0] } } →
      (s₂.heap.IsTupleIter s.heap.objs.size l 0 ∧ s₂.heap.IsTuple l items) → (∀ b ∈ [s.heap.objs.size, l], b < s₂.heap.objs.size) → l ≠ s.heap.objs.size → Q (.ref s.heap.objs.size) s₂) :
    wpAny (model prog w) A (pyIter (.ref l)) Q E s := by
  have hlt : l < s.heap.objs.size := by obtain ⟨_, e, _⟩ := hl; exact Heap.lt_size e
  refine wpAny_pyIter_tuple hl (h _ rfl ⟨⟨_, Heap.get?_push_size _ rfl, rfl, rfl⟩, hl.push _⟩ (fun b hb => ?_) (Nat.ne_of_lt hlt))
  show b < (s.heap.push _).objs.size
  rw [Heap.size_push]
  rcases List.mem_cons.mp hb with rfl | hb
  · exact Nat.lt_succ_self _
  · rw [List.mem_singleton.mp hb]; exact Nat.lt_succ_of_lt hlt
theorem old_keptT {h' : Heap} (hk : ∀ b o, b ∉ [s.heap.objs.size] → (s.heap.push { cls := .type "tuple_iterator", data := .fields #[.ref l, .int 0 0] }).get? b = some o → h'.get? b = some o) :
    ∀ b o, s.heap.get? b = some o → h'.get? b = some o := fun b o e => by
  refine hk b o (fun hm => ?_) (Heap.get?_push_of_some _ e)
  rcases List.mem_cons.mp hm with e1 | hm
  · exact absurd (e1 ▸ Heap.lt_size e) (Nat.lt_irrefl _)
  · cases hm
theorem sum_tupG {Q : Value → Shared → Prop} (hh : A.handled = none) (hl : s.heap.IsTuple l (intItems xs))
    (h : ∀ h' tk t', (∀ b o, s.heap.get? b = some o → h'.get? b = some o) → Q (.int (preSum (numAt xs) xs.size) t') { s with heap := h', toks := tk }) :
    wpAny (model prog w) A (call (.builtin "sum") [.ref l]) Q E s := by
  refine call_sum_walkG (iterT hl fun s₂ e st hfp hlI => ?_)
  subst e
  refine ⟨_, _, _, _, _, _, numAt xs, rfl, Walks.tuple (A := A.in1) hh _ l hlI (intItems xs), st, hfp, (fun _ _ => intItems_at), fun h' tk t' hk => ?_⟩
  have := h h' tk t' (old_keptT hk)
  simpa [intItems] using this
theorem max_tupG {Q : Value → Shared → Prop} (hh : A.handled = none) (hl : s.heap.IsTuple l (intItems xs)) (hne : 0 < xs.size)
    (h : ∀ v h' tk, (intItems xs)[argBest (fun i j => decide (numAt xs i > numAt xs j)) (xs.size - 1)]? = some v → (∀ b o, s.heap.get? b = some o → h'.get? b = some o) → Q v { s with heap := h', toks := tk }) :
    wpAny (model prog w) A (call (.builtin "max") [.ref l]) Q E s := by
  refine call_max_walk (iterT hl fun s₂ e st hfp hlI => ?_)
  subst e
  refine ⟨_, _, _, _, _, _, _, rfl, Walks.tuple (A := A.in1) hh _ l hlI (intItems xs), st, hfp, by simpa [intItems] using hne, CmpOf.ints_gt (numAt xs) (fun _ _ => intItems_at), fun v h' tk hP hk => ?_⟩
  exact h v h' tk (by simpa [intItems] using hP) (old_keptT hk)
theorem min_tupG {Q : Value → Shared → Prop} (hh : A.handled = none) (hl : s.heap.IsTuple l (intItems xs)) (hne : 0 < xs.size)
    (h : ∀ v h' tk, (intItems xs)[argBest (fun i j => decide (numAt xs i < numAt xs j)) (xs.size - 1)]? = some v → (∀ b o, s.heap.get? b = some o → h'.get? b = some o) → Q v { s with heap := h', toks := tk }) :
    wpAny (model prog w) A (call (.builtin "min") [.ref l]) Q E s := by
  refine call_min_walk (iterT hl fun s₂ e st hfp hlI => ?_)
  subst e
  refine ⟨_, _, _, _, _, _, _, rfl, Walks.tuple (A := A.in1) hh _ l hlI (intItems xs), st, hfp, by simpa [intItems] using hne, CmpOf.ints_lt (numAt xs) (fun _ _ => intItems_at), fun v h' tk hP hk => ?_⟩
  exact h v h' tk (by simpa [intItems] using hP) (old_keptT hk)
variable {its : List Value} {ns : List Int} {Q : Value → Shared → Prop}
theorem sum_rawT (hh : A.handled = none) (hl : s.heap.IsTuple l its.toArray) (hi : IntsAre its ns)
    (h : ∀ h' tk t', (∀ b o, s.heap.get? b = some o → h'.get? b = some o) → Q (.int ns.sum t') { s with heap := h', toks := tk }) : wpAny (model prog w) A (call (.builtin "sum") [.ref l]) Q E s := by
  obtain ⟨xs, e⟩ := hi.allInts.items
  have hn : numsOf (intItems xs).toList = ns := by rw [← e]; exact hi.numsOf
  rw [nums_intItems] at hn
  rw [e] at hl
  refine sum_tupG hh hl fun h' tk t' hk => ?_
  have := h h' tk t' hk
  rw [preSum_eq, List.take_of_length_le (by simp), hn]; exact this
theorem max_rawT (hh : A.handled = none) (hl : s.heap.IsTuple l its.toArray) (hi : IntsAre its ns) (hne : 0 < ns.length)
    (h : ∀ h' tk M t', (∀ b o, s.heap.get? b = some o → h'.get? b = some o) → M ∈ ns → (∀ a, a ∈ ns → a ≤ M) → Q (.int M t') { s with heap := h', toks := tk }) : wpAny (model prog w) A (call (.builtin "max") [.ref l]) Q E s := by
  obtain ⟨xs, e⟩ := hi.allInts.items
  have hn : numsOf (intItems xs).toList = ns := by rw [← e]; exact hi.numsOf
  rw [nums_intItems] at hn
  subst hn
  rw [e] at hl
  have hsz : 0 < xs.size := by simpa using hne
  refine max_tupG hh hl hsz fun v h' tk hv hk => ?_
  obtain ⟨t, rfl⟩ := intItems_at hv
  obtain ⟨h1, h2⟩ := argBest_gt (numAt xs) (xs.size - 1)
  refine h h' tk _ t hk ?_ fun a ha => ?_
  · rw [numAt_eq]; exact PySem.getD_mem (by rw [List.length_map, Array.length_toList]; omega)
  · obtain ⟨j, hj, rfl⟩ := mem_getD ha
    rw [List.length_map, Array.length_toList] at hj
    rw [← numAt_eq]; exact h2 j (by omega)
theorem min_rawT (hh : A.handled = none) (hl : s.heap.IsTuple l its.toArray) (hi : IntsAre its ns) (hne : 0 < ns.length)
    (h : ∀ h' tk M t', (∀ b o, s.heap.get? b = some o → h'.get? b = some o) → M ∈ ns → (∀ a, a ∈ ns → M ≤ a) → Q (.int M t') { s with heap := h', toks := tk }) : wpAny (model prog w) A (call (.builtin "min") [.ref l]) Q E s := by
  obtain ⟨xs, e⟩ := hi.allInts.items
  have hn : numsOf (intItems xs).toList = ns := by rw [← e]; exact hi.numsOf
  rw [nums_intItems] at hn
  subst hn
  rw [e] at hl
  have hsz : 0 < xs.size := by simpa using hne
  refine min_tupG hh hl hsz fun v h' tk hv hk => ?_
  obtain ⟨t, rfl⟩ := intItems_at hv
  obtain ⟨h1, h2⟩ := argBest_lt (numAt xs) (xs.size - 1)
  refine h h' tk _ t hk ?_ fun a ha => ?_
  · rw [numAt_eq]; exact PySem.getD_mem (by rw [List.length_map, Array.length_toList]; omega)
  · obtain ⟨j, hj, rfl⟩ := mem_getD ha
    rw [List.length_map, Array.length_toList] at hj
    rw [← numAt_eq]; exact h2 j (by omega)
end
section
variable {X : Cx}
def rSumT (K : PySem.W.Frag) : List V → Hp → VK → Prop := fun vs H Q => ∃ (a : Addr) (ns : List Int), vs = [V.ref a] ∧ SqT K H a (ns.map V.int) ∧ Q (.int ns.sum) H
def rMaxT (K : PySem.W.Frag) : List V → Hp → VK → Prop := fun vs H Q => ∃ (a : Addr) (ns : List Int), vs = [V.ref a] ∧ SqT K H a (ns.map V.int) ∧ 0 < ns.length ∧ ∀ m, m ∈ ns → (∀ y, y ∈ ns → y ≤ m) → Q (.int m) H
def rMinT (K : PySem.W.Frag) : List V → Hp → VK → Prop := fun vs H Q => ∃ (a : Addr) (ns : List Int), vs = [V.ref a] ∧ SqT K H a (ns.map V.int) ∧ 0 < ns.length ∧ ∀ m, m ∈ ns → (∀ y, y ∈ ns → m ≤ y) → Q (.int m) H
theorem cr_sumT (hc : X.calm = true) : CallR X (.builtin "sum") (rSumT X.K) := by
  intro pins s σ H vs us Q I r h
  obtain ⟨a, ns, rfl, hs, q⟩ := h
  obtain ⟨its, rv, hl, _⟩ := I.tuple hs
  rw [Vals.ref1 r]
  exact sum_rawT (I.ok.hd hc) hl rv.ints fun h' tk t' hk => ⟨.int _, H, I.kept hk, ⟨_, rfl⟩, q⟩
theorem cr_maxT (hc : X.calm = true) : CallR X (.builtin "max") (rMaxT X.K) := by
  intro pins s σ H vs us Q I r h
  obtain ⟨a, ns, rfl, hs, hne, q⟩ := h
  obtain ⟨its, rv, hl, _⟩ := I.tuple hs
  rw [Vals.ref1 r]
  exact max_rawT (I.ok.hd hc) hl rv.ints hne fun h' tk m t' hk h1 h2 => ⟨.int _, H, I.kept hk, ⟨_, rfl⟩, q m h1 h2⟩
theorem cr_minT (hc : X.calm = true) : CallR X (.builtin "min") (rMinT X.K) := by
  intro pins s σ H vs us Q I r h
  obtain ⟨a, ns, rfl, hs, hne, q⟩ := h
  obtain ⟨its, rv, hl, _⟩ := I.tuple hs
  rw [Vals.ref1 r]
  exact min_rawT (I.ok.hd hc) hl rv.ints hne fun h' tk m t' hk h1 h2 => ⟨.int _, H, I.kept hk, ⟨_, rfl⟩, q m h1 h2⟩
end
end Ev
set_option autoImplicit false
set_option linter.all false
set_option Elab.async false
set_option maxRecDepth 100000
/-! Ev4: truth, subscripts, slices, built-in calls, methods. -/
namespace Ev
open PySem PySem.Spec PyProof.Rows L2
section
variable {X : Cx} {H : Hp} {Rw O O' : AP1}
theorem truth_ok {K : PySem.W.Frag} {p : PV} {v : V} {c : Bool} (e : truthP p = some c) (h : WRep H Rw O O' p v) : TruV K v H c := by
  cases p with
  | non => have hv : v = .non := h; subst hv; simp only [truthP, Option.some.injEq] at e; exact e.symm
  | bl b => have hv : v = .bl b := h; subst hv; simp only [truthP, Option.some.injEq] at e; exact e.symm
  | int i => have hv : v = .int i := h; subst hv; simp only [truthP, Option.some.injEq] at e; exact e.symm
  | str s =>
    obtain ⟨rfl, ok⟩ := w_str h
    simp only [truthP, Option.some.injEq] at e
    refine ⟨by rw [toStr_len]; exact ok.len, ?_⟩
    rw [toStr_len, ← e]
    cases s <;> simp <;> omega
  | tup xs =>
    have h' : Rep H Rw O' _ v := h
    simp only [Rep] at h'
    obtain ⟨a, vs, rfl, ha, r⟩ := h'
    simp only [truthP, Option.some.injEq] at e
    refine .inr (.inl ⟨vs, SqT.of ha, ?_⟩)
    rw [← e]
    have := reps_len r
    cases xs <;> cases vs <;> simp at this ⊢
  | lst xs =>
    obtain ⟨a, vs, rfl, ha, _, r⟩ := h
    simp only [truthP, Option.some.injEq] at e
    refine .inl ⟨vs, SqL.of ha, ?_⟩
    rw [← e]
    have := reps_len r
    cases xs <;> cases vs <;> simp at this ⊢
  | dic xs =>
    obtain ⟨a, vs, rfl, ha, _, r⟩ := h
    simp only [truthP, Option.some.injEq] at e
    refine .inr (.inr ⟨vs, ha, ?_⟩)
    rw [← e]
    cases xs with
    | nil => simp only [RepsK] at r; subst r; rfl
    | cons x xs =>
      obtain ⟨k, x⟩ := x
      simp only [RepsK] at r
      obtain ⟨j, w, ws, rfl, _⟩ := r
      rfl
  | row => simp [truthP] at e
  | obj C z0 fs => simp [truthP] at e

theorem ixN_eq (n : Nat) (i : Int) : ixN n i = L2.ixN n i := rfl
theorem atL_rep {xs : List PV} {vs : List V} {i : Int} {p : PV} (r : Reps H Rw O xs vs) (e : atL xs i = some p) : ∃ v, atI vs i = some v ∧ Rep H Rw O p v := by
  unfold atL at e
  obtain ⟨j, h1, h2⟩ := Option.bind_eq_some_iff.mp e
  obtain ⟨v, h3, h4⟩ := r.get h2
  refine ⟨v, ?_, h4⟩
  unfold atI
  rw [reps_len r]
  show (L2.ixN xs.length i).bind _ = _
  rw [← ixN_eq, h1]
  exact h3
/-- a subscript of a value of a built-in type -/
theorem tail_of {M : Program} {w : World} {A : Around} {E : Value → Shared → Prop} {s : Shared} {value slice : Expr} {v u : Value} {T id : String} {Q : Value → Shared → Prop} (hT : s.TypeIs v T) (hl : typeLookup (.type T) "__getitem__" = pure (some (.builtin id)))
    (hs : subscripted slice false v u = operate [v, u] (getItem v u)) (h : wpAny (model M w) A (getItem v u) Q E s) : wpAny (model M w) A (subscriptTail value slice v u) Q E s := by
  have last : wpAny (model M w) A (subscripted slice false v u) (fun r s₃ => wpAny (model M w) A (letTemporaryGo value v r >>= fun _ => pure r) Q E s₃) E s :=
    hs ▸ wpAny_operating (wpAny_mono h (fun r s₃ k => wpAny_bind (wpAny_letTemporaryGo (wpAny_pure k))) fun _ _ x => x)
  unfold subscriptTail
  refine wpAny_bind (by
    rw [getitemInPython_of_ne hT.not_modules]
    refine wpAny_bind (wpAny_specialOf hT hl ?_)
    first
      | exact wpAny_pure (wpAny_bind last)
      | exact wpAny_pure last
      | exact wpAny_bind (wpAny_pure (wpAny_bind last)))
def rIxD : R2 := fun x y H Q => ∃ a v, x = .ref a ∧ DGet H a y (some v) ∧ Q v H
theorem ix_dict (hu : X.A.units + 1 < cLine) : IxR X rIxD := by
  rintro value slice pins s σ H x y v u Q I rx ry ⟨a, z, rfl, g, q⟩ hs
  cases rx
  exact tail_of (dict_typeIs I g) PySem.F.slot_dict_getitem.lookup hs (d_getItem hu I g ry fun w' s' I' r' => ⟨z, H, I', r', q⟩)
/-- an item: not a new thing -/
def AnsC (H : Hp) (Rw O' : AP1) (p : PV) (Q : VK) : Prop := ∀ v', Rep H Rw O' p v' → Q v' H
theorem idx_snd (K : PySem.W.Frag) : ∃ r : R2, (∀ X : Cx, X.K = K → X.A.units + 65 < cLine → IxR X r) ∧ ∀ (a b p : PV) (v u : V) (H : Hp) (Rw O O' : AP1) (Q : VK), idxP a b = some p → WRep H Rw O O' a v → WRep H Rw O O' b u → AnsC H Rw O' p Q → r v u H Q := by
  refine ⟨orR (rIx K) rIxD, fun X hK hu => by subst hK; exact IxR.or ix_seq (ix_dict (by omega)), fun a b p v u H Rw O O' Q e ra rb q => ?_⟩
  unfold idxP at e
  split at e <;> first | contradiction | skip
  · obtain ⟨l, vs, rfl, ha, _, r⟩ := ra
    obtain ⟨w, h1, h2⟩ := atL_rep r e
    exact .inl (.inl ⟨l, vs, _, w, rfl, w_int rb, SqL.of ha, h1, q _ h2⟩)
  · have ra' : Rep H Rw O' _ v := ra
    simp only [Rep] at ra'
    obtain ⟨l, vs, rfl, ha, r⟩ := ra'
    obtain ⟨w, h1, h2⟩ := atL_rep r e
    exact .inl (.inr (.inl ⟨l, vs, _, w, rfl, w_int rb, SqT.of ha, h1, q _ h2⟩))
  · obtain ⟨rfl, ok⟩ := w_str ra
    obtain ⟨c, hc, rfl⟩ := Option.map_eq_some_iff.mp e
    refine .inl (.inr (.inr ⟨_, _, c, rfl, w_int rb, by rw [toStr_len]; exact ok.len, hc, q _ ?_⟩))
    refine r_str ⟨by simp; decide, fun c' hm => ?_⟩
    have hm' : c' = c := by simpa using hm
    subst hm'
    unfold atL at hc
    obtain ⟨j, h1, h2⟩ := Option.bind_eq_some_iff.mp hc
    exact ok.cps _ (List.mem_of_getElem? h2)
  · split at e
    · rename_i ki
      obtain ⟨a, o, rfl, g, _, h2⟩ := dget_get ki rb ra
      obtain ⟨w, rfl, rw'⟩ := h2 _ e
      exact .inr ⟨a, w, rfl, g, q _ rw'⟩
    · cases e

theorem sIx_eq (n d : Nat) (o : Option Int) : sIx n d o = HT.sIx n d o := by cases o <;> rfl
theorem cutL_reps {xs : List PV} {vs : List V} (r : Reps H Rw O xs vs) (lo hi : Option Int) : Reps H Rw O (cutL xs lo hi) (cutV vs lo hi) := by
  unfold cutL cutV
  rw [reps_len r]
  simp only [sIx_eq]
  exact (r.drop _).take _
theorem okS_sub {a b : List Nat} (h : OkS a) (hl : b.length ≤ a.length) (hm : ∀ c ∈ b, c ∈ a) : OkS b := ⟨Nat.le_trans hl h.len, fun c hc => h.cps c (hm c hc)⟩
theorem okS_cut {a : List Nat} (h : OkS a) (lo hi : Option Int) : OkS (cutL a lo hi) := by
  unfold cutL
  exact okS_sub h (by rw [List.length_take, List.length_drop]; omega) fun c hc => List.mem_of_mem_drop (List.mem_of_mem_take hc)
theorem cut_snd (K : PySem.W.Frag) : ∃ r : V → Option Int → Option Int → Hp → VK → Prop, (∀ X : Cx, X.K = K → SlR X r) ∧ ∀ (a p : PV) (lo hi : Option Int) (v : V) (H : Hp) (Rw O O' : AP1) (Q : VK), cutP a lo hi = some p → Sts H Rw O O' → WRep H Rw O O' a v → Ans H Rw O O' p Q → r v lo hi H Q := by
  refine ⟨fun x lo hi H Q => rSlS x lo hi H Q ∨ (rSlL K x lo hi H Q ∨ rSlA K x lo hi H Q), fun X hK => by subst hK; exact SlR.or sl_str (SlR.or sl_list sl_tupA), fun a p lo hi v H Rw O O' Q e S ra q => ?_⟩
  unfold cutP at e
  split at e <;> first | contradiction | skip
  · cases e
    obtain ⟨rfl, ok⟩ := w_str ra
    refine .inl ⟨_, rfl, by rw [toStr_len]; exact ok.len, ?_⟩
    have e1 : cutS (toStr ‹List Nat›) lo hi = toStr (cutL ‹List Nat› lo hi) := by
      unfold cutS cutL
      rw [toStr_len]
      simp only [sIx_eq]
    rw [e1]
    exact q.str (okS_cut ok lo hi)
  · cases e
    obtain ⟨l, vs, rfl, ha, _, r⟩ := ra
    exact .inr (.inl ⟨l, vs, rfl, SqL.of ha, fun q' hq => q.lst S.trk S.ro (cutL_reps r lo hi) hq⟩)
  · cases e
    have ra' : Rep H Rw O' _ v := ra
    simp only [Rep] at ra'
    obtain ⟨l, vs, rfl, ha, r⟩ := ra'
    refine .inr (.inr ⟨l, vs, rfl, SqT.of ha, fun hw => ?_, fun _ q' hq => q.tup S.trk S.ro (cutL_reps r lo hi) hq⟩)
    refine q.scal (show Rep H Rw O' _ _ from ?_)
    have hl := reps_len r
    have e1 : cutL ‹List PV› lo hi = ‹List PV› := by
      unfold cutL
      simp only [sIx_eq]
      rw [hl] at hw
      rw [hw.1, hw.2]
      simp
    rw [e1]
    simp only [Rep]
    exact ⟨l, vs, rfl, ha, r⟩
end

/-! ### x[::-1] -/
section
variable {X : Cx}
theorem strPick_rev (x : List Nat) : ((Builtin.Str.strSliceIndices none none (-1) (toStr x).length).filterMap ((toStr x).cps[·]?)).toArray = x.reverse.toArray := by
  rw [toStr_len]
  unfold Builtin.Str.strSliceIndices
  show ((sliceRange ((x.length : Int) - 1) (-1) (-1)).filterMap (x.toArray[·]?)).toArray = _
  rw [PySem.W.krv_sliceRange, PySem.W.krv_range, List.filterMap_reverse, show x.length = x.toArray.size by simp, PySem.W.krv_all]
def tRevSL (K : PySem.W.Frag) (te : TE) : TE := fun σ H Q => te σ H fun x H1 =>
  (∃ z : List Nat, x = .str (toStr z) ∧ z.length ≤ sizeLine ∧ Q (.str (toStr z.reverse)) H1) ∨ ∃ a xs, x = .ref a ∧ SqL K H1 a xs ∧ ∀ p, H1 p = none → Q (.ref p) (upd H1 p (.lst xs.reverse))
/-- of a text or a list, by the value -/
theorem pe_revSL {e : Expr} {te : TE} {k : Nat} {p1 p2 p3 pos : Pos} (he : PE X e te) : PE X (.Subscript e (.Slice none none (some (.UnaryOp .USub (.Constant (.int 1) k p1) p2)) p3) pos) (tRevSL X.K te) := by
  refine ⟨fun pins s σ H Q I h => ?_⟩
  refine Subscript_ (thn (he.run pins s σ H _ I h) fun v s1 ⟨x, H1, I1, r1, q1⟩ => ?_)
  have step1 : PO X (some (.UnaryOp .USub (.Constant (.int 1) k p1) p2)) (tPart (tUn (rU fun i => .int (-i)) (tC (.int 1)))) := po_some (pe_un un_neg pe_int)
  refine wpAny_Slice (thn (po_none.run pins s1 σ H1 (fun o H2 => o = none ∧ H2 = H1) I1 ⟨rfl, rfl⟩) fun vl s2 ⟨l, H2, I2, pl, el, e2⟩ => ?_)
  subst el e2
  refine thn (po_none.run pins s2 σ H2 (fun o H3 => o = none ∧ H3 = H2) I2 ⟨rfl, rfl⟩) fun vu s3 ⟨u, H3, I3, pu, eu, e3⟩ => ?_
  subst eu e3
  refine thn (step1.run pins s3 σ H3 (fun o H4 => o = some (-1) ∧ H4 = H3) I3 ⟨1, rfl, -1, rfl, rfl, rfl⟩) fun vs s4 ⟨o, H4, I4, ps, eo, e4⟩ => ?_
  subst eo e4
  rcases q1 with ⟨z, ex, hz, q⟩ | ⟨a, xs, ex, hx, q⟩
  · subst ex
    obtain ⟨t, rfl⟩ := r1
    obtain ⟨l', rfl, e1⟩ := IsPart.raw pl
    obtain ⟨u', rfl, e2⟩ := IsPart.raw pu
    obtain ⟨st, rfl, e3⟩ := IsPart.raw ps
    have I5 : Inv X pins σ H4 { s4 with heap := s4.heap.push { cls := .type "slice", data := .fields #[partValue l', partValue u', partValue st] } } := I4.kept (t' := s4.toks) fun b ob q => Heap.get?_push_of_some _ q
    show wpAny (model X.prog X.w) X.A (subscriptTail e (.Slice none none (some (.UnaryOp .USub (.Constant (.int 1) k p1) p2)) p3) (.str (toStr z) t) (.ref s4.heap.objs.size)) (EP X pins σ Q) X.xe { s4 with heap := s4.heap.push { cls := .type "slice", data := .fields #[partValue l', partValue u', partValue st] } }
    refine tail_any (ops := [.str (toStr z) t, .ref s4.heap.objs.size]) (typeIs_str _ _ _) (F.slot_str_getitem.lookup) ?_ (by with_unfolding_all rfl)
    refine wpAny_getItem_str_slice (l := l') (u := u') (st := st) ⟨_, Heap.get?_push_size _ rfl, rfl, rfl⟩ (by rw [e3]; rfl) ?_
    unfold sliceMade slicePicked
    rw [e1, e2, e3]
    show Made.post (if ((-1 : Int) == 1 && _) = true then _ else _) _ _
    rw [if_neg (by simp)]
    have e5 := strPick_rev z
    show Made.post (Made.str ⟨((Builtin.Str.strSliceIndices none none (-1) (toStr z).length).filterMap ((toStr z).cps[·]?)).toArray⟩) _ _
    rw [e5]
    refine ⟨?_, .str _, H4, I5.tok _, ⟨_, rfl⟩, q⟩
    show (toStr z.reverse).length ≤ sizeLine
    rw [toStr_len, List.length_reverse]
    exact hz
  · subst ex
    cases r1
    have J : Inv X pins σ H4 { s4 with heap := s4.heap.push { cls := .type "slice", data := .fields #[vl, vu, vs] } } := I4.kept (t' := s4.toks) fun _ _ w => Heap.get?_push_of_some _ w
    obtain ⟨its, rv, pl', hz⟩ := J.list hx
    have hn := rv.length
    show wpAny (model X.prog X.w) X.A (subscriptTail e (.Slice none none (some (.UnaryOp .USub (.Constant (.int 1) k p1) p2)) p3) (.ref a) (.ref s4.heap.objs.size)) (EP X pins σ Q) X.xe { s4 with heap := s4.heap.push { cls := .type "slice", data := .fields #[vl, vu, vs] } }
    refine tail_any (ops := [.ref a, .ref s4.heap.objs.size]) pl'.isList.typeIs (PySem.slot_list_getitem.lookup) ?_ (by with_unfolding_all rfl)
    refine wpAny_getItem_list_slice pl'.isList (Heap.IsSliceOf.new _ vl vu vs) pl pu ps (by decide) ?_ (by rw [List.size_toArray]; omega)
    rw [PySem.W.krv_pick]
    have new := J.hok.fresh (a := (s4.heap.push { cls := .type "slice", data := .fields #[vl, vu, vs] }).objs.size) (Nat.le_refl _)
    exact ⟨.ref _, _, J.laid (t' := s4.toks) (o := .lst xs.reverse) (fun _ _ w => Heap.get?_push_of_some _ w) (Nat.le_refl _) ⟨by rw [List.length_reverse]; exact hz, _, 0, rv.reverse, Heap.get?_push_size _ rfl⟩, rfl, q _ new⟩
end

/-! ### lists of ints, texts, bools -/
section
variable {H : Hp} {Rw O : AP1}
theorem ints_vals : ∀ {xs : List PV} {vs : List V} {ns : List Int}, ints? xs = some ns → Reps H Rw O xs vs → vs = ns.map V.int
  | [], _, _, e, h => by simp only [ints?, Option.some.injEq] at e; subst e; simp only [Reps] at h; exact h
  | x :: xs, _, ns, e, h => by
    simp only [Reps] at h
    obtain ⟨w, ws, rfl, r1, r2⟩ := h
    cases x with
    | int i =>
      simp only [ints?] at e
      obtain ⟨ms, h1, rfl⟩ := Option.map_eq_some_iff.mp e
      simp only [Rep] at r1
      subst r1
      rw [ints_vals h1 r2]
      rfl
    | _ => simp [ints?] at e
theorem strs_vals : ∀ {xs : List PV} {vs : List V} {ns : List (List Nat)}, strs? xs = some ns → Reps H Rw O xs vs → vs = (ns.map toStr).map V.str ∧ ∀ n ∈ ns, OkS n
  | [], _, _, e, h => by simp only [strs?, Option.some.injEq] at e; subst e; simp only [Reps] at h; exact ⟨h, fun _ z => nomatch z⟩
  | x :: xs, _, ns, e, h => by
    simp only [Reps] at h
    obtain ⟨w, ws, rfl, r1, r2⟩ := h
    cases x with
    | str i =>
      simp only [strs?] at e
      obtain ⟨ms, h1, rfl⟩ := Option.map_eq_some_iff.mp e
      simp only [Rep] at r1
      obtain ⟨rfl, ok⟩ := r1
      obtain ⟨h2, h3⟩ := strs_vals h1 r2
      rw [h2]
      exact ⟨rfl, fun n hn => (List.mem_cons.mp hn).elim (fun z => z ▸ ok) (h3 n)⟩
    | _ => simp [strs?] at e
theorem bools_vals : ∀ {xs : List PV} {vs : List V} {ns : List Bool}, bools? xs = some ns → Reps H Rw O xs vs → vs = ns.map V.bl
  | [], _, _, e, h => by simp only [bools?, Option.some.injEq] at e; subst e; simp only [Reps] at h; exact h
  | x :: xs, _, ns, e, h => by
    simp only [Reps] at h
    obtain ⟨w, ws, rfl, r1, r2⟩ := h
    cases x with
    | bl i =>
      simp only [bools?] at e
      obtain ⟨ms, h1, rfl⟩ := Option.map_eq_some_iff.mp e
      simp only [Rep] at r1
      subst r1
      rw [bools_vals h1 r2]
      rfl
    | _ => simp [bools?] at e
end
theorem sumI_eq : ∀ ns : List Int, sumI ns = ns.sum
  | [] => rfl
  | a :: r => by rw [List.sum_cons, sumI, sumI_eq r]
theorem minI_spec : ∀ (m : Int) (r : List Int), minI m r ∈ m :: r ∧ ∀ y ∈ m :: r, minI m r ≤ y
  | m, [] => by simp [minI]
  | m, a :: r => by
    have h := minI_spec (if a < m then a else m) r
    unfold minI
    by_cases c : a < m
    · rw [if_pos c] at h ⊢
      refine ⟨?_, fun y hy => ?_⟩
      · have := h.1
        simp only [List.mem_cons] at this ⊢
        exact .inr this
      · simp only [List.mem_cons] at hy
        rcases hy with rfl | rfl | hy
        · have := h.2 a List.mem_cons_self; omega
        · exact h.2 _ List.mem_cons_self
        · exact h.2 y (List.mem_cons_of_mem _ hy)
    · rw [if_neg c] at h ⊢
      refine ⟨?_, fun y hy => ?_⟩
      · have := h.1
        simp only [List.mem_cons] at this ⊢
        exact this.imp id .inr
      · simp only [List.mem_cons] at hy
        rcases hy with rfl | rfl | hy
        · exact h.2 _ List.mem_cons_self
        · have := h.2 m List.mem_cons_self; omega
        · exact h.2 y (List.mem_cons_of_mem _ hy)
theorem maxI_spec : ∀ (m : Int) (r : List Int), maxI m r ∈ m :: r ∧ ∀ y ∈ m :: r, y ≤ maxI m r
  | m, [] => by simp [maxI]
  | m, a :: r => by
    have h := maxI_spec (if m < a then a else m) r
    unfold maxI
    by_cases c : m < a
    · rw [if_pos c] at h ⊢
      refine ⟨?_, fun y hy => ?_⟩
      · have := h.1
        simp only [List.mem_cons] at this ⊢
        exact .inr this
      · simp only [List.mem_cons] at hy
        rcases hy with rfl | rfl | hy
        · have := h.2 a List.mem_cons_self; omega
        · exact h.2 _ List.mem_cons_self
        · exact h.2 y (List.mem_cons_of_mem _ hy)
    · rw [if_neg c] at h ⊢
      refine ⟨?_, fun y hy => ?_⟩
      · have := h.1
        simp only [List.mem_cons] at this ⊢
        exact this.imp id .inr
      · simp only [List.mem_cons] at hy
        rcases hy with rfl | rfl | hy
        · exact h.2 _ List.mem_cons_self
        · have := h.2 m List.mem_cons_self; omega
        · exact h.2 y (List.mem_cons_of_mem _ hy)

/-! ### built-in calls -/
/-- the name of a built-in, and whether it is a type -/
def biNm : Bi → String × Bool
  | .len => ("len", false)
  | .int => ("int", true)
  | .list => ("list", true)
  | .tuple => ("tuple", true)
  | .sum => ("sum", false)
  | .all => ("all", false)
  | .any => ("any", false)
  | .min2 => ("min", false)
  | .max2 => ("max", false)
  | .minl => ("min", false)
  | .maxl => ("max", false)
  | .sorted => ("sorted", false)
  | .lenset => ("len", false)
  | .sortedset => ("sorted", false)
  | .isinst _ => ("isinstance", false)
def biV (b : Bi) : Value := if (biNm b).2 then .type (biNm b).1 else .builtin (biNm b).1
def Wreps (H : Hp) (Rw O O' : AP1) : List PV → List V → Prop
  | [], vs => vs = []
  | x :: xs, vs => ∃ w ws, vs = w :: ws ∧ WRep H Rw O O' x w ∧ Wreps H Rw O O' xs ws
theorem callR_never {X : Cx} {f : Value} : CallR X f (fun _ _ _ => False) := fun _ _ _ _ _ _ _ _ _ h => h.elim
theorem CallR.or {X : Cx} {f : Value} {r r' : List V → Hp → VK → Prop} (h : CallR X f r) (h' : CallR X f r') : CallR X f (fun xs H Q => r xs H Q ∨ r' xs H Q) := by
  intro pins s σ H xs us Q I rs q
  rcases q with q | q
  · exact h pins s σ H xs us Q I rs q
  · exact h' pins s σ H xs us Q I rs q
section
variable {X : Cx}
theorem wreps1 {H : Hp} {Rw O O' : AP1} {x : PV} {vs : List V} (h : Wreps H Rw O O' [x] vs) : ∃ w, vs = [w] ∧ WRep H Rw O O' x w := by
  obtain ⟨w, ws, rfl, r, rfl⟩ := h
  exact ⟨w, rfl, r⟩
theorem wreps2 {H : Hp} {Rw O O' : AP1} {x y : PV} {vs : List V} (h : Wreps H Rw O O' [x, y] vs) : ∃ w u, vs = [w, u] ∧ WRep H Rw O O' x w ∧ WRep H Rw O O' y u := by
  obtain ⟨w, ws, rfl, r, u, us, rfl, r2, rfl⟩ := h
  exact ⟨w, u, rfl, r, r2⟩
theorem repsK_len {H : Hp} {Rw O : AP1} : ∀ {xs : List (PV × PV)} {vs : List (Key × V)}, RepsK H Rw O xs vs → vs.length = xs.length
  | [], _, h => by simp only [RepsK] at h; subst h; rfl
  | (k, x) :: xs, _, h => by
    simp only [RepsK] at h
    obtain ⟨j, w, ws, rfl, _, _, r⟩ := h
    simp only [List.length_cons, repsK_len r]
theorem chs_reps {H : Hp} {Rw O : AP1} : ∀ {x : List Nat}, OkS x → Reps H Rw O (x.map fun c => PV.str [c]) (x.map fun c => V.str (toStr [c]))
  | [], _ => by simp [Reps]
  | c :: r, ok => by
    simp only [List.map_cons, Reps]
    have o1 : OkS [c] := ⟨(by decide : 1 ≤ sizeLine), fun d hd => by rw [List.mem_singleton.mp hd]; exact ok.cps c List.mem_cons_self⟩
    have o2 : OkS r := ⟨Nat.le_trans (Nat.le_succ _) ok.len, fun d hd => ok.cps d (List.mem_cons_of_mem _ hd)⟩
    exact ⟨_, _, rfl, r_str o1, chs_reps o2⟩
theorem ints_reps {H : Hp} {Rw O : AP1} : ∀ (ns : List Int), Reps H Rw O (ns.map PV.int) (ns.map V.int)
  | [] => by simp [Reps]
  | n :: r => by
    simp only [List.map_cons, Reps]
    exact ⟨_, _, rfl, r_int n, ints_reps r⟩
theorem strs_reps {H : Hp} {Rw O : AP1} : ∀ {ss : List (List Nat)}, (∀ s ∈ ss, OkS s) → Reps H Rw O (ss.map PV.str) ((ss.map toStr).map V.str)
  | [], _ => by simp [Reps]
  | s :: r, ok => by
    simp only [List.map_cons, Reps]
    exact ⟨_, _, rfl, r_str (ok s List.mem_cons_self), strs_reps fun z hz => ok z (List.mem_cons_of_mem _ hz)⟩
def rLen (K : PySem.W.Frag) : List V → Hp → VK → Prop := fun xs H Q => ∃ x n, xs = [x] ∧ LenV K x H n ∧ Q (.int n) H
def rLenD : List V → Hp → VK → Prop := fun xs H Q => ∃ a kvs, xs = [V.ref a] ∧ H a = some (.dK kvs) ∧ Q (.int kvs.length) H
def rListOf (K : PySem.W.Frag) : List V → Hp → VK → Prop := fun xs H Q => ∃ p ys, xs = [.ref p] ∧ (SqL K H p ys ∨ SqT K H p ys) ∧ ∀ l, H l = none → Q (.ref l) (upd H l (.lst ys))
def rTupleOf (K : PySem.W.Frag) : List V → Hp → VK → Prop := fun xs H Q => ∃ p ys, xs = [.ref p] ∧ ((SqL K H p ys ∧ ∀ l, H l = none → Q (.ref l) (upd H l (.tup ys))) ∨ (SqT K H p ys ∧ Q (.ref p) H))
theorem bi_snd (K : PySem.W.Frag) (b : Bi) : ∃ r : List V → Hp → VK → Prop, (∀ X : Cx, X.K = K → X.calm = true → CallR X (biV b) r) ∧ ∀ (xs : List PV) (p : PV) (vs : List V) (H : Hp) (Rw O O' : AP1) (Q : VK), (∀ ts, b ≠ .isinst ts) → biP b xs = some p → Sts H Rw O O' → Wreps H Rw O O' xs vs → Ans H Rw O O' p Q → r vs H Q := by
  cases b with
  | len =>
    refine ⟨fun xs H Q => rLen K xs H Q ∨ rLenD xs H Q, fun X hK hc => by subst hK; exact CallR.or call_len call_lenD, fun xs p vs H Rw O O' Q _ e S h q => ?_⟩
    unfold biP at e
    split at e <;> first | contradiction | skip
    obtain ⟨w, rfl, r⟩ := wreps1 h
    unfold lenP at e
    split at e <;> first | contradiction | skip
    · cases e
      obtain ⟨rfl, ok⟩ := w_str r
      exact .inl ⟨_, _, rfl, ⟨by rw [toStr_len]; exact ok.len, (toStr_len _).symm⟩, q.int⟩
    · cases e
      obtain ⟨a, us, rfl, ha, _, r⟩ := r
      exact .inl ⟨_, _, rfl, .inl ⟨us, SqL.of ha, (reps_len r).symm⟩, q.int⟩
    · cases e
      have r' : Rep H Rw O' _ w := r
      simp only [Rep] at r'
      obtain ⟨a, us, rfl, ha, r⟩ := r'
      exact .inl ⟨_, _, rfl, .inr ⟨us, SqT.of ha, (reps_len r).symm⟩, q.int⟩
    · cases e
      obtain ⟨a, us, rfl, ha, _, r⟩ := r
      exact .inr ⟨_, us, rfl, ha, by rw [repsK_len r]; exact q.int⟩
  | int =>
    refine ⟨_, fun X _ _ => call_int1, fun xs p vs H Rw O O' Q _ e S h q => ?_⟩
    unfold biP at e
    split at e <;> first | contradiction | skip
    cases e
    obtain ⟨w, rfl, r⟩ := wreps1 h
    rw [w_int r]
    exact .inl ⟨_, rfl, q.int⟩
  | list =>
    refine ⟨fun xs H Q => rListOf K xs H Q ∨ rListTxt xs H Q, fun X hK hc => by subst hK; exact CallR.or call_list_of (call_listTxt hc), fun xs p vs H Rw O O' Q _ e S h q => ?_⟩
    unfold biP at e
    split at e <;> first | contradiction | skip
    · cases e
      obtain ⟨w, rfl, r⟩ := wreps1 h
      obtain ⟨a, us, rfl, ha, _, r⟩ := r
      exact .inl ⟨a, us, rfl, .inl (SqL.of ha), fun l hl => q.lst S.trk S.ro r hl⟩
    · cases e
      obtain ⟨w, rfl, r⟩ := wreps1 h
      have r' : Rep H Rw O' _ w := r
      simp only [Rep] at r'
      obtain ⟨a, us, rfl, ha, r⟩ := r'
      exact .inl ⟨a, us, rfl, .inr (SqT.of ha), fun l hl => q.lst S.trk S.ro r hl⟩
    · cases e
      obtain ⟨w, rfl, r⟩ := wreps1 h
      obtain ⟨rfl, ok⟩ := w_str r
      exact .inr ⟨_, rfl, ok.len, fun l hl => q.lst S.trk S.ro (chs_reps ok) hl⟩
  | tuple =>
    refine ⟨rTupleOf K, fun X hK hc => by subst hK; exact call_tuple_of, fun xs p vs H Rw O O' Q _ e S h q => ?_⟩
    unfold biP at e
    split at e <;> first | contradiction | skip
    · cases e
      obtain ⟨w, rfl, r⟩ := wreps1 h
      obtain ⟨a, us, rfl, ha, _, r⟩ := r
      exact ⟨a, us, rfl, .inl ⟨SqL.of ha, fun l hl => q.tup S.trk S.ro r hl⟩⟩
    · cases e
      obtain ⟨w, rfl, r⟩ := wreps1 h
      have r' : Rep H Rw O' _ w := r
      have r'' := r'
      simp only [Rep] at r'
      obtain ⟨a, us, rfl, ha, r⟩ := r'
      exact ⟨a, us, rfl, .inr ⟨SqT.of ha, q.scal (show Rep H Rw O' _ _ from r'')⟩⟩
  | sum =>
    refine ⟨fun xs H Q => rSum K xs H Q ∨ rSumT K xs H Q, fun X hK hc => by subst hK; exact CallR.or (cr_sum hc) (cr_sumT hc), fun xs p vs H Rw O O' Q _ e S h q => ?_⟩
    unfold biP at e
    split at e <;> first | contradiction | skip
    · obtain ⟨ns, hn, rfl⟩ := Option.map_eq_some_iff.mp e
      obtain ⟨w, rfl, r⟩ := wreps1 h
      obtain ⟨a, us, rfl, ha, _, r⟩ := r
      rw [ints_vals hn r] at ha
      exact .inl ⟨a, ns, rfl, SqL.of ha, by rw [← sumI_eq]; exact q.int⟩
    · obtain ⟨ns, hn, rfl⟩ := Option.map_eq_some_iff.mp e
      obtain ⟨w, rfl, r⟩ := wreps1 h
      have r' : Rep H Rw O' _ w := r
      simp only [Rep] at r'
      obtain ⟨a, us, rfl, ha, r⟩ := r'
      rw [ints_vals hn r] at ha
      exact .inr ⟨a, ns, rfl, SqT.of ha, by rw [← sumI_eq]; exact q.int⟩
  | all =>
    refine ⟨rAll K, fun X hK hc => by subst hK; exact cr_all hc, fun xs p vs H Rw O O' Q _ e S h q => ?_⟩
    unfold biP at e
    split at e <;> first | contradiction | skip
    obtain ⟨ns, hn, rfl⟩ := Option.map_eq_some_iff.mp e
    obtain ⟨w, rfl, r⟩ := wreps1 h
    obtain ⟨a, us, rfl, ha, _, r⟩ := r
    rw [bools_vals hn r] at ha
    exact ⟨a, ns, rfl, SqL.of ha, q.bl⟩
  | any =>
    refine ⟨rAny K, fun X hK hc => by subst hK; exact cr_any hc, fun xs p vs H Rw O O' Q _ e S h q => ?_⟩
    unfold biP at e
    split at e <;> first | contradiction | skip
    obtain ⟨ns, hn, rfl⟩ := Option.map_eq_some_iff.mp e
    obtain ⟨w, rfl, r⟩ := wreps1 h
    obtain ⟨a, us, rfl, ha, _, r⟩ := r
    rw [bools_vals hn r] at ha
    exact ⟨a, ns, rfl, SqL.of ha, q.bl⟩
  | min2 =>
    refine ⟨_, fun X _ hc => call_min2 hc, fun xs p vs H Rw O O' Q _ e S h q => ?_⟩
    unfold biP at e
    split at e <;> first | contradiction | skip
    cases e
    obtain ⟨w, u, rfl, r1, r2⟩ := wreps2 h
    exact ⟨_, _, by rw [w_int r1, w_int r2], q.int⟩
  | max2 =>
    refine ⟨_, fun X _ hc => call_max2 hc, fun xs p vs H Rw O O' Q _ e S h q => ?_⟩
    unfold biP at e
    split at e <;> first | contradiction | skip
    cases e
    obtain ⟨w, u, rfl, r1, r2⟩ := wreps2 h
    exact ⟨_, _, by rw [w_int r1, w_int r2], q.int⟩
  | minl =>
    refine ⟨fun xs H Q => rMin K xs H Q ∨ rMinT K xs H Q, fun X hK hc => by subst hK; exact CallR.or (cr_min hc) (cr_minT hc), fun xs p vs H Rw O O' Q _ e S h q => ?_⟩
    unfold biP at e
    split at e <;> first | contradiction | skip
    · split at e <;> first | contradiction | skip
      rename_i z m rr hn
      cases e
      obtain ⟨w, rfl, r⟩ := wreps1 h
      obtain ⟨a, us, rfl, ha, _, r⟩ := r
      rw [ints_vals hn r] at ha
      refine .inl ⟨a, m :: rr, rfl, SqL.of ha, by simp, fun k hk hm => ?_⟩
      have sp := minI_spec m rr
      have e : k = minI m rr := Int.le_antisymm (hm _ sp.1) (sp.2 k hk)
      rw [e]
      exact q.int
    · split at e <;> first | contradiction | skip
      rename_i z m rr hn
      cases e
      obtain ⟨w, rfl, r⟩ := wreps1 h
      have r' : Rep H Rw O' _ w := r
      simp only [Rep] at r'
      obtain ⟨a, us, rfl, ha, r⟩ := r'
      rw [ints_vals hn r] at ha
      refine .inr ⟨a, m :: rr, rfl, SqT.of ha, by simp, fun k hk hm => ?_⟩
      have sp := minI_spec m rr
      have e : k = minI m rr := Int.le_antisymm (hm _ sp.1) (sp.2 k hk)
      rw [e]
      exact q.int
  | maxl =>
    refine ⟨fun xs H Q => rMax K xs H Q ∨ rMaxT K xs H Q, fun X hK hc => by subst hK; exact CallR.or (cr_max hc) (cr_maxT hc), fun xs p vs H Rw O O' Q _ e S h q => ?_⟩
    unfold biP at e
    split at e <;> first | contradiction | skip
    · split at e <;> first | contradiction | skip
      rename_i z m rr hn
      cases e
      obtain ⟨w, rfl, r⟩ := wreps1 h
      obtain ⟨a, us, rfl, ha, _, r⟩ := r
      rw [ints_vals hn r] at ha
      refine .inl ⟨a, m :: rr, rfl, SqL.of ha, by simp, fun k hk hm => ?_⟩
      have sp := maxI_spec m rr
      have e : k = maxI m rr := Int.le_antisymm (sp.2 k hk) (hm _ sp.1)
      rw [e]
      exact q.int
    · split at e <;> first | contradiction | skip
      rename_i z m rr hn
      cases e
      obtain ⟨w, rfl, r⟩ := wreps1 h
      have r' : Rep H Rw O' _ w := r
      simp only [Rep] at r'
      obtain ⟨a, us, rfl, ha, r⟩ := r'
      rw [ints_vals hn r] at ha
      refine .inr ⟨a, m :: rr, rfl, SqT.of ha, by simp, fun k hk hm => ?_⟩
      have sp := maxI_spec m rr
      have e : k = maxI m rr := Int.le_antisymm (sp.2 k hk) (hm _ sp.1)
      rw [e]
      exact q.int
  | sorted =>
    refine ⟨fun xs H Q => (rSortedI K xs H Q ∨ rSortedSA K xs H Q) ∨ rSortedTxt xs H Q, fun X hK hc => by subst hK; exact CallR.or (CallR.or cr_sortedI cr_sortedSA) (cr_sortedTxt hc), fun xs p vs H Rw O O' Q _ e S h q => ?_⟩
    unfold biP at e
    split at e <;> first | contradiction | skip
    rotate_left
    · rename_i x _
      cases e
      obtain ⟨w, rfl, r⟩ := wreps1 h
      obtain ⟨rfl, ok⟩ := w_str r
      refine .inr ⟨_, rfl, ok.len, fun ys l h1 h2 hl => ?_⟩
      have h1' : ys.Perm ((List.map (fun c => [c]) x).map toStr) := by rw [List.map_map]; exact h1
      rw [sortedS_out h1' h2]
      refine q.lst S.trk S.ro (strs_reps fun z hz => ?_) hl
      obtain ⟨c, hc, rfl⟩ := List.mem_map.mp ((sortS_perm _).mem_iff.mp hz)
      exact ⟨(by decide : 1 ≤ sizeLine), fun d hd => by rw [List.mem_singleton.mp hd]; exact ok.cps c hc⟩
    rename_i ys _
    obtain ⟨w, rfl, r⟩ := wreps1 h
    obtain ⟨a, us, rfl, ha, _, r⟩ := r
    cases hn : ints? ys with
    | some ns =>
      rw [hn] at e
      cases e
      rw [ints_vals hn r] at ha
      exact .inl <| .inl ⟨a, ns, rfl, SqL.of ha, fun ns' p h1 h2 hp => by rw [sortI_uniq h1 h2]; exact q.lst S.trk S.ro (ints_reps _) hp⟩
    | none =>
      rw [hn] at e
      dsimp only at e
      cases hs : strs? ys with
      | none => rw [hs] at e; cases e
      | some ss =>
        rw [hs] at e
        cases e
        obtain ⟨e1, e2⟩ := strs_vals hs r
        rw [e1] at ha
        exact .inl <| .inr ⟨a, _, rfl, SqL.of ha, fun zs p h1 h2 hp => by
          rw [sortedS_out h1 h2]
          exact q.lst S.trk S.ro (strs_reps fun z hz => e2 z ((sortS_perm ss).mem_iff.mp hz)) hp⟩
  | lenset => exact ⟨_, fun X _ _ => callR_never, fun xs p vs H Rw O O' Q _ e S h q => by simp [biP] at e⟩
  | sortedset => exact ⟨_, fun X _ _ => callR_never, fun xs p vs H Rw O O' Q _ e S h q => by simp [biP] at e⟩
  | isinst ts => exact ⟨_, fun X _ _ => callR_never, fun xs p vs H Rw O O' Q n => (n ts rfl).elim⟩
end
end Ev
set_option autoImplicit false
set_option linter.all false
set_option Elab.async false
set_option maxRecDepth 100000
/-! Ev4b: methods of texts and lists. -/
namespace Ev
open PySem PySem.Spec PyProof.Rows L2
theorem startswith_eq (x y : List Nat) : Txt.startswith (toStr x) (toStr y) = isPre y x := by
  unfold Txt.startswith
  rw [Bool.eq_iff_iff, Bool.and_eq_true, decide_eq_true_eq, isPre_iff]
  simp only [toStr_len, Nat.zero_add]
  constructor
  · rintro ⟨hl, hs⟩
    rw [subAt_iff x y 0 (by omega)] at hs
    refine ⟨x.drop y.length, ?_⟩
    have e := List.take_append_drop y.length x
    rw [List.drop_zero] at hs
    rw [hs] at e
    exact e.symm
  · rintro ⟨t, rfl⟩
    refine ⟨by simp, ?_⟩
    rw [subAt_iff _ _ _ (by simp)]
    simp
theorem endswith_eq (x y : List Nat) : Txt.endswith (toStr x) (toStr y) = endsW x y := by
  unfold Txt.endswith endsW
  rw [Bool.eq_iff_iff, Bool.and_eq_true, decide_eq_true_eq, isPre_iff]
  simp only [toStr_len, Nat.zero_add]
  constructor
  · rintro ⟨hl, hs⟩
    rw [subAt_iff x y _ (by omega)] at hs
    have e := List.take_append_drop (x.length - y.length) x
    have e2 : (x.drop (x.length - y.length)).take y.length = x.drop (x.length - y.length) := List.take_of_length_le (by rw [List.length_drop]; omega)
    rw [e2] at hs
    rw [hs] at e
    refine ⟨(x.take (x.length - y.length)).reverse, ?_⟩
    rw [← e]
    simp
  · rintro ⟨t, h⟩
    have h' : x = t.reverse ++ y := by
      have := congrArg List.reverse h
      simpa using this
    subst h'
    refine ⟨by simp, ?_⟩
    rw [subAt_iff _ _ _ (by simp)]
    simp
theorem glued_eq (sep : List Nat) : ∀ (x : List Nat) (ss : List (List Nat)), Builtin.Str.glued (toStr sep) ((x :: ss).map toStr) = toStr (joinS sep (x :: ss)) := by
  intro x ss
  unfold Builtin.Str.glued
  simp only [List.map_cons, List.drop_succ_cons, List.drop_zero, List.headD_cons]
  have key : ∀ (ss : List (List Nat)) (acc : List Nat), (ss.map toStr).foldl (fun acc p => acc ++ sep.toArray ++ p.cps) acc.toArray = (joinS sep (acc :: ss)).toArray := by
    intro ss
    induction ss with
    | nil => intro acc; simp [joinS]
    | cons y r ih =>
      intro acc
      rw [List.map_cons, List.foldl_cons]
      have e : acc.toArray ++ sep.toArray ++ (toStr y).cps = (acc ++ sep ++ y).toArray := by simp [toStr]
      rw [e, ih]
      cases r with
      | nil => simp [joinS]
      | cons z r => simp [joinS]
  exact congrArg Str.mk (key ss x)
theorem join_eq (sep : List Nat) (ss : List (List Nat)) : Txt.join (toStr sep) (ss.map toStr) = toStr (joinS sep ss) := by
  cases ss with
  | nil => rfl
  | cons x ss => exact glued_eq sep x ss
theorem joinS_len (sep : List Nat) : ∀ ss : List (List Nat), (joinS sep ss).length ≤ sumN (ss.map List.length) + ss.length * sep.length
  | [] => by simp [joinS]
  | [x] => by simp [joinS, sumN]
  | x :: y :: r => by
    have ih := joinS_len sep (y :: r)
    simp only [joinS, List.length_append, List.map_cons, sumN, List.length_cons] at ih ⊢
    have e : (r.length + 1 + 1) * sep.length = (r.length + 1) * sep.length + sep.length := by rw [Nat.succ_mul]
    omega
theorem joinS_mem (sep : List Nat) : ∀ (ss : List (List Nat)) (c : Nat), c ∈ joinS sep ss → c ∈ sep ∨ ∃ s ∈ ss, c ∈ s
  | [], _, h => by simp [joinS] at h
  | [x], c, h => by simp [joinS] at h; exact .inr ⟨x, by simp, h⟩
  | x :: y :: r, c, h => by
    simp only [joinS, List.mem_append] at h
    rcases h with (h | h) | h
    · exact .inr ⟨x, by simp, h⟩
    · exact .inl h
    · rcases joinS_mem sep (y :: r) c h with h | ⟨s, hs, hc⟩
      · exact .inl h
      · exact .inr ⟨s, List.mem_cons_of_mem _ hs, hc⟩
theorem sumN_eq (ss : List (List Nat)) : ((ss.map toStr).map (·.length)).sum = sumN (ss.map List.length) := by
  induction ss with
  | nil => rfl
  | cons a r ih => simp only [List.map_cons, List.sum_cons, sumN, ih, toStr_len]
theorem findS_spec (y : List Nat) : ∀ x : List Nat, match findS y x with
    | some i => i + y.length ≤ x.length ∧ (x.drop i).take y.length = y ∧ ∀ j, j < i → ¬ (j + y.length ≤ x.length ∧ (x.drop j).take y.length = y)
    | none => ∀ j, ¬ (j + y.length ≤ x.length ∧ (x.drop j).take y.length = y)
  | [] => by
    unfold findS
    by_cases c : isPre y [] = true
    · rw [if_pos c]
      obtain ⟨t, e⟩ := (isPre_iff _ _).mp c
      have e' : y = [] := by simpa using (congrArg (List.take y.length) e).symm
      subst e'
      exact ⟨by simp, by simp, fun j hj => by omega⟩
    · rw [if_neg c]
      rintro j ⟨h1, h2⟩
      have : y = [] := List.eq_nil_of_length_eq_zero (by simp only [List.length_nil] at h1; omega)
      subst this
      exact c (by simp [isPre])
  | b :: s => by
    have ih := findS_spec y s
    unfold findS
    have pre : isPre y (b :: s) = true ↔ (0 + y.length ≤ (b :: s).length ∧ ((b :: s).drop 0).take y.length = y) := by
      rw [isPre_iff]
      constructor
      · rintro ⟨t, e⟩
        rw [e]
        simp
      · rintro ⟨h1, h2⟩
        refine ⟨(b :: s).drop y.length, ?_⟩
        rw [List.drop_zero] at h2
        have e := List.take_append_drop y.length (b :: s)
        rw [h2] at e
        exact e.symm
    by_cases c : isPre y (b :: s) = true
    · rw [if_pos c]
      obtain ⟨h1, h2⟩ := pre.mp c
      exact ⟨h1, h2, fun j hj => by omega⟩
    · rw [if_neg c]
      have c' := fun z => c (pre.mpr z)
      cases e : findS y s with
      | some i =>
        rw [e] at ih
        show _ ∧ _ ∧ _
        refine ⟨by have := ih.1; simp only [List.length_cons]; omega, by rw [List.drop_succ_cons]; exact ih.2.1, fun j hj => ?_⟩
        cases j with
        | zero => exact c'
        | succ j =>
          have hj' : j + 1 < i + 1 := hj
          rw [List.drop_succ_cons, List.length_cons]; exact fun z => ih.2.2 j (by omega) ⟨by omega, z.2⟩
      | none =>
        rw [e] at ih
        show ∀ j, _
        intro j
        cases j with
        | zero => exact c'
        | succ j => rw [List.drop_succ_cons, List.length_cons]; exact fun z => ih j ⟨by omega, z.2⟩
theorem at_iff (x y : List Nat) (i : Nat) : StrLaws.At (toStr x) (toStr y) (toStr x).length i ↔ (i + y.length ≤ x.length ∧ (x.drop i).take y.length = y) := by
  unfold StrLaws.At
  simp only [toStr_len]
  constructor
  · rintro ⟨h1, h2⟩
    exact ⟨h1, (subAt_iff x y i h1).mp h2⟩
  · rintro ⟨h1, h2⟩
    exact ⟨h1, (subAt_iff x y i h1).mpr h2⟩
theorem occ_find (y x : List Nat) : match findS y x with
    | some i => ∃ rest, Builtin.Str.occurrences (toStr x) (toStr y) 0 (toStr x).length 1 = i :: rest
    | none => Builtin.Str.occurrences (toStr x) (toStr y) 0 (toStr x).length 1 = [] := by
  have h := findS_spec y x
  rcases StrLaws.occ_head (toStr x) (toStr y) 1 (Nat.le_refl _) with ⟨e, hn⟩ | ⟨i, r, e, hi, hn⟩
  · cases hf : findS y x with
    | none => exact e
    | some j =>
      rw [hf] at h
      exact absurd ((at_iff x y j).mpr ⟨h.1, h.2.1⟩) (hn j)
  · rw [at_iff] at hi
    cases hf : findS y x with
    | none =>
      rw [hf] at h
      exact absurd hi (h i)
    | some j =>
      rw [hf] at h
      have : i = j := by
        rcases Nat.lt_trichotomy i j with z | z | z
        · exact absurd hi (h.2.2 i z)
        · exact z
        · exact absurd ((at_iff x y j).mpr ⟨h.1, h.2.1⟩) (hn j z)
      subst this
      exact ⟨r, e⟩
theorem indexD_spec (v : PV) : ∀ (xs : List PV) (j : Nat), indexD v xs = some j → ∃ z, xs[j]? = some z ∧ peq z v = true ∧ ∀ m z', m < j → xs[m]? = some z' → peq z' v = false
  | [], _, h => by simp [indexD] at h
  | x :: r, j, h => by
    unfold indexD at h
    by_cases c : peq x v = true
    · rw [if_pos c] at h
      cases h
      exact ⟨x, rfl, c, fun m z' hm => by omega⟩
    · rw [if_neg c] at h
      obtain ⟨i, hi, rfl⟩ := Option.map_eq_some_iff.mp h
      obtain ⟨z, h1, h2, h3⟩ := indexD_spec v r i hi
      refine ⟨z, by simpa using h1, h2, fun m z' hm hz => ?_⟩
      cases m with
      | zero => simp at hz; subst hz; simpa using c
      | succ m => exact h3 m z' (by omega) (by simpa using hz)
theorem toPDs_get : ∀ (xs : List PV) (j : Nat), (toPDs xs)[j]? = xs[j]?.map toPD
  | [], _ => by simp [toPDs]
  | x :: r, 0 => by simp [toPDs]
  | x :: r, j + 1 => by simp only [toPDs, List.getElem?_cons_succ]; exact toPDs_get r j

/-! ### one letter, counted -/
theorem at_one (x : List Nat) (c i : Nat) : (i + (toStr [c]).length ≤ (toStr x).length ∧ Builtin.Str.subAt (toStr x) (toStr [c]) i = true) ↔ x[i]? = some c := by
  have := at_iff x [c] i
  unfold StrLaws.At at this
  rw [this]
  constructor
  · rintro ⟨h1, h2⟩
    have h3 : i < x.length := by simp at h1; omega
    rw [List.getElem?_eq_getElem h3]
    rw [List.drop_eq_getElem_cons h3, List.length_singleton, List.take_succ_cons] at h2
    simp only [List.take_zero, List.cons.injEq, and_true] at h2
    rw [h2]
  · intro h
    obtain ⟨h3, h4⟩ := List.getElem?_eq_some_iff.mp h
    refine ⟨by simp; omega, ?_⟩
    rw [List.drop_eq_getElem_cons h3, List.length_singleton, List.take_succ_cons, h4]
    rfl
theorem occ1_run (x : List Nat) (c limit : Nat) : ∀ (k i : Nat) (st : Array Nat × Nat), st.2 ≤ i → st.1.size + k ≤ limit →
    (forIn (List.range' i k) st (StrLaws.occBody (toStr x) (toStr [c]) (toStr x).length limit)).run.1.size = st.1.size + ((x.drop i).take k).count c
  | 0, i, st, _, _ => by simp
  | k + 1, i, st, h1, h2 => by
    rw [List.range'_succ, List.forIn_cons]
    unfold StrLaws.occBody
    by_cases hc : x[i]? = some c
    · have h3 := (at_one x c i).mpr hc
      rw [if_pos ⟨⟨⟨by omega, h1⟩, h3.1⟩, h3.2⟩]
      obtain ⟨h4, h5⟩ := List.getElem?_eq_some_iff.mp hc
      have := occ1_run x c limit k (i + 1) (st.1.push i, i + (toStr [c]).length) (by simp [toStr_len]) (by simp; omega)
      refine this.trans ?_
      rw [List.drop_eq_getElem_cons h4, List.take_succ_cons, h5, List.count_cons_self]
      simp; omega
    · rw [if_neg (fun z => hc ((at_one x c i).mp ⟨z.1.2, z.2⟩))]
      have := occ1_run x c limit k (i + 1) (st.1, st.2) (by simp; omega) (by simp; omega)
      refine this.trans ?_
      by_cases h4 : i < x.length
      · rw [List.drop_eq_getElem_cons h4, List.take_succ_cons, List.count_cons_of_ne]
        intro z
        exact hc (by rw [List.getElem?_eq_getElem h4, z])
      · rw [List.drop_of_length_le (by omega : x.length ≤ i), List.drop_of_length_le (by omega : x.length ≤ i + 1)]; simp
theorem count_one (x : List Nat) (c : Nat) : Txt.count (toStr x) (toStr [c]) = (x.count c : Nat) := by
  unfold Txt.count
  rw [StrLaws.occ_eq]
  have := occ1_run x c ((toStr x).length + 1) ((toStr x).length + 1 - 0) 0 (#[], 0) (Nat.le_refl _) (by simp)
  rw [Array.length_toList, this]
  rw [toStr_len, List.drop_zero, List.take_of_length_le (by omega)]
  simp
/-- the name of a method, the type that it is of -/
def meNm : Me → String
  | .join => "join"
  | .index => "index"
  | .find => "find"
  | .startswith => "startswith"
  | .endswith => "endswith"
  | .lindex => "index"
  | .scount => "count"
  | .lcount => "count"
def meTy (m : Me) : String := if meL m then "list" else "str"
def meId (m : Me) : String := meTy m ++ "." ++ meNm m
theorem mtR_never {X : Cx} {id : String} : MtR X id (fun _ _ _ _ => False) := fun _ _ _ _ _ _ _ _ _ _ _ _ h => h.elim
section
variable {X : Cx}
def rJoin (K : PySem.W.Frag) : V → List V → Hp → VK → Prop := fun x xs H Q => ∃ a p, ∃ ys : List Str, x = .str a ∧ xs = [.ref p] ∧ (SqL K H p (ys.map V.str) ∨ SqT K H p (ys.map V.str)) ∧
    (ys.map (·.length)).sum + ys.length * a.length ≤ 16777216 ∧ Q (.str (Txt.join a ys)) H
theorem me_snd (K : PySem.W.Frag) (m : Me) : ∃ r : V → List V → Hp → VK → Prop, (∀ X : Cx, X.K = K → X.A.units + 65 < cLine → MtR X (meId m) r) ∧ ∀ (s : PV) (xs : List PV) (p : PV) (v : V) (vs : List V) (H : Hp) (Rw O O' : AP1) (Q : VK), meP m s xs = some p → Sts H Rw O O' → WRep H Rw O O' s v → Wreps H Rw O O' xs vs → Ans H Rw O O' p Q → r v vs H Q := by
  cases m with
  | join =>
    refine ⟨rJoin K, fun X hK _ => by subst hK; exact mt_join, fun s xs p v vs H Rw O O' Q e S rv h q => ?_⟩
    unfold meP at e
    split at e <;> first | contradiction | skip
    obtain ⟨rfl, ok⟩ := w_str rv
    split at e <;> first | contradiction | skip
    rename_i ss hss
    split at e <;> first | contradiction | skip
    rename_i hl
    cases e
    obtain ⟨w, rfl, r⟩ := wreps1 h
    obtain ⟨a, us, rfl, ha, _, r⟩ := r
    obtain ⟨h1, h2⟩ := strs_vals hss r
    rw [h1] at ha
    refine ⟨_, a, ss.map toStr, rfl, rfl, .inl (SqL.of ha), ?_, ?_⟩
    · rw [sumN_eq, toStr_len, List.length_map]
      exact hl
    · rw [join_eq]
      refine q.str ⟨Nat.le_trans (joinS_len _ _) hl, fun c hc => ?_⟩
      rcases joinS_mem _ _ _ hc with h3 | ⟨t, ht, hct⟩
      · exact ok.cps c h3
      · exact (h2 t ht).cps c hct
  | index =>
    refine ⟨_, fun X _ _ => mt_sindex, fun s xs p v vs H Rw O O' Q e S rv h q => ?_⟩
    unfold meP at e
    split at e <;> first | contradiction | skip
    · rename_i x y _
      obtain ⟨rfl, ok⟩ := w_str rv
      obtain ⟨i, hi, rfl⟩ := Option.map_eq_some_iff.mp e
      obtain ⟨w, rfl, r⟩ := wreps1 h
      obtain ⟨rfl, ok2⟩ := w_str r
      have := occ_find y x
      rw [hi] at this
      obtain ⟨rest, hr⟩ := this
      exact ⟨_, _, i, rest, rfl, rfl, hr, q.int⟩
  | find =>
    refine ⟨_, fun X _ _ => mt_find, fun s xs p v vs H Rw O O' Q e S rv h q => ?_⟩
    unfold meP at e
    split at e <;> first | contradiction | skip
    rename_i x y _
    obtain ⟨rfl, ok⟩ := w_str rv
    cases e
    obtain ⟨w, rfl, r⟩ := wreps1 h
    obtain ⟨rfl, ok2⟩ := w_str r
    refine ⟨_, _, rfl, rfl, ?_⟩
    have := occ_find y x
    unfold Txt.find
    cases hf : findS y x with
    | none => rw [hf] at this q; rw [this]; exact q.int
    | some i => rw [hf] at this q; obtain ⟨rest, hr⟩ := this; rw [hr]; exact q.int
  | startswith =>
    refine ⟨_, fun X _ _ => mt_startswith, fun s xs p v vs H Rw O O' Q e S rv h q => ?_⟩
    unfold meP at e
    split at e <;> first | contradiction | skip
    rename_i x y _
    obtain ⟨rfl, ok⟩ := w_str rv
    cases e
    obtain ⟨w, rfl, r⟩ := wreps1 h
    obtain ⟨rfl, ok2⟩ := w_str r
    exact ⟨_, _, rfl, rfl, by rw [startswith_eq]; exact q.bl⟩
  | endswith =>
    refine ⟨_, fun X _ _ => mt_endswith, fun s xs p v vs H Rw O O' Q e S rv h q => ?_⟩
    unfold meP at e
    split at e <;> first | contradiction | skip
    rename_i x y _
    obtain ⟨rfl, ok⟩ := w_str rv
    cases e
    obtain ⟨w, rfl, r⟩ := wreps1 h
    obtain ⟨rfl, ok2⟩ := w_str r
    exact ⟨_, _, rfl, rfl, by rw [endswith_eq]; exact q.bl⟩
  | scount =>
    refine ⟨_, fun X _ _ => mt_count, fun s xs p v vs H Rw O O' Q e S rv h q => ?_⟩
    unfold meP at e
    split at e <;> first | contradiction | skip
    rename_i x c _
    obtain ⟨rfl, ok⟩ := w_str rv
    cases e
    obtain ⟨w, rfl, r⟩ := wreps1 h
    obtain ⟨rfl, ok2⟩ := w_str r
    exact ⟨_, _, rfl, rfl, by rw [count_one]; exact q.int⟩
  | lcount =>
    refine ⟨rCntI K, fun X hK hu => by subst hK; exact mt_lcount, fun s xs p v vs H Rw O O' Q e S rv h q => ?_⟩
    unfold meP at e
    split at e <;> first | contradiction | skip
    rename_i ys k _
    obtain ⟨ns, hn, rfl⟩ := Option.map_eq_some_iff.mp e
    obtain ⟨w, rfl, r⟩ := wreps1 h
    rw [w_int r]
    obtain ⟨a, us, rfl, ha, _, r⟩ := rv
    rw [ints_vals hn r] at ha
    exact ⟨a, ns, k, rfl, rfl, SqL.of ha, q.int⟩
  | lindex =>
    refine ⟨rIndexD K, fun X hK hu => by subst hK; exact mt_indexD hu, fun s xs p v vs H Rw O O' Q e S rv h q => ?_⟩
    unfold meP at e
    split at e <;> first | contradiction | skip
    · split at e <;> first | contradiction | skip
      rename_i hd
      simp only [Bool.and_eq_true] at hd
      obtain ⟨i, hi, rfl⟩ := Option.map_eq_some_iff.mp e
      obtain ⟨w, rfl, r⟩ := wreps1 h
      obtain ⟨h1, h2⟩ := WRep.shaped (K := K) (by decide : 60 ≤ 64) hd.1 r
      obtain ⟨h3, h4⟩ := WRep.shaped (K := K) (by decide : 61 ≤ 64) (dok_lst hd.2) rv
      obtain ⟨a, us, rfl, ha, _, r2⟩ := rv
      obtain ⟨z, k1, k2, k3⟩ := indexD_spec _ _ _ hi
      have hall := List.all_eq_true.mp hd.2
      refine ⟨a, w, _, _, i, toPD z, rfl, rfl, h3, h1, h4, h2, ?_, ?_, fun m z' hm hz => ?_, q.int⟩
      · rw [toPDs_get, k1]; rfl
      · rw [eqv_peq 60 60 _ _ (hall z (List.mem_of_getElem? k1)) hd.1]; exact k2
      · rw [toPDs_get] at hz
        obtain ⟨z2, hz2, rfl⟩ := Option.map_eq_some_iff.mp hz
        rw [eqv_peq 60 60 _ _ (hall z2 (List.mem_of_getElem? hz2)) hd.1]
        exact k3 m z2 hm hz2
end
end Ev
set_option autoImplicit false
set_option linter.all false
set_option Elab.async false
set_option maxRecDepth 100000
/-! Ev5: the state of a def, and what an expression's check means. -/
namespace Ev
open PySem PySem.Spec PyProof.Rows L2

/-! ### the row of draws -/
/-- a list that nothing writes -/
def SqF (K : PySem.W.Frag) (H : Hp) (a : Addr) (xs : List V) : Prop := (∃ o, H a = some (.frz o (.lst xs))) ∨ ∀ H', SqL K H' a xs
theorem SqF.sq {K : PySem.W.Frag} {H : Hp} {a : Addr} {xs : List V} (h : SqF K H a xs) : SqL K H a xs := h.elim (fun z => .inl (.inr z)) fun z => z H
def RowAt (K : PySem.W.Frag) (Rw : AP1) (H : Hp) (a : Addr) : Prop :=
  ∃ (sc : Addr) (i sd rs : Int) (ns : List Int), H a = some (.lst [.ref sc, .int i, .int sd, .int rs]) ∧ SqF K H sc (ns.map V.int) ∧ (Rw sc → ∀ H', SqL K H' sc (ns.map V.int)) ∧ 0 ≤ i
abbrev Rws (K : PySem.W.Frag) (Rw : AP1) (H : Hp) : Prop := ∀ a, Rw a → RowAt K Rw H a
theorem SqF.kp {K : PySem.W.Frag} {Rw : AP1} {H H' : Hp} {a : Addr} {xs : List V} (h : SqF K H a xs) (k : Kp Rw H H') (n : Rw a → ∀ H', SqL K H' a xs) : SqF K H' a xs := by
  rcases h with ⟨o, h⟩ | h
  · by_cases z : Rw a
    · exact .inr (n z)
    · exact .inl ⟨o, k _ _ h (.inl z)⟩
  · exact .inr h
theorem RowAt.kp {K : PySem.W.Frag} {Rw : AP1} {H H' : Hp} {a : Addr} (h : RowAt K Rw H a) (k : Kp Rw H H') (e : H' a = H a) : RowAt K Rw H' a := by
  obtain ⟨sc, i, sd, rs, ns, h1, h2, h3, h4⟩ := h
  exact ⟨sc, i, sd, rs, ns, e.trans h1, SqF.kp h2 k h3, h3, h4⟩
/-- a list or dict that is no row is written -/
theorem RowAt.wr {K : PySem.W.Frag} {Rw : AP1} {H : Hp} {a D : Addr} {o : HO} (h : RowAt K Rw H a) (n : a ≠ D) (hD : ∀ x y, H D ≠ some (.frz x y)) : RowAt K Rw (upd H D o) a := by
  obtain ⟨sc, i, sd, rs, ns, h1, h2, h3, h4⟩ := h
  refine ⟨sc, i, sd, rs, ns, by rw [upd_ne n]; exact h1, ?_, h3, h4⟩
  rcases h2 with ⟨q, h2⟩ | h2
  · exact .inl ⟨q, by rw [upd_ne (fun e => hD _ _ (e ▸ h2))]; exact h2⟩
  · exact .inr h2
theorem RowAt.there {K : PySem.W.Frag} {Rw : AP1} {H : Hp} {a : Addr} (h : RowAt K Rw H a) : H a ≠ none := by
  obtain ⟨sc, i, sd, rs, ns, h1, _⟩ := h
  rw [h1]; exact Option.some_ne_none _
theorem Rws.same {K : PySem.W.Frag} {Rw : AP1} {H H' : Hp} (h : Rws K Rw H) (k : Kp Rw H H') (e : ∀ a, Rw a → H' a = H a) : Rws K Rw H' := fun a r => (h a r).kp k (e a r)
theorem Kp.there {Rw : AP1} {K : PySem.W.Frag} {H H' : Hp} {a : Addr} (k : Kp Rw H H') (r : Rws K Rw H') (h : H a ≠ none) : H' a ≠ none := by
  by_cases z : Rw a
  · exact (r a z).there
  · cases e : H a with
    | none => exact absurd e h
    | some o => rw [k a o e (.inl z)]; exact Option.some_ne_none _

/-! ### the state -/
def Oo (O : AP1) (W : Nat → Option Addr) : AP1 := fun a => O a ∨ ∃ i, W i = some a
structure Rl (K : PySem.W.Frag) (H0 : Hp) (Rw O : AP1) (W : Nat → Option Addr) (s : Stt) (σ : L2.St) (H : Hp) : Prop where
  len : s.length = σ.length
  shr : ∀ (i : Nat) (v : PV), s[i]? = some (Slt.shr v) → ∃ x, σ[i]? = some (some x) ∧ Rep H Rw (Oo O W) v x
  own : ∀ (i : Nat) (v : PV), s[i]? = some (Slt.own v) → ∃ a, W i = some a ∧ σ[i]? = some (some (.ref a)) ∧ TRep H Rw (Oo O W) v a
  inj : ∀ i j a, W i = some a → W j = some a → i = j
  new : ∀ i a, W i = some a → H0 a = none
  dis : ∀ i a, W i = some a → ¬ O a
  wt : ∀ i a, W i = some a → H a ≠ none
  trk : ∀ a, O a → H a ≠ none
  ro : ∀ a, Rw a → O a
  row : Rws K Rw H
  kp : Kp Rw H0 H
section
variable {K : PySem.W.Frag} {H0 H H' : Hp} {Rw O : AP1} {W : Nat → Option Addr} {s : Stt} {σ : L2.St}
theorem Rl.sts (r : Rl K H0 Rw O W s σ H) : Sts H Rw O (Oo O W) :=
  ⟨fun a z => z.elim (r.trk a) fun ⟨i, e⟩ => r.wt i a e, fun a z => .inl (r.ro a z), fun a z => .inl z⟩
theorem Rl.step (r : Rl K H0 Rw O W s σ H) (k : Kp Rw H H') (rw' : Rws K Rw H') : Rl K H0 Rw O W s σ H' where
  len := r.len
  shr := fun i v e => let ⟨x, e1, h⟩ := r.shr i v e; ⟨x, e1, h.kp (k.mono fun a z => .inl (r.ro a z))⟩
  own := fun i v e => by
    obtain ⟨a, e1, e2, h⟩ := r.own i v e
    refine ⟨a, e1, e2, TRep.go h (k.mono fun a z => .inl (r.ro a z)) (fun _ => .inl) ?_⟩
    have n : ¬ Rw a := fun z => r.dis i a e1 (r.ro a z)
    cases q : H a with
    | none => exact absurd q (r.wt i a e1)
    | some o => exact k a o q (.inl n)
  inj := r.inj
  new := r.new
  dis := r.dis
  wt := fun i a e => k.there rw' (r.wt i a e)
  trk := fun a z => k.there rw' (r.trk a z)
  ro := r.ro
  row := rw'
  kp := r.kp.trans k
/-- one more address that others hold -/
theorem Rl.ad {D : Addr} (r : Rl K H0 Rw O W s σ H) {H1 : Hp} (k : Kp Rw H H1) (rw' : Rws K Rw H1) (hn : H D = none) (h1 : H1 D ≠ none) : Rl K H0 Rw (Ad O D) W s σ H1 := by
  have r1 := r.step k rw'
  have hO : ∀ b, Oo (Ad O D) W b → Oo O W b ∨ H b = none := fun b z => by
    rcases z with (z | z) | z
    · exact .inl (.inl z)
    · exact .inr (by rw [z]; exact hn)
    · exact .inl (.inr z)
  have hk : Kp (Oo O W) H H1 := k.mono fun a z => .inl (r.ro a z)
  refine ⟨r.len, fun i v e => ?_, fun i v e => ?_, r.inj, r.new, fun i a e z => ?_, r1.wt, fun a z => ?_, fun a z => .inl (r.ro a z), rw', r1.kp⟩
  · obtain ⟨x, e1, h⟩ := r.shr i v e
    exact ⟨x, e1, Rep.go hk hO _ _ h⟩
  · obtain ⟨a, e1, e2, h⟩ := r.own i v e
    refine ⟨a, e1, e2, TRep.go h hk hO ?_⟩
    have n : ¬ Rw a := fun z => r.dis i a e1 (r.ro a z)
    cases q : H a with
    | none => exact absurd q (r.wt i a e1)
    | some o => exact k a o q (.inl n)
  · rcases z with z | z
    · exact r.dis i a e z
    · exact r.wt i a e (by rw [z]; exact hn)
  · rcases z with z | z
    · exact r1.trk a z
    · rw [z]; exact h1
theorem WRep.stp {O' : AP1} {p : PV} {v : V} (h : WRep H Rw O O' p v) (k : Kp Rw H H') (ro : ∀ a, Rw a → O a) (oo : ∀ a, O a → O' a) : WRep H' Rw O O' p v :=
  h.kp (k.mono fun a z => oo a (ro a z)) fun a o e _ _ n => k a o e (.inl fun z => n (ro a z))
/-- from a rule's answer to what is wanted of the whole -/
theorem Rl.ans (r : Rl K H0 Rw O W s σ H) {H2 : Hp} (k : Kp Rw H H2) (r2 : Rl K H0 Rw O W s σ H2) {p : PV} {f : FL} {Q : VK}
    (h : ∀ v H', Kp Rw H H' → Rws K Rw H' → FRep f H H' Rw O (Oo O W) p v → Q v H') : Ans H2 Rw O (Oo O W) p Q := fun v' H' k' e q => by
  refine h v' H' (k.trans k') (r2.row.same k' e) (FRep.any f ?_ fun a z => .inl z)
  have back : ∀ a, H2 a = none → H a = none := fun a e1 => by
    cases q1 : H a with
    | none => rfl
    | some o => exact absurd e1 (k.there r2.row (by rw [q1]; exact Option.some_ne_none _))
  cases p with
  | lst xs => obtain ⟨a, e1, e2, n, t⟩ := q; exact ⟨a, e1, back a e2, n, t⟩
  | dic xs => obtain ⟨a, e1, e2, n, t⟩ := q; exact ⟨a, e1, back a e2, n, t⟩
  | non => exact q
  | bl b => exact q
  | int b => exact q
  | str b => exact q
  | tup b => exact q
  | row => exact q
  | obj C z0 fs => exact q
/-- .. where a value that was there is handed on -/
theorem FRep.back {f : FL} {H1 H2 : Hp} {O' : AP1} {p : PV} {v : V} (h : FRep f H1 H2 Rw O O' p v) (b : ∀ a, H1 a = none → H a = none) : FRep f H H2 Rw O O' p v := by
  cases f with
  | raw => exact h
  | cln => exact h
  | frs =>
    cases p with
    | lst xs => obtain ⟨a, e1, e2, n, t⟩ := h; exact ⟨a, e1, b a e2, n, t⟩
    | dic xs => obtain ⟨a, e1, e2, n, t⟩ := h; exact ⟨a, e1, b a e2, n, t⟩
    | non => exact h
    | bl b => exact h
    | int b => exact h
    | str b => exact h
    | tup b => exact h
    | row => exact h
    | obj C z0 fs => exact h
theorem Kp.back {H2 : Hp} (k : Kp Rw H H2) (r2 : Rws K Rw H2) : ∀ a, H2 a = none → H a = none := fun a e1 => by
  cases q1 : H a with
  | none => rfl
  | some o => exact absurd e1 (k.there r2 (by rw [q1]; exact Option.some_ne_none _))
end

/-! ### what a check leans on -/
/-- names by slots, the scope, the module's defs (name, number, parameters), its constants (name, number) -/
structure Cc where
  N : List Str
  sc : Scope
  fn : List (Str × Nat × Nat)
  gc : List (Str × Nat)
  /-- the class: its name, its number, the number of its making -/
  tw : Option (Str × Nat × Nat) := none
  /-- its methods -/
  mt : List (Str × Nat × Nat) := []
/-- of what kind an answer is (nw: whether the def returns a new list or dict) -/
def flJ : FL → FL → FL
  | .raw, _ => .raw
  | _, .raw => .raw
  | .frs, .frs => .frs
  | _, _ => .cln
def fl (nw : Nat → Bool) : CE → FL
  | .var _ => .cln
  | .bor _ => .raw
  | .idx _ _ => .cln
  | .attr _ _ _ => .cln
  | .mcall _ _ _ _ => .cln
  | .call f es => if anyRaw es then .cln else if nw f then .frs else .cln
  | .ifx _ a b => flJ (fl nw a) (fl nw b)
  | .and a b => flJ (fl nw a) (fl nw b)
  | .or a b => flJ (fl nw a) (fl nw b)
  | _ => .frs
theorem FRep.join {f g : FL} {H0 H : Hp} {Rw O O' : AP1} {p : PV} {v : V} (s : ∀ a, O a → O' a) : (FRep f H0 H Rw O O' p v → FRep (flJ f g) H0 H Rw O O' p v) ∧ (FRep g H0 H Rw O O' p v → FRep (flJ f g) H0 H Rw O O' p v) := by
  cases f <;> cases g <;> refine ⟨fun h => ?_, fun h => ?_⟩ <;> first | exact h | exact FRep.raw h s | exact FRep.cln h
theorem fl_raw (nw : Nat → Bool) : ∀ e : CE, isRaw e = false → fl nw e ≠ .raw
  | .bor _, h => by simp [isRaw] at h
  | .ifx _ a b, h => by
    simp only [isRaw, Bool.or_eq_false_iff] at h
    have h1 := fl_raw nw a h.1
    have h2 := fl_raw nw b h.2
    simp only [fl]
    cases e1 : fl nw a <;> cases e2 : fl nw b <;> simp_all [flJ]
  | .and a b, h => by
    simp only [isRaw, Bool.or_eq_false_iff] at h
    have h1 := fl_raw nw a h.1
    have h2 := fl_raw nw b h.2
    simp only [fl]
    cases e1 : fl nw a <;> cases e2 : fl nw b <;> simp_all [flJ]
  | .or a b, h => by
    simp only [isRaw, Bool.or_eq_false_iff] at h
    have h1 := fl_raw nw a h.1
    have h2 := fl_raw nw b h.2
    simp only [fl]
    cases e1 : fl nw a <;> cases e2 : fl nw b <;> simp_all [flJ]
  | .call f es, _ => by simp only [fl]; split <;> (try split) <;> simp
  | .var _, _ => by simp [fl]
  | .con _, _ => by simp [fl]
  | .glo _, _ => by simp [fl]
  | .bin _ _ _, _ => by simp [fl]
  | .neg _, _ => by simp [fl]
  | .not _, _ => by simp [fl]
  | .cmp _ _ _, _ => by simp [fl]
  | .cmp2 _ _ _ _ _, _ => by simp [fl]
  | .tup _, _ => by simp [fl]
  | .lst _, _ => by simp [fl]
  | .dic0, _ => by simp [fl]
  | .idx _ _, _ => by simp [fl]
  | .cut _ _ _, _ => by simp [fl]
  | .nop, _ => by simp [fl]
  | .rev _, _ => by simp [fl]
  | .bi _ _, _ => by simp [fl]
  | .me _ _ _, _ => by simp [fl]
  | .draw _ _, _ => by simp [fl]
  | .comp _ _ _ _, _ => by simp [fl]
  | .lrng _, _ => by simp [fl]
  | .attr _ _ _, _ => by simp [fl]
  | .twr _ _ _, _ => by simp [fl]
  | .mcall _ _ _ _, _ => by simp [fl]
theorem FRep.clean {f : FL} {H0 H : Hp} {Rw O O' : AP1} {p : PV} {v : V} (h : FRep f H0 H Rw O O' p v) (n : f ≠ .raw) : Rep H Rw O' p v := by
  cases f with
  | raw => exact absurd rfl n
  | cln => exact h
  | frs => exact FRep.cln h

/-- the promise of a def: g what it computes -/
def spF (K : PySem.W.Frag) (nw : Bool) (np : Nat) (g : List PV → Res PV) : Sp := fun vs H Q _ =>
  vs.length = np ∧ ∃ (O Rw : AP1) (xs : List PV), (∀ a, O a → H a ≠ none) ∧ (∀ a, Rw a → O a) ∧ Rws K Rw H ∧ Reps H Rw O xs vs ∧
    (g xs).wp (fun p => ∀ v H', Kp Rw H H' → Rws K Rw H' → FRep (if nw then .frs else .cln) H H' Rw O O p v → Q v H') (fun _ => False)
/-- all that is fixed while a law is proved, at a level: what the defs of the level below compute is cl -/
structure Md where
  P : Program
  w : World
  K : PySem.W.Frag
  mg : Str → Option Value
  base : Heap
  gl : Nat → Option PV
  cl : Nat → List PV → Res PV
  nw : Nat → Bool
  lv : Nat
/-- the promise of a class's __init__, of one argument: g what is made -/
def spI (K : PySem.W.Frag) (C : Addr) (g : List PV → Res PV) : Sp := fun vs H Q _ => ∃ (x dx : Addr) (v : V) (p : PV) (O Rw : AP1), vs = [.ref x, v] ∧ H x = some (.ins C dx []) ∧ ¬ O x ∧ (∀ a, O a → H a ≠ none) ∧ (∀ a, Rw a → O a) ∧ Rws K Rw H ∧ Rep H Rw (Ad O x) p v ∧
  (g [p]).wp (fun q => ∀ H', Kp (fun a => Rw a ∨ a = x) H H' → Rws K Rw H' → Rep H' Rw O q (.ref x) → Q .non H') (fun _ => False)
/-- the promise of the def that draws -/
def spTk (K : PySem.W.Frag) : Sp := fun vs H Q _ => ∃ (a : Addr) (m : Int) (Rw : AP1), vs = [.ref a, .int m] ∧ 0 < m ∧ m < 1073741824 ∧ Rw a ∧ Rws K Rw H ∧ ∀ (i : Nat) H', (i : Int) < m → Kp Rw H H' → Rws K Rw H' → Q (.int i) H'
structure XOk (m : Md) (c : Cc) (X : Cx) : Prop where
  prog : X.prog = m.P
  w : X.w = m.w
  K : X.K = m.K
  mg : X.mg = m.mg
  base : X.base = m.base
  N : X.N = c.N
  sc : X.env.scope = c.sc
  nd : c.N.Nodup
  calm : X.calm = true
  room : Room m.lv X.A
/-- the module as the check takes it -/
structure MOk (m : Md) (c : Cc) : Prop where
  fn : ∀ x f n, (x, f, n) ∈ c.fn → ∃ (a : Addr) (fd : FuncData) (ps : List Str), m.mg x = some (.ref a) ∧ PySem.W.keepIn m.K (.ref a) = true ∧ Binds m.K fd ps [] ∧ FnOk m.P m.w m.K m.mg m.base CX0 m.lv a fd ps (spF m.K (m.nw f) n (m.cl f))
  tk : ∃ (a : Addr) (fd : FuncData) (ps : List Str), m.mg "_law_taken" = some (.ref a) ∧ PySem.W.keepIn m.K (.ref a) = true ∧ Binds m.K fd ps [] ∧ FnOk m.P m.w m.K m.mg m.base CX0 m.lv a fd ps (spTk m.K)
  tw : ∀ x g f, c.tw = some (x, g, f) → ∃ C : Addr, m.gl g = some (.int (C : Nat)) ∧ m.mg x = some (.ref C) ∧ Cls m.K C ∧ (∀ n ∈ tNames, NoAttr m.K C n) ∧ m.nw f = false ∧
    (∀ y k n, (y, k, n) ∈ c.mt → ∃ (a : Addr) (fd : FuncData) (ps : List Str), Meth m.K C y a ∧ tNames.contains y = false ∧ Binds m.K fd ps [] ∧ FnOk m.P m.w m.K m.mg m.base CX0 m.lv a fd ps (spF m.K (m.nw k) n (m.cl k))) ∧
    ∃ (a : Addr) (fd : FuncData) (ps : List Str) (k : Nat), Mk m.K C a ∧ Binds m.K fd ps [] ∧ k + 1 ≤ m.lv ∧ FnOk m.P m.w m.K m.mg m.base CX0 k a fd ps (spI m.K C (m.cl f))
  gc : ∀ x g, (x, g) ∈ c.gc → ∃ (p : PV) (u : Value) (v : V), m.gl g = some p ∧ m.mg x = some u ∧ RelV v u ∧ ∀ (H : Hp) (Rw O : AP1), Rep H Rw O p v ∧ ∀ H0, FRep .frs H0 H Rw O O p v
  bi : ∀ x ∈ ["len", "sum", "all", "any", "min", "max", "sorted", "isinstance", "range", "enumerate", "zip", "int", "bool", "str", "tuple", "list", "dict", "set"], m.mg (Str.ofString x) = none
/-- what is wanted behind an expression -/
abbrev EQ (m : Md) (f : FL) (H : Hp) (Rw O : AP1) (W : Nat → Option Addr) (Q : VK) : PV → Prop := fun p => ∀ v H', Kp Rw H H' → Rws m.K Rw H' → FRep f H H' Rw O (Oo O W) p v → Q v H'
abbrev No : PV → Prop := fun _ => False
/-- an expression does what the compact one says -/
def SE (m : Md) (c : Cc) (ce : CE) (e : Expr) : Prop := ∃ t : TE, (∀ X, XOk m c X → PE X e t) ∧
  ∀ (H0 : Hp) (Rw O : AP1) (W : Nat → Option Addr) (s : Stt) (σ : L2.St) (H : Hp) (Q : VK), Rl m.K H0 Rw O W s σ H →
    (evE m.gl m.cl s ce).wp (EQ m (fl m.nw ce) H Rw O W Q) No → t σ H Q
/-- .. as a test -/
def ST (m : Md) (c : Cc) (ce : CE) (e : Expr) : Prop := ∃ t : TT, (∀ X, XOk m c X → PT X e t) ∧
  ∀ (H0 : Hp) (Rw O : AP1) (W : Nat → Option Addr) (s : Stt) (σ : L2.St) (H : Hp) (Q : Bool → Hp → Prop), Rl m.K H0 Rw O W s σ H →
    (evE m.gl m.cl s ce >>= fun x => Res.ofO (truthP x)).wp (fun b => ∀ H', Kp Rw H H' → Rws m.K Rw H' → Q b H') No → t σ H Q
/-- arguments, from the left -/
def SEs (m : Md) (c : Cc) (ces : CEs) (es : List Expr) : Prop := ∃ t : TA, (∀ X, XOk m c X → PA X es t) ∧
  ∀ (H0 : Hp) (Rw O : AP1) (W : Nat → Option Addr) (s : Stt) (σ : L2.St) (H : Hp) (Q : List V → Hp → Prop), Rl m.K H0 Rw O W s σ H →
    (evEs m.gl m.cl s ces).wp (fun ps => ∀ vs H', Kp Rw H H' → Rws m.K Rw H' → Wreps H' Rw O (Oo O W) ps vs → (anyRaw ces = false → Reps H' Rw (Oo O W) ps vs) → Q vs H') No → t σ H Q
end Ev
set_option autoImplicit false
set_option linter.all false
set_option Elab.async false
set_option maxRecDepth 100000
/-! Ev5b: enumerate and zip over lists, tuples and texts of any kind. -/
namespace Ev
open PySem PySem.Spec PyProof.Rows L2
/-- what is walked: a list, a tuple, a text -/
inductive IK where
  | l (a : Addr)
  | t (a : Addr)
  | s (x : Str) (t : Tok)
def IK.v : IK → V
  | .l a => .ref a
  | .t a => .ref a
  | .s x _ => .str x
def IK.u : IK → Value
  | .l a => .ref a
  | .t a => .ref a
  | .s x tk => .str x tk
/-- its items as the heap stands -/
def IK.its (H : Hp) (ys : List V) : IK → Prop
  | .l a => H a = some (.lst ys)
  | .t a => H a = some (.tup ys)
  | .s x _ => ys = x.cps.toList.map fun c => V.str ⟨#[c]⟩
def IK.st (it : Addr) (i : Nat) (h : Heap) : IK → Prop
  | .l a => h.IsListIter it a i
  | .t a => h.IsTupleIter it a i
  | .s x tk => h.IsStrIter it (strIterType x) x tk i
def IK.ob : IK → Obj
  | .l a => { cls := .type "list_iterator", data := .fields #[.ref a, .int 0 0] }
  | .t a => { cls := .type "tuple_iterator", data := .fields #[.ref a, .int 0 0] }
  | .s x tk => { cls := .type (strIterType x), data := .fields #[.str x tk, .int 0 0] }
theorem IK.st_obj {k : IK} {it : Addr} {i : Nat} {h : Heap} (st : k.st it i h) : ∃ o, h.get? it = some o ∧ ∀ v, o.data ≠ .cell v := by
  cases k with
  | l a => obtain ⟨o, e, _, d⟩ := st; exact ⟨o, e, fun v z => by rw [d] at z; cases z⟩
  | t a => obtain ⟨o, e, _, d⟩ := st; exact ⟨o, e, fun v z => by rw [d] at z; cases z⟩
  | s x t => obtain ⟨o, e, _, d⟩ := st; exact ⟨o, e, fun v z => by rw [d] at z; cases z⟩
theorem IK.st_keep {k : IK} {it : Addr} {i : Nat} {h h' : Heap} (st : k.st it i h) (kp : ∀ o, h.get? it = some o → h'.get? it = some o) : k.st it i h' := by
  cases k with
  | l a => exact Heap.IsListIter.at st fun o q => kp o q
  | t a => obtain ⟨o, e, r⟩ := st; exact ⟨o, kp o e, r⟩
  | s x t => obtain ⟨o, e, r⟩ := st; exact ⟨o, kp o e, r⟩
theorem IK.st0 {k : IK} {it : Addr} {h : Heap} (e : h.get? it = some k.ob) : k.st it 0 h := by
  cases k with
  | l a => exact ⟨_, e, rfl, rfl⟩
  | t a => exact ⟨_, e, rfl, rfl⟩
  | s x t => exact ⟨_, e, rfl, rfl⟩
section
variable {X : Cx} {pins : List (Addr × Obj)} {σ : L2.St} {H : Hp} {s : Shared}
/-- what such an iterator draws, at a state -/
theorem IK.draws (I : L2.Inv X pins σ H s) (hc : X.calm = true) {k : IK} {it : Addr} {ys : List V} {i : Nat} (hk : k.its H ys) (st : k.st it i s.heap) (hit : H it = none) :
    ∃ (fp : List Addr) (n : Nat) (P : Nat → Value → Prop) (St : Nat → Heap → Prop), Draws X.prog X.w X.A.in1 it fp n P St ∧ St i s.heap ∧ it ∈ fp ∧ n = ys.length ∧ (∀ j v, P j v → ∃ y, ys[j]? = some y ∧ RelV y v) ∧ (∀ j h, St j h → k.st it j h) ∧
      ∀ b ∈ fp, b = it ∨ H b ≠ none := by
  have hh : X.A.in1.handled = none := I.ok.hd hc
  cases k with
  | l a =>
    have hk' : H a = some (.lst ys) := hk
    obtain ⟨its, rv, p, hz⟩ := I.list (SqL.of hk')
    have hne : a ≠ it := fun e => by rw [e, hit] at hk'; cases hk'
    refine ⟨_, _, _, _, Draws.list hh it a hne its.toArray, ⟨st, p.isList⟩, by simp, by rw [List.size_toArray]; exact rv.length.symm, fun j v e => ?_, fun j h q => q.1, fun b hb => ?_⟩
    · have e' : its[j]? = some v := by simpa using e
      obtain ⟨hj, ej⟩ := List.getElem?_eq_some_iff.mp e'
      have hl := rv.length
      have hy : ys[j]? = some ys[j] := List.getElem?_eq_getElem (by omega)
      obtain ⟨u, hu, ru⟩ := rv.get hy
      rw [e'] at hu
      cases hu
      exact ⟨_, hy, ru⟩
    · have e : b = it ∨ b = a := by simpa using hb
      rcases e with z | z
      · exact .inl z
      · exact .inr (by rw [z, hk']; exact Option.some_ne_none _)
  | t a =>
    have hk' : H a = some (.tup ys) := hk
    obtain ⟨its, rv, p, hz⟩ := I.tuple (SqT.of hk')
    have hne : a ≠ it := fun e => by rw [e, hit] at hk'; cases hk'
    refine ⟨_, _, _, _, Draws.tuple hh it a hne its.toArray, ⟨st, p⟩, by simp, by rw [List.size_toArray]; exact rv.length.symm, fun j v e => ?_, fun j h q => q.1, fun b hb => ?_⟩
    · have e' : its[j]? = some v := by simpa using e
      obtain ⟨hj, ej⟩ := List.getElem?_eq_some_iff.mp e'
      have hl := rv.length
      have hy : ys[j]? = some ys[j] := List.getElem?_eq_getElem (by omega)
      obtain ⟨u, hu, ru⟩ := rv.get hy
      rw [e'] at hu
      cases hu
      exact ⟨_, hy, ru⟩
    · have e : b = it ∨ b = a := by simpa using hb
      rcases e with z | z
      · exact .inl z
      · exact .inr (by rw [z, hk']; exact Option.some_ne_none _)
  | s x t =>
    have hk' : ys = x.cps.toList.map fun c => V.str ⟨#[c]⟩ := hk
    refine ⟨_, _, _, _, Draws.text hh it x t, st, by simp, by rw [hk']; simp, fun j v e => ?_, fun j h q => q, fun b hb => .inl (by simpa using hb)⟩
    obtain ⟨c, u, hx, rfl⟩ := e
    refine ⟨.str ⟨#[c]⟩, ?_, ⟨u, rfl⟩⟩
    rw [hk', List.getElem?_map]
    have : x.cps.toList[j]? = some c := by simpa using hx
    rw [this]; rfl
theorem IK.begins (I : L2.Inv X pins σ H s) {k : IK} {ys : List V} (hk : k.its H ys) : ∃ Hh : Heap → Prop, Begins k.u k.ob Hh ∧ Hh s.heap := by
  cases k with
  | l a =>
    have hk' : H a = some (.lst ys) := hk
    obtain ⟨its, rv, p, hz⟩ := I.list (SqL.of hk')
    exact ⟨_, begins_list a its.toArray, p.isList⟩
  | t a =>
    have hk' : H a = some (.tup ys) := hk
    obtain ⟨its, rv, p, hz⟩ := I.tuple (SqT.of hk')
    exact ⟨_, begins_tuple a its.toArray, p⟩
  | s x t => exact ⟨_, begins_text x t, trivial⟩
theorem IK.uniq {k : IK} {ys zs : List V} (h : k.its H ys) (h' : k.its H zs) : ys = zs := by
  cases k with
  | l a => have e : H a = some (.lst ys) := h; have e' : H a = some (.lst zs) := h'; rw [e] at e'; cases e'; rfl
  | t a => have e : H a = some (.tup ys) := h; have e' : H a = some (.tup zs) := h'; rw [e] at e'; cases e'; rfl
  | s x t => have e : ys = _ := h; have e' : zs = _ := h'; rw [e, e']
end

/-! ### enumerate -/
def ItE (k : IK) : It :=
  ⟨fun i H => ∃ (xs : List V) (x : V), k.its H xs ∧ xs[i]? = some x, fun i H v H' => ∃ T x, v = .ref T ∧ H T = none ∧ H' = upd H T (.tup [.int (i : Nat), x]) ∧ ∀ xs, k.its H xs → xs[i]? = some x,
    fun i H => ∃ xs : List V, k.its H xs ∧ xs.length = i⟩
theorem turn_enumG {P : Program} {w : World} {K : PySem.W.Frag} {elts : List Expr} {kk : Nat} {tpos : Pos} (k : IK) (e it : Addr) :
    Turn P w K (.Tuple elts kk tpos) (ItE k) [e, it] e (fun i h => (∃ old, IsEnum h e it ((i : Nat) : Int) old) ∧ k.st it i h ∧ e ≠ it) where
  mem := by simp
  obj := fun i h st b hb => by
    obtain ⟨⟨old, he⟩, hi, _⟩ := st
    have e' : b = e ∨ b = it := by simpa using hb
    rcases e' with z | z
    · rw [z]; exact ⟨_, he, fun v q => nomatch q⟩
    · rw [z]; exact IK.st_obj hi
  keep := fun i h h' st kp => let ⟨⟨old, he⟩, hi, hne⟩ := st; ⟨⟨old, kp e (by simp) _ he⟩, IK.st_keep hi fun o q => kp it (by simp) o q, hne⟩
  item := by
    intro X hP hw hK hc i pins s σ H E I hf st hg
    subst hP hw hK
    obtain ⟨⟨old, he⟩, hit, hne⟩ := st
    obtain ⟨xs, x, hq, hx⟩ := hg
    have hel : e < s.heap.objs.size := Heap.lt_size he
    have hil : it < s.heap.objs.size := by obtain ⟨_, q, _⟩ := IK.st_obj hit; exact Heap.lt_size q
    obtain ⟨fp, n, Pp, St, D, hSt, hm, hn, hP, hS, hfp⟩ := IK.draws I hc hq hit (hf it (by simp)).1
    have hef : e ∉ fp := fun z => by
      rcases hfp e z with q | q
      · exact hne q
      · exact q (hf e (by simp)).1
    have hi : i < n := by rw [hn]; exact (List.getElem?_eq_some_iff.mp hx).1
    refine wpAny_pyNext_enum_itemC D he hSt hi hne hef fun u h' tk hu ho hit' hT hsz hk => ?_
    obtain ⟨y, hy, ru⟩ := hP i u hu
    rw [hx] at hy
    cases hy
    refine ⟨_, rfl, wpAny_letOwnedTupleGo_enum (s := { s with heap := h', toks := tk + 1 }) ho fun h'' he' sb => ?_⟩
    have hT2 : h''.get? s.heap.objs.size = some { cls := .type "tuple", data := .seq #[.int i tk, u] } := (sb.2 _ (Nat.ne_of_gt hel)).trans hT
    have new : ObjOk X.prog X.w (upd H s.heap.objs.size (.tup [.int (i : Nat), x])) h'' s.heap.objs.size (.tup [.int (i : Nat), x]) :=
      ⟨by show 2 ≤ sizeLine; decide, [.int i tk, u], .cons ⟨_, rfl⟩ (.cons ru .nil), ⟨_, hT2, rfl, _, rfl⟩⟩
    have I1 : L2.Inv X pins σ (upd H s.heap.objs.size (.tup [.int (i : Nat), x])) { s with heap := h'', toks := tk + 1 } :=
      I.turnedNew (ch := [e, it]) (fun b ob hb q => (sb.2 b (fun z => hb (by simp [z]))).trans (hk b ob (fun z => hb (by simp [z])) (fun z => hb (by simp [z])) q)) hf (Nat.le_refl _) new
    refine ⟨.ref s.heap.objs.size, _, I1, rfl, ⟨_, x, rfl, I.hok.fresh (Nat.le_refl _), rfl, fun ys hy => by rw [IK.uniq hy hq]; exact hx⟩, ⟨⟨u, ?_⟩, IK.st_keep (hS _ _ hit') fun o q => (sb.2 it (Ne.symm hne)).trans q, hne⟩, fun b hb => ?_⟩
    · have e1 : ((i + 1 : Nat) : Int) = (i : Int) + 1 := by omega
      rw [e1]; exact he'
    · have hb' : b < s.heap.objs.size := by
        have e' : b = e ∨ b = it := by simpa using hb
        rcases e' with z | z
        · rw [z]; exact hel
        · rw [z]; exact hil
      rw [upd_ne (Nat.ne_of_lt hb')]
      exact (hf b hb).1
  done := by
    intro X hP hw hK hc i pins s σ H E I hf st hg
    subst hP hw hK
    obtain ⟨⟨old, he⟩, hit, hne⟩ := st
    obtain ⟨xs, hq, hx⟩ := hg
    obtain ⟨f0, f1, f2, f3, f4, f5⟩ := hf it (by simp)
    obtain ⟨fp, n, Pp, St, D, hSt, hm, hn, hP, hS, hfp⟩ := IK.draws I hc hq hit f0
    have hi : i = n := by rw [hn]; exact hx.symm
    subst hi
    exact wpAny_pyNext_enum_endD D he hSt fun h' eb => ⟨rfl, I.turned (t' := s.toks) (fun b o hb q => eb b o hb q) f0 f1 f3 f4 f5⟩
  self := fun A i s Q E st h => let ⟨⟨_, he⟩, _⟩ := st; wpAny_pyIter_enum he h
theorem meets_enumerate_new1 {v : Value} {o : Obj} {Hh : Heap → Prop} (B : Begins v o Hh) :
    Meets (Builtin.«enumerate.__new__» ⟨[.type "enumerate", v], []⟩) (fun _ R s => Hh s.heap ∧
      R (.ok (.ret (.ref (s.heap.push o).objs.size))) { s with heap := (s.heap.push o).push { cls := .type "enumerate", data := .fields #[.none, .bool false, .ref s.heap.objs.size, rawInt 0, .none, .none] } }) :=
  .of_wp fun prog w A R s h => by
    obtain ⟨hp, g, d, tk, os⟩ := s; obtain ⟨h1, h⟩ := h
    have hsub := sub_enumerate
    have q1 : ∀ {A' : Around} {E : Value → Shared → Prop} {Q : Value → Shared → Prop}, Q (.ref hp.objs.size) ⟨hp.push o, g, d, tk, os⟩ → wpAny (model prog w) A' (pyIter v) Q E ⟨hp, g, d, tk, os⟩ :=
      fun q => B.iter prog w _ _ ⟨hp, g, d, tk, os⟩ _ h1 q
    wp_walk using q1
    refine wpAny_stack_any fun st => wpAny_pure ?_
    split
    · rename_i c _ _ _ _ _
      cases (c == Value.type "enumerate")
      · wp_walk using q1
        exact ⟨_, rfl, h⟩
      · wp_walk using q1
        exact ⟨_, rfl, h⟩
    · wp_walk using q1
      exact ⟨_, rfl, h⟩
theorem enum_begins1 {prog : Program} {w : World} {A : Around} {E : Value → Shared → Prop} {s : Shared} {v : Value} {o : Obj} {Hh : Heap → Prop} {Q : Value → Shared → Prop} (B : Begins v o Hh) (h1 : Hh s.heap)
    (h : ∀ h', IsEnum h' (s.heap.objs.size + 1) s.heap.objs.size 0 .none → h'.get? s.heap.objs.size = some o → h'.objs.size = s.heap.objs.size + 2 →
      (∀ b o, s.heap.get? b = some o → h'.get? b = some o) → Q (.ref (s.heap.objs.size + 1)) { s with heap := h' }) :
    wpAny (model prog w) A (call (.type "enumerate") [v]) Q E s := by
  refine callType_new F.called_enumerate (by decide) (F.typeCall_enumerate_1 _) (F.newCall_enumerate_1 _) (fun obj => F.args_object_init_2 obj _) F.entry_enumerate_new
    (meets_enumerate_new1 B) ⟨h1, ?_⟩
  have hz : (s.heap.push o).objs.size = s.heap.objs.size + 1 := Heap.size_push ..
  show _ ∧ _
  rw [hz]
  have he : IsEnum ((s.heap.push o).push { cls := .type "enumerate", data := .fields #[.none, .bool false, .ref s.heap.objs.size, rawInt 0, .none, .none] }) (s.heap.objs.size + 1) s.heap.objs.size 0 .none := by
    have := Heap.get?_push_size (s.heap.push o) (o := { cls := .type "enumerate", data := .fields #[.none, .bool false, .ref s.heap.objs.size, rawInt 0, .none, .none] }) rfl
    rw [hz] at this; exact this
  refine ⟨⟨_, he, rfl⟩, h _ he (Heap.get?_push_of_some _ (Heap.get?_push_size _ B.free)) (by rw [Heap.size_push, hz]) fun b o x => Heap.get?_push_of_some _ (Heap.get?_push_of_some _ x)⟩
/-- the kinds of a value -/
def kindOf (H : Hp) (v : V) (ys : List V) (R : IK → Prop) : Prop :=
  (∃ a, v = .ref a ∧ H a = some (.lst ys) ∧ R (.l a)) ∨ (∃ a, v = .ref a ∧ H a = some (.tup ys) ∧ R (.t a)) ∨ ∃ z : Str, v = .str z ∧ ys = z.cps.toList.map (fun c => V.str ⟨#[c]⟩) ∧ ∀ tk, R (.s z tk)
theorem kindOf.get {H : Hp} {v : V} {ys : List V} {R : IK → Prop} {u : Value} (h : kindOf H v ys R) (r : RelV v u) : ∃ k : IK, k.u = u ∧ k.its H ys ∧ R k := by
  rcases h with ⟨a, rfl, ha, h⟩ | ⟨a, rfl, ha, h⟩ | ⟨z, rfl, hz, h⟩
  · cases r; exact ⟨.l a, rfl, ha, h⟩
  · cases r; exact ⟨.t a, rfl, ha, h⟩
  · obtain ⟨t, rfl⟩ := r; exact ⟨.s z t, rfl, hz, h t⟩
def iEnumG (ta : TA) : TI := fun σ H R => ta σ H fun vs H1 => ∃ v ys, vs = [v] ∧ kindOf H1 v ys fun k => R (ItE k) H1
theorem pi_enumG {X : Cx} {e : Expr} {ta : TA} {p pos tpos : Pos} {elts : List Expr} {kk : Nat} (hg : Gl X "enumerate") (hm : X.mg "enumerate" = none) (ha : PA X [e] ta) (hs : starEach [e] X.env = [(false, eval e X.env)]) :
    PI X (.Tuple elts kk tpos) (.Call (.Name "enumerate" p) [e] [] pos) (iEnumG ta) := by
  refine ⟨fun pins s σ H R I h => ?_⟩
  refine Call_ (ld_blt I hg hm boot_enumerate (PyProof.Rows.callWith_type1 (thn (ha.run pos pins s σ H _ I h) fun us s1 ⟨vs, H1, I1, r1, q1⟩ => ?_) hs rfl))
  obtain ⟨v, ys, ex, hq⟩ := q1
  subst ex
  cases r1 with
  | cons r rr =>
    cases rr
    obtain ⟨k, hu, hk, q⟩ := hq.get r
    obtain ⟨Hh, B, hh⟩ := IK.begins I1 hk
    rw [hu] at B
    refine enum_begins1 B hh fun h' he hit hsz hk' => wpAny_pyIter_enum he ?_
    have I2 : L2.Inv X pins σ H1 { s1 with heap := h' } := I1.kept (t' := s1.toks) hk'
    refine ⟨s1.heap.objs.size + 1, [s1.heap.objs.size + 1, s1.heap.objs.size], _, _, H1, rfl, I2, turn_enumG k (s1.heap.objs.size + 1) s1.heap.objs.size, ⟨⟨.none, he⟩, IK.st0 hit, Nat.succ_ne_self _⟩, fun b hb => ?_, q⟩
    have e' : b = s1.heap.objs.size + 1 ∨ b = s1.heap.objs.size := by simpa using hb
    have hle : s1.heap.objs.size ≤ b := by
      rcases e' with z | z
      · rw [z]; exact Nat.le_add_right _ _
      · rw [z]; exact Nat.le_refl _
    exact I1.fpOk hle (I1.hok.fresh hle)

/-! ### zip -/
def ItZ (k1 k2 : IK) : It :=
  ⟨fun i H => ∃ (xs ys : List V) (x y : V), k1.its H xs ∧ k2.its H ys ∧ xs[i]? = some x ∧ ys[i]? = some y,
    fun i H v H' => ∃ T x y, v = .ref T ∧ H T = none ∧ H' = upd H T (.tup [x, y]) ∧ (∀ xs, k1.its H xs → xs[i]? = some x) ∧ ∀ ys, k2.its H ys → ys[i]? = some y,
    fun i H => ∃ xs ys : List V, k1.its H xs ∧ k2.its H ys ∧ i ≤ xs.length ∧ i ≤ ys.length ∧ (i = xs.length ∨ i = ys.length)⟩
/-- the cells of a zip lie apart -/
structure ZAp (z TI TO i1 i2 : Addr) : Prop where
  TIz : TI ≠ z
  TOz : TO ≠ z
  TITO : TI ≠ TO
  TIi1 : TI ≠ i1
  TIi2 : TI ≠ i2
  zi1 : z ≠ i1
  zi2 : z ≠ i2
  Ti1 : TO ≠ i1
  Ti2 : TO ≠ i2
  i12 : i1 ≠ i2
theorem zap (n : Nat) : ZAp (n + 4) (n + 2) (n + 3) n (n + 1) :=
  ⟨Nat.ne_of_lt (Nat.add_lt_add_left (by decide) n), Nat.ne_of_lt (Nat.add_lt_add_left (by decide) n), Nat.ne_of_lt (Nat.add_lt_add_left (by decide) n), Nat.ne_of_gt (Nat.lt_add_of_pos_right (by decide)), Nat.ne_of_gt (Nat.add_lt_add_left (by decide) n),
    Nat.ne_of_gt (Nat.lt_add_of_pos_right (by decide)), Nat.ne_of_gt (Nat.add_lt_add_left (by decide) n), Nat.ne_of_gt (Nat.lt_add_of_pos_right (by decide)), Nat.ne_of_gt (Nat.add_lt_add_left (by decide) n), Nat.ne_of_lt (Nat.lt_add_of_pos_right (by decide))⟩
theorem turn_zipG {P : Program} {w : World} {K : PySem.W.Frag} {elts : List Expr} {kk : Nat} {tpos : Pos} (k1 k2 : IK) {z TI TO i1 i2 : Addr} (D : ZAp z TI TO i1 i2) :
    Turn P w K (.Tuple elts kk tpos) (ItZ k1 k2) [z, TI, TO, i1, i2] z (fun i h => IsZip h z TI TO .none ∧ IsTupOf2 h TI (.ref i1) (.ref i2) ∧ (∃ x y, IsTupOf2 h TO x y) ∧ k1.st i1 i h ∧ k2.st i2 i h) where
  mem := by simp
  obj := fun i h st c hc => by
    obtain ⟨hz, hTI, ⟨x, y, hTO⟩, h1, h2⟩ := st
    have e' : c = z ∨ c = TI ∨ c = TO ∨ c = i1 ∨ c = i2 := by simpa using hc
    rcases e' with q | q | q | q | q
    · rw [q]; exact ⟨_, hz, fun v q => nomatch q⟩
    · rw [q]; exact ⟨_, hTI, fun v q => nomatch q⟩
    · rw [q]; exact ⟨_, hTO, fun v q => nomatch q⟩
    · rw [q]; exact IK.st_obj h1
    · rw [q]; exact IK.st_obj h2
  keep := fun i h h' st kp => by
    obtain ⟨hz, hTI, ⟨x, y, hTO⟩, h1, h2⟩ := st
    exact ⟨kp z (by simp) _ hz, kp TI (by simp) _ hTI, ⟨x, y, kp TO (by simp) _ hTO⟩, IK.st_keep h1 fun o q => kp i1 (by simp) o q, IK.st_keep h2 fun o q => kp i2 (by simp) o q⟩
  item := by
    intro X hP hw hK hc i pins s σ H E I hf st hg
    subst hP hw hK
    obtain ⟨hz, hTI, ⟨x0, y0, hTO⟩, h1, h2⟩ := st
    obtain ⟨xs, ys, x, y, hqx, hqy, hx, hy⟩ := hg
    have hzl : z < s.heap.objs.size := Heap.lt_size hz
    obtain ⟨fp1, n1, P1, St1, D1, hSt1, hm1, hn1, hP1, hS1, hf1⟩ := IK.draws I hc hqx h1 (hf i1 (by simp)).1
    obtain ⟨fp2, n2, P2, St2, D2, hSt2, hm2, hn2, hP2, hS2, hf2⟩ := IK.draws I hc hqy h2 (hf i2 (by simp)).1
    have out1 : ∀ b, H b = none → b ≠ i1 → b ∉ fp1 := fun b n ne q => (hf1 b q).elim ne fun z => z n
    have out2 : ∀ b, H b = none → b ≠ i2 → b ∉ fp2 := fun b n ne q => (hf2 b q).elim ne fun z => z n
    have S : ZipSep2 z TI TO i1 i2 fp1 fp2 := ⟨D.TIz, D.TOz, D.TITO, D.TIi1, hm1, out1 z (hf z (by simp)).1 D.zi1, out1 TO (hf TO (by simp)).1 D.Ti1, D.TIi2, hm2, out2 z (hf z (by simp)).1 D.zi2, out2 TO (hf TO (by simp)).1 D.Ti2,
      out2 i1 (hf i1 (by simp)).1 D.i12, out1 i2 (hf i2 (by simp)).1 (Ne.symm D.i12)⟩
    have hi1 : i < n1 := by rw [hn1]; exact (List.getElem?_eq_some_iff.mp hx).1
    have hi2 : i < n2 := by rw [hn2]; exact (List.getElem?_eq_some_iff.mp hy).1
    refine wpAny_pyNext_zipD2_item S D1 D2 hz hTI hTO hSt1 hSt2 hi1 hi2 fun u u2 h' tk hu hu2 z' TO' h1' h2' hT hsz hk => ?_
    obtain ⟨x', hx', ru⟩ := hP1 i u hu
    rw [hx] at hx'
    cases hx'
    obtain ⟨y', hy', ru2⟩ := hP2 i u2 hu2
    rw [hy] at hy'
    cases hy'
    refine ⟨_, rfl, wpAny_letOwnedTupleGo_zip (s := { s with heap := h', toks := tk }) z' fun h'' z'' sb => ?_⟩
    have hT2 : h''.get? s.heap.objs.size = some { cls := .type "tuple", data := .seq #[u, u2] } := (sb.2 _ (Nat.ne_of_gt hzl)).trans hT
    have new : ObjOk X.prog X.w (upd H s.heap.objs.size (.tup [x, y])) h'' s.heap.objs.size (.tup [x, y]) :=
      ⟨by show 2 ≤ sizeLine; decide, [u, u2], .cons ru (.cons ru2 .nil), ⟨_, hT2, rfl, _, rfl⟩⟩
    have I1 : L2.Inv X pins σ (upd H s.heap.objs.size (.tup [x, y])) { s with heap := h'', toks := tk } :=
      I.turnedNew (t' := tk) (ch := [z, TI, TO, i1, i2]) (fun c o hb q => (sb.2 c (fun q' => hb (by simp [q']))).trans (hk c o (fun q' => hb (by simp [q'])) (fun q' => hb (by simp [q'])) (fun q' => hb (by simp [q'])) (fun q' => hb (by simp [q'])) q)) hf (Nat.le_refl _) new
    refine ⟨.ref s.heap.objs.size, _, I1, rfl, ⟨_, x, y, rfl, I.hok.fresh (Nat.le_refl _), rfl, fun l hl => by rw [IK.uniq hl hqx]; exact hx, fun l hl => by rw [IK.uniq hl hqy]; exact hy⟩, ⟨z'', ?_, ⟨u, u2, ?_⟩, ?_, ?_⟩, fun c hcm => ?_⟩
    · exact (sb.2 _ D.TIz).trans (hk _ _ D.TIz D.TITO D.TIi1 D.TIi2 hTI)
    · exact (sb.2 _ D.TOz).trans TO'
    · exact IK.st_keep (hS1 _ _ h1') fun o q => (sb.2 _ (Ne.symm D.zi1)).trans q
    · exact IK.st_keep (hS2 _ _ h2') fun o q => (sb.2 _ (Ne.symm D.zi2)).trans q
    · have hlt : c < s.heap.objs.size := by
        have e' : c = z ∨ c = TI ∨ c = TO ∨ c = i1 ∨ c = i2 := by simpa using hcm
        rcases e' with q | q | q | q | q
        · rw [q]; exact hzl
        · rw [q]; exact Heap.lt_size hTI
        · rw [q]; exact Heap.lt_size hTO
        · rw [q]; obtain ⟨_, e1, _⟩ := IK.st_obj h1; exact Heap.lt_size e1
        · rw [q]; obtain ⟨_, e2, _⟩ := IK.st_obj h2; exact Heap.lt_size e2
      rw [upd_ne (Nat.ne_of_lt hlt)]
      exact (hf c hcm).1
  done := by
    intro X hP hw hK hc i pins s σ H E I hf st hg
    subst hP hw hK
    obtain ⟨hz, hTI, ⟨x0, y0, hTO⟩, h1, h2⟩ := st
    obtain ⟨xs, ys, hqx, hqy, l1, l2, hend⟩ := hg
    obtain ⟨fp1, n1, P1, St1, D1, hSt1, hm1, hn1, hP1, hS1, hf1⟩ := IK.draws I hc hqx h1 (hf i1 (by simp)).1
    obtain ⟨fp2, n2, P2, St2, D2, hSt2, hm2, hn2, hP2, hS2, hf2⟩ := IK.draws I hc hqy h2 (hf i2 (by simp)).1
    have out1 : ∀ b, H b = none → b ≠ i1 → b ∉ fp1 := fun b n ne q => (hf1 b q).elim ne fun z => z n
    have out2 : ∀ b, H b = none → b ≠ i2 → b ∉ fp2 := fun b n ne q => (hf2 b q).elim ne fun z => z n
    have S : ZipSep2 z TI TO i1 i2 fp1 fp2 := ⟨D.TIz, D.TOz, D.TITO, D.TIi1, hm1, out1 z (hf z (by simp)).1 D.zi1, out1 TO (hf TO (by simp)).1 D.Ti1, D.TIi2, hm2, out2 z (hf z (by simp)).1 D.zi2, out2 TO (hf TO (by simp)).1 D.Ti2,
      out2 i1 (hf i1 (by simp)).1 D.i12, out1 i2 (hf i2 (by simp)).1 (Ne.symm D.i12)⟩
    exact wpAny_pyNext_zipD2_end S D1 D2 hz hTI hTO hSt1 hSt2 (by rw [hn1]; exact l1) (by rw [hn2]; exact l2) (by rw [hn1, hn2]; exact hend) fun h' tk hk => ⟨rfl, I.turnedL (t' := tk) (ch := [z, TI, TO, i1, i2]) (fun c o hb q =>
      hk c o (fun q' => hb (by simp [q'])) (fun q' => hb (by simp [q'])) (fun q' => hb (by simp [q'])) (fun q' => hb (by simp [q'])) q) hf⟩
  self := fun A i s Q E st h => wpAny_pyIter_zip st.1 h
def iZipG (ta : TA) : TI := fun σ H R => ta σ H fun vs H1 => ∃ v u xs ys, vs = [v, u] ∧ kindOf H1 v xs fun k1 => kindOf H1 u ys fun k2 => R (ItZ k1 k2) H1
theorem pi_zipG {X : Cx} {e e2 : Expr} {ta : TA} {p pos tpos : Pos} {elts : List Expr} {kk : Nat} (hg : Gl X "zip") (hm : X.mg "zip" = none) (ha : PA X [e, e2] ta)
    (hs : starEach [e, e2] X.env = (false, eval e X.env) :: starEach [e2] X.env) (hpl : (backTo pos (starEach [e2] X.env)).any (·.1) = false) :
    PI X (.Tuple elts kk tpos) (.Call (.Name "zip" p) [e, e2] [] pos) (iZipG ta) := by
  refine ⟨fun pins s σ H R I h => ?_⟩
  refine Call_ (ld_blt I hg hm PyProof.Rows.boot_zip (PyProof.Rows.callWith_type1 (thn (ha.run pos pins s σ H _ I h) fun us s1 ⟨vs, H1, I1, r1, q1⟩ => ?_) hs hpl))
  obtain ⟨v, u, xs, ys, ex, hq⟩ := q1
  subst ex
  obtain ⟨v1, v2, rfl, r1, r2⟩ := vals2 r1
  obtain ⟨k1, hu1, hk1, hq2⟩ := hq.get r1
  obtain ⟨k2, hu2, hk2, q⟩ := hq2.get r2
  obtain ⟨Hh1, B1, hh1⟩ := IK.begins I1 hk1
  obtain ⟨Hh2, B2, hh2⟩ := IK.begins I1 hk2
  rw [hu1] at B1
  rw [hu2] at B2
  refine zip_begins2 B1 B2 hh1 hh2 fun h' hz hTI hTO g1 g2 hsz hk' => wpAny_pyIter_zip hz ?_
  have I2 : L2.Inv X pins σ H1 { s1 with heap := h' } := I1.kept (t' := s1.toks) hk'
  refine ⟨s1.heap.objs.size + 4, [s1.heap.objs.size + 4, s1.heap.objs.size + 2, s1.heap.objs.size + 3, s1.heap.objs.size, s1.heap.objs.size + 1], _, _, H1, rfl, I2,
    turn_zipG k1 k2 (zap s1.heap.objs.size),
    ⟨hz, hTI, ⟨_, _, hTO⟩, IK.st0 g1, IK.st0 g2⟩, fun b hb => ?_, q⟩
  have e' : b = s1.heap.objs.size + 4 ∨ b = s1.heap.objs.size + 2 ∨ b = s1.heap.objs.size + 3 ∨ b = s1.heap.objs.size ∨ b = s1.heap.objs.size + 1 := by simpa using hb
  have hle : s1.heap.objs.size ≤ b := by
    rcases e' with q | q | q | q | q <;> rw [q] <;> first | exact Nat.le_add_right _ _ | exact Nat.le_refl _
  exact I1.fpOk hle (I1.hok.fresh hle)
end Ev
set_option autoImplicit false
set_option linter.all false
set_option Elab.async false
set_option maxRecDepth 100000
/-! Ev6: expressions. -/
namespace Ev
open PySem PySem.Spec PyProof.Rows L2

/-! ### the check -/
def visB (sc : Scope) (x : Str) : Bool := match sc.names.lookup x with
  | some .local => true
  | some .cell => true
  | some .free => true
  | _ => false
def okNm (x : Str) : Bool := !(x == ("__debug__" : Str)) && !(x == ("__classdict__" : Str)) && !(x == ("__name__" : Str))
def nmB (c : Cc) (i : Nat) (x : Str) : Bool := (c.N[i]? == some x) && visB c.sc x && okNm x
def glB (c : Cc) (x : Str) : Bool := (c.sc.names.lookup x == some NameKind.globalImplicit) && okNm x
def notStar : Expr → Bool
  | .Starred _ _ => false
  | _ => true
def notSl : Expr → Bool
  | .Slice _ _ _ _ => false
  | _ => true
def notSet : Expr → Bool
  | .Set _ _ _ => false
  | _ => true
/-- no call of a name without arguments (super() is one) -/
def notCall0 : Expr → Bool
  | .Call _ [] [] _ => false
  | _ => true
def plainT : Expr → Bool
  | .UnaryOp .Not _ _ => false
  | .BoolOp _ _ _ => false
  | .IfExp _ _ _ _ => false
  | .Compare _ _ _ _ => false
  | _ => true
def chK : PV → Const → Bool
  | .non, .none => true
  | .bl b, .bool b' => b == b'
  | .int i, .int j => i == j
  | .str s, .str x => (x == toStr s) && decide (s.length ≤ 100000) && s.all (fun c => decide (c < 1114112))
  | _, _ => false
section
variable {env : Env} {e : Expr} {es : List Expr}
theorem star_cons (h : notStar e = true) : starEach (e :: es) env = (false, eval e env) :: starEach es env := by
  cases e <;> first | rfl | cases h
theorem star_all : ∀ {es : List Expr}, es.all notStar = true → starEach es env = es.map fun e => (false, eval e env)
  | [], _ => rfl
  | e :: es, h => by
    simp only [List.all_cons, Bool.and_eq_true] at h
    rw [star_cons h.1, star_all h.2]
    rfl
theorem star_plain {pos : Pos} (h : es.all notStar = true) : (backTo pos (starEach es env)).any (·.1) = false := by
  rw [star_all h]
  unfold backTo
  simp
theorem fold_set (h : notSet e = true) (x : Value) : foldedSetIterable e env x = pure x := by
  cases e <;> first | rfl | cases h
theorem marks_no {op : CmpOp} (h : notSet e = true) : behindInMarks op e = false := by
  cases e <;> first | rfl | cases h
theorem plain_ix (h : notSl e = true) : PlainIx e := fun o i => by
  cases e <;> first | rfl | cases h
theorem attr_base {attr : Str} {wh : Sem Value} (h : notCall0 e = true) : attributeBase e attr env wh = wh := by
  cases e with
  | Call f as kws p =>
    cases f <;> first
      | rfl
      | (cases as with
         | nil => cases kws <;> first | rfl | cases h
         | cons a r => rfl)
  | _ => rfl
theorem test_plain (h : plainT e = true) (whole : Sem Value) : isTrue e env whole = (do let v ← whole; standAt e.pos; holding [v] (truthy v)) := by
  cases e with
  | UnaryOp op x p => cases op <;> first | rfl | cases h
  | BoolOp a b d => cases h
  | IfExp a b d f => cases h
  | Compare a b d f => cases h
  | _ => rfl
end

/-! ### small facts of the context -/
section
variable {m : Md} {c : Cc} {X : Cx}
theorem XOk.vis (h : XOk m c X) {i : Nat} {x : Str} (b : nmB c i x = true) : X.N[i]? = some x ∧ Vis X.env.scope x ∧ (x == ("__debug__" : Str)) = false ∧ (x == ("__classdict__" : Str)) = false := by
  unfold nmB okNm at b
  simp only [Bool.and_eq_true, beq_iff_eq, Bool.not_eq_true'] at b
  refine ⟨by rw [h.N]; exact b.1.1, ?_, b.2.1.1, b.2.1.2⟩
  have q := b.1.2
  unfold visB at q
  rw [← h.sc] at q
  unfold Vis
  split at q <;> simp_all
theorem XOk.glob (h : XOk m c X) {x : Str} (b : glB c x = true) : Gl X x ∧ (x == ("__debug__" : Str)) = false ∧ x ≠ "__name__" := by
  unfold glB okNm at b
  simp only [Bool.and_eq_true, beq_iff_eq, Bool.not_eq_true'] at b
  refine ⟨?_, b.2.1.1, fun e => ?_⟩
  · show X.env.scope.names.lookup x = some .globalImplicit
    rw [h.sc]; exact b.1
  · have := b.2.2
    rw [e] at this
    revert this
    decide
theorem XOk.units (h : XOk m c X) : X.A.units + 65 < cLine := by have := h.room.un; omega
theorem PE.or {e : Expr} {t u : TE} (h : PE X e t) (k : PE X e u) : PE X e (fun σ H Q => t σ H Q ∨ u σ H Q) :=
  ⟨fun pins s σ H Q I q => q.elim (h.run pins s σ H Q I) (k.run pins s σ H Q I)⟩
theorem PT.or {e : Expr} {t u : TT} (h : PT X e t) (k : PT X e u) : PT X e (fun σ H Q => t σ H Q ∨ u σ H Q) :=
  ⟨fun pins s σ H Q I q => q.elim (h.run pins s σ H Q I) (k.run pins s σ H Q I)⟩
theorem PI.or {tg e : Expr} {t u : TI} (h : PI X tg e t) (k : PI X tg e u) : PI X tg e (fun σ H R => t σ H R ∨ u σ H R) :=
  ⟨fun pins s σ H Q I q => q.elim (h.run pins s σ H Q I) (k.run pins s σ H Q I)⟩
theorem pe_never {e : Expr} : PE X e (fun _ _ _ => False) := ⟨fun _ _ _ _ _ _ q => q.elim⟩
end
theorem nwp {α β : Type} {Q : β → Prop} {r : Res α} {f : α → Res β} (h : (r >>= f).wp Q No) : r.wp (fun a => (f a).wp Q No) No := Res.wp_bind.mp h
theorem wpO {α β : Type} {Q : β → Prop} {o : Option α} {f : α → Res β} (h : (Res.ofO o >>= f).wp Q No) : ∃ a, o = some a ∧ (f a).wp Q No := by
  cases o with
  | none => exact h.elim
  | some a => exact ⟨a, rfl, h⟩

/-! ### leaves -/
section
variable {m : Md} {c : Cc}
theorem se_con {v : PV} {k : Const} {j : Nat} {pos : Pos} (h : chK v k = true) : SE m c (.con v) (.Constant k j pos) := by
  unfold chK at h
  split at h <;> first | contradiction | skip
  · exact ⟨_, fun X _ => pe_non, fun H0 Rw O W s σ H Q r q => q .non H Kp.refl r.row (show Rep _ _ _ _ _ from r_non)⟩
  · have e := eq_of_beq h
    subst e
    exact ⟨_, fun X _ => pe_bl, fun H0 Rw O W s σ H Q r q => q (.bl _) H Kp.refl r.row (show Rep _ _ _ _ _ from r_bl _)⟩
  · have e := eq_of_beq h
    subst e
    exact ⟨_, fun X _ => pe_int, fun H0 Rw O W s σ H Q r q => q (.int _) H Kp.refl r.row (show Rep _ _ _ _ _ from r_int _)⟩
  · simp only [Bool.and_eq_true, beq_iff_eq, decide_eq_true_eq, List.all_eq_true] at h
    obtain ⟨⟨e, h1⟩, h2⟩ := h
    subst e
    exact ⟨_, fun X _ => pe_str, fun H0 Rw O W s σ H Q r q => q (.str _) H Kp.refl r.row (show Rep _ _ _ _ _ from r_str ⟨Nat.le_trans h1 (by decide), h2⟩)⟩
theorem getS_some {s : Stt} {i : Nat} {x : Slt} (h : getS s i = x) (n : x ≠ .no) : s[i]? = some x := by
  unfold getS at h
  rw [List.getD_eq_getElem?_getD] at h
  cases e : s[i]? with
  | none => rw [e] at h; exact absurd h.symm n
  | some y => rw [e] at h; rw [← h]; rfl
theorem se_var {i : Nat} {x : Str} {pos : Pos} (h : nmB c i x = true) : SE m c (.var i) (.Name x pos) := by
  refine ⟨tVar i, fun X hX => ?_, fun H0 Rw O W s σ H Q r q => ?_⟩
  · obtain ⟨a, b, d, e⟩ := hX.vis h
    exact pe_var a b d e
  · simp only [evE] at q
    cases e : getS s i with
    | no => rw [e] at q; exact q.elim
    | own v => rw [e] at q; exact q.elim
    | shr v =>
      rw [e] at q
      obtain ⟨x', h1, h2⟩ := r.shr i v (getS_some e (by simp))
      exact ⟨x', h1, q x' H Kp.refl r.row h2⟩
theorem se_bor {i : Nat} {x : Str} {pos : Pos} (h : nmB c i x = true) : SE m c (.bor i) (.Name x pos) := by
  refine ⟨tVar i, fun X hX => ?_, fun H0 Rw O W s σ H Q r q => ?_⟩
  · obtain ⟨a, b, d, e⟩ := hX.vis h
    exact pe_var a b d e
  · simp only [evE] at q
    cases e : getS s i with
    | no => rw [e] at q; exact q.elim
    | own v =>
      rw [e] at q
      obtain ⟨a, h1, h2, h3⟩ := r.own i v (getS_some e (by simp))
      exact ⟨.ref a, h2, q (.ref a) H Kp.refl r.row (TRep.w h3 (r.dis i a h1))⟩
    | shr v =>
      rw [e] at q
      obtain ⟨x', h1, h2⟩ := r.shr i v (getS_some e (by simp))
      exact ⟨x', h1, q x' H Kp.refl r.row (Rep.w h2 fun _ z => .inl z)⟩
theorem se_glo (M : MOk m c) {g : Nat} {x : Str} {pos : Pos} (h : glB c x = true) (hg : (x, g) ∈ c.gc) : SE m c (.glo g) (.Name x pos) := by
  obtain ⟨p, u, v, h1, h2, h3, h4⟩ := M.gc x g hg
  refine ⟨tC v, fun X hX => ?_, fun H0 Rw O W s σ H Q r q => ?_⟩
  · obtain ⟨a, b, _⟩ := hX.glob h
    exact pe_glob a (by rw [hX.mg]; exact h2) h3 b
  · simp only [evE, h1] at q
    have q1 := q v H Kp.refl r.row
    refine q1 ?_
    have k := (h4 H Rw (Oo O W)).2 H
    cases p with
    | lst xs => exact k
    | dic xs => exact k
    | non => exact k
    | bl b => exact k
    | int b => exact k
    | str b => exact k
    | tup b => exact k
    | row => exact k
    | obj C z0 fs => exact k

/-! ### operators -/
/-- what is known of an expression's reading, without the expression -/
abbrev GE (m : Md) (ce : CE) (t : TE) : Prop := ∀ (H0 : Hp) (Rw O : AP1) (W : Nat → Option Addr) (s : Stt) (σ : L2.St) (H : Hp) (Q : VK), Rl m.K H0 Rw O W s σ H → (evE m.gl m.cl s ce).wp (EQ m (fl m.nw ce) H Rw O W Q) No → t σ H Q
abbrev GT (m : Md) (ce : CE) (t : TT) : Prop := ∀ (H0 : Hp) (Rw O : AP1) (W : Nat → Option Addr) (s : Stt) (σ : L2.St) (H : Hp) (Q : Bool → Hp → Prop), Rl m.K H0 Rw O W s σ H →
    (evE m.gl m.cl s ce >>= fun x => Res.ofO (truthP x)).wp (fun b => ∀ H', Kp Rw H H' → Rws m.K Rw H' → Q b H') No → t σ H Q
/-- one operand -/
theorem one {a : CE} {ta : TE} {Q : V → Hp → Prop} (ga : GE m a ta)
    {H0 : Hp} {Rw O : AP1} {W : Nat → Option Addr} {s : Stt} {σ : L2.St} {H : Hp} (r : Rl m.K H0 Rw O W s σ H)
    (h : (evE m.gl m.cl s a).wp (fun p => ∀ v H1, Kp Rw H H1 → Rl m.K H0 Rw O W s σ H1 → FRep (fl m.nw a) H H1 Rw O (Oo O W) p v → WRep H1 Rw O (Oo O W) p v → Q v H1) No) :
    ta σ H fun v H1 => Q v H1 :=
  ga H0 Rw O W s σ H _ r (Res.wp_imp h fun p hp v H1 k1 r1 f1 => hp v H1 k1 (r.step k1 r1) f1 (FRep.raw f1 fun _ z => .inl z))
/-- two operands in a row: the heaps, the states -/
theorem two {a b : CE} {ta tb : TE} {Q : V → V → Hp → Prop} (ga : GE m a ta) (gb : GE m b tb)
    {H0 : Hp} {Rw O : AP1} {W : Nat → Option Addr} {s : Stt} {σ : L2.St} {H : Hp} (r : Rl m.K H0 Rw O W s σ H)
    (h : (evE m.gl m.cl s a).wp (fun p => (evE m.gl m.cl s b).wp (fun q => ∀ v u H2, Kp Rw H H2 → Rl m.K H0 Rw O W s σ H2 → WRep H2 Rw O (Oo O W) p v → WRep H2 Rw O (Oo O W) q u → Q v u H2) No) No) :
    ta σ H fun v H1 => tb σ H1 fun u H2 => Q v u H2 := by
  refine ga H0 Rw O W s σ H _ r (Res.wp_imp h fun p hp v H1 k1 r1 f1 => ?_)
  have R1 := r.step k1 r1
  refine gb H0 Rw O W s σ H1 _ R1 (Res.wp_imp hp fun q hq u H2 k2 r2 f2 => ?_)
  have R2 := R1.step k2 r2
  exact hq v u H2 (k1.trans k2) R2 ((FRep.raw f1 fun _ z => .inl z).stp k2 r.ro fun _ z => .inl z) (FRep.raw f2 fun _ z => .inl z)
theorem se_bin {o : BOp} {a b : CE} {x y : Expr} {pos : Pos} (ha : SE m c a x) (hb : SE m c b y) : SE m c (.bin o a b) (.BinOp x (opOf o) y pos) := by
  obtain ⟨ta, pa, ga⟩ := ha
  obtain ⟨tb, pb, gb⟩ := hb
  obtain ⟨r, hr, hs⟩ := bin_snd m.K o
  refine ⟨tOp r ta tb, fun X hX => pe_op (hr X hX.K) (pa X hX) (pb X hX), fun H0 Rw O W s σ H Q R q => ?_⟩
  simp only [evE] at q
  refine two (Q := fun v u H2 => r v u H2 Q) ga gb R (Res.wp_imp (nwp q) fun p hp => Res.wp_imp (nwp hp) fun p2 hp2 v u H2 k R2 w1 w2 => ?_)
  cases e : binP o p p2 with
  | none => rw [e] at hp2; exact hp2.elim
  | some z =>
    rw [e] at hp2
    exact hs p p2 z v u H2 Rw O (Oo O W) Q e R2.sts w1 w2 (R.ans k R2 hp2)
theorem se_cmp {o : COp} {a b : CE} {x y : Expr} {pos : Pos} (hy : notSet y = true) (ha : SE m c a x) (hb : SE m c b y) :
    SE m c (.cmp o a b) (.Compare x [copOf o] [y] pos) ∧ ST m c (.cmp o a b) (.Compare x [copOf o] [y] pos) := by
  obtain ⟨ta, pa, ga⟩ := ha
  obtain ⟨tb, pb, gb⟩ := hb
  obtain ⟨r, hr, hs⟩ := cmp_snd m.K o
  refine ⟨⟨tOp r ta tb, fun X hX => pe_cmpR (hr X hX.K hX.units) (pa X hX) (pb X hX) (marks_no hy), fun H0 Rw O W s σ H Q R q => ?_⟩,
    ⟨tTest (tOp r ta tb), fun X hX => pt_cmpR (hr X hX.K hX.units) (pa X hX) (pb X hX) (marks_no hy), fun H0 Rw O W s σ H Q R q => ?_⟩⟩
  · simp only [evE] at q
    refine two (Q := fun v u H2 => r v u H2 Q) ga gb R (Res.wp_imp (nwp q) fun p hp => Res.wp_imp (nwp hp) fun p2 hp2 v u H2 k R2 w1 w2 => ?_)
    obtain ⟨z, e, hz⟩ := wpO hp2
    exact hs p p2 z v u H2 Rw O (Oo O W) Q e w1 w2 (hz (.bl z) H2 k R2.row (show Rep _ _ _ _ _ from r_bl z))
  · simp only [evE] at q
    refine two (Q := fun v u H2 => r v u H2 fun x H' => ∃ k, x = .bl k ∧ Q k H') ga gb R (Res.wp_imp (nwp (nwp q)) fun p hp => Res.wp_imp (nwp hp) fun p2 hp2 v u H2 k R2 w1 w2 => ?_)
    obtain ⟨z, e, hz⟩ := wpO hp2
    exact hs p p2 z v u H2 Rw O (Oo O W) _ e w1 w2 ⟨z, rfl, hz H2 k R2.row⟩
theorem st_of {ce : CE} {e : Expr} (hp : plainT e = true) (h : SE m c ce e) : ST m c ce e := by
  obtain ⟨t, p, g⟩ := h
  refine ⟨fun σ H Q => t σ H fun x H' => ∃ k, TruV m.K x H' k ∧ Q k H', fun X hX => ?_, fun H0 Rw O W s σ H Q R q => ?_⟩
  · have := pt_truth (p X hX) (test_plain hp)
    rw [hX.K] at this
    exact this
  · refine one g R (Res.wp_imp (nwp q) fun p hp v H1 k1 R1 f1 w1 => ?_)
    cases e : truthP p with
    | none => rw [e] at hp; exact hp.elim
    | some b => rw [e] at hp; exact ⟨b, truth_ok e w1, hp H1 k1 R1.row⟩
theorem se_cmp2 {o o' : COp} {a b d : CE} {x y z : Expr} {pos : Pos} (hz : notSet z = true) (ha : SE m c a x) (hb : SE m c b y) (hd : SE m c d z) :
    SE m c (.cmp2 o o' a b d) (.Compare x [copOf o, copOf o'] [y, z] pos) ∧ ST m c (.cmp2 o o' a b d) (.Compare x [copOf o, copOf o'] [y, z] pos) := by
  obtain ⟨ta, pa, ga⟩ := ha
  obtain ⟨tb, pb, gb⟩ := hb
  obtain ⟨td, pd, gd⟩ := hd
  obtain ⟨r, hr, hs⟩ := cmp_snd m.K o
  obtain ⟨r', hr', hs'⟩ := cmp_snd m.K o'
  have hm : lastMarks [copOf o, copOf o'] [y, z] = false := by
    show lastMarks [copOf o'] [z] = false
    exact marks_no hz
  have main : ∀ (H0 : Hp) (Rw O : AP1) (W : Nat → Option Addr) (s : Stt) (σ : L2.St) (H : Hp) (Q : VK), Rl m.K H0 Rw O W s σ H →
      (evE m.gl m.cl s (.cmp2 o o' a b d)).wp (fun p => ∃ k, p = .bl k ∧ ∀ H', Kp Rw H H' → Rws m.K Rw H' → Q (.bl k) H') No → tChain r r' ta tb td σ H Q := by
    intro H0 Rw O W s σ H Q R q
    simp only [evE] at q
    refine two (Q := fun v u H2 => r v u H2 fun w3 H3 => ∃ k, w3 = .bl k ∧ (if k = true then td σ H3 fun w' H4 => r' u w' H4 Q else Q (.bl false) H3)) ga gb R (Res.wp_imp (nwp q) fun p hp => Res.wp_imp (nwp hp) fun p2 hp2 v u H2 k R2 w1 w2 => ?_)
    obtain ⟨b1, e, h1⟩ := wpO hp2
    refine hs p p2 b1 v u H2 Rw O (Oo O W) _ e w1 w2 ⟨b1, rfl, ?_⟩
    cases b1 with
    | false =>
      rw [if_neg Bool.false_ne_true] at h1 ⊢
      obtain ⟨k', e', h2⟩ := h1
      cases e'
      exact h2 H2 k R2.row
    | true =>
      rw [if_pos rfl] at h1 ⊢
      refine one gd R2 (Res.wp_imp (nwp h1) fun p3 hp3 w' H4 k4 R4 f4 w4 => ?_)
      obtain ⟨b2, e2, k', e', h2⟩ := wpO hp3
      cases e'
      exact hs' p2 p3 b2 u w' H4 Rw O (Oo O W) Q e2 (w2.stp k4 R.ro fun _ z => .inl z) w4 (h2 H4 (k.trans k4) R4.row)
  have isb : ∀ (s : Stt) (Q : PV → Prop), (evE m.gl m.cl s (.cmp2 o o' a b d)).wp Q No → (evE m.gl m.cl s (.cmp2 o o' a b d)).wp (fun p => (∃ k, p = .bl k) ∧ Q p) No := by
    intro s Q q
    simp only [evE] at q ⊢
    refine Res.wp_bind.mpr (Res.wp_imp (nwp q) fun p hp => Res.wp_bind.mpr (Res.wp_imp (nwp hp) fun p2 hp2 => Res.wp_bind.mpr (Res.wp_imp (nwp hp2) fun b1 h1 => ?_)))
    cases b1 with
    | false => rw [if_neg Bool.false_ne_true] at h1 ⊢; exact ⟨⟨_, rfl⟩, h1⟩
    | true =>
      rw [if_pos rfl] at h1 ⊢
      exact Res.wp_bind.mpr (Res.wp_imp (nwp h1) fun p3 hp3 => Res.wp_bind.mpr (Res.wp_imp (nwp hp3) fun b2 h2 => ⟨⟨_, rfl⟩, h2⟩))
  refine ⟨⟨tChain r r' ta tb td, fun X hX => pe_chain (hr X hX.K hX.units) (hr' X hX.K hX.units) (pa X hX) (pb X hX) (pd X hX) hm, fun H0 Rw O W s σ H Q R q => ?_⟩,
    ⟨tTest (tChain r r' ta tb td), fun X hX => pt_chain (hr X hX.K hX.units) (hr' X hX.K hX.units) (pa X hX) (pb X hX) (pd X hX) hm, fun H0 Rw O W s σ H Q R q => ?_⟩⟩
  · refine main H0 Rw O W s σ H Q R (Res.wp_imp (isb s _ q) fun p ⟨⟨k, e⟩, hp⟩ => ⟨k, e, fun H' k1 r1 => ?_⟩)
    subst e
    exact hp (.bl k) H' k1 r1 (show Rep _ _ _ _ _ from r_bl k)
  · refine main H0 Rw O W s σ H _ R (Res.wp_imp (isb s _ (nwp q)) fun p ⟨⟨k, e⟩, hp⟩ => ⟨k, e, fun H' k1 r1 => ?_⟩)
    subst e
    exact ⟨k, rfl, hp H' k1 r1⟩
theorem se_neg {a : CE} {x : Expr} {pos : Pos} (ha : SE m c a x) : SE m c (.neg a) (.UnaryOp .USub x pos) := by
  obtain ⟨ta, pa, ga⟩ := ha
  refine ⟨tUn (rU fun i => .int (-i)) ta, fun X hX => pe_un un_neg (pa X hX), fun H0 Rw O W s σ H Q R q => ?_⟩
  simp only [evE] at q
  refine one (Q := fun v H1 => rU (fun i => .int (-i)) v H1 Q) ga R (Res.wp_imp (nwp q) fun p hp v H1 k1 R1 f1 w1 => ?_)
  cases p with
  | int i =>
    have e : v = .int i := w1
    exact ⟨i, e, hp (.int (-i)) H1 k1 R1.row (show Rep _ _ _ _ _ from r_int _)⟩
  | _ => exact hp.elim
theorem se_not {a : CE} {x : Expr} {pos : Pos} (ha : SE m c a x) (ta : ST m c a x) : SE m c (.not a) (.UnaryOp .Not x pos) ∧ ST m c (.not a) (.UnaryOp .Not x pos) := by
  obtain ⟨ta', pa, ga⟩ := ha
  obtain ⟨tt, pt, gt⟩ := ta
  refine ⟨⟨tNotT m.K ta', fun X hX => ?_, fun H0 Rw O W s σ H Q R q => ?_⟩, ⟨tNot tt, fun X hX => pt_not (pt X hX), fun H0 Rw O W s σ H Q R q => ?_⟩⟩
  · have := pe_notT (pos := pos) (pa X hX)
    rw [hX.K] at this
    exact this
  · simp only [evE] at q
    refine one (Q := fun v H1 => ∃ k, TruV m.K v H1 k ∧ Q (.bl (!k)) H1) ga R (Res.wp_imp (nwp q) fun p hp v H1 k1 R1 f1 w1 => ?_)
    obtain ⟨b, e, h1⟩ := wpO hp
    exact ⟨b, truth_ok e w1, h1 (.bl (!b)) H1 k1 R1.row (show Rep _ _ _ _ _ from r_bl _)⟩
  · refine gt H0 Rw O W s σ H (fun b H1 => Q (!b) H1) R ?_
    simp only [evE] at q
    refine Res.wp_bind.mpr (Res.wp_imp (nwp (nwp q)) fun p hp => ?_)
    obtain ⟨b, e, h1⟩ := wpO hp
    rw [e]
    exact h1
theorem fl_join1 {f g : FL} {H0 H : Hp} {Rw O : AP1} {W : Nat → Option Addr} {p : PV} {v : V} (h : FRep f H0 H Rw O (Oo O W) p v) : FRep (flJ f g) H0 H Rw O (Oo O W) p v := (FRep.join fun _ z => .inl z).1 h
theorem fl_join2 {f g : FL} {H0 H : Hp} {Rw O : AP1} {W : Nat → Option Addr} {p : PV} {v : V} (h : FRep g H0 H Rw O (Oo O W) p v) : FRep (flJ f g) H0 H Rw O (Oo O W) p v := (FRep.join fun _ z => .inl z).2 h
/-- and, or: the right side as an expression of its own -/
theorem se_and {a b : CE} {x y : Expr} {rest : List Expr} {pos : Pos} (ha : SE m c a x) (ta : ST m c a x) (hb : SE m c b (.BoolOp .And (y :: rest) pos)) (tb : ∃ t : TT, (∀ X, XOk m c X → PW X (.BoolOp .And (y :: rest) pos) t) ∧ GT m b t) :
    SE m c (.and a b) (.BoolOp .And (x :: y :: rest) pos) ∧ ∃ t : TT, (∀ X, XOk m c X → PW X (.BoolOp .And (x :: y :: rest) pos) t) ∧ GT m (.and a b) t := by
  obtain ⟨ta', pa, ga⟩ := ha
  obtain ⟨tb', pb, gb⟩ := hb
  obtain ⟨tt, pt, gt⟩ := ta
  obtain ⟨tu, pu, gu⟩ := tb
  refine ⟨⟨tAndT m.K ta' tb', fun X hX => ?_, fun H0 Rw O W s σ H Q R q => ?_⟩, ⟨tAnd tt tu, fun X hX => pw_and (pt X hX) (pu X hX), fun H0 Rw O W s σ H Q R q => ?_⟩⟩
  · have := pe_andT (pa X hX) (pb X hX)
    rw [hX.K] at this
    exact this
  · simp only [evE] at q
    refine one (Q := fun v H1 => ∃ k, TruV m.K v H1 k ∧ if k = true then tb' σ H1 Q else Q v H1) ga R (Res.wp_imp (nwp q) fun p hp v H1 k1 R1 f1 w1 => ?_)
    obtain ⟨b1, e, h1⟩ := wpO hp
    refine ⟨b1, truth_ok e w1, ?_⟩
    cases b1 with
    | true =>
      rw [if_pos rfl] at h1 ⊢
      exact gb H0 Rw O W s σ H1 Q R1 (Res.wp_imp h1 fun p2 hp2 v2 H2 k2 r2 f2 => hp2 v2 H2 (k1.trans k2) r2 (fl_join2 (f2.back (k1.back R1.row))))
    | false =>
      rw [if_neg Bool.false_ne_true] at h1 ⊢
      exact h1 v H1 k1 R1.row (fl_join1 f1)
  · simp only [evE] at q
    refine gt H0 Rw O W s σ H _ R ?_
    refine Res.wp_bind.mpr (Res.wp_imp (nwp (nwp q)) fun p hp => ?_)
    obtain ⟨b1, e, h1⟩ := wpO hp
    rw [e]
    show ∀ H', _
    intro H1 k1 r1
    cases b1 with
    | true =>
      rw [if_pos rfl] at h1 ⊢
      exact gu H0 Rw O W s σ H1 Q (R.step k1 r1) (Res.wp_bind.mpr (Res.wp_imp h1 fun p2 hp2 => Res.wp_imp hp2 fun b2 hb2 H' k2 r2 => hb2 H' (k1.trans k2) r2))
    | false =>
      rw [if_neg Bool.false_ne_true] at h1 ⊢
      have h2 : (Res.ofO (truthP p)).wp (fun b => ∀ H', Kp Rw H H' → Rws m.K Rw H' → Q b H') No := h1
      rw [e] at h2
      exact h2 H1 k1 r1
theorem se_or {a b : CE} {x y : Expr} {rest : List Expr} {pos : Pos} (ha : SE m c a x) (ta : ST m c a x) (hb : SE m c b (.BoolOp .Or (y :: rest) pos)) (tb : ∃ t : TT, (∀ X, XOk m c X → PW X (.BoolOp .Or (y :: rest) pos) t) ∧ GT m b t) :
    SE m c (.or a b) (.BoolOp .Or (x :: y :: rest) pos) ∧ ∃ t : TT, (∀ X, XOk m c X → PW X (.BoolOp .Or (x :: y :: rest) pos) t) ∧ GT m (.or a b) t := by
  obtain ⟨ta', pa, ga⟩ := ha
  obtain ⟨tb', pb, gb⟩ := hb
  obtain ⟨tt, pt, gt⟩ := ta
  obtain ⟨tu, pu, gu⟩ := tb
  refine ⟨⟨tOrT m.K ta' tb', fun X hX => ?_, fun H0 Rw O W s σ H Q R q => ?_⟩, ⟨tOr tt tu, fun X hX => pw_or (pt X hX) (pu X hX), fun H0 Rw O W s σ H Q R q => ?_⟩⟩
  · have := pe_orT (pa X hX) (pb X hX)
    rw [hX.K] at this
    exact this
  · simp only [evE] at q
    refine one (Q := fun v H1 => ∃ k, TruV m.K v H1 k ∧ if k = true then Q v H1 else tb' σ H1 Q) ga R (Res.wp_imp (nwp q) fun p hp v H1 k1 R1 f1 w1 => ?_)
    obtain ⟨b1, e, h1⟩ := wpO hp
    refine ⟨b1, truth_ok e w1, ?_⟩
    cases b1 with
    | false =>
      rw [if_neg Bool.false_ne_true] at h1 ⊢
      exact gb H0 Rw O W s σ H1 Q R1 (Res.wp_imp h1 fun p2 hp2 v2 H2 k2 r2 f2 => hp2 v2 H2 (k1.trans k2) r2 (fl_join2 (f2.back (k1.back R1.row))))
    | true =>
      rw [if_pos rfl] at h1 ⊢
      exact h1 v H1 k1 R1.row (fl_join1 f1)
  · simp only [evE] at q
    refine gt H0 Rw O W s σ H _ R ?_
    refine Res.wp_bind.mpr (Res.wp_imp (nwp (nwp q)) fun p hp => ?_)
    obtain ⟨b1, e, h1⟩ := wpO hp
    rw [e]
    show ∀ H', _
    intro H1 k1 r1
    cases b1 with
    | false =>
      rw [if_neg Bool.false_ne_true] at h1 ⊢
      exact gu H0 Rw O W s σ H1 Q (R.step k1 r1) (Res.wp_bind.mpr (Res.wp_imp h1 fun p2 hp2 => Res.wp_imp hp2 fun b2 hb2 H' k2 r2 => hb2 H' (k1.trans k2) r2))
    | true =>
      rw [if_pos rfl] at h1 ⊢
      have h2 : (Res.ofO (truthP p)).wp (fun b => ∀ H', Kp Rw H H' → Rws m.K Rw H' → Q b H') No := h1
      rw [e] at h2
      exact h2 H1 k1 r1
theorem se_ifx {d a b : CE} {x y z : Expr} {pos : Pos} (hd : ST m c d x) (ha : SE m c a y) (hb : SE m c b z) (ta : ST m c a y) (tb : ST m c b z) :
    SE m c (.ifx d a b) (.IfExp x y z pos) ∧ ST m c (.ifx d a b) (.IfExp x y z pos) := by
  obtain ⟨td, pd, gd⟩ := hd
  obtain ⟨ta', pa, ga⟩ := ha
  obtain ⟨tb', pb, gb⟩ := hb
  obtain ⟨tt, pt, gt⟩ := ta
  obtain ⟨tu, pu, gu⟩ := tb
  refine ⟨⟨tIf td ta' tb', fun X hX => pe_ifExp (pd X hX) (pa X hX) (pb X hX), fun H0 Rw O W s σ H Q R q => ?_⟩,
    ⟨fun σ H Q => td σ H fun k H1 => if k = true then tt σ H1 Q else tu σ H1 Q, fun X hX => ⟨fun pins s σ H Q I h => ?_⟩, fun H0 Rw O W s σ H Q R q => ?_⟩⟩
  · simp only [evE] at q
    refine gd H0 Rw O W s σ H _ R ?_
    refine Res.wp_bind.mpr (Res.wp_imp (nwp q) fun p hp => Res.wp_imp (nwp hp) fun b1 h1 H1 k1 r1 => ?_)
    have R1 := R.step k1 r1
    cases b1 with
    | true =>
      rw [if_pos rfl] at h1 ⊢
      exact ga H0 Rw O W s σ H1 Q R1 (Res.wp_imp h1 fun p2 hp2 v2 H2 k2 r2 f2 => hp2 v2 H2 (k1.trans k2) r2 (fl_join1 (f2.back (k1.back R1.row))))
    | false =>
      rw [if_neg Bool.false_ne_true] at h1 ⊢
      exact gb H0 Rw O W s σ H1 Q R1 (Res.wp_imp h1 fun p2 hp2 v2 H2 k2 r2 f2 => hp2 v2 H2 (k1.trans k2) r2 (fl_join2 (f2.back (k1.back R1.row))))
  · refine PyProof.Rows.isTrue_IfExp (thn ((pd X hX).run pins s σ H _ I h) fun b s1 ⟨H1, I1, q1⟩ => ?_)
    cases b with
    | true => exact (pt X hX).run pins s1 σ H1 Q I1 q1
    | false => exact (pu X hX).run pins s1 σ H1 Q I1 q1
  · simp only [evE] at q
    refine gd H0 Rw O W s σ H _ R ?_
    refine Res.wp_bind.mpr (Res.wp_imp (nwp (nwp q)) fun p hp => Res.wp_imp (nwp hp) fun b1 h1 H1 k1 r1 => ?_)
    have R1 := R.step k1 r1
    cases b1 with
    | true =>
      rw [if_pos rfl] at h1 ⊢
      exact gt H0 Rw O W s σ H1 Q R1 (Res.wp_bind.mpr (Res.wp_imp h1 fun p2 hp2 => Res.wp_imp hp2 fun b2 hb2 H' k2 r2 => hb2 H' (k1.trans k2) r2))
    | false =>
      rw [if_neg Bool.false_ne_true] at h1 ⊢
      exact gu H0 Rw O W s σ H1 Q R1 (Res.wp_bind.mpr (Res.wp_imp h1 fun p2 hp2 => Res.wp_imp hp2 fun b2 hb2 H' k2 r2 => hb2 H' (k1.trans k2) r2))
end
end Ev
set_option autoImplicit false
set_option linter.all false
set_option Elab.async false
set_option maxRecDepth 100000
/-! Ev7: displays, subscripts, calls. -/
namespace Ev
open PySem PySem.Spec PyProof.Rows L2
section
variable {m : Md} {c : Cc}
/-! ### arguments -/
theorem Wreps.stp {H H' : Hp} {Rw O O' : AP1} (k : Kp Rw H H') (ro : ∀ a, Rw a → O a) (oo : ∀ a, O a → O' a) : ∀ {ps : List PV} {vs : List V}, Wreps H Rw O O' ps vs → Wreps H' Rw O O' ps vs
  | [], _, h => h
  | p :: ps, _, h => by
    obtain ⟨w, ws, rfl, r1, r2⟩ := h
    exact ⟨w, ws, rfl, r1.stp k ro oo, Wreps.stp k ro oo r2⟩
theorem ses_nil : SEs m c .nil [] :=
  ⟨tNil, fun X _ => pa_nil, fun H0 Rw O W s σ H Q R q => q [] H Kp.refl R.row rfl fun _ => by simp [Reps]⟩
theorem ses_cons {a : CE} {as : CEs} {x : Expr} {xs : List Expr} (hs : notStar x = true) (ha : SE m c a x) (hr : SEs m c as xs) : SEs m c (.cons a as) (x :: xs) := by
  obtain ⟨ta, pa, ga⟩ := ha
  obtain ⟨tr, pr, gr⟩ := hr
  refine ⟨tCons ta tr, fun X hX => pa_cons (pa X hX) (pr X hX) (star_cons hs), fun H0 Rw O W s σ H Q R q => ?_⟩
  simp only [evEs] at q
  refine one (Q := fun v H1 => tr σ H1 fun vs H2 => Q (v :: vs) H2) ga R (Res.wp_imp (nwp q) fun p hp v H1 k1 R1 f1 w1 => ?_)
  refine gr H0 Rw O W s σ H1 _ R1 (Res.wp_imp (nwp hp) fun ps hps vs H2 k2 r2 w2 cl2 => ?_)
  refine hps (v :: vs) H2 (k1.trans k2) r2 ⟨v, vs, rfl, w1.stp k2 R.ro fun _ z => .inl z, w2⟩ fun hn => ?_
  simp only [anyRaw, Bool.or_eq_false_iff] at hn
  simp only [Reps]
  exact ⟨v, vs, rfl, (FRep.clean f1 (fl_raw m.nw a hn.1)).kp (k2.mono fun a z => .inl (R.ro a z)), cl2 hn.2⟩
abbrev GA (m : Md) (ces : CEs) (t : TA) : Prop := ∀ (H0 : Hp) (Rw O : AP1) (W : Nat → Option Addr) (s : Stt) (σ : L2.St) (H : Hp) (Q : List V → Hp → Prop), Rl m.K H0 Rw O W s σ H →
    (evEs m.gl m.cl s ces).wp (fun ps => ∀ vs H', Kp Rw H H' → Rws m.K Rw H' → Wreps H' Rw O (Oo O W) ps vs → (anyRaw ces = false → Reps H' Rw (Oo O W) ps vs) → Q vs H') No → t σ H Q
theorem args {as : CEs} {ta : TA} {Q : List V → Hp → Prop} (ga : GA m as ta)
    {H0 : Hp} {Rw O : AP1} {W : Nat → Option Addr} {s : Stt} {σ : L2.St} {H : Hp} (r : Rl m.K H0 Rw O W s σ H)
    (h : (evEs m.gl m.cl s as).wp (fun ps => ∀ vs H1, Kp Rw H H1 → Rl m.K H0 Rw O W s σ H1 → Wreps H1 Rw O (Oo O W) ps vs → (anyRaw as = false → Reps H1 Rw (Oo O W) ps vs) → Q vs H1) No) : ta σ H Q :=
  ga H0 Rw O W s σ H Q r (Res.wp_imp h fun p hp v H1 k1 r1 f1 cl => hp v H1 k1 (r.step k1 r1) f1 cl)

/-! ### displays -/
def lenS : CEs → Nat
  | .nil => 0
  | .cons _ es => lenS es + 1
theorem evEs_len {Q : List PV → Prop} : ∀ {ces : CEs} {s : Stt}, (evEs m.gl m.cl s ces).wp Q No → (evEs m.gl m.cl s ces).wp (fun ps => ps.length = lenS ces ∧ Q ps) No := by
  intro ces
  induction ces using CEs.rec (motive_1 := fun _ => True) (motive_3 := fun _ => True) (motive_4 := fun _ => True) (motive_5 := fun _ => True) generalizing Q with
  | nil => intro s q; exact ⟨rfl, q⟩
  | cons e es _ ih =>
    intro s q
    simp only [evEs] at q ⊢
    refine Res.wp_bind.mpr (Res.wp_imp (nwp q) fun p hp => Res.wp_bind.mpr (Res.wp_imp (ih (nwp hp)) fun ps ⟨h1, h2⟩ => ⟨by simp [lenS, h1], h2⟩))
  | _ => trivial
theorem wreps_len {H : Hp} {Rw O O' : AP1} : ∀ {ps : List PV} {vs : List V}, Wreps H Rw O O' ps vs → vs.length = ps.length
  | [], vs, h => by have e : vs = [] := h; subst e; rfl
  | p :: ps, _, h => by
    obtain ⟨w, ws, rfl, _, r⟩ := h
    simp only [List.length_cons, wreps_len r]
theorem se_tup {as : CEs} {xs : List Expr} {k : Nat} {pos : Pos} (hn : anyRaw as = false) (hl : lenS as ≤ 1000) (ha : SEs m c as xs) : SE m c (.tup as) (.Tuple xs k pos) := by
  obtain ⟨ta, pa, ga⟩ := ha
  refine ⟨tTup ta, fun X hX => pe_tup (pa X hX), fun H0 Rw O W s σ H Q R q => ?_⟩
  simp only [evE] at q
  refine args (Q := fun vs H1 => vs.length ≤ sizeLine ∧ ∀ p, H1 p = none → Q (.ref p) (upd H1 p (.tup vs))) ga R (Res.wp_imp (evEs_len (nwp q)) fun ps ⟨hl2, hps⟩ vs H1 k1 R1 w1 cl => ⟨?_, fun q1 hq => ?_⟩)
  · rw [wreps_len w1, hl2]
    exact Nat.le_trans hl (by decide)
  · exact Ans.tup (O := O) (R.ans k1 R1 hps) R1.sts.trk R1.sts.ro (cl hn) hq
theorem se_lst {as : CEs} {xs : List Expr} {pos : Pos} (hn : anyRaw as = false) (hl : lenS as ≤ 1000) (ha : SEs m c as xs) : SE m c (.lst as) (.List xs pos) := by
  obtain ⟨ta, pa, ga⟩ := ha
  refine ⟨tLst ta, fun X hX => pe_lst (pa X hX), fun H0 Rw O W s σ H Q R q => ?_⟩
  simp only [evE] at q
  refine args (Q := fun vs H1 => vs.length ≤ sizeLine ∧ ∀ p, H1 p = none → Q (.ref p) (upd H1 p (.lst vs))) ga R (Res.wp_imp (evEs_len (nwp q)) fun ps ⟨hl2, hps⟩ vs H1 k1 R1 w1 cl => ⟨?_, fun q1 hq => ?_⟩)
  · rw [wreps_len w1, hl2]
    exact Nat.le_trans hl (by decide)
  · exact Ans.lst (O := O) (R.ans k1 R1 hps) R1.sts.trk R1.sts.ro (cl hn) hq
theorem se_dic0 {pos : Pos} : SE m c .dic0 (.Dict [] [] pos) := by
  refine ⟨tDNewK, fun X hX => pe_dnewK, fun H0 Rw O W s σ H Q R q => fun p hp => ?_⟩
  have q' : EQ m .frs H Rw O W Q (.dic []) := q
  exact Ans.dic (O := O) (R.ans Kp.refl R q') R.sts.trk R.sts.ro (by simp [RepsK]) hp

/-! ### subscripts -/
theorem se_idx {a b : CE} {x y : Expr} {pos : Pos} (hy : notSl y = true) (ha : SE m c a x) (hb : SE m c b y) : SE m c (.idx a b) (.Subscript x y pos) := by
  obtain ⟨ta, pa, ga⟩ := ha
  obtain ⟨tb, pb, gb⟩ := hb
  obtain ⟨r, hr, hs⟩ := idx_snd m.K
  refine ⟨tOp r ta tb, fun X hX => pe_ix (hr X hX.K hX.units) (pa X hX) (pb X hX) (plain_ix hy), fun H0 Rw O W s σ H Q R q => ?_⟩
  simp only [evE] at q
  refine two (Q := fun v u H2 => r v u H2 Q) ga gb R (Res.wp_imp (nwp q) fun p hp => Res.wp_imp (nwp hp) fun p2 hp2 v u H2 k R2 w1 w2 => ?_)
  cases e : idxP p p2 with
  | none => rw [e] at hp2; exact hp2.elim
  | some z =>
    rw [e] at hp2
    exact hs p p2 z v u H2 Rw O (Oo O W) Q e w1 w2 fun v' rv => hp2 v' H2 k R2.row rv
/-- a part of a slice -/
def SO (m : Md) (c : Cc) (ce : CE) (e : Option Expr) : Prop := ∃ t : TO, (∀ X, XOk m c X → PO X e t) ∧
  ∀ (H0 : Hp) (Rw O : AP1) (W : Nat → Option Addr) (s : Stt) (σ : L2.St) (H : Hp) (Q : Option Int → Hp → Prop), Rl m.K H0 Rw O W s σ H →
    (optE (isNop ce) (evE m.gl m.cl s ce)).wp (fun o => ∀ H', Kp Rw H H' → Rws m.K Rw H' → Q o H') No → t σ H Q
theorem so_none {ce : CE} (h : isNop ce = true) : SO m c ce none :=
  ⟨tNoPart, fun X _ => po_none, fun H0 Rw O W s σ H Q R q => by unfold optE at q; rw [if_pos h] at q; exact q H Kp.refl R.row⟩
theorem so_some {ce : CE} {x : Expr} (h : isNop ce = false) (hx : SE m c ce x) : SO m c ce (some x) := by
  obtain ⟨t, p, g⟩ := hx
  refine ⟨tPart t, fun X hX => po_some (p X hX), fun H0 Rw O W s σ H Q R q => ?_⟩
  unfold optE at q
  rw [if_neg (by rw [h]; exact Bool.false_ne_true)] at q
  refine one (Q := fun v H1 => ∃ i, v = .int i ∧ Q (some i) H1) g R (Res.wp_imp (nwp q) fun p hp v H1 k1 R1 f1 w1 => ?_)
  cases p with
  | int i => exact ⟨i, w1, hp H1 k1 R1.row⟩
  | _ => exact hp.elim
theorem se_cut {a lo hi : CE} {x : Expr} {l h : Option Expr} {p2 pos : Pos} (ha : SE m c a x) (hl : SO m c lo l) (hh : SO m c hi h) : SE m c (.cut a lo hi) (.Subscript x (.Slice l h none p2) pos) := by
  obtain ⟨ta, pa, ga⟩ := ha
  obtain ⟨tl, pl, gl⟩ := hl
  obtain ⟨th, ph, gh⟩ := hh
  obtain ⟨r, hr, hs⟩ := cut_snd m.K
  refine ⟨tSl r ta tl th, fun X hX => pe_slice (hr X hX.K) (pa X hX) (pl X hX) (ph X hX), fun H0 Rw O W s σ H Q R q => ?_⟩
  simp only [evE] at q
  refine one (Q := fun v H1 => tl σ H1 fun l H2 => th σ H2 fun u H3 => r v l u H3 Q) ga R (Res.wp_imp (nwp q) fun p hp v H1 k1 R1 f1 w1 => ?_)
  refine gl H0 Rw O W s σ H1 _ R1 (Res.wp_imp (nwp hp) fun lo' hp2 H2 k2 r2 => ?_)
  have R2 := R1.step k2 r2
  refine gh H0 Rw O W s σ H2 _ R2 (Res.wp_imp (nwp hp2) fun hi' hp3 H3 k3 r3 => ?_)
  have R3 := R2.step k3 r3
  cases e : cutP p lo' hi' with
  | none => rw [e] at hp3; exact hp3.elim
  | some z =>
    rw [e] at hp3
    exact hs p z lo' hi' v H3 Rw O (Oo O W) Q e R3.sts (w1.stp (k2.trans k3) R.ro fun _ z => .inl z) (R.ans ((k1.trans k2).trans k3) R3 hp3)
theorem se_rev {a : CE} {x : Expr} {k : Nat} {p1 p2 p3 pos : Pos} (ha : SE m c a x) : SE m c (.rev a) (.Subscript x (.Slice none none (some (.UnaryOp .USub (.Constant (.int 1) k p1) p2)) p3) pos) := by
  obtain ⟨ta, pa, ga⟩ := ha
  refine ⟨tRevSL m.K ta, fun X hX => ?_, fun H0 Rw O W s σ H Q R q => ?_⟩
  · have := pe_revSL (k := k) (p1 := p1) (p2 := p2) (p3 := p3) (pos := pos) (pa X hX)
    rw [hX.K] at this
    exact this
  · simp only [evE] at q
    refine one ga R (Res.wp_imp (nwp q) fun p hp v H1 k1 R1 f1 w1 => ?_)
    cases p with
    | str s =>
      have hp' : EQ m .frs H Rw O W Q (.str s.reverse) := hp
      obtain ⟨rfl, ok⟩ := w_str w1
      exact .inl ⟨s, rfl, ok.len, hp' _ H1 k1 R1.row (show Rep _ _ _ _ _ from r_str (okS_sub ok (by simp) fun c hc => by simpa using hc))⟩
    | lst xs =>
      have hp' : EQ m .frs H Rw O W Q (.lst xs.reverse) := hp
      obtain ⟨a, vs, rfl, ha, _, r⟩ := w1
      exact .inr ⟨a, vs, rfl, SqL.of ha, fun p hp2 => Ans.lst (O := O) (R.ans k1 R1 hp') R1.sts.trk R1.sts.ro r.reverse hp2⟩
    | _ => exact hp.elim

/-! ### calls of built-ins -/
theorem se_bi (M : MOk m c) {b : Bi} {as : CEs} {x : Str} {e : Expr} {es : List Expr} {p pos : Pos} (hb : ∀ ts, b ≠ .isinst ts) (hg : glB c x = true) (hx : x = Str.ofString (biNm b).1) (hst : (e :: es).all notStar = true) (ha : SEs m c as (e :: es)) :
    SE m c (.bi b as) (.Call (.Name x p) (e :: es) [] pos) := by
  obtain ⟨ta, pa, ga⟩ := ha
  obtain ⟨r, hr, hs⟩ := bi_snd m.K b
  have hfree : m.mg x = none := by
    rw [hx]
    refine M.bi (biNm b).1 ?_
    cases b <;> simp [biNm]
  simp only [List.all_cons, Bool.and_eq_true] at hst
  have main : ∀ (H0 : Hp) (Rw O : AP1) (W : Nat → Option Addr) (s : Stt) (σ : L2.St) (H : Hp) (Q : VK), Rl m.K H0 Rw O W s σ H → (evE m.gl m.cl s (.bi b as)).wp (EQ m .frs H Rw O W Q) No → tCB r ta σ H Q := by
    intro H0 Rw O W s σ H Q R q
    simp only [evE] at q
    refine args (Q := fun vs H1 => r vs H1 Q) ga R (Res.wp_imp (nwp q) fun ps hps vs H1 k1 R1 w1 cl => ?_)
    cases e : biP b ps with
    | none => rw [e] at hps; exact hps.elim
    | some z =>
      rw [e] at hps
      exact hs ps z vs H1 Rw O (Oo O W) Q hb e R1.sts w1 (R.ans k1 R1 hps)
  have hbt : bootBuiltins x = some (biV b) := by
    rw [hx]
    cases b <;> first | decide +kernel | exact absurd rfl (hb _)
  refine ⟨tCB r ta, fun X hX => ?_, main⟩
  obtain ⟨g1, g2, g3⟩ := hX.glob hg
  have hr' := hr X hX.K hX.calm
  unfold biV at hbt hr'
  cases hty : (biNm b).2 with
  | true =>
    rw [hty, if_pos rfl] at hbt hr'
    exact pe_callTy hr' g1 (by rw [hX.mg]; exact hfree) hbt (pa X hX) g3 g2 (star_cons hst.1) (star_plain hst.2)
  | false =>
    rw [hty, if_neg Bool.false_ne_true] at hbt hr'
    exact pe_callB hr' g1 (by rw [hX.mg]; exact hfree) hbt (pa X hX) g3 g2 (star_cons hst.1) (star_plain hst.2)

/-! ### methods -/
theorem me_ty {k : Me} {p : PV} {v : V} {H : Hp} {Rw O O' : AP1} {K : PySem.W.Frag} (h : meOk k p = true) (w : WRep H Rw O O' p v) : tyV K (meTy k) v H := by
  unfold meOk at h
  split at h <;> first | contradiction | skip
  · obtain ⟨rfl, _⟩ := w_str w
    have e : meL k = false := by simpa using h
    show meTy k = "str"
    unfold meTy
    rw [e]; rfl
  · obtain ⟨a, vs, rfl, ha, _, _⟩ := w
    refine .inl ⟨?_, vs, SqL.of ha⟩
    unfold meTy
    rw [h]; rfl
theorem few_ok {cpos : Pos} {env : Env} {es : List Expr} (h : es.all notStar = true) (hl : es.length < 30) :
    ((backTo cpos (starEach es env)).all (fun x => !x.1) && (backToKw cpos (keywordEach [] env)).all (fun x => x.1.isSome) && decide (es.length + ([] : List Keyword).length + (if ([] : List Keyword).isEmpty then 0 else 1) < 30)) = true := by
  rw [star_all h]
  unfold backTo
  simp [keywordEach, backToKw]
  exact hl
theorem se_me {k : Me} {a : CE} {as : CEs} {o e : Expr} {es : List Expr} {nm : Str} {apos pos : Pos} (hn : nm = Str.ofString (meNm k)) (ho : notCall0 o = true) (hl : (apos.endLine == pos.line) = true) (hst : (e :: es).all notStar = true) (hlen : (e :: es).length < 30)
    (ha : SE m c a o) (hr : SEs m c as (e :: es)) : SE m c (.me k a as) (.Call (.Attribute o nm apos) (e :: es) [] pos) := by
  obtain ⟨ta, pa, ga⟩ := ha
  obtain ⟨tr, pr, gr⟩ := hr
  obtain ⟨r, hr, hs⟩ := me_snd m.K k
  have hst' := hst
  simp only [List.all_cons, Bool.and_eq_true] at hst'
  refine ⟨tBM m.K (meTy k) r ta tr, fun X hX => ?_, fun H0 Rw O W s σ H Q R q => ?_⟩
  · have hmt := hr X hX.K hX.units
    have hpe : ∀ (T id : String), PlainAttrs T → Slot T nm id → typeOf (.builtin id) = pure (.type "method_descriptor") → MtR X id r → PE X (.Call (.Attribute o nm apos) (e :: es) [] pos) (tBM m.K T r ta tr) := fun T id h1 h2 h3 h4 => by
      have := pe_bm h1 h2 h3 h4 (pa X hX) (pr X hX) (attr_base ho) (few_ok hst hlen) hl (star_cons hst'.1) (star_plain hst'.2)
      rw [hX.K] at this
      exact this
    subst hn
    cases k with
    | join => exact hpe "str" "str.join" PySem.F.plainAttrs_str PySem.F.slot_str_join PySem.F.type_str_join hmt
    | index => exact hpe "str" "str.index" PySem.F.plainAttrs_str PySem.F.slot_str_index PySem.F.type_str_index hmt
    | find => exact hpe "str" "str.find" PySem.F.plainAttrs_str PySem.F.slot_str_find PySem.F.type_str_find hmt
    | startswith => exact hpe "str" "str.startswith" PySem.F.plainAttrs_str PySem.F.slot_str_startswith PySem.F.type_str_startswith hmt
    | endswith => exact hpe "str" "str.endswith" PySem.F.plainAttrs_str PySem.F.slot_str_endswith PySem.F.type_str_endswith hmt
    | lindex => exact hpe "list" "list.index" PySem.F.plainAttrs_list PySem.F.slot_list_index PySem.F.type_list_index hmt
    | scount => exact hpe "str" "str.count" PySem.F.plainAttrs_str PySem.F.slot_str_count PySem.F.type_str_count hmt
    | lcount => exact hpe "list" "list.count" PySem.F.plainAttrs_list PySem.F.slot_list_count PySem.F.type_list_count hmt
  · simp only [evE] at q
    refine one (Q := fun v H1 => tyV m.K (meTy k) v H1 ∧ tr σ H1 fun xs H2 => r v xs H2 Q) ga R (Res.wp_imp (nwp q) fun p hp v H1 k1 R1 f1 w1 => ?_)
    cases hok : meOk k p with
    | false => rw [hok, if_neg Bool.false_ne_true] at hp; exact hp.elim
    | true =>
      rw [hok, if_pos rfl] at hp
      refine ⟨me_ty hok w1, args gr R1 (Res.wp_imp (nwp hp) fun ps hps vs H2 k2 R2 w2 _ => ?_)⟩
      cases e : meP k p ps with
      | none => rw [e] at hps; exact hps.elim
      | some z =>
        rw [e] at hps
        exact hs p ps z v vs H2 Rw O (Oo O W) Q e R2.sts (w1.stp k2 R.ro fun _ z => .inl z) w2 (R.ans (k1.trans k2) R2 hps)

/-! ### isinstance -/
def tyNm : Nat → String
  | 0 => "int"
  | 1 => "bool"
  | 2 => "str"
  | 3 => "tuple"
  | 4 => "list"
  | _ => "dict"
/-- the types by their names -/
def tyNames (c : Cc) : List Nat → List Expr → Bool
  | [], [] => true
  | t :: ts, .Name x _ :: xs => decide (t < 6) && glB c x && (x == Str.ofString (tyNm t)) && tyNames c ts xs
  | _, _ => false
theorem ty_boot : ∀ t : Nat, t < 6 → bootBuiltins (Str.ofString (tyNm t)) = some (.type (tyNm t)) := by
  intro t h
  match t, h with
  | 0, _ => decide +kernel
  | 1, _ => decide +kernel
  | 2, _ => decide +kernel
  | 3, _ => decide +kernel
  | 4, _ => decide +kernel
  | 5, _ => decide +kernel
theorem ty_nm_mem : ∀ t : Nat, t < 6 → tyNm t ∈ ["len", "sum", "all", "any", "min", "max", "sorted", "isinstance", "range", "enumerate", "zip", "int", "bool", "str", "tuple", "list", "dict", "set"] := by
  intro t h
  match t, h with
  | 0, _ => decide
  | 1, _ => decide
  | 2, _ => decide
  | 3, _ => decide
  | 4, _ => decide
  | 5, _ => decide
/-- the name of a value's type -/
def tyOf : PV → String
  | .non => "NoneType"
  | .bl _ => "bool"
  | .int _ => "int"
  | .str _ => "str"
  | .tup _ => "tuple"
  | .lst _ => "list"
  | .dic _ => "dict"
  | .row => "list"
  | .obj _ _ _ => "list"
theorem kit_of {K : PySem.W.Frag} {p : PV} {t : Nat} {b : Bool} (ht : t < 6) (h : isTy p t = some b) : PySem.W.kitOne K (.type (tyOf p)) (.type (tyNm t)) = some b := by
  have all : ∀ x ∈ ["NoneType", "bool", "int", "str", "tuple", "list", "dict"], ∀ t : Nat, t < 6 → kitB x (tyNm t) = some (x == tyNm t || (x == "bool" && t == 0)) := by
    decide +kernel
  have e := all (tyOf p) (by cases p <;> simp [tyOf]) t ht
  refine (kit_ty e).trans ?_
  cases p <;> simp only [isTy, Option.some.injEq] at h <;> first
    | (subst h
       match t, ht with
       | 0, _ => rfl
       | 1, _ => rfl
       | 2, _ => rfl
       | 3, _ => rfl
       | 4, _ => rfl
       | 5, _ => rfl)
    | cases h
theorem tyX_of {K : PySem.W.Frag} {H : Hp} {Rw O O' : AP1} {p : PV} {v : V} (w : WRep H Rw O O' p v) (n : p ≠ .row) (n2 : ∀ C z0 fs, p ≠ .obj C z0 fs) : TyX K H v (.type (tyOf p)) := by
  cases p with
  | non => have e : v = .non := w; subst e; exact .base .non
  | bl b => have e : v = .bl b := w; subst e; exact .base (.bl b)
  | int i => have e : v = .int i := w; subst e; exact .base (.int i)
  | str s => obtain ⟨rfl, _⟩ := w_str w; exact .base (.str _)
  | tup xs =>
    have w' : Rep H Rw O' _ v := w
    simp only [Rep] at w'
    obtain ⟨a, vs, rfl, ha, _⟩ := w'
    exact .base (.tup ha)
  | lst xs => obtain ⟨a, vs, rfl, ha, _⟩ := w; exact .base (.lst ha)
  | dic xs => obtain ⟨a, vs, rfl, ha, _⟩ := w; exact .base (.dK ha)
  | row => exact absurd rfl n
  | obj C z0 fs => exact absurd rfl (n2 C z0 fs)
theorem kits_of {K : PySem.W.Frag} {p : PV} : ∀ {ts : List Nat} {b : Bool}, (∀ t ∈ ts, t < 6) → isTys p ts = some b → PySem.W.kitAny K (.type (tyOf p)) (ts.map fun t => .type (tyNm t)) = some b
  | [], b, _, h => by cases p <;> simp only [isTys, Option.some.injEq] at h <;> first | (subst h; rfl) | cases h
  | t :: ts, b, ht, h => by
    unfold isTys at h
    split at h
    · rename_i a1 a2 h1 h2
      cases h
      refine kitAny_cons (kit_of (ht t List.mem_cons_self) h1) (fun e => ?_) (fun e => by rw [e]; rfl)
      rw [e]
      exact kits_of (fun t' hm => ht t' (List.mem_cons_of_mem _ hm)) h2
    · cases h
/-- the names of types as arguments -/
theorem ty_args (M : MOk m c) : ∀ {ts : List Nat} {xs : List Expr}, tyNames c ts xs = true → ∃ t : TA, (∀ X, XOk m c X → PA X xs t) ∧ (∀ σ H (Q : List V → Hp → Prop), Q (ts.map fun k => V.ty (tyNm k)) H → t σ H Q) ∧ (∀ k ∈ ts, k < 6) ∧ xs.all notStar = true
  | [], [], _ => ⟨tNil, fun X _ => pa_nil, fun σ H Q q => q, (fun _ z => nomatch z), rfl⟩
  | k :: ts, .Name x p :: xs, h => by
    simp only [tyNames, Bool.and_eq_true, decide_eq_true_eq, beq_iff_eq] at h
    obtain ⟨⟨⟨h1, h2⟩, h3⟩, h4⟩ := h
    obtain ⟨t, g1, g2, g3, g4⟩ := ty_args M h4
    refine ⟨tCons (tC (.ty (tyNm k))) t, fun X hX => pa_cons ?_ (g1 X hX) (star_cons rfl), fun σ H Q q => g2 σ H _ q, fun j hj => ?_, ?_⟩
    · obtain ⟨a1, a2, a3⟩ := hX.glob h2
      subst h3
      exact pe_bltn a1 (by rw [hX.mg]; exact M.bi _ (ty_nm_mem k h1)) (ty_boot k h1) rfl a3 a2
    · rcases List.mem_cons.mp hj with z | z
      · rw [z]; exact h1
      · exact g3 j z
    · rw [List.all_cons, g4]; rfl
  | [], _ :: _, h => by simp [tyNames] at h
  | _ :: _, [], h => by simp [tyNames] at h
  | k :: ts, .BoolOp _ _ _ :: xs, h => by simp [tyNames] at h
  | k :: ts, .NamedExpr _ _ _ :: xs, h => by simp [tyNames] at h
  | k :: ts, .BinOp _ _ _ _ :: xs, h => by simp [tyNames] at h
  | k :: ts, .UnaryOp _ _ _ :: xs, h => by simp [tyNames] at h
  | k :: ts, .Lambda _ _ _ _ :: xs, h => by simp [tyNames] at h
  | k :: ts, .IfExp _ _ _ _ :: xs, h => by simp [tyNames] at h
  | k :: ts, .Dict _ _ _ :: xs, h => by simp [tyNames] at h
  | k :: ts, .Set _ _ _ :: xs, h => by simp [tyNames] at h
  | k :: ts, .ListComp _ _ _ _ :: xs, h => by simp [tyNames] at h
  | k :: ts, .SetComp _ _ _ _ :: xs, h => by simp [tyNames] at h
  | k :: ts, .DictComp _ _ _ _ _ :: xs, h => by simp [tyNames] at h
  | k :: ts, .GeneratorExp _ _ _ _ :: xs, h => by simp [tyNames] at h
  | k :: ts, .Await _ _ :: xs, h => by simp [tyNames] at h
  | k :: ts, .Yield _ _ :: xs, h => by simp [tyNames] at h
  | k :: ts, .YieldFrom _ _ :: xs, h => by simp [tyNames] at h
  | k :: ts, .Compare _ _ _ _ :: xs, h => by simp [tyNames] at h
  | k :: ts, .Call _ _ _ _ :: xs, h => by simp [tyNames] at h
  | k :: ts, .FormattedValue _ _ _ _ :: xs, h => by simp [tyNames] at h
  | k :: ts, .JoinedStr _ _ :: xs, h => by simp [tyNames] at h
  | k :: ts, .Constant _ _ _ :: xs, h => by simp [tyNames] at h
  | k :: ts, .Attribute _ _ _ :: xs, h => by simp [tyNames] at h
  | k :: ts, .Subscript _ _ _ :: xs, h => by simp [tyNames] at h
  | k :: ts, .Starred _ _ :: xs, h => by simp [tyNames] at h
  | k :: ts, .List _ _ :: xs, h => by simp [tyNames] at h
  | k :: ts, .Tuple _ _ _ :: xs, h => by simp [tyNames] at h
  | k :: ts, .Slice _ _ _ _ :: xs, h => by simp [tyNames] at h
theorem boot_isinst : bootBuiltins (Str.ofString "isinstance") = some (.builtin "isinstance") := by decide +kernel
theorem se_isi (M : MOk m c) {a : CE} {t : Nat} {x y : Str} {e : Expr} {p p2 pos : Pos} (hg : glB c x = true) (hx : x = Str.ofString "isinstance") (hst : notStar e = true) (hy : tyNames c [t] [.Name y p2] = true) (ha : SE m c a e) :
    SE m c (.bi (.isinst [t]) (.cons a .nil)) (.Call (.Name x p) [e, .Name y p2] [] pos) := by
  obtain ⟨ta, pa, ga⟩ := ha
  obtain ⟨tt, g1, g2, g3, g4⟩ := ty_args M hy
  have ht : t < 6 := g3 t (by simp)
  refine ⟨tCB (rIsi m.K) (tCons ta tt), fun X hX => ?_, fun H0 Rw O W s σ H Q R q => ?_⟩
  · obtain ⟨a1, a2, a3⟩ := hX.glob hg
    subst hx
    have hr : CallR X (.builtin "isinstance") (rIsi m.K) := by have := call_isi (X := X); rw [hX.K] at this; exact this
    exact pe_callB hr a1 (by rw [hX.mg]; exact M.bi _ (by simp)) boot_isinst (pa_cons (pa X hX) (g1 X hX) (star_cons hst)) a3 a2 (star_cons hst) (star_plain g4)
  · simp only [evE, evEs] at q
    refine one (Q := fun v H1 => tt σ H1 fun vs H2 => rIsi m.K (v :: vs) H2 Q) ga R (Res.wp_imp (nwp (nwp q)) fun p hp v H1 k1 R1 f1 w1 => ?_)
    refine g2 σ H1 _ ?_
    have hp1 : Res.wp (EQ m .frs H Rw O W Q) No (Res.ofO ((isTys p [t]).map PV.bl)) := hp
    have e1 : isTys p [t] = isTy p t := by
      cases p <;> simp only [isTys, isTy, Bool.or_false]
    rw [e1] at hp1
    have hn : p ≠ .row := fun z => by subst z; exact hp1.elim
    have hn2 : ∀ C z0 fs, p ≠ .obj C z0 fs := fun C z0 fs z => by subst z; exact hp1.elim
    cases hb : isTy p t with
    | none => rw [hb] at hp1; exact hp1.elim
    | some b =>
      rw [hb] at hp1
      have hp' : EQ m .frs H Rw O W Q (.bl b) := hp1
      exact ⟨v, .ty (tyNm t), .type (tyOf p), .type (tyNm t), b, rfl, .ty _, tyX_of w1 hn hn2, kit_of ht hb, hp' (.bl b) H1 k1 R1.row (show Rep _ _ _ _ _ from r_bl b)⟩
theorem paired_ty : ∀ ts : List Nat, Paired ClsV (ts.map fun k => V.ty (tyNm k)) (ts.map fun k => Value.type (tyNm k))
  | [] => .nil
  | t :: ts => .cons (.ty _) (paired_ty ts)
theorem se_isiT (M : MOk m c) {a : CE} {ts : List Nat} {x : Str} {e : Expr} {es : List Expr} {kk : Nat} {p p2 pos : Pos} (hg : glB c x = true) (hx : x = Str.ofString "isinstance") (hst : notStar e = true) (hl : ts.length ≤ 100) (hy : tyNames c ts es = true) (ha : SE m c a e) :
    SE m c (.bi (.isinst ts) (.cons a .nil)) (.Call (.Name x p) [e, .Tuple es kk p2] [] pos) := by
  obtain ⟨ta, pa, ga⟩ := ha
  obtain ⟨tt, g1, g2, g3, g4⟩ := ty_args M hy
  refine ⟨tCB (rIsiT m.K) (tCons ta (tCons (tTup tt) tNil)), fun X hX => ?_, fun H0 Rw O W s σ H Q R q => ?_⟩
  · obtain ⟨a1, a2, a3⟩ := hX.glob hg
    subst hx
    have hr : CallR X (.builtin "isinstance") (rIsiT m.K) := by have := call_isiT (X := X); rw [hX.K] at this; exact this
    exact pe_callB hr a1 (by rw [hX.mg]; exact M.bi _ (by simp)) boot_isinst (pa_cons (pa X hX) (pa_cons (pe_tup (g1 X hX)) pa_nil (star_cons rfl)) (star_cons hst)) a3 a2 (star_cons hst) (star_plain rfl)
  · simp only [evE, evEs] at q
    refine one (Q := fun v H1 => tTup tt σ H1 fun u H2 => rIsiT m.K [v, u] H2 Q) ga R (Res.wp_imp (nwp (nwp q)) fun p hp v H1 k1 R1 f1 w1 => ?_)
    refine g2 σ H1 _ ⟨by rw [List.length_map]; exact Nat.le_trans hl (by decide), fun tp hn => ?_⟩
    have hp1 : Res.wp (EQ m .frs H Rw O W Q) No (Res.ofO ((isTys p ts).map PV.bl)) := hp
    cases hb : isTys p ts with
    | none => rw [hb] at hp1; exact hp1.elim
    | some b =>
      rw [hb] at hp1
      have hp' : EQ m .frs H Rw O W Q (.bl b) := hp1
      have kp1 : Kp Rw H1 (upd H1 tp (.tup (ts.map fun k => V.ty (tyNm k)))) := Kp.upd hn
      have rows : Rws m.K Rw (upd H1 tp (.tup (ts.map fun k => V.ty (tyNm k)))) := R1.row.same kp1 fun z hz => upd_ne fun e => R1.trk z (R.ro z hz) (e ▸ hn)
      have fin := hp' (.bl b) _ (k1.trans kp1) rows (show Rep _ _ _ _ _ from r_bl b)
      have hn2 : ∀ C z0 fs, p ≠ .obj C z0 fs := fun C z0 fs z => by
        subst z
        cases ts <;> simp [isTys, isTy] at hb
      by_cases hr : p = .row
      · subst hr
        cases ts with
        | nil =>
          simp only [isTys, Option.some.injEq] at hb
          subst hb
          have w' : Rep H1 Rw (Oo O W) .row v := w1
          simp only [Rep] at w'
          obtain ⟨ra, rfl, hra⟩ := w'
          obtain ⟨sc, i, sd, rs, ns, e1, _⟩ := R1.row ra hra
          exact ⟨.ref ra, tp, [], .type "list", [], false, rfl, upd_same, .nil, .base (.lst (by rw [upd_ne (ne_of_none e1 hn)]; exact e1)), rfl, fin⟩
        | cons t ts => simp [isTys, isTy] at hb
      · exact ⟨v, tp, _, .type (tyOf p), _, b, rfl, upd_same, paired_ty ts, tyX_of (w1.stp kp1 R.ro fun _ z => .inl z) hr hn2, kits_of g3 hb, fin⟩

/-! ### calls of the module's defs; draws -/
theorem wreps_raw {H : Hp} {Rw O O' : AP1} (s : ∀ a, O a → O' a) : ∀ {ps : List PV} {vs : List V}, Wreps H Rw O O' ps vs → Reps H Rw O ps vs
  | [], vs, h => by have e : vs = [] := h; subst e; simp [Reps]
  | p :: ps, _, h => by
    obtain ⟨w, ws, rfl, r1, r2⟩ := h
    simp only [Reps]
    exact ⟨w, ws, rfl, r1.rep s, wreps_raw s r2⟩
theorem frep_flat {H0 H : Hp} {Rw O O' O2 : AP1} {f : FL} {p : PV} {v : V} (h : FRep f H0 H Rw O2 O2 p v) (hf : flat 8 p = true) : FRep .cln H0 H Rw O O' p v := by
  have r : Rep H Rw O2 p v := by
    cases f with
    | raw => exact WRep.rep h fun _ z => z
    | cln => exact h
    | frs => exact FRep.cln h
  exact flat_rep 8 p v hf r
theorem se_call (M : MOk m c) {f n : Nat} {as : CEs} {x : Str} {e : Expr} {es : List Expr} {p pos : Pos} (hg : glB c x = true) (hf : (x, f, n) ∈ c.fn) (hn : lenS as = n) (hst : (e :: es).all notStar = true) (ha : SEs m c as (e :: es)) :
    SE m c (.call f as) (.Call (.Name x p) (e :: es) [] pos) := by
  obtain ⟨ta, pa, ga⟩ := ha
  obtain ⟨a, fd, ps, h1, h2, h3, h4⟩ := M.fn x f n hf
  simp only [List.all_cons, Bool.and_eq_true] at hst
  refine ⟨tCall (spF m.K (m.nw f) n (m.cl f)) [] E0 ta, fun X hX => ?_, fun H0 Rw O W s σ H Q R q => ?_⟩
  · obtain ⟨a1, a2, a3⟩ := hX.glob hg
    have hF : FnOk X.prog X.w X.K X.mg X.base CX0 m.lv a fd ps (spF m.K (m.nw f) n (m.cl f)) := by rw [hX.prog, hX.w, hX.K, hX.mg, hX.base]; exact h4
    exact pe_call hF hX.room a1 (by rw [hX.mg]; exact h1) (by rw [hX.K]; exact h2) (by rw [hX.K]; exact h3) .nil pass0 (pa X hX) a2 (star_cons hst.1) (star_plain hst.2)
  · simp only [evE] at q
    refine args (Q := fun vs H1 => spF m.K (m.nw f) n (m.cl f) (vs ++ []) H1 Q E0) ga R (Res.wp_imp (evEs_len (nwp q)) fun xs ⟨hl, hxs⟩ vs H1 k1 R1 w1 cl => ?_)
    rw [List.append_nil]
    refine ⟨by rw [wreps_len w1, hl, hn], ?_⟩
    cases hr : anyRaw as with
    | false =>
      refine ⟨Oo O W, Rw, xs, R1.sts.trk, R1.sts.ro, R1.row, cl hr, Res.wp_imp (nwp hxs) fun p2 hp2 v H2 k2 r2 f2 => ?_⟩
      rw [hr] at hp2
      have hp3 : EQ m (fl m.nw (.call f as)) H Rw O W Q p2 := hp2
      refine hp3 v H2 (k1.trans k2) r2 ?_
      simp only [fl, hr]
      have f3 := f2.back (k1.back R1.row)
      cases hw : m.nw f with
      | true => rw [hw] at f3; exact f3
      | false => rw [hw] at f3; exact f3
    | true =>
      refine ⟨O, Rw, xs, R1.trk, R1.ro, R1.row, wreps_raw (fun _ z => .inl z) w1, Res.wp_imp (nwp hxs) fun p2 hp2 v H2 k2 r2 f2 => ?_⟩
      rw [hr] at hp2
      cases hfl : flat 8 p2 with
      | false => rw [hfl] at hp2; exact hp2.elim
      | true =>
        rw [hfl] at hp2
        have hp3 : EQ m (fl m.nw (.call f as)) H Rw O W Q p2 := hp2
        refine hp3 v H2 (k1.trans k2) r2 ?_
        simp only [fl, hr, if_true]
        exact frep_flat (f2.back (k1.back R1.row)) hfl
theorem se_draw (M : MOk m c) {r : Nat} {a : CE} {x y : Str} {e : Expr} {p p2 pos : Pos} (hg : glB c x = true) (hx : x = Str.ofString "_law_taken") (hy : nmB c r y = true) (hst : notStar e = true) (ha : SE m c a e) :
    SE m c (.draw r a) (.Call (.Name x p) [.Name y p2, e] [] pos) := by
  obtain ⟨ta, pa, ga⟩ := ha
  obtain ⟨ad, fd, ps, h1, h2, h3, h4⟩ := M.tk
  refine ⟨tCall (spTk m.K) [] E0 (tCons (tVar r) (tCons ta tNil)), fun X hX => ?_, fun H0 Rw O W s σ H Q R q => ?_⟩
  · obtain ⟨a1, a2, a3⟩ := hX.glob hg
    obtain ⟨b1, b2, b3, b4⟩ := hX.vis hy
    subst hx
    have hF : FnOk X.prog X.w X.K X.mg X.base CX0 m.lv ad fd ps (spTk m.K) := by rw [hX.prog, hX.w, hX.K, hX.mg, hX.base]; exact h4
    exact pe_call hF hX.room a1 (by rw [hX.mg]; exact h1) (by rw [hX.K]; exact h2) (by rw [hX.K]; exact h3) .nil pass0 (pa_cons (pe_var b1 b2 b3 b4) (pa_cons (pa X hX) pa_nil (star_cons hst)) (star_cons rfl)) a2 (star_cons rfl) (star_plain (by simp [hst]))
  · simp only [evE] at q
    cases hs : getS s r with
    | no => rw [hs] at q; exact q.elim
    | own v => rw [hs] at q; exact q.elim
    | shr v =>
      rw [hs] at q
      cases v with
      | row =>
        obtain ⟨v, hv, rv⟩ := R.shr r .row (getS_some hs (by simp))
        simp only [Rep] at rv
        obtain ⟨ra, rfl, hra⟩ := rv
        refine ⟨.ref ra, hv, ?_⟩
        refine one (Q := fun v H1 => spTk m.K ([.ref ra, v] ++ []) H1 Q E0) ga R (Res.wp_imp (nwp q) fun p hp v H1 k1 R1 f1 w1 => ?_)
        cases p with
        | int k =>
          have ev : v = .int k := w1
          subst ev
          have hp2 : Res.wp (EQ m (fl m.nw (.draw r a)) H Rw O W Q) No (if (decide (0 < k) && decide (k < 1073741824)) = true then .draw k.toNat fun i => .ok (.int i) else .no) := hp
          by_cases hk : (decide (0 < k) && decide (k < 1073741824)) = true
          · rw [if_pos hk] at hp2
            simp only [Bool.and_eq_true, decide_eq_true_eq] at hk
            refine ⟨ra, k, Rw, rfl, hk.1, hk.2, hra, R1.row, fun i H' hi k2 r2 => ?_⟩
            have := hp2 i (by omega)
            exact this (.int i) H' (k1.trans k2) r2 (show Rep _ _ _ _ _ from r_int _)
          · rw [if_neg hk] at hp2
            exact hp2.elim
        | _ => exact hp.elim
      | _ => exact q.elim
end
end Ev
set_option autoImplicit false
set_option linter.all false
set_option Elab.async false
set_option maxRecDepth 100000
/-! Ev7b: attributes, methods, making; list(range(..)). -/
namespace Ev
open PySem PySem.Spec PyProof.Rows L2
section
variable {m : Md} {c : Cc}
theorem rangeL_rg {H : Hp} {Rw O : AP1} : ∀ (n : Nat) (lo : Int), Reps H Rw O (rangeL lo n) ((List.range n).map fun i => V.int (lo + (i : Nat)))
  | 0, lo => by simp [rangeL, Reps]
  | n + 1, lo => by
    rw [List.range_succ_eq_map, List.map_cons, List.map_map]
    simp only [rangeL, Reps]
    refine ⟨_, _, rfl, ?_, ?_⟩
    · simp only [Int.natCast_zero, Int.add_zero]; exact r_int lo
    · have := rangeL_rg (H := H) (Rw := Rw) (O := O) n (lo + 1)
      have e : ((fun i : Nat => V.int (lo + (i : Nat))) ∘ Nat.succ) = fun i : Nat => V.int (lo + 1 + (i : Nat)) := by
        funext i; simp only [Function.comp, Nat.succ_eq_add_one, Int.natCast_add, Int.natCast_one]; congr 1; omega
      rw [e]; exact this
theorem se_lrng (M : MOk m c) {a : CE} {x y : Str} {e : Expr} {p p2 pos pos2 : Pos} (hg : glB c x = true) (hx : x = Str.ofString "list") (hg2 : glB c y = true) (hy : y = Str.ofString "range") (hst : notStar e = true) (ha : SE m c a e) :
    SE m c (.lrng a) (.Call (.Name x p) [.Call (.Name y p2) [e] [] pos2] [] pos) := by
  obtain ⟨ta, pa, ga⟩ := ha
  refine ⟨tLstRg (tRg1 ta), fun X hX => ?_, fun H0 Rw O W s σ H Q R q => ?_⟩
  · obtain ⟨a1, a2, a3⟩ := hX.glob hg
    obtain ⟨b1, b2, b3⟩ := hX.glob hg2
    subst hx; subst hy
    exact pe_listRg hX.calm a1 (by rw [hX.mg]; exact M.bi "list" (by simp)) (prg_1 b1 (by rw [hX.mg]; exact M.bi "range" (by simp)) (pa X hX) (star_cons hst)) (star_cons rfl)
  · simp only [evE] at q
    refine one (Q := fun v H1 => ∃ n, v = .int n ∧ RgOk 0 n ∧ ∀ q, H1 q = none → Q (.ref q) (upd H1 q (.lst (rgV 0 n)))) ga R (Res.wp_imp (nwp q) fun p hp v H1 k1 R1 f1 w1 => ?_)
    cases p with
    | int i =>
      dsimp only at hp
      split at hp
      · rename_i hc
        simp only [Bool.and_eq_true, decide_eq_true_eq, sm62] at hc
        rw [w_int w1]
        refine ⟨i, rfl, ⟨by decide, by decide, hc.1.1, hc.1.2, ?_⟩, fun z hz => ?_⟩
        · rw [Int.sub_zero]; exact hc.2
        · have hp' : EQ m .frs H Rw O W Q (.lst (rangeL 0 i.toNat)) := hp
          refine Ans.lst (O := O) (R.ans k1 R1 hp') R1.sts.trk R1.sts.ro ?_ hz
          unfold rgV
          rw [Int.sub_zero]
          exact rangeL_rg i.toNat 0
      · exact hp.elim
    | _ => exact hp.elim
theorem zip_look {vs : List V} {ps : List PV} {f : Nat} {n : Str} {p : PV} {H : Hp} {Rw O : AP1} (r : Reps H Rw O ps vs) (e : ps[f]? = some p) (hn : tNames[f]? = some n) : ∃ v, (tNames.zip vs).lookup n = some v ∧ Rep H Rw O p v := by
  obtain ⟨v, h1, h2⟩ := Reps.get r e
  refine ⟨v, ?_, h2⟩
  match f, hn with
  | 0, hn =>
    cases hn
    match vs, h1 with
    | a :: r, h1 => cases h1; rfl
  | 1, hn =>
    cases hn
    match vs, h1 with
    | a :: b :: r, h1 => cases h1; rfl
  | 2, hn =>
    cases hn
    match vs, h1 with
    | a :: b :: d :: r, h1 => cases h1; rfl
theorem zip_none {vs : List V} {n : Str} (h : tNames.contains n = false) : (tNames.zip vs).lookup n = none := by
  have h' : ∀ z ∈ tNames, (n == z) = false := fun z hz => by
    cases q : n == z with
    | false => rfl
    | true =>
      have := eq_of_beq q
      subst this
      rw [List.contains_iff_mem.mpr hz] at h
      cases h
  have h1 := h' "letters" (by simp [tNames])
  have h2 := h' "sizes" (by simp [tNames])
  have h3 := h' "counts" (by simp [tNames])
  match vs with
  | [] => rfl
  | [a] => simp [tNames, List.lookup, h1]
  | [a, b] => simp [tNames, List.lookup, h1, h2]
  | a :: b :: d :: r => simp [tNames, List.lookup, h1, h2, h3]
/-- the class of a name -/
def twB (c : Cc) (x : Str) (f : Nat) : Bool := match c.tw with
  | some (y, _, k) => x == y && k == f
  | none => false
def twG (c : Cc) (g : Nat) : Bool := match c.tw with
  | some (_, h, _) => h == g
  | none => false
theorem tIns_one {a : CE} {ta : TE} (M : MOk m c) {x : Str} {g k : Nat} {C : Addr} (hgl : m.gl g = some (.int (C : Nat))) (ga : GE m a ta) {Q : V → Hp → Prop}
    {H0 : Hp} {Rw O : AP1} {W : Nat → Option Addr} {s : Stt} {σ : L2.St} {H : Hp} (R : Rl m.K H0 Rw O W s σ H)
    (h : (evE m.gl m.cl s a).wp (fun p => ∀ b dx vs z0 fs H1, p = .obj C z0 fs → Kp Rw H H1 → Rl m.K H0 Rw O W s σ H1 → H1 b = some (.ins C dx (tNames.zip vs)) → Reps H1 Rw (Oo O W) fs vs → Rep H1 Rw (Oo O W) p (.ref b) → Q (.ref b) H1) No)
    (hw : (evE m.gl m.cl s a).wp (fun p => isObj (m.gl g) p = true) No) : ta σ H fun v H1 => Q v H1 := by
  refine one (Q := Q) ga R ?_
  have : (evE m.gl m.cl s a).wp (fun p => isObj (m.gl g) p = true ∧ (∀ b dx vs z0 fs H1, p = .obj C z0 fs → Kp Rw H H1 → Rl m.K H0 Rw O W s σ H1 → H1 b = some (.ins C dx (tNames.zip vs)) → Reps H1 Rw (Oo O W) fs vs → Rep H1 Rw (Oo O W) p (.ref b) → Q (.ref b) H1)) No := by
    generalize evE m.gl m.cl s a = r at h hw
    induction r with
    | ok z => exact ⟨hw, h⟩
    | err e => exact h
    | no => exact h
    | draw n kk ih => exact fun i hi => ih i (h i hi) (hw i hi)
  refine Res.wp_imp this fun p ⟨ho, hp⟩ v H1 k1 R1 f1 w1 => ?_
  rw [hgl] at ho
  cases p with
  | obj C' z0 fs =>
    simp only [isObj, beq_iff_eq] at ho
    have : C' = C := by have : (C' : Int) = ((C : Nat) : Int) := ho.symm; exact Int.ofNat.inj this
    subst this
    have w2 : Rep H1 Rw (Oo O W) (.obj C' z0 fs) v := w1
    have w3 := w2
    simp only [Rep] at w3
    obtain ⟨b, dx, vs, rfl, hb, n, _, r⟩ := w3
    exact hp b dx vs z0 fs H1 rfl k1 R1 hb r w2
  | _ => simp [isObj] at ho
theorem twG_some {g : Nat} (h : twG c g = true) : ∃ x k, c.tw = some (x, g, k) := by
  unfold twG at h
  split at h
  · rename_i y g' k e
    have := eq_of_beq h
    subst this
    exact ⟨_, _, e⟩
  · cases h
theorem twB_some {x : Str} {f : Nat} (h : twB c x f = true) : ∃ g, c.tw = some (x, g, f) := by
  unfold twB at h
  split at h
  · rename_i y g' k e
    simp only [Bool.and_eq_true, beq_iff_eq] at h
    obtain ⟨rfl, rfl⟩ := h
    exact ⟨_, e⟩
  · cases h
theorem wp_isObj {a : CE} {g : Nat} {s : Stt} {F : PV → Res PV} {E : PV → Prop} (q : (evE m.gl m.cl s a >>= fun x => if isObj (m.gl g) x = true then F x else .no).wp E No) :
    (evE m.gl m.cl s a).wp (fun p => isObj (m.gl g) p = true) No ∧ (evE m.gl m.cl s a).wp (fun p => (F p).wp E No) No := by
  rw [Res.wp_bind] at q
  constructor <;> refine Res.wp_imp q fun p hp => ?_
  · cases h : isObj (m.gl g) p with
    | true => rfl
    | false => rw [h] at hp; exact hp.elim
  · cases h : isObj (m.gl g) p with
    | true => rw [h, if_pos rfl] at hp; exact hp
    | false => rw [h] at hp; exact hp.elim
theorem se_attr (M : MOk m c) {g : Nat} {a : CE} {f : Nat} {n : Str} {e : Expr} {pos : Pos} (ht : twG c g = true) (hn : tNames[f]? = some n) (hc : notCall0 e = true) (ha : SE m c a e) :
    SE m c (.attr g a f) (.Attribute e n pos) := by
  obtain ⟨ta, pa, ga⟩ := ha
  obtain ⟨x, k, et⟩ := twG_some ht
  obtain ⟨C, hgl, hmg, hcl, hna, _⟩ := M.tw x g k et
  refine ⟨tFld m.K ta n, fun X hX => ?_, fun H0 Rw O W s σ H Q R q => ?_⟩
  · have := pe_fld (f := n) (pos := pos) (pa X hX) (attr_base hc)
    rw [hX.K] at this
    exact this
  · simp only [evE] at q
    obtain ⟨q1, q2⟩ := wp_isObj q
    refine tIns_one (x := x) (k := k) (Q := fun v H1 => ∃ a C dx fs v', v = .ref a ∧ H1 a = some (.ins C dx fs) ∧ Cls m.K C ∧ NoAttr m.K C n ∧ fs.lookup n = some v' ∧ Q v' H1) M hgl ga R (Res.wp_imp q2 fun p hp b dx vs z0 fs H1 ep k1 R1 hb r w => ?_) q1
    subst ep
    cases e : attrP (.obj C z0 fs) f with
    | none => rw [e] at hp; exact hp.elim
    | some z =>
      rw [e] at hp
      have hp' : EQ m .cln H Rw O W Q z := hp
      obtain ⟨v, h1, h2⟩ := zip_look r (show fs[f]? = some z from e) hn
      exact ⟨b, C, dx, _, v, rfl, hb, hcl, hna n (List.mem_of_getElem? hn), h1, hp' v H1 k1 R1.row h2⟩
theorem ht_of {o : Expr} {mn : Str} {apos pos : Pos} {es : List Expr} {env : Env} (h : notCall0 o = true) (hl : (apos.endLine == pos.line) = true) (hst : es.all notStar = true) (hlen : es.length < 30) :
    eval (.Call (.Attribute o mn apos) es [] pos) env = (do
      let ov ← eval o env
      standAt apos.atName
      let (f, first) ← holding [ov] (getMethod ov mn (do return (← importBound o env).getD true))
      callWith pos f first (backTo pos (starEach es env)) (backToKw pos (keywordEach [] env))) := by
  rw [arm_eval_Call, attr_base h]
  have hf : methodCallForm (es.length + ([] : List Keyword).length) (backTo pos (starEach es env)) (backToKw pos (keywordEach [] env)) = true := by
    unfold methodCallForm
    rw [star_all hst]
    unfold backTo
    simp [keywordEach, backToKw]
    exact hlen
  unfold methodCall
  rw [hf]
  unfold methodCallPos calleeOf
  simp only [hl, Bool.not_true, Bool.and_true, Bool.true_and, if_true, Bool.and_self]
  rfl
theorem se_mcall (M : MOk m c) {g f n : Nat} {a : CE} {as : CEs} {y : Str} {o e : Expr} {es : List Expr} {apos pos : Pos} (ht : twG c g = true) (hf : (y, f, n) ∈ c.mt) (hn : lenS as + 1 = n) (hc : notCall0 o = true) (hl : (apos.endLine == pos.line) = true) (hst : (e :: es).all notStar = true)
    (hlen : (e :: es).length < 30) (hr : anyRaw as = false) (ha : SE m c a o) (hs : SEs m c as (e :: es)) : SE m c (.mcall g f a as) (.Call (.Attribute o y apos) (e :: es) [] pos) := by
  obtain ⟨ta, pa, ga⟩ := ha
  obtain ⟨tr, pr, gr⟩ := hs
  obtain ⟨x, k, et⟩ := twG_some ht
  obtain ⟨C, hgl, hmg, hcl, hna, hnw, hmt, _⟩ := M.tw x g k et
  obtain ⟨ad, fd, ps, h1, h2, h3, h4⟩ := hmt y f n hf
  have hst' := hst
  simp only [List.all_cons, Bool.and_eq_true] at hst'
  refine ⟨tMeth C y (spF m.K (m.nw f) n (m.cl f)) [] E0 ta tr, fun X hX => ?_, fun H0 Rw O W s σ H Q R q => ?_⟩
  · have hF : FnOk X.prog X.w X.K X.mg X.base CX0 m.lv ad fd ps (spF m.K (m.nw f) n (m.cl f)) := by rw [hX.prog, hX.w, hX.K, hX.mg, hX.base]; exact h4
    exact pe_meth (pa X hX) (by rw [hX.K]; exact hcl) (by rw [hX.K]; exact h1) hF hX.room (by rw [hX.K]; exact h3) .nil pass0 (pr X hX) (star_cons hst'.1) (star_plain hst'.2) (ht_of hc hl hst hlen)
  · simp only [evE] at q
    obtain ⟨q1, q2⟩ := wp_isObj q
    refine tIns_one (x := x) (k := k) (Q := fun v H1 => ∃ a dx fs, v = .ref a ∧ H1 a = some (.ins C dx fs) ∧ fs.lookup y = none ∧ tr σ H1 fun vs H2 => spF m.K (m.nw f) n (m.cl f) (v :: (vs ++ [])) H2 Q E0) M hgl ga R (Res.wp_imp q2 fun p hp b dx vs z0 fs H1 ep k1 R1 hb r w => ?_) q1
    subst ep
    refine ⟨b, dx, _, rfl, hb, zip_none h2, ?_⟩
    refine args (Q := fun us H2 => spF m.K (m.nw f) n (m.cl f) (.ref b :: (us ++ [])) H2 Q E0) gr R1 (Res.wp_imp (evEs_len (nwp hp)) fun xs ⟨hl2, hxs⟩ us H2 k2 R2 w2 cl => ?_)
    rw [List.append_nil]
    refine ⟨by rw [List.length_cons, wreps_len w2, hl2, hn], ?_⟩
    refine ⟨Oo O W, Rw, .obj C z0 fs :: xs, R2.sts.trk, R2.sts.ro, R2.row, ?_, Res.wp_imp hxs fun p2 hp2 v H3 k3 r3 f3 => ?_⟩
    · simp only [Reps]
      exact ⟨_, _, rfl, w.kp (k2.mono fun a z => .inl (R1.ro a z)), cl hr⟩
    · have hp3 : EQ m .cln H Rw O W Q p2 := hp2
      refine hp3 v H3 ((k1.trans k2).trans k3) r3 ?_
      cases hw : m.nw f with
      | true => rw [hw] at f3; exact FRep.cln f3
      | false => rw [hw] at f3; exact f3
theorem se_new (M : MOk m c) {f : Nat} {a : CE} {x : Str} {e : Expr} {p pos : Pos} (hg : glB c x = true) (ht : twB c x f = true) (hst : notStar e = true) (hr : isRaw a = false) (ha : SEs m c (.cons a .nil) [e]) :
    SE m c (.call f (.cons a .nil)) (.Call (.Name x p) [e] [] pos) := by
  obtain ⟨ta, pa, ga⟩ := ha
  obtain ⟨g, et⟩ := twB_some ht
  obtain ⟨C, hgl, hmg, hcl, hna, hnw, hmt, ai, fdi, psi, k, hmk, hbi, hk, hF0⟩ := M.tw x g f et
  refine ⟨tMake C (spI m.K C (m.cl f)) [] E0 ta, fun X hX => ?_, fun H0 Rw O W s σ H Q R q => ?_⟩
  · obtain ⟨a1, a2, a3⟩ := hX.glob hg
    have hF : FnOk X.prog X.w X.K X.mg X.base CX0 k ai fdi psi (spI m.K C (m.cl f)) := by rw [hX.prog, hX.w, hX.K, hX.mg, hX.base]; exact hF0
    exact pe_make (by rw [hX.K]; exact hmk) hF (hX.room.mono hk) a1 (by rw [hX.mg]; exact hmg) (by rw [hX.K]; exact hbi) .nil pass0 (pa X hX) a2 (star_cons hst) (star_plain rfl)
  · simp only [evE] at q
    have hany : anyRaw (.cons a .nil) = false := by simp [anyRaw, hr]
    refine args (Q := fun vs H1 => ∀ x dx, H1 x = none → H1 dx = none → dx ≠ x → spI m.K C (m.cl f) (.ref x :: (vs ++ [])) (upd (upd H1 dx (.own x)) x (.ins C dx [])) (fun v H2 => v = .non ∧ Q (.ref x) H2) E0) ga R (Res.wp_imp (evEs_len (nwp q)) fun xs ⟨hl, hxs⟩ vs H1 k1 R1 w1 cl y dx hy hdx hne => ?_)
    have c1 := cl hany
    rw [List.append_nil]
    match xs, hl with
    | [p], _ =>
      simp only [Reps] at c1
      obtain ⟨v, _, rfl, r1, rfl⟩ := c1
      have hdx1 : upd H1 dx (.own y) y = none := by rw [upd_ne (Ne.symm hne)]; exact hy
      have kA : Kp Rw H1 (upd (upd H1 dx (.own y)) y (.ins C dx [])) := (Kp.upd hdx).trans (Kp.upd hdx1)
      have rowA : Rws m.K Rw (upd (upd H1 dx (.own y)) y (.ins C dx [])) := R1.row.same kA fun z hz => by
        have hz1 := R1.trk z (R1.ro z hz)
        rw [upd_ne fun e => hz1 (by rw [e]; exact hy), upd_ne fun e => hz1 (by rw [e]; exact hdx)]
      have RA := R1.step kA rowA
      refine ⟨y, dx, v, p, Oo O W, Rw, rfl, upd_same, fun z => R1.sts.trk y z hy, RA.sts.trk, RA.sts.ro, RA.row, Rep.go (O := Oo O W) (kA.mono fun a z => .inl (R1.ro a z)) (fun a z => z.imp id fun e => by rw [e]; exact hy) p v r1, ?_⟩
      refine Res.wp_imp (nwp hxs) fun q2 hq2 H2 k2 r2 w2 => ⟨rfl, ?_⟩
      have hq3 : EQ m (fl m.nw (.call f (.cons a .nil))) H Rw O W Q q2 := by
        rw [hany] at hq2
        exact hq2
      have kB : Kp Rw H1 H2 := fun b o eb hb => by
        have nb : b ≠ y := fun e => by rw [e, hy] at eb; cases eb
        exact k2 b o (kA b o eb hb) (hb.imp (fun n z => z.elim n fun e => nb e) id)
      refine hq3 (.ref y) H2 (k1.trans kB) r2 ?_
      have : fl m.nw (.call f (.cons a .nil)) = .cln := by simp only [fl, hany, hnw]; rfl
      rw [this]
      exact w2
end
end Ev
set_option autoImplicit false
set_option linter.all false
set_option Elab.async false
set_option maxRecDepth 100000
/-! Ev8: what is walked, targets, comprehensions. -/
namespace Ev
open PySem PySem.Spec PyProof.Rows L2
/-! ### what is walked -/
theorem pi_seq {X : Cx} {tg e : Expr} {te : TE} (he : PE X e te) : PI X tg e (fun σ H R => te σ H fun x H1 =>
    (∃ a xs, x = .ref a ∧ H1 a = some (.lst xs) ∧ R (Itl X.K a) H1) ∨ (∃ a xs, x = .ref a ∧ H1 a = some (.tup xs) ∧ R (Itt X.K a) H1) ∨ ∃ z : Str, x = .str z ∧ R (Its z) H1) := by
  refine ⟨fun pins s σ H R I h => ?_⟩
  refine thn (he.run pins s σ H _ I h) fun v s1 ⟨x, H1, I1, r1, q1⟩ => ?_
  rcases q1 with ⟨a, xs, rfl, ha, q⟩ | ⟨a, xs, rfl, ha, q⟩ | ⟨z, rfl, q⟩
  · cases r1
    obtain ⟨its, rv, pl, hz⟩ := I1.list (SqL.of ha)
    exact wpAny_pyIter_list pl.isList (pi_one (tk := s1.toks) I1 _ (turn_list a _) ⟨_, Heap.get?_push_size _ rfl, rfl, rfl⟩ q)
  · cases r1
    obtain ⟨its, rv, pl, hz⟩ := I1.tuple (SqT.of ha)
    exact wpAny_pyIter_tuple (show s1.heap.IsTuple a its.toArray from pl) (pi_one (tk := s1.toks) I1 _ (turn_tuple a _) ⟨_, Heap.get?_push_size _ rfl, rfl, rfl⟩ q)
  · obtain ⟨t, rfl⟩ := r1
    cases hA : z.cps.all (· < 128)
    · exact wpAny_pyIter_wide hA (pi_one (tk := s1.toks) I1 _ (turn_str _ z t "str_iterator" (.inr rfl)) ⟨_, Heap.get?_push_size _ rfl, rfl, rfl⟩ q)
    · exact wpAny_pyIter_ascii hA (pi_one (tk := s1.toks) I1 _ (turn_str _ z t "str_ascii_iterator" (.inl rfl)) ⟨_, Heap.get?_push_size _ rfl, rfl, rfl⟩ q)
/-- it goes over xs, whatever happens to what may change -/
def WkOk (raw : Bool) (Rw O' : AP1) (J : It) (H1 : Hp) (xs : List PV) : Prop :=
  ∃ (G : Hp → Prop) (Y : Nat → Hp → V → Hp → Prop), Walk J xs.length G Y ∧ (∀ H2, Kp (if raw then Rw else O') H1 H2 → G H2) ∧
    ∀ i Hh x H2, i < xs.length → G Hh → Y i Hh x H2 → Same Hh H2 ∧ ∀ (O2 : AP1) p, xs[i]? = some p → Kp O' H1 Hh → (∀ b, O2 b → O' b ∨ H1 b = none) → Rep H2 Rw O2 p x
def rawR : CR → Bool
  | .seq e => isRaw e
  | .rng1 _ => false
  | .rng2 _ _ => false
  | .rngd _ _ => false
  | .enum e => isRaw e
  | .zip a b => isRaw a || isRaw b
section
variable {H1 : Hp} {Rw O O' : AP1}
theorem rangeL_len (lo : Int) : ∀ n : Nat, (rangeL lo n).length = n := by
  intro n
  induction n generalizing lo with
  | zero => rfl
  | succ n ih => simp only [rangeL, List.length_cons, ih]
theorem rangeL_get (lo : Int) : ∀ (n i : Nat), i < n → (rangeL lo n)[i]? = some (.int (lo + i)) := by
  intro n
  induction n generalizing lo with
  | zero => intro i h; omega
  | succ n ih =>
    intro i h
    cases i with
    | zero => simp [rangeL]
    | succ i =>
      simp only [rangeL, List.getElem?_cons_succ]
      rw [ih (lo + 1) i (by omega)]
      congr 2
      omega
theorem rangeD_len (lo : Int) : ∀ n : Nat, (rangeD lo n).length = n := by
  intro n
  induction n generalizing lo with
  | zero => rfl
  | succ n ih => simp only [rangeD, List.length_cons, ih]
theorem rangeD_get (lo : Int) : ∀ (n i : Nat), i < n → (rangeD lo n)[i]? = some (.int (lo + (i : Nat) * (-1))) := by
  intro n
  induction n generalizing lo with
  | zero => intro i h; omega
  | succ n ih =>
    intro i h
    cases i with
    | zero => simp [rangeD]
    | succ i =>
      simp only [rangeD, List.getElem?_cons_succ]
      rw [ih (lo - 1) i (by omega)]
      congr 2
      omega
theorem wk_range {raw : Bool} {lo : Int} {n : Nat} : WkOk raw Rw O' (Itr lo n) H1 (rangeL lo n) := by
  refine ⟨fun _ => True, _, by rw [rangeL_len]; exact walk_range, fun _ _ => trivial, fun i Hh x H2 hi _ y => ?_⟩
  rw [rangeL_len] at hi
  obtain ⟨rfl, rfl⟩ := y
  refine ⟨Same.refl _, fun O2 p hp _ _ => ?_⟩
  rw [rangeL_get lo n i hi] at hp
  cases hp
  exact r_int _
/-- the items of a value of a kind -/
theorem items_kind {p : PV} {v : V} {xs : List PV} (h : items p = some xs) (w : WRep H1 Rw O O' p v) :
    ∃ ys, Reps H1 Rw O' xs ys ∧ ((∃ a, v = .ref a ∧ H1 a = some (.lst ys) ∧ p = .lst xs ∧ ¬ O a) ∨ (∃ a, v = .ref a ∧ H1 a = some (.tup ys)) ∨ ∃ z : List Nat, v = .str (toStr z) ∧ ys = (toStr z).cps.toList.map fun c => V.str ⟨#[c]⟩) := by
  cases p with
  | lst zs =>
    simp only [items, Option.some.injEq] at h
    subst h
    obtain ⟨a, vs, rfl, ha, n, r⟩ := w
    exact ⟨vs, r, .inl ⟨a, rfl, ha, rfl, n⟩⟩
  | tup zs =>
    simp only [items, Option.some.injEq] at h
    subst h
    have w' : Rep H1 Rw O' _ v := w
    simp only [Rep] at w'
    obtain ⟨a, vs, rfl, ha, r⟩ := w'
    exact ⟨vs, r, .inr (.inl ⟨a, rfl, ha⟩)⟩
  | str s =>
    simp only [items, Option.some.injEq] at h
    subst h
    obtain ⟨rfl, ok⟩ := w_str w
    refine ⟨_, ?_, .inr (.inr ⟨s, rfl, rfl⟩)⟩
    show Reps H1 Rw O' _ (s.map fun c => V.str ⟨#[c]⟩)
    have ok' := ok.cps
    clear w ok
    induction s with
    | nil => simp [Reps]
    | cons c s ih =>
      simp only [List.map_cons, Reps]
      exact ⟨_, _, rfl, r_str ⟨by simp; decide, fun c' hc => ok' c' (by have e : c' = c := (by simpa using hc); rw [e]; exact List.mem_cons_self)⟩, ih fun c' hc => ok' c' (List.mem_cons_of_mem _ hc)⟩
  | _ => simp [items] at h
theorem kp_list {raw : Bool} {a : Addr} {ys : List V} {H2 : Hp} (ha : H1 a = some (.lst ys)) (n : ¬ O a) (ro : ∀ a, Rw a → O a) (cl : raw = false → ¬ O' a) (k : Kp (if raw then Rw else O') H1 H2) : H2 a = some (.lst ys) := by
  cases raw with
  | true => exact k a _ ha (.inl fun z => n (ro a z))
  | false => exact k a _ ha (.inl (cl rfl))
theorem kp_tup {O3 : AP1} {a : Addr} {ys : List V} {H2 : Hp} (ha : H1 a = some (.tup ys)) (k : Kp O3 H1 H2) : H2 a = some (.tup ys) := k a _ ha (.inr ⟨_, rfl⟩)
/-- a thing of a kind stays -/
theorem kind_stay {raw : Bool} {v : V} {xs : List PV} {p : PV} {ys : List V} (ro : ∀ a, Rw a → O a) (cl : raw = false → Rep H1 Rw O' p v)
    (h : (∃ a, v = .ref a ∧ H1 a = some (.lst ys) ∧ p = .lst xs ∧ ¬ O a) ∨ (∃ a, v = .ref a ∧ H1 a = some (.tup ys)) ∨ ∃ z : List Nat, v = .str (toStr z) ∧ ys = (toStr z).cps.toList.map fun c => V.str ⟨#[c]⟩)
    {R : IK → Prop} (hR : ∀ k : IK, k.its H1 ys → (∀ H2, Kp (if raw then Rw else O') H1 H2 → k.its H2 ys) → R k) : kindOf H1 v ys R := by
  rcases h with ⟨a, rfl, ha, hp, n⟩ | ⟨a, rfl, ha⟩ | ⟨z, rfl, hz⟩
  · refine .inl ⟨a, rfl, ha, hR (.l a) ha fun H2 k => kp_list ha n ro (fun e => ?_) k⟩
    have := cl e
    subst hp
    simp only [Rep] at this
    obtain ⟨b, vs, e1, _, n', _⟩ := this
    cases e1
    exact n'
  · exact .inr (.inl ⟨a, rfl, ha, hR (.t a) ha fun H2 k => kp_tup ha k⟩)
  · exact .inr (.inr ⟨_, rfl, hz, fun tk => hR (.s _ tk) hz fun H2 k => hz⟩)
theorem items_len {xs : List PV} {ys : List V} (r : Reps H1 Rw O' xs ys) : ys.length = xs.length := reps_len r
theorem enumL_len (k : Int) : ∀ xs : List PV, (enumL k xs).length = xs.length := by
  intro xs
  induction xs generalizing k with
  | nil => rfl
  | cons x r ih => simp only [enumL, List.length_cons, ih]
theorem enumL_get (k : Int) : ∀ (xs : List PV) (i : Nat) (p : PV), (enumL k xs)[i]? = some p → ∃ x, xs[i]? = some x ∧ p = .tup [.int (k + i), x] := by
  intro xs
  induction xs generalizing k with
  | nil => intro i p h; simp [enumL] at h
  | cons x r ih =>
    intro i p h
    cases i with
    | zero => simp [enumL] at h; exact ⟨x, rfl, by rw [← h]; simp⟩
    | succ i =>
      simp only [enumL, List.getElem?_cons_succ] at h
      obtain ⟨y, h1, h2⟩ := ih (k + 1) i p h
      refine ⟨y, by simpa using h1, ?_⟩
      rw [h2]
      congr 3
      omega
theorem zipL_len : ∀ xs ys : List PV, (zipL xs ys).length = min xs.length ys.length
  | [], _ => by simp [zipL]
  | _ :: _, [] => by simp [zipL]
  | x :: xs, y :: ys => by simp only [zipL, List.length_cons, zipL_len xs ys]; omega
theorem zipL_get : ∀ (xs ys : List PV) (i : Nat) (p : PV), (zipL xs ys)[i]? = some p → ∃ x y, xs[i]? = some x ∧ ys[i]? = some y ∧ p = .tup [x, y]
  | [], _, i, p, h => by simp [zipL] at h
  | _ :: _, [], i, p, h => by simp [zipL] at h
  | x :: xs, y :: ys, 0, p, h => by simp [zipL] at h; exact ⟨x, y, rfl, rfl, h.symm⟩
  | x :: xs, y :: ys, i + 1, p, h => by
    simp only [zipL, List.getElem?_cons_succ] at h
    obtain ⟨a, b, h1, h2, h3⟩ := zipL_get xs ys i p h
    exact ⟨a, b, by simpa using h1, by simpa using h2, h3⟩
/-- a new pair of two items -/
theorem pair_rep {Hh : Hp} {T : Addr} {O2 : AP1} {p q : PV} {x y : V} (n : Hh T = none) (hx : Rep Hh Rw O2 p x) (hy : Rep Hh Rw O2 q y) : Rep (upd Hh T (.tup [x, y])) Rw O2 (.tup [p, q]) (.ref T) := by
  simp only [Rep, Reps]
  exact ⟨T, _, rfl, upd_same, x, [y], rfl, hx.kp (Kp.upd n), y, [], rfl, hy.kp (Kp.upd n), rfl⟩
theorem same_updN {Hh : Hp} {T : Addr} {o : HO} (n : Hh T = none) : Same Hh (upd Hh T o) := fun b u e => by rw [upd_ne (ne_of_none e n)]; exact e
theorem wk_enum {raw : Bool} {k : IK} {xs : List PV} {ys : List V} (r : Reps H1 Rw O' xs ys) (hk : ∀ H2, Kp (if raw then Rw else O') H1 H2 → k.its H2 ys) : WkOk raw Rw O' (ItE k) H1 (enumL 0 xs) := by
  have hl := reps_len r
  refine ⟨fun H => k.its H ys, fun i H v H' => ∃ T x, v = .ref T ∧ H T = none ∧ H' = upd H T (.tup [.int (i : Nat), x]) ∧ ys[i]? = some x, ⟨fun i H hi q => ?_, fun H q => ?_, fun i H x H' hi q y => ?_⟩, hk, fun i Hh x H2 hi q y => ?_⟩
  · rw [enumL_len, ← hl] at hi
    exact ⟨ys, ys[i], q, List.getElem?_eq_getElem hi⟩
  · exact ⟨ys, q, by rw [enumL_len, hl]⟩
  · obtain ⟨T, z, e1, e2, e3, e4⟩ := y
    exact ⟨T, z, e1, e2, e3, e4 ys q⟩
  · obtain ⟨T, z, rfl, n, rfl, hz⟩ := y
    refine ⟨same_updN n, fun O2 p hp kp ho => ?_⟩
    obtain ⟨px, h1, rfl⟩ := enumL_get 0 xs i p hp
    obtain ⟨z', h2, h3⟩ := r.get h1
    rw [hz] at h2
    cases h2
    have e0 : (0 : Int) + i = i := by omega
    rw [e0]
    exact pair_rep n (r_int _) (Rep.go kp ho _ _ h3)
theorem wk_zip {raw : Bool} {k1 k2 : IK} {xs zs : List PV} {ys us : List V} (r : Reps H1 Rw O' xs ys) (r2 : Reps H1 Rw O' zs us) (hk : ∀ H2, Kp (if raw then Rw else O') H1 H2 → k1.its H2 ys) (hk2 : ∀ H2, Kp (if raw then Rw else O') H1 H2 → k2.its H2 us) :
    WkOk raw Rw O' (ItZ k1 k2) H1 (zipL xs zs) := by
  have hl := reps_len r
  have hl2 := reps_len r2
  refine ⟨fun H => k1.its H ys ∧ k2.its H us, fun i H v H' => ∃ T x y, v = .ref T ∧ H T = none ∧ H' = upd H T (.tup [x, y]) ∧ ys[i]? = some x ∧ us[i]? = some y, ⟨fun i H hi q => ?_, fun H q => ?_, fun i H x H' hi q y => ?_⟩, fun H2 k => ⟨hk H2 k, hk2 H2 k⟩, fun i Hh x H2 hi q y => ?_⟩
  · rw [zipL_len] at hi
    exact ⟨ys, us, ys[i]'(by omega), us[i]'(by omega), q.1, q.2, List.getElem?_eq_getElem (by omega), List.getElem?_eq_getElem (by omega)⟩
  · refine ⟨ys, us, q.1, q.2, ?_⟩
    rw [zipL_len]
    omega
  · obtain ⟨T, z, w, e1, e2, e3, e4, e5⟩ := y
    exact ⟨T, z, w, e1, e2, e3, e4 ys q.1, e5 us q.2⟩
  · obtain ⟨T, z, w, rfl, n, rfl, hz, hw⟩ := y
    refine ⟨same_updN n, fun O2 p hp kp ho => ?_⟩
    obtain ⟨px, py, h1, h1', rfl⟩ := zipL_get xs zs i p hp
    obtain ⟨z', h2, h3⟩ := r.get h1
    rw [hz] at h2
    cases h2
    obtain ⟨w', h2, h4⟩ := r2.get h1'
    rw [hw] at h2
    cases h2
    exact pair_rep n (Rep.go kp ho _ _ h3) (Rep.go kp ho _ _ h4)
end
section
variable {m : Md} {c : Cc}
/-- what is walked does what the compact one says -/
def SR (m : Md) (c : Cc) (tg : Expr) (cr : CR) (it : Expr) : Prop := ∃ wi : TI, (∀ X, XOk m c X → PI X tg it wi) ∧
  ∀ (H0 : Hp) (Rw O : AP1) (W : Nat → Option Addr) (s : Stt) (σ : L2.St) (H : Hp) (R : It → Hp → Prop), Rl m.K H0 Rw O W s σ H →
    (evR m.gl m.cl s cr).wp (fun xs => ∀ J H1, Kp Rw H H1 → Rws m.K Rw H1 → WkOk (rawR cr) Rw (Oo O W) J H1 xs → R J H1) No → wi σ H R
theorem sr_seq {a : CE} {e tg : Expr} (ha : SE m c a e) : SR m c tg (.seq a) e := by
  obtain ⟨ta, pa, ga⟩ := ha
  refine ⟨_, fun X hX => by have := pi_seq (tg := tg) (pa X hX); rw [hX.K] at this; exact this, fun H0 Rw O W s σ H R r q => ?_⟩
  simp only [evR] at q
  refine one (Q := fun x H1 => (∃ a xs, x = .ref a ∧ H1 a = some (.lst xs) ∧ R (Itl m.K a) H1) ∨ (∃ a xs, x = .ref a ∧ H1 a = some (.tup xs) ∧ R (Itt m.K a) H1) ∨ ∃ z : Str, x = .str z ∧ R (Its z) H1) ga r
    (Res.wp_imp (nwp q) fun p hp v H1 k1 R1 f1 w1 => ?_)
  cases e : items p with
  | none => rw [e] at hp; exact hp.elim
  | some xs =>
    rw [e] at hp
    have hp2 : ∀ J H1, Kp Rw H H1 → Rws m.K Rw H1 → WkOk (isRaw a) Rw (Oo O W) J H1 xs → R J H1 := hp
    obtain ⟨ys, rr, hk⟩ := items_kind e w1
    have hl := reps_len rr
    have yat : ∀ {Hh : Hp} {i : Nat} {x : V} {p : PV} {O2 : AP1}, ys[i]? = some x → xs[i]? = some p → Kp (Oo O W) H1 Hh → (∀ b, O2 b → Oo O W b ∨ H1 b = none) → Rep Hh Rw O2 p x := fun {Hh i x p O2} hx hp kp ho => by
      obtain ⟨v', h1, h2⟩ := rr.get hp
      rw [hx] at h1
      cases h1
      exact Rep.go kp ho _ _ h2
    rcases hk with ⟨l, rfl, ha, hpl, n⟩ | ⟨l, rfl, ha⟩ | ⟨z, rfl, hz⟩
    · refine .inl ⟨l, ys, rfl, ha, hp2 _ H1 k1 R1.row ⟨fun H => H l = some (.lst ys), YAt ys, ?_, fun H2 k => ?_, fun i Hh x H2 hi q y => ?_⟩⟩
      · rw [← hl]
        exact (walk_list (K := m.K) (a := l) (xs := ys)).mono (fun H q => SqL.of q) fun i H x H' _ _ y => y
      · refine kp_list ha n r.ro (fun e2 => ?_) k
        have cl := FRep.clean f1 (fl_raw m.nw a e2)
        rw [hpl] at cl
        simp only [Rep] at cl
        obtain ⟨b, vs, e1, _, n', _⟩ := cl
        cases e1
        exact n'
      · obtain ⟨rfl, hx⟩ := y
        exact ⟨Same.refl _, fun O2 p hp kp ho => yat hx hp kp ho⟩
    · refine .inr (.inl ⟨l, ys, rfl, ha, hp2 _ H1 k1 R1.row ⟨fun H => H l = some (.tup ys), YAt ys, ?_, fun H2 k => kp_tup ha k, fun i Hh x H2 hi q y => ?_⟩⟩)
      · rw [← hl]
        exact (walk_tup (K := m.K) (a := l) (xs := ys)).mono (fun H q => SqT.of q) fun i H x H' _ _ y => y
      · obtain ⟨rfl, hx⟩ := y
        exact ⟨Same.refl _, fun O2 p hp kp ho => yat hx hp kp ho⟩
    · refine .inr (.inr ⟨_, rfl, hp2 _ H1 k1 R1.row ⟨fun _ => True, YAt ys, ?_, fun _ _ => trivial, fun i Hh x H2 hi q y => ?_⟩⟩)
      · have hn : xs.length = (toStr z).cps.size := by rw [← hl, hz]; simp
        rw [hn]
        refine (walk_str (z := toStr z)).mono (fun H q => trivial) fun i H x H' _ _ y => ?_
        obtain ⟨e1, c', h1, h2⟩ := y
        refine ⟨e1, ?_⟩
        rw [hz, List.getElem?_map]
        have h1' : (toStr z).cps.toList[i]? = some c' := by simpa using h1
        rw [h1', h2]
        rfl
      · obtain ⟨rfl, hx⟩ := y
        exact ⟨Same.refl _, fun O2 p hp kp ho => yat hx hp kp ho⟩
end
end Ev
set_option autoImplicit false
set_option linter.all false
set_option Elab.async false
set_option maxRecDepth 100000
/-! Ev9: ranges, enumerate, zip; targets; comprehensions. -/
namespace Ev
open PySem PySem.Spec PyProof.Rows L2
section
variable {m : Md} {c : Cc}
theorem sm62_iff {i : Int} : sm62 i = true ↔ -(2 ^ 62) ≤ i ∧ i < 2 ^ 62 := by simp [sm62]
theorem range_mem : "range" ∈ ["len", "sum", "all", "any", "min", "max", "sorted", "isinstance", "range", "enumerate", "zip", "int", "bool", "str", "tuple", "list", "dict", "set"] := by decide
theorem sr_rng1 (M : MOk m c) {a : CE} {e tg : Expr} {x : Str} {p pos : Pos} (hx : x = Str.ofString "range") (hg : glB c x = true) (hst : notStar e = true) (ha : SE m c a e) : SR m c tg (.rng1 a) (.Call (.Name x p) [e] [] pos) := by
  obtain ⟨ta, pa, ga⟩ := ha
  subst hx
  refine ⟨iRng1 (tCons ta tNil), fun X hX => ?_, fun H0 Rw O W s σ H R r q => ?_⟩
  · obtain ⟨a1, a2, a3⟩ := hX.glob hg
    exact pi_range1 a1 (by rw [hX.mg]; exact M.bi _ range_mem) (pa_cons (pa X hX) pa_nil (star_cons hst)) (star_cons hst)
  · simp only [evR] at q
    refine one (Q := fun v H1 => ∃ j : Int, [v] = [V.int j] ∧ -(2 ^ 62) ≤ j ∧ j < 2 ^ 62 ∧ R (Itr 0 j.toNat) H1) ga r (Res.wp_imp (nwp q) fun p hp v H1 k1 R1 f1 w1 => ?_)
    cases p with
    | int i =>
      have hp2 : Res.wp (fun xs => ∀ J H1, Kp Rw H H1 → Rws m.K Rw H1 → WkOk (rawR (.rng1 a)) Rw (Oo O W) J H1 xs → R J H1) No (if sm62 i = true then .ok (rangeL 0 i.toNat) else .no) := hp
      by_cases hk : sm62 i = true
      · rw [if_pos hk] at hp2
        have hb := sm62_iff.mp hk
        have ev : v = .int i := w1
        subst ev
        exact ⟨i, rfl, hb.1, hb.2, hp2 _ H1 k1 R1.row wk_range⟩
      · rw [if_neg hk] at hp2; exact hp2.elim
    | _ => exact hp.elim
theorem sr_rng2 (M : MOk m c) {a b : CE} {e e2 tg : Expr} {x : Str} {p pos : Pos} (hx : x = Str.ofString "range") (hg : glB c x = true) (hst : notStar e = true) (hst2 : notStar e2 = true) (ha : SE m c a e) (hb : SE m c b e2) : SR m c tg (.rng2 a b) (.Call (.Name x p) [e, e2] [] pos) := by
  obtain ⟨ta, pa, ga⟩ := ha
  obtain ⟨tb, pb, gb⟩ := hb
  subst hx
  refine ⟨iRng2 (tCons ta (tCons tb tNil)), fun X hX => ?_, fun H0 Rw O W s σ H R r q => ?_⟩
  · obtain ⟨a1, a2, a3⟩ := hX.glob hg
    have s2 := star_cons (env := X.env) (es := []) hst2
    exact pi_range2 a1 (by rw [hX.mg]; exact M.bi _ range_mem) (pa_cons (pa X hX) (pa_cons (pb X hX) pa_nil (star_cons hst2)) (star_cons hst)) (by rw [star_cons hst, s2]; rfl) s2
  · simp only [evR] at q
    refine two (Q := fun v u H2 => ∃ i j : Int, [v, u] = [V.int i, V.int j] ∧ (-(2 ^ 62) ≤ i ∧ i < 2 ^ 62 ∧ -(2 ^ 62) ≤ j ∧ j < 2 ^ 62) ∧ R (Itr i (j - i).toNat) H2) ga gb r (Res.wp_imp (nwp q) fun p hp => Res.wp_imp (nwp hp) fun p2 hp2 v u H2 k R2 w1 w2 => ?_)
    cases p with
    | int i =>
      cases p2 with
      | int j =>
        have hp3 : Res.wp (fun xs => ∀ J H1, Kp Rw H H1 → Rws m.K Rw H1 → WkOk (rawR (.rng2 a b)) Rw (Oo O W) J H1 xs → R J H1) No (if (sm62 i && sm62 j) = true then .ok (rangeL i (j - i).toNat) else .no) := hp2
        by_cases hk : (sm62 i && sm62 j) = true
        · rw [if_pos hk] at hp3
          rw [Bool.and_eq_true] at hk
          have h1 := sm62_iff.mp hk.1
          have h2 := sm62_iff.mp hk.2
          have ev : v = .int i := w1
          have eu : u = .int j := w2
          subst ev eu
          exact ⟨i, j, rfl, ⟨h1.1, h1.2, h2.1, h2.2⟩, hp3 _ H2 k R2.row wk_range⟩
        · rw [if_neg hk] at hp3; exact hp3.elim
      | _ => exact hp2.elim
    | _ => exact hp2.elim
theorem wk_rangeD {raw : Bool} {H1 : Hp} {Rw O' : AP1} {lo : Int} {n : Nat} : WkOk raw Rw O' (Itc lo (-1) n) H1 (rangeD lo n) := by
  refine ⟨fun _ => True, _, by rw [rangeD_len]; exact walk_rangeC, fun _ _ => trivial, fun i Hh x H2 hi _ y => ?_⟩
  rw [rangeD_len] at hi
  obtain ⟨rfl, rfl⟩ := y
  refine ⟨Same.refl _, fun O2 p hp _ _ => ?_⟩
  rw [rangeD_get lo n i hi] at hp
  cases hp
  exact r_int _
def isM1 : Expr → Bool
  | .UnaryOp .USub (.Constant (.int 1) _ _) _ => true
  | _ => false
theorem se_m1 {e : Expr} (h : isM1 e = true) : SE m c (.neg (.con (.int 1))) e := by
  unfold isM1 at h
  split at h
  · exact se_neg (se_con rfl)
  · cases h
theorem sr_rngd (M : MOk m c) {a b : CE} {e e2 e3 tg : Expr} {x : Str} {p pos : Pos} (hx : x = Str.ofString "range") (hg : glB c x = true) (hst : notStar e = true) (hst2 : notStar e2 = true) (hm : isM1 e3 = true) (ha : SE m c a e) (hb : SE m c b e2) :
    SR m c tg (.rngd a b) (.Call (.Name x p) [e, e2, e3] [] pos) := by
  have hst3 : notStar e3 = true := by
    unfold isM1 at hm
    split at hm
    · rfl
    · cases hm
  obtain ⟨ta, pa, ga⟩ := ha
  obtain ⟨tb, pb, gb⟩ := hb
  obtain ⟨tc, pc, gc⟩ := se_m1 (m := m) (c := c) hm
  subst hx
  refine ⟨iRng3 (tCons ta (tCons tb (tCons tc tNil))), fun X hX => ?_, fun H0 Rw O W s σ H R r q => ?_⟩
  · obtain ⟨a1, a2, a3⟩ := hX.glob hg
    have s3 := star_cons (env := X.env) (es := []) hst3
    have s2 := star_cons (env := X.env) (es := [e3]) hst2
    exact pi_range3 a1 (by rw [hX.mg]; exact M.bi _ range_mem) (pa_cons (pa X hX) (pa_cons (pb X hX) (pa_cons (pc X hX) pa_nil s3) s2) (star_cons hst)) (star_cons hst) (star_plain (by simp [hst2, hst3]))
  · simp only [evR] at q
    refine two (Q := fun v u H2 => tc σ H2 fun z H3 => ∃ (i j c : Int) (n : Nat), [v, u, z] = [V.int i, V.int j, V.int c] ∧ RgC i j c n ∧ R (Itc i c n) H3) ga gb r (Res.wp_imp (nwp q) fun p hp => Res.wp_imp (nwp hp) fun p2 hp2 v u H2 k R2 w1 w2 => ?_)
    refine gc H0 Rw O W s σ H2 _ R2 ?_
    simp only [evE, Res.ok_bind, Res.wp_ok]
    intro z H3 k3 r3 f3
    cases p with
    | int i =>
      cases p2 with
      | int j =>
        have hp3 : Res.wp (fun xs => ∀ J H1, Kp Rw H H1 → Rws m.K Rw H1 → WkOk (rawR (.rngd a b)) Rw (Oo O W) J H1 xs → R J H1) No (if (sm62 i && sm62 j) = true then .ok (rangeD i (i - j).toNat) else .no) := hp2
        by_cases hk : (sm62 i && sm62 j) = true
        · rw [if_pos hk] at hp3
          rw [Bool.and_eq_true] at hk
          have h1 := sm62_iff.mp hk.1
          have h2 := sm62_iff.mp hk.2
          have ev : v = .int i := w1
          have eu : u = .int j := w2
          have ez : z = .int (-1) := f3
          subst ev eu ez
          exact ⟨i, j, -1, _, rfl, RgC.neg h1.1 h1.2 h2.1 h2.2, hp3 _ H3 (k.trans k3) r3 wk_rangeD⟩
        · rw [if_neg hk] at hp3; exact hp3.elim
      | _ => exact hp2.elim
    | _ => exact hp2.elim
theorem sr_enum (M : MOk m c) {a : CE} {e : Expr} {x : Str} {elts : List Expr} {kk : Nat} {p pos tpos : Pos} (hx : x = Str.ofString "enumerate") (hg : glB c x = true) (hst : notStar e = true) (ha : SE m c a e) :
    SR m c (.Tuple elts kk tpos) (.enum a) (.Call (.Name x p) [e] [] pos) := by
  obtain ⟨ta, pa, ga⟩ := ha
  subst hx
  refine ⟨iEnumG (tCons ta tNil), fun X hX => ?_, fun H0 Rw O W s σ H R r q => ?_⟩
  · obtain ⟨a1, a2, a3⟩ := hX.glob hg
    exact pi_enumG a1 (by rw [hX.mg]; exact M.bi _ (by decide)) (pa_cons (pa X hX) pa_nil (star_cons hst)) (star_cons hst)
  · simp only [evR] at q
    refine one (Q := fun v H1 => ∃ u ys, [v] = [u] ∧ kindOf H1 u ys fun k => R (ItE k) H1) ga r (Res.wp_imp (nwp q) fun p hp v H1 k1 R1 f1 w1 => ?_)
    obtain ⟨xs, e1, h1⟩ := wpO hp
    have h2 : ∀ J H1, Kp Rw H H1 → Rws m.K Rw H1 → WkOk (isRaw a) Rw (Oo O W) J H1 (enumL 0 xs) → R J H1 := h1
    obtain ⟨ys, rr, hk⟩ := items_kind e1 w1
    exact ⟨v, ys, rfl, kind_stay (raw := isRaw a) (xs := xs) (p := p) r.ro (fun e2 => FRep.clean f1 (fl_raw m.nw a e2)) hk fun k hk1 hk2 => h2 _ H1 k1 R1.row (wk_enum rr hk2)⟩
theorem sr_zip (M : MOk m c) {a b : CE} {e e2 : Expr} {x : Str} {elts : List Expr} {kk : Nat} {p pos tpos : Pos} (hx : x = Str.ofString "zip") (hg : glB c x = true) (hst : notStar e = true) (hst2 : notStar e2 = true) (ha : SE m c a e) (hb : SE m c b e2) :
    SR m c (.Tuple elts kk tpos) (.zip a b) (.Call (.Name x p) [e, e2] [] pos) := by
  obtain ⟨ta, pa, ga⟩ := ha
  obtain ⟨tb, pb, gb⟩ := hb
  subst hx
  refine ⟨iZipG (tCons ta (tCons tb tNil)), fun X hX => ?_, fun H0 Rw O W s σ H R r q => ?_⟩
  · obtain ⟨a1, a2, a3⟩ := hX.glob hg
    exact pi_zipG a1 (by rw [hX.mg]; exact M.bi _ (by decide)) (pa_cons (pa X hX) (pa_cons (pb X hX) pa_nil (star_cons hst2)) (star_cons hst)) (star_cons hst) (star_plain (by simp [hst2]))
  · simp only [evR] at q
    refine ga H0 Rw O W s σ H _ r (Res.wp_imp (nwp q) fun p hp v H1 k1 r1 f1 => ?_)
    have R1 := r.step k1 r1
    refine gb H0 Rw O W s σ H1 _ R1 (Res.wp_imp (nwp hp) fun p2 hp2 u H2 k2 r2 f2 => ?_)
    have R2 := R1.step k2 r2
    have oo : ∀ a, O a → Oo O W a := fun _ z => .inl z
    have w1 := (FRep.raw f1 oo).stp k2 r.ro oo
    have w2 := FRep.raw f2 oo
    obtain ⟨xs, e1, h1⟩ := wpO hp2
    obtain ⟨zs, e3, h3⟩ := wpO h1
    have h2 : ∀ J H1, Kp Rw H H1 → Rws m.K Rw H1 → WkOk (isRaw a || isRaw b) Rw (Oo O W) J H1 (zipL xs zs) → R J H1 := h3
    obtain ⟨ys, rr, hk⟩ := items_kind e1 w1
    obtain ⟨us, rr2, hk2⟩ := items_kind e3 w2
    refine ⟨v, u, ys, us, rfl, kind_stay (raw := isRaw a || isRaw b) (xs := xs) (p := p) r.ro (fun ez => ?_) hk fun k hk1 hk3 => kind_stay (raw := isRaw a || isRaw b) (xs := zs) (p := p2) r.ro (fun ez => ?_) hk2 fun k' hk4 hk5 => h2 _ H2 (k1.trans k2) R2.row (wk_zip rr rr2 hk3 hk5)⟩
    · simp only [Bool.or_eq_false_iff] at ez
      exact (FRep.clean f1 (fl_raw m.nw a ez.1)).kp (k2.mono fun z hz => oo z (r.ro z hz))
    · simp only [Bool.or_eq_false_iff] at ez
      exact FRep.clean f2 (fl_raw m.nw b ez.2)

/-! ### targets -/
/-- a name that is stored: a local of its own (in a def also a cell) -/
def setB (df : Bool) (c : Cc) (i : Nat) (x : Str) : Bool := (c.N[i]? == some x) && ((c.sc.names.lookup x == some NameKind.local) || (df && (c.sc.names.lookup x == some NameKind.cell)))
mutual
def chT (df : Str → Bool) (c : Cc) : CT → Expr → Bool
  | .nm i, .Name x _ => setB (df x) c i x
  | .tp ts, .Tuple es _ _ => chTs df c ts es
  | _, _ => false
def chTs (df : Str → Bool) (c : Cc) : CTs → List Expr → Bool
  | .nil, [] => true
  | .cons t ts, e :: es => notStar e && chT df c t e && chTs df c ts es
  | _, _ => false
end
/-- slots but these are as they were -/
def OutS (is : List Nat) (σ σ' : L2.St) : Prop := σ'.length = σ.length ∧ ∀ j, j ∉ is → σ'[j]? = σ[j]?
theorem OutS.trans {is js : List Nat} {a b d : L2.St} (h : OutS is a b) (k : OutS js b d) : OutS (is ++ js) a d :=
  ⟨k.1.trans h.1, fun j hj => (k.2 j fun z => hj (List.mem_append_right _ z)).trans (h.2 j fun z => hj (List.mem_append_left _ z))⟩
theorem Rl.setShr {K : PySem.W.Frag} {H0 H : Hp} {Rw O : AP1} {W : Nat → Option Addr} {s : Stt} {σ : L2.St} {i : Nat} {p : PV} {v : V} (r : Rl K H0 Rw O W s σ H) (h : Rep H Rw (Oo O W) p v) : Rl K H0 Rw O W (s.set i (.shr p)) (σ.set i (some v)) H where
  len := by rw [List.length_set, List.length_set]; exact r.len
  shr := fun j q e => by
    by_cases hj : i = j
    · subst hj
      by_cases hl : i < s.length
      · rw [List.getElem?_set_self hl] at e
        cases e
        exact ⟨v, by rw [List.getElem?_set_self (by rw [← r.len]; exact hl)], h⟩
      · rw [List.getElem?_eq_none (by rw [List.length_set]; omega)] at e
        cases e
    · rw [List.getElem?_set_ne hj] at e ⊢
      exact r.shr j q e
  own := fun j q e => by
    by_cases hj : i = j
    · subst hj
      by_cases hl : i < s.length
      · rw [List.getElem?_set_self hl] at e
        cases e
      · rw [List.getElem?_eq_none (by rw [List.length_set]; omega)] at e
        cases e
    · rw [List.getElem?_set_ne hj] at e ⊢
      exact r.own j q e
  inj := r.inj
  new := r.new
  dis := r.dis
  wt := r.wt
  trk := r.trk
  ro := r.ro
  row := r.row
  kp := r.kp
/-- what is known of a target's reading -/
abbrev GG (m : Md) (t : CT) (g : TG) : Prop := ∀ (H0 : Hp) (Rw O : AP1) (W : Nat → Option Addr) (s s' : Stt) (σ : L2.St) (H : Hp) (p : PV) (v : V) (Q : L2.St → Hp → Prop), Rl m.K H0 Rw O W s σ H → Rep H Rw (Oo O W) p v → bindT t p s = some s' →
  (∀ σ', Rl m.K H0 Rw O W s' σ' H → OutS (slotsT t) σ σ' → Q σ' H) → g v σ H Q
abbrev GGs (m : Md) (t : CTs) (g : TGs) : Prop := ∀ (H0 : Hp) (Rw O : AP1) (W : Nat → Option Addr) (s s' : Stt) (σ : L2.St) (H : Hp) (ps : List PV) (vs : List V) (Q : L2.St → Hp → Prop), Rl m.K H0 Rw O W s σ H → Reps H Rw (Oo O W) ps vs → bindTs t ps s = some s' →
  (∀ σ', Rl m.K H0 Rw O W s' σ' H → OutS (slotsTs t) σ σ' → Q σ' H) → g vs σ H Q
def FnC (df : Str → Bool) (X : Cx) : Prop := ∀ x, df x = true → X.fn x = true
theorem each_cons {e : Expr} {es : List Expr} {env : Env} (h : notStar e = true) : assignEach (e :: es) env = (false, assign e env) :: assignEach es env := by
  cases e <;> first | rfl | cases h
theorem each_all {df : Str → Bool} : ∀ {ts : CTs} {es : List Expr}, chTs df c ts es = true → ∀ env : Env, (assignEach es env).length = es.length ∧ (assignEach es env).findIdx? (·.1) = none
  | .nil, [], _, _ => ⟨rfl, rfl⟩
  | .cons t ts, e :: es, h, env => by
    simp only [chTs, Bool.and_eq_true] at h
    obtain ⟨h1, h2⟩ := each_all h.2 env
    rw [each_cons h.1.1]
    refine ⟨by rw [List.length_cons, h1, List.length_cons], ?_⟩
    rw [List.findIdx?_cons, h2]
    rfl
  | .nil, _ :: _, h, _ => by simp [chTs] at h
  | .cons _ _, [], h, _ => by simp [chTs] at h
mutual
theorem ct_ok {df : Str → Bool} : ∀ {t : CT} {e : Expr}, chT df c t e = true → ∃ g : TG, (∀ X, XOk m c X → FnC df X → PG X e g) ∧ GG m t g
  | .nm i, .Name x _, h => by
    simp only [chT, setB, Bool.and_eq_true, beq_iff_eq, Bool.or_eq_true] at h
    refine ⟨gName i, fun X hX hf => ?_, fun H0 Rw O W s s' σ H p v Q r rp e q => ?_⟩
    · have hN : X.N[i]? = some x := by rw [hX.N]; exact h.1
      rcases h.2 with h2 | h2
      · have hl : X.env.scope.names.lookup x = some .local := by rw [hX.sc]; exact h2
        exact pg_name (by rw [hX.N]; exact hX.nd) hN (.inl hl) (.inr hl)
      · have hl : X.env.scope.names.lookup x = some .cell := by rw [hX.sc]; exact h2.2
        exact pg_name (by rw [hX.N]; exact hX.nd) hN (.inr hl) (.inl (hf x h2.1))
    · simp only [bindT, Option.some.injEq] at e
      subst e
      refine q _ (r.setShr rp) ⟨by rw [List.length_set], fun j hj => ?_⟩
      simp only [slotsT, List.mem_singleton] at hj
      rw [List.getElem?_set_ne (Ne.symm hj)]
  | .tp ts, .Tuple es k pos, h => by
    simp only [chT] at h
    obtain ⟨g, h1, h2⟩ := cts_ok h
    refine ⟨gTup m.K es.length g, fun X hX hf => ?_, fun H0 Rw O W s s' σ H p v Q r rp e q => ?_⟩
    · have := pg_tup (k := k) (pos := pos) (n := es.length) hX.calm (h1 X hX hf) (each_all h X.env).1 (each_all h X.env).2
      rw [hX.K] at this
      exact this
    · cases p with
      | tup ps =>
        simp only [bindT] at e
        simp only [Rep] at rp
        obtain ⟨a, vs, rfl, ha, rs⟩ := rp
        refine ⟨a, vs, rfl, SqT.of ha, ?_, h2 H0 Rw O W s s' σ H ps vs Q r rs e q⟩
        rw [reps_len rs]
        exact bindTs_len h e
      | _ => simp [bindT] at e
  | .nm _, .BoolOp _ _ _, h => by simp [chT] at h
  | .nm _, .NamedExpr _ _ _, h => by simp [chT] at h
  | .nm _, .BinOp _ _ _ _, h => by simp [chT] at h
  | .nm _, .UnaryOp _ _ _, h => by simp [chT] at h
  | .nm _, .Lambda _ _ _ _, h => by simp [chT] at h
  | .nm _, .IfExp _ _ _ _, h => by simp [chT] at h
  | .nm _, .Dict _ _ _, h => by simp [chT] at h
  | .nm _, .Set _ _ _, h => by simp [chT] at h
  | .nm _, .ListComp _ _ _ _, h => by simp [chT] at h
  | .nm _, .SetComp _ _ _ _, h => by simp [chT] at h
  | .nm _, .DictComp _ _ _ _ _, h => by simp [chT] at h
  | .nm _, .GeneratorExp _ _ _ _, h => by simp [chT] at h
  | .nm _, .Await _ _, h => by simp [chT] at h
  | .nm _, .Yield _ _, h => by simp [chT] at h
  | .nm _, .YieldFrom _ _, h => by simp [chT] at h
  | .nm _, .Compare _ _ _ _, h => by simp [chT] at h
  | .nm _, .Call _ _ _ _, h => by simp [chT] at h
  | .nm _, .FormattedValue _ _ _ _, h => by simp [chT] at h
  | .nm _, .JoinedStr _ _, h => by simp [chT] at h
  | .nm _, .Constant _ _ _, h => by simp [chT] at h
  | .nm _, .Attribute _ _ _, h => by simp [chT] at h
  | .nm _, .Subscript _ _ _, h => by simp [chT] at h
  | .nm _, .Starred _ _, h => by simp [chT] at h
  | .nm _, .List _ _, h => by simp [chT] at h
  | .nm _, .Tuple _ _ _, h => by simp [chT] at h
  | .nm _, .Slice _ _ _ _, h => by simp [chT] at h
  | .tp _, .Name _ _, h => by simp [chT] at h
  | .tp _, .BoolOp _ _ _, h => by simp [chT] at h
  | .tp _, .NamedExpr _ _ _, h => by simp [chT] at h
  | .tp _, .BinOp _ _ _ _, h => by simp [chT] at h
  | .tp _, .UnaryOp _ _ _, h => by simp [chT] at h
  | .tp _, .Lambda _ _ _ _, h => by simp [chT] at h
  | .tp _, .IfExp _ _ _ _, h => by simp [chT] at h
  | .tp _, .Dict _ _ _, h => by simp [chT] at h
  | .tp _, .Set _ _ _, h => by simp [chT] at h
  | .tp _, .ListComp _ _ _ _, h => by simp [chT] at h
  | .tp _, .SetComp _ _ _ _, h => by simp [chT] at h
  | .tp _, .DictComp _ _ _ _ _, h => by simp [chT] at h
  | .tp _, .GeneratorExp _ _ _ _, h => by simp [chT] at h
  | .tp _, .Await _ _, h => by simp [chT] at h
  | .tp _, .Yield _ _, h => by simp [chT] at h
  | .tp _, .YieldFrom _ _, h => by simp [chT] at h
  | .tp _, .Compare _ _ _ _, h => by simp [chT] at h
  | .tp _, .Call _ _ _ _, h => by simp [chT] at h
  | .tp _, .FormattedValue _ _ _ _, h => by simp [chT] at h
  | .tp _, .JoinedStr _ _, h => by simp [chT] at h
  | .tp _, .Constant _ _ _, h => by simp [chT] at h
  | .tp _, .Attribute _ _ _, h => by simp [chT] at h
  | .tp _, .Subscript _ _ _, h => by simp [chT] at h
  | .tp _, .Starred _ _, h => by simp [chT] at h
  | .tp _, .List _ _, h => by simp [chT] at h
  | .tp _, .Slice _ _ _ _, h => by simp [chT] at h
theorem cts_ok {df : Str → Bool} : ∀ {ts : CTs} {es : List Expr}, chTs df c ts es = true → ∃ g : TGs, (∀ X, XOk m c X → FnC df X → PGs X es g) ∧ GGs m ts g
  | .nil, [], _ => by
    refine ⟨gNil, fun X _ _ => pgs_nil, fun H0 Rw O W s s' σ H ps vs Q r rs e q => ?_⟩
    cases ps with
    | nil =>
      simp only [bindTs, Option.some.injEq] at e
      subst e
      simp only [Reps] at rs
      exact ⟨rs, q σ r ⟨rfl, fun _ _ => rfl⟩⟩
    | cons p ps => simp [bindTs] at e
  | .cons t ts, e :: es, h => by
    simp only [chTs, Bool.and_eq_true] at h
    obtain ⟨g1, a1, a2⟩ := ct_ok h.1.2
    obtain ⟨g2, b1, b2⟩ := cts_ok h.2
    refine ⟨gCons g1 g2, fun X hX hf => pgs_cons (a1 X hX hf) (b1 X hX hf) (by rw [each_cons h.1.1]; rfl), fun H0 Rw O W s s' σ H ps vs Q r rs e' q => ?_⟩
    cases ps with
    | nil => simp [bindTs] at e'
    | cons p ps =>
      simp only [bindTs] at e'
      obtain ⟨s1, h1, h2⟩ := Option.bind_eq_some_iff.mp e'
      simp only [Reps] at rs
      obtain ⟨w, ws, rfl, r1, r2⟩ := rs
      refine ⟨w, ws, rfl, a2 H0 Rw O W s s1 σ H p w _ r r1 h1 fun σ1 R1 o1 => ?_⟩
      exact b2 H0 Rw O W s1 s' σ1 H ps ws Q R1 r2 h2 fun σ2 R2 o2 => q σ2 R2 (o1.trans o2)
  | .nil, _ :: _, h => by simp [chTs] at h
  | .cons _ _, [], h => by simp [chTs] at h
theorem bindTs_len {df : Str → Bool} : ∀ {ts : CTs} {es : List Expr} {ps : List PV} {s s' : Stt}, chTs df c ts es = true → bindTs ts ps s = some s' → ps.length = es.length
  | .nil, [], ps, s, s', _, e => by
    cases ps with
    | nil => rfl
    | cons p ps => simp [bindTs] at e
  | .cons t ts, e :: es, ps, s, s', h, e' => by
    simp only [chTs, Bool.and_eq_true] at h
    cases ps with
    | nil => simp [bindTs] at e'
    | cons p ps =>
      simp only [bindTs] at e'
      obtain ⟨s1, h1, h2⟩ := Option.bind_eq_some_iff.mp e'
      rw [List.length_cons, List.length_cons, bindTs_len h.2 h2]
  | .nil, _ :: _, _, _, _, h, _ => by simp [chTs] at h
  | .cons _ _, [], _, _, _, h, _ => by simp [chTs] at h
end
end
end Ev
set_option autoImplicit false
set_option linter.all false
set_option Elab.async false
set_option maxRecDepth 100000
/-! Ev10: comprehensions; writes. -/
namespace Ev
open PySem PySem.Spec PyProof.Rows L2
section
variable {K : PySem.W.Frag} {H0 H H' : Hp} {Rw O : AP1} {W : Nat → Option Addr} {s : Stt} {σ : L2.St}
/-- a list of ours that no slot holds is written -/
theorem Rl.wr {D : Addr} {o : HO} {xs : List V} (r : Rl K H0 Rw O W s σ H) (hO : O D) (hR : ¬ Rw D) (h0 : H0 D = none) (hD : H D = some (.lst xs)) : Rl K H0 Rw O W s σ (upd H D o) := by
  have kp : Kp (Oo O W) H (upd H D o) := fun a u e z => by
    have n : a ≠ D := fun q => by
      subst q
      rcases z with z | ⟨vs, z⟩
      · exact z (.inl hO)
      · rw [hD] at e; cases e; cases z
    rw [upd_ne n]; exact e
  refine ⟨r.len, fun i v e => ?_, fun i v e => ?_, r.inj, r.new, r.dis, fun i a e => ?_, fun a z => ?_, r.ro, fun a z => ?_, fun a u e z => ?_⟩
  · obtain ⟨x, e1, h⟩ := r.shr i v e
    exact ⟨x, e1, h.kp kp⟩
  · obtain ⟨a, e1, e2, h⟩ := r.own i v e
    exact ⟨a, e1, e2, TRep.go h kp (fun _ => .inl) (upd_ne fun q => r.dis i a e1 (by rw [q]; exact hO))⟩
  · rw [upd_ne fun q => r.dis i a e (by rw [q]; exact hO)]; exact r.wt i a e
  · by_cases q : a = D
    · rw [q, upd_same]; exact Option.some_ne_none _
    · rw [upd_ne q]; exact r.trk a z
  · exact (r.row a z).wr (fun q => hR (q ▸ z)) fun x y q => by rw [hD] at q; cases q
  · rw [upd_ne (fun q => by rw [q, h0] at e; cases e)]
    exact r.kp a u e z
theorem Rl.setNo {i : Nat} (r : Rl K H0 Rw O W s σ H) {x : Option V} : Rl K H0 Rw O W (s.set i .no) (σ.set i x) H where
  len := by rw [List.length_set, List.length_set]; exact r.len
  shr := fun j q e => by
    by_cases hj : i = j
    · subst hj
      by_cases hl : i < s.length
      · rw [List.getElem?_set_self hl] at e
        cases e
      · rw [List.getElem?_eq_none (by rw [List.length_set]; omega)] at e
        cases e
    · rw [List.getElem?_set_ne hj] at e ⊢
      exact r.shr j q e
  own := fun j q e => by
    by_cases hj : i = j
    · subst hj
      by_cases hl : i < s.length
      · rw [List.getElem?_set_self hl] at e
        cases e
      · rw [List.getElem?_eq_none (by rw [List.length_set]; omega)] at e
        cases e
    · rw [List.getElem?_set_ne hj] at e ⊢
      exact r.own j q e
  inj := r.inj
  new := r.new
  dis := r.dis
  wt := r.wt
  trk := r.trk
  ro := r.ro
  row := r.row
  kp := r.kp
theorem Rl.wipe (r : Rl K H0 Rw O W s σ H) : ∀ vs : List Nat, Rl K H0 Rw O W (wipeS s vs) (L2.wipe σ vs) H
  | [] => r
  | v :: vs => (Rl.wipe r vs).setNo
end
theorem wipe_get {σ : L2.St} : ∀ (vs : List Nat) (j : Nat), (L2.wipe σ vs)[j]? = if j ∈ vs then (if j < σ.length then some none else none) else σ[j]?
  | [], j => by simp [L2.wipe]
  | v :: vs, j => by
    simp only [L2.wipe]
    by_cases h : v = j
    · subst h
      simp only [List.mem_cons, true_or, if_true]
      by_cases hl : v < σ.length
      · rw [List.getElem?_set_self (by rw [wipe_length]; exact hl), if_pos hl]
      · rw [List.getElem?_eq_none (by rw [List.length_set, wipe_length]; omega), if_neg hl]
    · rw [List.getElem?_set_ne h, wipe_get vs j]
      simp only [List.mem_cons]
      have : ¬ j = v := fun e => h e.symm
      simp only [this, false_or]
theorem wipe_out {σ σ' : L2.St} {vs : List Nat} (h : OutS vs (L2.wipe σ vs) σ') : L2.wipe σ' vs = L2.wipe σ vs := by
  apply List.ext_getElem?
  intro j
  have hl : σ'.length = σ.length := h.1.trans (wipe_length σ vs)
  rw [wipe_get, wipe_get, hl]
  by_cases hj : j ∈ vs
  · simp only [hj, if_true]
  · simp only [hj, if_false]
    rw [h.2 j hj, wipe_get, if_neg hj]
section
variable {m : Md} {c : Cc}
/-- a clause's tests -/
def SF (m : Md) (c : Cc) (ce : CE) (ifs : List Expr) : Prop := ∃ t : TT, (∀ X, XOk m c X → PTs X ifs t) ∧ GT m ce t
theorem sf_nil : SF m c (.con (.bl true)) [] := ⟨tYes, fun _ _ => pts_nil, fun H0 Rw O W s σ H Q r q => q H Kp.refl r.row⟩
theorem sf_one {ce : CE} {e : Expr} (h : ST m c ce e) : SF m c ce [e] := let ⟨t, p, g⟩ := h; ⟨t, fun X hX => pts_one (p X hX), g⟩
/-- the check's context within a block -/
def Cc.blk (c : Cc) (scope : Scope) : Cc := { c with sc := relS scope c.sc }
theorem XOk.blk {X : Cx} (h : XOk m c X) {scope : Scope} {s : Shared} {H : Hp} {C : Addr} {cl : List (Str × Addr)} {fp : List Addr} : XOk m (c.blk scope) (X.blk s H scope (compEnvC scope cl C X.env) fp) where
  prog := h.prog
  w := h.w
  K := h.K
  mg := h.mg
  base := h.base
  N := h.N
  sc := by
    show relS scope X.env.scope = relS scope c.sc
    rw [h.sc]
  nd := h.nd
  calm := h.calm
  room := h.room
def ownOf (c : Cc) (t : CT) : List (Str × Nat) := (slotsT t).map fun i => (c.N.getD i "", i)
theorem ownOf_snd {t : CT} : (ownOf c t).map (·.2) = slotsT t := by
  unfold ownOf
  rw [List.map_map]
  exact List.map_id _
theorem lim_lt {n : Nat} (h : n < lim) : n < sizeLine := Nat.lt_of_lt_of_le h (by decide)
theorem compL_core {elt cond : CE} {t : CT} {tt : TT} {te : TE} {g : TG} {J : It} (he : GE m elt te) (hr : isRaw elt = false) (hf : GT m cond tt) (hg : GG m t g)
    {H0 : Hp} {Rw O : AP1} {W : Nat → Option Addr} {s : Stt} {σ : L2.St} {H1 : Hp} {Q : VK} {xs : List PV} {raw : Bool} (R : Rl m.K H0 Rw O W s σ H1) (w : WkOk raw Rw (Oo O W) J H1 xs) (hl : xs.length ≤ lim)
    (q : (compL t (fun s1 => evE m.gl m.cl s1 cond) (fun s1 => evE m.gl m.cl s1 elt) (wipeS s (slotsT t)) xs).wp (fun ys => EQ m .frs H1 Rw O W Q (.lst ys)) No) :
    ∀ D, H1 D = none → ∃ W : Nat → Nat → Hp → Prop, (∃ m, W 0 m (upd H1 D (.lst []))) ∧ ∀ i m H, W i m H →
      (J.stop i H ∧ Q (.ref D) H) ∨ (J.go i H ∧ ∃ Nx : Hp → Prop, (∀ H', Nx H' → ∃ m', m' < m ∧ W (i + 1) m' H') ∧ ∀ x H', J.yld i H x H' → g x (L2.wipe σ (slotsT t)) H' fun σ2 H2 => L2.wipe σ2 (slotsT t) = L2.wipe σ (slotsT t) ∧ tt σ2 H2 fun b H3 =>
        if b = true then te σ2 H3 fun y H4 => ∃ acc, H4 D = some (.lst acc) ∧ acc.length < sizeLine ∧ Nx (upd H4 D (.lst (acc ++ [y]))) else Nx H3) := by
  intro D hD
  obtain ⟨G, Y, wk, hG, hY⟩ := w
  have h0 : H0 D = none := Kp.back R.kp R.row D hD
  have nR : ¬ Rw D := fun z => R.trk D (R.ro D z) hD
  have nO : ¬ Oo O W D := fun z => R.sts.1 D z hD
  have okO : ∀ b, Oo (Ad O D) W b → Oo O W b ∨ H1 b = none := fun b z => by
    rcases z with (z | z) | z
    · exact .inl (.inl z)
    · exact .inr (by rw [z]; exact hD)
    · exact .inl (.inr z)
  refine lc_it wk (fun i Hh => Kp Rw H1 Hh ∧ Rl m.K H0 Rw (Ad O D) W (wipeS s (slotsT t)) (L2.wipe σ (slotsT t)) Hh ∧ ∃ acc pacc, Hh D = some (.lst acc) ∧ acc.length ≤ i ∧ Reps Hh Rw (Oo (Ad O D) W) pacc acc ∧
    (compL t (fun s1 => evE m.gl m.cl s1 cond) (fun s1 => evE m.gl m.cl s1 elt) (wipeS s (slotsT t)) (xs.drop i)).wp (fun ys => EQ m .frs H1 Rw O W Q (.lst (pacc ++ ys))) No) ?_ ?_ ?_ ?_
  · have k : Kp Rw H1 (upd H1 D (.lst [])) := Kp.upd hD
    have rw' : Rws m.K Rw (upd H1 D (.lst [])) := R.row.same k fun a z => upd_ne fun e => nR (e ▸ z)
    refine ⟨k, (R.wipe _).ad k rw' hD (by rw [upd_same]; exact Option.some_ne_none _), [], [], upd_same, Nat.zero_le _, rfl, ?_⟩
    exact q
  · rintro i Hh hi ⟨k, _⟩
    refine hG Hh ?_
    cases raw
    · exact k.mono fun a z => .inl (R.ro a z)
    · exact k
  · rintro i x Hh Hy hi ⟨k, R1, acc, pacc, hacc, hlen, hreps, hq⟩ y
    obtain ⟨same, hx⟩ := hY i Hh x Hy hi (hG Hh (by
      cases raw
      · exact k.mono fun a z => .inl (R.ro a z)
      · exact k)) y
    have ei : xs.drop i = xs[i] :: xs.drop (i + 1) := List.drop_eq_getElem_cons hi
    rw [ei] at hq
    simp only [compL] at hq
    obtain ⟨s1, hb, hq⟩ := wpO hq
    have kO : Kp (Oo O W) H1 Hh := k.mono fun a z => .inl (R.ro a z)
    have rx : Rep Hy Rw (Oo (Ad O D) W) xs[i] x := hx _ _ (List.getElem?_eq_getElem hi) kO okO
    have kS : Kp Rw Hh Hy := fun a o e _ => same a o e
    have rwS : Rws m.K Rw Hy := R1.row.same kS fun a z => by
      obtain ⟨_, _, _, _, _, e, _⟩ := R1.row a z
      rw [e]; exact same _ _ e
    have R2 := R1.step kS rwS
    refine hg H0 Rw (Ad O D) W _ s1 _ Hy xs[i] x _ R2 rx hb fun σ2 R3 out => ⟨wipe_out out, ?_⟩
    have hq' : (evE m.gl m.cl s1 cond >>= fun x => Res.ofO (truthP x)).wp (fun b => (if b = true then (do
      let y ← evE m.gl m.cl s1 elt
      let ys ← compL t (fun s1 => evE m.gl m.cl s1 cond) (fun s1 => evE m.gl m.cl s1 elt) (wipeS s (slotsT t)) (xs.drop (i + 1))
      Res.ok (y :: ys)) else compL t (fun s1 => evE m.gl m.cl s1 cond) (fun s1 => evE m.gl m.cl s1 elt) (wipeS s (slotsT t)) (xs.drop (i + 1))).wp (fun ys => EQ m .frs H1 Rw O W Q (.lst (pacc ++ ys))) No) No := by
      rw [Res.wp_bind]
      exact Res.wp_imp (nwp hq) fun a ha => nwp ha
    refine hf H0 Rw (Ad O D) W s1 σ2 Hy _ R3 (Res.wp_imp hq' fun b hb2 H3 k3 rw3 => ?_)
    have R4 := R3.step k3 rw3
    have RW4 := R2.step k3 rw3
    have kall : Kp Rw H1 H3 := k.trans (kS.trans k3)
    have D3 : H3 D = some (.lst acc) := k3 D _ (same D _ hacc) (.inl nR)
    have reps3 : Reps H3 Rw (Oo (Ad O D) W) pacc acc := (hreps.kp (kS.mono fun a z => .inl (.inl (R.ro a z)))).kp (k3.mono fun a z => .inl (.inl (R.ro a z)))
    cases b with
    | false =>
      simp only [Bool.false_eq_true, if_false] at hb2 ⊢
      exact ⟨kall, RW4, acc, pacc, D3, by omega, reps3, hb2⟩
    | true =>
      simp only [if_true] at hb2 ⊢
      refine he H0 Rw (Ad O D) W s1 σ2 H3 _ R4 (Res.wp_imp (nwp hb2) fun p hp v H4 k4 rw4 f4 => ?_)
      have RW5 := RW4.step k4 rw4
      have cl := FRep.clean f4 (fl_raw m.nw elt hr)
      have D4 : H4 D = some (.lst acc) := k4 D _ D3 (.inl nR)
      have reps4 : Reps H4 Rw (Oo (Ad O D) W) pacc acc := reps3.kp (k4.mono fun a z => .inl (.inl (R.ro a z)))
      have kD : Kp (Oo (Ad O D) W) H4 (upd H4 D (.lst (acc ++ [v]))) := fun a u e z => by
        have n : a ≠ D := fun q => by
          subst q
          rcases z with z | ⟨vs, z⟩
          · exact z (.inl (.inr rfl))
          · rw [D4] at e; cases e; cases z
        rw [upd_ne n]; exact e
      refine ⟨acc, D4, lim_lt (by omega), fun a o e z => ?_, RW5.wr (.inr rfl) nR h0 D4, acc ++ [v], pacc ++ [p], upd_same, by rw [List.length_append]; simp only [List.length_cons, List.length_nil]; omega, ?_, ?_⟩
      · rw [upd_ne (fun q => by rw [q, hD] at e; cases e)]
        exact (kall.trans k4) a o e z
      · refine (Reps.append reps4 ?_).kp kD
        simp only [Reps]
        exact ⟨v, [], rfl, cl, rfl⟩
      · refine Res.wp_imp (nwp hp) fun ys hys => ?_
        have hys' : EQ m .frs H1 Rw O W Q (.lst (pacc ++ p :: ys)) := hys
        rw [List.append_assoc]
        exact hys'
  · rintro Hh ⟨k, R1, acc, pacc, hacc, hlen, hreps, hq⟩
    rw [List.drop_length] at hq
    have hq' : EQ m .frs H1 Rw O W Q (.lst (pacc ++ [])) := hq
    rw [List.append_nil] at hq'
    refine hq' _ _ k R1.row ⟨D, rfl, hD, nO, acc, hacc, ?_⟩
    refine Reps.go Kp.refl (fun a z => .inl ?_) _ _ hreps
    rcases z with (z | z) | z
    · exact .inl (.inl z)
    · exact .inr z
    · exact .inl (.inr z)
/-- the names of a block that have cells there -/
def cellB (scope : Scope) : Str → Bool := fun x => scope.names.lookup x == some NameKind.cell
/-- a comprehension's parts -/
structure LcP (m : Md) (c : Cc) (ce : CE) (elt tg iter : Expr) (ifs : List Expr) (scope : Scope) (wi : TI) (g : TG) (tt : TT) (te : TE) (vs : List Nat) (own : List (Str × Nat)) : Prop where
  it : ∀ X, XOk m c X → PI X tg iter wi
  blk : BlkOk c.N c.sc scope own
  vo : own.map (·.2) = vs
  tg : ∀ X, XOk m (c.blk scope) X → FnC (cellB scope) X → PG X tg g
  ifs : ∀ X, XOk m (c.blk scope) X → PTs X ifs tt
  el : ∀ X, XOk m (c.blk scope) X → PE X elt te
  ns : notSet iter = true
  ge : GE m ce (tLc wi g tt te vs)
theorem lcp {elt cond : CE} {t : CT} {sr : CR} {e tg iter : Expr} {ifs : List Expr} {scope : Scope} (hsr : SR m c tg sr iter) (hT : chT (cellB scope) (c.blk scope) t tg = true) (hE : SE m (c.blk scope) elt e) (hr : isRaw elt = false)
    (hF : SF m (c.blk scope) cond ifs) (hb : blkC c.N c.sc scope (ownOf c t) = true) (hns : notSet iter = true) :
    ∃ wi g tt te, LcP m c (.comp elt t sr cond) e tg iter ifs scope wi g tt te (slotsT t) (ownOf c t) := by
  obtain ⟨wi, pi, gi⟩ := hsr
  obtain ⟨te, pe, ge⟩ := hE
  obtain ⟨tt, pf, gf⟩ := hF
  obtain ⟨g, pg, gg⟩ := ct_ok (m := m) hT
  refine ⟨wi, g, tt, te, pi, blkOk_by hb, ownOf_snd, pg, pf, pe, hns, fun H0 Rw O W s σ H Q R q => ?_⟩
  simp only [evE] at q
  refine gi H0 Rw O W s σ H _ R (Res.wp_imp (nwp q) fun xs hxs J H1 k1 rw1 w => ?_)
  have R1 := R.step k1 rw1
  have hxs2 : (if xs.length ≤ lim then (do
      let ys ← compL t (fun s1 => evE m.gl m.cl s1 cond) (fun s1 => evE m.gl m.cl s1 elt) (wipeS s (slotsT t)) xs
      Res.ok (PV.lst ys)) else Res.no).wp (EQ m .frs H Rw O W Q) No := hxs
  by_cases hl : xs.length ≤ lim
  · rw [if_pos hl] at hxs2
    refine compL_core ge hr gf gg R1 w hl (Res.wp_imp (nwp hxs2) fun ys hys v H2 k2 rw2 f2 => ?_)
    have hys2 : EQ m .frs H Rw O W Q (.lst ys) := hys
    exact hys2 v H2 (k1.trans k2) rw2 (FRep.back f2 (Kp.back k1 rw1))
  · rw [if_neg hl] at hxs2; exact hxs2.elim
theorem se_comp {elt cond : CE} {t : CT} {sr : CR} {e tg iter : Expr} {ifs : List Expr} {scope : Scope} {pos : Pos} (hsr : SR m c tg sr iter) (hT : chT (cellB scope) (c.blk scope) t tg = true) (hE : SE m (c.blk scope) elt e) (hr : isRaw elt = false)
    (hF : SF m (c.blk scope) cond ifs) (hb : blkC c.N c.sc scope (ownOf c t) = true) (hns : notSet iter = true) : SE m c (.comp elt t sr cond) (.ListComp e [⟨tg, iter, ifs, 0⟩] scope pos) := by
  obtain ⟨wi, g, tt, te, L⟩ := lcp hsr hT hE hr hF hb hns
  refine ⟨tLc wi g tt te (slotsT t), fun X hX => ?_, L.ge⟩
  have ok : BlkOk X.N X.env.scope scope (ownOf c t) := by rw [hX.N, hX.sc]; exact L.blk
  have := pe_lc (pos := pos) hX.calm (by rw [hX.N]; exact hX.nd) (L.it X hX) ok (fun s H C cl fp => L.tg _ hX.blk fun _ h => h) (fun s H C cl fp => L.ifs _ hX.blk) (fun s H C cl fp => L.el _ hX.blk) (fun x => fold_set L.ns x)
  rw [L.vo] at this
  exact this
end
end Ev
set_option autoImplicit false
set_option linter.all false
set_option Elab.async false
set_option maxRecDepth 100000
/-! Ev11: the check of expressions, and that it is sound. -/
namespace Ev
open PySem PySem.Spec PyProof.Rows L2
mutual
/-- does the compact expression say what the given one says -/
def chE : Cc → CE → Expr → Bool
  | c, .con v, e => match e with
    | .Constant k _ _ => chK v k
    | _ => false
  | c, .var i, e => match e with
    | .Name x _ => nmB c i x
    | _ => false
  | c, .bor i, e => match e with
    | .Name x _ => nmB c i x
    | _ => false
  | c, .glo g, e => match e with
    | .Name x _ => glB c x && c.gc.contains (x, g)
    | _ => false
  | c, .bin o a b, e => match e with
    | .BinOp x op y _ => decide (op = opOf o) && (chE c a x && chE c b y)
    | _ => false
  | c, .neg a, e => match e with
    | .UnaryOp .USub x _ => chE c a x
    | _ => false
  | c, .not a, e => match e with
    | .UnaryOp .Not x _ => chE c a x
    | _ => false
  | c, .cmp o a b, e => match e with
    | .Compare x [op] [y] _ => decide (op = copOf o) && notSet y && (chE c a x && chE c b y)
    | _ => false
  | c, .cmp2 o p a b d, e => match e with
    | .Compare x [op, oq] [y, z] _ => decide (op = copOf o) && decide (oq = copOf p) && notSet z && (chE c a x && (chE c b y && chE c d z))
    | _ => false
  | c, .and a b, e => match e with
    | .BoolOp .And (x :: ys) pos => chE c a x && (match ys with
      | [y] => chE c b y
      | y :: z :: r => chE c b (.BoolOp .And (y :: z :: r) pos)
      | [] => false)
    | _ => false
  | c, .or a b, e => match e with
    | .BoolOp .Or (x :: ys) pos => chE c a x && (match ys with
      | [y] => chE c b y
      | y :: z :: r => chE c b (.BoolOp .Or (y :: z :: r) pos)
      | [] => false)
    | _ => false
  | c, .ifx d a b, e => match e with
    | .IfExp x y z _ => chE c d x && (chE c a y && chE c b z)
    | _ => false
  | c, .tup es, e => match e with
    | .Tuple xs _ _ => !anyRaw es && decide (lenS es ≤ 1000) && chEs c es xs
    | _ => false
  | c, .lst es, e => match e with
    | .List xs _ => !anyRaw es && decide (lenS es ≤ 1000) && chEs c es xs
    | _ => false
  | c, .dic0, e => match e with
    | .Dict [] [] _ => true
    | _ => false
  | c, .idx a i, e => match e with
    | .Subscript x y _ => notSl y && (chE c a x && chE c i y)
    | _ => false
  | c, .cut a lo hi, e => match e with
    | .Subscript x (.Slice l h none _) _ => chE c a x && ((match l with
      | none => isNop lo
      | some y => !isNop lo && chE c lo y) && (match h with
      | none => isNop hi
      | some y => !isNop hi && chE c hi y))
    | _ => false
  | c, .nop, e => false
  | c, .rev a, e => match e with
    | .Subscript x (.Slice none none (some (.UnaryOp .USub (.Constant (.int 1) _ _) _)) _) _ => chE c a x
    | _ => false
  | c, .bi (.isinst ts) (.cons a .nil), e => match e with
    | .Call (.Name x _) [e, .Name y p2] [] _ => glB c x && (x == Str.ofString "isinstance") && notStar e && decide (ts.length = 1) && tyNames c ts [.Name y p2] && chE c a e
    | .Call (.Name x _) [e, .Tuple es _ _] [] _ => glB c x && (x == Str.ofString "isinstance") && notStar e && decide (ts.length ≤ 100) && tyNames c ts es && chE c a e
    | _ => false
  | c, .bi b es, e => match e with
    | .Call (.Name x _) (y :: ys) [] _ => (match b with
      | .isinst _ => false
      | _ => true) && glB c x && (x == Str.ofString (biNm b).1) && (y :: ys).all notStar && chEs c es (y :: ys)
    | _ => false
  | c, .me k r es, e => match e with
    | .Call (.Attribute o nm apos) (y :: ys) [] pos => (nm == Str.ofString (meNm k)) && notCall0 o && (apos.endLine == pos.line) && (y :: ys).all notStar && decide ((y :: ys).length < 30) && (chE c r o && chEs c es (y :: ys))
    | _ => false
  | c, .call f es, e => match e with
    | .Call (.Name x _) (y :: ys) [] _ => glB c x && (y :: ys).all notStar && (c.fn.contains (x, f, lenS es) || (twB c x f && decide (lenS es = 1) && !anyRaw es && ys.isEmpty)) && chEs c es (y :: ys)
    | _ => false
  | c, .mcall g f o es, e => match e with
    | .Call (.Attribute z y apos) (w :: ys) [] pos => twG c g && c.mt.contains (y, f, lenS es + 1) && notCall0 z && (apos.endLine == pos.line) && (w :: ys).all notStar && decide ((w :: ys).length < 30) && !anyRaw es && (chE c o z && chEs c es (w :: ys))
    | _ => false
  | c, .attr g a f, e => match e with
    | .Attribute z n _ => twG c g && (tNames[f]? == some n) && notCall0 z && chE c a z
    | _ => false
  | c, .twr _ _ _, e => false
  | c, .lrng a, e => match e with
    | .Call (.Name x _) [.Call (.Name y _) [z] [] _] [] _ => glB c x && (x == Str.ofString "list") && glB c y && (y == Str.ofString "range") && notStar z && chE c a z
    | _ => false
  | c, .draw r a, e => match e with
    | .Call (.Name x _) [.Name y _, z] [] _ => glB c x && (x == Str.ofString "_law_taken") && nmB c r y && notStar z && chE c a z
    | _ => false
  | c, .comp elt t sr cond, e => match e with
    | .ListComp el [⟨tg, iter, ifs, 0⟩] scope _ => chR c tg sr iter && chT (cellB scope) (c.blk scope) t tg && chE (c.blk scope) elt el && !isRaw elt && (match ifs with
      | [] => (match cond with
        | .con (.bl true) => true
        | _ => false)
      | [x] => chE (c.blk scope) cond x
      | _ => false) && blkC c.N c.sc scope (ownOf c t) && notSet iter
    | _ => false
def chEs : Cc → CEs → List Expr → Bool
  | c, .nil, es => es.isEmpty
  | c, .cons a as, es => match es with
    | x :: xs => notStar x && (chE c a x && chEs c as xs)
    | [] => false
def chR : Cc → Expr → CR → Expr → Bool
  | c, tg, .seq a, e => chE c a e
  | c, tg, .rng1 a, e => match e with
    | .Call (.Name x _) [y] [] _ => (x == Str.ofString "range") && glB c x && notStar y && chE c a y
    | _ => false
  | c, tg, .rng2 a b, e => match e with
    | .Call (.Name x _) [y, z] [] _ => (x == Str.ofString "range") && glB c x && notStar y && notStar z && (chE c a y && chE c b z)
    | _ => false
  | c, tg, .rngd a b, e => match e with
    | .Call (.Name x _) [y, z, w] [] _ => (x == Str.ofString "range") && glB c x && notStar y && notStar z && isM1 w && (chE c a y && chE c b z)
    | _ => false
  | c, tg, .enum a, e => match tg with
    | .Tuple _ _ _ => (match e with
      | .Call (.Name x _) [y] [] _ => (x == Str.ofString "enumerate") && glB c x && notStar y && chE c a y
      | _ => false)
    | _ => false
  | c, tg, .zip a b, e => match tg with
    | .Tuple _ _ _ => (match e with
      | .Call (.Name x _) [y, z] [] _ => (x == Str.ofString "zip") && glB c x && notStar y && notStar z && (chE c a y && chE c b z)
      | _ => false)
    | _ => false
end
section
variable {m : Md} {c : Cc}
/-- a test within and / or -/
def SW (m : Md) (c : Cc) (ce : CE) (e : Expr) : Prop := match e with
  | .BoolOp _ _ _ => ∃ t : TT, (∀ X, XOk m c X → PW X e t) ∧ GT m ce t
  | _ => True
def SET (m : Md) (c : Cc) (ce : CE) (e : Expr) : Prop := SE m c ce e ∧ ST m c ce e ∧ SW m c ce e
theorem set_of {ce : CE} {e : Expr} (hp : plainT e = true) (h : SE m c ce e) : SET m c ce e := by
  refine ⟨h, st_of hp h, ?_⟩
  cases e <;> first | exact trivial | cases hp
theorem st_w {ce : CE} {e : Expr} (h : ∃ t : TT, (∀ X, XOk m c X → PW X e t) ∧ GT m ce t) : ST m c ce e := let ⟨t, p, g⟩ := h; ⟨t, fun X hX => (p X hX).pt, g⟩
theorem one_and {b : CE} {y : Expr} {pos : Pos} (h : SET m c b y) : SE m c b (.BoolOp .And [y] pos) ∧ ∃ t : TT, (∀ X, XOk m c X → PW X (.BoolOp .And [y] pos) t) ∧ GT m b t := by
  obtain ⟨⟨t, p, g⟩, ⟨t2, p2, g2⟩, _⟩ := h
  exact ⟨⟨t, fun X hX => pe_one (p X hX), g⟩, t2, fun X hX => pw_and1 (p2 X hX), g2⟩
theorem one_or {b : CE} {y : Expr} {pos : Pos} (h : SET m c b y) : SE m c b (.BoolOp .Or [y] pos) ∧ ∃ t : TT, (∀ X, XOk m c X → PW X (.BoolOp .Or [y] pos) t) ∧ GT m b t := by
  obtain ⟨⟨t, p, g⟩, ⟨t2, p2, g2⟩, _⟩ := h
  exact ⟨⟨t, fun X hX => pe_one (p X hX), g⟩, t2, fun X hX => pw_or1 (p2 X hX), g2⟩
theorem set2 {ce : CE} {e : Expr} (hp : (match e with | .BoolOp _ _ _ => false | _ => true) = true) (h : SE m c ce e ∧ ST m c ce e) : SET m c ce e := by
  refine ⟨h.1, h.2, ?_⟩
  cases e <;> first | exact trivial | cases hp
theorem setW {ce : CE} {op : BoolOp} {xs : List Expr} {pos : Pos} (h : SE m c ce (.BoolOp op xs pos) ∧ ∃ t : TT, (∀ X, XOk m c X → PW X (.BoolOp op xs pos) t) ∧ GT m ce t) : SET m c ce (.BoolOp op xs pos) := ⟨h.1, st_w h.2, h.2⟩
theorem MOk.blk (M : MOk m c) {scope : Scope} : MOk m (c.blk scope) := ⟨M.fn, M.tk, M.tw, M.gc, M.bi⟩
mutual
theorem chE_ok : ∀ {ce : CE} {c : Cc} {e : Expr}, MOk m c → chE c ce e = true → SET m c ce e
  | .con v, c, e, M, h => by
    simp only [chE] at h
    split at h
    · exact set_of rfl (se_con h)
    · cases h
  | .var i, c, e, M, h => by
    simp only [chE] at h
    split at h
    · exact set_of rfl (se_var h)
    · cases h
  | .bor i, c, e, M, h => by
    simp only [chE] at h
    split at h
    · exact set_of rfl (se_bor h)
    · cases h
  | .glo g, c, e, M, h => by
    simp only [chE] at h
    split at h
    · simp only [Bool.and_eq_true, List.contains_iff_mem] at h
      exact set_of rfl (se_glo M h.1 h.2)
    · cases h
  | .bin o a b, c, e, M, h => by
    simp only [chE] at h
    split at h
    · simp only [Bool.and_eq_true, decide_eq_true_eq] at h
      obtain ⟨rfl, h1, h2⟩ := h
      exact set_of rfl (se_bin (chE_ok M h1).1 (chE_ok M h2).1)
    · cases h
  | .neg a, c, e, M, h => by
    simp only [chE] at h
    split at h
    · exact set_of rfl (se_neg (chE_ok M h).1)
    · cases h
  | .not a, c, e, M, h => by
    simp only [chE] at h
    split at h
    · have k := chE_ok M h
      exact set2 rfl (se_not k.1 k.2.1)
    · cases h
  | .cmp o a b, c, e, M, h => by
    simp only [chE] at h
    split at h
    · simp only [Bool.and_eq_true, decide_eq_true_eq] at h
      obtain ⟨⟨rfl, h0⟩, h1, h2⟩ := h
      exact set2 rfl (se_cmp h0 (chE_ok M h1).1 (chE_ok M h2).1)
    · cases h
  | .cmp2 o p a b d, c, e, M, h => by
    simp only [chE] at h
    split at h
    · simp only [Bool.and_eq_true, decide_eq_true_eq] at h
      obtain ⟨⟨⟨rfl, rfl⟩, h0⟩, h1, h2, h3⟩ := h
      exact set2 rfl (se_cmp2 h0 (chE_ok M h1).1 (chE_ok M h2).1 (chE_ok M h3).1)
    · cases h
  | .and a b, c, e, M, h => by
    simp only [chE] at h
    split at h
    · simp only [Bool.and_eq_true] at h
      obtain ⟨h1, h2⟩ := h
      have k := chE_ok M h1
      split at h2
      · exact setW (se_and k.1 k.2.1 (one_and (chE_ok M h2)).1 (one_and (chE_ok M h2)).2)
      · have kb := chE_ok M h2
        exact setW (se_and k.1 k.2.1 kb.1 kb.2.2)
      · cases h2
    · cases h
  | .or a b, c, e, M, h => by
    simp only [chE] at h
    split at h
    · simp only [Bool.and_eq_true] at h
      obtain ⟨h1, h2⟩ := h
      have k := chE_ok M h1
      split at h2
      · exact setW (se_or k.1 k.2.1 (one_or (chE_ok M h2)).1 (one_or (chE_ok M h2)).2)
      · have kb := chE_ok M h2
        exact setW (se_or k.1 k.2.1 kb.1 kb.2.2)
      · cases h2
    · cases h
  | .ifx d a b, c, e, M, h => by
    simp only [chE] at h
    split at h
    · simp only [Bool.and_eq_true] at h
      obtain ⟨h1, h2, h3⟩ := h
      have kd := chE_ok M h1
      have ka := chE_ok M h2
      have kb := chE_ok M h3
      exact set2 rfl (se_ifx kd.2.1 ka.1 kb.1 ka.2.1 kb.2.1)
    · cases h
  | .tup es, c, e, M, h => by
    simp only [chE] at h
    split at h
    · simp only [Bool.and_eq_true, decide_eq_true_eq, Bool.not_eq_true'] at h
      exact set_of rfl (se_tup h.1.1 h.1.2 (chEs_ok M h.2))
    · cases h
  | .lst es, c, e, M, h => by
    simp only [chE] at h
    split at h
    · simp only [Bool.and_eq_true, decide_eq_true_eq, Bool.not_eq_true'] at h
      exact set_of rfl (se_lst h.1.1 h.1.2 (chEs_ok M h.2))
    · cases h
  | .dic0, c, e, M, h => by
    simp only [chE] at h
    split at h
    · exact set_of rfl se_dic0
    · cases h
  | .idx a i, c, e, M, h => by
    simp only [chE] at h
    split at h
    · simp only [Bool.and_eq_true] at h
      exact set_of rfl (se_idx h.1 (chE_ok M h.2.1).1 (chE_ok M h.2.2).1)
    · cases h
  | .cut a lo hi, c, e, M, h => by
    simp only [chE] at h
    split at h
    · rename_i x l hh p2 p3
      simp only [Bool.and_eq_true] at h
      obtain ⟨h1, h2, h3⟩ := h
      have so1 : SO m c lo l := by
        cases l with
        | none => exact so_none h2
        | some y =>
          simp only [Bool.and_eq_true, Bool.not_eq_true'] at h2
          exact so_some h2.1 (chE_ok M h2.2).1
      have so2 : SO m c hi hh := by
        cases hh with
        | none => exact so_none h3
        | some y =>
          simp only [Bool.and_eq_true, Bool.not_eq_true'] at h3
          exact so_some h3.1 (chE_ok M h3.2).1
      exact set_of rfl (se_cut (chE_ok M h1).1 so1 so2)
    · cases h
  | .nop, c, e, M, h => by simp [chE] at h
  | .rev a, c, e, M, h => by
    simp only [chE] at h
    split at h
    · exact set_of rfl (se_rev (chE_ok M h).1)
    · cases h
  | .bi b es, c, e, M, h => by
    have gen : (∀ ts, b ≠ .isinst ts) → SET m c (.bi b es) e := fun hb => by
      have h' := h
      unfold chE at h'
      cases b <;> first
        | exact absurd rfl (hb _)
        | (dsimp only at h'
           split at h'
           · simp only [Bool.and_eq_true, beq_iff_eq] at h'
             exact set_of rfl (se_bi M hb h'.1.1.1.2 h'.1.1.2 h'.1.2 (chEs_ok M h'.2))
           · cases h')
    cases b with
    | isinst ts =>
      cases es with
      | nil =>
        simp only [chE] at h
        split at h
        · simp at h
        · cases h
      | cons a as =>
        cases as with
        | nil =>
          simp only [chE] at h
          split at h
          · simp only [Bool.and_eq_true, beq_iff_eq, decide_eq_true_eq] at h
            obtain ⟨⟨⟨⟨⟨h1, h2⟩, h3⟩, h4⟩, h5⟩, h6⟩ := h
            obtain ⟨t, rfl⟩ := List.length_eq_one_iff.mp h4
            exact set_of rfl (se_isi M h1 h2 h3 h5 (chE_ok M h6).1)
          · simp only [Bool.and_eq_true, beq_iff_eq, decide_eq_true_eq] at h
            obtain ⟨⟨⟨⟨⟨h1, h2⟩, h3⟩, h4⟩, h5⟩, h6⟩ := h
            exact set_of rfl (se_isiT M h1 h2 h3 h4 h5 (chE_ok M h6).1)
          · cases h
        | cons b bs =>
          simp only [chE] at h
          split at h
          · simp at h
          · cases h
    | _ => exact gen (by simp)
  | .me k r es, c, e, M, h => by
    simp only [chE] at h
    split at h
    · simp only [Bool.and_eq_true, beq_iff_eq, decide_eq_true_eq] at h
      obtain ⟨⟨⟨⟨⟨h1, h2⟩, h3⟩, h4⟩, h5⟩, h6, h7⟩ := h
      exact set_of rfl (se_me h1 h2 (by simpa using h3) h4 h5 (chE_ok M h6).1 (chEs_ok M h7))
    · cases h
  | .call f es, c, e, M, h => by
    simp only [chE] at h
    split at h
    · simp only [Bool.and_eq_true] at h
      obtain ⟨⟨⟨h1, h2⟩, h3⟩, h4⟩ := h
      rcases Bool.or_eq_true_iff.mp h3 with h3 | h3
      · rw [List.contains_iff_mem] at h3
        exact set_of rfl (se_call M h1 h3 rfl h2 (chEs_ok M h4))
      · simp only [Bool.and_eq_true, decide_eq_true_eq, Bool.not_eq_true', List.isEmpty_iff] at h3
        obtain ⟨⟨⟨h5, h6⟩, h7⟩, rfl⟩ := h3
        have hes := chEs_ok M h4
        cases es with
        | nil => simp [lenS] at h6
        | cons a as =>
          cases as with
          | nil =>
            simp only [anyRaw, Bool.or_false] at h7
            exact set_of rfl (se_new M h1 h5 (by simpa using h2) h7 hes)
          | cons b bs => simp [lenS] at h6
    · cases h
  | .mcall g f o es, c, e, M, h => by
    simp only [chE] at h
    split at h
    · simp only [Bool.and_eq_true, decide_eq_true_eq, Bool.not_eq_true', List.contains_iff_mem] at h
      obtain ⟨⟨⟨⟨⟨⟨⟨h1, h2⟩, h3⟩, h4⟩, h5⟩, h6⟩, h7⟩, h8, h9⟩ := h
      exact set_of rfl (se_mcall M h1 h2 rfl h3 (by simpa using h4) h5 h6 h7 (chE_ok M h8).1 (chEs_ok M h9))
    · cases h
  | .attr g a f, c, e, M, h => by
    simp only [chE] at h
    split at h
    · simp only [Bool.and_eq_true, beq_iff_eq] at h
      obtain ⟨⟨⟨h1, h2⟩, h3⟩, h4⟩ := h
      exact set_of rfl (se_attr M h1 h2 h3 (chE_ok M h4).1)
    · cases h
  | .twr _ _ _, c, e, M, h => by simp [chE] at h
  | .lrng a, c, e, M, h => by
    simp only [chE] at h
    split at h
    · simp only [Bool.and_eq_true, beq_iff_eq] at h
      obtain ⟨⟨⟨⟨⟨h1, h2⟩, h3⟩, h4⟩, h5⟩, h6⟩ := h
      exact set_of rfl (se_lrng M h1 h2 h3 h4 h5 (chE_ok M h6).1)
    · cases h
  | .draw r a, c, e, M, h => by
    simp only [chE] at h
    split at h
    · simp only [Bool.and_eq_true, beq_iff_eq] at h
      exact set_of rfl (se_draw M h.1.1.1.1 h.1.1.1.2 h.1.1.2 h.1.2 (chE_ok M h.2).1)
    · cases h
  | .comp elt t sr cond, c, e, M, h => by
    simp only [chE] at h
    split at h
    · rename_i el tg iter ifs scope pos
      simp only [Bool.and_eq_true, Bool.not_eq_true'] at h
      obtain ⟨⟨⟨⟨⟨⟨h1, h2⟩, h3⟩, h4⟩, h5⟩, h6⟩, h7⟩ := h
      have hf : SF m (c.blk scope) cond ifs := by
        cases ifs with
        | nil =>
          dsimp only at h5
          split at h5
          · exact sf_nil
          · cases h5
        | cons x r =>
          cases r with
          | nil => exact sf_one (chE_ok M.blk h5).2.1
          | cons y r => cases h5
      exact set_of rfl (se_comp (chR_ok M h1) h2 (chE_ok M.blk h3).1 h4 hf h6 h7)
    · cases h
theorem chEs_ok : ∀ {ces : CEs} {c : Cc} {es : List Expr}, MOk m c → chEs c ces es = true → SEs m c ces es
  | .nil, c, es, M, h => by
    cases es with
    | nil => exact ses_nil
    | cons x xs => simp [chEs] at h
  | .cons a as, c, es, M, h => by
    cases es with
    | nil => simp [chEs] at h
    | cons x xs =>
      simp only [chEs, Bool.and_eq_true] at h
      exact ses_cons h.1 (chE_ok M h.2.1).1 (chEs_ok M h.2.2)
theorem chR_ok : ∀ {cr : CR} {c : Cc} {tg e : Expr}, MOk m c → chR c tg cr e = true → SR m c tg cr e
  | .seq a, c, tg, e, M, h => by
    simp only [chR] at h
    exact sr_seq (chE_ok M h).1
  | .rng1 a, c, tg, e, M, h => by
    simp only [chR] at h
    split at h
    · simp only [Bool.and_eq_true, beq_iff_eq] at h
      exact sr_rng1 M h.1.1.1 h.1.1.2 h.1.2 (chE_ok M h.2).1
    · cases h
  | .rng2 a b, c, tg, e, M, h => by
    simp only [chR] at h
    split at h
    · simp only [Bool.and_eq_true, beq_iff_eq] at h
      exact sr_rng2 M h.1.1.1.1 h.1.1.1.2 h.1.1.2 h.1.2 (chE_ok M h.2.1).1 (chE_ok M h.2.2).1
    · cases h
  | .rngd a b, c, tg, e, M, h => by
    simp only [chR] at h
    split at h
    · simp only [Bool.and_eq_true, beq_iff_eq] at h
      obtain ⟨⟨⟨⟨⟨h1, h2⟩, h3⟩, h4⟩, h5⟩, h6, h7⟩ := h
      exact sr_rngd M h1 h2 h3 h4 h5 (chE_ok M h6).1 (chE_ok M h7).1
    · cases h
  | .enum a, c, tg, e, M, h => by
    simp only [chR] at h
    split at h
    · split at h
      · simp only [Bool.and_eq_true, beq_iff_eq] at h
        exact sr_enum M h.1.1.1 h.1.1.2 h.1.2 (chE_ok M h.2).1
      · cases h
    · cases h
  | .zip a b, c, tg, e, M, h => by
    simp only [chR] at h
    split at h
    · split at h
      · simp only [Bool.and_eq_true, beq_iff_eq] at h
        exact sr_zip M h.1.1.1.1 h.1.1.1.2 h.1.1.2 h.1.2 (chE_ok M h.2.1).1 (chE_ok M h.2.2).1
      · cases h
    · cases h
end
end
end Ev
set_option autoImplicit false
set_option linter.all false
set_option Elab.async false
set_option maxRecDepth 100000
/-! Ev12: how statements change the state. -/
namespace Ev
open PySem PySem.Spec PyProof.Rows L2
/-- the map with one more name -/
def wSet (W : Nat → Option Addr) (i : Nat) (a : Option Addr) : Nat → Option Addr := fun j => if j = i then a else W j
theorem wSet_same {W : Nat → Option Addr} {i : Nat} {a : Option Addr} : wSet W i a i = a := by unfold wSet; rw [if_pos rfl]
theorem wSet_ne {W : Nat → Option Addr} {i j : Nat} {a : Option Addr} (h : j ≠ i) : wSet W i a j = W j := by unfold wSet; rw [if_neg h]
theorem wSet_none {W : Nat → Option Addr} {i j : Nat} {b : Addr} (h : wSet W i none j = some b) : j ≠ i ∧ W j = some b := by
  unfold wSet at h
  split at h
  · cases h
  · exact ⟨by assumption, h⟩
section
variable {K : PySem.W.Frag} {H0 H H' : Hp} {Rw O : AP1} {W : Nat → Option Addr} {s : Stt} {σ : L2.St}
/-- what a name held alone is now shared -/
theorem Rl.frz {i : Nat} {v : PV} (r : Rl K H0 Rw O W s σ H) (e : s[i]? = some (Slt.own v)) : Rl K H0 Rw O (wSet W i none) (s.set i (.shr v)) σ H := by
  obtain ⟨a, w1, σ1, t⟩ := r.own i v e
  have sub : ∀ b, Oo O (wSet W i none) b → Oo O W b := fun b z => by
    rcases z with z | ⟨j, z⟩
    · exact .inl z
    · exact .inr ⟨j, (wSet_none z).2⟩
  have na : ¬ Oo O (wSet W i none) a := fun z => by
    rcases z with z | ⟨j, z⟩
    · exact r.dis i a w1 z
    · obtain ⟨h1, h2⟩ := wSet_none z
      exact h1 (r.inj j i a h2 w1)
  have hi : i < s.length := (List.getElem?_eq_some_iff.mp e).1
  refine ⟨by rw [List.length_set]; exact r.len, fun j q ej => ?_, fun j q ej => ?_, fun j k b h1 h2 => r.inj j k b (wSet_none h1).2 (wSet_none h2).2, fun j b h => r.new j b (wSet_none h).2, fun j b h => r.dis j b (wSet_none h).2, fun j b h => r.wt j b (wSet_none h).2, r.trk, r.ro, r.row, r.kp⟩
  · by_cases hj : i = j
    · subst hj
      rw [List.getElem?_set_self hi] at ej
      cases ej
      refine ⟨.ref a, σ1, ?_⟩
      cases v with
      | lst xs =>
        obtain ⟨vs, h1, h2⟩ := t
        simp only [Rep]
        exact ⟨a, vs, rfl, h1, na, Reps.go Kp.refl (fun b z => .inl (sub b z)) _ _ h2⟩
      | dic xs =>
        obtain ⟨vs, h1, h2⟩ := t
        simp only [Rep]
        exact ⟨a, vs, rfl, h1, na, RepsK.go Kp.refl (fun b z => .inl (sub b z)) _ _ h2⟩
      | _ => exact t.elim
    · rw [List.getElem?_set_ne hj] at ej
      obtain ⟨x, h1, h2⟩ := r.shr j q ej
      exact ⟨x, h1, h2.sub sub⟩
  · by_cases hj : i = j
    · subst hj
      rw [List.getElem?_set_self hi] at ej
      cases ej
    · rw [List.getElem?_set_ne hj] at ej
      obtain ⟨b, h0, h1, h2⟩ := r.own j q ej
      exact ⟨b, by rw [wSet_ne (Ne.symm hj)]; exact h0, h1, h2.sub sub⟩
/-- a tracked thing of ours is now a name's own -/
theorem Rl.unad {D : Addr} {i : Nat} {v : PV} (r : Rl K H0 Rw (Ad O D) W s σ H) (ro : ∀ a, Rw a → O a) (nO : ¬ O D) (h0 : H0 D = none) (t : TRep H Rw (Oo (Ad O D) W) v D) :
    Rl K H0 Rw O (wSet W i (some D)) (s.set i (.own v)) (σ.set i (some (.ref D))) H := by
  have sub : ∀ b, Oo O (wSet W i (some D)) b → Oo (Ad O D) W b := fun b z => by
    rcases z with z | ⟨j, z⟩
    · exact .inl (.inl z)
    · unfold wSet at z
      split at z
      · cases z; exact .inl (.inr rfl)
      · exact .inr ⟨j, z⟩
  have get : ∀ {j b}, wSet W i (some D) j = some b → (j = i ∧ b = D) ∨ (j ≠ i ∧ W j = some b) := fun {j b} h => by
    unfold wSet at h
    split at h
    · cases h; exact .inl ⟨by assumption, rfl⟩
    · exact .inr ⟨by assumption, h⟩
  have nD : ∀ {j}, W j ≠ some D := fun {j} e => r.dis j D e (.inr rfl)
  refine ⟨by rw [List.length_set, List.length_set]; exact r.len, fun j q ej => ?_, fun j q ej => ?_, fun j k b h1 h2 => ?_, fun j b h => ?_, fun j b h => ?_, fun j b h => ?_, fun a z => r.trk a (.inl z), ro, r.row, r.kp⟩
  · by_cases hj : i = j
    · subst hj
      by_cases hi : i < s.length
      · rw [List.getElem?_set_self hi] at ej
        cases ej
      · rw [List.getElem?_eq_none (by rw [List.length_set]; omega)] at ej
        cases ej
    · rw [List.getElem?_set_ne hj] at ej ⊢
      obtain ⟨x, h1, h2⟩ := r.shr j q ej
      exact ⟨x, h1, h2.sub sub⟩
  · by_cases hj : i = j
    · subst hj
      by_cases hi : i < s.length
      · rw [List.getElem?_set_self hi] at ej
        cases ej
        exact ⟨D, wSet_same, List.getElem?_set_self (by rw [← r.len]; exact hi), t.sub sub⟩
      · rw [List.getElem?_eq_none (by rw [List.length_set]; omega)] at ej
        cases ej
    · rw [List.getElem?_set_ne hj] at ej ⊢
      obtain ⟨b, h3, h1, h2⟩ := r.own j q ej
      exact ⟨b, by rw [wSet_ne (Ne.symm hj)]; exact h3, h1, h2.sub sub⟩
  · rcases get h1 with ⟨e1, e2⟩ | ⟨e1, e2⟩ <;> rcases get h2 with ⟨e3, e4⟩ | ⟨e3, e4⟩
    · rw [e1, e3]
    · subst e2; exact absurd e4 nD
    · subst e4; exact absurd e2 nD
    · exact r.inj j k b e2 e4
  · rcases get h with ⟨e1, e2⟩ | ⟨e1, e2⟩
    · rw [e2]; exact h0
    · exact r.new j b e2
  · rcases get h with ⟨e1, e2⟩ | ⟨e1, e2⟩
    · rw [e2]; exact nO
    · exact fun z => r.dis j b e2 (.inl z)
  · rcases get h with ⟨e1, e2⟩ | ⟨e1, e2⟩
    · rw [e2]; exact r.trk D (.inr rfl)
    · exact r.wt j b e2
/-- a name's own list or dict is written -/
theorem Rl.wrOwn {i : Nat} {v v' : PV} {D : Addr} {o : HO} (r : Rl K H0 Rw O W s σ H) (e : s[i]? = some (Slt.own v)) (hW : W i = some D) (hσ : σ[i]? = some (some (.ref D))) (hD : (∃ xs, H D = some (.lst xs)) ∨ ∃ kv, H D = some (.dK kv)) (t : TRep (upd H D o) Rw (Oo O W) v' D) :
    Rl K H0 Rw O W (s.set i (.own v')) σ (upd H D o) ∧ Kp (Oo O W) H (upd H D o) := by
  have nO : ¬ O D := r.dis i D hW
  have h0 : H0 D = none := r.new i D hW
  have kp : Kp (Oo O W) H (upd H D o) := fun a u e z => by
    have n : a ≠ D := fun q => by
      subst q
      rcases z with z | ⟨vs, z⟩
      · exact z (.inr ⟨i, hW⟩)
      · rcases hD with ⟨xs, h⟩ | ⟨xs, h⟩ <;> (rw [h] at e; cases e; cases z)
    rw [upd_ne n]; exact e
  have nf : ∀ x y, H D ≠ some (.frz x y) := fun x y q => by
    rcases hD with ⟨xs, h⟩ | ⟨xs, h⟩ <;> (rw [h] at q; cases q)
  have hi : i < s.length := (List.getElem?_eq_some_iff.mp e).1
  refine ⟨⟨by rw [List.length_set]; exact r.len, fun j q ej => ?_, fun j q ej => ?_, r.inj, r.new, r.dis, fun j a ej => ?_, fun a z => ?_, r.ro, fun a z => ?_, fun a u e z => ?_⟩, kp⟩
  · by_cases hj : i = j
    · subst hj
      rw [List.getElem?_set_self hi] at ej
      cases ej
    · rw [List.getElem?_set_ne hj] at ej
      obtain ⟨x, h1, h2⟩ := r.shr j q ej
      exact ⟨x, h1, h2.kp kp⟩
  · by_cases hj : i = j
    · subst hj
      rw [List.getElem?_set_self hi] at ej
      cases ej
      exact ⟨D, hW, hσ, t⟩
    · rw [List.getElem?_set_ne hj] at ej
      obtain ⟨b, h3, h1, h2⟩ := r.own j q ej
      exact ⟨b, h3, h1, TRep.go h2 kp (fun _ => .inl) (upd_ne fun q => hj (r.inj i j D hW (by rw [← q]; exact h3)))⟩
  · by_cases q : a = D
    · rw [q, upd_same]; exact Option.some_ne_none _
    · rw [upd_ne q]; exact r.wt j a ej
  · rw [upd_ne (fun q => nO (by rw [← q]; exact z))]; exact r.trk a z
  · exact (r.row a z).wr (fun q => nO (by rw [← q]; exact r.ro a z)) nf
  · rw [upd_ne (fun q => by rw [q, h0] at e; cases e)]
    exact r.kp a u e z
end
/-- the state behind a statement -/
def Nx (m : Md) (H0 : Hp) (Rw O : AP1) (W : Nat → Option Addr) (H : Hp) (s' : Stt) (σ' : L2.St) (H' : Hp) : Prop :=
  ∃ W', Rl m.K H0 Rw O W' s' σ' H' ∧ Kp (Oo O W) H H' ∧ ∀ a, Oo O W' a → Oo O W a ∨ H a = none
/-- what is wanted behind a statement -/
def EndOk (m : Md) (fr : Bool) (H0 : Hp) (Rw O : AP1) (W : Nat → Option Addr) (H : Hp) (D : Ends) (q : Fl × Stt) : Prop :=
  match q.1 with
  | .next => ∀ σ' H', Nx m H0 Rw O W H q.2 σ' H' → D.nx σ' H'
  | .brk => ∀ σ' H', Nx m H0 Rw O W H q.2 σ' H' → D.bk σ' H'
  | .ret v => ∀ x H', Kp Rw H0 H' → Rws m.K Rw H' → FRep (if fr then .frs else .cln) H0 H' Rw O O v x → D.rt x H'
section
variable {m : Md} {c : Cc} {fr : Bool} {H0 H H1 H2 : Hp} {Rw O : AP1} {W W1 : Nat → Option Addr} {s : Stt} {σ : L2.St}
theorem nx_same (r : Rl m.K H0 Rw O W s σ H1) (k : Kp (Oo O W) H H1) : Nx m H0 Rw O W H s σ H1 := ⟨W, r, k, fun _ z => .inl z⟩
theorem Rl.oo (r : Rl m.K H0 Rw O W s σ H) {H' : Hp} (k : Kp Rw H H') : Kp (Oo O W) H H' := k.mono fun a z => .inl (r.ro a z)
theorem nx_trans (k : Kp (Oo O W) H H1) (g : ∀ a, Oo O W1 a → Oo O W a ∨ H a = none) {s' : Stt} {σ' : L2.St} (n : Nx m H0 Rw O W1 H1 s' σ' H2) : Nx m H0 Rw O W H s' σ' H2 := by
  obtain ⟨W2, r2, k2, g2⟩ := n
  refine ⟨W2, r2, fun a o e z => ?_, fun a z => ?_⟩
  · have e1 := k a o e z
    refine k2 a o e1 (z.imp (fun n q => ?_) id)
    rcases g a q with q | q
    · exact n q
    · rw [e] at q; cases q
  · rcases g2 a z with z | z
    · exact g a z
    · by_cases q : Oo O W a
      · exact .inl q
      · refine .inr ?_
        cases e : H a with
        | none => rfl
        | some o => rw [k a o e (.inl q)] at z; cases z
/-- the end of what follows, from the start of all -/
theorem EndOk.more {D : Ends} {q : Fl × Stt} (k : Kp (Oo O W) H H1) (g : ∀ a, Oo O W1 a → Oo O W a ∨ H a = none) (h : EndOk m fr H0 Rw O W H D q) : EndOk m fr H0 Rw O W1 H1 D q := by
  obtain ⟨f, s'⟩ := q
  cases f with
  | next => exact fun σ' H' n => h σ' H' (nx_trans k g n)
  | brk => exact fun σ' H' n => h σ' H' (nx_trans k g n)
  | ret v => exact h
/-- a def's own context -/
structure DX (m : Md) (c : Cc) (X : Cx) : Prop extends XOk m c X where
  fn : ∀ x, X.fn x = true
  pass : PassesOwn (model X.prog X.w) X.A X.env X.xe
  kind : X.env.scope.kind = .function
abbrev GS (m : Md) (fr : Bool) (cs : CS) (t : TS) : Prop := ∀ (H0 : Hp) (Rw O : AP1) (W : Nat → Option Addr) (s : Stt) (σ : L2.St) (H : Hp) (D : Ends), Rl m.K H0 Rw O W s σ H → (exS m.gl m.cl s cs).wp (EndOk m fr H0 Rw O W H D) No → t D σ H
abbrev GSs (m : Md) (fr : Bool) (cs : CSs) (t : TS) : Prop := ∀ (H0 : Hp) (Rw O : AP1) (W : Nat → Option Addr) (s : Stt) (σ : L2.St) (H : Hp) (D : Ends), Rl m.K H0 Rw O W s σ H → (exSs m.gl m.cl s cs).wp (EndOk m fr H0 Rw O W H D) No → t D σ H
def SS (m : Md) (fr : Bool) (c : Cc) (cs : CS) (st : Stmt) : Prop := ∃ t : TS, (∀ X, DX m c X → PS X st t) ∧ GS m fr cs t
def SSs (m : Md) (fr : Bool) (c : Cc) (cs : CSs) (st : List Stmt) : Prop := ∃ t : TS, (∀ X, DX m c X → PSs X st t) ∧ GSs m fr cs t
theorem sss_nil : SSs m fr c .nil [] := ⟨tNext, fun _ _ => pss_nil, fun H0 Rw O W s σ H D r q => q σ H (nx_same r Kp.refl)⟩
theorem sss_cons {a : CS} {as : CSs} {x : Stmt} {xs : List Stmt} (ha : SS m fr c a x) (hr : SSs m fr c as xs) : SSs m fr c (.cons a as) (x :: xs) := by
  obtain ⟨t, p, g⟩ := ha
  obtain ⟨u, pu, gu⟩ := hr
  refine ⟨tSeq t u, fun X hX => pss_cons (p X hX) (pu X hX), fun H0 Rw O W s σ H D r q => ?_⟩
  simp only [exSs] at q
  refine g H0 Rw O W s σ H { D with nx := u D } r (Res.wp_imp (nwp q) fun z hz => ?_)
  obtain ⟨f, s'⟩ := z
  cases f with
  | next =>
    rintro σ' H' ⟨W', r', k, g'⟩
    exact gu H0 Rw O W' s' σ' H' D r' (Res.wp_imp hz fun z hz => EndOk.more k g' hz)
  | brk => exact hz
  | ret v => exact hz
theorem sss_frz {i : Nat} {as : CSs} {xs : List Stmt} (hr : SSs m fr c as xs) : SSs m fr c (.frz i as) xs := by
  obtain ⟨u, pu, gu⟩ := hr
  refine ⟨u, pu, fun H0 Rw O W s σ H D r q => ?_⟩
  simp only [exSs] at q
  cases e : getS s i with
  | own v =>
    rw [e] at q
    have r' := r.frz (getS_some e (by simp))
    refine gu H0 Rw O _ _ σ H D r' (Res.wp_imp q fun z hz => EndOk.more Kp.refl (fun a z => .inl ?_) hz)
    rcases z with z | ⟨j, z⟩
    · exact .inl z
    · exact .inr ⟨j, (wSet_none z).2⟩
  | shr v => rw [e] at q; exact gu H0 Rw O W s σ H D r q
  | no => rw [e] at q; exact gu H0 Rw O W s σ H D r q
theorem Rl.kil {i : Nat} (r : Rl m.K H0 Rw O W s σ H) : Rl m.K H0 Rw O W (s.set i .no) σ H := by
  refine ⟨by rw [List.length_set]; exact r.len, fun j q ej => ?_, fun j q ej => ?_, r.inj, r.new, r.dis, r.wt, r.trk, r.ro, r.row, r.kp⟩
  all_goals
    by_cases hj : i = j
    · subst hj
      by_cases hi : i < s.length
      · rw [List.getElem?_set_self hi] at ej
        cases ej
      · rw [List.getElem?_eq_none (by rw [List.length_set]; omega)] at ej
        cases ej
    · rw [List.getElem?_set_ne hj] at ej
      first | exact r.shr j q ej | exact r.own j q ej
theorem sss_kil {i : Nat} {as : CSs} {xs : List Stmt} (hr : SSs m fr c as xs) : SSs m fr c (.kil i as) xs := by
  obtain ⟨u, pu, gu⟩ := hr
  refine ⟨u, pu, fun H0 Rw O W s σ H D r q => ?_⟩
  simp only [exSs] at q
  exact gu H0 Rw O W _ σ H D r.kil q
end
end Ev
set_option autoImplicit false
set_option linter.all false
set_option Elab.async false
set_option maxRecDepth 100000
/-! Ev13: small statements. -/
namespace Ev
open PySem PySem.Spec PyProof.Rows L2
/-! ### where a value goes -/
def WG (W W' : Nat → Option Addr) (H : Hp) : Prop := ∀ b, (∃ j, W' j = some b) → (∃ j, W j = some b) ∨ H b = none
theorem WG.refl {W : Nat → Option Addr} {H : Hp} : WG W W H := fun _ z => .inl z
theorem WG.oo {O : AP1} {W W' : Nat → Option Addr} {H : Hp} (g : WG W W' H) : ∀ a, Oo O W' a → Oo O W a ∨ H a = none := fun a z => by
  rcases z with z | z
  · exact .inl (.inl z)
  · exact (g a z).imp .inr id
/-- a value that waits to be stored: it may be a name's own -/
def Pd (o : Bool) (H0 Hb H : Hp) (Rw O O1 : AP1) (W : Nat → Option Addr) (p : PV) (v : V) : Prop :=
  (mkS o p = .shr p ∧ O1 = O ∧ Rep H Rw (Oo O W) p v) ∨ ∃ a, v = .ref a ∧ mkS o p = .own p ∧ O1 = Ad O a ∧ ¬ Oo O W a ∧ H0 a = none ∧ Hb a = none ∧ H a ≠ none ∧ TRep H Rw (Oo O1 W) p a
section
variable {m : Md} {c : Cc} {fr : Bool} {H0 H H1 H2 : Hp} {Rw O O1 : AP1} {W W1 : Nat → Option Addr} {s : Stt} {σ : L2.St} {p : PV} {v : V} {o : Bool}
theorem pd_of {f : FL} (r : Rl m.K H0 Rw O W s σ H) (k : Kp Rw H H1) (rw1 : Rws m.K Rw H1) (h : FRep f H H1 Rw O (Oo O W) p v) (ho : (if o then f = .frs else f ≠ .raw)) :
    ∃ O1, Pd o H0 H H1 Rw O O1 W p v ∧ Rl m.K H0 Rw O1 W s σ H1 ∧ ∀ a, O1 a → O a ∨ H a = none := by
  cases o with
  | false => exact ⟨O, .inl ⟨rfl, rfl, FRep.clean h ho⟩, r.step k rw1, fun a z => .inl z⟩
  | true =>
    have ho' : f = .frs := ho
    subst ho'
    have shrd : mkS true p = .shr p → ∃ O1, Pd true H0 H H1 Rw O O1 W p v ∧ Rl m.K H0 Rw O1 W s σ H1 ∧ ∀ a, O1 a → O a ∨ H a = none := fun e => ⟨O, .inl ⟨e, rfl, FRep.cln h⟩, r.step k rw1, fun a z => .inl z⟩
    have ownd : ∀ a, v = .ref a → H a = none → ¬ Oo O W a → TRep H1 Rw (Ad (Oo O W) a) p a → mkS true p = .own p → ∃ O1, Pd true H0 H H1 Rw O O1 W p v ∧ Rl m.K H0 Rw O1 W s σ H1 ∧ ∀ a, O1 a → O a ∨ H a = none := fun a e1 e2 n t e => by
      refine ⟨Ad O a, .inr ⟨a, e1, e, rfl, n, Kp.back r.kp r.row a e2, e2, t.there, t.sub fun b z => ?_⟩, r.ad k rw1 e2 t.there, fun b z => ?_⟩
      · rcases z with (z | z) | z
        · exact .inl (.inl z)
        · exact .inr z
        · exact .inl (.inr z)
      · rcases z with z | z
        · exact .inl z
        · exact .inr (by rw [z]; exact e2)
    cases p with
    | lst xs => obtain ⟨a, e1, e2, n, t⟩ := h; exact ownd a e1 e2 n t rfl
    | dic xs => obtain ⟨a, e1, e2, n, t⟩ := h; exact ownd a e1 e2 n t rfl
    | _ => exact shrd rfl
theorem Pd.go {Hb : Hp} (h : Pd o H0 Hb H1 Rw O O1 W p v) (k : Kp Rw H1 H2) (ro : ∀ a, Rw a → O a) (g : WG W W1 H1) : Pd o H0 Hb H2 Rw O O1 W1 p v := by
  rcases h with ⟨e1, e2, r⟩ | ⟨a, e1, e2, e3, n, h0, hb, hh, t⟩
  · exact .inl ⟨e1, e2, Rep.go (k.mono fun a z => .inl (ro a z)) g.oo _ _ r⟩
  · have nR : ¬ Rw a := fun z => n (.inl (ro a z))
    have h2 : H2 a = H1 a := by
      cases q : H1 a with
      | none => exact absurd q hh
      | some u => exact k a u q (.inl nR)
    refine .inr ⟨a, e1, e2, e3, fun z => ?_, h0, hb, by rw [h2]; exact hh, TRep.go t (k.mono fun b z => ?_) (fun b z => ?_) h2⟩
    · rcases z with z | z
      · exact n (.inl z)
      · rcases g a z with z | z
        · exact n (.inr z)
        · exact hh z
    · rw [e3]; exact .inl (.inl (ro b z))
    · exact g.oo b z
/-- it is stored -/
theorem Pd.put {Hb : Hp} {i : Nat} (h : Pd o H0 Hb H Rw O O1 W p v) (r : Rl m.K H0 Rw O1 W s σ H) (ro : ∀ a, Rw a → O a) :
    ∃ W', Rl m.K H0 Rw O W' (s.set i (mkS o p)) (σ.set i (some v)) H ∧ WG W W' Hb := by
  rcases h with ⟨e1, e2, q⟩ | ⟨a, e1, e2, e3, n, h0, hb, hh, t⟩
  · subst e2
    rw [e1]
    exact ⟨W, r.setShr q, WG.refl⟩
  · subst e3 e1
    rw [e2]
    refine ⟨wSet W i (some a), r.unad ro (fun z => n (.inl z)) h0 t, fun b z => ?_⟩
    obtain ⟨j, z⟩ := z
    unfold wSet at z
    split at z
    · cases z; exact .inr hb
    · exact .inl ⟨j, z⟩
theorem WG.trans {W2 : Nat → Option Addr} {Hb : Hp} (a : WG W W1 Hb) (b : WG W1 W2 H1) (k : ∀ x, H1 x = none → Hb x = none) : WG W W2 Hb := fun x z => by
  rcases b x z with z | z
  · exact a x z
  · exact .inr (k x z)
theorem mkS_true {p : PV} : mkS true p = mkOwn p := rfl
/-! ### stores -/
theorem gs_put {i : Nat} {e : CE} {te : TE} (ge : GE m e te) (ho : (if o then fl m.nw e = .frs else fl m.nw e ≠ .raw)) {cs : CS} (hcs : ∀ s : Stt, exS m.gl m.cl s cs = (evE m.gl m.cl s e >>= fun v => .ok (.next, s.set i (mkS o v)))) : GS m fr cs (tAsg te (gName i)) := by
  intro H0 Rw O W s σ H D r q
  rw [hcs] at q
  refine ge H0 Rw O W s σ H _ r (Res.wp_imp (nwp q) fun p hp v H1 k1 rw1 f1 => ?_)
  obtain ⟨O1, pd, r1, _⟩ := pd_of r k1 rw1 f1 ho
  obtain ⟨W', r2, g⟩ := pd.put (i := i) r1 r.ro
  have hp' : EndOk m fr H0 Rw O W H D (.next, s.set i (mkS o p)) := hp
  exact hp' _ H1 ⟨W', r2, r.oo k1, g.oo⟩
theorem gs_set {i : Nat} {e : CE} {te : TE} (ge : GE m e te) (hr : isRaw e = false) : GS m fr (.set i e) (tAsg te (gName i)) :=
  gs_put (o := false) ge (fl_raw m.nw e hr) fun s => by simp only [exS]; rfl
theorem gs_own {i : Nat} {e : CE} {te : TE} (ge : GE m e te) (hr : fl m.nw e = .frs) : GS m fr (.own i e) (tAsg te (gName i)) :=
  gs_put (o := true) ge hr fun s => by simp only [exS]; rfl
def oOk (nw : Nat → Bool) (o : Bool) (e : CE) : Prop := if o then fl nw e = .frs else fl nw e ≠ .raw
theorem gs_par2 {i j : Nat} {e f : CE} {o1 o2 : Bool} {te tf : TE} (hij : i ≠ j) (ge : GE m e te) (gf : GE m f tf) (h1 : oOk m.nw o1 e) (h2 : oOk m.nw o2 f) : GS m fr (.par2 o1 i e o2 j f) (tPar i j (tCons te (tCons tf tNil))) := by
  intro H0 Rw O W s σ H D r q
  simp only [exS] at q
  refine ge H0 Rw O W s σ H _ r (Res.wp_imp (nwp q) fun p hp v H1 k1 rw1 f1 => ?_)
  obtain ⟨O1, pd1, r1, g1⟩ := pd_of r k1 rw1 f1 h1
  refine gf H0 Rw O1 W s σ H1 _ r1 (Res.wp_imp (nwp hp) fun p2 hp2 w H2 k2 rw2 f2 => ?_)
  obtain ⟨O2, pd2, r2, g2⟩ := pd_of r1 k2 rw2 f2 h2
  obtain ⟨W2, r3, w2⟩ := pd2.put (i := j) r2 r1.ro
  obtain ⟨W3, r4, w3⟩ := (pd1.go k2 r.ro w2).put (i := i) r3 r.ro
  refine ⟨v, w, rfl, ?_⟩
  have hp' : EndOk m fr H0 Rw O W H D (.next, (s.set i (mkS o1 p)).set j (mkS o2 p2)) := hp2
  refine hp' _ H2 ⟨W3, ?_, r.oo (k1.trans k2), fun a z => ?_⟩
  · rw [List.set_comm _ _ hij, List.set_comm _ _ hij]
    exact r4
  · have g : WG W W3 H := fun b z => by
      rcases w3 b z with z | z
      · rcases w2 b z with z | z
        · exact .inl z
        · exact .inr (Kp.back k1 rw1 b z)
      · exact .inr z
    exact g.oo a z
theorem gs_par3 {i j l : Nat} {e f g : CE} {o1 o2 o3 : Bool} {te tf tg : TE} (hij : i ≠ j) (hil : i ≠ l) (hjl : j ≠ l) (ge : GE m e te) (gf : GE m f tf) (gg : GE m g tg) (h1 : oOk m.nw o1 e) (h2 : oOk m.nw o2 f) (h3 : oOk m.nw o3 g) :
    GS m fr (.par3 o1 i e o2 j f o3 l g) (tPar3 i j l (tCons te (tCons tf (tCons tg tNil)))) := by
  intro H0 Rw O W s σ H D r q
  simp only [exS] at q
  refine ge H0 Rw O W s σ H _ r (Res.wp_imp (nwp q) fun p hp v H1 k1 rw1 f1 => ?_)
  obtain ⟨O1, pd1, r1, g1⟩ := pd_of r k1 rw1 f1 h1
  refine gf H0 Rw O1 W s σ H1 _ r1 (Res.wp_imp (nwp hp) fun p2 hp2 w H2 k2 rw2 f2 => ?_)
  obtain ⟨O2, pd2, r2, g2⟩ := pd_of r1 k2 rw2 f2 h2
  refine gg H0 Rw O2 W s σ H2 _ r2 (Res.wp_imp (nwp hp2) fun p3 hp3 u H3 k3 rw3 f3 => ?_)
  obtain ⟨O3, pd3, r3, g3⟩ := pd_of r2 k3 rw3 f3 h3
  obtain ⟨W3, r4, w3⟩ := pd3.put (i := l) r3 r2.ro
  obtain ⟨W4, r5, w4⟩ := (pd2.go k3 r1.ro w3).put (i := j) r4 r1.ro
  have w34 : WG W W4 H1 := fun b z => by
    rcases w4 b z with z | z
    · rcases w3 b z with z | z
      · exact .inl z
      · exact .inr (Kp.back k2 rw2 b z)
    · exact .inr z
  obtain ⟨W5, r6, w5⟩ := (pd1.go (k2.trans k3) r.ro w34).put (i := i) r5 r.ro
  refine ⟨v, w, u, rfl, ?_⟩
  have hp' : EndOk m fr H0 Rw O W H D (.next, ((s.set i (mkS o1 p)).set j (mkS o2 p2)).set l (mkS o3 p3)) := hp3
  refine hp' _ H3 ⟨W5, ?_, r.oo (k1.trans (k2.trans k3)), fun a z => ?_⟩
  · rw [List.set_comm _ _ hij, List.set_comm _ _ hij, List.set_comm _ _ hil, List.set_comm _ _ hil, List.set_comm _ _ hjl, List.set_comm _ _ hjl]
    exact r6
  · have g : WG W W5 H := fun b z => by
      rcases w5 b z with z | z
      · rcases w34 b z with z | z
        · exact .inl z
        · exact .inr (Kp.back k1 rw1 b z)
      · exact .inr z
    exact g.oo a z
theorem gs_unp {ts : CTs} {e : CE} {te : TE} {g : TG} (ge : GE m e te) (hr : isRaw e = false) (gg : GG m (.tp ts) g) : GS m fr (.unp ts e) (tAsg te g) := by
  intro H0 Rw O W s σ H D r q
  simp only [exS] at q
  refine ge H0 Rw O W s σ H _ r (Res.wp_imp (nwp q) fun p hp v H1 k1 rw1 f1 => ?_)
  obtain ⟨s', e1, hp'⟩ := wpO hp
  have hp2 : EndOk m fr H0 Rw O W H D (.next, s') := hp'
  exact gg H0 Rw O W s s' σ H1 p v _ (r.step k1 rw1) (FRep.clean f1 (fl_raw m.nw e hr)) e1 fun σ' r' _ => hp2 _ H1 (nx_same r' (r.oo k1))
theorem gs_expr {e : CE} {te : TE} (ge : GE m e te) : GS m fr (.expr e) (tDrop te) := by
  intro H0 Rw O W s σ H D r q
  simp only [exS] at q
  refine ge H0 Rw O W s σ H _ r (Res.wp_imp (nwp q) fun p hp v H1 k1 rw1 f1 => ?_)
  have hp2 : EndOk m fr H0 Rw O W H D (.next, s) := hp
  exact hp2 _ H1 (nx_same (r.step k1 rw1) (r.oo k1))
/-! ### return -/
theorem FRep.sub0 {f : FL} (r : Rl m.K H0 Rw O W s σ H) (h : FRep f H H1 Rw O (Oo O W) p v) : FRep .cln H0 H1 Rw O O p v := WRep.rep (FRep.raw h fun _ z => .inl z) fun _ z => .inl z
theorem FRep.frs0 (r : Rl m.K H0 Rw O W s σ H) (h : FRep .frs H H1 Rw O (Oo O W) p v) : FRep .frs H0 H1 Rw O O p v := by
  have b := Kp.back r.kp r.row
  have sc : Rep H1 Rw O p v := WRep.rep (FRep.raw h fun _ z => .inl z) fun _ z => .inl z
  cases p with
  | lst xs =>
    obtain ⟨a, e1, e2, n, t⟩ := h
    exact ⟨a, e1, b a e2, fun z => n (.inl z), t.sub fun x z => z.imp .inl id⟩
  | dic xs =>
    obtain ⟨a, e1, e2, n, t⟩ := h
    exact ⟨a, e1, b a e2, fun z => n (.inl z), t.sub fun x z => z.imp .inl id⟩
  | non => exact sc
  | bl b => exact sc
  | int b => exact sc
  | str b => exact sc
  | tup b => exact sc
  | row => exact sc
  | obj C z0 fs => exact sc
theorem gs_ret {e : CE} {te : TE} (ge : GE m e te) (hf : fr = true → fl m.nw e = .frs) : GS m fr (.ret e) (tRet te) := by
  intro H0 Rw O W s σ H D r q
  simp only [exS] at q
  refine ge H0 Rw O W s σ H _ r (Res.wp_imp (nwp q) fun p hp v H1 k1 rw1 f1 => ?_)
  have hp2 : EndOk m fr H0 Rw O W H D (.ret p, s) := hp
  refine hp2 v H1 (r.kp.trans k1) rw1 ?_
  cases fr with
  | false => exact FRep.sub0 r f1
  | true =>
    rw [hf rfl] at f1
    exact FRep.frs0 r f1
theorem gs_retn : GS m fr (.ret (.con .non)) tRetN := by
  intro H0 Rw O W s σ H D r q
  simp only [exS, evE] at q
  have hp2 : EndOk m fr H0 Rw O W H D (.ret .non, s) := q
  refine hp2 .non H r.kp r.row ?_
  cases fr <;> exact (show Rep _ _ _ _ _ from r_non)
theorem gs_reto {i : Nat} : GS m fr (.reto i) (tRet (tVar i)) := by
  intro H0 Rw O W s σ H D r q
  simp only [exS] at q
  obtain ⟨v, e, q⟩ := wpO q
  have hp2 : EndOk m fr H0 Rw O W H D (.ret v, s) := q
  have e' : getS s i = .own v := by
    cases e1 : getS s i with
    | no => rw [e1] at e; cases e
    | shr w => rw [e1] at e; cases e
    | own w => rw [e1] at e; cases e; rfl
  obtain ⟨a, h1, h2, t⟩ := r.own i v (getS_some e' (by simp))
  refine ⟨.ref a, h2, hp2 (.ref a) H r.kp r.row ?_⟩
  have nO := r.dis i a h1
  cases fr with
  | false => exact WRep.rep (TRep.w t nO) fun _ z => .inl z
  | true =>
    have ts : TRep H Rw (Ad O a) v a := t.sub fun b z => by
      rcases z with z | z
      · exact .inl z
      · exact .inr ⟨i, by rw [z]; exact h1⟩
    cases v with
    | lst xs => exact ⟨a, rfl, r.new i a h1, nO, ts⟩
    | dic xs => exact ⟨a, rfl, r.new i a h1, nO, ts⟩
    | _ => exact t.elim
theorem gs_rett {es : CEs} {ta : TA} (hl : lenS es ≤ 1000) (ga : GA m es ta) : GS m fr (.rett es) (tRet (tTup ta)) := by
  intro H0 Rw O W s σ H D r q
  simp only [exS] at q
  refine ga H0 Rw O W s σ H _ r (Res.wp_imp (evEs_len (nwp q)) fun ps hp vs H1 k1 rw1 w1 _ => ?_)
  obtain ⟨hlen, hp⟩ := hp
  have hp2 : EndOk m fr H0 Rw O W H D (.ret (.tup ps), s) := hp
  have r1 := r.step k1 rw1
  refine ⟨by rw [wreps_len w1, hlen]; exact Nat.le_trans hl (by decide), fun t ht => ?_⟩
  have nt : ¬ Rw t := fun z => r1.trk t (r1.ro t z) ht
  have ku : Kp Rw H1 (upd H1 t (.tup vs)) := Kp.upd ht
  refine hp2 (.ref t) _ (r1.kp.trans ku) (r1.row.same ku fun a z => upd_ne fun e => nt (by rw [← e]; exact z)) ?_
  have rp : Rep (upd H1 t (.tup vs)) Rw O (.tup ps) (.ref t) := by
    simp only [Rep]
    exact ⟨t, vs, rfl, upd_same, (wreps_raw (fun _ z => .inl z) w1).kp (Kp.upd ht)⟩
  cases fr <;> exact rp
end
end Ev
set_option autoImplicit false
set_option linter.all false
set_option Elab.async false
set_option maxRecDepth 100000
/-! Ev14: writes into lists and dicts; tests and loops. -/
namespace Ev
open PySem PySem.Spec PyProof.Rows L2
section
variable {H : Hp} {Rw O : AP1}
theorem any_rep {k : PV} {j : Key} (hk : Rep H Rw O k (kV j)) : ∀ {kvs : List (PV × PV)} {kv : List (Key × V)}, RepsK H Rw O kvs kv → (kvs.any fun e => keq e.1 k) = (kv.any fun e => decide (e.1 = j))
  | [], _, h => by simp only [RepsK] at h; subst h; rfl
  | (k', p) :: r, _, h => by
    simp only [RepsK] at h
    obtain ⟨j', w, ws, rfl, r1, r2, r3⟩ := h
    rw [List.any_cons, List.any_cons, any_rep hk r3]
    have e := key_eq r1 hk (rep_isKey r1) (rep_isKey hk)
    show (keq k' k || _) = _
    rw [e]
theorem map_rep {k v : PV} {j : Key} {u : V} (hk : Rep H Rw O k (kV j)) (hv : Rep H Rw O v u) : ∀ {kvs : List (PV × PV)} {kv : List (Key × V)}, RepsK H Rw O kvs kv →
    RepsK H Rw O (kvs.map (fun e => if keq e.1 k = true then (e.1, v) else e)) (kv.map fun e => if e.1 = j then (e.1, u) else e)
  | [], _, h => by simp only [RepsK] at h; subst h; simp [RepsK]
  | (k', p) :: r, _, h => by
    simp only [RepsK] at h
    obtain ⟨j', w, ws, rfl, r1, r2, r3⟩ := h
    have e := key_eq r1 hk (rep_isKey r1) (rep_isKey hk)
    rw [List.map_cons, List.map_cons]
    by_cases q : j' = j
    · have e1 : keq k' k = true := by rw [e]; exact decide_eq_true q
      rw [if_pos e1, if_pos q]
      simp only [RepsK]
      exact ⟨j', u, _, rfl, r1, hv, map_rep hk hv r3⟩
    · have e1 : ¬ keq k' k = true := by rw [e]; simpa using q
      rw [if_neg e1, if_neg q]
      simp only [RepsK]
      exact ⟨j', w, _, rfl, r1, r2, map_rep hk hv r3⟩
theorem app_rep : ∀ {xs ys : List (PV × PV)} {vs ws : List (Key × V)}, RepsK H Rw O xs vs → RepsK H Rw O ys ws → RepsK H Rw O (xs ++ ys) (vs ++ ws)
  | [], _, _, _, h, k => by simp only [RepsK] at h; subst h; exact k
  | (y, z) :: xs, _, _, _, h, k => by
    simp only [RepsK] at h
    obtain ⟨j, w, ws, rfl, r0, r1, r2⟩ := h
    simp only [List.cons_append, RepsK]
    exact ⟨j, w, _, rfl, r0, r1, app_rep r2 k⟩
theorem dput_rep {k v : PV} {j : Key} {u : V} (hk : Rep H Rw O k (kV j)) (hv : Rep H Rw O v u) {kvs : List (PV × PV)} {kv : List (Key × V)} (h : RepsK H Rw O kvs kv) : RepsK H Rw O (dput k v kvs) (putK kv j u) := by
  unfold dput putK
  rw [any_rep hk h]
  split
  · exact map_rep hk hv h
  · refine app_rep h ?_
    simp only [RepsK]
    exact ⟨j, u, [], rfl, hk, hv, rfl⟩
theorem Reps.dropLast {xs : List PV} {vs : List V} (h : Reps H Rw O xs vs) : Reps H Rw O xs.dropLast vs.dropLast := by
  rw [List.dropLast_eq_take, List.dropLast_eq_take, ← Reps.length h]
  exact Reps.take _ h
end
section
variable {m : Md} {c : Cc} {fr : Bool} {H0 H H1 H2 : Hp} {Rw O O1 : AP1} {W W1 : Nat → Option Addr} {s : Stt} {σ : L2.St} {p : PV} {v : V}
theorem own_some {i : Nat} {v : PV} (e : (getS s i).own? = some v) : s[i]? = some (.own v) := by
  have e' : getS s i = .own v := by
    cases e1 : getS s i with
    | no => rw [e1] at e; cases e
    | shr w => rw [e1] at e; cases e
    | own w => rw [e1] at e; cases e; rfl
  exact getS_some e' (by simp)
theorem shr_some {i : Nat} {v : PV} (e : (getS s i).shr? = some v) : s[i]? = some (.shr v) := by
  have e' : getS s i = .shr v := by
    cases e1 : getS s i with
    | no => rw [e1] at e; cases e
    | own w => rw [e1] at e; cases e
    | shr w => rw [e1] at e; cases e; rfl
  exact getS_some e' (by simp)
theorem kpOwn {D : Addr} {i : Nat} {o : HO} (hW : W i = some D) (hD : (∃ xs, H D = some (.lst xs)) ∨ ∃ kv, H D = some (.dK kv)) : Kp (Oo O W) H (upd H D o) := fun a u e z => by
  have n : a ≠ D := fun q => by
    subst q
    rcases z with z | ⟨vs, z⟩
    · exact z (.inr ⟨i, hW⟩)
    · rcases hD with ⟨xs, h⟩ | ⟨xs, h⟩ <;> (rw [h] at e; cases e; cases z)
  rw [upd_ne n]; exact e
/-! ### x[i] = v -/
def rPut : TSet := fun o i v H Q => rSetL o i v H Q ∨ rSetD o i v H Q
theorem set_put {X : Cx} (hu : X.A.units + 1 < cLine) : PSet X rPut := fun pins s σ H o i v ov iv u Q I ro ri rv h =>
  h.elim (set_list pins s σ H o i v ov iv u Q I ro ri rv) (set_dict hu pins s σ H o i v ov iv u Q I ro ri rv)
/-- a name's own list or dict with one item set -/
theorem put_own {i : Nat} {o ix w o' : PV} {x y : V} {Q : Hp → Prop} {D : Addr} (r : Rl m.K H0 Rw O W s σ H) (eo : s[i]? = some (.own o)) (hx : WRep H Rw O (Oo O W) ix x) (hy : Rep H Rw (Oo O W) w y) (es : setAt o ix w = some o')
    (hD : W i = some D) (q : ∀ H', Rl m.K H0 Rw O W (s.set i (.own o')) σ H' → Kp (Oo O W) H H' → Q H') : rPut (.ref D) x y H Q := by
  obtain ⟨D', w1, σ1, t⟩ := r.own i o eo
  rw [hD] at w1
  cases w1
  cases o with
  | lst xs =>
    cases ix with
    | int k =>
      simp only [setAt] at es
      obtain ⟨j, e1, e2⟩ := Option.map_eq_some_iff.mp es
      subst e2
      obtain ⟨vs, h1, h2⟩ := t
      have hl := reps_len h2
      have ex : x = .int k := hx
      subst ex
      refine .inl ⟨D, vs, k, j, rfl, rfl, h1, by rw [hl]; exact e1, ?_⟩
      have kp : Kp (Oo O W) H (upd H D (.lst (vs.set j y))) := kpOwn hD (.inl ⟨vs, h1⟩)
      have := r.wrOwn (v' := .lst (xs.set j w)) eo hD σ1 (.inl ⟨vs, h1⟩) ⟨_, upd_same, (Reps.set hy j h2).kp kp⟩
      exact q _ this.1 this.2
    | _ => simp [setAt] at es
  | dic kvs =>
    simp only [setAt] at es
    split at es
    · rename_i hk
      simp only [Bool.and_eq_true, decide_eq_true_eq] at hk
      cases es
      obtain ⟨kv, h1, h2⟩ := t
      have hl := repsK_len h2
      obtain ⟨j, rfl, hj⟩ := isKey_w hk.1 hx
      refine .inr ⟨D, _, rfl, DPut.k h1 (lim_lt (by omega)), ?_⟩
      have kp : Kp (Oo O W) H (upd H D (.dK (putK kv j y))) := kpOwn hD (.inr ⟨kv, h1⟩)
      have := r.wrOwn (v' := .dic (dput ix w kvs)) eo hD σ1 (.inr ⟨kv, h1⟩) ⟨_, upd_same, (dput_rep hj hy h2).kp kp⟩
      exact q _ this.1 this.2
    · cases es
  | _ => simp [setAt] at es
theorem gs_seti {i : Nat} {ix e : CE} {te ti : TE} (ge : GE m e te) (hr : isRaw e = false) (gi : GE m ix ti) : GS m fr (.seti i ix e) (tAsg te (gSub (tVar i) ti rPut)) := by
  intro H0 Rw O W s σ H D r q
  simp only [exS] at q
  refine ge H0 Rw O W s σ H _ r (Res.wp_imp (nwp q) fun p hp v H1 k1 rw1 f1 => ?_)
  obtain ⟨o, eo, hp⟩ := wpO hp
  have eo' := own_some eo
  have r1 := r.step k1 rw1
  obtain ⟨a, hW, hσ, t⟩ := r1.own i o eo'
  refine ⟨.ref a, hσ, ?_⟩
  refine gi H0 Rw O W s σ H1 _ r1 (Res.wp_imp (nwp hp) fun p2 hp2 x H2 k2 rw2 f2 => ?_)
  obtain ⟨o', es, hp3⟩ := wpO hp2
  have r2 := r1.step k2 rw2
  have hp4 : EndOk m fr H0 Rw O W H D (.next, s.set i (.own o')) := hp3
  refine put_own r2 eo' (FRep.raw f2 fun _ z => .inl z) ((FRep.clean f1 (fl_raw m.nw e hr)).kp (r1.oo k2)) es hW fun H' r3 k3 => ?_
  exact hp4 σ H' (nx_same r3 ((r.oo (k1.trans k2)).trans k3))
/-! ### x op= e -/
theorem gs_aug {i : Nat} {o : BOp} {e : CE} {te : TE} {rr : R2} (ge : GE m e te) (hs : ∀ (a b p : PV) (v u : V) (H : Hp) (Rw O O' : AP1) (Q : VK), ibinP o a b = some p → Sts H Rw O O' → WRep H Rw O O' a v → WRep H Rw O O' b u → Ans H Rw O O' p Q → rr v u H Q) : GS m fr (.aug i o e) (tAug i te rr) := by
  intro H0 Rw O W s σ H D r q
  simp only [exS] at q
  obtain ⟨p, ep, q⟩ := wpO q
  obtain ⟨x, hx, rx⟩ := r.shr i p (shr_some ep)
  refine ⟨x, hx, ?_⟩
  refine ge H0 Rw O W s σ H _ r (Res.wp_imp (nwp q) fun p2 hp v H1 k1 rw1 f1 => ?_)
  obtain ⟨z, ez, hp⟩ := wpO hp
  have r1 := r.step k1 rw1
  have hp4 : EndOk m fr H0 Rw O W H D (.next, s.set i (.shr z)) := hp
  refine hs p p2 z x v H1 Rw O (Oo O W) _ ez r1.sts (Rep.w (rx.kp (r.oo k1)) fun _ z => .inl z) (FRep.raw f1 fun _ z => .inl z) ?_
  refine r1.ans (f := .cln) Kp.refl r1 fun u H2 k2 rw2 f2 => ?_
  have r2 := r1.step k2 rw2
  exact hp4 _ H2 (nx_same (r2.setShr f2) (r.oo (k1.trans k2)))
/-! ### append, pop -/
theorem gs_app {i : Nat} {e : CE} {te : TE} (ge : GE m e te) (hr : isRaw e = false) : GS m fr (.app i e) (tDrop (tBM m.K "list" rAppend (tVar i) (tCons te tNil))) := by
  intro H0 Rw O W s σ H D r q
  simp only [exS] at q
  obtain ⟨o, eo, q⟩ := wpO q
  have eo' := own_some eo
  obtain ⟨a, hW, hσ, t⟩ := r.own i o eo'
  cases o with
  | lst xs =>
    rw [show isLst (PV.lst xs) = true from rfl, if_pos rfl] at q
    obtain ⟨vs0, h0, _⟩ := t
    refine ⟨.ref a, hσ, .inl ⟨rfl, vs0, SqL.of h0⟩, ?_⟩
    refine ge H0 Rw O W s σ H _ r (Res.wp_imp (nwp q) fun p hp v H1 k1 rw1 f1 => ?_)
    obtain ⟨o', es, hp⟩ := wpO hp
    have r1 := r.step k1 rw1
    obtain ⟨a', hW', hσ', t'⟩ := r1.own i _ eo'
    rw [hW] at hW'
    cases hW'
    have hp4 : EndOk m fr H0 Rw O W H D (.next, s.set i (.own o')) := hp
    simp only [appL] at es
    split at es
    · rename_i hl
      cases es
      obtain ⟨vs, h1, h2⟩ := t'
      have hlen := reps_len h2
      refine ⟨a, vs, v, rfl, rfl, h1, by rw [hlen]; exact lim_lt hl, ?_⟩
      have kp : Kp (Oo O W) H1 (upd H1 a (.lst (vs ++ [v]))) := kpOwn hW (.inl ⟨vs, h1⟩)
      have := r1.wrOwn (v' := .lst (xs ++ [p])) eo' hW hσ' (.inl ⟨vs, h1⟩) ⟨_, upd_same, (Reps.append h2 (by simp only [Reps]; exact ⟨v, [], rfl, FRep.clean f1 (fl_raw m.nw e hr), rfl⟩)).kp kp⟩
      exact hp4 _ _ (nx_same this.1 ((r.oo k1).trans this.2))
    · cases es
  | _ => exact q.elim
theorem gs_pop {t : CT} {i : Nat} {g : TG} (gg : GG m t g) : GS m fr (.pop t i) (tAsg (tBM0 m.K "list" rPop (tVar i)) g) := by
  intro H0 Rw O W s σ H D r q
  simp only [exS] at q
  obtain ⟨o, eo, q⟩ := wpO q
  obtain ⟨vo, ev, q⟩ := wpO q
  obtain ⟨s', eb, q⟩ := wpO q
  have hp4 : EndOk m fr H0 Rw O W H D (.next, s') := q
  have eo' := own_some eo
  obtain ⟨a, hW, hσ, tt⟩ := r.own i o eo'
  unfold popL at ev
  split at ev <;> first | contradiction | skip
  rename_i xs
  split at ev
  · rename_i w hw
    cases ev
    obtain ⟨vs, h1, h2⟩ := tt
    have hlen := reps_len h2
    have hget : xs[xs.length - 1]? = some w := by rw [← List.getLast?_eq_getElem?]; exact hw
    obtain ⟨y, hy, ry⟩ := Reps.get h2 hget
    refine ⟨.ref a, hσ, .inl ⟨rfl, vs, SqL.of h1⟩, a, vs, y, rfl, rfl, h1, by rw [hlen]; exact hy, ?_⟩
    have kp : Kp (Oo O W) H (upd H a (.lst vs.dropLast)) := kpOwn hW (.inl ⟨vs, h1⟩)
    have r2 := r.wrOwn (v' := .lst xs.dropLast) eo' hW hσ (.inl ⟨vs, h1⟩) ⟨_, upd_same, (Reps.dropLast h2).kp kp⟩
    exact gg H0 Rw O W _ s' σ _ w y _ r2.1 (ry.kp kp) eb fun σ' r' _ => hp4 _ _ (nx_same r' r2.2)
  · cases ev
/-! ### tests and loops -/
abbrev GTt (m : Md) (ce : CE) (t : TT) : Prop := GT m ce t
theorem gs_if {d : CE} {a b : CSs} {td : TT} {ta tb : TS} (gd : GT m d td) (ga : GSs m fr a ta) (gb : GSs m fr b tb) : GS m fr (.ifs d a b) (tIfS td ta tb) := by
  intro H0 Rw O W s σ H D r q
  simp only [exS] at q
  refine gd H0 Rw O W s σ H _ r ?_
  rw [Res.wp_bind]
  refine Res.wp_imp (nwp q) fun p hp => Res.wp_imp (nwp hp) fun b hb H1 k1 rw1 => ?_
  have r1 := r.step k1 rw1
  cases b with
  | true =>
    rw [if_pos rfl] at hb ⊢
    exact ga H0 Rw O W s σ H1 D r1 (Res.wp_imp hb fun z hz => EndOk.more (r.oo k1) (fun _ z => .inl z) hz)
  | false =>
    rw [if_neg Bool.false_ne_true] at hb ⊢
    exact gb H0 Rw O W s σ H1 D r1 (Res.wp_imp hb fun z hz => EndOk.more (r.oo k1) (fun _ z => .inl z) hz)
theorem gs_whl {d : CE} {b : CSs} {td : TT} {tb : TS} (gd : GT m d td) (gb : GSs m fr b tb) : GS m fr (.whl d b) (tWhile td tb) := by
  intro H0 Rw O W s σ H D r q
  simp only [exS] at q
  refine ⟨fun n σ' H' => ∃ W' s', Rl m.K H0 Rw O W' s' σ' H' ∧ Kp (Oo O W) H H' ∧ (∀ a, Oo O W' a → Oo O W a ∨ H a = none) ∧ (whileL (fun s => evE m.gl m.cl s d) (fun s => exSs m.gl m.cl s b) n s').wp (EndOk m fr H0 Rw O W H D) No,
    ⟨most, W, s, r, Kp.refl, fun _ z => .inl z, q⟩, ?_⟩
  rintro n σ' H' ⟨W', s', r', k', g', q'⟩
  cases n with
  | zero => exact q'.elim
  | succ n =>
    simp only [whileL] at q'
    refine gd H0 Rw O W' s' σ' H' _ r' ?_
    rw [Res.wp_bind]
    refine Res.wp_imp (nwp q') fun p hp => Res.wp_imp (nwp hp) fun bb hb H1 k1 rw1 => ?_
    have r1 := r'.step k1 rw1
    have k01 : Kp (Oo O W) H H1 := (nx_trans k' g' (nx_same r1 (r'.oo k1))).elim fun _ z => z.2.1
    cases bb with
    | true =>
      rw [if_pos rfl] at hb ⊢
      refine ⟨fun σ2 H2 => ∃ W' s', Rl m.K H0 Rw O W' s' σ2 H2 ∧ Kp (Oo O W) H H2 ∧ (∀ a, Oo O W' a → Oo O W a ∨ H a = none) ∧ (whileL (fun s => evE m.gl m.cl s d) (fun s => exSs m.gl m.cl s b) n s').wp (EndOk m fr H0 Rw O W H D) No,
        fun σ2 H2 z => ⟨n, Nat.lt_succ_self n, z⟩, ?_⟩
      refine gb H0 Rw O W' s' σ' H1 _ r1 (Res.wp_imp (nwp hb) fun z hz => ?_)
      obtain ⟨f, s2⟩ := z
      cases f with
      | next =>
        intro σ2 H2 nx
        obtain ⟨W2, r2, k2, g2⟩ := nx_trans k01 g' nx
        exact ⟨W2, s2, r2, k2, g2, hz⟩
      | brk =>
        intro σ2 H2 nx
        have hz' : EndOk m fr H0 Rw O W H D (.next, s2) := hz
        exact hz' σ2 H2 (nx_trans k01 g' nx)
      | ret v => exact hz
    | false =>
      rw [if_neg Bool.false_ne_true] at hb ⊢
      have hb' : EndOk m fr H0 Rw O W H D (.next, s') := hb
      exact hb' σ' H1 (nx_trans k' g' (nx_same r1 (r'.oo k1)))
theorem gs_for {t : CT} {sr : CR} {b : CSs} {wi : TI} {g : TG} {tb : TS} (hr : rawR sr = false)
    (gi : ∀ (H0 : Hp) (Rw O : AP1) (W : Nat → Option Addr) (s : Stt) (σ : L2.St) (H : Hp) (R : It → Hp → Prop), Rl m.K H0 Rw O W s σ H →
      (evR m.gl m.cl s sr).wp (fun xs => ∀ J H1, Kp Rw H H1 → Rws m.K Rw H1 → WkOk (rawR sr) Rw (Oo O W) J H1 xs → R J H1) No → wi σ H R)
    (gg : GG m t g) (gb : GSs m fr b tb) : GS m fr (.for t sr b) (tFor wi g tb) := by
  intro H0 Rw O W s σ H D r q
  simp only [exS] at q
  refine gi H0 Rw O W s σ H _ r (Res.wp_imp (nwp q) fun xs hxs J H1 k1 rw1 w => ?_)
  rw [hr] at w
  obtain ⟨G, Y, wk, hG, hY⟩ := w
  have R1 := r.step k1 rw1
  refine for_it wk (fun i σ' H' => ∃ W' s', Rl m.K H0 Rw O W' s' σ' H' ∧ Kp (Oo O W) H1 H' ∧ (∀ a, Oo O W' a → Oo O W a ∨ H1 a = none) ∧ (forL t (fun s => exSs m.gl m.cl s b) (xs.drop i) s').wp (EndOk m fr H0 Rw O W H D) No)
    ⟨W, s, R1, Kp.refl, fun _ z => .inl z, hxs⟩ (fun i σ' H' hi z => by
      obtain ⟨W', s', r', k', _⟩ := z
      exact hG H' k') ?_ ?_
  · rintro i x σ' Hh Hy hi ⟨W', s', r', k', g', q'⟩ y
    obtain ⟨same, hx⟩ := hY i Hh x Hy hi (hG Hh k') y
    have ei : xs.drop i = xs[i] :: xs.drop (i + 1) := List.drop_eq_getElem_cons hi
    rw [ei] at q'
    simp only [forL] at q'
    obtain ⟨s1, hb, q'⟩ := wpO q'
    have rx := hx (Oo O W') _ (List.getElem?_eq_getElem hi) k' g'
    have kS : Kp Rw Hh Hy := fun a o e _ => same a o e
    have rwS : Rws m.K Rw Hy := r'.row.same kS fun a z => by
      obtain ⟨_, _, _, _, _, e, _⟩ := r'.row a z
      rw [e]; exact same _ _ e
    have r2 := r'.step kS rwS
    have k2 : Kp (Oo O W) H1 Hy := k'.trans fun a o e _ => same a o e
    refine gg H0 Rw O W' s' s1 σ' Hy xs[i] x _ r2 rx hb fun σ2 r3 _ => ?_
    refine gb H0 Rw O W' s1 σ2 Hy _ r3 (Res.wp_imp (nwp q') fun z hz => ?_)
    obtain ⟨f, s2⟩ := z
    cases f with
    | next =>
      intro σ3 H3 nx
      obtain ⟨W3, r3, k3, g3⟩ := nx_trans k2 g' nx
      exact ⟨W3, s2, r3, k3, g3, hz⟩
    | brk =>
      intro σ3 H3 nx
      have hz' : EndOk m fr H0 Rw O W H D (.next, s2) := hz
      exact hz' σ3 H3 (nx_trans (r.oo k1) (fun _ z => .inl z) (nx_trans k2 g' nx))
    | ret v => exact hz
  · rintro σ' H' ⟨W', s', r', k', g', q'⟩
    rw [List.drop_length] at q'
    have hb' : EndOk m fr H0 Rw O W H D (.next, s') := q'
    exact hb' σ' H' (nx_trans (r.oo k1) (fun _ z => .inl z) ⟨W', r', k', g'⟩)
end
end Ev
set_option autoImplicit false
set_option linter.all false
set_option Elab.async false
set_option maxRecDepth 100000
/-! Ev14b: several targets at once, by a tuple. -/
namespace Ev
open PySem PySem.Spec PyProof.Rows L2
section
variable {m : Md} {c : Cc} {fr : Bool} {H0 : Hp} {Rw : AP1}
/-- values that wait to be stored; each with the heap behind it -/
def Pds (m : Md) (H0 : Hp) (Rw : AP1) (W : Nat → Option Addr) (Hn : Hp) : List Bool → AP1 → AP1 → Hp → List PV → List V → Prop
  | [], O, On, Hc, ps, vs => On = O ∧ Kp Rw Hc Hn ∧ ps = [] ∧ vs = []
  | o :: os, O, On, Hc, ps, vs => ∃ O1 H1 p v ps' vs', ps = p :: ps' ∧ vs = v :: vs' ∧ Kp Rw Hc H1 ∧ Rws m.K Rw H1 ∧ (∀ a, Rw a → O a) ∧ Pd o H0 Hc H1 Rw O O1 W p v ∧ Pds m H0 Rw W Hn os O1 On H1 ps' vs'
theorem Pds.ext {W : Nat → Option Addr} {Hn Hn' : Hp} (k : Kp Rw Hn Hn') : ∀ {os : List Bool} {O On : AP1} {Hc : Hp} {ps : List PV} {vs : List V}, Pds m H0 Rw W Hn os O On Hc ps vs → Pds m H0 Rw W Hn' os O On Hc ps vs
  | [], _, _, _, _, _, h => ⟨h.1, h.2.1.trans k, h.2.2⟩
  | _ :: _, _, _, _, _, _, h => by
    obtain ⟨O1, H1, p, v, ps', vs', e1, e2, k1, rw1, ro, pd, t⟩ := h
    exact ⟨O1, H1, p, v, ps', vs', e1, e2, k1, rw1, ro, pd, Pds.ext k t⟩
theorem Pds.kp {W : Nat → Option Addr} {Hn : Hp} : ∀ {os : List Bool} {O On : AP1} {Hc : Hp} {ps : List PV} {vs : List V}, Pds m H0 Rw W Hn os O On Hc ps vs → Kp Rw Hc Hn
  | [], _, _, _, _, _, h => h.2.1
  | _ :: _, _, _, _, _, _, h => by
    obtain ⟨O1, H1, p, v, ps', vs', e1, e2, k1, rw1, ro, pd, t⟩ := h
    exact k1.trans t.kp
theorem Pds.len {W : Nat → Option Addr} {Hn : Hp} : ∀ {os : List Bool} {O On : AP1} {Hc : Hp} {ps : List PV} {vs : List V}, Pds m H0 Rw W Hn os O On Hc ps vs → ps.length = os.length ∧ vs.length = os.length
  | [], _, _, _, _, _, h => by rw [h.2.2.1, h.2.2.2]; exact ⟨rfl, rfl⟩
  | _ :: _, _, _, _, _, _, h => by
    obtain ⟨O1, H1, p, v, ps', vs', rfl, rfl, k1, rw1, ro, pd, t⟩ := h
    obtain ⟨a, b⟩ := t.len
    exact ⟨by simp [a], by simp [b]⟩
def storeV : List Nat → List V → L2.St → L2.St
  | i :: is, v :: vs, σ => storeV is vs (σ.set i (some v))
  | _, _, σ => σ
theorem storeN_set : ∀ {ts : List (Bool × Nat)} {ps : List PV} {s s' : Stt} {i : Nat} {x : Slt}, i ∉ ts.map (·.2) → storeN ts ps s = some s' → storeN ts ps (s.set i x) = some (s'.set i x)
  | [], [], _, _, _, _, _, h => by simp only [storeN, Option.some.injEq] at h ⊢; rw [h]
  | [], _ :: _, _, _, _, _, _, h => by simp [storeN] at h
  | _ :: _, [], _, _, _, _, _, h => by simp [storeN] at h
  | (o, j) :: ts, p :: ps, s, s', i, x, hi, h => by
    simp only [List.map_cons, List.mem_cons, not_or] at hi
    simp only [storeN] at h ⊢
    rw [List.set_comm _ _ (fun e => hi.1 e)]
    exact storeN_set hi.2 h
theorem storeV_set : ∀ {is : List Nat} {vs : List V} {σ : L2.St} {i : Nat} {x : Option V}, i ∉ is → storeV is vs (σ.set i x) = (storeV is vs σ).set i x
  | [], _, _, _, _, _ => rfl
  | _ :: _, [], _, _, _, _ => rfl
  | j :: is, v :: vs, σ, i, x, hi => by
    simp only [List.mem_cons, not_or] at hi
    simp only [storeV]
    rw [List.set_comm _ _ (fun e => hi.1 e)]
    exact storeV_set hi.2
/-- they are stored -/
theorem Pds.put {Hn : Hp} (rwn : Rws m.K Rw Hn) : ∀ {ts : List (Bool × Nat)} {O On : AP1} {W : Nat → Option Addr} {Hc : Hp} {ps : List PV} {vs : List V} {s s' : Stt} {σ : L2.St}, (ts.map (·.2)).Nodup → Pds m H0 Rw W Hn (ts.map (·.1)) O On Hc ps vs →
    Rl m.K H0 Rw On W s σ Hn → storeN ts ps s = some s' → ∃ W', Rl m.K H0 Rw O W' s' (storeV (ts.map (·.2)) vs σ) Hn ∧ WG W W' Hc
  | [], O, On, W, Hc, ps, vs, s, s', σ, _, h, r, e => by
    obtain ⟨rfl, _, rfl, rfl⟩ := h
    simp only [storeN, Option.some.injEq] at e
    subst e
    exact ⟨W, r, WG.refl⟩
  | (o, i) :: ts, O, On, W, Hc, ps, vs, s, s', σ, nd, h, r, e => by
    obtain ⟨O1, H1, p, v, ps', vs', rfl, rfl, k1, rw1, ro, pd, t⟩ := h
    rw [List.map_cons, List.nodup_cons] at nd
    simp only [storeN] at e
    have hex : ∃ s1, storeN ts ps' s = some s1 ∧ s' = s1.set i (mkS o p) := by
      cases q : storeN ts ps' s with
      | none =>
        exfalso
        have hl := t.len.1
        have : ∀ {ts : List (Bool × Nat)} {ps : List PV} {s : Stt}, ps.length = ts.length → storeN ts ps s ≠ none := by
          intro ts
          induction ts with
          | nil => intro ps s h; cases ps with
            | nil => simp [storeN]
            | cons _ _ => simp at h
          | cons a ts ih => intro ps s h; cases ps with
            | nil => simp at h
            | cons p ps => simp only [storeN]; exact ih (by simpa using h)
        exact this (by simpa using hl) q
      | some s1 =>
        have := storeN_set (x := mkS o p) nd.1 q
        rw [e] at this
        exact ⟨s1, rfl, Option.some.inj this⟩
    obtain ⟨s1, e1, rfl⟩ := hex
    obtain ⟨W1, r1, w1⟩ := Pds.put rwn nd.2 t r e1
    obtain ⟨W2, r2, w2⟩ := (pd.go t.kp ro w1).put (i := i) r1 ro
    refine ⟨W2, ?_, fun b z => ?_⟩
    · show Rl _ _ _ _ _ _ (storeV (ts.map (·.2)) vs' (σ.set i (some v))) _
      rw [storeV_set nd.1]
      exact r2
    · rcases w2 b z with z | z
      · rcases w1 b z with z | z
        · exact .inl z
        · exact .inr (Kp.back k1 rw1 b z)
      · exact .inr z
/-- arguments of which some are new lists or dicts -/
abbrev GO (m : Md) (os : List Bool) (ces : CEs) (ta : TA) : Prop := ∀ (H0 : Hp) (Rw O : AP1) (W : Nat → Option Addr) (s : Stt) (σ : L2.St) (H : Hp) (Q : List V → Hp → Prop), Rl m.K H0 Rw O W s σ H →
  (evEs m.gl m.cl s ces).wp (fun ps => ∀ vs H' On, Kp Rw H H' → Rws m.K Rw H' → Pds m H0 Rw W H' os O On H ps vs → Rl m.K H0 Rw On W s σ H' → Q vs H') No → ta σ H Q
theorem go_nil : GO m [] .nil tNil := by
  intro H0 Rw O W s σ H Q r q
  simp only [evEs, Res.wp_ok] at q
  exact q [] H O Kp.refl r.row ⟨rfl, Kp.refl, rfl, rfl⟩ r
theorem go_cons {o : Bool} {os : List Bool} {e : CE} {es : CEs} {te : TE} {ta : TA} (ge : GE m e te) (ho : oOk m.nw o e) (ga : GO m os es ta) : GO m (o :: os) (.cons e es) (tCons te ta) := by
  intro H0 Rw O W s σ H Q r q
  simp only [evEs] at q
  refine ge H0 Rw O W s σ H _ r (Res.wp_imp (nwp q) fun p hp v H1 k1 rw1 f1 => ?_)
  obtain ⟨O1, pd1, r1, g1⟩ := pd_of r k1 rw1 f1 ho
  refine ga H0 Rw O1 W s σ H1 _ r1 (Res.wp_imp (nwp hp) fun ps hps vs H' On k2 rw2 pds r2 => ?_)
  exact hps (v :: vs) H' On (k1.trans k2) rw2 ⟨O1, H1, p, v, ps, vs, rfl, rfl, k1, rw1, r.ro, pd1, pds⟩ r2
def gNms : List Nat → TGs
  | [] => gNil
  | i :: is => gCons (gName i) (gNms is)
theorem gNms_ok : ∀ {is : List Nat} {vs : List V} {σ : L2.St} {H : Hp} {Q : L2.St → Hp → Prop}, vs.length = is.length → Q (storeV is vs σ) H → gNms is vs σ H Q
  | [], [], _, _, _, _, h => ⟨rfl, h⟩
  | [], _ :: _, _, _, _, h, _ => by simp at h
  | _ :: _, [], _, _, _, h, _ => by simp at h
  | i :: is, v :: vs, σ, H, Q, h, q => ⟨v, vs, rfl, gNms_ok (by simpa using h) q⟩
theorem rl_tup {O : AP1} {W : Nat → Option Addr} {s : Stt} {σ : L2.St} {H : Hp} {p : Addr} {o : HO} (r : Rl m.K H0 Rw O W s σ H) (hp : H p = none) : Rl m.K H0 Rw O W s σ (upd H p o) :=
  r.step (Kp.upd hp) (r.row.same (Kp.upd hp) fun a z => upd_ne fun e => r.trk a (r.ro a z) (e ▸ hp))
theorem gs_parn {ts : List (Bool × Nat)} {es : CEs} {ta : TA} (nd : (ts.map (·.2)).Nodup) (hl : ts.length ≤ 1000) (ga : GO m (ts.map (·.1)) es ta) :
    GS m fr (.parn ts es) (tAsg (tTup ta) (gTup m.K ts.length (gNms (ts.map (·.2))))) := by
  intro H0 Rw O W s σ H D r q
  simp only [exS] at q
  refine ga H0 Rw O W s σ H _ r (Res.wp_imp (nwp q) fun ps hps vs H1 On k1 rw1 pds r1 => ?_)
  obtain ⟨s', e1, hp2⟩ := wpO hps
  have hlen := pds.len.2
  rw [List.length_map] at hlen
  refine ⟨by rw [hlen]; exact Nat.le_trans hl (by decide), fun p hp => ⟨p, vs, rfl, SqT.of upd_same, hlen, gNms_ok (by rw [hlen, List.length_map]) ?_⟩⟩
  have r2 := rl_tup (o := .tup vs) r1 hp
  obtain ⟨W', r3, g⟩ := Pds.put r2.row nd (pds.ext (Kp.upd hp)) r2 e1
  have hp' : EndOk m fr H0 Rw O W H D (.next, s') := hp2
  exact hp' _ _ ⟨W', r3, r.oo (k1.trans (Kp.upd hp)), g.oo⟩
/-- targets, from the left -/
abbrev GT2 (m : Md) (ts : List Tg) (g : TGs) : Prop := ∀ (H0 : Hp) (Rw O : AP1) (W : Nat → Option Addr) (s : Stt) (σ : L2.St) (H : Hp) (ps : List PV) (vs : List V) (Q : L2.St → Hp → Prop), Rl m.K H0 Rw O W s σ H → Reps H Rw (Oo O W) ps vs →
  (storeT m.gl m.cl ts ps s).wp (fun s' => ∀ σ' H', Rl m.K H0 Rw O W s' σ' H' → Kp (Oo O W) H H' → Q σ' H') No → g vs σ H Q
theorem gt_nil : GT2 m [] gNil := by
  intro H0 Rw O W s σ H ps vs Q r rp q
  cases ps with
  | nil =>
    simp only [Reps] at rp
    exact ⟨rp, q σ H r Kp.refl⟩
  | cons p ps => simp [storeT] at q
theorem gt_nm {i : Nat} {ts : List Tg} {g : TGs} (gg : GT2 m ts g) : GT2 m (.nm i :: ts) (gCons (gName i) g) := by
  intro H0 Rw O W s σ H ps vs Q r rp q
  cases ps with
  | nil => simp [storeT] at q
  | cons p ps =>
    simp only [Reps] at rp
    obtain ⟨v, vs', rfl, r1, r2⟩ := rp
    exact ⟨v, vs', rfl, gg H0 Rw O W _ _ H ps vs' Q (r.setShr r1) r2 q⟩
theorem gt_sub {i : Nat} {ix : CE} {ti : TE} {ts : List Tg} {g : TGs} (gi : GE m ix ti) (gg : GT2 m ts g) : GT2 m (.sub i ix :: ts) (gCons (gSub (tVar i) ti rPut) g) := by
  intro H0 Rw O W s σ H ps vs Q r rp q
  cases ps with
  | nil => simp [storeT] at q
  | cons p ps =>
    simp only [Reps] at rp
    obtain ⟨v, vs', rfl, r1, r2⟩ := rp
    refine ⟨v, vs', rfl, ?_⟩
    simp only [storeT] at q
    obtain ⟨o, eo, q⟩ := wpO q
    have eo' := own_some eo
    obtain ⟨a, hW, hσ, t⟩ := r.own i o eo'
    refine ⟨.ref a, hσ, ?_⟩
    refine gi H0 Rw O W s σ H _ r (Res.wp_imp (nwp q) fun x hx y H1 k1 rw1 f1 => ?_)
    obtain ⟨o', es, hx2⟩ := wpO hx
    have R1 := r.step k1 rw1
    refine put_own R1 eo' (FRep.raw f1 fun _ z => .inl z) (r1.kp (r.oo k1)) es hW fun H2 r3 k3 => ?_
    refine gg H0 Rw O W _ σ H2 ps vs' Q r3 ((r2.kp (r.oo k1)).kp k3) (Res.wp_imp hx2 fun s' hs' σ' H' r4 k4 => hs' σ' H' r4 (((r.oo k1).trans k3).trans k4))
theorem gs_pars {ts : List Tg} {es : CEs} {ta : TA} {g : TGs} (n : Nat) (hn : ts.length = n) (hl : lenS es = n) (hr : anyRaw es = false) (hl2 : n ≤ 1000) (ga : GA m es ta) (gg : GT2 m ts g) :
    GS m fr (.pars ts es) (tAsg (tTup ta) (gTup m.K n g)) := by
  intro H0 Rw O W s σ H D r q
  simp only [exS] at q
  refine args (Q := fun vs H1 => vs.length ≤ sizeLine ∧ ∀ p, H1 p = none → gTup m.K n g (.ref p) σ (upd H1 p (.tup vs)) D.nx) ga r (Res.wp_imp (evEs_len (nwp q)) fun ps ⟨hl3, hps⟩ vs H1 k1 R1 w1 cl => ?_)
  have hlen : vs.length = n := by rw [wreps_len w1, hl3, hl]
  refine ⟨by rw [hlen]; exact Nat.le_trans hl2 (by decide), fun p hp => ⟨p, vs, rfl, SqT.of upd_same, hlen, ?_⟩⟩
  have R2 := rl_tup (o := .tup vs) R1 hp
  refine gg H0 Rw O W s σ _ ps vs _ R2 ((cl hr).kp (R1.oo (Kp.upd hp))) (Res.wp_imp (nwp hps) fun s' hs' σ' H' r3 k3 => ?_)
  have hp' : EndOk m fr H0 Rw O W H D (.next, s') := hs'
  exact hp' σ' H' (nx_same r3 ((r.oo (k1.trans (Kp.upd hp))).trans k3))
end
end Ev
set_option autoImplicit false
set_option linter.all false
set_option Elab.async false
set_option maxRecDepth 100000
/-! Ev14c: pop at a place, extend. -/
namespace Ev
open PySem PySem.Spec PyProof.Rows L2
theorem Reps.erase {H : Hp} {Rw O : AP1} : ∀ {xs : List PV} {vs : List V} (i : Nat), Reps H Rw O xs vs → Reps H Rw O (xs.eraseIdx i) (vs.eraseIdx i)
  | [], _, _, h => by simp only [Reps] at h; subst h; simp [Reps]
  | y :: xs, _, 0, h => by
    simp only [Reps] at h
    obtain ⟨w, ws, rfl, _, r2⟩ := h
    simp only [List.eraseIdx_cons_zero]
    exact r2
  | y :: xs, _, i + 1, h => by
    simp only [Reps] at h
    obtain ⟨w, ws, rfl, r1, r2⟩ := h
    simp only [List.eraseIdx_cons_succ, Reps]
    exact ⟨w, _, rfl, r1, Reps.erase i r2⟩
theorem popAt_some {o k : PV} {vo : PV × PV} (e : popAt o k = some vo) : ∃ xs i j, o = .lst xs ∧ k = .int i ∧ sm62 i = true ∧ ixN xs.length i = some j ∧ xs[j]? = some vo.1 ∧ vo.2 = .lst (xs.eraseIdx j) := by
  unfold popAt at e
  split at e
  · rename_i xs i
    split at e
    · rename_i h
      obtain ⟨j, h1, h2⟩ := Option.bind_eq_some_iff.mp e
      obtain ⟨v, h3, rfl⟩ := Option.map_eq_some_iff.mp h2
      exact ⟨xs, i, j, rfl, rfl, h, h1, h3, rfl⟩
    · cases e
  · cases e
section
variable {m : Md} {c : Cc} {fr : Bool}
/-- the reading of l.pop(e): what is behind it -/
theorem popAt_run {j : Nat} {e : CE} {te : TE} (ge : GE m e te) {H0 : Hp} {Rw O : AP1} {W : Nat → Option Addr} {s : Stt} {σ : L2.St} {H : Hp} (r : Rl m.K H0 Rw O W s σ H) {o : PV} (eo : (getS s j).own? = some o) (hl : isLst o = true) {Q : VK}
    (q : (evE m.gl m.cl s e).wp (fun k => ∀ vo, popAt o k = some vo → ∀ v H', Rl m.K H0 Rw O W (s.set j (.own vo.2)) σ H' → Kp (Oo O W) H H' → Rep H' Rw (Oo O W) vo.1 v → Q v H') No)
    (qs : (evE m.gl m.cl s e).wp (fun k => (popAt o k).isSome = true) No) : tBM m.K "list" rPopAt (tVar j) (tCons te tNil) σ H Q := by
  have eo' := own_some eo
  obtain ⟨a, hW, hσ, t⟩ := r.own j o eo'
  cases o with
  | lst xs =>
    obtain ⟨vs0, h0, _⟩ := t
    refine ⟨.ref a, hσ, .inl ⟨rfl, vs0, SqL.of h0⟩, ?_⟩
    have both : (evE m.gl m.cl s e).wp (fun k => (popAt (.lst xs) k).isSome = true ∧ ∀ vo, popAt (.lst xs) k = some vo → ∀ v H', Rl m.K H0 Rw O W (s.set j (.own vo.2)) σ H' → Kp (Oo O W) H H' → Rep H' Rw (Oo O W) vo.1 v → Q v H') No := by
      generalize evE m.gl m.cl s e = z at q qs
      induction z with
      | ok z => exact ⟨qs, q⟩
      | err e => exact q
      | no => exact q
      | draw n kk ih => exact fun i hi => ih i (q i hi) (qs i hi)
    refine one (Q := fun v H1 => rPopAt (.ref a) [v] H1 Q) ge r (Res.wp_imp both fun k hk v H1 k1 R1 f1 w1 => ?_)
    obtain ⟨hs, hk⟩ := hk
    obtain ⟨vo, ev⟩ := Option.isSome_iff_exists.mp hs
    obtain ⟨ys, i, z, e1, rfl, e3, e4, e5, e6⟩ := popAt_some ev
    cases e1
    obtain ⟨a', hW', hσ', t'⟩ := R1.own j _ eo'
    rw [hW] at hW'
    cases hW'
    obtain ⟨vs, h1, h2⟩ := t'
    have hlen := reps_len h2
    obtain ⟨y, hy, ry⟩ := Reps.get h2 e5
    simp only [sm62, Bool.and_eq_true, decide_eq_true_eq] at e3
    refine ⟨a, vs, i, z, y, rfl, by rw [w_int w1], h1, by omega, by omega, by rw [hlen]; exact (L2.ixN_seq (show L2.ixN xs.length i = some z from e4)).1, hy, ?_⟩
    have kp : Kp (Oo O W) H1 (upd H1 a (.lst (vs.eraseIdx z))) := kpOwn hW (.inl ⟨vs, h1⟩)
    have r2 := R1.wrOwn (v' := .lst (xs.eraseIdx z)) eo' hW hσ' (.inl ⟨vs, h1⟩) ⟨_, upd_same, (Reps.erase z h2).kp kp⟩
    exact hk vo ev y _ (by rw [e6]; exact r2.1) ((r.oo k1).trans kp) (ry.kp kp)
  | _ => cases hl
theorem gs_popa_nm {i j : Nat} {e : CE} {te : TE} (ge : GE m e te) : GS m fr (.popa (.nm i) j e) (tAsg (tBM m.K "list" rPopAt (tVar j) (tCons te tNil)) (gName i)) := by
  intro H0 Rw O W s σ H D r q
  simp only [exS] at q
  obtain ⟨o, eo, q⟩ := wpO q
  cases hl : isLst o with
  | false => rw [hl] at q; exact q.elim
  | true =>
    rw [hl, if_pos rfl] at q
    have q' := nwp q
    refine popAt_run ge r eo hl (Res.wp_imp q' fun k hk vo ev v H' r' k' rp => ?_) (Res.wp_imp q' fun k hk => ?_)
    · rw [ev] at hk
      have hp4 : EndOk m fr H0 Rw O W H D (.next, (s.set j (.own vo.2)).set i (.shr vo.1)) := hk
      exact hp4 _ _ (nx_same (r'.setShr rp) k')
    · cases ev : popAt o k with
      | none => rw [ev] at hk; exact hk.elim
      | some vo => rfl
theorem gs_popa_sub {i j : Nat} {ix e : CE} {te ti : TE} (ge : GE m e te) (gi : GE m ix ti) : GS m fr (.popa (.sub i ix) j e) (tAsg (tBM m.K "list" rPopAt (tVar j) (tCons te tNil)) (gSub (tVar i) ti rPut)) := by
  intro H0 Rw O W s σ H D r q
  simp only [exS] at q
  obtain ⟨o, eo, q⟩ := wpO q
  cases hl : isLst o with
  | false => rw [hl] at q; exact q.elim
  | true =>
    rw [hl, if_pos rfl] at q
    have q' := nwp q
    refine popAt_run ge r eo hl (Res.wp_imp q' fun k hk vo ev v H' r' k' rp => ?_) (Res.wp_imp q' fun k hk => ?_)
    · rw [ev] at hk
      obtain ⟨w, ew, hk⟩ := wpO (show Res.wp (EndOk m fr H0 Rw O W H D) No (Res.ofO (getS (s.set j (.own vo.2)) i).own? >>= fun q => evE m.gl m.cl (s.set j (.own vo.2)) ix >>= fun x => Res.ofO (setAt q x vo.1) >>= fun q' => .ok (.next, (s.set j (.own vo.2)).set i (.own q'))) from hk)
      have ew' := own_some ew
      obtain ⟨a, hW, hσ, t⟩ := r'.own i w ew'
      refine ⟨.ref a, hσ, ?_⟩
      refine gi H0 Rw O W _ σ H' _ r' (Res.wp_imp (nwp hk) fun p2 hp2 x H2 k2 rw2 f2 => ?_)
      obtain ⟨o', es, hp3⟩ := wpO hp2
      have r2 := r'.step k2 rw2
      have hp4 : EndOk m fr H0 Rw O W H D (.next, (s.set j (.own vo.2)).set i (.own o')) := hp3
      refine put_own r2 ew' (FRep.raw f2 fun _ z => .inl z) (rp.kp (r'.oo k2)) es hW fun H3 r3 k3 => ?_
      exact hp4 σ H3 (nx_same r3 ((k'.trans (r'.oo k2)).trans k3))
    · cases ev : popAt o k with
      | none => rw [ev] at hk; exact hk.elim
      | some vo => rfl
theorem gs_popif {i j : Nat} {e d z : CE} {te tz : TE} {td : TT} (gd : GT m d td) (ge : GE m e te) (gz : GE m z tz) (hz : isRaw z = false) : GS m fr (.popif i j e d z) (tAsg (tIf td (tBM m.K "list" rPopAt (tVar j) (tCons te tNil)) tz) (gName i)) := by
  intro H0 Rw O W s σ H D r q
  simp only [exS] at q
  have q1 : (evE m.gl m.cl s d >>= fun x => Res.ofO (truthP x)).wp (fun b => (if b = true then (Res.ofO (getS s j).own? >>= fun o => if isLst o = true then evE m.gl m.cl s e >>= fun k => Res.ofO (popAt o k) >>= fun vo => .ok (.next, (s.set j (.own vo.2)).set i (.shr vo.1)) else .no)
      else (evE m.gl m.cl s z >>= fun v => .ok (.next, s.set i (.shr v)))).wp (EndOk m fr H0 Rw O W H D) No) No := by
    rw [Res.wp_bind]
    refine Res.wp_imp (nwp q) fun x hx => ?_
    exact nwp hx
  refine gd H0 Rw O W s σ H _ r (Res.wp_imp q1 fun b hb H1 k1 rw1 => ?_)
  have r1 := r.step k1 rw1
  cases b with
  | true =>
    rw [if_pos rfl] at hb
    obtain ⟨o, eo, q⟩ := wpO hb
    cases hl : isLst o with
    | false => rw [hl] at q; exact q.elim
    | true =>
      rw [hl, if_pos rfl] at q
      have q' := nwp q
      refine popAt_run ge r1 eo hl (Res.wp_imp q' fun k hk vo ev v H' r' k' rp => ?_) (Res.wp_imp q' fun k hk => ?_)
      · rw [ev] at hk
        have hp4 : EndOk m fr H0 Rw O W H D (.next, (s.set j (.own vo.2)).set i (.shr vo.1)) := hk
        exact hp4 _ _ (nx_same (r'.setShr rp) ((r.oo k1).trans k'))
      · cases ev : popAt o k with
        | none => rw [ev] at hk; exact hk.elim
        | some vo => rfl
  | false =>
    rw [if_neg Bool.false_ne_true] at hb
    refine gz H0 Rw O W s σ H1 _ r1 (Res.wp_imp (nwp hb) fun p hp v H2 k2 rw2 f2 => ?_)
    have r2 := r1.step k2 rw2
    have hp4 : EndOk m fr H0 Rw O W H D (.next, s.set i (.shr p)) := hp
    exact hp4 _ H2 (nx_same (r2.setShr (FRep.clean f2 (fl_raw m.nw z hz))) (r.oo (k1.trans k2)))
theorem gs_ext {i : Nat} {e : CE} {te : TE} (ge : GE m e te) (hr : fl m.nw e = .frs) : GS m fr (.ext i e) (tDrop (tBM m.K "list" rExtend (tVar i) (tCons te tNil))) := by
  intro H0 Rw O W s σ H D r q
  simp only [exS] at q
  obtain ⟨o, eo, q⟩ := wpO q
  have eo' := own_some eo
  obtain ⟨a, hW, hσ, t⟩ := r.own i o eo'
  cases o with
  | lst xs =>
    rw [show isLst (PV.lst xs) = true from rfl, if_pos rfl] at q
    obtain ⟨vs0, h0, _⟩ := t
    refine ⟨.ref a, hσ, .inl ⟨rfl, vs0, SqL.of h0⟩, ?_⟩
    refine ge H0 Rw O W s σ H _ r (Res.wp_imp (nwp q) fun p hp v H1 k1 rw1 f1 => ?_)
    obtain ⟨o', es, hp⟩ := wpO hp
    have r1 := r.step k1 rw1
    obtain ⟨a', hW', hσ', t'⟩ := r1.own i _ eo'
    rw [hW] at hW'
    cases hW'
    have hp4 : EndOk m fr H0 Rw O W H D (.next, s.set i (.own o')) := hp
    cases p with
    | lst ys =>
      simp only [extL] at es
      split at es
      · rename_i hl
        cases es
        rw [hr] at f1
        have f2 : Rep H1 Rw (Oo O W) (.lst ys) v := FRep.cln f1
        simp only [Rep] at f2
        obtain ⟨b, us, rfl, hb, nb, r2⟩ := f2
        obtain ⟨vs, h1, h2⟩ := t'
        have hlen := reps_len h2
        have hlen2 := reps_len r2
        refine ⟨a, b, vs, us, rfl, rfl, h1, hb, by rw [hlen, hlen2]; exact hl, ?_⟩
        have kp : Kp (Oo O W) H1 (upd H1 a (.lst (vs ++ us))) := kpOwn hW (.inl ⟨vs, h1⟩)
        have := r1.wrOwn (v' := .lst (xs ++ ys)) eo' hW hσ' (.inl ⟨vs, h1⟩) ⟨_, upd_same, (Reps.append h2 r2).kp kp⟩
        exact hp4 _ _ (nx_same this.1 ((r.oo k1).trans this.2))
      · cases es
    | _ => simp [extL] at es
  | _ => exact q.elim
end
end Ev
set_option autoImplicit false
set_option linter.all false
set_option Elab.async false
set_option maxRecDepth 100000
/-! Ev15: the check of statements, and that it is sound. -/
namespace Ev
open PySem PySem.Spec PyProof.Rows L2
def notComp : Expr → Bool
  | .ListComp _ _ _ _ => false
  | .SetComp _ _ _ _ => false
  | .DictComp _ _ _ _ _ => false
  | _ => true
def kLoc (c : Cc) (x : Str) : Bool := c.sc.names.lookup x == some NameKind.local
/-- x = [..] on one line, x a local -/
def swB (c : Cc) (x : Str) (p : Pos) : Expr → Bool
  | .ListComp _ _ sc pos => kLoc c x && (p.line == pos.line) && !(sc.names.any fun (n, k) => n == x && (k == .local || k == .cell))
  | _ => false
def chV (c : Cc) (e : CE) (v : Expr) : Bool := match e, v with
  | .comp a t r d, .ListComp el gs sc pos => chE c (.comp a t r d) (.ListComp el gs sc pos)
  | e, v => notComp v && chE c e v
/-- the names of a, b = x, y that are stored from the right -/
def swP (c : Cc) (ts vs : List Expr) : Option (Option (List Str)) :=
  if (!(ts.length == 2 || ts.length == 3) || vs.length != ts.length) = true then some none
  else if (vs.any fun e => !notStar e) = true then some none
  else
    let line := (ts.head?.map (·.pos.line)).getD 0
    let names := ts.filterMap fun | .Name id pos => if kLoc c id && pos.line == line then some id else none | _ => none
    if (names.length != ts.length || names.eraseDups.length != names.length) = true then some none
    else if vs.all (foldedForSure 8) = true then some none
    else if vs.all (constantsAlone 8) = true then none
    else some (some names)
def swN (c : Cc) (ts : List Expr) (v : Expr) : Bool := match v with
  | .Tuple vs _ _ => decide (swP c ts vs = some none)
  | _ => true
def chO (nw : Nat → Bool) (o : Bool) (e : CE) : Bool := if o then decide (fl nw e = .frs) else !isRaw e
def chNms (c : Cc) : List (Bool × Nat) → List Expr → Bool
  | [], [] => true
  | (_, i) :: ts, .Name x _ :: es => setB true c i x && chNms c ts es
  | _, _ => false
def chOs (nw : Nat → Bool) (c : Cc) : List Bool → CEs → List Expr → Bool
  | [], .nil, [] => true
  | o :: os, .cons e es, v :: vs => notStar v && chE c e v && chO nw o e && chOs nw c os es vs
  | _, _, _ => false
def chTgs (c : Cc) : List Tg → List Expr → Bool
  | [], [] => true
  | .nm i :: ts, .Name x _ :: es => setB true c i x && chTgs c ts es
  | .sub i ix :: ts, .Subscript (.Name x _) y _ :: es => nmB c i x && notSl y && chE c ix y && chTgs c ts es
  | _, _ => false
def nodB : List Nat → Bool
  | [] => true
  | a :: r => !r.contains a && nodB r
section
variable (nw : Nat → Bool) (fr : Bool) (c : Cc)
mutual
def chS : CS → Stmt → Bool
  | .set i e, st => match st with
    | .Assign [.Name x p] v pos => setB true c i x && !isRaw e && chV c e v
    | _ => false
  | .own i e, st => match st with
    | .Assign [.Name x p] v pos => setB true c i x && decide (fl nw e = .frs) && chV c e v
    | _ => false
  | .par2 o1 i e o2 j f, st => match st with
    | .Assign [.Tuple [.Name x px, .Name y py] kt pt] (.Tuple [a, b] k2 pt2) pos => (c.N[i]? == some x) && (c.N[j]? == some y) && (i != j) && kLoc c x && kLoc c y && notStar a && notStar b && chE c e a && chE c f b && chO nw o1 e && chO nw o2 f &&
        decide (swP c [.Name x px, .Name y py] [a, b] = some (some [x, y]))
    | _ => false
  | .par3 o1 i e o2 j f o3 k g, st => match st with
    | .Assign [.Tuple [.Name x px, .Name y py, .Name z pz] kt pt] (.Tuple [a, b, d] k2 pt2) pos => (c.N[i]? == some x) && (c.N[j]? == some y) && (c.N[k]? == some z) && (i != j) && (i != k) && (j != k) && kLoc c x && kLoc c y && kLoc c z && notStar a && notStar b && notStar d &&
        chE c e a && chE c f b && chE c g d && chO nw o1 e && chO nw o2 f && chO nw o3 g && decide (swP c [.Name x px, .Name y py, .Name z pz] [a, b, d] = some (some [x, y, z]))
    | _ => false
  | .unp ts e, st => match st with
    | .Assign [.Tuple es k p] v pos => chT (fun _ => true) c (.tp ts) (.Tuple es k p) && !isRaw e && chE c e v && swN c es v
    | _ => false
  | .parn ts es, st => match st with
    | .Assign [.Tuple xs k p] (.Tuple vs k2 p2) pos => chNms c ts xs && chOs nw c (ts.map (·.1)) es vs && nodB (ts.map (·.2)) && decide (ts.length ≤ 1000) && swN c xs (.Tuple vs k2 p2)
    | _ => false
  | .pars ts es, st => match st with
    | .Assign [.Tuple xs k p] (.Tuple vs k2 p2) pos => chTgs c ts xs && chEs c es vs && !anyRaw es && decide (lenS es = ts.length) && decide (ts.length ≤ 1000) && swN c xs (.Tuple vs k2 p2)
    | _ => false
  | .seti i ix e, st => match st with
    | .Assign [.Subscript (.Name x p) y sp] v pos => nmB c i x && notSl y && !isRaw e && chE c e v && chE c ix y
    | _ => false
  | .aug i o e, st => match st with
    | .AugAssign (.Name x p) op v pos => setB true c i x && decide (op = opOf o) && chE c e v
    | _ => false
  | .augi _ _ _ _, st => false
  | .app i e, st => match st with
    | .Expr (.Call (.Attribute (.Name x p) nm ap) [v] [] cp) pos => (nm == Str.ofString "append") && nmB c i x && (ap.endLine == cp.line) && notStar v && !isRaw e && chE c e v
    | _ => false
  | .pop t i, st => match st with
    | .Assign [tg] (.Call (.Attribute (.Name x p) nm ap) [] [] cp) pos => (nm == Str.ofString "pop") && nmB c i x && (ap.endLine == cp.line) && chT (fun _ => true) c t tg
    | _ => false
  | .popa (.nm i) j e, st => match st with
    | .Assign [.Name x p] (.Call (.Attribute (.Name y p2) nm ap) [v] [] cp) pos => (nm == Str.ofString "pop") && setB true c i x && nmB c j y && (ap.endLine == cp.line) && notStar v && chE c e v
    | _ => false
  | .popa (.sub i ix) j e, st => match st with
    | .Assign [.Subscript (.Name x p) z sp] (.Call (.Attribute (.Name y p2) nm ap) [v] [] cp) pos => (nm == Str.ofString "pop") && nmB c i x && notSl z && nmB c j y && (ap.endLine == cp.line) && notStar v && chE c e v && chE c ix z
    | _ => false
  | .popif i j e d z, st => match st with
    | .Assign [.Name x p] (.IfExp t (.Call (.Attribute (.Name y p2) nm ap) [v] [] cp) u p3) pos => (nm == Str.ofString "pop") && setB true c i x && nmB c j y && (ap.endLine == cp.line) && notStar v && !isRaw z && chE c d t && chE c e v && chE c z u
    | _ => false
  | .ext i e, st => match st with
    | .Expr (.Call (.Attribute (.Name x p) nm ap) [v] [] cp) pos => (nm == Str.ofString "extend") && nmB c i x && (ap.endLine == cp.line) && notStar v && decide (fl nw e = .frs) && chE c e v
    | _ => false
  | .expr e, st => match st with
    | .Expr v pos => notComp v && chE c e v
    | _ => false
  | .ret e, st => match st with
    | .Return (some v) pos => chE c e v && (!fr || decide (fl nw e = .frs))
    | .Return none pos => (match e with
      | .con .non => true
      | _ => false)
    | _ => false
  | .reto i, st => match st with
    | .Return (some (.Name x p)) pos => nmB c i x
    | _ => false
  | .rett es, st => match st with
    | .Return (some (.Tuple xs k p)) pos => decide (lenS es ≤ 1000) && chEs c es xs
    | _ => false
  | .ifs d a b, st => match st with
    | .If t xs ys pos => chE c d t && (chSs a xs && chSs b ys)
    | _ => false
  | .whl d b, st => match st with
    | .While t xs [] pos => chE c d t && chSs b xs
    | _ => false
  | .for t sr b, st => match st with
    | .For tg it xs [] pos => chT (fun _ => true) c t tg && chR c tg sr it && !rawR sr && notSet it && chSs b xs
    | _ => false
  | .brk, st => match st with
    | .Break _ => true
    | _ => false
  | .raise, st => true
  | .doc, st => match st with
    | .Expr (.Constant (.str _) _ _) _ => true
    | .Pass _ => true
    | _ => false
def chSs : CSs → List Stmt → Bool
  | .nil, sts => sts.isEmpty
  | .cons s r, sts => match sts with
    | st :: rest => chS s st && chSs r rest
    | [] => false
  | .frz _ r, sts => chSs r sts
  | .kil _ r, sts => chSs r sts
end
end
section
variable {m : Md} {c : Cc} {fr : Bool}
theorem swB_ok {X : Cx} (hX : DX m c X) {x : Str} {p : Pos} {v : Expr} {l : Nat} (h : notComp v = true ∨ ∃ a b d e, v = .ListComp a b d e) : swapsWith v (some (.Name x p)) l X.env = pure (swB c x p v) := by
  rcases h with h | ⟨a, b, d, e, rfl⟩
  · cases v <;> first | rfl | cases h
  · have hb : X.env.blockKind = .function := by unfold Env.blockKind; rw [hX.kind]; rfl
    have hk : X.env.kindOf x = c.sc.names.lookup x := by show X.env.scope.names.lookup x = _; rw [hX.sc]
    unfold swapsWith swB kLoc
    simp only [hb, hk, Expr.pos]
    rfl
theorem swS_tup {es : List Expr} {k : Nat} {p : Pos} {v : Expr} {l : Nat} {env : Env} : swapsWithSole [.Tuple es k p] v l env = pure false := by
  cases v <;> rfl
theorem swS_sub {a b : Expr} {p : Pos} {v : Expr} {l : Nat} {env : Env} : swapsWithSole [.Subscript a b p] v l env = pure false := by
  cases v <;> rfl
theorem swP_ok {X : Cx} (hX : DX m c X) {ts vs : List Expr} {k k2 : Nat} {p p2 : Pos} {o : Option (List Str)} (h : swP c ts vs = some o) : swappedStores [.Tuple ts k p] (.Tuple vs k2 p2) X.env = pure o := by
  have hb : X.env.blockKind = .function := by unfold Env.blockKind; rw [hX.kind]; rfl
  have hk : ∀ x, (X.env.kindOf x == some NameKind.local) = kLoc c x := fun x => by
    show (X.env.scope.names.lookup x == _) = _
    rw [hX.sc]; rfl
  have hs : ∀ f : Expr → Bool, (∀ e, f e = !notStar e) → vs.any f = (vs.any fun e => !notStar e) := fun f hf => by
    congr 1
    funext e
    exact hf e
  have hf : ∀ (l : Nat) (f : Expr → Option Str), (∀ e, f e = (match e with | .Name id pos => if kLoc c id && pos.line == l then some id else none | _ => none)) → ts.filterMap f = ts.filterMap (fun | .Name id pos => if kLoc c id && pos.line == l then some id else none | _ => none) := fun l f hf => by
    congr 1
    funext e
    exact hf e
  unfold swP at h
  unfold swappedStores
  simp only [hb, hk]
  split at h
  · rename_i h1
    cases h
    exact if_pos (by rw [h1]; rfl)
  · rename_i h1
    refine (if_neg (by simp only [Bool.not_eq_true] at h1 ⊢; rw [h1]; rfl)).trans ?_
    split at h
    · rename_i h2
      cases h
      exact if_pos (by rw [hs _ (fun e => by cases e <;> rfl)]; exact h2)
    · rename_i h2
      refine (if_neg (by rw [hs _ (fun e => by cases e <;> rfl)]; exact h2)).trans ?_
      dsimp only at h ⊢
      split at h
      · rename_i h3
        cases h
        exact if_pos (by rw [hf _ _ (fun e => by cases e <;> rfl)]; exact h3)
      · rename_i h3
        refine (if_neg (by rw [hf _ _ (fun e => by cases e <;> rfl)]; exact h3)).trans ?_
        split at h
        · rename_i h4
          cases h
          exact if_pos h4
        · rename_i h4
          refine (if_neg h4).trans ?_
          split at h
          · cases h
          · rename_i h5
            cases h
            refine (if_neg h5).trans ?_
            rw [hf _ _ (fun e => by cases e <;> rfl)]
theorem setB_ok {X : Cx} (hX : DX m c X) {i : Nat} {x : Str} (h : setB true c i x = true) : X.N[i]? = some x ∧ L2.Loc X.env.scope x := by
  simp only [setB, Bool.and_eq_true, beq_iff_eq, Bool.or_eq_true] at h
  refine ⟨by rw [hX.N]; exact h.1, ?_⟩
  unfold L2.Loc
  rw [hX.sc]
  rcases h.2 with h | h
  · exact .inl h
  · exact .inr h.2
theorem kLoc_ok {X : Cx} (hX : DX m c X) {x : Str} (h : kLoc c x = true) : X.env.scope.names.lookup x = some .local := by
  rw [hX.sc]; exact eq_of_beq h
theorem lcp_of {elt cond : CE} {t : CT} {sr : CR} {e : Expr} {gs : List Comprehension} {scope : Scope} {pos : Pos} (M : MOk m c) (h : chE c (.comp elt t sr cond) (.ListComp e gs scope pos) = true) :
    ∃ tg iter ifs wi g tt te, gs = [⟨tg, iter, ifs, 0⟩] ∧ LcP m c (.comp elt t sr cond) e tg iter ifs scope wi g tt te (slotsT t) (ownOf c t) := by
  simp only [chE] at h
  split at h
  · rename_i el tg iter ifs sc ps heq
    cases heq
    simp only [Bool.and_eq_true, Bool.not_eq_true'] at h
    obtain ⟨⟨⟨⟨⟨⟨h1, h2⟩, h3⟩, h4⟩, h5⟩, h6⟩, h7⟩ := h
    have hf : SF m (c.blk scope) cond ifs := by
      cases ifs with
      | nil =>
        dsimp only at h5
        split at h5
        · exact sf_nil
        · cases h5
      | cons x r =>
        cases r with
        | nil => exact sf_one (chE_ok M.blk h5).2.1
        | cons y r => cases h5
    obtain ⟨wi, g, tt, te, L⟩ := lcp (chR_ok M h1) h2 (chE_ok M.blk h3).1 h4 hf h6 h7
    exact ⟨tg, iter, ifs, wi, g, tt, te, rfl, L⟩
  · cases h
/-- x = v -/
theorem as_of (M : MOk m c) {e : CE} {v : Expr} (h : chV c e v = true) {i : Nat} {x : Str} {p pos : Pos} (hx : setB true c i x = true) :
    ∃ te : TE, (∀ X, DX m c X → PS X (.Assign [.Name x p] v pos) (tAsg te (gName i))) ∧ GE m e te := by
  unfold chV at h
  split at h
  · rename_i a t r d el gs sc ps
    cases hsw : swB c x p (.ListComp el gs sc ps) with
    | false =>
      obtain ⟨te, pe, ge⟩ := (chE_ok M h).1
      refine ⟨te, fun X hX => ?_, ge⟩
      obtain ⟨h1, h2⟩ := setB_ok hX hx
      exact ps_set (by rw [hX.N]; exact hX.nd) h1 h2 (pe X hX.toXOk) (by rw [swB_ok hX (.inr ⟨_, _, _, _, rfl⟩), hsw]) (.inl (hX.fn x))
    | true =>
      obtain ⟨tg, iter, ifs, wi, g, tt, te, rfl, L⟩ := lcp_of M h
      refine ⟨_, fun X hX => ?_, L.ge⟩
      obtain ⟨h1, h2⟩ := setB_ok hX hx
      have hl : kLoc c x = true := by
        unfold swB at hsw
        simp only [Bool.and_eq_true] at hsw
        exact hsw.1.1
      have ok : BlkOk X.N X.env.scope sc (ownOf c t) := by rw [hX.N, hX.sc]; exact L.blk
      have := ps_setLc (py := p) (pos := ps) (spos := pos) hX.calm (by rw [hX.N]; exact hX.nd) h1 (kLoc_ok hX hl) (by rw [swB_ok hX (.inr ⟨_, _, _, _, rfl⟩), hsw]) (L.it X hX.toXOk) ok (fun s H C cl fp => L.tg _ hX.toXOk.blk fun _ h => h) (fun s H C cl fp => L.ifs _ hX.toXOk.blk) (fun s H C cl fp => L.el _ hX.toXOk.blk) (fun x => fold_set L.ns x)
      rw [L.vo] at this
      exact this
  · simp only [Bool.and_eq_true] at h
    obtain ⟨te, pe, ge⟩ := (chE_ok M h.2).1
    refine ⟨te, fun X hX => ?_, ge⟩
    obtain ⟨h1, h2⟩ := setB_ok hX hx
    have hz : swB c x p v = false := by
      cases v <;> first | rfl | (exact absurd h.1 (by simp [notComp]))
    exact ps_set (by rw [hX.N]; exact hX.nd) h1 h2 (pe X hX.toXOk) (by rw [swB_ok hX (.inl h.1), hz]) (.inl (hX.fn x))
theorem chO_ok {o : Bool} {e : CE} (h : chO m.nw o e = true) : oOk m.nw o e := by
  unfold chO at h
  unfold oOk
  cases o with
  | true => simpa using h
  | false => exact fl_raw m.nw e (by simpa using h)
theorem pa_two {X : Cx} {a b : Expr} {ta tb : TE} (ha : notStar a = true) (hb : notStar b = true) (pa : PE X a ta) (pb : PE X b tb) : PA X [a, b] (tCons ta (tCons tb tNil)) :=
  pa_cons pa (pa_cons pb pa_nil (star_cons hb)) (star_cons ha)
theorem nodB_ok : ∀ {l : List Nat}, nodB l = true → l.Nodup
  | [], _ => List.nodup_nil
  | a :: r, h => by
    simp only [nodB, Bool.and_eq_true, Bool.not_eq_true', ← Bool.not_eq_true, List.contains_iff_mem] at h
    exact List.nodup_cons.mpr ⟨h.1, nodB_ok h.2⟩
theorem nms_each {X : Cx} (hX : DX m c X) : ∀ {ts : List (Bool × Nat)} {es : List Expr}, chNms c ts es = true → PGs X es (gNms (ts.map (·.2))) ∧ (assignEach es X.env).length = ts.length ∧ (assignEach es X.env).findIdx? (·.1) = none
  | [], [], _ => ⟨pgs_nil, rfl, rfl⟩
  | [], _ :: _, h => by simp [chNms] at h
  | _ :: _, [], h => by simp [chNms] at h
  | (o, i) :: ts, e :: es, h => by
    cases e with
    | Name x p =>
      simp only [chNms, Bool.and_eq_true] at h
      obtain ⟨a, b, d⟩ := nms_each hX h.2
      obtain ⟨h1, h2⟩ := setB_ok hX h.1
      have hc : assignEach (.Name x p :: es) X.env = (false, assign (.Name x p) X.env) :: assignEach es X.env := each_cons rfl
      refine ⟨pgs_cons (pg_name (by rw [hX.N]; exact hX.nd) h1 h2 (.inl (hX.fn x))) a (by rw [hc]; rfl), by rw [hc, List.length_cons, b]; rfl, ?_⟩
      rw [hc, List.findIdx?_cons, d]; rfl
    | _ => simp [chNms] at h
theorem os_ok (M : MOk m c) : ∀ {os : List Bool} {es : CEs} {vs : List Expr}, chOs m.nw c os es vs = true → ∃ ta : TA, (∀ X, XOk m c X → PA X vs ta) ∧ GO m os es ta
  | [], .nil, [], _ => ⟨tNil, fun _ _ => pa_nil, go_nil⟩
  | [], .nil, _ :: _, h => by simp [chOs] at h
  | [], .cons _ _, _, h => by simp [chOs] at h
  | _ :: _, .nil, _, h => by simp [chOs] at h
  | _ :: _, .cons _ _, [], h => by simp [chOs] at h
  | o :: os, .cons e es, v :: vs, h => by
    simp only [chOs, Bool.and_eq_true] at h
    obtain ⟨⟨⟨h1, h2⟩, h3⟩, h4⟩ := h
    obtain ⟨te, pe, ge⟩ := (chE_ok M h2).1
    obtain ⟨ta, pa, ga⟩ := os_ok M h4
    exact ⟨tCons te ta, fun X hX => pa_cons (pe X hX) (pa X hX) (star_cons h1), go_cons ge (chO_ok h3) ga⟩
theorem tgs_ok (M : MOk m c) : ∀ {ts : List Tg} {es : List Expr}, chTgs c ts es = true → ∃ g : TGs, GT2 m ts g ∧ ∀ X, DX m c X → PGs X es g ∧ (assignEach es X.env).length = ts.length ∧ (assignEach es X.env).findIdx? (·.1) = none
  | [], [], _ => ⟨gNil, gt_nil, fun _ _ => ⟨pgs_nil, rfl, rfl⟩⟩
  | [], _ :: _, h => by simp [chTgs] at h
  | .nm i :: ts, [], h => by simp [chTgs] at h
  | .sub i ix :: ts, [], h => by simp [chTgs] at h
  | .nm i :: ts, e :: es, h => by
    cases e with
    | Name x p =>
      simp only [chTgs, Bool.and_eq_true] at h
      obtain ⟨g, gg, gp⟩ := tgs_ok M h.2
      refine ⟨gCons (gName i) g, gt_nm gg, fun X hX => ?_⟩
      obtain ⟨a, b, d⟩ := gp X hX
      obtain ⟨h1, h2⟩ := setB_ok hX h.1
      have hc : assignEach (.Name x p :: es) X.env = (false, assign (.Name x p) X.env) :: assignEach es X.env := each_cons rfl
      refine ⟨pgs_cons (pg_name (by rw [hX.N]; exact hX.nd) h1 h2 (.inl (hX.fn x))) a (by rw [hc]; rfl), by rw [hc, List.length_cons, b]; rfl, ?_⟩
      rw [hc, List.findIdx?_cons, d]; rfl
    | _ => simp [chTgs] at h
  | .sub i ix :: ts, e :: es, h => by
    cases e with
    | Subscript o y p =>
      cases o with
      | Name x px =>
        simp only [chTgs, Bool.and_eq_true] at h
        obtain ⟨⟨⟨h1, h2⟩, h3⟩, h4⟩ := h
        obtain ⟨g, gg, gp⟩ := tgs_ok M h4
        obtain ⟨ti, pi, gi⟩ := (chE_ok M h3).1
        refine ⟨gCons (gSub (tVar i) ti rPut) g, gt_sub gi gg, fun X hX => ?_⟩
        obtain ⟨a, b, d⟩ := gp X hX
        obtain ⟨a1, b1, d1, e1⟩ := hX.toXOk.vis h1
        have hu : X.A.units + 1 < cLine := by have := hX.toXOk.units; omega
        have hc : assignEach (.Subscript (.Name x px) y p :: es) X.env = (false, assign (.Subscript (.Name x px) y p) X.env) :: assignEach es X.env := each_cons rfl
        refine ⟨pgs_cons (pg_sub (pe_var a1 b1 d1 e1) (pi X hX.toXOk) (set_put hu) fun v => ?_) a (by rw [hc]; rfl), by rw [hc, List.length_cons, b]; rfl, ?_⟩
        · cases y <;> first | rfl | cases h2
        · rw [hc, List.findIdx?_cons, d]; rfl
      | _ => simp [chTgs] at h
    | _ => simp [chTgs] at h
theorem swN_ok {X : Cx} (hX : DX m c X) {es vs : List Expr} {k k2 : Nat} {p p2 : Pos} (h : swN c es (.Tuple vs k2 p2) = true) : swappedStores [.Tuple es k p] (.Tuple vs k2 p2) X.env = pure none := by
  unfold swN at h
  exact swP_ok hX (by simpa using h)
mutual
theorem chS_ok (M : MOk m c) : ∀ {cs : CS} {st : Stmt}, chS m.nw fr c cs st = true → SS m fr c cs st
  | .set i e, st, h => by
    simp only [chS] at h
    split at h
    · simp only [Bool.and_eq_true, Bool.not_eq_true'] at h
      obtain ⟨te, pe, ge⟩ := as_of M h.2 h.1.1
      exact ⟨_, pe, gs_set ge h.1.2⟩
    · cases h
  | .own i e, st, h => by
    simp only [chS] at h
    split at h
    · simp only [Bool.and_eq_true, decide_eq_true_eq] at h
      obtain ⟨te, pe, ge⟩ := as_of M h.2 h.1.1
      exact ⟨_, pe, gs_own ge h.1.2⟩
    · cases h
  | .par2 o1 i e o2 j f, st, h => by
    simp only [chS] at h
    split at h
    · simp only [Bool.and_eq_true, beq_iff_eq, bne_iff_ne, decide_eq_true_eq] at h
      obtain ⟨⟨⟨⟨⟨⟨⟨⟨⟨⟨⟨hi, hj⟩, hij⟩, hx⟩, hy⟩, sa⟩, sb⟩, he⟩, hf⟩, h1⟩, h2⟩, hw⟩ := h
      obtain ⟨te, pe, ge⟩ := (chE_ok M he).1
      obtain ⟨tf, pf, gf⟩ := (chE_ok M hf).1
      refine ⟨_, fun X hX => ?_, gs_par2 hij ge gf (chO_ok h1) (chO_ok h2)⟩
      exact ps_par hX.calm (by rw [hX.N]; exact hX.nd) (by rw [hX.N]; exact hi) (by rw [hX.N]; exact hj) hij (kLoc_ok hX hx) (kLoc_ok hX hy) (pa_two sa sb (pe X hX.toXOk) (pf X hX.toXOk)) (swP_ok hX hw)
    · cases h
  | .par3 o1 i e o2 j f o3 k g, st, h => by
    simp only [chS] at h
    split at h
    · simp only [Bool.and_eq_true, beq_iff_eq, bne_iff_ne, decide_eq_true_eq] at h
      obtain ⟨⟨⟨⟨⟨⟨⟨⟨⟨⟨⟨⟨⟨⟨⟨⟨⟨⟨hi, hj⟩, hk⟩, hij⟩, hik⟩, hjk⟩, hx⟩, hy⟩, hz⟩, sa⟩, sb⟩, sd⟩, he⟩, hf⟩, hg⟩, h1⟩, h2⟩, h3⟩, hw⟩ := h
      obtain ⟨te, pe, ge⟩ := (chE_ok M he).1
      obtain ⟨tf, pf, gf⟩ := (chE_ok M hf).1
      obtain ⟨tg, pg, gg⟩ := (chE_ok M hg).1
      refine ⟨_, fun X hX => ?_, gs_par3 hij hik hjk ge gf gg (chO_ok h1) (chO_ok h2) (chO_ok h3)⟩
      exact ps_par3 hX.calm (by rw [hX.N]; exact hX.nd) (by rw [hX.N]; exact hi) (by rw [hX.N]; exact hj) (by rw [hX.N]; exact hk) hij hik hjk (kLoc_ok hX hx) (kLoc_ok hX hy) (kLoc_ok hX hz)
        (pa_cons (pe X hX.toXOk) (pa_two sb sd (pf X hX.toXOk) (pg X hX.toXOk)) (star_cons sa)) (swP_ok hX hw)
    · cases h
  | .unp ts e, st, h => by
    simp only [chS] at h
    split at h
    · rename_i es k p v pos
      simp only [Bool.and_eq_true, Bool.not_eq_true'] at h
      obtain ⟨⟨⟨h1, h2⟩, h3⟩, h4⟩ := h
      obtain ⟨g, pg, gg⟩ := ct_ok (m := m) h1
      obtain ⟨te, pe, ge⟩ := (chE_ok M h3).1
      refine ⟨_, fun X hX => ?_, gs_unp ge h2 gg⟩
      refine ps_asg (pe X hX.toXOk) (pg X hX.toXOk fun x _ => hX.fn x) swS_tup ?_ rfl
      unfold swN at h4
      split at h4
      · exact swP_ok hX (by simpa using h4)
      · rename_i hn
        cases v <;> first | rfl | exact absurd rfl (hn _ _ _)
    · cases h
  | .parn ts es, st, h => by
    simp only [chS] at h
    split at h
    · rename_i xs k p vs k2 p2 pos
      simp only [Bool.and_eq_true, decide_eq_true_eq] at h
      obtain ⟨⟨⟨⟨h1, h2⟩, h3⟩, h4⟩, h5⟩ := h
      obtain ⟨ta, pa, ga⟩ := os_ok M h2
      refine ⟨_, fun X hX => ?_, gs_parn (nodB_ok h3) h4 ga⟩
      obtain ⟨a, b, d⟩ := nms_each hX h1
      have := pg_tup (k := k) (pos := p) hX.calm a b d
      rw [hX.K] at this
      exact ps_asg (pe_tup (pa X hX.toXOk)) this swS_tup (swN_ok hX h5) rfl
    · cases h
  | .pars ts es, st, h => by
    simp only [chS] at h
    split at h
    · rename_i xs k p vs k2 p2 pos
      simp only [Bool.and_eq_true, decide_eq_true_eq, Bool.not_eq_true'] at h
      obtain ⟨⟨⟨⟨⟨h1, h2⟩, h3⟩, h4⟩, h5⟩, h6⟩ := h
      obtain ⟨g, gg, gp⟩ := tgs_ok M h1
      obtain ⟨ta, pa, ga⟩ := chEs_ok M h2
      refine ⟨_, fun X hX => ?_, gs_pars ts.length rfl h4 h3 h5 ga gg⟩
      obtain ⟨a, b, d⟩ := gp X hX
      have := pg_tup (k := k) (pos := p) hX.calm a b d
      rw [hX.K] at this
      exact ps_asg (pe_tup (pa X hX.toXOk)) this swS_tup (swN_ok hX h6) rfl
    · cases h
  | .seti i ix e, st, h => by
    simp only [chS] at h
    split at h
    · rename_i x p y sp v pos
      simp only [Bool.and_eq_true, Bool.not_eq_true'] at h
      obtain ⟨⟨⟨⟨h1, h2⟩, h3⟩, h4⟩, h5⟩ := h
      obtain ⟨te, pe, ge⟩ := (chE_ok M h4).1
      obtain ⟨ti, pi, gi⟩ := (chE_ok M h5).1
      refine ⟨_, fun X hX => ?_, gs_seti ge h3 gi⟩
      obtain ⟨a, b, d, e'⟩ := hX.toXOk.vis h1
      have hu : X.A.units + 1 < cLine := by have := hX.toXOk.units; omega
      refine ps_asg (pe X hX.toXOk) (pg_sub (pe_var a b d e') (pi X hX.toXOk) (set_put hu) fun v => ?_) swS_sub rfl rfl
      cases y <;> first | rfl | cases h2
    · cases h
  | .aug i o e, st, h => by
    simp only [chS] at h
    split at h
    · simp only [Bool.and_eq_true, decide_eq_true_eq] at h
      obtain ⟨⟨h1, rfl⟩, h3⟩ := h
      obtain ⟨te, pe, ge⟩ := (chE_ok M h3).1
      obtain ⟨rr, hr, hs⟩ := ibin_snd o
      refine ⟨_, fun X hX => ?_, gs_aug ge hs⟩
      obtain ⟨a, b⟩ := setB_ok hX h1
      exact ps_aug (by rw [hX.N]; exact hX.nd) a b (pe X hX.toXOk) (hr X) (.inl (hX.fn _))
    · cases h
  | .augi _ _ _ _, st, h => by simp [chS] at h
  | .app i e, st, h => by
    simp only [chS] at h
    split at h
    · rename_i x p nm ap v cp pos
      simp only [Bool.and_eq_true, beq_iff_eq, Bool.not_eq_true'] at h
      obtain ⟨⟨⟨⟨⟨rfl, h2⟩, h3⟩, h4⟩, h5⟩, h6⟩ := h
      obtain ⟨te, pe, ge⟩ := (chE_ok M h6).1
      refine ⟨_, fun X hX => ?_, gs_app ge h5⟩
      obtain ⟨a, b, d, e'⟩ := hX.toXOk.vis h2
      have hst : [v].all notStar = true := by simp [h4]
      have := pe_bm (apos := ap) (cpos := cp) PySem.F.plainAttrs_list PySem.F.slot_list_append PySem.F.type_list_append mt_append (pe_var (pos := p) a b d e') (pa_cons (pe X hX.toXOk) pa_nil (star_cons h4)) rfl (few_ok hst (by simp)) (by simpa using h3) (star_cons h4) rfl
      rw [hX.K] at this
      exact ps_expr this
    · cases h
  | .pop t i, st, h => by
    simp only [chS] at h
    split at h
    · rename_i tg x p nm ap cp pos
      simp only [Bool.and_eq_true, beq_iff_eq] at h
      obtain ⟨⟨⟨rfl, h2⟩, h3⟩, h4⟩ := h
      obtain ⟨g, pg, gg⟩ := ct_ok (m := m) h4
      refine ⟨_, fun X hX => ?_, gs_pop gg⟩
      obtain ⟨a, b, d, e'⟩ := hX.toXOk.vis h2
      have := pe_bm0 (apos := ap) (cpos := cp) PySem.F.plainAttrs_list PySem.F.slot_list_pop PySem.F.type_list_pop mt_pop (pe_var (pos := p) a b d e') rfl (by simpa using h3)
      rw [hX.K] at this
      have hns : notStar tg = true := by cases tg <;> first | rfl | (cases t <;> simp [chT] at h4)
      refine ps_asg this (pg X hX.toXOk fun x _ => hX.fn x) rfl ?_ (by rw [each_cons hns]; rfl)
      cases tg <;> rfl
    · cases h
  | .popa (.nm i) j e, st, h => by
    simp only [chS] at h
    split at h
    · rename_i x p y p2 nm ap v cp pos
      simp only [Bool.and_eq_true, beq_iff_eq] at h
      obtain ⟨⟨⟨⟨⟨rfl, h1⟩, h2⟩, h3⟩, h4⟩, h5⟩ := h
      obtain ⟨te, pe, ge⟩ := (chE_ok M h5).1
      refine ⟨_, fun X hX => ?_, gs_popa_nm ge⟩
      obtain ⟨b1, b2⟩ := setB_ok hX h1
      obtain ⟨a, b, d, e'⟩ := hX.toXOk.vis h2
      have hst : [v].all notStar = true := by simp [h4]
      have := pe_bm (apos := ap) (cpos := cp) PySem.F.plainAttrs_list PySem.F.slot_list_pop PySem.F.type_list_pop mt_popAt (pe_var (pos := p2) a b d e') (pa_cons (pe X hX.toXOk) pa_nil (star_cons h4)) rfl (few_ok hst (by simp)) (by simpa using h3) (star_cons h4) rfl
      rw [hX.K] at this
      exact ps_set (by rw [hX.N]; exact hX.nd) b1 b2 this (by rw [swB_ok hX (.inl rfl)]; rfl) (.inl (hX.fn _))
    · cases h
  | .popa (.sub i ix) j e, st, h => by
    simp only [chS] at h
    split at h
    · rename_i x p z sp y p2 nm ap v cp pos
      simp only [Bool.and_eq_true, beq_iff_eq] at h
      obtain ⟨⟨⟨⟨⟨⟨⟨rfl, h1⟩, hz⟩, h2⟩, h3⟩, h4⟩, h5⟩, h6⟩ := h
      obtain ⟨te, pe, ge⟩ := (chE_ok M h5).1
      obtain ⟨ti, pi, gi⟩ := (chE_ok M h6).1
      refine ⟨_, fun X hX => ?_, gs_popa_sub ge gi⟩
      obtain ⟨a1, b1, d1, e1⟩ := hX.toXOk.vis h1
      obtain ⟨a, b, d, e'⟩ := hX.toXOk.vis h2
      have hst : [v].all notStar = true := by simp [h4]
      have hu : X.A.units + 1 < cLine := by have := hX.toXOk.units; omega
      have := pe_bm (apos := ap) (cpos := cp) PySem.F.plainAttrs_list PySem.F.slot_list_pop PySem.F.type_list_pop mt_popAt (pe_var (pos := p2) a b d e') (pa_cons (pe X hX.toXOk) pa_nil (star_cons h4)) rfl (few_ok hst (by simp)) (by simpa using h3) (star_cons h4) rfl
      rw [hX.K] at this
      refine ps_asg this (pg_sub (pe_var a1 b1 d1 e1) (pi X hX.toXOk) (set_put hu) fun v => ?_) swS_sub rfl rfl
      cases z <;> first | rfl | cases hz
    · cases h
  | .popif i j e d z, st, h => by
    simp only [chS] at h
    split at h
    · rename_i x p t y p2 nm ap v cp u p3 pos
      simp only [Bool.and_eq_true, beq_iff_eq, Bool.not_eq_true'] at h
      obtain ⟨⟨⟨⟨⟨⟨⟨⟨rfl, h1⟩, h2⟩, h3⟩, h4⟩, h5⟩, h6⟩, h7⟩, h8⟩ := h
      obtain ⟨td, pd, gd⟩ := (chE_ok M h6).2.1
      obtain ⟨te, pe, ge⟩ := (chE_ok M h7).1
      obtain ⟨tz, pz, gz⟩ := (chE_ok M h8).1
      refine ⟨_, fun X hX => ?_, gs_popif gd ge gz h5⟩
      obtain ⟨b1, b2⟩ := setB_ok hX h1
      obtain ⟨a, b, d, e'⟩ := hX.toXOk.vis h2
      have hst : [v].all notStar = true := by simp [h4]
      have := pe_bm (apos := ap) (cpos := cp) PySem.F.plainAttrs_list PySem.F.slot_list_pop PySem.F.type_list_pop mt_popAt (pe_var (pos := p2) a b d e') (pa_cons (pe X hX.toXOk) pa_nil (star_cons h4)) rfl (few_ok hst (by simp)) (by simpa using h3) (star_cons h4) rfl
      rw [hX.K] at this
      exact ps_set (by rw [hX.N]; exact hX.nd) b1 b2 (pe_ifExp (pd X hX.toXOk) this (pz X hX.toXOk)) (by rw [swB_ok hX (.inl rfl)]; rfl) (.inl (hX.fn _))
    · cases h
  | .ext i e, st, h => by
    simp only [chS] at h
    split at h
    · rename_i x p nm ap v cp pos
      simp only [Bool.and_eq_true, beq_iff_eq, decide_eq_true_eq] at h
      obtain ⟨⟨⟨⟨⟨rfl, h2⟩, h3⟩, h4⟩, h5⟩, h6⟩ := h
      obtain ⟨te, pe, ge⟩ := (chE_ok M h6).1
      refine ⟨_, fun X hX => ?_, gs_ext ge h5⟩
      obtain ⟨a, b, d, e'⟩ := hX.toXOk.vis h2
      have hst : [v].all notStar = true := by simp [h4]
      have := pe_bm (apos := ap) (cpos := cp) PySem.F.plainAttrs_list PySem.F.slot_list_extend PySem.F.type_list_extend mt_extend (pe_var (pos := p) a b d e') (pa_cons (pe X hX.toXOk) pa_nil (star_cons h4)) rfl (few_ok hst (by simp)) (by simpa using h3) (star_cons h4) rfl
      rw [hX.K] at this
      exact ps_expr this
    · cases h
  | .expr e, st, h => by
    simp only [chS] at h
    split at h
    · rename_i v pos
      simp only [Bool.and_eq_true] at h
      obtain ⟨te, pe, ge⟩ := (chE_ok M h.2).1
      refine ⟨_, fun X hX => ps_expr (pe X hX.toXOk) ?_, gs_expr ge⟩
      have h1 := h.1
      cases v <;> first | rfl | cases h1
    · cases h
  | .ret e, st, h => by
    simp only [chS] at h
    split at h
    · rename_i v pos
      simp only [Bool.and_eq_true, Bool.or_eq_true, Bool.not_eq_true', decide_eq_true_eq] at h
      obtain ⟨te, pe, ge⟩ := (chE_ok M h.1).1
      exact ⟨_, fun X hX => ps_ret (pe X hX.toXOk), gs_ret ge fun z => h.2.elim (fun q => by rw [z] at q; cases q) id⟩
    · split at h
      · exact ⟨_, fun X hX => ps_retN, gs_retn⟩
      · cases h
    · cases h
  | .reto i, st, h => by
    simp only [chS] at h
    split at h
    · refine ⟨_, fun X hX => ?_, gs_reto⟩
      obtain ⟨a, b, d, e'⟩ := hX.toXOk.vis h
      exact ps_ret (pe_var a b d e')
    · cases h
  | .rett es, st, h => by
    simp only [chS] at h
    split at h
    · simp only [Bool.and_eq_true, decide_eq_true_eq] at h
      obtain ⟨ta, pa, ga⟩ := chEs_ok M h.2
      refine ⟨tRet (tTup ta), fun X hX => ps_ret (pe_tup (pa X hX.toXOk)), gs_rett h.1 ?_⟩
      exact ga
    · cases h
  | .ifs d a b, st, h => by
    simp only [chS] at h
    split at h
    · simp only [Bool.and_eq_true] at h
      obtain ⟨td, pd, gd⟩ := (chE_ok M h.1).2.1
      obtain ⟨ta, pa, ga⟩ := chSs_ok M h.2.1
      obtain ⟨tb, pb, gb⟩ := chSs_ok M h.2.2
      exact ⟨_, fun X hX => ps_if (pd X hX.toXOk) (pa X hX) (pb X hX), gs_if gd ga gb⟩
    · cases h
  | .whl d b, st, h => by
    simp only [chS] at h
    split at h
    · simp only [Bool.and_eq_true] at h
      obtain ⟨td, pd, gd⟩ := (chE_ok M h.1).2.1
      obtain ⟨tb, pb, gb⟩ := chSs_ok M h.2
      exact ⟨_, fun X hX => ps_while hX.pass (pd X hX.toXOk) (pb X hX), gs_whl gd gb⟩
    · cases h
  | .for t sr b, st, h => by
    simp only [chS] at h
    split at h
    · simp only [Bool.and_eq_true, Bool.not_eq_true'] at h
      obtain ⟨⟨⟨⟨h1, h2⟩, h3⟩, h4⟩, h5⟩ := h
      obtain ⟨g, pg, gg⟩ := ct_ok (m := m) h1
      obtain ⟨wi, pi, gi⟩ := chR_ok M h2
      obtain ⟨tb, pb, gb⟩ := chSs_ok M h5
      exact ⟨_, fun X hX => ps_for hX.pass hX.calm (pi X hX.toXOk) (pg X hX.toXOk fun x _ => hX.fn x) (pb X hX) (fun x => fold_set h4 x), gs_for h3 gi gg gb⟩
    · cases h
  | .brk, st, h => by
    simp only [chS] at h
    split at h
    · refine ⟨_, fun X hX => ps_break, fun H0 Rw O W s σ H D r q => ?_⟩
      simp only [exS] at q
      have q' : EndOk m fr H0 Rw O W H D (.brk, s) := q
      exact q' σ H (nx_same r Kp.refl)
    · cases h
  | .raise, st, h => ⟨tNever, fun X hX => ps_never, fun H0 Rw O W s σ H D r q => by simp only [exS] at q; exact q⟩
  | .doc, st, h => by
    have go : GS m fr .doc tNext := fun H0 Rw O W s σ H D r q => by
      simp only [exS] at q
      have q' : EndOk m fr H0 Rw O W H D (.next, s) := q
      exact q' σ H (nx_same r Kp.refl)
    simp only [chS] at h
    split at h
    · exact ⟨_, fun X hX => ps_doc, go⟩
    · exact ⟨_, fun X hX => ps_pass, go⟩
    · cases h
theorem chSs_ok (M : MOk m c) : ∀ {cs : CSs} {sts : List Stmt}, chSs m.nw fr c cs sts = true → SSs m fr c cs sts
  | .nil, sts, h => by
    cases sts with
    | nil => exact sss_nil
    | cons x xs => simp [chSs] at h
  | .cons s r, sts, h => by
    cases sts with
    | nil => simp [chSs] at h
    | cons x xs =>
      simp only [chSs, Bool.and_eq_true] at h
      exact sss_cons (chS_ok M h.1) (chSs_ok M h.2)
  | .frz i r, sts, h => by
    simp only [chSs] at h
    exact sss_frz (chSs_ok M h)
  | .kil i r, sts, h => by
    simp only [chSs] at h
    exact sss_kil (chSs_ok M h)
end
end
end Ev
set_option autoImplicit false
set_option linter.all false
set_option Elab.async false
set_option maxRecDepth 100000
/-! Ev15b: the making of a Tower. -/
namespace Ev
open PySem PySem.Spec PyProof.Rows L2
def tN : List Str := ["self", "plan", "last", "place", "letter", "now", "less", "later", "other", "new"]
/-- [(letter, 0) for letter in LETTERS] -/
def iComp (gL : Nat) : CE := .comp (.tup (.cons (.var 4) (.cons (.con (.int 0)) .nil))) (.nm 4) (.seq (.glo gL)) (.con (.bl true))
def iBody : CSs := .cons (.set 9 (.ifx (.and (.cmp .is (.var 6) (.con .non)) (.cmp .eq (.var 8) (.var 4))) (.con (.int 1)) (.con (.int 0))))
  (.cons (.seti 7 (.var 8) (.bin .add (.bin .sub (.bin .mul (.con (.int 2)) (.idx (.var 5) (.var 8))) (.ifx (.cmp .isnot (.var 6) (.con .non)) (.idx (.var 6) (.var 8)) (.con (.int 0)))) (.var 9))) .nil)
def iFor (gL : Nat) : CS := .for (.nm 8) (.seq (.glo gL)) iBody
def iNow (g : Nat) : CS := .set 5 (.idx (.attr g (.var 0) 2) (.neg (.con (.int 1))))
def iLess (g : Nat) : CS := .set 6 (.ifx (.cmp .isin (.var 4) (.bor 2)) (.idx (.attr g (.var 0) 2) (.idx (.bor 2) (.var 4))) (.con .non))
def abc : List Nat := [97, 98, 99, 100, 101]
/-- a Tower as it grows -/
def tow (C x : Nat) (p : List Nat) (zs rows : List PV) : PV := .obj C (some x) [.str p, .lst zs, .lst rows]
def lessP : Option (List Int) → PV
  | some l => rowD l
  | none => .non
section
variable {gl : Nat → Option PV} {cl : Nat → List PV → Res PV}
/-- the inner loop -/
theorem inner_ev {gL : Nat} (h : gl gL = some (.str abc)) {c : Nat} (hc : 97 ≤ c ∧ c ≤ 101) {now : List Int} (hn : ∃ a b c d e, now = [a, b, c, d, e]) {less : Option (List Int)} (hl : ∀ l, less = some l → ∃ a b c d e, l = [a, b, c, d, e]) (s0 s1 s2 s3 s8 s9 : Slt) :
    ∃ z : Int, exS gl cl [s0, s1, s2, s3, .shr (.str [c]), .shr (rowD now), .shr (lessP less), .own (.dic []), s8, s9] (iFor gL) =
      .ok (.next, [s0, s1, s2, s3, .shr (.str [c]), .shr (rowD now), .shr (lessP less), .own (rowD (rowN c now less)), .shr (.str [101]), .shr (.int z)]) := by
  have hc' : c = 97 ∨ c = 98 ∨ c = 99 ∨ c = 100 ∨ c = 101 := by omega
  obtain ⟨n0, n1, n2, n3, n4, rfl⟩ := hn
  cases less with
  | none =>
    rcases hc' with rfl | rfl | rfl | rfl | rfl
    · refine ⟨0, ?_⟩; simp only [iFor, exS, evE, evR, h, Res.ofO_some, Res.ok_bind]; kernel_rfl
    · refine ⟨0, ?_⟩; simp only [iFor, exS, evE, evR, h, Res.ofO_some, Res.ok_bind]; kernel_rfl
    · refine ⟨0, ?_⟩; simp only [iFor, exS, evE, evR, h, Res.ofO_some, Res.ok_bind]; kernel_rfl
    · refine ⟨0, ?_⟩; simp only [iFor, exS, evE, evR, h, Res.ofO_some, Res.ok_bind]; kernel_rfl
    · refine ⟨1, ?_⟩; simp only [iFor, exS, evE, evR, h, Res.ofO_some, Res.ok_bind]; kernel_rfl
  | some l =>
    obtain ⟨a, b, d, e, f, rfl⟩ := hl l rfl
    rcases hc' with rfl | rfl | rfl | rfl | rfl <;> (refine ⟨0, ?_⟩; simp only [iFor, exS, evE, evR, h, Res.ofO_some, Res.ok_bind]; kernel_rfl)
theorem rowN_five (c : Nat) (now : List Int) (less : Option (List Int)) : ∃ a b d e f, rowN c now less = [a, b, d, e, f] := ⟨_, _, _, _, _, rfl⟩
/-- what is known of the last places -/
structure LastOk (last : List (Nat × Nat)) (D : List (PV × PV)) (n : Nat) : Prop where
  get : ∀ c, dget (.str [c]) D = (last.lookup c).map fun k => PV.int (k : Nat)
  lt : ∀ c k, last.lookup c = some k → k < n
  len : D.length ≤ n
  flat : D.all (fun e => flat 0 e.1 && flat 0 e.2) = true
theorem now_ev {g C x : Nat} {p : List Nat} {zs : List PV} {rows : List (List Int)} (hg : gl g = some (.int (C : Nat))) (hr : rows ≠ []) (s1 s2 s3 s4 s5 s6 s7 s8 s9 : Slt) :
    exS gl cl [.shr (tow C x p zs (rows.map rowD)), s1, s2, s3, s4, s5, s6, s7, s8, s9] (iNow g) = .ok (.next, [.shr (tow C x p zs (rows.map rowD)), s1, s2, s3, s4, .shr (rowD (rows.getLast?.getD [])), s6, s7, s8, s9]) := by
  obtain ⟨init, l, rfl⟩ : ∃ init l, rows = init ++ [l] := ⟨rows.dropLast, rows.getLast hr, (List.dropLast_concat_getLast hr).symm⟩
  have e1 : atL ((init ++ [l]).map rowD) (-1) = some (rowD l) := by
    unfold atL ixN
    rw [if_neg (by omega), if_pos (by simp only [List.length_map, List.length_append, List.length_cons, List.length_nil]; omega)]
    simp only [Option.bind_some, List.length_map, List.length_append, List.length_cons, List.length_nil]
    rw [show (-1 + ((init.length + (0 + 1) : Nat) : Int)).toNat = init.length by omega]
    simp
  have e2 : getS [Slt.shr (tow C x p zs ((init ++ [l]).map rowD)), s1, s2, s3, s4, s5, s6, s7, s8, s9] 0 = .shr (tow C x p zs ((init ++ [l]).map rowD)) := rfl
  have e3 : isObj (some (.int (C : Nat))) (tow C x p zs ((init ++ [l]).map rowD)) = true := by simp [isObj, tow]
  have e4 : attrP (tow C x p zs ((init ++ [l]).map rowD)) 2 = some (.lst ((init ++ [l]).map rowD)) := rfl
  simp only [iNow, exS, evE, e2, Slt.shr?, Res.ofO_some, Res.ok_bind, hg, e3, if_true, e4, idxP, Res.pure_eq]
  rw [show atL (List.map rowD (init ++ [l])) (-1) = some (rowD l) from e1]
  simp [List.set]
theorem less_ev {g C x : Nat} {p : List Nat} {zs : List PV} {rows : List (List Int)} {last : List (Nat × Nat)} {D : List (PV × PV)} {c : Nat} (hg : gl g = some (.int (C : Nat))) (hD : LastOk last D rows.length) (s1 s3 s5 s6 s7 s8 s9 : Slt) :
    exS gl cl [.shr (tow C x p zs (rows.map rowD)), s1, .own (.dic D), s3, .shr (.str [c]), s5, s6, s7, s8, s9] (iLess g) =
      .ok (.next, [.shr (tow C x p zs (rows.map rowD)), s1, .own (.dic D), s3, .shr (.str [c]), s5, .shr (lessP ((last.lookup c).bind fun p => rows[p]?)), s7, s8, s9]) := by
  have e2 : getS [Slt.shr (tow C x p zs (rows.map rowD)), s1, .own (.dic D), s3, .shr (.str [c]), s5, s6, s7, s8, s9] 0 = .shr (tow C x p zs (rows.map rowD)) := rfl
  have e5 : getS [Slt.shr (tow C x p zs (rows.map rowD)), s1, .own (.dic D), s3, .shr (.str [c]), s5, s6, s7, s8, s9] 4 = .shr (.str [c]) := rfl
  have e6 : getS [Slt.shr (tow C x p zs (rows.map rowD)), s1, .own (.dic D), s3, .shr (.str [c]), s5, s6, s7, s8, s9] 2 = .own (.dic D) := rfl
  have e3 : isObj (some (.int (C : Nat))) (tow C x p zs (rows.map rowD)) = true := by simp [isObj, tow]
  have e4 : attrP (tow C x p zs (rows.map rowD)) 2 = some (.lst (rows.map rowD)) := rfl
  have e7 := hD.get c
  cases hl : last.lookup c with
  | none =>
    rw [hl] at e7
    simp only [iLess, exS, evE, e5, e6, Slt.shr?, Slt.val?, Res.ofO_some, Res.ok_bind, cmpP, inP, isKey, if_true, e7, Option.map_none, Option.isSome_none, truthP, Bool.false_eq_true, if_false, Option.bind_none]
    rfl
  | some k =>
    rw [hl] at e7
    have hk := hD.lt c k hl
    have e8 : atL (rows.map rowD) ((k : Nat) : Int) = some (rowD rows[k]) := by
      unfold atL ixN
      rw [if_pos (by omega), if_pos (by rw [List.length_map]; omega)]
      simp [hk]
    simp only [iLess, exS, evE, e2, e5, e6, Slt.shr?, Slt.val?, Res.ofO_some, Res.ok_bind, cmpP, inP, isKey, if_true, e7, Option.map_some, Option.isSome_some, truthP, hg, e3, e4, idxP, e8, Option.bind_some, List.getElem?_eq_getElem hk]
    rfl
end
/-! ### values without lists -/
def nol : PV → Bool
  | .non => true
  | .bl _ => true
  | .int _ => true
  | .str _ => true
  | .dic kvs => kvs.all fun e => flat 0 e.1 && flat 0 e.2
  | _ => false
def nolS : Slt → Bool
  | .no => true
  | .shr v => nol v
  | .own v => nol v
section
variable {H H' : Hp} {Rw O O2 : AP1}
theorem flat0_any {p : PV} {v : V} (f : flat 0 p = true) (h : Rep H Rw O p v) : Rep H' Rw O2 p v := by
  cases p with
  | non => simp only [Rep] at h ⊢; exact h
  | bl b => simp only [Rep] at h ⊢; exact h
  | int b => simp only [Rep] at h ⊢; exact h
  | str b => simp only [Rep] at h ⊢; exact h
  | _ => simp [flat] at f
theorem flat0_K : ∀ {kvs : List (PV × PV)} {kv : List (Key × V)}, kvs.all (fun e => flat 0 e.1 && flat 0 e.2) = true → RepsK H Rw O kvs kv → RepsK H' Rw O2 kvs kv
  | [], _, _, h => by simp only [RepsK] at h ⊢; exact h
  | (k, x) :: r, _, f, h => by
    simp only [List.all_cons, Bool.and_eq_true] at f
    simp only [RepsK] at h ⊢
    obtain ⟨j, w, ws, e, r1, r2, r3⟩ := h
    exact ⟨j, w, ws, e, flat0_any f.1.1 r1, flat0_any f.1.2 r2, flat0_K f.2 r3⟩
theorem flat0_s : ∀ {xs : List PV} {vs : List V}, xs.all (flat 0) = true → Reps H Rw O xs vs → Reps H' Rw O2 xs vs
  | [], _, _, h => by simp only [Reps] at h ⊢; exact h
  | x :: r, _, f, h => by
    simp only [List.all_cons, Bool.and_eq_true] at f
    simp only [Reps] at h ⊢
    obtain ⟨w, ws, e, r1, r2⟩ := h
    exact ⟨w, ws, e, flat0_any f.1 r1, flat0_s f.2 r2⟩
variable {D : Addr} {ds : List V} {o : HO}
theorem nol_upd {p : PV} {v : V} (hD : H D = some (.lst ds)) (f : nol p = true) (h : Rep H Rw O p v) : Rep (upd H D o) Rw O p v := by
  cases p with
  | non => simp only [Rep] at h ⊢; exact h
  | bl b => simp only [Rep] at h ⊢; exact h
  | int b => simp only [Rep] at h ⊢; exact h
  | str b => simp only [Rep] at h ⊢; exact h
  | dic kvs =>
    simp only [Rep] at h ⊢
    obtain ⟨a, kv, e, ha, n, r⟩ := h
    have ne : a ≠ D := ne_of ha hD (by simp)
    exact ⟨a, kv, e, by rw [upd_ne ne]; exact ha, n, flat0_K f r⟩
  | _ => simp [nol] at f
theorem nols_upd (hD : H D = some (.lst ds)) : ∀ {xs : List PV} {vs : List V}, xs.all nol = true → Reps H Rw O xs vs → Reps (upd H D o) Rw O xs vs
  | [], _, _, h => by simp only [Reps] at h ⊢; exact h
  | x :: r, _, f, h => by
    simp only [List.all_cons, Bool.and_eq_true] at f
    simp only [Reps] at h ⊢
    obtain ⟨w, ws, e, r1, r2⟩ := h
    exact ⟨w, ws, e, nol_upd hD f.1 r1, nols_upd hD f.2 r2⟩
theorem nolT_upd {p : PV} {a : Addr} (hD : H D = some (.lst ds)) (f : nol p = true) (h : TRep H Rw O p a) : TRep (upd H D o) Rw O p a := by
  cases p with
  | dic kvs =>
    obtain ⟨kv, ha, r⟩ := h
    have ne : a ≠ D := ne_of ha hD (by simp)
    exact ⟨kv, by rw [upd_ne ne]; exact ha, flat0_K f r⟩
  | lst xs => simp [nol] at f
  | _ => exact h.elim
theorem rowD_nol (r : List Int) : nol (rowD r) = true := by
  unfold rowD nol
  rw [List.all_eq_true]
  intro e he
  have h1 : e.1 ∈ (([97, 98, 99, 100, 101] : List Nat).map fun c => PV.str [c]) := (List.of_mem_zip (by simpa using he)).1
  have h2 : e.2 ∈ r.map PV.int := (List.of_mem_zip (a := e.1) (b := e.2) (by simpa using he)).2
  obtain ⟨c, _, e1⟩ := List.mem_map.mp h1
  obtain ⟨i, _, e2⟩ := List.mem_map.mp h2
  rw [← e1, ← e2]; rfl
end
end Ev
set_option autoImplicit false
set_option linter.all false
set_option Elab.async false
set_option maxRecDepth 100000
/-! Ev15c: the making of a Tower: its steps. -/
namespace Ev
open PySem PySem.Spec PyProof.Rows L2
section
variable {m : Md} {c : Cc} {fr : Bool} {H0 H : Hp} {Rw O : AP1} {W : Nat → Option Addr} {s : Stt} {σ : L2.St}
theorem run1 {a : CS} {t : TS} (g : GS m fr a t) {u : TS} {D : Ends} {s' : Stt} (r : Rl m.K H0 Rw O W s σ H) (e : exS m.gl m.cl s a = .ok (.next, s'))
    (q : ∀ W' σ' H', Rl m.K H0 Rw O W' s' σ' H' → Kp (Oo O W) H H' → (∀ a, Oo O W' a → Oo O W a ∨ H a = none) → u D σ' H') : tSeq t u D σ H := by
  refine g H0 Rw O W s σ H { D with nx := u D } r ?_
  rw [e]
  rintro σ' H' ⟨W', r', k, g'⟩
  exact q W' σ' H' r' k g'
theorem zip3 {v1 v2 v3 : V} {vs : List V} (h : tNames.zip vs = tNames.zip [v1, v2, v3]) (hl : vs.length = 3) : vs = [v1, v2, v3] := by
  match vs, hl with
  | [a, b, d], _ =>
    simp only [tNames, List.zip_cons_cons, List.zip_nil_right, List.cons.injEq, Prod.mk.injEq, true_and, and_true] at h
    rw [h.1, h.2.1, h.2.2]
/-- the parts of a growing Tower -/
theorem tow_parts {C x dx D : Nat} {p : List Nat} {zs rows : List PV} {v1 v2 v : V} (hx : H x = some (.ins C dx (tNames.zip [v1, v2, .ref D]))) (h : Rep H Rw O (tow C x p zs rows) v) :
    v = .ref x ∧ ¬ O x ∧ Rep H Rw O (.str p) v1 ∧ Rep H Rw O (.lst zs) v2 ∧ ∃ vs, H D = some (.lst vs) ∧ ¬ O D ∧ Reps H Rw O rows vs := by
  unfold tow at h
  simp only [Rep] at h
  obtain ⟨a, dx', vs, rfl, ha, n, ez, r⟩ := h
  obtain rfl := ez x rfl
  rw [hx] at ha
  simp only [Option.some.injEq, HO.ins.injEq, true_and] at ha
  obtain ⟨rfl, hz⟩ := ha
  have hl := reps_len r
  simp only [Reps] at r
  obtain ⟨w1, _, rfl, r1, w2, _, rfl, r2, w3, _, rfl, r3, rfl⟩ := r
  have := zip3 (vs := [w1, w2, w3]) hz.symm rfl
  cases this
  simp only [Rep] at r1 r2 r3 ⊢
  refine ⟨trivial, n, r1, r2, ?_⟩
  obtain ⟨b, us, e, hb, nb, r3⟩ := r3
  cases e
  exact ⟨us, hb, nb, r3⟩
/-- one more row -/
theorem Rl_app {C x dx D : Nat} {p : List Nat} {z : Int} {zr rows : List PV} {kv : List (PV × PV)} {s1 : Stt} {v1 v2 : V} {later : PV} {y : V} (r : Rl m.K H0 Rw O W (.shr (tow C x p (.int z :: zr) (.dic kv :: rows)) :: s1) σ H) (hn : s1.all nolS = true) (hy : Rep H Rw (Oo O W) later y) (hl : nol later = true)
    (hx : H x = some (.ins C dx (tNames.zip [v1, v2, .ref D]))) (h0 : H0 D = none) (hz : zr.all (flat 0) = true) (hr : (PV.dic kv :: rows).all nol = true) :
    ∃ vs, H D = some (.lst vs) ∧ vs.length = rows.length + 1 ∧ Rl m.K H0 Rw O W (.shr (tow C x p (.int z :: zr) (.dic kv :: rows ++ [later])) :: s1) σ (upd H D (.lst (vs ++ [y]))) := by
  obtain ⟨v0, hσ, rep⟩ := r.shr 0 _ rfl
  obtain ⟨rfl, nx, r1, r2, vs, hD, nD, r3⟩ := tow_parts hx rep
  have hvl := reps_len r3
  refine ⟨vs, hD, by rw [hvl]; rfl, ?_⟩
  have nxD : x ≠ D := ne_of hx hD (by simp)
  have rD : ¬ Rw D := fun z => nD (.inl (r.ro D z))
  have hx' : upd H D (.lst (vs ++ [y])) x = some (.ins C dx (tNames.zip [v1, v2, .ref D])) := by rw [upd_ne nxD]; exact hx
  have r2' : Rep (upd H D (.lst (vs ++ [y]))) Rw (Oo O W) (.lst (.int z :: zr)) v2 := by
    simp only [Rep] at r2 ⊢
    obtain ⟨b, us, e, hb, nb, r2⟩ := r2
    have nb2 : b ≠ D := by
      rintro rfl
      rw [hD] at hb
      cases hb
      simp only [Reps] at r2 r3
      obtain ⟨w, ws, rfl, q1, _⟩ := r2
      obtain ⟨w', ws', e', q2, _⟩ := r3
      cases e'
      simp only [Rep] at q1 q2
      obtain ⟨_, _, q2, _⟩ := q2
      rw [q1] at q2
      cases q2
    exact ⟨b, us, e, by rw [upd_ne nb2]; exact hb, nb, flat0_s (by simp only [List.all_cons, hz, Bool.and_true]; rfl) r2⟩
  have r3' : Reps (upd H D (.lst (vs ++ [y]))) Rw (Oo O W) (.dic kv :: rows ++ [later]) (vs ++ [y]) := by
    refine Reps.append (nols_upd hD hr r3) ?_
    simp only [Reps]
    exact ⟨y, [], rfl, nol_upd hD hl hy, rfl⟩
  have hall := List.all_eq_true.mp hn
  refine { len := r.len, shr := fun i v e => ?_, own := fun i v e => ?_, inj := r.inj, new := r.new, dis := r.dis, wt := fun i a h => ?_, trk := fun a h => ?_, ro := r.ro, row := fun a h => (r.row a h).wr (fun e => rD (e ▸ h)) (fun _ _ => by rw [hD]; simp), kp := fun a o e h => ?_ }
  · cases i with
    | zero =>
      simp only [List.getElem?_cons_zero, Option.some.injEq, Slt.shr.injEq] at e
      subst e
      refine ⟨_, hσ, ?_⟩
      unfold tow
      simp only [Rep] at r1 r2' ⊢
      refine ⟨x, dx, [v1, v2, .ref D], rfl, hx', nx, fun b e => by cases e; rfl, ?_⟩
      simp only [Reps, Rep]
      exact ⟨v1, _, rfl, r1, v2, _, rfl, r2', .ref D, _, rfl, ⟨D, vs ++ [y], rfl, upd_same, nD, r3'⟩, rfl⟩
    | succ i =>
      rw [List.getElem?_cons_succ] at e
      obtain ⟨w, hw, rw_⟩ := r.shr (i + 1) v (by rw [List.getElem?_cons_succ]; exact e)
      exact ⟨w, hw, nol_upd hD (hall _ (List.mem_of_getElem? e)) rw_⟩
  · cases i with
    | zero => simp at e
    | succ i =>
      rw [List.getElem?_cons_succ] at e
      obtain ⟨a, h1, h2, t⟩ := r.own (i + 1) v (by rw [List.getElem?_cons_succ]; exact e)
      exact ⟨a, h1, h2, nolT_upd hD (hall _ (List.mem_of_getElem? e)) t⟩
  · by_cases q : a = D
    · subst q; rw [upd_same]; simp
    · rw [upd_ne q]; exact r.wt i a h
  · by_cases q : a = D
    · subst q; rw [upd_same]; simp
    · rw [upd_ne q]; exact r.trk a h
  · have q : a ≠ D := ne_of_none e h0
    rw [upd_ne q]
    exact r.kp a o e h
/-- self.counts.append(later) -/
def tApp (K : PySem.W.Frag) : TS := tDrop (tBM K "list" rAppend (tFld K (tVar 0) "counts") (tCons (tVar 7) tNil))
theorem keq_str1 (a b : Nat) : keq (.str [a]) (.str [b]) = (a == b) := by
  simp only [keq]
  cases h : a == b with
  | true => rw [eq_of_beq h]; simp
  | false => simpa using h
theorem dget_put1 {c : Nat} {v : PV} (c' : Nat) : ∀ D : List (PV × PV), dget (.str [c']) (dput (.str [c]) v D) = if c = c' then some v else dget (.str [c']) D := by
  have key : ∀ k : PV, keq k (.str [c]) = true → k = .str [c] := fun k h => by
    cases k <;> simp [keq] at h
    rw [h]
  have hmap : ∀ D : List (PV × PV), dget (.str [c']) (D.map fun e => if keq e.1 (.str [c]) = true then (e.1, v) else e) = if c = c' then (if (D.any fun e => keq e.1 (.str [c])) = true then some v else none) else dget (.str [c']) D := by
    intro D
    induction D with
    | nil => simp [dget]
    | cons e r ih =>
      obtain ⟨k, x⟩ := e
      rw [List.map_cons, List.any_cons]
      cases h1 : keq k (.str [c]) with
      | true =>
        have := key k h1
        subst this
        simp only [if_true, Bool.true_or, dget]
        rw [keq_str1]
        by_cases hcc : c = c'
        · subst hcc; simp
        · have : (c == c') = false := by simpa using hcc
          rw [this]; simp only [Bool.false_eq_true, if_false, if_neg hcc]
          rw [ih, if_neg hcc]
      | false =>
        simp only [Bool.false_eq_true, if_false, Bool.false_or, dget]
        by_cases hcc : c = c'
        · subst hcc
          rw [h1, ih]; simp
        · rw [ih, if_neg hcc, if_neg hcc]
  intro D
  unfold dput
  split
  · rename_i h
    rw [hmap D, h]; simp
  · rename_i h
    have app : ∀ D : List (PV × PV), (D.any fun e => keq e.1 (.str [c])) = false → dget (.str [c']) (D ++ [(.str [c], v)]) = if c = c' then some v else dget (.str [c']) D := by
      intro D
      induction D with
      | nil =>
        intro _
        simp only [List.nil_append, dget, keq_str1]
        by_cases hcc : c = c'
        · subst hcc; simp
        · simp [hcc]
      | cons e r ih =>
        intro hh
        obtain ⟨k, x⟩ := e
        simp only [List.any_cons, Bool.or_eq_false_iff] at hh
        simp only [List.cons_append, dget]
        cases h1 : keq k (.str [c']) with
        | true =>
          simp only [if_true]
          have hk : k = .str [c'] := by cases k <;> simp [keq] at h1; rw [h1]
          subst hk
          rw [keq_str1] at hh
          have : ¬ c = c' := fun z => by subst z; simp at hh
          rw [if_neg this]
        | false =>
          simp only [Bool.false_eq_true, if_false]
          exact ih hh.2
    exact app D (by simpa using h)
theorem flat_put {c : Nat} {i : Int} {D : List (PV × PV)} (h : D.all (fun e => flat 0 e.1 && flat 0 e.2) = true) : (dput (.str [c]) (.int i) D).all (fun e => flat 0 e.1 && flat 0 e.2) = true := by
  have hall := List.all_eq_true.mp h
  unfold dput
  split
  · rw [List.all_eq_true]
    intro e he
    obtain ⟨e', h1, rfl⟩ := List.mem_map.mp he
    have := hall e' h1
    simp only [Bool.and_eq_true] at this
    split
    · rw [this.1]; rfl
    · rw [this.1, this.2]; rfl
  · rw [List.all_append, h]; rfl
theorem len_put {k v : PV} {D : List (PV × PV)} : (dput k v D).length ≤ D.length + 1 := by
  unfold dput
  split
  · rw [List.length_map]; omega
  · rw [List.length_append]; simp
theorem LastOk.put {last : List (Nat × Nat)} {D : List (PV × PV)} {n c : Nat} (h : LastOk last D (n + 1)) : LastOk ((c, n) :: last) (dput (.str [c]) (.int (n : Nat)) D) (n + 2) := by
  refine ⟨fun c' => ?_, fun c' k hk => ?_, ?_, flat_put h.flat⟩
  · rw [dget_put1, List.lookup_cons]
    by_cases e : c = c'
    · subst e; simp
    · have : (c' == c) = false := by simpa using fun z => e z.symm
      rw [if_neg e, this]; exact h.get c'
  · rw [List.lookup_cons] at hk
    by_cases e : (c' == c) = true
    · rw [e] at hk; cases hk; omega
    · have : (c' == c) = false := by simpa using e
      rw [this] at hk
      have := h.lt c' k hk; omega
  · have := len_put (k := .str [c]) (v := .int (n : Nat)) (D := D); have := h.len; omega
end
end Ev
set_option autoImplicit false
set_option linter.all false
set_option Elab.async false
set_option maxRecDepth 100000
/-! Ev15d: the making of a Tower: a turn, the loop, the whole. -/
namespace Ev
open PySem PySem.Spec PyProof.Rows L2
section
variable {m : Md} {c : Cc} {fr : Bool} {H0 H : Hp} {Rw O : AP1} {W : Nat → Option Addr} {σ : L2.St}
def five (r : List Int) : Prop := ∃ a b d e f, r = [a, b, d, e, f]
theorem kpx {x : Addr} {W : Nat → Option Addr} {H H' : Hp} {o : HO} (hx : H x = some o) (n : ¬ Oo O W x) (k : Kp (Oo O W) H H') : H' x = some o := k x o hx (.inl n)
theorem oo_in {W W' : Nat → Option Addr} {H : Hp} {x : Addr} {o : HO} (g : ∀ a, Oo O W' a → Oo O W a ∨ H a = none) (n : ¬ Oo O W x) (hx : H x = some o) : ¬ Oo O W' x := fun z => (g x z).elim n fun e => by rw [hx] at e; cases e
theorem seti_ev {gl : Nat → Option PV} {cl : Nat → List PV → Res PV} {Dd : List (PV × PV)} {v : PV} {k : List Nat} {a b e5 e6 e7 e8 e9 : Slt} (hlt : Dd.length < lim) :
    exS gl cl [a, b, .own (.dic Dd), .shr v, .shr (.str k), e5, e6, e7, e8, e9] (.seti 2 (.var 4) (.var 3)) = .ok (.next, [a, b, .own (.dic (dput (.str k) v Dd)), .shr v, .shr (.str k), e5, e6, e7, e8, e9]) := by
  simp [exS, evE, getS, Slt.shr?, Slt.own?, setAt, isKey, hlt]
theorem turn {t1 t2 t3 t4 t6 : TS} {g gL C x dx Dc ch n : Nat} {p : List Nat} {z : Int} {zr : List PV} {rows : List (List Int)} {last : List (Nat × Nat)} {Dd : List (PV × PV)} {v1 v2 : V} {s5 s6 s7 s8 s9 : Slt}
    (g1 : GS m fr (iNow g) t1) (g2 : GS m fr (iLess g) t2) (g3 : GS m fr (.own 7 .dic0) t3) (g4 : GS m fr (iFor gL) t4) (g6 : GS m fr (.seti 2 (.var 4) (.var 3)) t6)
    (hgl : m.gl g = some (.int (C : Nat))) (hgL : m.gl gL = some (.str abc)) (hcls : Cls m.K C) (hna : NoAttr m.K C "counts")
    (hr : rows.length = n + 1) (hf : ∀ r ∈ rows, five r) (hch : 97 ≤ ch ∧ ch ≤ 101) (hL : LastOk last Dd rows.length) (hlen : n ≤ 100000)
    (hx : H x = some (.ins C dx (tNames.zip [v1, v2, .ref Dc]))) (h0 : H0 Dc = none) (hz : zr.all (flat 0) = true) (hn : [s5, s6, s7, s8, s9].all nolS = true)
    (r : Rl m.K H0 Rw O W [.shr (tow C x p (.int z :: zr) (rows.map rowD)), .shr (.str p), .own (.dic Dd), .shr (.int (n : Nat)), .shr (.str [ch]), s5, s6, s7, s8, s9] σ H) {Dn : Ends}
    (q : ∀ W' σ' H' s5' s6' s7' s8' s9', Rl m.K H0 Rw O W' [.shr (tow C x p (.int z :: zr) ((rows ++ [rowN ch (rows.getLast?.getD []) ((last.lookup ch).bind fun p => rows[p]?)]).map rowD)), .shr (.str p), .own (.dic (dput (.str [ch]) (.int (n : Nat)) Dd)), .shr (.int (n : Nat)), .shr (.str [ch]), s5', s6', s7', s8', s9'] σ' H' →
      [s5', s6', s7', s8', s9'].all nolS = true → H' x = H x → Kp (fun a => Oo O W a ∨ a = Dc) H H' → (∀ a, Oo O W' a → Oo O W a ∨ H a = none) → Dn.nx σ' H') :
    tSeq t1 (tSeq t2 (tSeq t3 (tSeq t4 (tSeq (tApp m.K) (tSeq t6 tNext))))) Dn σ H := by
  have hne : rows ≠ [] := fun e => by rw [e] at hr; simp at hr
  have five_last : ∃ a b c d e, rows.getLast?.getD [] = [a, b, c, d, e] := by
    rw [List.getLast?_eq_getLast hne]
    exact hf _ (List.getLast_mem hne)
  have five_less : ∀ l, ((last.lookup ch).bind fun p => rows[p]?) = some l → ∃ a b c d e, l = [a, b, c, d, e] := fun l hl => by
    obtain ⟨k, _, h2⟩ := Option.bind_eq_some_iff.mp hl
    exact hf l (List.mem_of_getElem? h2)
  obtain ⟨v0, _, rep0⟩ := r.shr 0 _ rfl
  obtain ⟨_, nx0, _, _, _, hD0, nD0, _⟩ := tow_parts hx rep0
  generalize hnow : rows.getLast?.getD [] = now at *
  generalize hless : ((last.lookup ch).bind fun p => rows[p]?) = less at *
  refine run1 g1 r (by rw [now_ev hgl hne, hnow]) fun W1 σ1 H1 r1 k1 w1 => ?_
  have hx1 := kpx hx nx0 k1
  have nx1 := oo_in w1 nx0 hx
  refine run1 g2 r1 (by rw [less_ev hgl hL, hless]) fun W2 σ2 H2 r2 k2 w2 => ?_
  have hx2 := kpx hx1 nx1 k2
  have nx2 := oo_in w2 nx1 hx1
  refine run1 g3 r2 (by simp only [exS, evE, Res.ok_bind]; rfl) fun W3 σ3 H3 r3 k3 w3 => ?_
  have hx3 := kpx hx2 nx2 k3
  have nx3 := oo_in w3 nx2 hx2
  obtain ⟨zn, e4⟩ := inner_ev (gl := m.gl) (cl := m.cl) hgL hch five_last five_less (.shr (tow C x p (.int z :: zr) (rows.map rowD))) (.shr (.str p)) (.own (.dic Dd)) (.shr (.int (n : Nat))) s8 s9
  refine run1 g4 r3 e4 fun W4 σ4 H4 r4 k4 w4 => ?_
  have hx4 := kpx hx3 nx3 k4
  have nx4 := oo_in w4 nx3 hx3
  -- the row is handed over
  have rf := r4.frz (i := 7) rfl
  have subf : ∀ a, Oo O (wSet W4 7 none) a → Oo O W4 a := fun a q => q.imp id fun ⟨j, h⟩ => ⟨j, (wSet_none h).2⟩
  obtain ⟨y, hy, ry⟩ := rf.shr 7 (rowD (rowN ch now less)) rfl
  have all1 : (rows.map rowD).all nol = true := by rw [List.all_map, List.all_eq_true]; intro r _; exact rowD_nol r
  obtain ⟨r0, rr, rfl⟩ : ∃ r0 rr, rows = r0 :: rr := by
    cases rows with
    | nil => exact absurd rfl hne
    | cons a b => exact ⟨a, b, rfl⟩
  simp only [List.all_cons, List.all_nil, Bool.and_true, Bool.and_eq_true] at hn
  have hdn : nol (.dic Dd) = true := hL.flat
  have hlessn : nol (lessP less) = true := by
    cases less with
    | none => rfl
    | some l => exact rowD_nol l
  have nolrest : ([.shr (.str p), .own (.dic Dd), .shr (.int (n : Nat)), .shr (.str [ch]), .shr (rowD now), .shr (lessP less), .shr (rowD (rowN ch now less)), .shr (.str [101]), .shr (.int zn)] : Stt).all nolS = true := by
    simp only [List.all_cons, List.all_nil, nolS, Bool.and_true, Bool.and_eq_true]
    exact ⟨rfl, hdn, rfl, rfl, rowD_nol _, hlessn, rowD_nol _, rfl, rfl⟩
  obtain ⟨vs, hD, hvl, ra⟩ := Rl_app rf (kv := ((([97, 98, 99, 100, 101] : List Nat).map fun c => PV.str [c]).zip (r0.map .int))) (rows := rr.map rowD) nolrest ry (rowD_nol _) hx4 h0 hz all1
  obtain ⟨v0', hσ0, rep0'⟩ := rf.shr 0 _ rfl
  obtain ⟨ev0, nxf, _, _, _, hDf, nDf, _⟩ := tow_parts hx4 rep0'
  rw [ev0] at hσ0
  refine ⟨.ref x, hσ0, x, C, dx, _, .ref Dc, rfl, hx4, hcls, hna, rfl, ?_⟩
  refine ⟨.inl ⟨rfl, vs, SqL.of hD⟩, y, hy, Dc, vs, y, rfl, rfl, hD, ?_, ?_⟩
  · rw [hvl, List.length_map]
    have : rr.length = n := by simpa using hr
    have : sizeLine = 2 ^ 24 := rfl
    omega
  have hx5 : upd H4 Dc (.lst (vs ++ [y])) x = some (.ins C dx (tNames.zip [v1, v2, .ref Dc])) := by rw [upd_ne (ne_of hx4 hD (by simp))]; exact hx4
  have k14 : Kp (fun a => Oo O W a ∨ a = Dc) H (upd H4 Dc (.lst (vs ++ [y]))) := by
    intro a o ea h
    have e1 := k1 a o ea (h.imp (fun q z => q (.inl z)) id)
    have n1 : ¬ Oo O W1 a ∨ ∃ ws, o = .tup ws := h.imp (fun q z => (w1 a z).elim (fun z => q (.inl z)) fun e => by rw [ea] at e; cases e) id
    have e2 := k2 a o e1 n1
    have n2 : ¬ Oo O W2 a ∨ ∃ ws, o = .tup ws := n1.imp (fun q z => (w2 a z).elim q fun e => by rw [e1] at e; cases e) id
    have e3 := k3 a o e2 n2
    have n3 : ¬ Oo O W3 a ∨ ∃ ws, o = .tup ws := n2.imp (fun q z => (w3 a z).elim q fun e => by rw [e2] at e; cases e) id
    have e4 := k4 a o e3 n3
    have ne : a ≠ Dc := by
      rcases h with h | ⟨ws, rfl⟩
      · exact fun e => h (.inr e)
      · exact ne_of e4 hD (by simp)
    rw [upd_ne ne]; exact e4
  have wAll : ∀ a, Oo O (wSet W4 7 none) a → Oo O W a ∨ H a = none := fun a za => by
    rcases w4 a (subf a za) with z4 | z4
    · rcases w3 a z4 with z3 | z3
      · rcases w2 a z3 with z2 | z2
        · exact w1 a z2
        · refine (Classical.em (Oo O W a)).imp id fun nn => ?_
          cases e : H a with
          | none => rfl
          | some o => rw [k1 a o e (.inl nn)] at z2; cases z2
      · refine (Classical.em (Oo O W a)).imp id fun nn => ?_
        cases e : H a with
        | none => rfl
        | some o =>
          have e1 := k1 a o e (.inl nn)
          rw [k2 a o e1 (.inl fun z => (w1 a z).elim nn fun e' => by rw [e] at e'; cases e')] at z3; cases z3
    · refine (Classical.em (Oo O W a)).imp id fun nn => ?_
      cases e : H a with
      | none => rfl
      | some o =>
        have e1 := k1 a o e (.inl nn)
        have n1 : ¬ Oo O W1 a := fun z => (w1 a z).elim nn fun e' => by rw [e] at e'; cases e'
        have e2 := k2 a o e1 (.inl n1)
        have n2 : ¬ Oo O W2 a := fun z => (w2 a z).elim n1 fun e' => by rw [e1] at e'; cases e'
        rw [k3 a o e2 (.inl n2)] at z4; cases z4
  have nxg : ¬ Oo O (wSet W4 7 none) x := fun z => nx4 (subf x z)
  have hlt : Dd.length < lim := by have h1 := hL.len; have : lim = 16777216 := rfl; rw [hr] at h1; omega
  refine run1 g6 ra (s' := [.shr (tow C x p (.int z :: zr) (((r0 :: rr) ++ [rowN ch now less]).map rowD)), .shr (.str p), .own (.dic (dput (.str [ch]) (.int (n : Nat)) Dd)), .shr (.int (n : Nat)), .shr (.str [ch]), .shr (rowD now), .shr (lessP less), .shr (rowD (rowN ch now less)), .shr (.str [101]), .shr (.int zn)]) ?_ fun W6 σ6 H6 r6 k6 w6 => ?_
  · have := seti_ev (gl := m.gl) (cl := m.cl) (v := .int (n : Nat)) (k := [ch]) (a := .shr (tow C x p (.int z :: zr) (((r0 :: rr) ++ [rowN ch now less]).map rowD))) (b := .shr (.str p)) (e5 := .shr (rowD now)) (e6 := .shr (lessP less)) (e7 := .shr (rowD (rowN ch now less))) (e8 := .shr (.str [101])) (e9 := .shr (.int zn)) hlt
    rw [← this, List.map_append]
    rfl
  · have hx6 := kpx hx5 nxg k6
    refine q W6 σ6 H6 _ _ _ _ _ r6 ?_ (by rw [hx6, hx]) (fun a o ea h => ?_) fun a za => ?_
    · simp only [List.all_cons, List.all_nil, nolS, Bool.and_true, Bool.and_eq_true]
      exact ⟨rowD_nol _, hlessn, rowD_nol _, rfl, rfl⟩
    · have e5 := k14 a o ea h
      exact k6 a o e5 (h.imp (fun q z => (wAll a z).elim (fun z => q (.inl z)) fun e => by rw [ea] at e; cases e) id)
    · rcases w6 a za with z6 | z6
      · exact wAll a z6
      · refine (Classical.em (Oo O W a)).imp id fun nn => ?_
        cases e : H a with
        | none => rfl
        | some o =>
          by_cases ne : a = Dc
          · subst ne; rw [upd_same] at z6; cases z6
          · rw [k14 a o e (.inl fun z => z.elim nn ne)] at z6; cases z6
end
end Ev
set_option autoImplicit false
set_option linter.all false
set_option Elab.async false
set_option maxRecDepth 100000
/-! Ev15e: the making of a Tower: the loop, the whole. -/
namespace Ev
open PySem PySem.Spec PyProof.Rows L2
def iTg : CT := .tp (.cons (.nm 3) (.cons (.nm 4) .nil))
theorem enum_letters (k : Nat) : ∀ (p : List Nat) (i : Nat), (h : i < p.length) → (enumL (k : Nat) (p.map fun c => PV.str [c]))[i]? = some (.tup [.int ((k + i : Nat) : Int), .str [p[i]]])
  | [], i, h => by simp at h
  | c :: r, 0, h => by simp [enumL]
  | c :: r, i + 1, h => by
    simp only [List.map_cons, enumL, List.getElem?_cons_succ]
    have := enum_letters (k + 1) r i (by simpa using h)
    rw [show ((k : Int) + 1) = ((k + 1 : Nat) : Int) by omega, this]
    simp only [List.getElem_cons_succ]
    rw [show k + 1 + i = k + (i + 1) by omega]
section
variable {m : Md} {c : Cc} {H0 H : Hp} {Rw O : AP1} {W : Nat → Option Addr} {σ : L2.St}
theorem loop_ok {wi : TI} {tg : TG} {t1 t2 t3 t4 t6 : TS} {g gL C x dx Dc : Nat} {p : List Nat} {z : Int} {zr : List PV} {v1 v2 : V}
    (gi : ∀ (H0 : Hp) (Rw O : AP1) (W : Nat → Option Addr) (s : Stt) (σ : L2.St) (H : Hp) (R : It → Hp → Prop), Rl m.K H0 Rw O W s σ H →
      (evR m.gl m.cl s (.enum (.var 1))).wp (fun xs => ∀ J H1, Kp Rw H H1 → Rws m.K Rw H1 → WkOk (rawR (.enum (.var 1))) Rw (Oo O W) J H1 xs → R J H1) No → wi σ H R)
    (gg : GG m iTg tg) (g1 : GS m false (iNow g) t1) (g2 : GS m false (iLess g) t2) (g3 : GS m false (.own 7 .dic0) t3) (g4 : GS m false (iFor gL) t4) (g6 : GS m false (.seti 2 (.var 4) (.var 3)) t6)
    (hgl : m.gl g = some (.int (C : Nat))) (hgL : m.gl gL = some (.str abc)) (hcls : Cls m.K C) (hna : NoAttr m.K C "counts")
    (hp : ∀ c ∈ p, 97 ≤ c ∧ c ≤ 101) (hlen : p.length ≤ 100000) (hx : H x = some (.ins C dx (tNames.zip [v1, v2, .ref Dc]))) (h0 : H0 Dc = none) (hz : zr.all (flat 0) = true)
    (ra : Rl m.K H0 Rw (Ad O Dc) W [.no, .shr (.str p), .own (.dic []), .no, .no, .no, .no, .no, .no, .no] σ H)
    (rb : Rl m.K H0 Rw O W [.shr (tow C x p (.int z :: zr) ([[0, 0, 0, 0, 0]].map rowD)), .shr (.str p), .own (.dic []), .no, .no, .no, .no, .no, .no, .no] σ H) {Dn : Ends}
    (q : ∀ W' σ' H' s1, Rl m.K H0 Rw O W' (.shr (tow C x p (.int z :: zr) (twrC p)) :: s1) σ' H' → Dn.nx σ' H') :
    tFor wi tg (tSeq t1 (tSeq t2 (tSeq t3 (tSeq t4 (tSeq (tApp m.K) (tSeq t6 tNext)))))) Dn σ H := by
  have er : evR m.gl m.cl [.no, .shr (.str p), .own (.dic []), .no, .no, .no, .no, .no, .no, .no] (.enum (.var 1)) = .ok (enumL 0 (p.map fun c => PV.str [c])) := by
    simp [evR, evE, getS, Slt.shr?, items]
  refine gi H0 Rw (Ad O Dc) W _ σ H _ ra ?_
  rw [er]
  intro J H1 k1 rw1 w
  have hraw : rawR (.enum (.var 1)) = false := rfl
  rw [hraw] at w
  obtain ⟨G, Y, wk, hG, hY⟩ := w
  obtain ⟨v0, _, rep0⟩ := rb.shr 0 _ rfl
  obtain ⟨_, nx0, _, _, _, hD0, nD0, _⟩ := tow_parts hx rep0
  have hx1 : H1 x = some (.ins C dx (tNames.zip [v1, v2, .ref Dc])) := k1 x _ hx (.inl fun zz => nx0 (.inl (rb.ro x zz)))
  have R1 := rb.step k1 rw1
  have xl : (enumL 0 (p.map fun c => PV.str [c])).length = p.length := by rw [enumL_len, List.length_map]
  rw [xl] at wk
  refine for_it wk (fun i σ' H' => ∃ W' rows last Dd s3 s4 s5 s6 s7 s8 s9, Rl m.K H0 Rw O W' [.shr (tow C x p (.int z :: zr) (rows.map rowD)), .shr (.str p), .own (.dic Dd), s3, s4, s5, s6, s7, s8, s9] σ' H' ∧ [s5, s6, s7, s8, s9].all nolS = true ∧ rows.length = i + 1 ∧ (∀ r ∈ rows, five r) ∧
      LastOk last Dd rows.length ∧ rowsT rows last (p.drop i) = rowsT [[0, 0, 0, 0, 0]] [] p ∧ H' x = H1 x ∧ Kp (Oo (Ad O Dc) W) H1 H' ∧ (∀ a, Oo O W' a → Oo O W a ∨ H1 a = none))
    ⟨W, [[0, 0, 0, 0, 0]], [], [], .no, .no, .no, .no, .no, .no, .no, R1, rfl, rfl, fun r hr => by rw [List.mem_singleton.mp hr]; exact ⟨_, _, _, _, _, rfl⟩, ⟨fun c => rfl, fun c k h => by simp at h, by simp, rfl⟩, by rw [List.drop_zero], rfl, Kp.refl, fun _ zz => .inl zz⟩
    (fun i σ' H' hi zz => by obtain ⟨_, _, _, _, _, _, _, _, _, _, _, _, _, _, _, _, _, _, k', _⟩ := zz; exact hG H' k') ?_ ?_
  · rintro i xv σ' Hh Hy hi ⟨W', rows, last, Dd, s3, s4, s5, s6, s7, s8, s9, r', hn, hr, hf, hL, hT, hxe, k', g'⟩ y
    obtain ⟨same, hxi⟩ := hY i Hh xv Hy (by rw [xl]; exact hi) (hG Hh k') y
    have rx := hxi (Oo O W') _ (enum_letters 0 p i hi) k' (fun b zb => (g' b zb).imp (fun zz => zz.imp .inl id) id)
    rw [Nat.zero_add] at rx
    have kS : Kp Rw Hh Hy := fun a o e _ => same a o e
    have rwS : Rws m.K Rw Hy := r'.row.same kS fun a zz => by
      obtain ⟨_, _, _, _, _, e, _⟩ := r'.row a zz
      rw [e]; exact same _ _ e
    have r2 := r'.step kS rwS
    have hxh : Hh x = some (.ins C dx (tNames.zip [v1, v2, .ref Dc])) := hxe.trans hx1
    have hxy : Hy x = some (.ins C dx (tNames.zip [v1, v2, .ref Dc])) := same x _ hxh
    have kHy : Kp (Oo (Ad O Dc) W) H1 Hy := k'.trans fun a o e _ => same a o e
    refine gg H0 Rw O W' _ [.shr (tow C x p (.int z :: zr) (rows.map rowD)), .shr (.str p), .own (.dic Dd), .shr (.int (i : Nat)), .shr (.str [p[i]]), s5, s6, s7, s8, s9] σ' Hy _ xv _ r2 rx (by simp [iTg, bindT, bindTs]) fun σ2 r3 _ => ?_
    refine turn (n := i) g1 g2 g3 g4 g6 hgl hgL hcls hna hr hf (hp _ (List.getElem_mem hi)) hL (by omega) hxy h0 hz hn r3 fun W2 σ3 H3 s5' s6' s7' s8' s9' r4 hn4 hx4 k4 w4 => ?_
    refine ⟨W2, _, (p[i], i) :: last, _, _, _, _, _, _, _, _, r4, hn4, by rw [List.length_append, hr]; rfl, fun r hrr => ?_, ?_, ?_, by rw [hx4, hxy, hx1], fun a o ea h => ?_, fun a za => ?_⟩
    · rcases List.mem_append.mp hrr with h | h
      · exact hf r h
      · rw [List.mem_singleton.mp h]; exact rowN_five _ _ _
    · rw [List.length_append, hr]
      rw [hr] at hL
      exact hL.put
    · rw [← hT, List.drop_eq_getElem_cons hi]
      simp only [rowsT]
      rw [hr, Nat.add_sub_cancel]
    · have e1 := kHy a o ea h
      refine k4 a o e1 (h.imp (fun nq zz => ?_) id)
      rcases zz with zz | zz
      · rcases g' a zz with z1 | z1
        · exact nq (z1.imp .inl id)
        · rw [ea] at z1; cases z1
      · exact nq (.inl (.inr zz))
    · rcases w4 a za with z1 | z1
      · exact g' a z1
      · refine (Classical.em (Oo O W a)).imp id fun nn => ?_
        cases e : H1 a with
        | none => rfl
        | some o =>
          by_cases ne : a = Dc
          · subst ne
            obtain ⟨v0', _, rep0'⟩ := r'.shr 0 _ rfl
            obtain ⟨_, _, _, _, _, hDh, _⟩ := tow_parts hxh rep0'
            rw [same _ _ hDh] at z1; cases z1
          · rw [kHy a o e (.inl fun zz => zz.elim (fun z2 => z2.elim (fun z3 => nn (.inl z3)) ne) fun z2 => nn (.inr z2))] at z1; cases z1
  · rintro σ' H' ⟨W', rows, last, Dd, s3, s4, s5, s6, s7, s8, s9, r', hn, hr, hf, hL, hT, _⟩
    rw [List.drop_length] at hT
    simp only [rowsT] at hT
    refine q W' σ' H' [.shr (.str p), .own (.dic Dd), s3, s4, s5, s6, s7, s8, s9] ?_
    unfold twrC
    rw [← hT]
    exact r'
/-- dict(..) of pairs -/
def rDictP (K : PySem.W.Frag) : List V → Hp → VK → Prop := fun xs H Q => ∃ (a : Addr) (ps : List Addr) (kvs : List (Key × V)), xs = [.ref a] ∧ SqL K H a (ps.map V.ref) ∧ Paired (fun p kv => SqT K H p [kV kv.1, kv.2]) ps kvs ∧
    ∀ p, H p = none → Q (.ref p) (upd H p (.dK (mergeK [] kvs)))
def kv0 (cs : List Nat) : List (Key × V) := cs.map fun c => (.inr (toStr [c]), V.int 0)
theorem pairs_reps {K : PySem.W.Frag} {H : Hp} {Rw O : AP1} : ∀ {cs : List Nat} {vs : List V}, Reps H Rw O (cs.map fun c => PV.tup [.str [c], .int 0]) vs → ∃ ps : List Addr, vs = ps.map V.ref ∧ Paired (fun p kv => SqT K H p [kV kv.1, kv.2]) ps (kv0 cs)
  | [], _, h => by simp only [List.map_nil, Reps] at h; subst h; exact ⟨[], rfl, .nil⟩
  | c :: r, _, h => by
    simp only [List.map_cons, Reps] at h
    obtain ⟨w, ws, rfl, q, h⟩ := h
    obtain ⟨ps, rfl, hp⟩ := pairs_reps (K := K) h
    simp only [Rep, Reps] at q
    obtain ⟨a, us, rfl, ha, w1, _, rfl, ⟨rfl, _⟩, w2, _, rfl, rfl, rfl⟩ := q
    exact ⟨a :: ps, rfl, .cons (SqT.of ha) hp⟩
theorem merge0 : mergeK [] (kv0 abc) = kv0 abc := by kernel_rfl
theorem okS1 {c : Nat} (h : c < 1114112) : OkS [c] := ⟨(by decide : 1 ≤ sizeLine), fun d hd => by rw [List.mem_singleton.mp hd]; exact h⟩
theorem rep0 {H : Hp} {Rw O : AP1} : RepsK H Rw O (abc.map fun c => (PV.str [c], PV.int 0)) (kv0 abc) := by
  unfold kv0 abc
  simp only [List.map_cons, List.map_nil, RepsK]
  exact ⟨_, _, _, rfl, r_str (okS1 (by decide)), r_int 0, _, _, _, rfl, r_str (okS1 (by decide)), r_int 0, _, _, _, rfl, r_str (okS1 (by decide)), r_int 0, _, _, _, rfl, r_str (okS1 (by decide)), r_int 0, _, _, _, rfl, r_str (okS1 (by decide)), r_int 0, rfl⟩
theorem comp_ev {gl : Nat → Option PV} {cl : Nat → List PV → Res PV} {gL : Nat} (h : gl gL = some (.str abc)) (a b d e f g' i j k l : Slt) :
    evE gl cl [a, b, d, e, f, g', i, j, k, l] (iComp gL) = .ok (.lst (abc.map fun c => PV.tup [.str [c], .int 0])) := by
  simp only [iComp, evE, evR, h, Res.ofO_some, Res.ok_bind]
  kernel_rfl
/-- the heap without x -/
def hide (x : Addr) (H : Hp) : Hp := fun a => if a = x then none else H a
theorem ini_sem {wi : TI} {tg : TG} {ts tc t0 : TE} {t1 t2 t3 t4 t6 : TS} {g gL fl' C x dx : Nat} {v : V}
    (gs : GE m (.call fl' (.cons (.var 1) .nil)) ts) (gc : GE m (iComp gL) tc) (g0 : GE m .dic0 t0)
    (gi : ∀ (H0 : Hp) (Rw O : AP1) (W : Nat → Option Addr) (s : Stt) (σ : L2.St) (H : Hp) (R : It → Hp → Prop), Rl m.K H0 Rw O W s σ H →
      (evR m.gl m.cl s (.enum (.var 1))).wp (fun xs => ∀ J H1, Kp Rw H H1 → Rws m.K Rw H1 → WkOk (rawR (.enum (.var 1))) Rw (Oo O W) J H1 xs → R J H1) No → wi σ H R)
    (gg : GG m iTg tg) (g1 : GS m false (iNow g) t1) (g2 : GS m false (iLess g) t2) (g3 : GS m false (.own 7 .dic0) t3) (g4 : GS m false (iFor gL) t4) (g6 : GS m false (.seti 2 (.var 4) (.var 3)) t6)
    (hgl : m.gl g = some (.int (C : Nat))) (hgL : m.gl gL = some (.str abc)) (hcls : Cls m.K C) (hna : ∀ n ∈ tNames, NoAttr m.K C n)
    (hx : H x = some (.ins C dx [])) (nx : ¬ O x) (trk : ∀ a, O a → H a ≠ none) (ro : ∀ a, Rw a → O a) (row : Rws m.K Rw H) {P : PV} (rp : Rep H Rw (Ad O x) P v) {Dn : Ends} {Q : VK} (hD : ∀ σ' H', Q .non H' → Dn.nx σ' H')
    (q : (m.cl fl' [P] >>= fun z => Res.ofO (twrP (m.gl g) P z)).wp (fun q => ∀ H', Kp (fun a => Rw a ∨ a = x) H H' → Rws m.K Rw H' → Rep H' Rw O q (.ref x) → Q .non H') No) :
    tSeq (sFld m.K (tVar 0) (tVar 1) "letters") (tSeq (sFld m.K (tVar 0) ts "sizes") (tSeq (sFld m.K (tVar 0) (tLst (tCons (tCB (rDictP m.K) (tCons tc tNil)) tNil)) "counts") (tSeq (tAsg t0 (gName 2))
      (tSeq (tFor wi tg (tSeq t1 (tSeq t2 (tSeq t3 (tSeq t4 (tSeq (tApp m.K) (tSeq t6 tNext))))))) tNext)))) Dn (L2.start tN [.ref x, v]) H := by
  have rx : ¬ Rw x := fun z => nx (ro x z)
  have s0 : (L2.start tN [V.ref x, v])[0]? = some (some (.ref x)) := rfl
  have s1 : (L2.start tN [V.ref x, v])[1]? = some (some v) := rfl
  have a1 := hna "letters" (by simp [tNames])
  have a2 := hna "sizes" (by simp [tNames])
  have a3 := hna "counts" (by simp [tNames])
  refine ⟨v, s1, .ref x, s0, x, C, dx, [], rfl, hx, hcls, a1, by decide, ?_⟩
  -- behind the first
  have ne_of_x : ∀ a, O a → a ≠ x := fun a z e => nx (e ▸ z)
  have k1 : Kp (fun a => Rw a ∨ a = x) H (upd H x (.ins C dx (putF "letters" v []))) := fun a o e h => by
    rcases h with h | ⟨ws, rfl⟩
    · rw [upd_ne fun z => h (.inr z)]; exact e
    · rw [upd_ne (ne_of e hx (by simp))]; exact e
  have kO : Kp (Ad O x) H (upd H x (.ins C dx (putF "letters" v []))) := k1.mono fun a z => z.imp (ro a) id
  have rp1 : Rep (upd H x (.ins C dx (putF "letters" v []))) Rw O P v := (rp.kp kO).sub fun a z => .inl z
  have mkRl : ∀ (H1 : Hp) (s : Stt), Kp (fun a => Rw a ∨ a = x) H H1 → Rws m.K Rw H1 → (s = [.no, .shr P, .no, .no, .no, .no, .no, .no, .no, .no]) → Rep H1 Rw O P v → Rl m.K (hide x H) Rw O (fun _ => none) s (L2.start tN [.ref x, v]) H1 := by
    intro H1 s k rw1 hs rp1
    subst hs
    refine { len := rfl, shr := fun i w e => ?_, own := fun i w e => ?_, inj := fun i j a h => (by cases h), new := fun i a h => (by cases h), dis := fun i a h => (by cases h), wt := fun i a h => (by cases h), trk := fun a z => ?_, ro := ro, row := rw1, kp := fun a o e h => ?_ }
    · match i with
      | 0 => simp at e
      | 1 =>
        simp only [List.getElem?_cons_succ, List.getElem?_cons_zero, Option.some.injEq, Slt.shr.injEq] at e
        subst e
        exact ⟨v, s1, rp1.sub fun a z => z.elim id fun ⟨j, h⟩ => by cases h⟩
      | i + 2 =>
        exfalso
        simp only [List.getElem?_cons_succ] at e
        have := List.mem_of_getElem? e
        simp at this
    · exfalso
      have := List.mem_of_getElem? e
      simp at this
    · by_cases hr : Rw a
      · exact (rw1 a hr).there
      · cases e : H a with
        | none => exact absurd e (trk a z)
        | some o => rw [k a o e (.inl fun zz => zz.elim hr (ne_of_x a z))]; simp
    · unfold hide at e
      split at e
      · cases e
      · rename_i hne
        exact k a o e (h.imp (fun n z => z.elim n hne) id)
  generalize hH1 : upd H x (.ins C dx (putF "letters" v [])) = H1 at k1 rp1
  have hx1 : H1 x = some (.ins C dx [("letters", v)]) := by rw [← hH1, upd_same]; rfl
  have row1 : Rws m.K Rw H1 := by rw [← hH1]; exact fun a h => (row a h).wr (fun e => rx (e ▸ h)) (fun _ _ => by rw [hx]; simp)
  have R1 := mkRl H1 _ k1 row1 rfl rp1
  have ev1 : evE m.gl m.cl [.no, .shr P, .no, .no, .no, .no, .no, .no, .no, .no] (.call fl' (.cons (.var 1) .nil)) = m.cl fl' [P] := by
    simp only [evE, evEs, getS, List.getD_cons_succ, List.getD_cons_zero, Slt.shr?, Res.ofO_some, Res.ok_bind, anyRaw, isRaw, Bool.or_false, Bool.false_and, Bool.false_eq_true, if_false]
    exact Res.bind_ok _
  refine gs (hide x H) Rw O _ _ _ H1 _ R1 ?_
  rw [ev1]
  refine Res.wp_imp (nwp q) fun zz hzz v' H2 k2 row2 f2 => ?_
  refine ⟨.ref x, s0, ?_⟩
  have f2' := FRep.clean f2 (fl_raw m.nw _ rfl)
  have oo0 : ∀ {O' : AP1}, ∀ a, Oo O' (fun _ => none) a → O' a := fun a z => z.elim id fun ⟨j, h⟩ => by cases h
  have oo1 : ∀ {O' : AP1}, ∀ a, O' a → Oo O' (fun _ => none) a := fun a z => .inl z
  have hx2 : H2 x = some (.ins C dx [("letters", v)]) := k2 x _ hx1 (.inl rx)
  refine ⟨x, C, dx, _, rfl, hx2, hcls, a2, (by decide : 1 < 1000), ?_⟩
  -- what the answer is
  rw [hgl] at hzz
  obtain ⟨p, z, zr, rfl, rfl, hp, hlen, hz, hq⟩ : ∃ p z zr, P = .str p ∧ zz = .lst (.int z :: zr) ∧ (∀ c ∈ p, 97 ≤ c ∧ c ≤ 101) ∧ p.length ≤ 100000 ∧ zr.all (flat 0) = true ∧
      (∀ H', Kp (fun a => Rw a ∨ a = x) H H' → Rws m.K Rw H' → Rep H' Rw O (.obj C none [.str p, .lst (.int z :: zr), .lst (twrC p)]) (.ref x) → Q .non H') := by
    cases e : twrP (some (.int (C : Nat))) P zz with
    | none => rw [e] at hzz; exact hzz.elim
    | some w =>
      rw [e] at hzz
      unfold twrP at e
      split at e
      · rename_i C' p z zr e1
        split at e
        · rename_i hc
          cases e
          cases e1
          simp only [Bool.and_eq_true, decide_eq_true_eq, List.all_eq_true] at hc
          exact ⟨p, z, zr, rfl, rfl, hc.1.1, hc.1.2, List.all_eq_true.mpr hc.2, hzz⟩
        · cases e
      · cases e
  clear q hzz
  generalize hH3 : upd H2 x (.ins C dx (putF "sizes" v' [("letters", v)])) = H3
  have hx3 : H3 x = some (.ins C dx [("letters", v), ("sizes", v')]) := by rw [← hH3, upd_same]; rfl
  have k13 : Kp (fun a => Rw a ∨ a = x) H1 H3 := fun a o e h => by
    have ne : a ≠ x := by
      rcases h with h | ⟨ws, rfl⟩
      · exact fun z => h (.inr z)
      · exact ne_of e hx1 (by simp)
    rw [← hH3, upd_ne ne]
    exact k2 a o e (h.imp (fun n z => n (.inl z)) id)
  have k3 := k1.trans k13
  have row3 : Rws m.K Rw H3 := by rw [← hH3]; exact fun a h => (row2 a h).wr (fun e => rx (e ▸ h)) (fun _ _ => by rw [hx2]; simp)
  have strR : ∀ (Ha Hb : Hp) (Ra Rb Oa Ob : AP1), Rep Ha Ra Oa (.str p) v → Rep Hb Rb Ob (.str p) v := fun Ha Hb Ra Rb Oa Ob h => by simp only [Rep] at h ⊢; exact h
  have R3 := mkRl H3 _ k3 row3 rfl (strR _ _ _ _ _ _ rp1)
  refine gc (hide x H) Rw O _ _ _ H3 _ R3 ?_
  rw [comp_ev hgL]
  intro b H4 k4 row4 f4
  obtain ⟨ab, rfl, hab, nab, vs, hb4, rr4⟩ := f4
  obtain ⟨ps, rfl, hps⟩ := pairs_reps (K := m.K) rr4
  refine ⟨ab, ps, kv0 abc, rfl, SqL.of hb4, hps, fun d hd => ⟨(by decide : 1 ≤ sizeLine), fun cc hcc => ?_⟩⟩
  rw [merge0] at hcc ⊢
  refine ⟨.ref x, s0, ?_⟩
  have R4 := R3.step k4 row4
  have hx4 : H4 x = some (.ins C dx [("letters", v), ("sizes", v')]) := k4 x _ hx3 (.inl rx)
  generalize hH6 : upd (upd H4 d (.dK (kv0 abc))) cc (.lst [.ref d]) = H6
  have ncd : cc ≠ d := fun e => by rw [e, upd_same] at hcc; cases hcc
  have hc4 : H4 cc = none := by rw [upd_ne ncd] at hcc; exact hcc
  have nxd : x ≠ d := ne_of_none hx4 hd
  have nxc : x ≠ cc := ne_of_none hx4 hc4
  have k46 : Kp Rw H4 H6 := by rw [← hH6]; exact (Kp.upd hd).trans (Kp.upd hcc)
  have hx6 : H6 x = some (.ins C dx [("letters", v), ("sizes", v')]) := k46 x _ hx4 (.inl rx)
  have hc6 : H6 cc = some (.lst [.ref d]) := by rw [← hH6, upd_same]
  have hd6 : H6 d = some (.dK (kv0 abc)) := by rw [← hH6, upd_ne (Ne.symm ncd), upd_same]
  have row6 : Rws m.K Rw H6 := row4.same k46 fun a h => by
    have hne : H4 a ≠ none := (row4 a h).there
    rw [← hH6, upd_ne fun e => hne (by rw [e]; exact hc4), upd_ne fun e => hne (by rw [e]; exact hd)]
  refine ⟨x, C, dx, _, rfl, hx6, hcls, a3, (by decide : 2 < 1000), ?_⟩
  generalize hH7 : upd H6 x (.ins C dx (putF "counts" (.ref cc) [("letters", v), ("sizes", v')])) = H7
  have hx7 : H7 x = some (.ins C dx (tNames.zip [v, v', .ref cc])) := by rw [← hH7, upd_same]; rfl
  have k37 : Kp (fun a => Rw a ∨ a = x) H3 H7 := fun a o e h => by
    have ne : a ≠ x := by
      rcases h with h | ⟨ws, rfl⟩
      · exact fun z => h (.inr z)
      · exact ne_of e hx3 (by simp)
    have h' : ¬ Rw a ∨ ∃ ws, o = .tup ws := h.imp (fun n z => n (.inl z)) id
    rw [← hH7, upd_ne ne]
    exact k46 a o (k4 a o e h') h'
  have k7 := k3.trans k37
  have row7 : Rws m.K Rw H7 := by rw [← hH7]; exact fun a h => (row6 a h).wr (fun e => rx (e ▸ h)) (fun _ _ => by rw [hx6]; simp)
  have hc7 : H7 cc = some (.lst [.ref d]) := by rw [← hH7, upd_ne (Ne.symm nxc)]; exact hc6
  have hd7 : H7 d = some (.dK (kv0 abc)) := by rw [← hH7, upd_ne (Ne.symm nxd)]; exact hd6
  have notO : ∀ a, H4 a = none → ¬ O a := fun a e z => R4.trk a z e
  -- the sizes, still there
  have sz7 : Rep H7 Rw O (.lst (.int z :: zr)) v' := by
    simp only [Rep] at f2' ⊢
    obtain ⟨b, us, e, hb, nb, r2⟩ := f2'
    have hfl : (PV.int z :: zr).all (flat 0) = true := by simp only [List.all_cons, hz, Bool.and_true]; rfl
    have nbx : b ≠ x := ne_of hb hx2 (by simp)
    have nbO : ¬ O b := fun zz => nb (oo1 b zz)
    have hb3 : H3 b = some (.lst us) := by rw [← hH3, upd_ne nbx]; exact hb
    refine ⟨b, us, e, ?_, nbO, flat0_s hfl r2⟩
    exact k37 b _ hb3 (.inl fun zz => zz.elim (fun q => nbO (ro b q)) nbx)
  -- the state for the walk: the new list is out of reach
  have R7 := mkRl H7 _ k7 row7 rfl (strR _ _ _ _ _ _ rp1)
  have R7a : Rl m.K (hide x H) Rw (Ad O cc) (fun _ => none) [.no, .shr (.str p), .no, .no, .no, .no, .no, .no, .no, .no] (L2.start tN [.ref x, v]) H7 :=
    { len := rfl, shr := fun i w e => by
        obtain ⟨y, h1, h2⟩ := R7.shr i w e
        match i, e with
        | 0, e => simp at e
        | 1, e =>
          simp only [List.getElem?_cons_succ, List.getElem?_cons_zero, Option.some.injEq, Slt.shr.injEq] at e
          subst e
          exact ⟨y, h1, by simp only [Rep] at h2 ⊢; exact h2⟩
        | i + 2, e =>
          exfalso
          simp only [List.getElem?_cons_succ] at e
          have := List.mem_of_getElem? e
          simp at this,
      own := fun i w e => by
        exfalso
        have := List.mem_of_getElem? e
        simp at this,
      inj := R7.inj, new := R7.new, dis := fun i a h => (by cases h), wt := R7.wt, trk := fun a h => h.elim (R7.trk a) fun e => by rw [e, hc7]; simp, ro := fun a h => .inl (ro a h), row := row7, kp := R7.kp }
  refine g0 (hide x H) Rw (Ad O cc) _ _ _ H7 _ R7a ?_
  simp only [evE, Res.wp_ok]
  intro vd H8 k8 row8 f8
  obtain ⟨O1, pd, r1, _⟩ := pd_of (o := true) R7a k8 row8 f8 rfl
  obtain ⟨W9, r9, g9⟩ := pd.put (i := 2) r1 R7a.ro
  have hx8 : H8 x = some (.ins C dx (tNames.zip [v, v', .ref cc])) := k8 x _ hx7 (.inl rx)
  have hc8 : H8 cc = some (.lst [.ref d]) := k8 cc _ hc7 (.inl fun z => notO cc hc4 (ro cc z))
  have hd8 : H8 d = some (.dK (kv0 abc)) := k8 d _ hd7 (.inl fun z => notO d hd (ro d z))
  have nW : ∀ a, H7 a ≠ none → ¬ O a → ¬ Oo O W9 a := by
    intro a ha nO zz
    rcases zz with zz | zz
    · exact nO zz
    · rcases g9 a zz with ⟨j, h⟩ | h
      · cases h
      · exact ha h
  have s09 : ((L2.start tN [V.ref x, v]).set 2 (some vd))[0]? = some (some (.ref x)) := rfl
  have sz8 : Rep H8 Rw (Oo O W9) (.lst (.int z :: zr)) v' := by
    simp only [Rep] at sz7 ⊢
    obtain ⟨b, us, e, hb, nb, r2⟩ := sz7
    have hfl : (PV.int z :: zr).all (flat 0) = true := by simp only [List.all_cons, hz, Bool.and_true]; rfl
    exact ⟨b, us, e, k8 b _ hb (.inl fun zz => nb (ro b zz)), nW b (by rw [hb]; simp) nb, flat0_s hfl r2⟩
  have rb : Rl m.K (hide x H) Rw O W9 [.shr (tow C x p (.int z :: zr) ([[0, 0, 0, 0, 0]].map rowD)), .shr (.str p), .own (.dic []), .no, .no, .no, .no, .no, .no, .no] ((L2.start tN [.ref x, v]).set 2 (some vd)) H8 :=
    { len := rfl, shr := fun i w e => by
        match i, e with
        | 0, e =>
          simp only [List.getElem?_cons_zero, Option.some.injEq, Slt.shr.injEq] at e
          subst e
          refine ⟨.ref x, s09, ?_⟩
          have r8 : Rep H8 Rw (Oo O W9) (.str p) v := strR _ _ _ _ _ _ rp1
          unfold tow
          simp only [Rep] at sz8 r8 ⊢
          refine ⟨x, dx, [v, v', .ref cc], rfl, hx8, nW x (by rw [hx7]; simp) nx, fun b e => by cases e; rfl, ?_⟩
          simp only [Reps, Rep, List.map_cons, List.map_nil]
          refine ⟨v, _, rfl, r8, v', _, rfl, sz8, .ref cc, _, rfl, ⟨cc, [.ref d], rfl, hc8, nW cc (by rw [hc7]; simp) (notO cc hc4), ?_⟩, rfl⟩
          refine ⟨.ref d, [], rfl, ?_, rfl⟩
          have : rowD [0, 0, 0, 0, 0] = .dic (abc.map fun c => (PV.str [c], PV.int 0)) := rfl
          rw [this]
          simp only [Rep]
          exact ⟨d, kv0 abc, rfl, hd8, nW d (by rw [hd7]; simp) (notO d hd), rep0⟩
        | 1, e =>
          simp only [List.getElem?_cons_succ, List.getElem?_cons_zero, Option.some.injEq, Slt.shr.injEq] at e
          subst e
          exact ⟨v, rfl, strR _ _ _ _ _ _ rp1⟩
        | i + 2, e =>
          exfalso
          simp only [List.getElem?_cons_succ] at e
          have := List.mem_of_getElem? e
          simp at this,
      own := fun i w e => by
        match i, e with
        | 0, e => simp at e
        | 1, e => simp at e
        | 2, e =>
          simp only [List.getElem?_cons_succ, List.getElem?_cons_zero, Option.some.injEq, Slt.own.injEq] at e
          subst e
          obtain ⟨aD, wD, sD, tD⟩ := r9.own 2 (.dic []) rfl
          exact ⟨aD, wD, sD, TRep.sub tD fun a zz => zz.imp .inl id⟩
        | i + 3, e =>
          exfalso
          simp only [List.getElem?_cons_succ] at e
          have := List.mem_of_getElem? e
          simp at this,
      inj := r9.inj, new := r9.new, dis := fun i a h zz => r9.dis i a h (.inl zz), wt := r9.wt, trk := fun a zz => r9.trk a (.inl zz), ro := ro, row := r9.row, kp := r9.kp }
  have h0c : hide x H cc = none := by
    unfold hide
    split
    · rfl
    · rename_i hne
      cases e : H cc with
      | none => rfl
      | some o =>
        by_cases hr : Rw cc
        · exact absurd hc4 (row4 cc hr).there
        · have := k4 cc o (k3 cc o e (.inl fun zz => zz.elim hr hne)) (.inl hr)
          rw [hc4] at this; cases this
  have fin := loop_ok (m := m) (Dn := { Dn with nx := tNext Dn }) gi gg g1 g2 g3 g4 g6 hgl hgL hcls a3 hp hlen hx8 h0c hz r9 rb (fun W' σ' H' s1 r' => by
    refine hD σ' H' (hq H' (fun a o e h => ?_) r'.row ?_)
    · have ne : a ≠ x := by
        rcases h with h | ⟨ws, rfl⟩
        · exact fun z => h (.inr z)
        · exact ne_of e hx (by simp)
      exact r'.kp a o (by unfold hide; rw [if_neg ne]; exact e) (h.imp (fun n z => n (.inl z)) id)
    · obtain ⟨v0, _, rep⟩ := r'.shr 0 _ rfl
      unfold tow at rep
      simp only [Rep] at rep ⊢
      obtain ⟨a, dx', vs', rfl, ha, n, ez, rr⟩ := rep
      obtain rfl := ez x rfl
      exact ⟨a, dx', vs', rfl, ha, nx, fun b e => (by cases e), Reps.go Kp.refl (fun a zz => .inl (.inl zz)) _ _ rr⟩)
  exact fin
end
end Ev
set_option autoImplicit false
set_option linter.all false
set_option Elab.async false
set_option maxRecDepth 100000
/-! Ev15f: the making of a Tower: its check. -/
namespace Ev
open PySem PySem.Spec PyProof.Rows L2
def chIni (nw : Nat → Bool) (c : Cc) (g gL fl' : Nat) : List Stmt → Bool
  | [.Assign [.Attribute (.Name s0 p0) f0 q0] (.Name y0 r0) w0,
     .Assign [.Attribute (.Name s1 p1) f1 q1] (.Call (.Name l1 r1) [e1] [] t1) w1,
     .Assign [.Attribute (.Name s2 p2) f2 q2] (.List [.Call (.Name d2 r2) [lc] [] t2] u2) w2,
     .Assign [.Name x3 p3] v3 w3,
     .For tg it [b1, b2, b3, b4, .Expr (.Call (.Attribute (.Attribute (.Name s5 p5) f5 q5) a5 r5) [.Name x5 y5] [] t5) w5, b6] [] w6] =>
    nmB c 0 s0 && (f0 == "letters") && nmB c 1 y0 && nmB c 0 s1 && (f1 == "sizes") && chE c (.call fl' (.cons (.var 1) .nil)) (.Call (.Name l1 r1) [e1] [] t1) && nmB c 0 s2 && (f2 == "counts") && glB c d2 && (d2 == Str.ofString "dict") && notStar lc && chE c (iComp gL) lc &&
      setB true c 2 x3 && chV c .dic0 v3 && chT (fun _ => true) c iTg tg && chR c tg (.enum (.var 1)) it && notSet it && chS nw false c (iNow g) b1 && chS nw false c (iLess g) b2 && chS nw false c (.own 7 .dic0) b3 && chS nw false c (iFor gL) b4 &&
      nmB c 0 s5 && (f5 == "counts") && (a5 == Str.ofString "append") && (r5.endLine == t5.line) && nmB c 7 x5 && chS nw false c (.seti 2 (.var 4) (.var 3)) b6
  | _ => false
section
variable {m : Md} {c : Cc}
theorem dictP_call {X : Cx} (hK : X.K = m.K) (hc : X.calm = true) : CallR X (.type "dict") (rDictP m.K) := by
  have := call_dictP hc
  rw [hK] at this
  exact this
/-- what a def computes, over what those below compute -/
def runF0 (gl : Nat → Option PV) (cl : Nat → List PV → Res PV) (d : Fn) (args : List PV) : Res PV := if args.length = d.np then (exSs gl cl (startS d args) d.body) >>= endV else .no
/-- the making, as a compact def -/
def mkFn (g fl' : Nat) : Fn := { np := 1, ns := 1, fresh := false, body := .cons (.ret (.twr g fl' (.var 0))) .nil }
theorem mkFn_run {gl : Nat → Option PV} {cl : Nat → List PV → Res PV} {g fl' : Nat} {P : PV} : runF0 gl cl (mkFn g fl') [P] = (cl fl' [P] >>= fun z => Res.ofO (twrP (gl g) P z)) := by
  unfold runF0 mkFn startS
  simp only [List.length_cons, List.length_nil, if_true, exSs, exS, evE, getS, List.map_cons, List.map_nil, Nat.sub_self, List.replicate_zero, List.append_nil, List.getD_cons_zero, Slt.shr?, Res.ofO_some, Res.ok_bind, Res.bind_assoc]
  refine congrArg _ (funext fun z => ?_)
  cases twrP (gl g) P z <;> rfl
theorem ini_ok (M : MOk m c) {g gL fl' f : Nat} {cx x qual : Str} {params : Arguments} {body : List Stmt} {a : Addr} {fd : FuncData} (F : FunD m.K x qual params body c.sc [] [] a fd) (hsc : C8.scC c.N (c.N.take 2) c.sc = true) (hN : c.N = tN)
    (ht : c.tw = some (cx, g, f)) (hgL : m.gl gL = some (.str abc)) (hch : chIni m.nw c g gL fl' body = true) {C : Addr} (hgl : m.gl g = some (.int (C : Nat))) (hcls : Cls m.K C) (hna : ∀ n ∈ tNames, NoAttr m.K C n) :
    FnOk m.P m.w m.K m.mg m.base CX0 (m.lv + 1) a fd (c.N.take 2) (spI m.K C (runF0 m.gl m.cl (mkFn g fl'))) := by
  have S := C8.fnScope_by hsc
  unfold chIni at hch
  split at hch
  · rename_i s0 p0 f0 q0 y0 r0 w0 s1 p1 f1 q1 l1 r1 e1 t1 w1 s2 p2 f2 q2 d2 r2 lc t2 u2 w2 x3 p3 v3 w3 tg it b1 b2 b3 b4 s5 p5 f5 q5 a5 r5 x5 y5 t5 w5 b6 w6
    simp only [Bool.and_eq_true, beq_iff_eq] at hch
    obtain ⟨⟨⟨⟨⟨⟨⟨⟨⟨⟨⟨⟨⟨⟨⟨⟨⟨⟨⟨⟨⟨⟨⟨⟨⟨⟨h1, rfl⟩, h3⟩, h4⟩, rfl⟩, h6⟩, h7⟩, rfl⟩, h9⟩, rfl⟩, h11⟩, h12⟩, h13⟩, h14⟩, h15⟩, h16⟩, h17⟩, h18⟩, h19⟩, h20⟩, h21⟩, h22⟩, rfl⟩, rfl⟩, h25⟩, h26⟩, h27⟩ := hch
    obtain ⟨ts, ps, gs⟩ := (chE_ok M h6).1
    obtain ⟨tc, pc, gc⟩ := (chE_ok M h12).1
    obtain ⟨t0, pz, g0⟩ := as_of M h14 h13 (pos := w3) (p := p3)
    obtain ⟨gt, pg, gg⟩ := ct_ok (m := m) h15
    obtain ⟨wi, pi, gi⟩ := chR_ok M h16
    obtain ⟨u1, v1, g1⟩ := chS_ok (fr := false) M h18
    obtain ⟨u2', v2, g2⟩ := chS_ok (fr := false) M h19
    obtain ⟨u3, v3', g3⟩ := chS_ok (fr := false) M h20
    obtain ⟨u4, v4, g4⟩ := chS_ok (fr := false) M h21
    obtain ⟨u6, v6, g6⟩ := chS_ok (fr := false) M h27
    have hp : ∀ X, DX m c X → PSs X [.Assign [.Attribute (.Name s0 p0) "letters" q0] (.Name y0 r0) w0, .Assign [.Attribute (.Name s1 p1) "sizes" q1] (.Call (.Name l1 r1) [e1] [] t1) w1, .Assign [.Attribute (.Name s2 p2) "counts" q2] (.List [.Call (.Name (Str.ofString "dict") r2) [lc] [] t2] u2) w2,
       .Assign [.Name x3 p3] v3 w3, .For tg it [b1, b2, b3, b4, .Expr (.Call (.Attribute (.Attribute (.Name s5 p5) "counts" q5) (Str.ofString "append") r5) [.Name x5 y5] [] t5) w5, b6] [] w6]
       (tSeq (sFld m.K (tVar 0) (tVar 1) "letters") (tSeq (sFld m.K (tVar 0) ts "sizes") (tSeq (sFld m.K (tVar 0) (tLst (tCons (tCB (rDictP m.K) (tCons tc tNil)) tNil)) "counts") (tSeq (tAsg t0 (gName 2))
      (tSeq (tFor wi gt (tSeq u1 (tSeq u2' (tSeq u3 (tSeq u4 (tSeq (tApp m.K) (tSeq u6 tNext))))))) tNext))))) := fun X hX => by
      have hx := hX.toXOk
      obtain ⟨a1, a2, a3, a4⟩ := hx.vis h1
      obtain ⟨b1, b2, b3, b4⟩ := hx.vis h3
      obtain ⟨c1, c2, c3, c4⟩ := hx.vis h4
      obtain ⟨d1, d2, d3, d4⟩ := hx.vis h7
      obtain ⟨e1, e2, e3, e4⟩ := hx.vis h22
      obtain ⟨i1, i2, i3, i4⟩ := hx.vis h26
      obtain ⟨j1, j2, j3⟩ := hx.glob h9
      have hdict : bootBuiltins (Str.ofString "dict") = some (.type "dict") := by decide +kernel
      refine pss_cons (by have := ps_fld (f := "letters") (pos := w0) (pos' := q0) (pe_var (pos := p0) a1 a2 a3 a4) (pe_var (pos := r0) b1 b2 b3 b4) rfl; rw [hx.K] at this; exact this) ?_
      refine pss_cons (by have := ps_fld (f := "sizes") (pos := w1) (pos' := q1) (pe_var (pos := p1) c1 c2 c3 c4) (ps X hx) rfl; rw [hx.K] at this; exact this) ?_
      refine pss_cons (by
        have hcl := pe_callTy (x := Str.ofString "dict") (p := r2) (pos := t2) (dictP_call (m := m) hx.K hx.calm) j1 (by rw [hx.mg]; exact M.bi "dict" (by simp)) hdict (pa_cons (pc X hx) pa_nil (star_cons h11)) j3 j2 (star_cons h11) rfl
        have := ps_fld (f := "counts") (pos := w2) (pos' := q2) (pe_var (pos := p2) d1 d2 d3 d4) (pe_lst (pos := u2) (pa_cons hcl pa_nil (star_cons rfl))) rfl
        rw [hx.K] at this; exact this) ?_
      refine pss_cons (pz X hX) ?_
      refine pss_cons (ps_for hX.pass hX.calm (pi X hx) (pg X hx fun x _ => hX.fn x) ?_ (fun x => fold_set h17 x)) pss_nil
      refine pss_cons (v1 X hX) (pss_cons (v2 X hX) (pss_cons (v3' X hX) (pss_cons (v4 X hX) (pss_cons ?_ (pss_cons (v6 X hX) pss_nil)))))
      have hst : ([.Name x5 y5] : List Expr).all notStar = true := rfl
      have hfl := pe_fld (f := "counts") (pos := q5) (pe_var (pos := p5) e1 e2 e3 e4) (attr_base rfl)
      rw [hx.K] at hfl
      have := pe_bm (apos := r5) (cpos := t5) PySem.F.plainAttrs_list PySem.F.slot_list_append PySem.F.type_list_append mt_append hfl (pa_cons (pe_var (pos := y5) i1 i2 i3 i4) pa_nil (star_cons rfl)) (attr_base rfl) (few_ok hst (by simp)) (by simpa using h25) (star_cons rfl) rfl
      rw [hx.K] at this
      exact ps_expr this
    refine F.ok S (fun vs H Q E h => ?_) (fun cdv A outer s H vs Q E hr h => ⟨_, PSs.nox (hp _ ?_), ?_⟩)
    · obtain ⟨x, dx, v, p, O, Rw, rfl, _⟩ := h
      rw [hN]; rfl
    · exact { prog := rfl, w := rfl, K := rfl, mg := rfl, base := rfl, N := rfl, sc := rfl, nd := S.nd, calm := rfl, room := hr, fn := fun _ => rfl, pass := PassesOwn.never, kind := S.kind }
    · obtain ⟨x, dx, v, p, O, Rw, rfl, hx, nx, trk, ro, row, rp, q⟩ := h
      rw [mkFn_run] at q
      rw [hN]
      exact ini_sem gs gc g0 gi gg g1 g2 g3 g4 g6 hgl hgL hcls hna hx nx trk ro row rp (fun σ' H' hq => hq) q
  · cases hch
end
end Ev
set_option autoImplicit false
set_option linter.all false
set_option Elab.async false
set_option maxRecDepth 100000
/-! Ev16: defs, by levels. -/
namespace Ev
open PySem PySem.Spec PyProof.Rows L2
theorem slot_get {xs : List PV} {n : Nat} {i : Nat} {q : Slt} (h : (xs.map Slt.shr ++ List.replicate n Slt.no)[i]? = some q) : q = .no ∨ ∃ p, xs[i]? = some p ∧ q = .shr p := by
  by_cases hi : i < xs.length
  · rw [List.getElem?_append_left (by simpa using hi), List.getElem?_map] at h
    cases e : xs[i]? with
    | none => rw [e] at h; cases h
    | some p => rw [e] at h; cases h; exact .inr ⟨p, rfl, rfl⟩
  · rw [List.getElem?_append_right (by simpa using hi), List.getElem?_replicate] at h
    split at h
    · cases h; exact .inl rfl
    · cases h
theorem rl_start {K : PySem.W.Frag} {H : Hp} {Rw O : AP1} {d : Fn} {N : List Str} {xs : List PV} {vs : List V} (hl : vs.length = d.np) (hn : d.ns = N.length) (hnp : d.np ≤ N.length)
    (trk : ∀ a, O a → H a ≠ none) (ro : ∀ a, Rw a → O a) (row : Rws K Rw H) (r : Reps H Rw O xs vs) : Rl K H Rw O (fun _ => none) (startS d xs) (L2.start N vs) H := by
  have hx := reps_len r
  refine ⟨?_, fun i v e => ?_, fun i v e => ?_, fun i j a h _ => (by cases h), fun i a h => (by cases h), fun i a h => (by cases h), fun i a h => (by cases h), trk, ro, row, Kp.refl⟩
  · unfold startS L2.start
    rw [List.length_append, List.length_append, List.length_map, List.length_map, List.length_replicate, List.length_replicate]
    omega
  · unfold startS at e
    rcases slot_get e with z | ⟨p, h1, h2⟩
    · cases z
    · cases h2
      obtain ⟨x, e1, rx⟩ := r.get h1
      refine ⟨x, ?_, rx.sub fun a z => z.elim id fun ⟨j, q⟩ => by cases q⟩
      have hi : i < vs.length := (List.getElem?_eq_some_iff.mp e1).1
      unfold L2.start
      rw [List.getElem?_append_left (by simpa using hi), List.getElem?_map, e1]
      rfl
  · unfold startS at e
    rcases slot_get e with z | ⟨p, h1, h2⟩
    · cases z
    · cases h2
section
variable {m : Md} {c : Cc}
/-- what a def computes, over what those below compute -/
def runF (gl : Nat → Option PV) (cl : Nat → List PV → Res PV) (d : Fn) (args : List PV) : Res PV := if args.length = d.np then (exSs gl cl (startS d args) d.body) >>= endV else .no
theorem fn_ok (M : MOk m c) {d : Fn} {x qual : Str} {params : Arguments} {body : List Stmt} {a : Addr} {fd : FuncData} (F : FunD m.K x qual params body c.sc [] [] a fd)
    (hsc : C8.scC c.N (c.N.take d.np) c.sc = true) (hnp : d.np ≤ c.N.length) (hns : d.ns = c.N.length) (hch : chSs m.nw d.fresh c d.body body = true) :
    FnOk m.P m.w m.K m.mg m.base CX0 (m.lv + 1) a fd (c.N.take d.np) (spF m.K d.fresh d.np (runF m.gl m.cl d)) := by
  have S := C8.fnScope_by hsc
  obtain ⟨t, pt, gt⟩ := chSs_ok (fr := d.fresh) M hch
  refine F.ok S (fun vs H Q E h => ?_) (fun cdv A outer s H vs Q E hr h => ⟨t, PSs.nox (pt _ ?_), ?_⟩)
  · rw [List.length_take, h.1]; omega
  · exact { prog := rfl, w := rfl, K := rfl, mg := rfl, base := rfl, N := rfl, sc := rfl, nd := S.nd, calm := rfl, room := hr, fn := fun _ => rfl, pass := PassesOwn.never, kind := S.kind }
  · obtain ⟨hl, O, Rw, xs, trk, ro, row, rp, q⟩ := h
    have hx : xs.length = d.np := by rw [← reps_len rp]; exact hl
    unfold runF at q
    rw [if_pos hx] at q
    have r := rl_start (K := m.K) (N := c.N) hl hns hnp trk ro row rp
    refine gt H Rw O _ _ _ H _ r (Res.wp_imp (nwp q) fun z hz => ?_)
    obtain ⟨f, s'⟩ := z
    cases f with
    | next =>
      rintro σ' H' ⟨W', r', k', g'⟩
      have hz' : ∀ v H', Kp Rw H H' → Rws m.K Rw H' → FRep (if d.fresh then .frs else .cln) H H' Rw O O .non v → Q v H' := hz
      refine hz' .non H' r'.kp r'.row ?_
      cases d.fresh <;> exact (show Rep _ _ _ _ _ from r_non)
    | brk => exact hz.elim
    | ret v => exact hz
end
/-! ### a program -/
/-- a def of the text: where its row stands, its names by slots, the compact one -/
structure Df where
  id : Nat
  x : Str
  params : Arguments
  body : List Stmt
  sc : Scope
  N : List Str
  fn : Fn
  q : Str := x
/-- the class of the text: its name, the numbers of it, of its making, of the letters, of the sizes; __init__; the methods -/
structure TwD where
  x : Str
  g : Nat
  f : Nat
  gL : Nat
  fl : Nat
  ini : Df
  ms : List Df
def TwD.made (t : TwD) : Df := { id := t.f, x := t.x, params := t.ini.params, body := [], sc := t.ini.sc, N := [], fn := mkFn t.g t.fl }
def allT (ds : List Df) (tw : Option TwD) : List Df := ds ++ (match tw with
  | some t => t.ms ++ [t.made]
  | none => [])
def fnT (ds : List Df) : Nat → Option Fn := fun f => (ds.find? fun d => d.id == f).map (·.fn)
def nwT (ds : List Df) : Nat → Bool := fun f => ((ds.find? fun d => d.id == f).map (·.fn.fresh)).getD false
def ctT (ds : List Df) : List (Str × Nat × Nat) := ds.map fun d => (d.x, d.id, d.fn.np)
theorem find_nodup {α : Type} {f : α → Nat} {d : α} : ∀ {l : List α}, (l.map f).Nodup → d ∈ l → l.find? (fun e => f e == f d) = some d
  | [], _, h => by cases h
  | e :: r, hn, h => by
    rw [List.map_cons, List.nodup_cons] at hn
    rcases List.mem_cons.mp h with rfl | h
    · simp
    · have ne : ¬ f e = f d := fun q => hn.1 (by rw [q]; exact List.mem_map_of_mem h)
      rw [List.find?_cons_of_neg (by simpa using ne)]
      exact find_nodup hn.2 h
def ccT (ds : List Df) (tw : Option TwD) (gc : List (Str × Nat)) (d : Df) : Cc :=
  { N := d.N, sc := d.sc, fn := ctT ds, gc := gc, tw := tw.map fun t => (t.x, t.g, t.f), mt := (match tw with
    | some t => ctT t.ms
    | none => []) }
def chD (ds : List Df) (tw : Option TwD) (gc : List (Str × Nat)) (d : Df) : Bool :=
  C8.scC d.N (d.N.take d.fn.np) d.sc && decide (d.fn.np ≤ d.N.length) && decide (d.fn.ns = d.N.length) && chSs (nwT (allT ds tw)) d.fn.fresh (ccT ds tw gc d) d.fn.body d.body
def chTw (ds : List Df) (gc : List (Str × Nat)) (t : TwD) : Bool :=
  C8.scC t.ini.N (t.ini.N.take 2) t.ini.sc && decide (t.ini.N = tN) && chIni (nwT (allT ds (some t))) (ccT ds (some t) gc t.ini) t.g t.gL t.fl t.ini.body && t.ms.all (fun d => !tNames.contains d.x && chD ds (some t) gc d)
theorem ctT_mem {ds : List Df} {x : Str} {f n : Nat} (h : (x, f, n) ∈ ctT ds) : ∃ d, d ∈ ds ∧ d.x = x ∧ d.id = f ∧ d.fn.np = n := by
  unfold ctT at h
  obtain ⟨d, hd, e⟩ := List.mem_map.mp h
  cases e
  exact ⟨d, hd, rfl, rfl, rfl⟩
/-- the module, whatever the level -/
structure Mod (P : Program) (w : World) (K : PySem.W.Frag) (mg : Str → Option Value) (base : Heap) (ds : List Df) (tw : Option TwD) (gc : List (Str × Nat)) (gl : Nat → Option PV) (lv : Nat) : Prop where
  fn : ∀ d ∈ ds, ∃ (a : Addr) (fd : FuncData), mg d.x = some (.ref a) ∧ FunD K d.x d.q d.params d.body d.sc [] [] a fd ∧ Binds K fd (d.N.take d.fn.np) []
  tk : ∃ (a : Addr) (fd : FuncData) (ps : List Str), mg "_law_taken" = some (.ref a) ∧ PySem.W.keepIn K (.ref a) = true ∧ Binds K fd ps [] ∧ FnOk P w K mg base CX0 lv a fd ps (spTk K)
  gcs : ∀ x g, (x, g) ∈ gc → ∃ (p : PV) (u : Value) (v : V), gl g = some p ∧ mg x = some u ∧ RelV v u ∧ ∀ (H : Hp) (Rw O : AP1), Rep H Rw O p v ∧ ∀ H0, FRep .frs H0 H Rw O O p v
  bi : ∀ x ∈ ["len", "sum", "all", "any", "min", "max", "sorted", "isinstance", "range", "enumerate", "zip", "int", "bool", "str", "tuple", "list", "dict", "set"], mg (Str.ofString x) = none
  ch : ds.all (chD ds tw gc) = true
  nd : ((allT ds tw).map (·.id)).Nodup
  lv1 : 1 ≤ lv
  tws : ∀ t, tw = some t → chTw ds gc t = true ∧ gl t.gL = some (.str abc) ∧ ∃ C : Addr, gl t.g = some (.int (C : Nat)) ∧ mg t.x = some (.ref C) ∧ Cls K C ∧ (∀ n ∈ tNames, NoAttr K C n) ∧
    (∀ d ∈ t.ms, ∃ (a : Addr) (fd : FuncData), Meth K C d.x a ∧ FunD K d.x d.q d.params d.body d.sc [] [] a fd ∧ Binds K fd (d.N.take d.fn.np) []) ∧
    ∃ (a : Addr) (fd : FuncData), Mk K C a ∧ FunD K t.ini.x t.ini.q t.ini.params t.ini.body t.ini.sc [] [] a fd ∧ Binds K fd (t.ini.N.take 2) []
section
variable {P : Program} {w : World} {K : PySem.W.Frag} {mg : Str → Option Value} {base : Heap} {ds : List Df} {tw : Option TwD} {gc : List (Str × Nat)} {gl : Nat → Option PV} {lv : Nat}
def mdT (P : Program) (w : World) (K : PySem.W.Frag) (mg : Str → Option Value) (base : Heap) (ds : List Df) (tw : Option TwD) (gl : Nat → Option PV) (lv l : Nat) : Md :=
  { P := P, w := w, K := K, mg := mg, base := base, gl := gl, cl := callF (fnT (allT ds tw)) gl l, nw := nwT (allT ds tw), lv := lv + 2 * l }
theorem callF_at (M : ((allT ds tw).map (·.id)).Nodup) {e : Df} (he : e ∈ allT ds tw) (l : Nat) : callF (fnT (allT ds tw)) gl (l + 1) e.id = runF gl (callF (fnT (allT ds tw)) gl l) e.fn := by
  have h2' : (allT ds tw).find? (fun d => d.id == e.id) = some e := find_nodup M he
  funext args
  have : fnT (allT ds tw) e.id = some e.fn := by unfold fnT; rw [h2']; rfl
  simp only [callF, this, runF]
theorem nw_at (M : ((allT ds tw).map (·.id)).Nodup) {e : Df} (he : e ∈ allT ds tw) : nwT (allT ds tw) e.id = e.fn.fresh := by
  have h2' : (allT ds tw).find? (fun d => d.id == e.id) = some e := find_nodup M he
  unfold nwT; rw [h2']; rfl
theorem mem_ds {e : Df} (h : e ∈ ds) : e ∈ allT ds tw := List.mem_append_left _ h
theorem mem_ms {t : TwD} {e : Df} (h : e ∈ t.ms) : e ∈ allT ds (some t) := List.mem_append_right _ (List.mem_append_left _ h)
theorem mem_made {t : TwD} : t.made ∈ allT ds (some t) := List.mem_append_right _ (List.mem_append_right _ (List.mem_singleton.mpr rfl))
theorem Mod.mok (M : Mod P w K mg base ds tw gc gl lv) (d : Df) : ∀ l : Nat, MOk (mdT P w K mg base ds tw gl lv l) (ccT ds tw gc d) := by
  have ch := List.all_eq_true.mp M.ch
  intro l
  induction l generalizing d with
  | zero =>
    refine ⟨fun x f n h => ?_, M.tk, fun x g f h => ?_, M.gcs, M.bi⟩
    · obtain ⟨e, he, rfl, rfl, rfl⟩ := ctT_mem (show (x, f, n) ∈ ctT ds from h)
      obtain ⟨a, fd, g1, F, b⟩ := M.fn e he
      refine ⟨a, fd, _, g1, F.kp, b, ⟨fun vs H Q E h => ?_, fun A outer s H args us vs Q E hr e0 hb r h => ?_⟩⟩
      · obtain ⟨_, _, _, _, _, _, _, _, q⟩ := h; exact q.elim
      · obtain ⟨_, _, _, _, _, _, _, _, q⟩ := h; exact q.elim
    · obtain ⟨t, rfl, e⟩ := Option.map_eq_some_iff.mp (show tw.map (fun t => (t.x, t.g, t.f)) = some (x, g, f) from h)
      cases e
      obtain ⟨c1, _, C, h1, h2, h3, h4, h5, ai, fdi, h6, h7, h8⟩ := M.tws t rfl
      unfold chTw at c1
      simp only [Bool.and_eq_true] at c1
      refine ⟨C, h1, h2, h3, h4, nw_at M.nd mem_made, fun y k n hm => ?_, ai, fdi, _, lv - 1, h6, h8, ?_, ⟨fun vs H Q E h => ?_, fun A outer s H args us vs Q E hr e0 hb r h => ?_⟩⟩
      · obtain ⟨e, he, rfl, rfl, rfl⟩ := ctT_mem (show (y, k, n) ∈ ctT t.ms from hm)
        obtain ⟨a, fd, g1, F, b⟩ := h5 e he
        have c2 := List.all_eq_true.mp c1.2 e he
        simp only [Bool.and_eq_true, Bool.not_eq_true'] at c2
        refine ⟨a, fd, _, g1, c2.1, b, ⟨fun vs H Q E h => ?_, fun A outer s H args us vs Q E hr e0 hb r h => ?_⟩⟩
        · obtain ⟨_, _, _, _, _, _, _, _, q⟩ := h; exact q.elim
        · obtain ⟨_, _, _, _, _, _, _, _, q⟩ := h; exact q.elim
      · have := M.lv1; show lv - 1 + 1 ≤ lv + 2 * 0; omega
      · obtain ⟨_, _, _, _, _, _, _, _, _, _, _, _, _, q⟩ := h; exact q.elim
      · obtain ⟨_, _, _, _, _, _, _, _, _, _, _, _, _, q⟩ := h; exact q.elim
  | succ l ih =>
    have defs : ∀ (e : Df), e ∈ allT ds tw → chD ds tw gc e = true → ∀ (a : Addr) (fd : FuncData), FunD K e.x e.q e.params e.body e.sc [] [] a fd →
        FnOk P w K mg base CX0 (lv + 2 * (l + 1)) a fd (e.N.take e.fn.np) (spF K (nwT (allT ds tw) e.id) e.fn.np (callF (fnT (allT ds tw)) gl (l + 1) e.id)) := fun e he c1 a fd F => by
      unfold chD at c1
      simp only [Bool.and_eq_true, decide_eq_true_eq] at c1
      obtain ⟨⟨⟨c2, c3⟩, c4⟩, c5⟩ := c1
      have key := fn_ok (m := mdT P w K mg base ds tw gl lv l) (c := ccT ds tw gc e) (d := e.fn) (ih e) F c2 c3 c4 c5
      rw [nw_at M.nd he, callF_at M.nd he]
      exact FnOk.mono key (by show lv + 2 * l + 1 ≤ lv + 2 * (l + 1); omega)
    refine ⟨fun x f n h => ?_, ?_, fun x g f h => ?_, M.gcs, M.bi⟩
    · obtain ⟨e, he, rfl, rfl, rfl⟩ := ctT_mem (show (x, f, n) ∈ ctT ds from h)
      obtain ⟨a, fd, g1, F, b⟩ := M.fn e he
      exact ⟨a, fd, _, g1, F.kp, b, defs e (mem_ds he) (ch e he) a fd F⟩
    · obtain ⟨a, fd, ps, h1, h2, h3, h4⟩ := M.tk
      exact ⟨a, fd, ps, h1, h2, h3, FnOk.mono h4 (by show lv ≤ lv + 2 * (l + 1); omega)⟩
    · obtain ⟨t, rfl, e⟩ := Option.map_eq_some_iff.mp (show tw.map (fun t => (t.x, t.g, t.f)) = some (x, g, f) from h)
      cases e
      obtain ⟨c1, hL, C, h1, h2, h3, h4, h5, ai, fdi, h6, h7, h8⟩ := M.tws t rfl
      unfold chTw at c1
      simp only [Bool.and_eq_true, decide_eq_true_eq] at c1
      obtain ⟨⟨⟨d1, d2⟩, d3⟩, d4⟩ := c1
      have key := ini_ok (m := mdT P w K mg base ds (some t) gl lv l) (c := ccT ds (some t) gc t.ini) (ih t.ini) h7 d1 d2 rfl hL d3 h1 h3 h4
      refine ⟨C, h1, h2, h3, h4, nw_at M.nd mem_made, fun y k n hm => ?_, ai, fdi, _, lv + 2 * l + 1, h6, h8, ?_, ?_⟩
      · obtain ⟨e, he, rfl, rfl, rfl⟩ := ctT_mem (show (y, k, n) ∈ ctT t.ms from hm)
        obtain ⟨a, fd, g1, F, b⟩ := h5 e he
        have c2 := List.all_eq_true.mp d4 e he
        simp only [Bool.and_eq_true, Bool.not_eq_true'] at c2
        exact ⟨a, fd, _, g1, c2.1, b, defs e (mem_ms he) c2.2 a fd F⟩
      · show lv + 2 * l + 1 + 1 ≤ lv + 2 * (l + 1); omega
      · have e1 : (mdT P w K mg base ds (some t) gl lv (l + 1)).cl t.f = runF0 gl (callF (fnT (allT ds (some t))) gl l) (mkFn t.g t.fl) := callF_at M.nd (e := t.made) mem_made l
        show FnOk P w K mg base CX0 (lv + 2 * l + 1) ai fdi _ (spI K C ((mdT P w K mg base ds (some t) gl lv (l + 1)).cl t.f))
        rw [e1]
        exact key
end
end Ev
set_option autoImplicit false
set_option linter.all false
set_option Elab.async false
set_option maxRecDepth 100000
/-! Ev17: the def that draws. -/
namespace Ev
open PySem PySem.Spec PyProof.Rows L2
/-! ### expressions that leave the heap -/
def Rd (t : TE) (σ : L2.St) (H : Hp) (v : V) : Prop := ∀ Q : VK, Q v H → t σ H Q
abbrev rInt : List V → Hp → VK → Prop := fun xs H Q => (∃ i, xs = [.int i] ∧ Q (.int i) H) ∨ ∃ k, xs = [.bl k] ∧ Q (.int (if k then 1 else 0)) H
abbrev rLn (K : PySem.W.Frag) : List V → Hp → VK → Prop := fun xs H Q => ∃ x n, xs = [x] ∧ LenV K x H n ∧ Q (.int n) H
section
variable {σ : L2.St} {H : Hp} {K : PySem.W.Frag} {ta tb : TE} {i j : Int}
theorem rd_var {n : Nat} {v : V} (h : σ[n]? = some (some v)) : Rd (tVar n) σ H v := fun Q q => ⟨v, h, q⟩
theorem rd_c {v : V} : Rd (tC v) σ H v := fun Q q => q
theorem rd_ix {p : Addr} {xs : List V} {v : V} (a : Rd ta σ H (.ref p)) (b : Rd tb σ H (.int i)) (h : SqL K H p xs) (e : L2.atI xs i = some v) : Rd (tOp (rIxL K) ta tb) σ H v := fun Q q => a _ (b _ ⟨p, xs, i, v, rfl, rfl, h, e, q⟩)
theorem rd_op0 {g : Int → Int → V} (a : Rd ta σ H (.int i)) (b : Rd tb σ H (.int j)) : Rd (tOp (rI0 g) ta tb) σ H (g i j) := fun Q q => a _ (b _ ⟨i, j, rfl, rfl, q⟩)
theorem rd_op {C : Int → Int → Prop} {g : Int → Int → V} (a : Rd ta σ H (.int i)) (b : Rd tb σ H (.int j)) (c : C i j) : Rd (tOp (rI C g) ta tb) σ H (g i j) := fun Q q => a _ (b _ ⟨i, j, rfl, rfl, c, q⟩)
theorem rd_int (a : Rd ta σ H (.int i)) : Rd (tCB rInt (tCons ta tNil)) σ H (.int i) := fun Q q => a _ (.inl ⟨i, rfl, q⟩)
theorem rd_len {p : Addr} {xs : List V} (a : Rd ta σ H (.ref p)) (h : SqL K H p xs) : Rd (tCB (rLn K) (tCons ta tNil)) σ H (.int (xs.length : Nat)) := fun Q q => a _ ⟨_, _, rfl, .inl ⟨xs, h, rfl⟩, q⟩
end
/-! ### the shapes -/
def plE : Expr → Bool
  | .Name _ _ => true
  | .Constant _ _ _ => true
  | .Subscript _ _ _ => true
  | .BinOp _ _ _ _ => true
  | .Call (.Name _ _) [_] [] _ => true
  | _ => false
theorem plE_ok {e : Expr} (h : plE e = true) : notStar e = true ∧ notSl e = true ∧ notSet e = true ∧ notComp e = true := by
  cases e <;> first | exact ⟨rfl, rfl, rfl, rfl⟩ | (simp [plE] at h)
def kName (c : Cc) (i : Nat) : Expr → Bool
  | .Name x _ => nmB c i x
  | _ => false
def kInt (j : Int) : Expr → Bool
  | .Constant (.int i) _ _ => i == j
  | _ => false
def kIx (f g : Expr → Bool) : Expr → Bool
  | .Subscript a b _ => f a && g b && plE b
  | _ => false
def kBin (o : Operator) (f g : Expr → Bool) : Expr → Bool
  | .BinOp a op b _ => decide (op = o) && f a && g b
  | _ => false
def kCall (c : Cc) (n : String) (f : Expr → Bool) : Expr → Bool
  | .Call (.Name x _) [e] [] _ => glB c x && (x == Str.ofString n) && plE e && f e
  | _ => false
section
variable {m : Md} {c : Cc} {X : Cx} {f g : Expr → Bool} {ta tb : TE}
/-- f means t -/
def Kk (X : Cx) (f : Expr → Bool) (t : TE) : Prop := ∀ e, f e = true → PE X e t
theorem k_name (hX : XOk m c X) {i : Nat} : Kk X (kName c i) (tVar i) := fun e h => by
  unfold kName at h
  split at h
  · obtain ⟨a, b, d, e'⟩ := hX.vis h
    exact pe_var a b d e'
  · cases h
theorem k_int {j : Int} : Kk X (kInt j) (tC (.int j)) := fun e h => by
  unfold kInt at h
  split at h
  · have := eq_of_beq h
    subst this
    exact pe_int
  · cases h
theorem k_ix (hX : XOk m c X) (a : Kk X f ta) (b : Kk X g tb) : Kk X (kIx f g) (tOp (rIxL m.K) ta tb) := fun e h => by
  unfold kIx at h
  split at h
  · simp only [Bool.and_eq_true] at h
    rw [← hX.K]
    exact pe_ix ix_list (a _ h.1.1) (b _ h.1.2) (plain_ix (plE_ok h.2).2.1)
  · cases h
theorem k_bin {o : Operator} {r : R2} (hr : OpR X (binaryOp o) r) (a : Kk X f ta) (b : Kk X g tb) : Kk X (kBin o f g) (tOp r ta tb) := fun e h => by
  unfold kBin at h
  split at h
  · simp only [Bool.and_eq_true, decide_eq_true_eq] at h
    obtain ⟨⟨rfl, h1⟩, h2⟩ := h
    exact pe_op hr (a _ h1) (b _ h2)
  · cases h
theorem k_callI (hX : XOk m c X) (hm : m.mg (Str.ofString "int") = none) (a : Kk X f ta) : Kk X (kCall c "int" f) (tCB rInt (tCons ta tNil)) := fun e h => by
  unfold kCall at h
  split at h
  · simp only [Bool.and_eq_true, beq_iff_eq] at h
    obtain ⟨⟨⟨h1, rfl⟩, h3⟩, h4⟩ := h
    obtain ⟨g1, g2, g3⟩ := hX.glob h1
    exact pe_callTy call_int1 g1 (by rw [hX.mg]; exact hm) (by decide +kernel) (pa_cons (a _ h4) pa_nil (star_cons (plE_ok h3).1)) g3 g2 (star_cons (plE_ok h3).1) rfl
  · cases h
theorem k_callL (hX : XOk m c X) (hm : m.mg (Str.ofString "len") = none) (a : Kk X f ta) : Kk X (kCall c "len" f) (tCB (rLn m.K) (tCons ta tNil)) := fun e h => by
  unfold kCall at h
  split at h
  · simp only [Bool.and_eq_true, beq_iff_eq] at h
    obtain ⟨⟨⟨h1, rfl⟩, h3⟩, h4⟩ := h
    obtain ⟨g1, g2, g3⟩ := hX.glob h1
    rw [← hX.K]
    exact pe_callB call_len g1 (by rw [hX.mg]; exact hm) (by decide +kernel) (pa_cons (a _ h4) pa_nil (star_cons (plE_ok h3).1)) g3 g2 (star_cons (plE_ok h3).1) rfl
  · cases h
end
def kRow (c : Cc) (j : Int) : Expr → Bool := kIx (kName c 0) (kInt j)
/-- row[j] = e -/
def kPut (c : Cc) (j : Int) (f : Expr → Bool) : Stmt → Bool
  | .Assign [.Subscript (.Name x _) (.Constant (.int i) _ _) _] e _ => nmB c 0 x && (i == j) && f e
  | _ => false
def kSet (c : Cc) (i : Nat) (f : Expr → Bool) : Stmt → Bool
  | .Assign [.Name x _] e _ => setB true c i x && plE e && f e
  | _ => false
def kRet (f : Expr → Bool) : Stmt → Bool
  | .Return (some e) _ => f e
  | _ => false
def kCmp (o : CmpOp) (f g : Expr → Bool) : Expr → Bool
  | .Compare a [op] [b] _ => decide (op = o) && f a && g b && plE b
  | _ => false
def chTk (c : Cc) : List Stmt → Bool
  | [.If t1 [a1, a2, a3] [] _, a4, .If t2 [a5, a6] [] _, a7, a8, .If t3 [a9] [] _, a10] =>
    kCmp .Gt (kRow c 3) (kInt 0) t1 && kSet c 2 (kBin .Mod (kCall c "int" (kRow c 3)) (kName c 1)) a1 && kPut c 3 (kBin .FloorDiv (kRow c 3) (kName c 1)) a2 && kRet (kName c 2) a3 &&
    kPut c 1 (kBin .Add (kRow c 1) (kInt 1)) a4 &&
    kCmp .Gt (kRow c 1) (kCall c "len" (kRow c 0)) t2 && kPut c 2 (kBin .Mod (kCall c "int" (kBin .Add (kBin .Mult (kRow c 2) (kInt 48271)) (kInt 11))) (kInt 2147483647)) a5 && kRet (kBin .Mod (kCall c "int" (kBin .FloorDiv (kRow c 2) (kInt 7))) (kName c 1)) a6 &&
    kSet c 3 (kIx (kRow c 0) (kBin .Sub (kRow c 1) (kInt 1))) a7 && kPut c 2 (kBin .Mod (kCall c "int" (kBin .Add (kBin .Add (kBin .Mult (kRow c 2) (kInt 48271)) (kName c 3)) (kInt 11))) (kInt 2147483647)) a8 &&
    kCmp .GtE (kName c 3) (kBin .Pow (kInt 10) (kInt 18)) t3 && kPut c 3 (kBin .FloorDiv (kName c 3) (kName c 1)) a9 && kRet (kBin .Mod (kCall c "int" (kName c 3)) (kName c 1)) a10
  | _ => false
section
variable {K : PySem.W.Frag}
abbrev gRow (j : Int) : TG := gSub (tVar 0) (tC (.int j)) rSetL
abbrev tR (K : PySem.W.Frag) (j : Int) : TE := tOp (rIxL K) (tVar 0) (tC (.int j))
abbrev rAdd : R2 := rI0 fun i j => .int (i + j)
abbrev rSub : R2 := rI0 fun i j => .int (i - j)
abbrev rMul : R2 := rI CMul fun i j => .int (i * j)
abbrev rDiv : R2 := rI CDiv fun i j => .int (i / j)
abbrev rMod : R2 := rI (fun _ j => 0 < j) fun i j => .int (i % j)
abbrev rPow : R2 := rI CPow fun i j => .int (i ^ j.toNat)
abbrev tI (t : TE) : TE := tCB rInt (tCons t tNil)
/-- the reading -/
def tTk (K : PySem.W.Frag) : TS :=
  tSeq (tIfS (tTest (tOp (rI0 fun i j => .bl (decide (j < i))) (tR K 3) (tC (.int 0)))) (tSeq (tAsg (tOp rMod (tI (tR K 3)) (tVar 1)) (gName 2)) (tSeq (tAsg (tOp rDiv (tR K 3) (tVar 1)) (gRow 3)) (tRet (tVar 2)))) tNext)
  (tSeq (tAsg (tOp rAdd (tR K 1) (tC (.int 1))) (gRow 1))
  (tSeq (tIfS (tTest (tOp (rI0 fun i j => .bl (decide (j < i))) (tR K 1) (tCB (rLn K) (tCons (tR K 0) tNil))))
    (tSeq (tAsg (tOp rMod (tI (tOp rAdd (tOp rMul (tR K 2) (tC (.int 48271))) (tC (.int 11)))) (tC (.int 2147483647))) (gRow 2)) (tRet (tOp rMod (tI (tOp rDiv (tR K 2) (tC (.int 7)))) (tVar 1)))) tNext)
  (tSeq (tAsg (tOp (rIxL K) (tR K 0) (tOp rSub (tR K 1) (tC (.int 1)))) (gName 3))
  (tSeq (tAsg (tOp rMod (tI (tOp rAdd (tOp rAdd (tOp rMul (tR K 2) (tC (.int 48271))) (tVar 3)) (tC (.int 11)))) (tC (.int 2147483647))) (gRow 2))
  (tSeq (tIfS (tTest (tOp (rI0 fun i j => .bl (decide (j ≤ i))) (tVar 3) (tOp rPow (tC (.int 10)) (tC (.int 18))))) (tAsg (tOp rDiv (tVar 3) (tVar 1)) (gRow 3)) tNext)
  (tRet (tOp rMod (tI (tVar 3)) (tVar 1))))))))
end
section
variable {m : Md} {c : Cc} {X : Cx}
theorem k_put (hX : DX m c X) {j : Int} {f : Expr → Bool} {t : TE} (a : Kk X f t) {st : Stmt} (h : kPut c j f st = true) : PS X st (tAsg t (gRow j)) := by
  unfold kPut at h
  split at h
  · simp only [Bool.and_eq_true, beq_iff_eq] at h
    obtain ⟨⟨h1, rfl⟩, h3⟩ := h
    obtain ⟨b1, b2, b3, b4⟩ := hX.toXOk.vis h1
    exact ps_asg (a _ h3) (pg_sub (pe_var b1 b2 b3 b4) pe_int set_list) swS_sub rfl rfl
  · cases h
theorem k_set (hX : DX m c X) {i : Nat} {f : Expr → Bool} {t : TE} (a : Kk X f t) {st : Stmt} (h : kSet c i f st = true) : PS X st (tAsg t (gName i)) := by
  unfold kSet at h
  split at h
  · simp only [Bool.and_eq_true] at h
    obtain ⟨⟨h1, h2⟩, h3⟩ := h
    obtain ⟨b1, b2⟩ := setB_ok hX h1
    have hc := (plE_ok h2).2.2.2
    rename_i x p e pos
    have hz : swB c x p e = false := by
      cases e <;> first | rfl | (exact absurd hc (by simp [notComp]))
    exact ps_set (by rw [hX.N]; exact hX.nd) b1 b2 (a _ h3) (by rw [swB_ok hX (.inl hc), hz]) (.inl (hX.fn _))
  · cases h
theorem k_ret {f : Expr → Bool} {t : TE} (a : Kk X f t) {st : Stmt} (h : kRet f st = true) : PS X st (tRet t) := by
  unfold kRet at h
  split at h
  · exact ps_ret (a _ h)
  · cases h
theorem k_cmp {o : CmpOp} {r : R2} {f g : Expr → Bool} {t u : TE} (hr : OpR X (compareOp o) r) (a : Kk X f t) (b : Kk X g u) {e : Expr} (h : kCmp o f g e = true) : PT X e (tTest (tOp r t u)) := by
  unfold kCmp at h
  split at h
  · simp only [Bool.and_eq_true, decide_eq_true_eq] at h
    obtain ⟨⟨⟨rfl, h1⟩, h2⟩, h3⟩ := h
    exact pt_cmpR hr (a _ h1) (b _ h2) (marks_no (plE_ok h3).2.2.1)
  · cases h
theorem tk_pss (hX : DX m c X) (hi : m.mg (Str.ofString "int") = none) (hl : m.mg (Str.ofString "len") = none) {body : List Stmt} (h : chTk c body = true) : PSs X body (tTk m.K) := by
  unfold chTk at h
  split at h
  · simp only [Bool.and_eq_true] at h
    obtain ⟨⟨⟨⟨⟨⟨⟨⟨⟨⟨⟨⟨h1, h2⟩, h3⟩, h4⟩, h5⟩, h6⟩, h7⟩, h8⟩, h9⟩, h10⟩, h11⟩, h12⟩, h13⟩ := h
    have hx := hX.toXOk
    have R : ∀ j, Kk X (kRow c j) (tR m.K j) := fun j => k_ix hx (k_name hx) k_int
    refine pss_cons (ps_if (k_cmp op_gt (R 3) k_int h1) (pss_cons (k_set hX (k_bin op_mod (k_callI hx hi (R 3)) (k_name hx)) h2) (pss_cons (k_put hX (k_bin op_fdiv (R 3) (k_name hx)) h3) (pss_one (k_ret (k_name hx) h4)))) pss_nil) ?_
    refine pss_cons (k_put hX (k_bin op_add (R 1) k_int) h5) ?_
    refine pss_cons (ps_if (k_cmp op_gt (R 1) (k_callL hx hl (R 0)) h6) (pss_cons (k_put hX (k_bin op_mod (k_callI hx hi (k_bin op_add (k_bin op_mul (R 2) k_int) k_int)) k_int) h7) (pss_one (k_ret (k_bin op_mod (k_callI hx hi (k_bin op_fdiv (R 2) k_int)) (k_name hx)) h8))) pss_nil) ?_
    refine pss_cons (k_set hX (k_ix hx (R 0) (k_bin op_sub (R 1) k_int)) h9) ?_
    refine pss_cons (k_put hX (k_bin op_mod (k_callI hx hi (k_bin op_add (k_bin op_add (k_bin op_mul (R 2) k_int) (k_name hx)) k_int)) k_int) h10) ?_
    refine pss_cons (ps_if (k_cmp op_ge (k_name hx) (k_bin op_pow k_int k_int) h11) (pss_one (k_put hX (k_bin op_fdiv (k_name hx) (k_name hx)) h12)) pss_nil) ?_
    exact pss_one (k_ret (k_bin op_mod (k_callI hx hi (k_name hx)) (k_name hx)) h13)
  · cases h
end
end Ev
set_option autoImplicit false
set_option linter.all false
set_option Elab.async false
set_option maxRecDepth 100000
/-! Ev18: the def that draws keeps its promise; a law's own def. -/
namespace Ev
open PySem PySem.Spec PyProof.Rows L2
abbrev rowL (sc : Addr) (i sd rs : Int) : List V := [.ref sc, .int i, .int sd, .int rs]
structure Rr (K : PySem.W.Frag) (Rw : AP1) (H0 : Hp) (a sc : Addr) (ns : List Int) (H : Hp) (i sd rs : Int) : Prop where
  at_ : H a = some (.lst (rowL sc i sd rs))
  sq : SqF K H sc (ns.map V.int)
  kp : Kp Rw H0 H
  rw : Rws K Rw H
  i0 : 0 ≤ i
  ra : Rw a
  nsc : Rw sc → ∀ H', SqL K H' sc (ns.map V.int)
  h0 : ∃ l, H0 a = some (.lst l)
section
variable {K : PySem.W.Frag} {Rw : AP1} {H0 H : Hp} {a sc : Addr} {ns : List Int} {i sd rs : Int} {σ : L2.St} {te : TE} {D : Ends}
theorem Rr.put (r : Rr K Rw H0 a sc ns H i sd rs) {i' sd' rs' : Int} (h : 0 ≤ i') : Rr K Rw H0 a sc ns (upd H a (.lst (rowL sc i' sd' rs'))) i' sd' rs' := by
  have sq' : SqF K (upd H a (.lst (rowL sc i' sd' rs'))) sc (ns.map V.int) := by
    rcases r.sq with ⟨o, z⟩ | z
    · by_cases n : sc = a
      · exact .inr (r.nsc (by rw [n]; exact r.ra))
      · exact .inl ⟨o, by rw [upd_ne n]; exact z⟩
    · exact .inr z
  refine ⟨upd_same, sq', fun b o e z => ?_, fun b hb => ?_, h, r.ra, r.nsc, r.h0⟩
  · have n : b ≠ a := fun q => by
      subst q
      obtain ⟨l, h0⟩ := r.h0
      rcases z with z | ⟨vs, z⟩
      · exact z r.ra
      · rw [h0] at e; cases e; cases z
    rw [upd_ne n]
    exact r.kp b o e z
  · by_cases q : b = a
    · subst q
      exact ⟨sc, i', sd', rs', ns, upd_same, sq', r.nsc, h⟩
    · exact (r.rw b hb).wr q fun x y e => by rw [r.at_] at e; cases e
theorem s_put1 (r : Rr K Rw H0 a sc ns H i sd rs) (h0 : σ[0]? = some (some (.ref a))) {v : Int} (t : Rd te σ H (.int v)) (hv : 0 ≤ v) (n : ∀ H', Rr K Rw H0 a sc ns H' v sd rs → D.nx σ H') : tAsg te (gRow 1) D σ H :=
  t _ ⟨.ref a, h0, a, rowL sc i sd rs, 1, 1, rfl, rfl, r.at_, rfl, n _ (r.put hv)⟩
theorem s_put2 (r : Rr K Rw H0 a sc ns H i sd rs) (h0 : σ[0]? = some (some (.ref a))) {v : Int} (t : Rd te σ H (.int v)) (n : ∀ H', Rr K Rw H0 a sc ns H' i v rs → D.nx σ H') : tAsg te (gRow 2) D σ H :=
  t _ ⟨.ref a, h0, a, rowL sc i sd rs, 2, 2, rfl, rfl, r.at_, rfl, n _ (r.put r.i0)⟩
theorem s_put3 (r : Rr K Rw H0 a sc ns H i sd rs) (h0 : σ[0]? = some (some (.ref a))) {v : Int} (t : Rd te σ H (.int v)) (n : ∀ H', Rr K Rw H0 a sc ns H' i sd v → D.nx σ H') : tAsg te (gRow 3) D σ H :=
  t _ ⟨.ref a, h0, a, rowL sc i sd rs, 3, 3, rfl, rfl, r.at_, rfl, n _ (r.put r.i0)⟩
theorem r_row (r : Rr K Rw H0 a sc ns H i sd rs) (h0 : σ[0]? = some (some (.ref a))) : Rd (tR K 0) σ H (.ref sc) ∧ Rd (tR K 1) σ H (.int i) ∧ Rd (tR K 2) σ H (.int sd) ∧ Rd (tR K 3) σ H (.int rs) :=
  ⟨rd_ix (rd_var h0) rd_c (SqL.of r.at_) rfl, rd_ix (rd_var h0) rd_c (SqL.of r.at_) rfl, rd_ix (rd_var h0) rd_c (SqL.of r.at_) rfl, rd_ix (rd_var h0) rd_c (SqL.of r.at_) rfl⟩
theorem s_if {t : TE} {b : Bool} {u v : TS} (h : Rd t σ H (.bl b)) (k : if b = true then u D σ H else v D σ H) : tIfS (tTest t) u v D σ H :=
  h _ ⟨b, rfl, k⟩
theorem tk_sem {m : Int} {Q : VK} (r : Rr K Rw H0 a sc ns H i sd rs) (hm : 0 < m) (hm2 : m < 1073741824) (q : ∀ (k : Nat) H', (k : Int) < m → Kp Rw H0 H' → Rws K Rw H' → Q (.int k) H') :
    tTk K { nx := fun _ H' => Q .non H', rt := Q } [some (.ref a), some (.int m), none, none] H := by
  have fin : ∀ {H' : Hp} (x : Int), Kp Rw H0 H' → Rws K Rw H' → Q (.int (x % m)) H' := fun x k w => by
    have h1 := Int.emod_nonneg x (by omega : m ≠ 0)
    have h2 := Int.emod_lt_of_pos x hm
    have e : x % m = ((x % m).toNat : Int) := (Int.toNat_of_nonneg h1).symm
    rw [e]
    exact q _ _ (by omega) k w
  obtain ⟨_, _, _, r3⟩ := r_row (σ := [some (.ref a), some (.int m), none, none]) r rfl
  refine s_if (rd_op0 r3 rd_c) ?_
  by_cases c : (0 : Int) < rs
  · rw [if_pos (decide_eq_true c)]
    refine rd_op (rd_int r3) (rd_var rfl) hm _ ?_
    show tAsg (tOp rDiv (tR K 3) (tVar 1)) (gRow 3) _ [some (.ref a), some (.int m), some (.int (rs % m)), none] H
    refine s_put3 (σ := [some (.ref a), some (.int m), some (.int (rs % m)), none]) (v := rs / m) r (by rfl) ?_ fun H' r' => ?_
    · exact rd_op (r_row r rfl).2.2.2 (rd_var rfl) ⟨hm, hm2⟩
    · exact ⟨_, rfl, fin rs r'.kp r'.rw⟩
  · rw [if_neg (by simpa using c)]
    obtain ⟨_, r1, _, _⟩ := r_row (σ := [some (.ref a), some (.int m), none, none]) r rfl
    show tAsg (tOp rAdd (tR K 1) (tC (.int 1))) (gRow 1) _ [some (.ref a), some (.int m), none, none] H
    refine s_put1 (σ := [some (.ref a), some (.int m), none, none]) (v := i + 1) r (by rfl) ?_ (by have := r.i0; omega) fun H1 R1 => ?_
    · exact rd_op0 r1 rd_c
    obtain ⟨q0, q1, q2, _⟩ := r_row (σ := [some (.ref a), some (.int m), none, none]) R1 rfl
    show tIfS (tTest (tOp (rI0 fun i j => .bl (decide (j < i))) (tR K 1) (tCB (rLn K) (tCons (tR K 0) tNil)))) _ _ _ [some (.ref a), some (.int m), none, none] H1
    refine s_if (rd_op0 q1 (rd_len q0 R1.sq.sq)) ?_
    by_cases c2 : ((ns.map V.int).length : Int) < i + 1
    · rw [if_pos (decide_eq_true c2)]
      show tAsg (tOp rMod (tI (tOp rAdd (tOp rMul (tR K 2) (tC (.int 48271))) (tC (.int 11)))) (tC (.int 2147483647))) (gRow 2) _ [some (.ref a), some (.int m), none, none] H1
      refine s_put2 (σ := [some (.ref a), some (.int m), none, none]) (v := (sd * 48271 + 11) % 2147483647) R1 (by rfl) ?_ fun H2 R2 => ?_
      · exact rd_op (rd_int (rd_op0 (rd_op q2 rd_c (.inr (by decide))) rd_c)) rd_c (by decide)
      · have z : Rd (tOp rMod (tI (tOp rDiv (tR K 2) (tC (.int 7)))) (tVar 1)) [some (.ref a), some (.int m), none, none] H2 (.int ((sd * 48271 + 11) % 2147483647 / 7 % m)) := rd_op (rd_int (rd_op (r_row R2 rfl).2.2.1 rd_c ⟨by decide, by decide⟩)) (rd_var rfl) hm
        exact z _ (fin _ R2.kp R2.rw)
    · rw [if_neg (by simpa using c2)]
      have hlen : (ns.map V.int).length = ns.length := List.length_map _
      have hi : i.toNat < ns.length := by have := r.i0; omega
      have hget : L2.atI (ns.map V.int) (i + 1 - 1) = some (.int ns[i.toNat]) := by
        have e : i + 1 - 1 = (i.toNat : Int) := by have := r.i0; omega
        rw [e]
        refine atI_nat ?_
        rw [List.getElem?_map, List.getElem?_eq_getElem hi]
        rfl
      have z1 : Rd (tOp (rIxL K) (tR K 0) (tOp rSub (tR K 1) (tC (.int 1)))) [some (.ref a), some (.int m), none, none] H1 (.int ns[i.toNat]) := rd_ix q0 (rd_op0 q1 rd_c) R1.sq.sq hget
      show tAsg (tOp (rIxL K) (tR K 0) (tOp rSub (tR K 1) (tC (.int 1)))) (gName 3) _ [some (.ref a), some (.int m), none, none] H1
      refine z1 _ ?_
      show tAsg (tOp rMod (tI (tOp rAdd (tOp rAdd (tOp rMul (tR K 2) (tC (.int 48271))) (tVar 3)) (tC (.int 11)))) (tC (.int 2147483647))) (gRow 2) _ [some (.ref a), some (.int m), none, some (.int ns[i.toNat])] H1
      obtain ⟨_, _, p2, _⟩ := r_row (σ := [some (.ref a), some (.int m), none, some (.int ns[i.toNat])]) R1 rfl
      refine s_put2 (σ := [some (.ref a), some (.int m), none, some (.int ns[i.toNat])]) (v := (sd * 48271 + ns[i.toNat] + 11) % 2147483647) R1 (by rfl) ?_ fun H2 R2 => ?_
      · exact rd_op (rd_int (rd_op0 (rd_op0 (rd_op p2 rd_c (.inr (by decide))) (rd_var rfl)) rd_c)) rd_c (by decide)
      have zf : ∀ H', Rd (tOp rMod (tI (tVar 3)) (tVar 1)) [some (.ref a), some (.int m), none, some (.int ns[i.toNat])] H' (.int (ns[i.toNat] % m)) := fun H' => rd_op (rd_int (rd_var rfl)) (rd_var rfl) hm
      have zc : Rd (tOp (rI0 fun i j => .bl (decide (j ≤ i))) (tVar 3) (tOp rPow (tC (.int 10)) (tC (.int 18)))) [some (.ref a), some (.int m), none, some (.int ns[i.toNat])] H2 (.bl (decide ((10 : Int) ^ (18 : Int).toNat ≤ ns[i.toNat]))) := rd_op0 (rd_var rfl) (rd_op rd_c rd_c ⟨by decide, by decide, by decide⟩)
      show tIfS (tTest (tOp (rI0 fun i j => .bl (decide (j ≤ i))) (tVar 3) (tOp rPow (tC (.int 10)) (tC (.int 18))))) _ _ _ [some (.ref a), some (.int m), none, some (.int ns[i.toNat])] H2
      refine s_if zc ?_
      split
      · show tAsg (tOp rDiv (tVar 3) (tVar 1)) (gRow 3) _ [some (.ref a), some (.int m), none, some (.int ns[i.toNat])] H2
        refine s_put3 (σ := [some (.ref a), some (.int m), none, some (.int ns[i.toNat])]) (v := ns[i.toNat] / m) R2 (by rfl) ?_ fun H3 R3 => ?_
        · exact rd_op (rd_var rfl) (rd_var rfl) ⟨hm, hm2⟩
        · exact zf _ _ (fin _ R3.kp R3.rw)
      · exact zf _ _ (fin _ R2.kp R2.rw)
end
/-- _law_taken -/
theorem tk_ok {P : Program} {w : World} {K : PySem.W.Frag} {mg : Str → Option Value} {base : Heap} {c : Cc} {x qual : Str} {params : Arguments} {body : List Stmt} {a : Addr} {fd : FuncData} (F : FunD K x qual params body c.sc [] [] a fd)
    (hN : c.N = (["_law_row", "_law_many", "_law_found", "_law_cell"] : List Str)) (hsc : C8.scC c.N (["_law_row", "_law_many"] : List Str) c.sc = true) (hch : chTk c body = true)
    (hi : mg (Str.ofString "int") = none) (hl : mg (Str.ofString "len") = none) (lv : Nat) : FnOk P w K mg base CX0 (lv + 1) a fd (["_law_row", "_law_many"] : List Str) (spTk K) := by
  have S := C8.fnScope_by hsc
  let m : Md := { P := P, w := w, K := K, mg := mg, base := base, gl := fun _ => none, cl := fun _ _ => .no, nw := fun _ => false, lv := lv }
  refine F.ok S (fun vs H Q E h => ?_) (fun cdv A outer s H vs Q E hr h => ⟨tTk K, PSs.nox (tk_pss (m := m) (c := c) ?_ hi hl hch), ?_⟩)
  · obtain ⟨_, _, _, rfl, _⟩ := h
    rfl
  · exact { prog := rfl, w := rfl, K := rfl, mg := rfl, base := rfl, N := rfl, sc := rfl, nd := S.nd, calm := rfl, room := hr, fn := fun _ => rfl, pass := PassesOwn.never, kind := S.kind }
  · obtain ⟨ad, mm, Rw, rfl, h1, h2, h3, h4, h5⟩ := h
    obtain ⟨sc, i, sd, rs, ns, e1, e2, e3, e4⟩ := h4 ad h3
    rw [hN]
    exact tk_sem (H0 := H) ⟨e1, e2, Kp.refl, h4, e4, h3, e3, _, e1⟩ h1 h2 h5
end Ev
set_option autoImplicit false
set_option linter.all false
set_option Elab.async false
set_option maxRecDepth 100000
/-! Ev19: a law's own def. -/
namespace Ev
open PySem PySem.Spec PyProof.Rows L2
def lawS (n row : Nat) : Stt := (List.replicate n Slt.no).set row (.shr .row)
def chLaw (nw : Nat → Bool) (c : Cc) (row : Nat) (body : CSs) : List Stmt → Bool
  | .Assign [.Name y _] (.List [.Name x _, .Constant (.int 0) _ _, .Constant (.int _) _ _, .Constant (.int 0) _ _] _) _ :: rest => nmB c 0 x && setB true c row y && chSs nw false c body rest
  | _ => false
def spL (K : PySem.W.Frag) : Sp := fun vs H Q _ => ∃ (a : Addr) (ns : List Int), vs = [.ref a] ∧ SqF K H a (ns.map V.int) ∧ ∀ H', Q (.bl true) H'
def isTr : PV → Bool
  | .bl true => true
  | _ => false
theorem law_ok {m : Md} {c : Cc} (M : MOk m c) {row : Nat} {body : CSs} {x qual : Str} {params : Arguments} {bd : List Stmt} {a : Addr} {fd : FuncData} (F : FunD m.K x qual params bd c.sc [] [] a fd)
    (hsc : C8.scC c.N (c.N.take 1) c.sc = true) (h1 : 1 ≤ c.N.length) (hch : chLaw m.nw c row body bd = true)
    (hv : (exSs m.gl m.cl (lawS c.N.length row) body >>= endV).wp (fun p => isTr p = true) No) : FnOk m.P m.w m.K m.mg m.base CX0 (m.lv + 1) a fd (c.N.take 1) (spL m.K) := by
  have S := C8.fnScope_by hsc
  unfold chLaw at hch
  split at hch
  · rename_i y py x' px k0 p0 cc k1 p1 k2 p2 pl ps rest
    simp only [Bool.and_eq_true] at hch
    obtain ⟨⟨hx, hy⟩, hb⟩ := hch
    obtain ⟨t, pt, gt⟩ := chSs_ok (fr := false) M hb
    refine F.ok S (fun vs H Q E h => ?_) (fun cdv A outer s H vs Q E hr h => ?_)
    · obtain ⟨_, _, rfl, _⟩ := h
      rw [List.length_take]
      simp only [List.length_cons, List.length_nil]
      omega
    · have hX : DX m c (cxOf CX0 m.P m.w m.K m.mg m.base c.N qual c.sc a cdv A outer s H E).nox :=
        { prog := rfl, w := rfl, K := rfl, mg := rfl, base := rfl, N := rfl, sc := rfl, nd := S.nd, calm := rfl, room := hr, fn := fun _ => rfl, pass := PassesOwn.never, kind := S.kind }
      obtain ⟨b1, b2, b3, b4⟩ := hX.toXOk.vis hx
      obtain ⟨c1, c2⟩ := setB_ok hX hy
      refine ⟨tSeq (tAsg (tLst (tCons (tVar 0) (tCons (tC (.int 0)) (tCons (tC (.int cc)) (tCons (tC (.int 0)) tNil))))) (gName row)) t, PSs.nox (pss_cons (ps_set hX.nd c1 c2 (pe_lst (pa_cons (pe_var b1 b2 b3 b4) (pa_cons pe_int (pa_cons pe_int (pa_cons pe_int pa_nil))))) rfl (.inl rfl)) (pt _ hX)), ?_⟩
      obtain ⟨ad, ns, rfl, sq, q⟩ := h
      have hrow : row < c.N.length := by
        simp only [setB, Bool.and_eq_true, beq_iff_eq] at hy
        exact (List.getElem?_eq_some_iff.mp hy.1).1
      have h0 : (L2.start c.N [.ref ad])[0]? = some (some (.ref ad)) := rfl
      refine ⟨.ref ad, h0, ⟨(show 4 ≤ sizeLine by decide), fun D hD => ?_⟩⟩
      have sq' : SqF m.K (upd H D (.lst [.ref ad, .int 0, .int cc, .int 0])) ad (ns.map V.int) := by
        rcases sq with ⟨o, z⟩ | z
        · exact .inl ⟨o, by rw [upd_ne (fun e => by rw [e, hD] at z; cases z)]; exact z⟩
        · exact .inr z
      have nr : ad = D → ∀ H', SqL m.K H' ad (ns.map V.int) := fun e => by
        rcases sq with ⟨o, z⟩ | z
        · rw [e, hD] at z; cases z
        · exact z
      have rows : Rws m.K (fun b => b = D) (upd H D (.lst [.ref ad, .int 0, .int cc, .int 0])) := fun b e => by
        subst e
        exact ⟨ad, 0, cc, 0, ns, upd_same, sq', nr, by decide⟩
      have hlen : (L2.start c.N [.ref ad]).length = c.N.length := by
        unfold L2.start
        rw [List.length_append, List.length_map, List.length_replicate]
        simp only [List.length_cons, List.length_nil]
        omega
      have r : Rl m.K (upd H D (.lst [.ref ad, .int 0, .int cc, .int 0])) (fun b => b = D) (fun b => b = D) (fun _ => none) (lawS c.N.length row) ((L2.start c.N [.ref ad]).set row (some (.ref D))) (upd H D (.lst [.ref ad, .int 0, .int cc, .int 0])) := by
        refine ⟨by unfold lawS; rw [List.length_set, List.length_set, List.length_replicate, hlen], fun i v e => ?_, fun i v e => ?_, fun i j b h _ => (by cases h), fun i b h => (by cases h), fun i b h => (by cases h), fun i b h => (by cases h), fun b z => ?_, fun b z => z, rows, Kp.refl⟩
        · unfold lawS at e
          by_cases hi : row = i
          · subst hi
            rw [List.getElem?_set_self (by rw [List.length_replicate]; exact hrow)] at e
            cases e
            refine ⟨.ref D, List.getElem?_set_self (by rw [hlen]; exact hrow), ?_⟩
            simp only [Rep]
            exact ⟨D, rfl, rfl⟩
          · rw [List.getElem?_set_ne hi, List.getElem?_replicate] at e
            split at e <;> cases e
        · unfold lawS at e
          by_cases hi : row = i
          · subst hi
            rw [List.getElem?_set_self (by rw [List.length_replicate]; exact hrow)] at e
            cases e
          · rw [List.getElem?_set_ne hi, List.getElem?_replicate] at e
            split at e <;> cases e
        · rw [z, upd_same]; exact Option.some_ne_none _
      refine gt _ _ _ _ _ _ _ _ r (Res.wp_imp (nwp hv) fun z hz => ?_)
      obtain ⟨f, s'⟩ := z
      cases f with
      | next => exact absurd (show isTr .non = true from hz) (by decide)
      | brk => exact hz.elim
      | ret v =>
        intro u H' _ _ fr
        have hz' : isTr v = true := hz
        unfold isTr at hz'
        split at hz'
        · have e : u = .bl true := by
            have f' : Rep H' (fun b => b = D) (fun b => b = D) (.bl true) u := fr
            simpa [Rep] using f'
          rw [e]
          exact q H'
        · cases hz'
  · cases hch
end Ev
set_option autoImplicit false
set_option linter.all false
set_option Elab.async false
set_option maxRecDepth 100000
/-! Ev20: from the head's facts to a law's promise. -/
namespace Ev
open PySem PySem.Spec PyProof.Rows L2
def Df.dd (d : Df) : He.DefD := ⟨(d.x, none), d.x, d.q, d.params, d.body, d.sc, [], []⟩
/-- the body of a class -/
def clsB : Stmt → List Stmt
  | .ClassDef _ _ _ b _ _ _ _ _ _ _ => b
  | _ => []
/-- a method of the class x -/
def Df.dm (x : Str) (d : Df) : He.DefD := ⟨(x, some d.x), d.x, d.q, d.params, d.body, d.sc, [], []⟩
def faC : Str × PV → He.Fa
  | (x, .int i) => .int x i
  | (x, .str s) => .str x (toStr s)
  | (x, _) => .glo x
def biNames : List String := ["len", "sum", "all", "any", "min", "max", "sorted", "isinstance", "range", "enumerate", "zip", "int", "bool", "str", "tuple", "list", "dict", "set"]
def faW : Option TwD → List He.Fa
  | some t => [.glo t.x, .cls t.x, .mkr t.x] ++ (tNames.map (fun n => .noat t.x n) ++ t.ms.map fun d => .meth t.x d.x)
  | none => []
def fnW : Option TwD → List He.DefD
  | some t => t.ini.dm t.x :: t.ms.map (Df.dm t.x)
  | none => []
def faT (ds : List Df) (tw : Option TwD) (tk lw : Df) (gv : List (Nat × Str × PV)) : List He.Fa := ds.map (fun d => .glo d.x) ++ (([.glo tk.x, .glo lw.x] ++ (gv.map (fun e => faC e.2) ++ biNames.map fun x => .free (Str.ofString x))) ++ faW tw)
def fnL (ds : List Df) (tw : Option TwD) (tk lw : Df) : List He.DefD := ds.map Df.dd ++ ([tk.dd, lw.dd] ++ fnW tw)
/-- the constants, and the class's number's value: where it is -/
def glT (tw : Option TwD) (C : Nat) (gv : List (Nat × Str × PV)) : Nat → Option PV := fun g => match tw with
  | some t => if g == t.g then some (.int (C : Nat)) else (gv.find? fun e => e.1 == g).map (·.2.2)
  | none => (gv.find? fun e => e.1 == g).map (·.2.2)
def gcT (gv : List (Nat × Str × PV)) : List (Str × Nat) := gv.map fun e => (e.2.1, e.1)
def cOk : PV → Bool
  | .int _ => true
  | .str s => decide (s.length ≤ 100000) && s.all (fun c => decide (c < 1114112))
  | _ => false
/-- a def's parameters take their arguments in order -/
def BindsOk (d : Df) : Prop := ∀ (kV doc pm : Value) (an : Option Addr) (cdv ct : Value) (us : List Value), us.length = (d.N.take d.fn.np).length → bindArgs (PySem.W.fnOf d.x d.q d.params d.body d.sc .none kV doc pm an cdv ct) ⟨us, []⟩ = pure ((d.N.take d.fn.np).zip us)
def AllB : List Df → Prop
  | [] => True
  | d :: r => BindsOk d ∧ AllB r
theorem allB_mem {d : Df} : ∀ {ds : List Df}, AllB ds → d ∈ ds → BindsOk d
  | [], _, h => by cases h
  | e :: r, a, h => by
    rcases List.mem_cons.mp h with rfl | h
    · exact a.1
    · exact allB_mem a.2 h
theorem gcT_mem {x : Str} {g : Nat} {gv : List (Nat × Str × PV)} (h : (x, g) ∈ gcT gv) : ∃ p, (g, x, p) ∈ gv := by
  unfold gcT at h
  obtain ⟨⟨a, b, c⟩, he, e⟩ := List.mem_map.mp h
  cases e
  exact ⟨c, he⟩
/-- all that a law's proof looks at in the text -/
structure Text where
  ds : List Df
  tk : Df
  lw : Df
  gv : List (Nat × Str × PV)
  row : Nat
  body : CSs
  tw : Option TwD := none
/-- all but the law's def and the one that draws -/
def Text.bs (T : Text) : List Df := T.ds ++ (match T.tw with
  | some t => t.ini :: t.ms
  | none => [])
def okW (ds : List Df) (gc : List (Str × Nat)) (gv : List (Nat × Str × PV)) : Option TwD → Bool
  | some t => chTw ds gc t && decide (t.ini.x = "__init__") && decide (t.ini.fn.np = 2) && !(gv.map (·.1)).contains t.g && (match gv.find? fun e => e.1 == t.gL with
    | some (_, _, .str s) => decide (s = abc)
    | _ => false)
  | none => true
def Text.ok (T : Text) : Bool :=
  decide (((allT T.ds T.tw).map (·.id)).Nodup) && decide ((T.gv.map (·.1)).Nodup) && okW T.ds (gcT T.gv) T.gv T.tw && (T.ds.all (chD T.ds T.tw (gcT T.gv)) && T.gv.all (fun g => cOk g.2.2) && decide (T.tk.x = "_law_taken") && decide (T.tk.fn.np = 2) && decide (T.lw.fn.np = 1) && decide (T.tk.N = (["_law_row", "_law_many", "_law_found", "_law_cell"] : List Str)) &&
  C8.scC T.tk.N (["_law_row", "_law_many"] : List Str) T.tk.sc && chTk { N := T.tk.N, sc := T.tk.sc, fn := [], gc := [] } T.tk.body && C8.scC T.lw.N (T.lw.N.take 1) T.lw.sc && decide (1 ≤ T.lw.N.length) &&
  chLaw (nwT (allT T.ds T.tw)) (ccT T.ds T.tw (gcT T.gv) T.lw) T.row T.body T.lw.body)
/-- what the law computes, its defs at a level -/
def Text.run (T : Text) (C l : Nat) : Res PV := exSs (glT T.tw C T.gv) (callF (fnT (allT T.ds T.tw)) (glT T.tw C T.gv) l) (lawS T.lw.N.length T.row) T.body >>= endV
/-- the law's answer is True, whatever is drawn -/
structure Vok (T : Text) (l : Nat) : Prop where
  out : ∀ C, (T.run C l).wp (fun p => isTr p = true) No
section
variable {P : Program} {w : World} {K : PySem.W.Frag} {mg : Str → Option Value} {h : Heap}
theorem fact_mem {fa : List He.Fa} {fn : List He.DefD} (c : He.SaysD fa fn K) {f : He.Fa} (hf : f ∈ fa) : f.ok K = true := by
  obtain ⟨i, hi⟩ := List.getElem?_of_mem hf
  exact c.fact i hi
theorem dm_mem {fa : List He.Fa} {fn : List He.DefD} (c : He.SaysD fa fn K) {d : Df} {x : Str} (hf : d.dm x ∈ fn) : ∃ fd, FunD K d.x d.q d.params d.body d.sc [] [] (He.fAd K (x, some d.x)) fd := by
  obtain ⟨i, hi⟩ := List.getElem?_of_mem hf
  exact c.def_ i hi
theorem def_mem {fa : List He.Fa} {fn : List He.DefD} (c : He.SaysD fa fn K) {d : Df} (hf : d.dd ∈ fn) : ∃ fd, FunD K d.x d.q d.params d.body d.sc [] [] (He.fAd K (d.x, none)) fd := by
  obtain ⟨i, hi⟩ := List.getElem?_of_mem hf
  exact c.def_ i hi
theorem text_facts {T : Text} (ok : T.ok = true) (hb : AllB T.bs) (hbt : BindsOk T.tk) (hbl : BindsOk T.lw) (l : Nat) (hv : Vok T l)
    {f : Addr} (X : K.In h) (G : h.Ns mainGlobals mg) (hfa : mg T.lw.x = some (.ref f)) (c : He.SaysD (faT T.ds T.tw T.tk T.lw T.gv) (fnL T.ds T.tw T.tk T.lw) K) :
    ∃ fd : FuncData, (∀ (s : Shared) (us : List Value), us.length = 1 → BindsTo s fd ⟨us, []⟩ ((T.lw.N.take 1).zip us)) ∧ ∀ base : Heap, K.In base → base.Ns mainGlobals mg → FnOk P w K mg base CX0 (1 + 2 * l + 1) f fd (T.lw.N.take 1) (spL K) := by
  unfold Text.ok at ok
  simp only [Bool.and_eq_true, decide_eq_true_eq] at ok
  obtain ⟨⟨⟨n1, n2⟩, n3⟩, ⟨⟨⟨⟨⟨⟨⟨⟨⟨⟨o1, o2⟩, o3⟩, o4⟩, o5⟩, o6⟩, o7⟩, o8⟩, o9⟩, o10⟩, o11⟩⟩ := ok
  have glo : ∀ x, He.Fa.glo x ∈ faT T.ds T.tw T.tk T.lw T.gv → mg x = some (.ref (He.ga K x)) := fun x hx => He.glo_ok X G (fact_mem c hx)
  have bi : ∀ x ∈ biNames, mg (Str.ofString x) = none := fun x hx => He.free_ok X G (fact_mem c (by
    unfold faT
    exact List.mem_append_right _ (List.mem_append_left _ (List.mem_append_right _ (List.mem_append_right _ (List.mem_map_of_mem hx))))))
  obtain ⟨fd, F⟩ := def_mem c (d := T.lw) (by unfold fnL; simp)
  obtain ⟨fdt, Ft⟩ := def_mem c (d := T.tk) (by unfold fnL; simp)
  have gl := glo T.lw.x (by unfold faT; simp)
  have gt := glo T.tk.x (by unfold faT; simp)
  have ef : f = He.ga K T.lw.x := by
    rw [hfa] at gl
    cases gl
    rfl
  have bt : Binds K fdt (T.tk.N.take T.tk.fn.np) [] := Ft.bindsN hbt
  have etk : T.tk.N.take T.tk.fn.np = (["_law_row", "_law_many"] : List Str) := by rw [o6, o4]; rfl
  rw [etk] at bt
  refine ⟨fd, fun s us hl => ?_, fun base hK hG => ?_⟩
  · have ez : (T.lw.N.take 1).length = 1 := by rw [List.length_take]; omega
    have := FunD.bindsA (ps := T.lw.N.take T.lw.fn.np) F hbl s us (by rw [o5, ez]; exact hl)
    rw [o5] at this
    exact this
  · obtain ⟨C, hC⟩ : ∃ C : Nat, ∀ t, T.tw = some t → C = He.ga K t.x := by
      cases T.tw with
      | none => exact ⟨0, fun t h => by cases h⟩
      | some t => exact ⟨He.ga K t.x, fun t' h => by cases h; rfl⟩
    have gcs' : ∀ x g, (x, g) ∈ gcT T.gv → ∃ p, (g, x, p) ∈ T.gv ∧ glT T.tw C T.gv g = some p := fun x g hg => by
      obtain ⟨p, hm⟩ := gcT_mem hg
      have hp' : T.gv.find? (fun e => e.1 == g) = some (g, x, p) := find_nodup (f := fun e => e.1) n2 hm
      refine ⟨p, hm, ?_⟩
      unfold glT
      cases ht : T.tw with
      | none => rw [hp']; rfl
      | some t =>
        rw [ht] at n3
        simp only [okW, Bool.and_eq_true, Bool.not_eq_true'] at n3
        have : (g == t.g) = false := by
          cases q : g == t.g with
          | false => rfl
          | true =>
            have e := eq_of_beq q
            have h1 := n3.1.2
            rw [List.contains_iff_mem.mpr (by rw [← e]; exact List.mem_map.mpr ⟨_, hm, rfl⟩)] at h1
            cases h1
        simp only [this, Bool.false_eq_true, if_false, hp']; rfl
    have M : Mod P w K mg base T.ds T.tw (gcT T.gv) (glT T.tw C T.gv) 1 := by
      refine ⟨fun d hd => ?_, ⟨_, fdt, (["_law_row", "_law_many"] : List Str), ?_, Ft.kp, bt, ?_⟩, fun x g hg => ?_, bi, o1, n1, Nat.le_refl _, fun t ht => ?_⟩
      · obtain ⟨fd', F'⟩ := def_mem c (d := d) (by unfold fnL; exact List.mem_append_left _ (List.mem_map_of_mem hd))
        refine ⟨_, fd', glo d.x ?_, F', F'.bindsN (allB_mem hb (by unfold Text.bs; exact List.mem_append_left _ hd))⟩
        unfold faT
        exact List.mem_append_left _ (List.mem_map.mpr ⟨d, hd, rfl⟩)
      · rw [← o3]; exact gt
      · exact tk_ok (c := { N := T.tk.N, sc := T.tk.sc, fn := [], gc := [] }) Ft o6 o7 o8 (bi "int" (by simp [biNames])) (bi "len" (by simp [biNames])) 0
      · obtain ⟨p, hm, hg'⟩ := gcs' x g hg
        have hc : cOk p = true := List.all_eq_true.mp o2 _ hm
        have hf : faC (x, p) ∈ faT T.ds T.tw T.tk T.lw T.gv := by
          unfold faT
          exact List.mem_append_right _ (List.mem_append_left _ (List.mem_append_right _ (List.mem_append_left _ (List.mem_map.mpr ⟨_, hm, rfl⟩))))
        cases p with
        | int i =>
          obtain ⟨t, ht⟩ := He.int_ok X G (fact_mem c hf)
          exact ⟨.int i, _, .int i, hg', ht, ⟨t, rfl⟩, fun H Rw O => ⟨r_int i, fun H0 => (show Rep _ _ _ _ _ from r_int i)⟩⟩
        | str s =>
          obtain ⟨t, ht⟩ := He.str_ok X G (fact_mem c hf)
          simp only [cOk, Bool.and_eq_true, decide_eq_true_eq, List.all_eq_true] at hc
          have ok : OkS s := ⟨Nat.le_trans hc.1 (by decide), hc.2⟩
          exact ⟨.str s, _, .str (toStr s), hg', ht, ⟨t, rfl⟩, fun H Rw O => ⟨r_str ok, fun H0 => (show Rep _ _ _ _ _ from r_str ok)⟩⟩
        | _ => cases hc
      · have hCt := hC t ht
        subst hCt
        have n3' := n3
        rw [ht] at n3'
        simp only [okW, Bool.and_eq_true, Bool.not_eq_true', decide_eq_true_eq] at n3'
        obtain ⟨⟨⟨⟨m1, m2⟩, m3⟩, m4⟩, m5⟩ := n3'
        have fW : ∀ x ∈ faW T.tw, x ∈ faT T.ds T.tw T.tk T.lw T.gv := fun x hx => by
          unfold faT
          exact List.mem_append_right _ (List.mem_append_right _ hx)
        have dW : ∀ x ∈ fnW T.tw, x ∈ fnL T.ds T.tw T.tk T.lw := fun x hx => by
          unfold fnL
          exact List.mem_append_right _ (List.mem_append_right _ hx)
        rw [ht] at fW dW
        have q1 := glo t.x (by rw [ht]; exact fW (.glo t.x) (by simp [faW]))
        have q2 := He.cls_ok (x := t.x) (fact_mem c (by rw [ht]; exact fW (.cls t.x) (by simp [faW])))
        have q3 := He.mkr_ok (x := t.x) (fact_mem c (by rw [ht]; exact fW (.mkr t.x) (by simp [faW])))
        have q4 : ∀ n ∈ tNames, NoAttr K (He.ga K t.x) n := fun n hn => He.noat_ok (fact_mem c (by
          rw [ht]
          refine fW (.noat t.x n) ?_
          unfold faW
          exact List.mem_append_right _ (List.mem_append_left _ (List.mem_map_of_mem hn))))
        have q5 : ∀ d ∈ t.ms, Meth K (He.ga K t.x) d.x (He.ma K (He.ga K t.x) d.x) := fun d hd => He.meth_ok (fact_mem c (by
          rw [ht]
          refine fW (.meth t.x d.x) ?_
          unfold faW
          exact List.mem_append_right _ (List.mem_append_right _ (List.mem_map.mpr ⟨d, hd, rfl⟩))))
        refine ⟨m1, ?_, He.ga K t.x, ?_, q1, q2, q4, fun d hd => ?_, ?_⟩
        · have hne : (t.gL == t.g) = false := by
            cases q : t.gL == t.g with
            | false => rfl
            | true =>
              have e := eq_of_beq q
              cases hf : T.gv.find? (fun e => e.1 == t.gL) with
              | none => rw [hf] at m5; cases m5
              | some z =>
                have h1 := List.mem_of_find?_eq_some hf
                have h2 := List.find?_some hf
                have h3 : z.1 = t.g := by rw [← e]; simpa using h2
                rw [List.contains_iff_mem.mpr (by rw [← h3]; exact List.mem_map.mpr ⟨_, h1, rfl⟩)] at m4
                cases m4
          unfold glT
          rw [ht]
          simp only [hne, Bool.false_eq_true, if_false]
          cases hf : T.gv.find? (fun e => e.1 == t.gL) with
          | none => rw [hf] at m5; cases m5
          | some z =>
            rw [hf] at m5
            obtain ⟨a, b, v⟩ := z
            cases v with
            | str s =>
              have : s = abc := by simpa using m5
              subst this
              rfl
            | _ => cases m5
        · unfold glT
          rw [ht]
          simp
        · obtain ⟨fd', F'⟩ := dm_mem c (d := d) (x := t.x) (by rw [ht]; exact dW _ (by unfold fnW; exact List.mem_cons_of_mem _ (List.mem_map_of_mem hd)))
          exact ⟨_, fd', q5 d hd, F', F'.bindsN (allB_mem hb (by unfold Text.bs; rw [ht]; exact List.mem_append_right _ (List.mem_cons_of_mem _ hd)))⟩
        · obtain ⟨fd', F'⟩ := dm_mem c (d := t.ini) (x := t.x) (by rw [ht]; exact dW _ (by unfold fnW; exact List.mem_cons_self))
          have hbi : BindsOk t.ini := allB_mem hb (by unfold Text.bs; rw [ht]; exact List.mem_append_right _ List.mem_cons_self)
          have hbi' := F'.bindsN hbi
          rw [m3] at hbi'
          have ea : He.fAd K (t.x, some t.ini.x) = He.ma K (He.ga K t.x) "__init__" := by rw [m2]; rfl
          refine ⟨_, fd', ?_, F', hbi'⟩
          rw [ea]
          exact q3
    rw [ef]
    exact law_ok (m := mdT P w K mg base T.ds T.tw (glT T.tw C T.gv) 1 l) (c := ccT T.ds T.tw (gcT T.gv) T.lw) (M.mok T.lw l) F o9 o10 o11 (hv.out C)
end
theorem sqF_of {K : PySem.W.Frag} {H : Hp} {a : Addr} {xs : List V} (ho : Only H) (h : SqL K H a xs) : SqF K H a xs := by
  rcases h with (h | ⟨o, h⟩) | h
  · rcases ho a with e | ⟨o, ys, e⟩
    · rw [e] at h; cases h
    · rw [e] at h; cases h
  · exact .inl ⟨o, h⟩
  · exact .inr fun H' => .inr h
end Ev
set_option autoImplicit false
set_option linter.all false
set_option Elab.async false
set_option maxRecDepth 100000
/-! EvR: rules by which a compact def is run on symbols. -/
namespace Ev
open Res
/-- all outcomes are as Q and E say; b: there may be draws -/
def Dw0 {α : Type} (b : Bool) (E : PV → Prop) : Res α → (α → Prop) → Prop
  | .ok a, Q => Q a
  | .err e, _ => E e
  | .no, _ => False
  | .draw m k, Q => b = true ∧ ∀ i, i < m → Dw0 b E (k i) Q
/-- (its argument keeps the simplifier out of Q) -/
structure Dum {α : Type} (Q : α → Prop) : Type where
/-- .. shut, so that nothing unfolds it -/
structure Dw {α : Type} (b : Bool) (E : PV → Prop) (r : Res α) (Q : α → Prop) (d : Dum Q := ⟨⟩) : Prop where
  out : Dw0 b E r Q
section
variable {α β : Type} {b : Bool} {E : PV → Prop}
theorem dw_iff {r : Res α} {Q : α → Prop} : Dw b E r Q = Dw0 b E r Q := propext ⟨fun h => h.out, fun h => ⟨h⟩⟩
theorem dw_congr {r r' : Res α} {Q : α → Prop} (h : r = r') : Dw b E r Q = Dw b E r' Q := by rw [h]
theorem dw0_ok {a : α} {Q : α → Prop} : Dw0 b E (.ok a) Q = Q a := rfl
theorem dw0_no {Q : α → Prop} : Dw0 b E (.no) Q = False := rfl
theorem dw0_bind {r : Res α} {f : α → Res β} {Q : β → Prop} : Dw0 b E (r >>= f) Q = Dw0 b E r (fun a => Dw0 b E (f a) Q) := by
  induction r with
  | ok a => rfl
  | err e => rfl
  | no => rfl
  | draw m k ih => exact congrArg (b = true ∧ ·) (propext ⟨fun h i hi => by rw [← ih i]; exact h i hi, fun h i hi => by have := h i hi; rw [← ih i] at this; exact this⟩)
theorem dw_ok {a : α} {Q : α → Prop} : Dw b E (.ok a) Q = Q a := dw_iff
theorem dw_err {e : PV} {Q : α → Prop} : Dw b E (.err e) Q = E e := dw_iff
theorem dw_no {Q : α → Prop} : Dw b E (.no) Q = False := dw_iff
theorem dw_draw0 {m : Nat} {k : Nat → Res α} {Q : α → Prop} : Dw b E (.draw m k) Q = (b = true ∧ ∀ i, i < m → Dw b E (k i) Q) := by simp only [dw_iff, Dw0]
theorem dw_draw {m : Nat} {k : Nat → Res α} {Q : α → Prop} : Dw true E (.draw m k) Q = ∀ i, i < m → Dw true E (k i) Q := by simp [dw_draw0]
theorem dw_q {r : Res α} {Q Q' : α → Prop} (h : ∀ a, Q a = Q' a) : Dw b E r Q = Dw b E r Q' := by rw [show Q = Q' from funext h]
theorem dw_bind {r : Res α} {f : α → Res β} {Q : β → Prop} : Dw b E (r >>= f) Q = Dw b E r (fun a => Dw b E (f a) Q) := by
  simp only [dw_iff, dw0_bind]
theorem dw_eq {r : Res α} {a : α} : (r = .ok a) = Dw false (fun _ => False) r (fun x => x = a) := by
  rw [dw_iff]
  apply propext
  cases r <;> simp [Dw0]
theorem dw_err_eq {r : Res α} {e : PV} : (r = .err e) = Dw false (fun x => x = e) r (fun _ => False) := by
  rw [dw_iff]
  apply propext
  cases r <;> simp [Dw0]
theorem dw_imp {r : Res α} {Q Q' : α → Prop} (h : Dw b E r Q) (hQ : ∀ a, Q a → Q' a) : Dw b E r Q' := by
  induction r with
  | ok a => rw [dw_ok] at h ⊢; exact hQ a h
  | err e => rw [dw_err] at h ⊢; exact h
  | no => rw [dw_no] at h; exact h.elim
  | draw m k ih => rw [dw_draw0] at h ⊢; exact ⟨h.1, fun i hi => ih i (h.2 i hi)⟩
theorem dw_of_eq {r : Res α} {a : α} {Q : α → Prop} (h : r = .ok a) (q : Q a) : Dw b E r Q := by rw [h, dw_ok]; exact q
theorem dw_wp {r : Res α} {Q : α → Prop} (h : Dw true E r Q) : r.wp Q E := by
  have h := h.out
  induction r with
  | ok a => exact h
  | err e => exact h
  | no => exact h
  | draw m k ih => exact fun i hi => ih i ⟨h.2 i hi⟩ (h.2 i hi)
theorem dw_ok' {r : Res α} {Q : α → Prop} (h : Dw false (fun _ => False) r Q) : ∃ a, r = .ok a ∧ Q a := by
  have h := h.out
  cases r with
  | ok a => exact ⟨a, rfl, h⟩
  | err e => exact h.elim
  | no => exact h.elim
  | draw m k => cases h.1
theorem dw_err' {r : Res α} {Q : α → Prop} (h : Dw false E r Q) (hQ : ∀ a, ¬ Q a) : ∃ e, r = .err e ∧ E e := by
  have h := h.out
  cases r with
  | ok a => exact (hQ a h).elim
  | err e => exact ⟨e, rfl, h⟩
  | no => exact h.elim
  | draw m k => cases h.1
end
/-- if, as a def that the simplifier leaves alone -/
structure Dum2 (p q : Prop) : Type where
structure Ite (t : Bool) (p q : Prop) (d : Dum2 p q := ⟨⟩) : Prop where
  out : if t = true then p else q
theorem ite_congr' {t t' : Bool} {p q : Prop} (h : t = t') : Ite t p q = Ite t' p q := by rw [h]
theorem ite_t {p q : Prop} : Ite true p q = p := propext ⟨fun h => h.out, fun h => ⟨h⟩⟩
theorem ite_f {p q : Prop} : Ite false p q = q := propext ⟨fun h => h.out, fun h => ⟨h⟩⟩
theorem ite_by {t : Bool} {p q : Prop} (h1 : t = true → p) (h2 : t = false → q) : Ite t p q := by
  cases t
  · rw [ite_f]; exact h2 rfl
  · rw [ite_t]; exact h1 rfl
def frzV (s : Stt) (i : Nat) : Slt → Stt
  | .own v => s.set i (.shr v)
  | _ => s
def lstP : PV → Option Unit
  | .lst _ => some ()
  | _ => none
def rowP : Slt → Option Unit
  | .shr .row => some ()
  | _ => none
def negP : PV → Res PV
  | .int i => .ok (.int (-i))
  | _ => .no
def drwP : PV → Res PV
  | .int k => if 0 < k && decide (k < 1073741824) then .draw k.toNat fun i => .ok (.int i) else .no
  | _ => .no
def rawV (r : Bool) (v : PV) : Res PV := if r && !flat 8 v then .no else .ok v
theorem rawV_f {v : PV} : rawV false v = .ok v := rfl
theorem rawV_s {r : Bool} {x : List Nat} : rawV r (.str x) = .ok (.str x) := by cases r <;> rfl
theorem rawV_i {r : Bool} {x : Int} : rawV r (.int x) = .ok (.int x) := by cases r <;> rfl
theorem rawV_b {r : Bool} {x : Bool} : rawV r (.bl x) = .ok (.bl x) := by cases r <;> rfl
theorem rawV_n {r : Bool} : rawV r .non = .ok .non := by cases r <;> rfl
def rng1P : PV → Res (List PV)
  | .int i => if sm62 i then .ok (rangeL 0 i.toNat) else .no
  | _ => .no
def rng2P : PV → PV → Res (List PV)
  | .int i, .int j => if sm62 i && sm62 j then .ok (rangeL i (j - i).toNat) else .no
  | _, _ => .no
/-- what follows a statement -/
def K (b : Bool) (E : PV → Prop) (gl : Nat → Option PV) (cl : Nat → List PV → Res PV) (r : CSs) (Q : Fl × Stt → Prop) : Fl × Stt → Prop
  | (.next, s') => Dw b E (exSs gl cl s' r) Q
  | (f, s') => Q (f, s')
section
variable {b : Bool} {E : PV → Prop} {gl : Nat → Option PV} {cl : Nat → List PV → Res PV} {s s' : Stt} {r : CSs} {Q : Fl × Stt → Prop}
theorem kk_next : K b E gl cl r Q (.next, s') = Dw b E (exSs gl cl s' r) Q := rfl
theorem kk_ret {v : PV} : K b E gl cl r Q (.ret v, s') = Q (.ret v, s') := rfl
theorem kk_brk : K b E gl cl r Q (.brk, s') = Q (.brk, s') := rfl
theorem d_nil : Dw b E (exSs gl cl s .nil) Q = Q (.next, s) := dw_ok
theorem d_cons {c : CS} : Dw b E (exSs gl cl s (.cons c r)) Q = Dw b E (exS gl cl s c) (K b E gl cl r Q) := by
  simp only [dw_iff, exSs, dw0_bind]
  congr 1
  funext q
  obtain ⟨f, t⟩ := q
  cases f <;> simp only [K, dw_iff, Dw0]
theorem d_frz {i : Nat} : Dw b E (exSs gl cl s (.frz i r)) Q = Dw b E (exSs gl cl (frzV s i (getS s i)) r) Q := by
  simp only [exSs]
  cases getS s i <;> rfl
theorem d_kil {i : Nat} : Dw b E (exSs gl cl s (.kil i r)) Q = Dw b E (exSs gl cl (s.set i .no) r) Q := rfl
theorem d_ret {e : CE} {P : Fl × Stt → Prop} : Dw b E (exS gl cl s (.ret e)) P = Dw b E (evE gl cl s e) (fun v => P (.ret v, s)) := by simp only [dw_iff, exS, dw0_bind, dw0_ok]
theorem d_set {i : Nat} {e : CE} {P : Fl × Stt → Prop} : Dw b E (exS gl cl s (.set i e)) P = Dw b E (evE gl cl s e) (fun v => P (.next, s.set i (.shr v))) := by simp only [dw_iff, exS, dw0_bind, dw0_ok]
theorem d_own {i : Nat} {e : CE} {P : Fl × Stt → Prop} : Dw b E (exS gl cl s (.own i e)) P = Dw b E (evE gl cl s e) (fun v => P (.next, s.set i (mkOwn v))) := by simp only [dw_iff, exS, dw0_bind, dw0_ok]
theorem d_par2 {o1 o2 : Bool} {i j : Nat} {e f : CE} {P : Fl × Stt → Prop} : Dw b E (exS gl cl s (.par2 o1 i e o2 j f)) P = Dw b E (evE gl cl s e) (fun v => Dw b E (evE gl cl s f) (fun w => P (.next, (s.set i (mkS o1 v)).set j (mkS o2 w)))) := by simp only [dw_iff, exS, dw0_bind, dw0_ok]
theorem d_par3 {o1 o2 o3 : Bool} {i j k : Nat} {e f g : CE} {P : Fl × Stt → Prop} : Dw b E (exS gl cl s (.par3 o1 i e o2 j f o3 k g)) P = Dw b E (evE gl cl s e) (fun v => Dw b E (evE gl cl s f) (fun w => Dw b E (evE gl cl s g) (fun u => P (.next, ((s.set i (mkS o1 v)).set j (mkS o2 w)).set k (mkS o3 u))))) := by simp only [dw_iff, exS, dw0_bind, dw0_ok]
theorem d_unp {ts : CTs} {e : CE} {P : Fl × Stt → Prop} : Dw b E (exS gl cl s (.unp ts e)) P = Dw b E (evE gl cl s e) (fun v => Dw b E (ofO (bindT (.tp ts) v s)) (fun s' => P (.next, s'))) := by simp only [dw_iff, exS, dw0_bind, dw0_ok]
theorem d_parn {ts : List (Bool × Nat)} {es : CEs} {P : Fl × Stt → Prop} : Dw b E (exS gl cl s (.parn ts es)) P = Dw b E (evEs gl cl s es) (fun vs => Dw b E (ofO (storeN ts vs s)) (fun s' => P (.next, s'))) := by simp only [dw_iff, exS, dw0_bind, dw0_ok]
theorem d_pars {ts : List Tg} {es : CEs} {P : Fl × Stt → Prop} : Dw b E (exS gl cl s (.pars ts es)) P = Dw b E (evEs gl cl s es) (fun vs => Dw b E (storeT gl cl ts vs s) (fun s' => P (.next, s'))) := by simp only [dw_iff, exS, dw0_bind, dw0_ok]
theorem sn_nil : storeN [] [] s = some s := rfl
theorem sn_cons {o : Bool} {i : Nat} {ts : List (Bool × Nat)} {v : PV} {vs : List PV} : storeN ((o, i) :: ts) (v :: vs) s = storeN ts vs (s.set i (mkS o v)) := rfl
theorem st_nil {Q : Stt → Prop} : Dw b E (storeT gl cl [] [] s) Q = Q s := dw_ok
theorem st_nm {i : Nat} {ts : List Tg} {v : PV} {vs : List PV} {Q : Stt → Prop} : Dw b E (storeT gl cl (.nm i :: ts) (v :: vs) s) Q = Dw b E (storeT gl cl ts vs (s.set i (.shr v))) Q := rfl
theorem st_sub {i : Nat} {ix : CE} {ts : List Tg} {v : PV} {vs : List PV} {Q : Stt → Prop} : Dw b E (storeT gl cl (.sub i ix :: ts) (v :: vs) s) Q = Dw b E (ofO (getS s i).own?) (fun o => Dw b E (evE gl cl s ix) (fun x => Dw b E (ofO (setAt o x v)) (fun o' => Dw b E (storeT gl cl ts vs (s.set i (.own o'))) Q))) := by simp only [dw_iff, storeT, dw0_bind]
theorem d_seti {i : Nat} {ix e : CE} {P : Fl × Stt → Prop} : Dw b E (exS gl cl s (.seti i ix e)) P = Dw b E (evE gl cl s e) (fun v => Dw b E (ofO (getS s i).own?) (fun o => Dw b E (evE gl cl s ix) (fun x => Dw b E (ofO (setAt o x v)) (fun o' => P (.next, s.set i (.own o')))))) := by simp only [dw_iff, exS, dw0_bind, dw0_ok]
theorem d_aug {i : Nat} {o : BOp} {e : CE} {P : Fl × Stt → Prop} : Dw b E (exS gl cl s (.aug i o e)) P = Dw b E (ofO (getS s i).shr?) (fun x => Dw b E (evE gl cl s e) (fun y => Dw b E (ofO (ibinP o x y)) (fun v => P (.next, s.set i (.shr v))))) := by simp only [dw_iff, exS, dw0_bind, dw0_ok]
theorem d_augi {i : Nat} {o : BOp} {ix e : CE} {P : Fl × Stt → Prop} : Dw b E (exS gl cl s (.augi i ix o e)) P = Dw b E (ofO (getS s i).own?) (fun q => Dw b E (evE gl cl s ix) (fun x => Dw b E (ofO (idxP q x)) (fun old => Dw b E (evE gl cl s e) (fun y => Dw b E (ofO (ibinP o old y)) (fun v => Dw b E (ofO (setAt q x v)) (fun q' => P (.next, s.set i (.own q')))))))) := by simp only [dw_iff, exS, dw0_bind, dw0_ok]
theorem d_app {i : Nat} {e : CE} {P : Fl × Stt → Prop} : Dw b E (exS gl cl s (.app i e)) P = Dw b E (ofO (getS s i).own?) (fun o => Dw b E (ofO (lstP o)) (fun _ => Dw b E (evE gl cl s e) (fun v => Dw b E (ofO (appL o v)) (fun o' => P (.next, s.set i (.own o')))))) := by
  simp only [dw_iff, exS, dw0_bind]
  congr 1; funext o
  cases o <;> simp only [isLst, lstP, if_true, Bool.false_eq_true, if_false, dw0_bind, dw0_ok, dw0_no, ofO_some, ofO_none]
theorem d_pop {i : Nat} {t : CT} {P : Fl × Stt → Prop} : Dw b E (exS gl cl s (.pop t i)) P = Dw b E (ofO (getS s i).own?) (fun o => Dw b E (ofO (popL o)) (fun vo => Dw b E (ofO (bindT t vo.1 (s.set i (.own vo.2)))) (fun s' => P (.next, s')))) := by simp only [dw_iff, exS, dw0_bind, dw0_ok]
theorem d_expr {e : CE} {P : Fl × Stt → Prop} : Dw b E (exS gl cl s (.expr e)) P = Dw b E (evE gl cl s e) (fun v => P (.next, s)) := by simp only [dw_iff, exS, dw0_bind, dw0_ok]
theorem d_reto {i : Nat} {P : Fl × Stt → Prop} : Dw b E (exS gl cl s (.reto i)) P = Dw b E (ofO (getS s i).own?) (fun v => P (.ret v, s)) := by simp only [dw_iff, exS, dw0_bind, dw0_ok]
theorem d_rett {es : CEs} {P : Fl × Stt → Prop} : Dw b E (exS gl cl s (.rett es)) P = Dw b E (evEs gl cl s es) (fun vs => P (.ret (.tup vs), s)) := by simp only [dw_iff, exS, dw0_bind, dw0_ok]
theorem d_ifs {c : CE} {x y : CSs} {P : Fl × Stt → Prop} : Dw b E (exS gl cl s (.ifs c x y)) P = Dw b E (evE gl cl s c) (fun v => Dw b E (ofO (truthP v)) (fun t => Ite t (Dw b E (exSs gl cl s x) P) (Dw b E (exSs gl cl s y) P))) := by
  simp only [dw_iff, exS, dw0_bind]
  congr 1; funext v; congr 1; funext t
  cases t <;> simp only [if_true, Bool.false_eq_true, if_false, ite_t, ite_f, dw_iff, dw0_ok]
theorem d_brk {P : Fl × Stt → Prop} : Dw b E (exS gl cl s .brk) P = P (.brk, s) := dw_ok
theorem d_doc {P : Fl × Stt → Prop} : Dw b E (exS gl cl s .doc) P = P (.next, s) := dw_ok
theorem d_for {t : CT} {sr : CR} {x : CSs} {P : Fl × Stt → Prop} : Dw b E (exS gl cl s (.for t sr x)) P = Dw b E (evR gl cl s sr) (fun xs => Dw b E (forL t (fun s => exSs gl cl s x) xs s) P) := by simp only [dw_iff, exS, dw0_bind]
theorem d_whl {c : CE} {x : CSs} {P : Fl × Stt → Prop} : Dw b E (exS gl cl s (.whl c x)) P = Dw b E (whileL (fun s => evE gl cl s c) (fun s => exSs gl cl s x) most s) P := by simp only [dw_iff, exS]


variable {P : PV → Prop}
theorem e_con {v : PV} : Dw b E (evE gl cl s (.con v)) P = P v := dw_ok
theorem e_var {i : Nat} : Dw b E (evE gl cl s (.var i)) P = Dw b E (ofO (getS s i).shr?) P := rfl
theorem e_bor {i : Nat} : Dw b E (evE gl cl s (.bor i)) P = Dw b E (ofO (getS s i).val?) P := rfl
theorem e_glo {i : Nat} : Dw b E (evE gl cl s (.glo i)) P = Dw b E (ofO (gl i)) P := rfl
theorem e_bin {o : BOp} {x y : CE} : Dw b E (evE gl cl s (.bin o x y)) P = Dw b E (evE gl cl s x) (fun v => Dw b E (evE gl cl s y) (fun w => Dw b E (ofO (binP o v w)) P)) := by simp only [dw_iff, evE, dw0_bind, dw0_ok]
theorem e_cmp {o : COp} {x y : CE} : Dw b E (evE gl cl s (.cmp o x y)) P = Dw b E (evE gl cl s x) (fun v => Dw b E (evE gl cl s y) (fun w => Dw b E (ofO (cmpP o v w)) (fun t => P (.bl t)))) := by simp only [dw_iff, evE, dw0_bind, dw0_ok]
theorem e_cmp2 {o p : COp} {x y z : CE} : Dw b E (evE gl cl s (.cmp2 o p x y z)) P = Dw b E (evE gl cl s x) (fun v => Dw b E (evE gl cl s y) (fun w => Dw b E (ofO (cmpP o v w)) (fun t => Ite t (Dw b E (evE gl cl s z) (fun u => Dw b E (ofO (cmpP p w u)) (fun q => P (.bl q)))) (P (.bl false))))) := by
  simp only [dw_iff, evE, dw0_bind]
  congr 1; funext v; congr 1; funext w; congr 1; funext t
  cases t <;> simp only [if_true, Bool.false_eq_true, if_false, ite_t, ite_f, dw_iff, dw0_bind, dw0_ok]
theorem e_neg {x : CE} : Dw b E (evE gl cl s (.neg x)) P = Dw b E (evE gl cl s x) (fun v => Dw b E (negP v) P) := by
  simp only [dw_iff, evE, dw0_bind]
  congr 1
theorem e_not {x : CE} : Dw b E (evE gl cl s (.not x)) P = Dw b E (evE gl cl s x) (fun v => Dw b E (ofO (truthP v)) (fun t => P (.bl (!t)))) := by simp only [dw_iff, evE, dw0_bind, dw0_ok]
theorem e_and {x y : CE} : Dw b E (evE gl cl s (.and x y)) P = Dw b E (evE gl cl s x) (fun v => Dw b E (ofO (truthP v)) (fun t => Ite t (Dw b E (evE gl cl s y) P) (P v))) := by
  simp only [dw_iff, evE, dw0_bind]
  congr 1; funext v; congr 1; funext t
  cases t <;> simp only [if_true, Bool.false_eq_true, if_false, ite_t, ite_f, dw_iff, dw0_ok]
theorem e_or {x y : CE} : Dw b E (evE gl cl s (.or x y)) P = Dw b E (evE gl cl s x) (fun v => Dw b E (ofO (truthP v)) (fun t => Ite t (P v) (Dw b E (evE gl cl s y) P))) := by
  simp only [dw_iff, evE, dw0_bind]
  congr 1; funext v; congr 1; funext t
  cases t <;> simp only [if_true, Bool.false_eq_true, if_false, ite_t, ite_f, dw_iff, dw0_ok]
theorem e_ifx {c x y : CE} : Dw b E (evE gl cl s (.ifx c x y)) P = Dw b E (evE gl cl s c) (fun v => Dw b E (ofO (truthP v)) (fun t => Ite t (Dw b E (evE gl cl s x) P) (Dw b E (evE gl cl s y) P))) := by
  simp only [dw_iff, evE, dw0_bind]
  congr 1; funext v; congr 1; funext t
  cases t <;> simp only [if_true, Bool.false_eq_true, if_false, ite_t, ite_f, dw_iff, dw0_ok]
theorem e_tup {es : CEs} : Dw b E (evE gl cl s (.tup es)) P = Dw b E (evEs gl cl s es) (fun vs => P (.tup vs)) := by simp only [dw_iff, evE, dw0_bind, dw0_ok]
theorem e_lst {es : CEs} : Dw b E (evE gl cl s (.lst es)) P = Dw b E (evEs gl cl s es) (fun vs => P (.lst vs)) := by simp only [dw_iff, evE, dw0_bind, dw0_ok]
theorem e_dic0 : Dw b E (evE gl cl s .dic0) P = P (.dic []) := dw_ok
theorem e_idx {x y : CE} : Dw b E (evE gl cl s (.idx x y)) P = Dw b E (evE gl cl s x) (fun v => Dw b E (evE gl cl s y) (fun w => Dw b E (ofO (idxP v w)) P)) := by simp only [dw_iff, evE, dw0_bind]
theorem e_cut {x lo hi : CE} : Dw b E (evE gl cl s (.cut x lo hi)) P = Dw b E (evE gl cl s x) (fun v => Dw b E (optE (isNop lo) (evE gl cl s lo)) (fun l => Dw b E (optE (isNop hi) (evE gl cl s hi)) (fun h => Dw b E (ofO (cutP v l h)) P))) := by simp only [dw_iff, evE, dw0_bind]
theorem o_nop {r : Res PV} {P : Option Int → Prop} : Dw b E (optE true r) P = P none := dw_ok
theorem o_some {r : Res PV} {P : Option Int → Prop} : Dw b E (optE false r) P = Dw b E r (fun v => Dw b E (asI v) P) := by simp only [dw_iff, optE, dw0_bind, Bool.false_eq_true, if_false]
theorem e_rev {x : CE} : Dw b E (evE gl cl s (.rev x)) P = Dw b E (evE gl cl s x) (fun v => Dw b E (ofO (revP v)) P) := by simp only [dw_iff, evE, dw0_bind]
theorem e_bi {o : Bi} {es : CEs} : Dw b E (evE gl cl s (.bi o es)) P = Dw b E (evEs gl cl s es) (fun vs => Dw b E (ofO (biP o vs)) P) := by simp only [dw_iff, evE, dw0_bind]
theorem e_me {o : Me} {x : CE} {es : CEs} : Dw b E (evE gl cl s (.me o x es)) P = Dw b E (evE gl cl s x) (fun v => Dw b E (ofO (if meOk o v then some v else none)) (fun _ => Dw b E (evEs gl cl s es) (fun vs => Dw b E (ofO (meP o v vs)) P))) := by
  simp only [dw_iff, evE, dw0_bind]
  congr 1; funext v
  cases h : meOk o v <;> simp only [if_true, Bool.false_eq_true, if_false, dw0_bind, ofO_some, ofO_none, dw0_ok, dw0_no]
theorem e_call {f : Nat} {es : CEs} : Dw b E (evE gl cl s (.call f es)) P = Dw b E (evEs gl cl s es) (fun vs => Dw b E (cl f vs) (fun v => Dw b E (rawV (anyRaw es) v) P)) := by simp only [dw_iff, evE, dw0_bind]; rfl
theorem e_draw {i : Nat} {x : CE} : Dw b E (evE gl cl s (.draw i x)) P = Dw b E (ofO (rowP (getS s i))) (fun _ => Dw b E (evE gl cl s x) (fun v => Dw b E (drwP v) P)) := by
  cases h : getS s i with
  | no => simp only [dw_iff, evE, h, Slt.shr?, rowP, dw0_no, ofO_none]
  | own v => simp only [dw_iff, evE, h, Slt.shr?, rowP, dw0_no, ofO_none]
  | shr v =>
    cases v <;> simp only [dw_iff, evE, h, Slt.shr?, rowP, dw0_bind, dw0_ok, ofO_some, ofO_none, dw0_no] <;> (congr 1; done)
theorem e_comp {elt : CE} {t : CT} {sr : CR} {cond : CE} : Dw b E (evE gl cl s (.comp elt t sr cond)) P = Dw b E (evR gl cl s sr) (fun xs => xs.length ≤ lim ∧ Dw b E (compL t (fun s1 => evE gl cl s1 cond) (fun s1 => evE gl cl s1 elt) (wipeS s (slotsT t)) xs) (fun ys => P (.lst ys))) := by
  simp only [dw_iff, evE, dw0_bind]
  congr 1; funext xs
  by_cases h : xs.length ≤ lim
  · simp only [h, if_true, dw0_bind, dw0_ok, true_and]
  · simp only [h, if_false, false_and, dw0_no]
theorem es_nil {P : List PV → Prop} : Dw b E (evEs gl cl s .nil) P = P [] := dw_ok
theorem es_cons {e : CE} {es : CEs} {P : List PV → Prop} : Dw b E (evEs gl cl s (.cons e es)) P = Dw b E (evE gl cl s e) (fun v => Dw b E (evEs gl cl s es) (fun vs => P (v :: vs))) := by simp only [dw_iff, evEs, dw0_bind, dw0_ok]
variable {PL : List PV → Prop}
theorem r_seq {e : CE} : Dw b E (evR gl cl s (.seq e)) PL = Dw b E (evE gl cl s e) (fun v => Dw b E (ofO (items v)) PL) := by simp only [dw_iff, evR, dw0_bind]
theorem r_rng1 {e : CE} : Dw b E (evR gl cl s (.rng1 e)) PL = Dw b E (evE gl cl s e) (fun v => Dw b E (rng1P v) PL) := by
  simp only [dw_iff, evR, dw0_bind]
  congr 1
theorem r_rng2 {e f : CE} : Dw b E (evR gl cl s (.rng2 e f)) PL = Dw b E (evE gl cl s e) (fun v => Dw b E (evE gl cl s f) (fun w => Dw b E (rng2P v w) PL)) := by
  simp only [dw_iff, evR, dw0_bind]
  congr 1
theorem r_enum {e : CE} : Dw b E (evR gl cl s (.enum e)) PL = Dw b E (evE gl cl s e) (fun v => Dw b E (ofO (items v)) (fun xs => PL (enumL 0 xs))) := by simp only [dw_iff, evR, dw0_bind, dw0_ok]
theorem r_zip {e f : CE} : Dw b E (evR gl cl s (.zip e f)) PL = Dw b E (evE gl cl s e) (fun v => Dw b E (evE gl cl s f) (fun w => Dw b E (ofO (items v)) (fun xs => Dw b E (ofO (items w)) (fun ys => PL (zipL xs ys))))) := by simp only [dw_iff, evR, dw0_bind, dw0_ok]
end
section
variable {a0 a1 a2 a3 a4 a5 a6 a7 a8 a9 a10 a11 a12 a13 a14 a15 a16 : Slt} {s : Stt} {v : Slt}
theorem gs0 : getS (a0 :: s) 0 = a0 := rfl
theorem ss0 : (a0 :: s).set 0 v = v :: s := rfl
theorem gs1 : getS (a0 :: a1 :: s) 1 = a1 := rfl
theorem ss1 : (a0 :: a1 :: s).set 1 v = a0 :: v :: s := rfl
theorem gs2 : getS (a0 :: a1 :: a2 :: s) 2 = a2 := rfl
theorem ss2 : (a0 :: a1 :: a2 :: s).set 2 v = a0 :: a1 :: v :: s := rfl
theorem gs3 : getS (a0 :: a1 :: a2 :: a3 :: s) 3 = a3 := rfl
theorem ss3 : (a0 :: a1 :: a2 :: a3 :: s).set 3 v = a0 :: a1 :: a2 :: v :: s := rfl
theorem gs4 : getS (a0 :: a1 :: a2 :: a3 :: a4 :: s) 4 = a4 := rfl
theorem ss4 : (a0 :: a1 :: a2 :: a3 :: a4 :: s).set 4 v = a0 :: a1 :: a2 :: a3 :: v :: s := rfl
theorem gs5 : getS (a0 :: a1 :: a2 :: a3 :: a4 :: a5 :: s) 5 = a5 := rfl
theorem ss5 : (a0 :: a1 :: a2 :: a3 :: a4 :: a5 :: s).set 5 v = a0 :: a1 :: a2 :: a3 :: a4 :: v :: s := rfl
theorem gs6 : getS (a0 :: a1 :: a2 :: a3 :: a4 :: a5 :: a6 :: s) 6 = a6 := rfl
theorem ss6 : (a0 :: a1 :: a2 :: a3 :: a4 :: a5 :: a6 :: s).set 6 v = a0 :: a1 :: a2 :: a3 :: a4 :: a5 :: v :: s := rfl
theorem gs7 : getS (a0 :: a1 :: a2 :: a3 :: a4 :: a5 :: a6 :: a7 :: s) 7 = a7 := rfl
theorem ss7 : (a0 :: a1 :: a2 :: a3 :: a4 :: a5 :: a6 :: a7 :: s).set 7 v = a0 :: a1 :: a2 :: a3 :: a4 :: a5 :: a6 :: v :: s := rfl
theorem gs8 : getS (a0 :: a1 :: a2 :: a3 :: a4 :: a5 :: a6 :: a7 :: a8 :: s) 8 = a8 := rfl
theorem ss8 : (a0 :: a1 :: a2 :: a3 :: a4 :: a5 :: a6 :: a7 :: a8 :: s).set 8 v = a0 :: a1 :: a2 :: a3 :: a4 :: a5 :: a6 :: a7 :: v :: s := rfl
theorem gs9 : getS (a0 :: a1 :: a2 :: a3 :: a4 :: a5 :: a6 :: a7 :: a8 :: a9 :: s) 9 = a9 := rfl
theorem ss9 : (a0 :: a1 :: a2 :: a3 :: a4 :: a5 :: a6 :: a7 :: a8 :: a9 :: s).set 9 v = a0 :: a1 :: a2 :: a3 :: a4 :: a5 :: a6 :: a7 :: a8 :: v :: s := rfl
theorem gs10 : getS (a0 :: a1 :: a2 :: a3 :: a4 :: a5 :: a6 :: a7 :: a8 :: a9 :: a10 :: s) 10 = a10 := rfl
theorem ss10 : (a0 :: a1 :: a2 :: a3 :: a4 :: a5 :: a6 :: a7 :: a8 :: a9 :: a10 :: s).set 10 v = a0 :: a1 :: a2 :: a3 :: a4 :: a5 :: a6 :: a7 :: a8 :: a9 :: v :: s := rfl
theorem gs11 : getS (a0 :: a1 :: a2 :: a3 :: a4 :: a5 :: a6 :: a7 :: a8 :: a9 :: a10 :: a11 :: s) 11 = a11 := rfl
theorem ss11 : (a0 :: a1 :: a2 :: a3 :: a4 :: a5 :: a6 :: a7 :: a8 :: a9 :: a10 :: a11 :: s).set 11 v = a0 :: a1 :: a2 :: a3 :: a4 :: a5 :: a6 :: a7 :: a8 :: a9 :: a10 :: v :: s := rfl
theorem gs12 : getS (a0 :: a1 :: a2 :: a3 :: a4 :: a5 :: a6 :: a7 :: a8 :: a9 :: a10 :: a11 :: a12 :: s) 12 = a12 := rfl
theorem ss12 : (a0 :: a1 :: a2 :: a3 :: a4 :: a5 :: a6 :: a7 :: a8 :: a9 :: a10 :: a11 :: a12 :: s).set 12 v = a0 :: a1 :: a2 :: a3 :: a4 :: a5 :: a6 :: a7 :: a8 :: a9 :: a10 :: a11 :: v :: s := rfl
theorem gs13 : getS (a0 :: a1 :: a2 :: a3 :: a4 :: a5 :: a6 :: a7 :: a8 :: a9 :: a10 :: a11 :: a12 :: a13 :: s) 13 = a13 := rfl
theorem ss13 : (a0 :: a1 :: a2 :: a3 :: a4 :: a5 :: a6 :: a7 :: a8 :: a9 :: a10 :: a11 :: a12 :: a13 :: s).set 13 v = a0 :: a1 :: a2 :: a3 :: a4 :: a5 :: a6 :: a7 :: a8 :: a9 :: a10 :: a11 :: a12 :: v :: s := rfl
theorem gs14 : getS (a0 :: a1 :: a2 :: a3 :: a4 :: a5 :: a6 :: a7 :: a8 :: a9 :: a10 :: a11 :: a12 :: a13 :: a14 :: s) 14 = a14 := rfl
theorem ss14 : (a0 :: a1 :: a2 :: a3 :: a4 :: a5 :: a6 :: a7 :: a8 :: a9 :: a10 :: a11 :: a12 :: a13 :: a14 :: s).set 14 v = a0 :: a1 :: a2 :: a3 :: a4 :: a5 :: a6 :: a7 :: a8 :: a9 :: a10 :: a11 :: a12 :: a13 :: v :: s := rfl
theorem gs15 : getS (a0 :: a1 :: a2 :: a3 :: a4 :: a5 :: a6 :: a7 :: a8 :: a9 :: a10 :: a11 :: a12 :: a13 :: a14 :: a15 :: s) 15 = a15 := rfl
theorem ss15 : (a0 :: a1 :: a2 :: a3 :: a4 :: a5 :: a6 :: a7 :: a8 :: a9 :: a10 :: a11 :: a12 :: a13 :: a14 :: a15 :: s).set 15 v = a0 :: a1 :: a2 :: a3 :: a4 :: a5 :: a6 :: a7 :: a8 :: a9 :: a10 :: a11 :: a12 :: a13 :: a14 :: v :: s := rfl
theorem gs16 : getS (a0 :: a1 :: a2 :: a3 :: a4 :: a5 :: a6 :: a7 :: a8 :: a9 :: a10 :: a11 :: a12 :: a13 :: a14 :: a15 :: a16 :: s) 16 = a16 := rfl
theorem ss16 : (a0 :: a1 :: a2 :: a3 :: a4 :: a5 :: a6 :: a7 :: a8 :: a9 :: a10 :: a11 :: a12 :: a13 :: a14 :: a15 :: a16 :: s).set 16 v = a0 :: a1 :: a2 :: a3 :: a4 :: a5 :: a6 :: a7 :: a8 :: a9 :: a10 :: a11 :: a12 :: a13 :: a14 :: a15 :: v :: s := rfl
end
theorem gs_succ {a : Slt} {s : Stt} {n : Nat} : getS (a :: s) (n + 1) = getS s n := by simp [getS]
/-! ### slots -/
theorem shr_shr {v : PV} : (Slt.shr v).shr? = some v := rfl
theorem shr_val {v : PV} : (Slt.shr v).val? = some v := rfl
theorem own_val {v : PV} : (Slt.own v).val? = some v := rfl
theorem own_own {v : PV} : (Slt.own v).own? = some v := rfl
theorem mkOwn_lst {xs : List PV} : mkOwn (.lst xs) = .own (.lst xs) := rfl
theorem mkOwn_dic {xs : List (PV × PV)} : mkOwn (.dic xs) = .own (.dic xs) := rfl
theorem mkS_f {v : PV} : mkS false v = .shr v := rfl
theorem mkS_l {xs : List PV} : mkS true (.lst xs) = .own (.lst xs) := rfl
theorem mkS_d {xs : List (PV × PV)} : mkS true (.dic xs) = .own (.dic xs) := rfl
theorem frz_own {s : Stt} {i : Nat} {v : PV} : frzV s i (.own v) = s.set i (.shr v) := rfl
theorem frz_shr {s : Stt} {i : Nat} {v : PV} : frzV s i (.shr v) = s := rfl
theorem lst_ok {xs : List PV} : lstP (.lst xs) = some () := rfl
theorem row_ok : rowP (.shr .row) = some () := rfl
theorem call_run {fns : Nat → Option Fn} {gl : Nat → Option PV} {l f : Nat} {d : Fn} {args : List PV} (h : fns f = some d) (ha : args.length = d.np) :
    callF fns gl (l + 1) f args = (exSs gl (callF fns gl l) (startS d args) d.body >>= endV) := by
  simp only [callF, h, ha, if_true]
/-- a def is run -/
theorem call_dw {b : Bool} {E : PV → Prop} {fns : Nat → Option Fn} {gl : Nat → Option PV} {l f : Nat} {d : Fn} {args : List PV} {Q : PV → Prop} (h : fns f = some d) (ha : args.length = d.np)
    (q : Dw b E (exSs gl (callF fns gl l) (startS d args) d.body) (fun r => Dw b E (endV r) Q)) : Dw b E (callF fns gl (l + 1) f args) Q := by
  rw [call_run h ha, dw_bind]; exact q
theorem call_eq {fns : Nat → Option Fn} {gl : Nat → Option PV} {l f : Nat} {d : Fn} {args : List PV} {v : PV} (h : fns f = some d) (ha : args.length = d.np)
    (q : Dw false (fun _ => False) (exSs gl (callF fns gl l) (startS d args) d.body) (fun r => Dw false (fun _ => False) (endV r) (fun x => x = v))) : callF fns gl (l + 1) f args = .ok v := by
  rw [dw_eq]; exact call_dw h ha q
theorem end_ret {v : PV} {s : Stt} : endV (.ret v, s) = .ok v := rfl
theorem end_next {s : Stt} : endV (.next, s) = .ok .non := rfl
/-! ### values -/
section
variable {i j : Int} {m n k : Nat} {x y : List Nat} {xs ys : List PV}
theorem v_addN : binP .add (.int (m : Int)) (.int (n : Int)) = some (.int ((m + n : Nat) : Int)) := by simp only [binP, Int.natCast_add]
theorem v_addN1 : binP .add (.int (m : Int)) (.int 1) = some (.int ((m + 1 : Nat) : Int)) := rfl
theorem v_addN2 : binP .add (.int (m : Int)) (.int 2) = some (.int ((m + 2 : Nat) : Int)) := rfl
theorem v_add1N : binP .add (.int 1) (.int (m : Int)) = some (.int ((1 + m : Nat) : Int)) := by simp only [binP, Int.natCast_add]; rfl
theorem v_subN (h : n ≤ m) : binP .sub (.int (m : Int)) (.int (n : Int)) = some (.int ((m - n : Nat) : Int)) := by simp only [binP, Int.natCast_sub h]
theorem v_subN1 (h : 1 ≤ m) : binP .sub (.int (m : Int)) (.int 1) = some (.int ((m - 1 : Nat) : Int)) := by simp only [binP, Int.natCast_sub h]; rfl
theorem v_subN2 (h : 2 ≤ m) : binP .sub (.int (m : Int)) (.int 2) = some (.int ((m - 2 : Nat) : Int)) := by simp only [binP, Int.natCast_sub h]; rfl
theorem v_add : binP .add (.int i) (.int j) = some (.int (i + j)) := rfl
theorem v_sub : binP .sub (.int i) (.int j) = some (.int (i - j)) := rfl
theorem v_mul2N : binP .mul (.int 2) (.int (n : Int)) = some (.int ((2 * n : Nat) : Int)) := by
  simp only [binP, show sm64 2 = true by decide, Bool.true_or, if_true, Int.natCast_mul]; rfl
theorem v_mul2 : binP .mul (.int 2) (.int j) = some (.int (2 * j)) := by
  simp only [binP, show sm64 2 = true by decide, Bool.true_or, if_true]
theorem v_div2N : binP .div (.int (n : Int)) (.int 2) = some (.int ((n / 2 : Nat) : Int)) := by
  simp only [binP, show (0 < (2 : Int)) = True by simp, show ((2 : Int) < 1073741824) = True by simp, decide_true, Bool.true_or, Bool.and_true, if_true]; rfl
theorem v_mod2N : binP .mod (.int (n : Int)) (.int 2) = some (.int ((n % 2 : Nat) : Int)) := by
  simp only [binP, show (0 < (2 : Int)) = True by simp, if_true]; rfl
theorem v_addS (h : x.length + y.length ≤ 16777216) : binP .add (.str x) (.str y) = some (.str (x ++ y)) := by simp only [binP, lim, h, if_true]
theorem v_addL (h : xs.length + ys.length ≤ 16777216) : binP .add (.lst xs) (.lst ys) = some (.lst (xs ++ ys)) := by simp only [binP, lim, h, if_true]
theorem v_addT (h : xs.length + ys.length ≤ 16777216) : binP .add (.tup xs) (.tup ys) = some (.tup (xs ++ ys)) := by simp only [binP, lim, h, if_true]
theorem v_iaddN : ibinP .add (.int (m : Int)) (.int (n : Int)) = some (.int ((m + n : Nat) : Int)) := by simp only [ibinP, Int.natCast_add]
theorem v_iaddN1 : ibinP .add (.int (m : Int)) (.int 1) = some (.int ((m + 1 : Nat) : Int)) := rfl
theorem v_iaddN2 : ibinP .add (.int (m : Int)) (.int 2) = some (.int ((m + 2 : Nat) : Int)) := rfl
theorem v_isubN (h : n ≤ m) : ibinP .sub (.int (m : Int)) (.int (n : Int)) = some (.int ((m - n : Nat) : Int)) := by simp only [ibinP, Int.natCast_sub h]
theorem v_isubN1 (h : 1 ≤ m) : ibinP .sub (.int (m : Int)) (.int 1) = some (.int ((m - 1 : Nat) : Int)) := by simp only [ibinP, Int.natCast_sub h]; rfl
theorem v_iadd : ibinP .add (.int i) (.int j) = some (.int (i + j)) := rfl
theorem v_isub : ibinP .sub (.int i) (.int j) = some (.int (i - j)) := rfl
theorem v_ltN : cmpP .lt (.int (m : Int)) (.int (n : Int)) = some (decide (m < n)) := by simp only [cmpP, Int.ofNat_lt]
theorem v_leN : cmpP .le (.int (m : Int)) (.int (n : Int)) = some (decide (m ≤ n)) := by simp only [cmpP, Int.ofNat_le]
theorem v_gtN : cmpP .gt (.int (m : Int)) (.int (n : Int)) = some (decide (n < m)) := by simp only [cmpP, Int.ofNat_lt]
theorem v_geN : cmpP .ge (.int (m : Int)) (.int (n : Int)) = some (decide (n ≤ m)) := by simp only [cmpP, Int.ofNat_le]
theorem v_gt0 : cmpP .gt (.int (m : Int)) (.int 0) = some (decide (0 < m)) := by simp only [cmpP, show (0 < (m : Int)) ↔ 0 < m by omega]
theorem beq_natCast : ((m : Int) == (n : Int)) = (m == n) := by
  by_cases h : m = n
  · subst h; simp
  · have : ¬ (m : Int) = n := by omega
    rw [beq_eq_false_iff_ne.mpr h, beq_eq_false_iff_ne.mpr this]
theorem v_eqN : cmpP .eq (.int (m : Int)) (.int (n : Int)) = some (m == n) := by
  show some ((m : Int) == n) = _
  rw [beq_natCast]
theorem v_neN : cmpP .ne (.int (m : Int)) (.int (n : Int)) = some (!(m == n)) := by
  show some (!((m : Int) == n)) = _
  rw [beq_natCast]
theorem v_lt : cmpP .lt (.int i) (.int j) = some (decide (i < j)) := rfl
theorem v_le : cmpP .le (.int i) (.int j) = some (decide (i ≤ j)) := rfl
theorem v_gt : cmpP .gt (.int i) (.int j) = some (decide (j < i)) := rfl
theorem v_ge : cmpP .ge (.int i) (.int j) = some (decide (j ≤ i)) := rfl
theorem v_eqI : cmpP .eq (.int i) (.int j) = some (i == j) := rfl
theorem v_neI : cmpP .ne (.int i) (.int j) = some (!(i == j)) := rfl
theorem v_eqS : cmpP .eq (.str x) (.str y) = some (x == y) := rfl
theorem v_neS : cmpP .ne (.str x) (.str y) = some (!(x == y)) := rfl
theorem v_eqSN : cmpP .eq (.str x) .non = some false := rfl
theorem v_isN : cmpP .is .non .non = some true := rfl
theorem v_isS : cmpP .is (.str x) .non = some false := rfl
theorem v_isI : cmpP .is (.int i) .non = some false := rfl
theorem v_isL : cmpP .is (.lst xs) .non = some false := rfl
theorem v_isnN : cmpP .isnot .non .non = some false := rfl
theorem v_isnS : cmpP .isnot (.str x) .non = some true := rfl
theorem v_isnI : cmpP .isnot (.int i) .non = some true := rfl
theorem v_isB {a b : Bool} : cmpP .is (.bl a) (.bl b) = some (a == b) := rfl
theorem v_isnB {a b : Bool} : cmpP .isnot (.bl a) (.bl b) = some (!(a == b)) := rfl
theorem v_inS : cmpP .isin (.str x) (.str y) = some (isSub x y) := rfl
theorem v_ninS : cmpP .notin (.str x) (.str y) = some (!isSub x y) := rfl
theorem v_inDS {kvs : List (PV × PV)} : cmpP .isin (.str x) (.dic kvs) = some (dget (.str x) kvs).isSome := rfl
theorem v_ninDS {kvs : List (PV × PV)} : cmpP .notin (.str x) (.dic kvs) = some (!(dget (.str x) kvs).isSome) := rfl
theorem v_inDI {kvs : List (PV × PV)} : cmpP .isin (.int i) (.dic kvs) = some (dget (.int i) kvs).isSome := rfl
theorem v_tBl {b : Bool} : truthP (.bl b) = some b := rfl
theorem v_tNon : truthP .non = some false := rfl
theorem v_idxDS {kvs : List (PV × PV)} : idxP (.dic kvs) (.str x) = dget (.str x) kvs := rfl
theorem v_idxDI {kvs : List (PV × PV)} : idxP (.dic kvs) (.int i) = dget (.int i) kvs := rfl
theorem atL_nat {α : Type} {xs : List α} {i : Nat} : atL xs (i : Int) = xs[i]? := by
  unfold atL ixN
  rw [if_pos (by omega)]
  by_cases h : i < xs.length
  · rw [if_pos (by omega)]
    simp
  · rw [if_neg (by omega)]
    simp
    omega
theorem atL_last {α : Type} {xs : List α} {a : α} : atL (xs ++ [a]) (-1) = some a := by
  unfold atL ixN
  rw [if_neg (by omega), if_pos (by simp only [List.length_append, List.length_cons, List.length_nil]; omega)]
  simp only [Option.bind_some, List.length_append, List.length_cons, List.length_nil]
  rw [show (-1 + ((xs.length + (0 + 1) : Nat) : Int)).toNat = xs.length by omega]
  simp
theorem v_idxS (h : n < x.length) : idxP (.str x) (.int (n : Int)) = some (.str [x.getD n 0]) := by
  show (atL x (n : Int)).map _ = _
  rw [atL_nat, List.getD_eq_getElem?_getD, List.getElem?_eq_getElem h]
  rfl
theorem v_idxL : idxP (.lst xs) (.int (n : Int)) = xs[n]? := atL_nat
theorem v_idxT : idxP (.tup xs) (.int (n : Int)) = xs[n]? := atL_nat
theorem v_idxL0 : idxP (.lst xs) (.int 0) = xs[0]? := atL_nat (i := 0)
theorem v_idxT0 : idxP (.tup xs) (.int 0) = xs[0]? := atL_nat (i := 0)
theorem v_idxT1 : idxP (.tup xs) (.int 1) = xs[1]? := atL_nat (i := 1)
theorem v_idxS0 {c : Nat} : idxP (.str (c :: x)) (.int 0) = some (.str [c]) := v_idxS (n := 0) (by simp)
theorem v_idxLl {a : PV} : idxP (.lst (xs ++ [a])) (.int (-1)) = some a := atL_last
theorem v_idxTl {a : PV} : idxP (.tup (xs ++ [a])) (.int (-1)) = some a := atL_last
theorem v_idxLg {i : Int} : idxP (.lst xs) (.int i) = atL xs i := rfl
theorem v_idxTg {i : Int} : idxP (.tup xs) (.int i) = atL xs i := rfl
theorem v_idxSg {i : Int} : idxP (.str x) (.int i) = (atL x i).map fun c => .str [c] := rfl
theorem v_lenS : biP .len [.str x] = some (.int x.length) := rfl
theorem v_lenL : biP .len [.lst xs] = some (.int xs.length) := rfl
theorem v_lenT : biP .len [.tup xs] = some (.int xs.length) := rfl
theorem v_lenD {kvs : List (PV × PV)} : biP .len [.dic kvs] = some (.int kvs.length) := rfl
theorem v_revS : revP (.str x) = some (.str x.reverse) := rfl
theorem v_revL : revP (.lst xs) = some (.lst xs.reverse) := rfl
theorem v_tuple : biP .tuple [.lst xs] = some (.tup xs) := rfl
theorem v_listT : biP .list [.tup xs] = some (.lst xs) := rfl
theorem v_listL : biP .list [.lst xs] = some (.lst xs) := rfl
theorem v_intI : biP .int [.int i] = some (.int i) := rfl
theorem v_min2N : biP .min2 [.int (m : Int), .int (n : Int)] = some (.int ((min m n : Nat) : Int)) := by
  simp only [biP]
  by_cases h : n < m
  · rw [if_pos (by omega), show min m n = n by omega]
  · rw [if_neg (by omega), show min m n = m by omega]
theorem v_max2N : biP .max2 [.int (m : Int), .int (n : Int)] = some (.int ((max m n : Nat) : Int)) := by
  simp only [biP]
  by_cases h : m < n
  · rw [if_pos (by omega), show max m n = n by omega]
  · rw [if_neg (by omega), show max m n = m by omega]
theorem v_max20 {i : Int} : biP .max2 [.int 0, .int i] = some (.int (i.toNat : Int)) := by
  simp only [biP]
  by_cases h : 0 < i
  · rw [if_pos h, show (i.toNat : Int) = i by omega]
  · rw [if_neg h, show (i.toNat : Int) = 0 by omega]
theorem v_itS : items (.str x) = some (x.map fun c => .str [c]) := rfl
theorem v_itL : items (.lst xs) = some xs := rfl
theorem v_itT : items (.tup xs) = some xs := rfl
theorem v_asI : asI (.int i) = .ok (some i) := rfl
theorem v_neg : negP (.int i) = .ok (.int (-i)) := rfl
theorem v_rng1 (h : n ≤ 16777216) : rng1P (.int (n : Int)) = .ok (rangeL 0 n) := by
  have : sm62 (n : Int) = true := by
    simp only [sm62, Bool.and_eq_true, decide_eq_true_eq]
    constructor <;> omega
  simp only [rng1P, this, if_true]; rfl
theorem v_rng2 (h : n ≤ 16777216) (h' : m ≤ 16777216) : rng2P (.int (m : Int)) (.int (n : Int)) = .ok (rangeL m (n - m)) := by
  have a : sm62 (n : Int) = true := by
    simp only [sm62, Bool.and_eq_true, decide_eq_true_eq]
    constructor <;> omega
  have b : sm62 (m : Int) = true := by
    simp only [sm62, Bool.and_eq_true, decide_eq_true_eq]
    constructor <;> omega
  have e : ((n : Int) - (m : Int)).toNat = n - m := by omega
  simp only [rng2P, a, b, Bool.and_true, if_true, e]
theorem v_rng21 (h : n ≤ 16777216) : rng2P (.int 1) (.int (n : Int)) = .ok (rangeL (1 : Nat) (n - 1)) := v_rng2 (m := 1) h (by omega)
theorem v_drw (h : 0 < n) (h' : n < 1073741824) : drwP (.int (n : Int)) = .draw n fun i => .ok (.int i) := by
  have a : decide (0 < (n : Int)) = true := by simp; omega
  have b : decide ((n : Int) < 1073741824) = true := by simp; omega
  simp only [drwP, a, b, Bool.and_self, if_true, Int.toNat_natCast]
theorem v_app (h : xs.length < 16777216) {v : PV} : appL (.lst xs) v = some (.lst (xs ++ [v])) := by simp only [appL, lim, h, if_true]
theorem v_setL (h : n < xs.length) {v : PV} : setAt (.lst xs) (.int (n : Int)) v = some (.lst (xs.set n v)) := by
  simp only [setAt, ixN]
  rw [if_pos (by omega), if_pos (by omega)]
  simp
theorem v_setDS {kvs : List (PV × PV)} (h : kvs.length < 16777216) {v : PV} : setAt (.dic kvs) (.str x) v = some (.dic (dput (.str x) v kvs)) := by simp only [setAt, isKey, lim, h, decide_true, Bool.and_true, if_true]
theorem v_cutP : cutP (.str x) none (some (n : Int)) = some (.str (x.take n)) := by
  simp only [cutP, cutL, sIx]
  rw [if_neg (by omega), Int.toNat_natCast]
  simp
theorem v_cutD : cutP (.str x) (some (n : Int)) none = some (.str (x.drop n)) := by
  simp only [cutP, cutL, sIx]
  rw [if_neg (by omega), Int.toNat_natCast]
  congr 2
  by_cases h : n ≤ x.length
  · rw [Nat.min_eq_left h, List.take_of_length_le (by simp)]
  · rw [Nat.min_eq_right (by omega), List.take_of_length_le (by simp), List.drop_of_length_le (Nat.le_refl _), List.drop_of_length_le (by omega)]
theorem v_cutS : cutP (.str x) (some (m : Int)) (some (n : Int)) = some (.str ((x.take n).drop m)) := by
  simp only [cutP, cutL, sIx]
  rw [if_neg (by omega), if_neg (by omega), Int.toNat_natCast, Int.toNat_natCast]
  congr 2
  rw [List.drop_take]
  by_cases h : m ≤ x.length
  · rw [Nat.min_eq_left h]
    by_cases h2 : n ≤ x.length
    · rw [Nat.min_eq_left h2]
    · rw [Nat.min_eq_right (show x.length ≤ n by omega), List.take_of_length_le (by simp), List.take_of_length_le (by simp; omega)]
  · rw [Nat.min_eq_right (show x.length ≤ m by omega), List.drop_of_length_le (Nat.le_refl _), List.drop_of_length_le (show x.length ≤ m by omega)]; simp
theorem v_cutPL : cutP (.lst xs) none (some (n : Int)) = some (.lst (xs.take n)) := by
  simp only [cutP, cutL, sIx]
  rw [if_neg (by omega), Int.toNat_natCast]
  simp
theorem v_cutPT : cutP (.tup xs) none (some (n : Int)) = some (.tup (xs.take n)) := by
  simp only [cutP, cutL, sIx]
  rw [if_neg (by omega), Int.toNat_natCast]
  simp
theorem v_cutDT : cutP (.tup xs) (some (n : Int)) none = some (.tup (xs.drop n)) := by
  simp only [cutP, cutL, sIx]
  rw [if_neg (by omega), Int.toNat_natCast]
  congr 2
  by_cases h : n ≤ xs.length
  · rw [Nat.min_eq_left h, List.take_of_length_le (by simp)]
  · rw [Nat.min_eq_right (by omega), List.take_of_length_le (by simp), List.drop_of_length_le (Nat.le_refl _), List.drop_of_length_le (by omega)]
theorem v_cutS1 : cutP (.str x) (some 1) none = some (.str (x.drop 1)) := v_cutD (n := 1)
/-- [:-1] -/
theorem v_cutM1 : cutP (.str x) none (some (-1)) = some (.str x.dropLast) := by
  simp only [cutP, cutL, sIx]
  rw [if_pos (by omega), List.dropLast_eq_take]
  simp only [Nat.sub_zero, List.drop_zero]
  congr 3
  omega
end
/-! ### loops -/
section
variable {α : Type} {b : Bool} {E : PV → Prop} {tg : CT} {bd : Stt → Res (Fl × Stt)} {Q : Fl × Stt → Prop}
/-- what a turn must bring -/
def Tn (I : Stt → Prop) (Q : Fl × Stt → Prop) : Fl × Stt → Prop
  | (.next, s') => I s'
  | (.brk, s') => Q (.next, s')
  | (.ret v, s') => Q (.ret v, s')
theorem tn_next {I : Stt → Prop} {s : Stt} : Tn I Q (.next, s) = I s := rfl
theorem tn_brk {I : Stt → Prop} {s : Stt} : Tn I Q (.brk, s) = Q (.next, s) := rfl
theorem tn_ret {I : Stt → Prop} {s : Stt} {v : PV} : Tn I Q (.ret v, s) = Q (.ret v, s) := rfl
theorem forL_dw {x : PV} {r : List PV} {s : Stt} : Dw b E (forL tg bd (x :: r) s) Q = Dw b E (Res.ofO (bindT tg x s)) (fun s1 => Dw b E (bd s1) (Tn (fun s' => Dw b E (forL tg bd r s') Q) Q)) := by
  simp only [forL, dw_bind]
  refine dw_q fun s1 => ?_
  rw [dw_bind]
  refine dw_q fun q => ?_
  obtain ⟨f, t⟩ := q
  cases f <;> first | rfl | exact dw_ok
/-- items f a: I of those that are done -/
theorem for_map (f : α → PV) (I : List α → Stt → Prop) (xs : List α) (s : Stt) (h0 : I [] s)
    (step : ∀ done a todo s, xs = done ++ a :: todo → I done s → Dw b E (Res.ofO (bindT tg (f a) s)) (fun s1 => Dw b E (bd s1) (Tn (I (done ++ [a])) Q)))
    (hend : ∀ s, I xs s → Q (.next, s)) : Dw b E (forL tg bd (xs.map f) s) Q := by
  suffices ∀ (todo done : List α) (s : Stt), xs = done ++ todo → I done s → Dw b E (forL tg bd (todo.map f) s) Q from this xs [] s rfl h0
  intro todo
  induction todo with
  | nil => intro done s e h; rw [List.append_nil] at e; subst e; simp only [List.map_nil, enumL, forL, dw_ok]; exact hend s h
  | cons a todo ih =>
    intro done s e h
    rw [List.map_cons, forL_dw]
    refine dw_imp (step done a todo s e h) fun s1 h1 => dw_imp h1 fun q hq => ?_
    obtain ⟨fl, t⟩ := q
    cases fl with
    | next => exact ih (done ++ [a]) t (by rw [e, List.append_assoc]; rfl) hq
    | brk => exact hq
    | ret v => exact hq
theorem rangeL_map (lo n : Nat) : rangeL (lo : Int) n = (List.range' lo n).map fun i => .int (i : Int) := by
  induction n generalizing lo with
  | zero => rfl
  | succ n ih =>
    simp only [rangeL, List.range'_succ, List.map_cons]
    rw [← ih (lo + 1)]; rfl
theorem rngL_len (lo : Int) (n : Nat) : (rangeL lo n).length = n := by
  induction n generalizing lo with
  | zero => rfl
  | succ n ih => simp only [rangeL, List.length_cons, ih]
/-- range(lo, lo + n): I of the next item -/
theorem for_rng (lo n : Nat) (I : Nat → Stt → Prop) (s : Stt) (h0 : I lo s)
    (step : ∀ i s, lo ≤ i → i < lo + n → I i s → Dw b E (Res.ofO (bindT tg (.int (i : Int)) s)) (fun s1 => Dw b E (bd s1) (Tn (I (i + 1)) Q)))
    (hend : ∀ s, I (lo + n) s → Q (.next, s)) : Dw b E (forL tg bd (rangeL (lo : Int) n) s) Q := by
  induction n generalizing lo s with
  | zero => simp only [rangeL, forL, dw_ok]; exact hend s h0
  | succ n ih =>
    simp only [rangeL]
    rw [forL_dw]
    refine dw_imp (step lo s (Nat.le_refl _) (by omega) h0) fun s1 h1 => dw_imp h1 fun q hq => ?_
    obtain ⟨fl, t⟩ := q
    cases fl with
    | next => exact ih (lo + 1) t hq (fun i s h1 h2 h3 => step i s (by omega) (by omega) h3) (by rw [show lo + 1 + n = lo + (n + 1) by omega]; exact hend)
    | brk => exact hq
    | ret v => exact hq
theorem for_rng0 (n : Nat) (I : Nat → Stt → Prop) (s : Stt) (h0 : I 0 s)
    (step : ∀ i s, i < n → I i s → Dw b E (Res.ofO (bindT tg (.int (i : Int)) s)) (fun s1 => Dw b E (bd s1) (Tn (I (i + 1)) Q)))
    (hend : ∀ s, I n s → Q (.next, s)) : Dw b E (forL tg bd (rangeL 0 n) s) Q :=
  for_rng 0 n I s h0 (fun i s _ h2 h3 => step i s (by omega) h3) (by rw [Nat.zero_add]; exact hend)
theorem enumL_map (f : α → PV) (k : Nat) (xs : List α) : enumL (k : Int) (xs.map f) = (xs.zipIdx k).map fun p => .tup [.int (p.2 : Int), f p.1] := by
  induction xs generalizing k with
  | nil => rfl
  | cons a r ih =>
    simp only [List.map_cons, enumL, List.zipIdx_cons]
    rw [← ih (k + 1)]; rfl
/-- enumerate -/
theorem for_enum (f : α → PV) (I : List α → Stt → Prop) (xs : List α) (s : Stt) (h0 : I [] s)
    (step : ∀ done a todo s, xs = done ++ a :: todo → I done s → Dw b E (Res.ofO (bindT tg (.tup [.int (done.length : Int), f a]) s)) (fun s1 => Dw b E (bd s1) (Tn (I (done ++ [a])) Q)))
    (hend : ∀ s, I xs s → Q (.next, s)) : Dw b E (forL tg bd (enumL 0 (xs.map f)) s) Q := by
  suffices ∀ (todo done : List α) (s : Stt), xs = done ++ todo → I done s → Dw b E (forL tg bd (enumL (done.length : Int) (todo.map f)) s) Q from this xs [] s rfl h0
  intro todo
  induction todo with
  | nil => intro done s e h; rw [List.append_nil] at e; subst e; simp only [List.map_nil, enumL, forL, dw_ok]; exact hend s h
  | cons a todo ih =>
    intro done s e h
    rw [List.map_cons]
    simp only [enumL]
    rw [forL_dw]
    refine dw_imp (step done a todo s e h) fun s1 h1 => dw_imp h1 fun q hq => ?_
    obtain ⟨fl, t⟩ := q
    cases fl with
    | next =>
      have := ih (done ++ [a]) t (by rw [e, List.append_assoc]; rfl) hq
      rwa [List.length_append, List.length_singleton, Int.natCast_add] at this
    | brk => exact hq
    | ret v => exact hq
/-- while: I holds at each test, m goes down -/
theorem while_dw {c : Stt → Res PV} (I : Stt → Prop) (m : Stt → Nat) (n : Nat) (s : Stt) (hm : m s < n) (h0 : I s)
    (step : ∀ s, I s → Dw b E (c s) (fun v => Dw b E (Res.ofO (truthP v)) (fun t => Ite t (Dw b E (bd s) (Tn (fun s' => I s' ∧ m s' < m s) Q)) (Q (.next, s))))) : Dw b E (whileL c bd n s) Q := by
  induction n generalizing s with
  | zero => omega
  | succ n ih =>
    simp only [whileL, dw_bind]
    refine dw_imp (step s h0) fun v hv => ?_
    rw [dw_bind]
    refine dw_imp hv fun t ht => ?_
    cases t with
    | false => rw [ite_f] at ht; simp only [Bool.false_eq_true, if_false, dw_ok]; exact ht
    | true =>
      rw [ite_t] at ht
      simp only [if_true, dw_bind]
      refine dw_imp ht fun q hq => ?_
      obtain ⟨fl, t⟩ := q
      cases fl with
      | next => exact ih t (by have := hq.2; omega) hq.1
      | brk => rw [dw_ok]; exact hq
      | ret v => rw [dw_ok]; exact hq
/-- [elt for tg in (f a, ..) if cond] -/
theorem comp_eq (f : α → PV) (g : α → PV) (p : α → Bool) {cond elt : Stt → Res PV} {s : Stt} (xs : List α)
    (h : ∀ a, a ∈ xs → ∃ s1, bindT tg (f a) s = some s1 ∧ cond s1 = .ok (.bl (p a)) ∧ (p a = true → elt s1 = .ok (g a))) : compL tg cond elt s (xs.map f) = .ok ((xs.filter p).map g) := by
  induction xs with
  | nil => rfl
  | cons a r ih =>
    obtain ⟨s1, e1, e2, e3⟩ := h a (List.mem_cons_self ..)
    have ih := ih fun a ha => h a (List.mem_cons_of_mem _ ha)
    simp only [List.map_cons, compL, e1, Res.ofO_some, Res.ok_bind, e2, truthP]
    cases hp : p a with
    | true => rw [e3 hp, List.filter_cons_of_pos hp, List.map_cons]; simp only [if_true, Res.ok_bind, ih]
    | false => rw [List.filter_cons_of_neg (by rw [hp]; simp)]; simp only [Bool.false_eq_true, if_false, ih]
theorem comp_map (f : α → PV) (g : α → PV) {elt : Stt → Res PV} {s : Stt} (xs : List α)
    (h : ∀ a, a ∈ xs → ∃ s1, bindT tg (f a) s = some s1 ∧ elt s1 = .ok (g a)) : compL tg (fun s1 => .ok (.bl true)) elt s (xs.map f) = .ok (xs.map g) := by
  have := comp_eq (tg := tg) f g (fun _ => true) (cond := fun _ => .ok (.bl true)) (elt := elt) (s := s) xs fun a ha => by
    obtain ⟨s1, e1, e2⟩ := h a ha
    exact ⟨s1, e1, rfl, fun _ => e2⟩
  rwa [List.filter_eq_self.mpr (fun _ _ => rfl)] at this
/-- .. with draws: what is drawn is as P says -/
theorem comp_dw {s : Stt} {cond elt : Stt → Res PV} (P : PV → Prop) {Q : List PV → Prop} (xs : List PV)
    (h : ∀ x, x ∈ xs → Dw b E (Res.ofO (bindT tg x s)) (fun s1 => cond s1 = .ok (.bl true) ∧ Dw b E (elt s1) P))
    (hq : ∀ ys : List PV, ys.length = xs.length → (∀ y, y ∈ ys → P y) → Q ys) : Dw b E (compL tg cond elt s xs) Q := by
  induction xs generalizing Q with
  | nil => simp only [compL, dw_ok]; exact hq [] rfl (fun y hy => by cases hy)
  | cons x r ih =>
    simp only [compL, dw_bind]
    refine dw_imp (h x (List.mem_cons_self ..)) fun s1 ⟨e1, h1⟩ => ?_
    rw [e1]
    simp only [dw_ok, truthP, Res.ofO_some, if_true, dw_bind]
    refine dw_imp h1 fun y hy => ?_
    rw [dw_bind]
    refine ih (fun z hz => h z (List.mem_cons_of_mem _ hz)) fun ys hl hp => ?_
    rw [dw_ok]
    refine hq (y :: ys) (by simp [hl]) fun z hz => ?_
    rcases List.mem_cons.mp hz with rfl | hz
    · exact hy
    · exact hp z hz
end
theorem v_drwI {i : Int} (h : 0 < i) (h' : i < 1073741824) : drwP (.int i) = .draw i.toNat fun j => .ok (.int (j : Int)) := by
  simp only [drwP, decide_eq_true h, decide_eq_true h', Bool.and_self, if_true]
theorem strs_map (ws : List (List Nat)) : strs? (ws.map fun w => PV.str w) = some ws := by
  induction ws with
  | nil => rfl
  | cons w r ih => simp only [List.map_cons, strs?, ih]; rfl
theorem strs_mapC (w : List Nat) : strs? (w.map fun c => PV.str [c]) = some (w.map fun c => [c]) := by
  rw [← strs_map, List.map_map]; rfl
theorem sumN_len (ws : List (List Nat)) : sumN (ws.map List.length) = ws.flatten.length := by
  induction ws with
  | nil => rfl
  | cons w r ih => simp only [List.map_cons, sumN, ih, List.flatten_cons, List.length_append]
theorem joinS_nil : ∀ ws : List (List Nat), joinS [] ws = ws.flatten
  | [] => rfl
  | [x] => by simp [joinS]
  | x :: y :: r => by
    have := joinS_nil (y :: r)
    simp only [joinS, this, List.append_nil, List.flatten_cons]
theorem v_joinS {ws : List (List Nat)} (h : ws.flatten.length ≤ 16777216) : meP .join (.str []) [.lst (ws.map fun w => PV.str w)] = some (.str ws.flatten) := by
  simp only [meP, strs_map, sumN_len, List.length_nil, Nat.mul_zero, Nat.add_zero, lim, h, if_true, joinS_nil]
theorem flat_one (w : List Nat) : (w.map fun c => [c]).flatten = w := by
  induction w with
  | nil => rfl
  | cons c r ih => simp only [List.map_cons, List.flatten_cons, ih, List.singleton_append]
theorem v_joinC {w : List Nat} (h : w.length ≤ 16777216) : meP .join (.str []) [.lst (w.map fun c => PV.str [c])] = some (.str w) := by
  have := v_joinS (ws := w.map fun c => [c]) (by rw [flat_one]; exact h)
  rw [flat_one, List.map_map] at this
  exact this
theorem v_pre {x y : List Nat} : meP .startswith (.str x) [.str y] = some (.bl (isPre y x)) := rfl
theorem v_end {x y : List Nat} : meP .endswith (.str x) [.str y] = some (.bl (endsW x y)) := rfl
theorem isPre_pre : ∀ {y x : List Nat}, isPre y x = true ↔ y <+: x
  | [], x => by simp [isPre]
  | a :: r, [] => by simp [isPre]
  | a :: r, b :: s => by simp [isPre, isPre_pre (y := r) (x := s), List.cons_prefix_cons]
theorem endsW_iff {x y : List Nat} : endsW x y = true ↔ y <:+ x := by
  unfold endsW
  rw [isPre_pre, List.reverse_prefix]
theorem isSub_inf {y : List Nat} : ∀ {x : List Nat}, isSub y x = true ↔ y <:+: x
  | [] => by
    simp only [isSub, isPre_pre]
    constructor
    · intro h; exact h.isInfix
    · intro h; rw [List.infix_nil] at h; rw [h]; exact List.nil_prefix
  | b :: s => by
    simp only [isSub, Bool.or_eq_true, isPre_pre, isSub_inf (x := s), List.infix_cons_iff]
/-- all of a list's items are so: they are of a kind -/
theorem all_map {α : Type} {f : α → PV} {P : α → Prop} : ∀ {ys : List PV}, (∀ y, y ∈ ys → ∃ a, y = f a ∧ P a) → ∃ as : List α, ys = as.map f ∧ ∀ a, a ∈ as → P a
  | [], _ => ⟨[], rfl, fun a h => by cases h⟩
  | y :: r, h => by
    obtain ⟨a, rfl, pa⟩ := h y (List.mem_cons_self ..)
    obtain ⟨as, rfl, pas⟩ := all_map fun z hz => h z (List.mem_cons_of_mem _ hz)
    exact ⟨a :: as, rfl, fun b hb => by
      rcases List.mem_cons.mp hb with rfl | hb
      · exact pa
      · exact pas b hb⟩
theorem lim_ok {n : Nat} (h : n ≤ 16777216) : (n ≤ lim) = True := by simp [lim, h]
theorem bd_nm {i : Nat} {v : PV} {s : Stt} : bindT (.nm i) v s = some (s.set i (.shr v)) := by simp only [bindT]
theorem bd_tp {ts : CTs} {vs : List PV} {s : Stt} : bindT (.tp ts) (.tup vs) s = bindTs ts vs s := by simp only [bindT]
theorem bds_nil {s : Stt} : bindTs .nil [] s = some s := by simp only [bindTs]
theorem bds_cons {t : CT} {ts : CTs} {v : PV} {vs : List PV} {s : Stt} : bindTs (.cons t ts) (v :: vs) s = (bindT t v s).bind (bindTs ts vs) := by simp only [bindTs]
theorem meOk_s {m : Me} {x : List Nat} : meOk m (.str x) = !meL m := rfl
theorem meOk_l {m : Me} {x : List PV} : meOk m (.lst x) = meL m := rfl
section
variable {α : Type} {b : Bool} {E : PV → Prop} {tg : CT} {cond elt : Stt → Res PV} {s : Stt} {Q : List PV → Prop}
/-- a comprehension over items f a, a in xs -/
theorem cp_map (f g : α → PV) (p : α → Bool) (xs : List α)
    (h : ∀ a, a ∈ xs → Dw b E (Res.ofO (bindT tg (f a) s)) (fun s1 => Dw b E (cond s1) (fun v => v = .bl (p a)) ∧ (p a = true → Dw b E (elt s1) (fun v => v = g a)))) (q : Q ((xs.filter p).map g)) : Dw b E (compL tg cond elt s (xs.map f)) Q := by
  induction xs generalizing Q with
  | nil => simp only [List.map_nil, compL, dw_ok]; exact q
  | cons a r ih =>
    have ih := fun {Q} => ih (Q := Q) fun c hc => h c (List.mem_cons_of_mem _ hc)
    simp only [List.map_cons, compL, dw_bind]
    refine dw_imp (h a (List.mem_cons_self ..)) fun s1 ⟨h1, h2⟩ => ?_
    rw [dw_bind]
    refine dw_imp h1 fun v hv => ?_
    subst hv
    simp only [truthP, Res.ofO_some, Res.ok_bind]
    cases hp : p a with
    | true =>
      simp only [if_true, dw_bind]
      refine dw_imp (h2 hp) fun v hv => ?_
      subst hv
      rw [dw_bind]
      refine ih ?_
      rw [dw_ok]
      rw [List.filter_cons_of_pos hp, List.map_cons] at q
      exact q
    | false =>
      simp only [Bool.false_eq_true, if_false]
      rw [List.filter_cons_of_neg (by rw [hp]; simp)] at q
      exact ih q
theorem cp_all (f g : α → PV) (xs : List α)
    (h : ∀ a, a ∈ xs → Dw b E (Res.ofO (bindT tg (f a) s)) (fun s1 => Dw b E (cond s1) (fun v => v = .bl true) ∧ Dw b E (elt s1) (fun v => v = g a))) (q : Q (xs.map g)) : Dw b E (compL tg cond elt s (xs.map f)) Q :=
  cp_map f g (fun _ => true) xs (fun a ha => dw_imp (h a ha) fun s1 h => ⟨h.1, fun _ => h.2⟩) (by rwa [List.filter_eq_self.mpr (fun _ _ => rfl)])
/-- .. over range(n) -/
theorem cp_rng (g : Nat → PV) (p : Nat → Bool) (n : Nat)
    (h : ∀ i, i < n → Dw b E (Res.ofO (bindT tg (.int (i : Int)) s)) (fun s1 => Dw b E (cond s1) (fun v => v = .bl (p i)) ∧ (p i = true → Dw b E (elt s1) (fun v => v = g i)))) (q : Q (((List.range n).filter p).map g)) : Dw b E (compL tg cond elt s (rangeL 0 n)) Q := by
  rw [show (0 : Int) = ((0 : Nat) : Int) from rfl, rangeL_map, ← List.range_eq_range']
  exact cp_map _ g p _ (fun a ha => h a (List.mem_range.mp ha)) q
theorem cp_rngA (g : Nat → PV) (n : Nat)
    (h : ∀ i, i < n → Dw b E (Res.ofO (bindT tg (.int (i : Int)) s)) (fun s1 => Dw b E (cond s1) (fun v => v = .bl true) ∧ Dw b E (elt s1) (fun v => v = g i))) (q : Q ((List.range n).map g)) : Dw b E (compL tg cond elt s (rangeL 0 n)) Q :=
  cp_rng g (fun _ => true) n (fun i hi => dw_imp (h i hi) fun s1 h => ⟨h.1, fun _ => h.2⟩) (by rwa [List.filter_eq_self.mpr (fun _ _ => rfl)])
/-- .. over range(lo, lo + n) -/
theorem cp_rng2 (g : Nat → PV) (p : Nat → Bool) (lo n : Nat)
    (h : ∀ i, lo ≤ i → i < lo + n → Dw b E (Res.ofO (bindT tg (.int (i : Int)) s)) (fun s1 => Dw b E (cond s1) (fun v => v = .bl (p i)) ∧ (p i = true → Dw b E (elt s1) (fun v => v = g i)))) (q : Q (((List.range' lo n).filter p).map g)) : Dw b E (compL tg cond elt s (rangeL (lo : Int) n)) Q := by
  rw [rangeL_map]
  refine cp_map _ g p _ (fun a ha => ?_) q
  rw [List.mem_range'] at ha
  obtain ⟨i, h1, h2⟩ := ha
  exact h a (by omega) (by omega)
/-- .. over enumerate(f a, a in xs): (place, item) -/
theorem zipIdx_enum (f : α → PV) (xs : List α) : enumL 0 (xs.map f) = (xs.zipIdx 0).map fun p => .tup [.int (p.2 : Int), f p.1] := enumL_map f 0 xs
end
/-- the first of a range that is so -/
theorem filter_first {p : Nat → Bool} {n r : Nat} (h : r < n) (hp : p r = true) (hn : ∀ q, q < r → p q = false) : ∃ t, (List.range n).filter p = r :: t := by
  obtain ⟨m, rfl⟩ : ∃ m, n = r + 1 + m := ⟨n - r - 1, by omega⟩
  refine ⟨((List.range m).map (r + 1 + ·)).filter p, ?_⟩
  rw [List.range_add, List.filter_append, List.range_succ, List.filter_append, List.filter_eq_nil_iff.mpr (fun a ha => by rw [List.mem_range] at ha; rw [hn a ha]; simp)]
  simp [hp]
section
variable {m n : Nat}
theorem cst_eqL : ((m : Int) == (no_index (OfNat.ofNat n : Int))) = (m == (OfNat.ofNat n : Nat)) := beq_natCast (m := m) (n := n)
theorem cst_ltL : decide ((m : Int) < (no_index (OfNat.ofNat n : Int))) = decide (m < (OfNat.ofNat n : Nat)) := by
  have : ((m : Int) < (OfNat.ofNat n : Int)) ↔ m < (OfNat.ofNat n : Nat) := by show (m : Int) < (n : Int) ↔ m < n; omega
  simp only [this]
theorem cst_leL : decide ((m : Int) ≤ (no_index (OfNat.ofNat n : Int))) = decide (m ≤ (OfNat.ofNat n : Nat)) := by
  have : ((m : Int) ≤ (OfNat.ofNat n : Int)) ↔ m ≤ (OfNat.ofNat n : Nat) := by show (m : Int) ≤ (n : Int) ↔ m ≤ n; omega
  simp only [this]
theorem cst_gtL : decide ((no_index (OfNat.ofNat n : Int)) < (m : Int)) = decide ((OfNat.ofNat n : Nat) < m) := by
  have : ((OfNat.ofNat n : Int) < (m : Int)) ↔ (OfNat.ofNat n : Nat) < m := by show (n : Int) < (m : Int) ↔ n < m; omega
  simp only [this]
theorem cst_geL : decide ((no_index (OfNat.ofNat n : Int)) ≤ (m : Int)) = decide ((OfNat.ofNat n : Nat) ≤ m) := by
  have : ((OfNat.ofNat n : Int) ≤ (m : Int)) ↔ (OfNat.ofNat n : Nat) ≤ m := by show (n : Int) ≤ (m : Int) ↔ n ≤ m; omega
  simp only [this]
theorem cst_lt : decide ((m : Int) < (n : Int)) = decide (m < n) := by simp only [Int.ofNat_lt]
theorem cst_le : decide ((m : Int) ≤ (n : Int)) = decide (m ≤ n) := by simp only [Int.ofNat_le]
end
theorem flat_replen (n : Nat) (x : List Nat) : (List.replicate n x).flatten.length = n * x.length := by
  induction n with
  | zero => simp
  | succ n ih => rw [List.replicate_succ, List.flatten_cons, List.length_append, ih, Nat.succ_mul]; omega
theorem v_mulS {x : List Nat} {n : Nat} (h : x.length * n ≤ 16777216) (h2 : n ≤ 16777216) : binP .mul (.str x) (.int (n : Int)) = some (.str (List.replicate n x).flatten) := by
  have h62 : sm62 (n : Int) = true := by
    simp only [sm62, Bool.and_eq_true, decide_eq_true_eq]
    constructor <;> omega
  simp only [binP, h62, lim, Int.toNat_natCast, h, decide_true, Bool.and_self, if_true]
theorem rep_one (n c : Nat) : (List.replicate n [c]).flatten = List.replicate n c := by
  induction n with
  | zero => rfl
  | succ n ih => simp only [List.replicate_succ, List.flatten_cons, ih, List.singleton_append]
theorem sm64_nat {n : Nat} (h : n < 18446744073709551616) : sm64 (n : Int) = true := by
  simp only [sm64, Bool.and_eq_true, decide_eq_true_eq]
  constructor <;> omega
theorem v_mulN {m n : Nat} (h : m < 18446744073709551616) : binP .mul (.int (m : Int)) (.int (n : Int)) = some (.int ((m * n : Nat) : Int)) := by
  simp only [binP, sm64_nat h, Bool.true_or, if_true, Int.natCast_mul]
section
variable {m n : Nat}
theorem v_addNL : binP .add (.int (m : Int)) (.int (no_index (OfNat.ofNat n : Int))) = some (.int ((m + (OfNat.ofNat n : Nat) : Nat) : Int)) := by
  show some (PV.int ((m : Int) + (n : Int))) = some (PV.int ((m + n : Nat) : Int)); rw [Int.natCast_add]
theorem v_addLN : binP .add (.int (no_index (OfNat.ofNat n : Int))) (.int (m : Int)) = some (.int (((OfNat.ofNat n : Nat) + m : Nat) : Int)) := by
  show some (PV.int ((n : Int) + (m : Int))) = some (PV.int ((n + m : Nat) : Int)); rw [Int.natCast_add]
theorem v_subNL (h : (OfNat.ofNat n : Nat) ≤ m) : binP .sub (.int (m : Int)) (.int (no_index (OfNat.ofNat n : Int))) = some (.int ((m - (OfNat.ofNat n : Nat) : Nat) : Int)) := by
  show some (PV.int ((m : Int) - (n : Int))) = some (PV.int ((m - n : Nat) : Int)); rw [Int.natCast_sub (show n ≤ m from h)]
theorem v_iaddNL : ibinP .add (.int (m : Int)) (.int (no_index (OfNat.ofNat n : Int))) = some (.int ((m + (OfNat.ofNat n : Nat) : Nat) : Int)) := by
  show some (PV.int ((m : Int) + (n : Int))) = some (PV.int ((m + n : Nat) : Int)); rw [Int.natCast_add]
theorem v_isubNL (h : (OfNat.ofNat n : Nat) ≤ m) : ibinP .sub (.int (m : Int)) (.int (no_index (OfNat.ofNat n : Int))) = some (.int ((m - (OfNat.ofNat n : Nat) : Nat) : Int)) := by
  show some (PV.int ((m : Int) - (n : Int))) = some (PV.int ((m - n : Nat) : Int)); rw [Int.natCast_sub (show n ≤ m from h)]
end
theorem bools_map {α : Type} (f : α → Bool) (xs : List α) : bools? (xs.map fun a => PV.bl (f a)) = some (xs.map f) := by
  induction xs with
  | nil => rfl
  | cons a r ih => simp only [List.map_cons, bools?, ih]; rfl
theorem v_any {α : Type} {f : α → Bool} {xs : List α} : biP .any [.lst (xs.map fun a => PV.bl (f a))] = some (.bl (xs.any f)) := by
  simp only [biP, bools_map, Option.map_some, List.any_map, Function.id_comp]
theorem v_all {α : Type} {f : α → Bool} {xs : List α} : biP .all [.lst (xs.map fun a => PV.bl (f a))] = some (.bl (xs.all f)) := by
  simp only [biP, bools_map, Option.map_some, List.all_map, Function.id_comp]
theorem ints_mapN {α : Type} (f : α → Nat) (xs : List α) : ints? (xs.map fun a => PV.int (f a : Int)) = some (xs.map fun a => (f a : Int)) := by
  induction xs with
  | nil => rfl
  | cons a r ih => simp only [List.map_cons, ints?, ih]; rfl
theorem sumI_nat {α : Type} (f : α → Nat) (xs : List α) : sumI (xs.map fun a => (f a : Int)) = ((xs.map f).sum : Nat) := by
  induction xs with
  | nil => rfl
  | cons a r ih => simp only [List.map_cons, sumI, ih, List.sum_cons, Int.natCast_add]
theorem v_sum {α : Type} {f : α → Nat} {xs : List α} : biP .sum [.lst (xs.map fun a => PV.int (f a : Int))] = some (.int (((xs.map f).sum : Nat) : Int)) := by
  simp only [biP, ints_mapN, Option.map_some, sumI_nat]

end Ev
set_option autoImplicit false
set_option linter.all false
set_option Elab.async false
set_option maxRecDepth 100000
/-! EvR2: more rules: attributes, methods, list(range(..)), pop at a place, extend, counts. -/
namespace Ev
open Res
def objP (g : Option PV) (x : PV) : Option Unit := if isObj g x then some () else none
def lrngP : PV → Res PV
  | .int i => if sm62 i && decide (i.toNat ≤ lim) then .ok (.lst (rangeL 0 i.toNat)) else .no
  | _ => .no
def rngdP (v w : PV) : Res (List PV) := match v, w with
  | .int i, .int j => if sm62 i && sm62 j then .ok (rangeD i (i - j).toNat) else .no
  | _, _ => .no
section
variable {b : Bool} {E : PV → Prop} {gl : Nat → Option PV} {cl : Nat → List PV → Res PV} {s : Stt} {P : PV → Prop} {PL : List PV → Prop}
theorem dw_objP {g : Option PV} {x : PV} {α : Type} {r : Res α} {Q : α → Prop} : Dw b E (if isObj g x = true then r else .no) Q = Dw b E (ofO (objP g x)) (fun _ => Dw b E r Q) := by
  unfold objP
  cases isObj g x <;> simp [dw_iff, dw0_ok, dw0_no, Dw0]
theorem e_attr {g f : Nat} {a : CE} : Dw b E (evE gl cl s (.attr g a f)) P = Dw b E (evE gl cl s a) (fun x => Dw b E (ofO (objP (gl g) x)) (fun _ => Dw b E (ofO (attrP x f)) P)) := by
  simp only [evE]
  rw [dw_bind]
  exact dw_q fun x => dw_objP
theorem e_mcall {g f : Nat} {o : CE} {es : CEs} : Dw b E (evE gl cl s (.mcall g f o es)) P = Dw b E (evE gl cl s o) (fun x => Dw b E (ofO (objP (gl g) x)) (fun _ => Dw b E (evEs gl cl s es) (fun xs => Dw b E (cl f (x :: xs)) P))) := by
  simp only [evE]
  rw [dw_bind]
  refine dw_q fun x => ?_
  rw [dw_objP]
  exact dw_q fun _ => dw_bind
theorem e_twr {g f : Nat} {a : CE} : Dw b E (evE gl cl s (.twr g f a)) P = Dw b E (evE gl cl s a) (fun x => Dw b E (cl f [x]) (fun z => Dw b E (ofO (twrP (gl g) x z)) P)) := by
  simp only [evE]
  rw [dw_bind]
  exact dw_q fun x => dw_bind
theorem e_lrng {a : CE} : Dw b E (evE gl cl s (.lrng a)) P = Dw b E (evE gl cl s a) (fun x => Dw b E (lrngP x) P) := by
  simp only [evE]
  rw [dw_bind]
  refine dw_q fun x => ?_
  cases x <;> rfl
theorem r_rngd {e f : CE} : Dw b E (evR gl cl s (.rngd e f)) PL = Dw b E (evE gl cl s e) (fun v => Dw b E (evE gl cl s f) (fun w => Dw b E (rngdP v w) PL)) := by
  simp only [evR]
  rw [dw_bind]
  refine dw_q fun v => ?_
  rw [dw_bind]
  exact dw_q fun w => rfl
variable {PS : Fl × Stt → Prop}
theorem dw_lstP {o : PV} {α : Type} {r : Res α} {Q : α → Prop} : Dw b E (if isLst o = true then r else .no) Q = Dw b E (ofO (lstP o)) (fun _ => Dw b E r Q) := by
  cases o <;> simp [isLst, lstP, dw_iff, dw0_ok, dw0_no]
theorem d_popan {i j : Nat} {e : CE} : Dw b E (exS gl cl s (.popa (.nm i) j e)) PS = Dw b E (ofO (getS s j).own?) (fun o => Dw b E (ofO (lstP o)) (fun _ => Dw b E (evE gl cl s e) (fun k => Dw b E (ofO (popAt o k)) (fun vo => PS (.next, (s.set j (.own vo.2)).set i (.shr vo.1)))))) := by
  simp only [exS]
  rw [dw_bind]
  refine dw_q fun o => ?_
  rw [dw_lstP]
  refine dw_q fun _ => ?_
  rw [dw_bind]
  refine dw_q fun k => ?_
  rw [dw_bind]
  exact dw_q fun vo => dw_ok
theorem d_popas {i j : Nat} {ix e : CE} : Dw b E (exS gl cl s (.popa (.sub i ix) j e)) PS = Dw b E (ofO (getS s j).own?) (fun o => Dw b E (ofO (lstP o)) (fun _ => Dw b E (evE gl cl s e) (fun k => Dw b E (ofO (popAt o k)) (fun vo =>
    Dw b E (ofO (getS (s.set j (.own vo.2)) i).own?) (fun q => Dw b E (evE gl cl (s.set j (.own vo.2)) ix) (fun x => Dw b E (ofO (setAt q x vo.1)) (fun q' => PS (.next, (s.set j (.own vo.2)).set i (.own q'))))))))) := by
  simp only [exS]
  rw [dw_bind]
  refine dw_q fun o => ?_
  rw [dw_lstP]
  refine dw_q fun _ => ?_
  rw [dw_bind]
  refine dw_q fun k => ?_
  rw [dw_bind]
  refine dw_q fun vo => ?_
  rw [dw_bind]
  refine dw_q fun q => ?_
  rw [dw_bind]
  refine dw_q fun x => ?_
  rw [dw_bind]
  exact dw_q fun vo => dw_ok
theorem d_popif {i j : Nat} {e c z : CE} : Dw b E (exS gl cl s (.popif i j e c z)) PS = Dw b E (evE gl cl s c) (fun v => Dw b E (ofO (truthP v)) (fun t => Ite t
    (Dw b E (ofO (getS s j).own?) (fun o => Dw b E (ofO (lstP o)) (fun _ => Dw b E (evE gl cl s e) (fun k => Dw b E (ofO (popAt o k)) (fun vo => PS (.next, (s.set j (.own vo.2)).set i (.shr vo.1)))))))
    (Dw b E (evE gl cl s z) (fun v => PS (.next, s.set i (.shr v)))))) := by
  simp only [exS]
  rw [dw_bind]
  refine dw_q fun v => ?_
  rw [dw_bind]
  refine dw_q fun t => ?_
  cases t with
  | true =>
    rw [ite_t, if_pos rfl, dw_bind]
    refine dw_q fun o => ?_
    rw [dw_lstP]
    refine dw_q fun _ => ?_
    rw [dw_bind]
    refine dw_q fun k => ?_
    rw [dw_bind]
    exact dw_q fun vo => dw_ok
  | false =>
    rw [ite_f, if_neg Bool.false_ne_true, dw_bind]
    exact dw_q fun v => dw_ok
theorem d_ext {i : Nat} {e : CE} : Dw b E (exS gl cl s (.ext i e)) PS = Dw b E (ofO (getS s i).own?) (fun o => Dw b E (ofO (lstP o)) (fun _ => Dw b E (evE gl cl s e) (fun v => Dw b E (ofO (extL o v)) (fun o' => PS (.next, s.set i (.own o')))))) := by
  simp only [exS]
  rw [dw_bind]
  refine dw_q fun o => ?_
  rw [dw_lstP]
  refine dw_q fun _ => ?_
  rw [dw_bind]
  refine dw_q fun k => ?_
  rw [dw_bind]
  exact dw_q fun vo => dw_ok
end
section
variable {i j : Int} {m n k : Nat} {x y : List Nat} {xs ys : List PV}
theorem v_obj {C : Nat} {z : Option Nat} {fs : List PV} : objP (some (.int (C : Int))) (.obj C z fs) = some () := by simp [objP, isObj]
theorem v_attr {C : Nat} {z : Option Nat} {fs : List PV} {f : Nat} : attrP (.obj C z fs) f = fs[f]? := rfl
theorem v_scount {c : Nat} : meP .scount (.str x) [.str [c]] = some (.int (x.count c : Nat)) := rfl
theorem v_listS : biP .list [.str x] = some (.lst (x.map fun c => .str [c])) := rfl
theorem v_lrng (h : n ≤ 16777216) : lrngP (.int (n : Int)) = .ok (.lst (rangeL 0 n)) := by
  have h1 : sm62 (n : Int) = true := by
    simp only [sm62, Bool.and_eq_true, decide_eq_true_eq]
    constructor <;> omega
  have h2 : decide ((n : Int).toNat ≤ lim) = true := by simp [lim, h]
  simp only [lrngP, h1, h2, Bool.and_self, if_true]
  rfl
theorem v_popAt (h : n < xs.length) (h' : n ≤ 16777216) : popAt (.lst xs) (.int (n : Int)) = some (xs[n], .lst (xs.eraseIdx n)) := by
  have : sm62 (n : Int) = true := by
    simp only [sm62, Bool.and_eq_true, decide_eq_true_eq]
    constructor <;> omega
  simp only [popAt, this, if_true, ixN]
  rw [if_pos (by omega), if_pos (by omega)]
  simp [h]
theorem v_pop0 {v : PV} : popAt (.lst (v :: xs)) (.int 0) = some (v, .lst xs) := v_popAt (n := 0) (xs := v :: xs) (by simp) (by simp)
theorem v_extL (h : xs.length + ys.length ≤ 16777216) : extL (.lst xs) (.lst ys) = some (.lst (xs ++ ys)) := by simp only [extL, lim, h, if_true]
theorem v_sumT {α : Type} {f : α → Nat} {xs : List α} : biP .sum [.tup (xs.map fun a => PV.int (f a : Int))] = some (.int (((xs.map f).sum : Nat) : Int)) := v_sum (f := f) (xs := xs)
end
end Ev
set_option autoImplicit false
set_option linter.all false
set_option Elab.async false
set_option maxRecDepth 100000
set_option maxHeartbeats 0
namespace Ev
/-- _law_is(_law_found, _law_due); slots 0:_law_found 1:_law_due -/
def f_law_is : Fn := { np := 2, ns := 2, fresh := false, body := (.cons (.ret (.and (.bi (.isinst [1]) (.cons (.var 0) .nil)) (.cmp .eq (.var 0) (.var 1)))) .nil) }
structure N_law_is (fns : Nat → Option Fn) (gl : Nat → Option PV) : Prop where
  self : fns 2 = some f_law_is
/-- first_wrong(value); slots 0:value 1:place 2:sign -/
def f_first_wrong_b1 : CSs := (.cons (.ifs (.cmp .notin (.var 2) (.glo 0)) (.cons (.ret (.var 1)) .nil) .nil) .nil)
def f_first_wrong : Fn := { np := 1, ns := 3, fresh := false, body := (.cons (.for (.tp (.cons (.nm 1) (.cons (.nm 2) .nil))) (.enum (.var 0)) f_first_wrong_b1) (.cons (.ret (.con .non)) .nil)) }
structure N_first_wrong (fns : Nat → Option Fn) (gl : Nat → Option PV) : Prop where
  self : fns 7 = some f_first_wrong
  g_LETTERS : gl 0 = some (.str [97, 98, 99, 100, 101])
/-- need_word(value); slots 0:value -/
def f_need_word : Fn := { np := 1, ns := 1, fresh := false, body := (.cons (.ifs (.or (.not (.bi (.isinst [2]) (.cons (.var 0) .nil))) (.cmp .gt (.bi .len (.cons (.var 0) .nil)) (.glo 1))) (.cons (.raise) .nil) .nil) (.cons (.ifs (.cmp .isnot (.call 7 (.cons (.var 0) .nil)) (.con .non)) (.cons (.raise) .nil) .nil) .nil)) }
structure N_need_word (fns : Nat → Option Fn) (gl : Nat → Option PV) : Prop where
  self : fns 8 = some f_need_word
  n_first_wrong : N_first_wrong fns gl
  g_MOST_WORD : gl 1 = some (.int 2000)
/-- _law_pick(_law_row, _law_things); slots 0:_law_row 1:_law_things -/
def f_law_pick : Fn := { np := 2, ns := 2, fresh := false, body := (.cons (.ret (.idx (.var 1) (.draw 0 (.bi .len (.cons (.var 1) .nil))))) .nil) }
structure N_law_pick (fns : Nat → Option Fn) (gl : Nat → Option PV) : Prop where
  self : fns 18 = some f_law_pick
/-- _law_plan(_law_row, _law_most, _law_many); slots 0:_law_row 1:_law_most 2:_law_many 3:_law_found 4:_law_last 5:_law_turn -/
def f_law_plan_b1 : CSs := (.cons (.ifs (.cmp .gt (.draw 0 (.con (.int 3))) (.con (.int 0))) (.cons (.set 4 (.idx (.con (.str [97, 98, 99, 100, 101])) (.draw 0 (.var 2)))) .nil) .nil) (.cons (.set 3 (.bin .add (.var 3) (.var 4))) .nil))
def f_law_plan : Fn := { np := 3, ns := 6, fresh := false, body := (.cons (.unp (.cons (.nm 3) (.cons (.nm 4) .nil)) (.tup (.cons (.con (.str [])) (.cons (.con (.str [97])) .nil)))) (.cons (.for (.nm 5) (.rng1 (.draw 0 (.bin .add (.var 1) (.con (.int 1))))) f_law_plan_b1) (.cons (.ret (.var 3)) .nil))) }
structure N_law_plan (fns : Nat → Option Fn) (gl : Nat → Option PV) : Prop where
  self : fns 19 = some f_law_plan
/-- need_plan(value); slots 0:value -/
def f_need_plan : Fn := { np := 1, ns := 1, fresh := false, body := (.cons (.ifs (.or (.not (.bi (.isinst [2]) (.cons (.var 0) .nil))) (.cmp .gt (.bi .len (.cons (.var 0) .nil)) (.glo 2))) (.cons (.raise) .nil) .nil) (.cons (.ifs (.cmp .isnot (.call 7 (.cons (.var 0) .nil)) (.con .non)) (.cons (.raise) .nil) .nil) .nil)) }
structure N_need_plan (fns : Nat → Option Fn) (gl : Nat → Option PV) : Prop where
  self : fns 22 = some f_need_plan
  n_first_wrong : N_first_wrong fns gl
  g_MOST_PLAN : gl 2 = some (.int 80)
/-- swapped(word, swap); slots 0:word 1:swap 2:letter -/
def f_swapped : Fn := { np := 2, ns := 3, fresh := false, body := (.cons (.ret (.me .join (.con (.str [])) (.cons (.comp (.idx (.var 1) (.me .index (.glo 0) (.cons (.var 2) .nil))) (.nm 2) (.seq (.var 0)) (.con (.bl true))) .nil))) .nil) }
structure N_swapped (fns : Nat → Option Fn) (gl : Nat → Option PV) : Prop where
  self : fns 120 = some f_swapped
  g_LETTERS : gl 0 = some (.str [97, 98, 99, 100, 101])
/-- turned(word, swap); slots 0:word 1:swap -/
def f_turned : Fn := { np := 2, ns := 2, fresh := false, body := (.cons (.ret (.call 120 (.cons (.rev (.var 0)) (.cons (.var 1) .nil)))) .nil) }
structure N_turned (fns : Nat → Option Fn) (gl : Nat → Option PV) : Prop where
  self : fns 121 = some f_turned
  n_swapped : N_swapped fns gl
/-- rest_of(word, swap); slots 0:word 1:swap 2:other 3:rest -/
def f_rest_of_b1 : CSs := (.cons (.ifs (.me .startswith (.var 2) (.cons (.cut (.var 0) (.var 3) .nop) .nil)) (.cons (.ret (.var 3)) .nil) .nil) .nil)
def f_rest_of : Fn := { np := 2, ns := 4, fresh := false, body := (.cons (.set 2 (.call 121 (.cons (.var 0) (.cons (.var 1) .nil)))) (.cons (.for (.nm 3) (.rng1 (.bi .len (.cons (.var 0) .nil))) f_rest_of_b1) (.cons (.ret (.bi .len (.cons (.var 0) .nil))) .nil))) }
structure N_rest_of (fns : Nat → Option Fn) (gl : Nat → Option PV) : Prop where
  self : fns 126 = some f_rest_of
  n_turned : N_turned fns gl
/-- swap_closed_of(word, swap); slots 0:word 1:swap -/
def f_swap_closed_of : Fn := { np := 2, ns := 2, fresh := false, body := (.cons (.ret (.bin .add (.var 0) (.call 121 (.cons (.cut (.var 0) .nop (.call 126 (.cons (.var 0) (.cons (.var 1) .nil)))) (.cons (.var 1) .nil))))) .nil) }
structure N_swap_closed_of (fns : Nat → Option Fn) (gl : Nat → Option PV) : Prop where
  self : fns 127 = some f_swap_closed_of
  n_rest_of : N_rest_of fns gl
  n_turned : N_turned fns gl
/-- begun_of(word); slots 0:word 1:found 2:size -/
def f_begun_of_b1 : CSs := (.cons (.ifs (.cmp .eq (.cut (.var 0) .nop (.var 2)) (.rev (.cut (.var 0) .nop (.var 2)))) (.cons (.app 1 (.tup (.cons (.var 2) (.cons (.con (.str [112])) .nil)))) .nil) (.cons (.ifs (.cmp .eq (.cut (.var 0) .nop (.var 2)) (.call 121 (.cons (.cut (.var 0) .nop (.var 2)) (.cons (.glo 13) .nil)))) (.cons (.app 1 (.tup (.cons (.var 2) (.cons (.con (.str [115])) .nil)))) .nil) .nil) .nil)) .nil)
def f_begun_of : Fn := { np := 1, ns := 3, fresh := true, body := (.cons (.own 1 (.lst .nil)) (.cons (.for (.nm 2) (.rng2 (.con (.int 1)) (.bin .add (.bi .len (.cons (.var 0) .nil)) (.con (.int 1)))) f_begun_of_b1) (.cons (.reto 1) .nil))) }
structure N_begun_of (fns : Nat → Option Fn) (gl : Nat → Option PV) : Prop where
  self : fns 135 = some f_begun_of
  n_turned : N_turned fns gl
  g_SWAPPED : gl 13 = some (.str [98, 97, 99, 100, 101])
/-- begun(word); slots 0:word -/
def f_begun : Fn := { np := 1, ns := 1, fresh := false, body := (.cons (.expr (.call 8 (.cons (.var 0) .nil))) (.cons (.ret (.bi .tuple (.cons (.call 135 (.cons (.var 0) .nil)) .nil))) .nil)) }
structure N_begun (fns : Nat → Option Fn) (gl : Nat → Option PV) : Prop where
  self : fns 136 = some f_begun
  n_begun_of : N_begun_of fns gl
  n_need_word : N_need_word fns gl
/-- need_pair(plan, mirrors); slots 0:plan 1:mirrors 2:place 3:letter 4:sign -/
def f_need_pair_b1 : CSs := (.cons (.ifs (.cmp .notin (.var 3) (.con (.str [97, 98]))) (.cons (.raise) .nil) .nil) .nil)
def f_need_pair_b2 : CSs := (.cons (.ifs (.cmp .notin (.var 4) (.con (.str [112, 115]))) (.cons (.raise) .nil) .nil) .nil)
def f_need_pair : Fn := { np := 2, ns := 5, fresh := false, body := (.cons (.expr (.call 22 (.cons (.var 0) .nil))) (.cons (.for (.tp (.cons (.nm 2) (.cons (.nm 3) .nil))) (.enum (.var 0)) f_need_pair_b1) (.cons (.ifs (.or (.not (.bi (.isinst [2]) (.cons (.var 1) .nil))) (.cmp .ne (.bi .len (.cons (.var 1) .nil)) (.bi .len (.cons (.var 0) .nil)))) (.cons (.raise) .nil) .nil) (.cons (.for (.tp (.cons (.nm 2) (.cons (.nm 4) .nil))) (.enum (.var 1)) f_need_pair_b2) .nil)))) }
structure N_need_pair (fns : Nat → Option Fn) (gl : Nat → Option PV) : Prop where
  self : fns 138 = some f_need_pair
  n_need_plan : N_need_plan fns gl
/-- row_of(plan, mirrors); slots 0:plan 1:mirrors 2:found 3:letter 4:sign -/
def f_row_of_b1 : CSs := (.cons (.set 2 (.call 127 (.cons (.bin .add (.var 2) (.var 3)) (.cons (.ifx (.cmp .eq (.var 4) (.con (.str [112]))) (.glo 15) (.glo 13)) .nil)))) (.cons (.ifs (.cmp .gt (.bi .len (.cons (.var 2) .nil)) (.glo 16)) (.cons (.raise) .nil) .nil) .nil))
def f_row_of : Fn := { np := 2, ns := 5, fresh := false, body := (.cons (.set 2 (.con (.str []))) (.cons (.for (.tp (.cons (.nm 3) (.cons (.nm 4) .nil))) (.zip (.var 0) (.var 1)) f_row_of_b1) (.cons (.ret (.var 2)) .nil))) }
structure N_row_of (fns : Nat → Option Fn) (gl : Nat → Option PV) : Prop where
  self : fns 139 = some f_row_of
  n_swap_closed_of : N_swap_closed_of fns gl
  g_MOST_ROW : gl 16 = some (.int 4000)
  g_PLAIN : gl 15 = some (.str [97, 98, 99, 100, 101])
  g_SWAPPED : gl 13 = some (.str [98, 97, 99, 100, 101])
/-- row_build(plan, mirrors); slots 0:plan 1:mirrors -/
def f_row_build : Fn := { np := 2, ns := 2, fresh := false, body := (.cons (.expr (.call 138 (.cons (.var 0) (.cons (.var 1) .nil)))) (.cons (.ret (.call 139 (.cons (.var 0) (.cons (.var 1) .nil)))) .nil)) }
structure N_row_build (fns : Nat → Option Fn) (gl : Nat → Option PV) : Prop where
  self : fns 140 = some f_row_build
  n_need_pair : N_need_pair fns gl
  n_row_of : N_row_of fns gl
/-- normal(plan, mirrors); slots 0:plan 1:mirrors 2:word 3:letters 4:signs 5:before 6:size 7:sign -/
def f_normal_b1 : CSs := (.cons (.par3 false 3 (.bin .add (.var 3) (.idx (.var 2) (.var 5))) false 4 (.bin .add (.var 4) (.var 7)) false 5 (.var 6)) .nil)
def f_normal : Fn := { np := 2, ns := 8, fresh := false, body := (.cons (.expr (.call 138 (.cons (.var 0) (.cons (.var 1) .nil)))) (.cons (.set 2 (.call 139 (.cons (.var 0) (.cons (.var 1) .nil)))) (.cons (.unp (.cons (.nm 3) (.cons (.nm 4) (.cons (.nm 5) .nil))) (.tup (.cons (.con (.str [])) (.cons (.con (.str [])) (.cons (.con (.int 0)) .nil))))) (.cons (.for (.tp (.cons (.nm 6) (.cons (.nm 7) .nil))) (.seq (.call 135 (.cons (.var 2) .nil))) f_normal_b1) (.cons (.rett (.cons (.var 3) (.cons (.var 4) .nil))) .nil))))) }
structure N_normal (fns : Nat → Option Fn) (gl : Nat → Option PV) : Prop where
  self : fns 142 = some f_normal
  n_begun_of : N_begun_of fns gl
  n_need_pair : N_need_pair fns gl
  n_row_of : N_row_of fns gl
/-- is_normal(plan, mirrors); slots 0:plan 1:mirrors -/
def f_is_normal : Fn := { np := 2, ns := 2, fresh := false, body := (.cons (.ret (.cmp .eq (.call 142 (.cons (.var 0) (.cons (.var 1) .nil))) (.tup (.cons (.var 0) (.cons (.var 1) .nil))))) .nil) }
structure N_is_normal (fns : Nat → Option Fn) (gl : Nat → Option PV) : Prop where
  self : fns 143 = some f_is_normal
  n_normal : N_normal fns gl
/-- law(_law_script); slots 0:_law_script 1:_law_row 2:_law_plan_here 3:_law_signs 4:_law_letter 5:_law_word 6:_law_found 7:_law_told 8:_law_sizes 9:_law_at -/
def b_k42_b1 : CSs := (.cons (.app 8 (.tup (.cons (.bi .len (.cons (.call 140 (.cons (.cut (.idx (.var 6) (.con (.int 0))) .nop (.bin .add (.var 9) (.con (.int 1)))) (.cons (.cut (.idx (.var 6) (.con (.int 1))) .nop (.bin .add (.var 9) (.con (.int 1)))) .nil))) .nil)) (.cons (.idx (.idx (.var 6) (.con (.int 1))) (.var 9)) .nil)))) .nil)
def b_k42_r1 : CSs := (.cons (.ifs (.or (.cmp .ne (.call 140 (.cons (.idx (.var 6) (.con (.int 0))) (.cons (.idx (.var 6) (.con (.int 1))) .nil))) (.var 5)) (.cmp .ne (.bi .tuple (.cons (.bor 8) .nil)) (.var 7))) (.cons (.ret (.con (.bl false))) .nil) .nil) (.cons (.ifs (.or (.not (.call 2 (.cons (.call 143 (.cons (.var 2) (.cons (.var 3) .nil))) (.cons (.cmp .eq (.var 6) (.tup (.cons (.var 2) (.cons (.var 3) .nil)))) .nil)))) (.cmp .isnot (.call 143 (.cons (.idx (.var 6) (.con (.int 0))) (.cons (.idx (.var 6) (.con (.int 1))) .nil))) (.con (.bl true)))) (.cons (.ret (.con (.bl false))) .nil) .nil) (.cons (.ret (.and (.cmp .eq (.call 142 (.cons (.idx (.var 6) (.con (.int 0))) (.cons (.idx (.var 6) (.con (.int 1))) .nil))) (.var 6)) (.cmp .ge (.bi .len (.cons (.idx (.var 6) (.con (.int 0))) .nil)) (.bi .len (.cons (.var 2) .nil))))) .nil)))
def b_k42 : CSs := (.cons (.set 2 (.call 19 (.cons (.var 1) (.cons (.con (.int 5)) (.cons (.con (.int 2)) .nil))))) (.cons (.set 3 (.me .join (.con (.str [])) (.cons (.comp (.call 18 (.cons (.var 1) (.cons (.con (.str [112, 115])) .nil))) (.nm 4) (.seq (.var 2)) (.con (.bl true))) .nil))) (.cons (.set 5 (.call 140 (.cons (.var 2) (.cons (.var 3) .nil)))) (.cons (.set 6 (.call 142 (.cons (.var 2) (.cons (.var 3) .nil)))) (.cons (.ifs (.or (.not (.bi (.isinst [3]) (.cons (.var 6) .nil))) (.or (.cmp .ne (.bi .len (.cons (.var 6) .nil)) (.con (.int 2))) (.not (.bi (.isinst [2]) (.cons (.idx (.var 6) (.con (.int 0))) .nil))))) (.cons (.ret (.con (.bl false))) .nil) .nil) (.cons (.ifs (.cmp .gt (.bi .len (.cons (.idx (.var 6) (.con (.int 0))) .nil)) (.con (.int 80))) (.cons (.ret (.con (.bl true))) .nil) .nil) (.cons (.par2 false 7 (.call 136 (.cons (.var 5) .nil)) true 8 (.lst .nil)) (.cons (.for (.nm 9) (.rng1 (.bi .len (.cons (.idx (.var 6) (.con (.int 0))) .nil))) b_k42_b1) b_k42_r1))))))))
def b_k42_s : Stt := (List.replicate 10 Slt.no).set 1 (.shr .row)
structure N_k42 (fns : Nat → Option Fn) (gl : Nat → Option PV) : Prop where
  n_law_is : N_law_is fns gl
  n_law_pick : N_law_pick fns gl
  n_law_plan : N_law_plan fns gl
  n_begun : N_begun fns gl
  n_is_normal : N_is_normal fns gl
  n_normal : N_normal fns gl
  n_row_build : N_row_build fns gl
end Ev
set_option autoImplicit false
set_option linter.all false
set_option Elab.async false
set_option maxRecDepth 100000
namespace Ev
theorem keq_str {x y : List Nat} : keq (.str x) (.str y) = (x == y) := rfl
/-- the key is a text or a number -/
inductive KeyP : PV → Prop
  | i (n : Int) : KeyP (.int n)
  | s (x : List Nat) : KeyP (.str x)
theorem keq_iff {a b : PV} (h : KeyP b) : keq a b = true ↔ a = b := by
  cases h <;> cases a <;> simp [keq]
theorem dget_map {k k' v : PV} (h : KeyP k) (h' : KeyP k') : ∀ D : List (PV × PV), dget k' (D.map (fun e => if keq e.1 k = true then (e.1, v) else e)) = if keq k k' = true then (if (D.any fun e => keq e.1 k) = true then some v else none) else dget k' D
  | [] => by simp [dget]
  | (a, w) :: r => by
    simp only [List.map_cons, List.any_cons]
    have ih := dget_map h h' (v := v) r
    by_cases e : keq a k = true
    · have ea := (keq_iff h).mp e
      subst ea
      simp only [e, if_true, Bool.true_or, dget]
      by_cases e2 : keq a k' = true
      · rw [if_pos e2, if_pos e2]
      · rw [if_neg e2, if_neg e2, if_neg e2, ih, if_neg e2]
    · have e' : keq a k = false := by simpa using e
      simp only [e', Bool.false_eq_true, if_false, Bool.false_or, dget, ih]
      by_cases e2 : keq k k' = true
      · have := (keq_iff h').mp e2
        subst this
        rw [if_neg e, if_pos e2, if_pos e2]
      · rw [if_neg e2, if_neg e2]
theorem dget_app {k k' v : PV} (h' : KeyP k') : ∀ D : List (PV × PV), dget k' (D ++ [(k, v)]) = (dget k' D).or (if keq k k' then some v else none)
  | [] => by simp [dget]
  | (a, w) :: r => by
    simp only [List.cons_append, dget]
    split
    · rfl
    · exact dget_app h' r
theorem dget_none {k : PV} : ∀ D : List (PV × PV), (D.any fun e => keq e.1 k) = (dget k D).isSome
  | [] => rfl
  | (a, w) :: r => by
    simp only [List.any_cons, dget]
    split
    · rename_i h; simp [h]
    · rename_i h; simp [h, dget_none r]
theorem dget_dput {k k' v : PV} (h : KeyP k) (h' : KeyP k') (D : List (PV × PV)) : dget k' (dput k v D) = if keq k k' = true then some v else dget k' D := by
  unfold dput
  split
  · rename_i e
    rw [dget_map h h', if_pos e]
  · rename_i e
    rw [dget_app h']
    by_cases e2 : keq k k' = true
    · have := (keq_iff h').mp e2
      subst this
      rw [dget_none] at e
      have : dget k D = none := by simpa using e
      rw [this, if_pos e2]; rfl
    · rw [if_neg e2, if_neg e2]
      simp
theorem dput_len {k v : PV} (D : List (PV × PV)) : (dput k v D).length ≤ D.length + 1 := by
  unfold dput
  split <;> simp
/-- a dict on letters: what g says of each -/
structure DicS (g : Nat → Option PV) (D : List (PV × PV)) (n : Nat) : Prop where
  get : ∀ c, dget (.str [c]) D = g c
  len : D.length ≤ n
theorem DicS.nil : DicS (fun _ => none) [] 0 := ⟨fun _ => rfl, Nat.le_refl _⟩
theorem DicS.put {g : Nat → Option PV} {D : List (PV × PV)} {n : Nat} (h : DicS g D n) (c : Nat) (v : PV) : DicS (fun a => if a = c then some v else g a) (dput (.str [c]) v D) (n + 1) := by
  refine ⟨fun a => ?_, Nat.le_trans (dput_len D) (Nat.succ_le_succ h.len)⟩
  rw [dget_dput (.s _) (.s _), h.get, keq_str]
  by_cases e : a = c
  · subst e; simp
  · rw [if_neg e, if_neg]
    intro z
    simp at z
    exact e z.symm
theorem DicS.mono {g g' : Nat → Option PV} {D : List (PV × PV)} {n n' : Nat} (h : DicS g D n) (e : ∀ c, g c = g' c) (l : n ≤ n') : DicS g' D n' := ⟨fun c => by rw [h.get, e], Nat.le_trans h.len l⟩
end Ev
set_option autoImplicit false
set_option linter.all false
namespace Pal
abbrev W := List Nat
/-- how many letters stand ahead of the longest mirror at the end -/
def rest : W → Nat
  | [] => 0
  | x :: w => if (x :: w).reverse = x :: w then 0 else rest w + 1
def close (w : W) : W := w ++ (w.take (rest w)).reverse
theorem rest_pal : ∀ w : W, (w.drop (rest w)).reverse = w.drop (rest w)
  | [] => rfl
  | x :: w => by
    unfold rest
    split
    · assumption
    · exact rest_pal w
theorem rest_min : ∀ (w : W) (r : Nat), (w.drop r).reverse = w.drop r → rest w ≤ r
  | [], r, _ => Nat.zero_le r
  | x :: w, r, h => by
    unfold rest
    split
    · exact Nat.zero_le r
    · cases r with
      | zero => rename_i n; exact absurd h n
      | succ r => exact Nat.succ_le_succ (rest_min w r h)
theorem rest_eq {w : W} {r : Nat} (h : (w.drop r).reverse = w.drop r) (m : ∀ q, q < r → (w.drop q).reverse ≠ w.drop q) : rest w = r := by
  have h1 := rest_min w r h
  rcases Nat.lt_or_eq_of_le h1 with h2 | h2
  · exact absurd (rest_pal w) (m _ h2)
  · exact h2
/-- the map of a letter -/
def psi (x : Nat) : W → W
  | [] => []
  | y :: w => if y = x then x :: psi x w else x :: y :: psi x w
theorem psi_append (x : Nat) : ∀ u v : W, psi x (u ++ v) = psi x u ++ psi x v
  | [], v => rfl
  | y :: u, v => by
    simp only [List.cons_append, psi, psi_append x u v]
    split <;> simp
theorem psi_inj (x : Nat) : ∀ u v : W, psi x u = psi x v → u = v
  | [], [], _ => rfl
  | [], y :: v, h => by simp only [psi] at h; split at h <;> cases h
  | y :: u, [], h => by simp only [psi] at h; split at h <;> cases h
  | y :: u, z :: v, h => by
    simp only [psi] at h
    split at h <;> split at h
    · rename_i a b
      rw [a, b, psi_inj x u v (List.cons.inj h).2]
    · -- x :: psi u = x :: z :: psi v: psi u begins with x or is empty
      rename_i a b
      have h := (List.cons.inj h).2
      cases u with
      | nil => cases h
      | cons t u =>
        simp only [psi] at h
        split at h
        · exact absurd (List.cons.inj h).1.symm b
        · exact absurd (List.cons.inj h).1.symm b
    · rename_i a b
      have h := (List.cons.inj h).2
      cases v with
      | nil => cases h
      | cons t u =>
        simp only [psi] at h
        split at h
        · exact absurd (List.cons.inj h).1 a
        · exact absurd (List.cons.inj h).1 a
    · have h := (List.cons.inj h).2
      obtain ⟨h1, h2⟩ := List.cons.inj h
      rw [h1, psi_inj x u v h2]
/-- the head of a map's word -/
theorem psi_head (x : Nat) : ∀ w : W, psi x w ++ [x] = x :: (psi x w ++ [x]).tail
  | [] => rfl
  | y :: w => by simp only [psi]; split <;> rfl
/-- builds -/
def B : W → W
  | [] => []
  | x :: p => psi x (B p) ++ [x]
/-- the map of a plan -/
def psis : W → W → W
  | [], w => w
  | x :: p, w => psi x (psis p w)
theorem psis_psis : ∀ (p q w : W), psis (p ++ q) w = psis p (psis q w)
  | [], q, w => rfl
  | x :: p, q, w => by simp only [List.cons_append, psis, psis_psis p q w]
/-- a step's letters -/
def st (p : W) (y : Nat) : Nat := (psis p [y]).length
theorem st_nil (y : Nat) : st [] y = 1 := rfl
end Pal
set_option autoImplicit false
set_option linter.all false
namespace Pal
end Pal
set_option autoImplicit false
set_option linter.all false
namespace Pal
end Pal
set_option autoImplicit false
set_option linter.all false
namespace Pal
theorem psi_len_le (x : Nat) : ∀ w : W, w.length ≤ (psi x w).length
  | [] => Nat.le_refl _
  | y :: w => by
    have := psi_len_le x w
    simp only [psi]
    split <;> simp <;> omega
theorem psi_flat (x : Nat) : ∀ w : W, (w.map fun c => if c = x then [x] else [x, c]).flatten = psi x w
  | [] => rfl
  | y :: w => by
    simp only [List.map_cons, List.flatten_cons, psi, psi_flat x w]
    split <;> rfl
theorem psi_snoc (x : Nat) (w : W) (c : Nat) : psi x (w ++ [c]) = psi x w ++ (if c = x then [x] else [x, c]) := by
  rw [psi_append]
  simp only [psi]
/-- back by the map of a letter -/
def unpsi (x : Nat) : W → Option W
  | [] => some []
  | a :: w => if a = x then (match w with
    | [] => some [x]
    | b :: v => if b = x then (unpsi x (b :: v)).map (x :: ·) else (unpsi x v).map (b :: ·)) else none
theorem unpsi_psi (x : Nat) : ∀ v : W, unpsi x (psi x v) = some v
  | [] => rfl
  | c :: v => by
    have ih := unpsi_psi x v
    by_cases h : c = x
    · subst h
      simp only [psi, if_true]
      cases hv : psi c v with
      | nil =>
        have : v = [] := psi_inj c v [] (by rw [hv]; rfl)
        subst this
        simp [unpsi]
      | cons b t =>
        have hb : b = c := by
          have := psi_head c v
          rw [hv] at this
          simp at this
          exact this
        subst hb
        rw [hv] at ih
        rw [unpsi, if_pos rfl]
        simp only [if_true, ih, Option.map_some]
    · simp only [psi, h, if_false]
      rw [unpsi, if_pos rfl]
      simp only [h, if_false, ih, Option.map_some]
theorem unpsi_some (x : Nat) : ∀ (n : Nat) (w v : W), w.length ≤ n → unpsi x w = some v → psi x v = w
  | n, [], v, _, h => by simp [unpsi] at h; subst h; rfl
  | 0, a :: w, v, hn, h => by simp at hn
  | n + 1, a :: w, v, hn, h => by
    simp only [List.length_cons] at hn
    rw [unpsi.eq_def] at h
    simp only at h
    split at h
    · rename_i e
      subst e
      cases w with
      | nil => simp at h; subst h; simp [psi]
      | cons b t =>
        simp only at h
        split at h
        · rename_i e2
          subst e2
          obtain ⟨u, h1, h2⟩ := Option.map_eq_some_iff.mp h
          subst h2
          simp only [psi, if_true, unpsi_some b n (b :: t) u (by omega) h1]
        · rename_i e2
          obtain ⟨u, h1, h2⟩ := Option.map_eq_some_iff.mp h
          subst h2
          simp only [psi, e2, if_false, unpsi_some a n t u (by simp at hn; omega) h1]
    · cases h
theorem unpsi_iff {x : Nat} {w v : W} : unpsi x w = some v ↔ psi x v = w :=
  ⟨unpsi_some x w.length w v (Nat.le_refl _), fun h => by rw [← h, unpsi_psi]⟩
end Pal
set_option autoImplicit false
set_option linter.all false
namespace Pal
end Pal
set_option autoImplicit false
set_option linter.all false
namespace Pal
end Pal
set_option autoImplicit false
set_option linter.all false
namespace Pal
end Pal
set_option autoImplicit false
set_option linter.all false
set_option Elab.async false
namespace Pal
end Pal
set_option autoImplicit false
set_option linter.all false
set_option Elab.async false
namespace Pal
theorem snoc_ind {α : Type} {M : List α → Prop} (h0 : M []) (h1 : ∀ p a, M p → M (p ++ [a])) (p : List α) : M p := by
  have : ∀ r : List α, M r.reverse := by
    intro r
    induction r with
    | nil => exact h0
    | cons a r ih => rw [List.reverse_cons]; exact h1 _ _ ih
  have h := this p.reverse
  rwa [List.reverse_reverse] at h
end Pal
set_option autoImplicit false
set_option linter.all false
set_option Elab.async false
set_option maxRecDepth 100000
namespace Pal
end Pal
set_option autoImplicit false
set_option linter.all false
set_option Elab.async false
set_option maxRecDepth 100000
namespace Pal
end Pal
set_option autoImplicit false
set_option linter.all false
set_option Elab.async false
set_option maxRecDepth 100000
namespace Pal
/-- the mirror, swapped -/
def tn (f : Nat → Nat) (w : W) : W := w.reverse.map f
def sr (f : Nat → Nat) : W → Nat
  | [] => 0
  | c :: w => if tn f (c :: w) = c :: w then 0 else sr f w + 1
/-- closed to a swapped mirror -/
def sc (f : Nat → Nat) (w : W) : W := w ++ tn f (w.take (sr f w))
variable {f : Nat → Nat} (hf : ∀ c, f (f c) = c)
theorem tn_app (u v : W) : tn f (u ++ v) = tn f v ++ tn f u := by simp [tn]
theorem tn_len (u : W) : (tn f u).length = u.length := by simp [tn]
theorem sr_le : ∀ w : W, sr f w ≤ w.length
  | [] => Nat.le_refl _
  | c :: w => by
    simp only [sr]
    have := sr_le w
    split <;> simp only [List.length_cons] <;> omega
include hf
end Pal
namespace Pal
variable {f : Nat → Nat} (hf : ∀ c, f (f c) = c)
include hf
omit hf in
theorem sr_pal : ∀ w : W, tn f (w.drop (sr f w)) = w.drop (sr f w)
  | [] => rfl
  | c :: w => by
    simp only [sr]
    split
    · rename_i h; exact h
    · rw [List.drop_succ_cons]; exact sr_pal w
omit hf in
theorem sr_min : ∀ (w : W) (r : Nat), tn f (w.drop r) = w.drop r → sr f w ≤ r
  | [], _, _ => Nat.zero_le _
  | c :: w, r, h => by
    simp only [sr]
    split
    · exact Nat.zero_le _
    · rename_i q
      cases r with
      | zero => exact absurd h q
      | succ r => rw [List.drop_succ_cons] at h; exact Nat.succ_le_succ (sr_min w r h)
omit hf in
theorem sc_len (w : W) : (sc f w).length ≤ 2 * w.length := by
  have := sr_le (f := f) w
  unfold sc
  rw [List.length_append, tn_len, List.length_take]; omega
end Pal
set_option autoImplicit false
set_option linter.all false
set_option Elab.async false
set_option maxRecDepth 100000
namespace Pal
theorem psi_one (c y : Nat) : psi c [y] = if y = c then [c] else [c, y] := by
  have := psi_snoc c [] y
  simpa [psi] using this
end Pal
set_option autoImplicit false
set_option linter.all false
set_option Elab.async false
set_option maxRecDepth 100000
namespace Pal
variable (w : Nat → Int)
def wsum : W → Int
  | [] => 0
  | c :: v => w c + wsum v
/-- the sum ahead of a place -/
def sa (v : W) (k : Nat) : Int := wsum w (v.take k)
theorem sa_zero (v : W) : sa w v 0 = 0 := by simp [sa, wsum]
/-- the greatest sum and its first place -/
structure IsTop (v : W) (M : Int) (k : Nat) : Prop where
  le : k ≤ v.length
  eq : sa w v k = M
  max : ∀ j, j ≤ v.length → sa w v j ≤ M
  first : ∀ j, j < k → sa w v j < M
theorem IsTop.nil : IsTop w [] 0 0 := ⟨Nat.le_refl _, rfl, fun j h => by simp [sa, wsum], fun j h => by omega⟩
variable {w}
/-- the first place ahead of which the sum is above b -/
structure IsFst (w : Nat → Int) (v : W) (b : Int) (k : Nat) : Prop where
  le : k ≤ v.length
  gt : b < sa w v k
  first : ∀ j, j < k → sa w v j ≤ b
theorem IsFst.zero {v : W} {b : Int} {k : Nat} (h : IsFst w v b k) (hb : b < 0) : k = 0 := by
  rcases Nat.eq_zero_or_pos k with q | q
  · exact q
  · have := h.first 0 q
    rw [sa_zero] at this; omega
end Pal
set_option autoImplicit false
set_option linter.all false
namespace Ev
/-- a letter -/
def ch (w : List Nat) (i : Nat) : Nat := w.getD i 0
/-- the prefix of length p has a border of length k -/
def Bd (w : List Nat) (p k : Nat) : Prop := k < p ∧ ∀ i, i < k → ch w i = ch w (p - k + i)
instance (w : List Nat) (p k : Nat) : Decidable (Bd w p k) := by unfold Bd; exact inferInstance
/-- the longest border of length n or less -/
def gB (w : List Nat) (p : Nat) : Nat → Nat
  | 0 => 0
  | n + 1 => if Bd w p (n + 1) then n + 1 else gB w p n
def brd (w : List Nat) (p : Nat) : Nat := gB w p (p - 1)
section
variable {w : List Nat} {p k j s : Nat}
theorem Bd.zero (h : 0 < p) : Bd w p 0 := ⟨h, fun i hi => by omega⟩
theorem Bd.trans (a : Bd w p k) (b : Bd w k j) : Bd w p j := by
  refine ⟨by have := a.1; have := b.1; omega, fun i hi => ?_⟩
  have h1 := b.2 i hi
  have h2 := a.2 (k - j + i) (by have := b.1; omega)
  rw [h1, h2]
  congr 1
  have := a.1; have := b.1; omega
theorem Bd.succ (h : k < p) : Bd w (p + 1) (k + 1) ↔ Bd w p k ∧ ch w k = ch w p := by
  constructor
  · intro a
    refine ⟨⟨h, fun i hi => ?_⟩, ?_⟩
    · have := a.2 i (by omega)
      rw [this]
      congr 1
      omega
    · have := a.2 k (by omega)
      rw [this]
      congr 1
      omega
  · rintro ⟨a, b⟩
    refine ⟨by omega, fun i hi => ?_⟩
    by_cases e : i = k
    · subst e
      rw [b]
      congr 1
      omega
    · have := a.2 i (by omega)
      rw [this]
      congr 1
      omega
end
end Ev
set_option autoImplicit false
set_option linter.all false
set_option Elab.async false
set_option maxRecDepth 100000
namespace Ev
open Pal
def okC (c : Nat) : Bool := decide (97 ≤ c) && decide (c ≤ 101)
def Let (w : W) : Prop := ∀ c, c ∈ w → 97 ≤ c ∧ c ≤ 101
theorem sub_letters {c : Nat} : isSub [c] [97, 98, 99, 100, 101] = okC c := by
  have : isSub [c] [97, 98, 99, 100, 101] = (c == 97 || c == 98 || c == 99 || c == 100 || c == 101) := by
    simp [isSub, isPre, Bool.or_assoc]
  rw [this, okC]
  by_cases h : 97 ≤ c ∧ c ≤ 101
  · have : c = 97 ∨ c = 98 ∨ c = 99 ∨ c = 100 ∨ c = 101 := by omega
    rcases this with rfl | rfl | rfl | rfl | rfl <;> rfl
  · have : c ≠ 97 ∧ c ≠ 98 ∧ c ≠ 99 ∧ c ≠ 100 ∧ c ≠ 101 := by omega
    obtain ⟨a1, a2, a3, a4, a5⟩ := this
    have e1 : (decide (97 ≤ c) && decide (c ≤ 101)) = false := by
      rw [← Bool.not_eq_true, Bool.and_eq_true, decide_eq_true_eq, decide_eq_true_eq]; exact h
    rw [e1]
    simp [a1, a2, a3, a4, a5]
theorem okC_of {w : W} (h : Let w) {c : Nat} (hc : c ∈ w) : okC c = true := by
  have := h c hc
  simp [okC, this.1, this.2]
theorem Let.append {u v : W} (a : Let u) (b : Let v) : Let (u ++ v) := fun c hc => (List.mem_append.mp hc).elim (a c) (b c)
theorem Let.left {u v : W} (a : Let (u ++ v)) : Let u := fun c hc => a c (List.mem_append_left _ hc)
theorem Let.right {u v : W} (a : Let (u ++ v)) : Let v := fun c hc => a c (List.mem_append_right _ hc)
theorem Let.rev {u : W} (a : Let u) : Let u.reverse := fun c hc => a c (List.mem_reverse.mp hc)
theorem Let.take {u : W} (a : Let u) (n : Nat) : Let (u.take n) := fun c hc => a c (List.mem_of_mem_take hc)
theorem Let.drop {u : W} (a : Let u) (n : Nat) : Let (u.drop n) := fun c hc => a c (List.mem_of_mem_drop hc)
theorem Let.nil : Let [] := fun c hc => by cases hc
theorem Let.one {c : Nat} (h : 97 ≤ c ∧ c ≤ 101) : Let [c] := fun d hd => by rw [List.mem_singleton] at hd; rw [hd]; exact h
theorem Let.close {u : W} (a : Let u) : Let (Pal.close u) := a.append (a.take _).rev
/-- the first wrong sign -/
def fWrong (w : W) : PV := match w.findIdx? fun c => !okC c with
  | none => .non
  | some i => .int (i : Int)
theorem fWrong_ok {w : W} (h : Let w) : fWrong w = .non := by
  unfold fWrong
  rw [List.findIdx?_eq_none_iff.mpr]
  intro c hc
  rw [okC_of h hc]; rfl
section
variable {fns : Nat → Option Fn} {gl : Nat → Option PV} {l : Nat}
theorem c_first_wrong (N : N_first_wrong fns gl) (w : W) : callF fns gl (l + 1) 7 [.str w] = .ok (fWrong w) := by
  refine call_eq N.self rfl ?_
  simp (disch := (first | assumption | omega | (simp only [List.length_append, List.length_cons, List.length_nil, List.length_take, List.length_drop, List.length_reverse, List.length_map, List.length_range, List.length_dropLast, List.length_replicate, List.length_set]; omega))) only [d_nil, d_cons, d_frz, d_kil, d_ret, d_set, d_own, d_par2, d_par3, d_unp, d_parn, d_pars, sn_nil, sn_cons, st_nil, st_nm, st_sub, d_seti, d_aug, d_augi, d_app, d_pop, d_expr, d_reto, d_rett, d_ifs, d_brk, d_doc, d_for, d_whl, d_popan, d_popas, d_popif, d_ext, e_con, e_var, e_bor, e_glo, e_bin, e_cmp, e_cmp2, e_neg, e_not, e_and, e_or, e_ifx, e_tup, e_lst, e_dic0, e_idx, e_cut, o_nop, o_some, e_rev, e_bi, e_me, e_call, e_draw, e_comp, es_nil, es_cons, r_seq, r_rng1, r_rng2, r_enum, r_zip, e_attr, e_mcall, e_twr, e_lrng, r_rngd, dw_ok, dw_err, kk_next, kk_ret, kk_brk, ite_t, ite_f, tn_next, tn_brk, tn_ret, Res.ofO_some, Res.ofO_none, Res.ok_bind, Res.pure_eq, Option.map_some, Option.map_none, Option.bind_some, bd_nm, bd_tp, bds_nil, bds_cons, slotsT, slotsTs, wipeS, isNop, if_true, Bool.false_eq_true, if_false, anyRaw, isRaw, Bool.or_false, Bool.false_or, Bool.false_and, Bool.true_and, Bool.and_true, Bool.and_false, Bool.or_true, Bool.true_or, Bool.not_true, Bool.not_false, decide_true, decide_false, meOk_s, meOk_l, meL, startS, List.map_cons, List.map_nil, List.cons_append, List.nil_append, List.replicate_succ, List.replicate_zero, Nat.reduceSub, Nat.reduceAdd, Nat.reduceMul, Nat.reduceDiv, Nat.reduceMod, Nat.reduceLT, Nat.reduceLeDiff, Nat.reduceBEq, Int.reduceToNat, Int.reduceNeg, Int.reduceLT, Int.reduceLE, Nat.not_lt_zero, true_and, and_true, implies_true, imp_self, List.getElem?_cons_zero, List.getElem?_cons_succ, lim_ok, rngL_len, List.length_map, List.length_cons, List.length_nil, Nat.zero_add, Nat.lt_irrefl, Nat.le_refl, beq_self_eq_true, bne_self_eq_false, gs0, gs1, gs2, gs3, gs4, gs5, gs6, gs7, gs8, gs9, gs10, gs11, gs12, gs13, gs14, gs15, gs16, ss0, ss1, ss2, ss3, ss4, ss5, ss6, ss7, ss8, ss9, ss10, ss11, ss12, ss13, ss14, ss15, ss16, shr_shr, shr_val, own_val, own_own, mkOwn_lst, mkOwn_dic, mkS_f, mkS_l, mkS_d, frz_own, frz_shr, lst_ok, row_ok, end_ret, end_next, rawV_f, rawV_s, rawV_i, rawV_b, rawV_n, v_addNL, v_addLN, v_addN, v_subNL, v_subN, v_mul2N, v_mulN, v_mulS, v_div2N, v_mod2N, v_addS, v_addL, v_addT, v_idxTl, v_iaddNL, v_iaddN, v_isubNL, v_isubN, v_eqS, v_neS, v_eqSN, v_isN, v_isS, v_isI, v_isL, v_isnN, v_isnS, v_isnI, v_isB, v_isnB, v_inS, v_ninS, v_inDS, v_ninDS, v_inDI, v_tBl, v_tNon, v_idxDS, v_idxDI, v_idxS, v_idxL, v_idxT, v_idxL0, v_idxT0, v_idxT1, v_idxS0, v_idxLl, v_lenS, v_lenL, v_lenT, v_lenD, v_revS, v_revL, v_tuple, v_listT, v_listL, v_intI, v_min2N, v_max2N, v_max20, v_itS, v_itL, v_itT, v_asI, v_neg, v_rng1, v_rng21, v_rng2, v_drw, v_app, v_setL, v_setDS, v_cutP, v_cutD, v_cutS, v_cutPL, v_cutPT, v_cutDT, v_cutS1, v_cutM1, v_eqI, v_neI, v_lt, v_le, v_gt, v_ge, beq_natCast, cst_eqL, cst_ltL, cst_leL, cst_gtL, cst_geL, cst_lt, cst_le, v_drwI, v_joinS, v_joinC, v_pre, v_end, v_any, v_all, v_sum, v_obj, v_attr, v_scount, v_listS, v_lrng, v_popAt, v_pop0, v_extL, v_sumT, f_first_wrong]
  refine for_enum _ (fun d s => ∃ x y, s = [.shr (.str w), x, y] ∧ ∀ c, c ∈ d → okC c = true) _ _ ⟨.no, .no, rfl, fun c hc => by cases hc⟩ ?_ ?_
  · rintro d c todo s e ⟨x, y, rfl, hd⟩
    simp (disch := (first | assumption | omega | (simp only [List.length_append, List.length_cons, List.length_nil, List.length_take, List.length_drop, List.length_reverse, List.length_map, List.length_range, List.length_dropLast, List.length_replicate, List.length_set]; omega))) only [d_nil, d_cons, d_frz, d_kil, d_ret, d_set, d_own, d_par2, d_par3, d_unp, d_parn, d_pars, sn_nil, sn_cons, st_nil, st_nm, st_sub, d_seti, d_aug, d_augi, d_app, d_pop, d_expr, d_reto, d_rett, d_ifs, d_brk, d_doc, d_for, d_whl, d_popan, d_popas, d_popif, d_ext, e_con, e_var, e_bor, e_glo, e_bin, e_cmp, e_cmp2, e_neg, e_not, e_and, e_or, e_ifx, e_tup, e_lst, e_dic0, e_idx, e_cut, o_nop, o_some, e_rev, e_bi, e_me, e_call, e_draw, e_comp, es_nil, es_cons, r_seq, r_rng1, r_rng2, r_enum, r_zip, e_attr, e_mcall, e_twr, e_lrng, r_rngd, dw_ok, dw_err, kk_next, kk_ret, kk_brk, ite_t, ite_f, tn_next, tn_brk, tn_ret, Res.ofO_some, Res.ofO_none, Res.ok_bind, Res.pure_eq, Option.map_some, Option.map_none, Option.bind_some, bd_nm, bd_tp, bds_nil, bds_cons, slotsT, slotsTs, wipeS, isNop, if_true, Bool.false_eq_true, if_false, anyRaw, isRaw, Bool.or_false, Bool.false_or, Bool.false_and, Bool.true_and, Bool.and_true, Bool.and_false, Bool.or_true, Bool.true_or, Bool.not_true, Bool.not_false, decide_true, decide_false, meOk_s, meOk_l, meL, startS, List.map_cons, List.map_nil, List.cons_append, List.nil_append, List.replicate_succ, List.replicate_zero, Nat.reduceSub, Nat.reduceAdd, Nat.reduceMul, Nat.reduceDiv, Nat.reduceMod, Nat.reduceLT, Nat.reduceLeDiff, Nat.reduceBEq, Int.reduceToNat, Int.reduceNeg, Int.reduceLT, Int.reduceLE, Nat.not_lt_zero, true_and, and_true, implies_true, imp_self, List.getElem?_cons_zero, List.getElem?_cons_succ, lim_ok, rngL_len, List.length_map, List.length_cons, List.length_nil, Nat.zero_add, Nat.lt_irrefl, Nat.le_refl, beq_self_eq_true, bne_self_eq_false, gs0, gs1, gs2, gs3, gs4, gs5, gs6, gs7, gs8, gs9, gs10, gs11, gs12, gs13, gs14, gs15, gs16, ss0, ss1, ss2, ss3, ss4, ss5, ss6, ss7, ss8, ss9, ss10, ss11, ss12, ss13, ss14, ss15, ss16, shr_shr, shr_val, own_val, own_own, mkOwn_lst, mkOwn_dic, mkS_f, mkS_l, mkS_d, frz_own, frz_shr, lst_ok, row_ok, end_ret, end_next, rawV_f, rawV_s, rawV_i, rawV_b, rawV_n, v_addNL, v_addLN, v_addN, v_subNL, v_subN, v_mul2N, v_mulN, v_mulS, v_div2N, v_mod2N, v_addS, v_addL, v_addT, v_idxTl, v_iaddNL, v_iaddN, v_isubNL, v_isubN, v_eqS, v_neS, v_eqSN, v_isN, v_isS, v_isI, v_isL, v_isnN, v_isnS, v_isnI, v_isB, v_isnB, v_inS, v_ninS, v_inDS, v_ninDS, v_inDI, v_tBl, v_tNon, v_idxDS, v_idxDI, v_idxS, v_idxL, v_idxT, v_idxL0, v_idxT0, v_idxT1, v_idxS0, v_idxLl, v_lenS, v_lenL, v_lenT, v_lenD, v_revS, v_revL, v_tuple, v_listT, v_listL, v_intI, v_min2N, v_max2N, v_max20, v_itS, v_itL, v_itT, v_asI, v_neg, v_rng1, v_rng21, v_rng2, v_drw, v_app, v_setL, v_setDS, v_cutP, v_cutD, v_cutS, v_cutPL, v_cutPT, v_cutDT, v_cutS1, v_cutM1, v_eqI, v_neI, v_lt, v_le, v_gt, v_ge, beq_natCast, cst_eqL, cst_ltL, cst_leL, cst_gtL, cst_geL, cst_lt, cst_le, v_drwI, v_joinS, v_joinC, v_pre, v_end, v_any, v_all, v_sum, v_obj, v_attr, v_scount, v_listS, v_lrng, v_popAt, v_pop0, v_extL, v_sumT, f_first_wrong_b1, N.g_LETTERS, sub_letters]
    cases hc : okC c with
    | true =>
      simp (disch := (first | assumption | omega | (simp only [List.length_append, List.length_cons, List.length_nil, List.length_take, List.length_drop, List.length_reverse, List.length_map, List.length_range, List.length_dropLast, List.length_replicate, List.length_set]; omega))) only [d_nil, d_cons, d_frz, d_kil, d_ret, d_set, d_own, d_par2, d_par3, d_unp, d_parn, d_pars, sn_nil, sn_cons, st_nil, st_nm, st_sub, d_seti, d_aug, d_augi, d_app, d_pop, d_expr, d_reto, d_rett, d_ifs, d_brk, d_doc, d_for, d_whl, d_popan, d_popas, d_popif, d_ext, e_con, e_var, e_bor, e_glo, e_bin, e_cmp, e_cmp2, e_neg, e_not, e_and, e_or, e_ifx, e_tup, e_lst, e_dic0, e_idx, e_cut, o_nop, o_some, e_rev, e_bi, e_me, e_call, e_draw, e_comp, es_nil, es_cons, r_seq, r_rng1, r_rng2, r_enum, r_zip, e_attr, e_mcall, e_twr, e_lrng, r_rngd, dw_ok, dw_err, kk_next, kk_ret, kk_brk, ite_t, ite_f, tn_next, tn_brk, tn_ret, Res.ofO_some, Res.ofO_none, Res.ok_bind, Res.pure_eq, Option.map_some, Option.map_none, Option.bind_some, bd_nm, bd_tp, bds_nil, bds_cons, slotsT, slotsTs, wipeS, isNop, if_true, Bool.false_eq_true, if_false, anyRaw, isRaw, Bool.or_false, Bool.false_or, Bool.false_and, Bool.true_and, Bool.and_true, Bool.and_false, Bool.or_true, Bool.true_or, Bool.not_true, Bool.not_false, decide_true, decide_false, meOk_s, meOk_l, meL, startS, List.map_cons, List.map_nil, List.cons_append, List.nil_append, List.replicate_succ, List.replicate_zero, Nat.reduceSub, Nat.reduceAdd, Nat.reduceMul, Nat.reduceDiv, Nat.reduceMod, Nat.reduceLT, Nat.reduceLeDiff, Nat.reduceBEq, Int.reduceToNat, Int.reduceNeg, Int.reduceLT, Int.reduceLE, Nat.not_lt_zero, true_and, and_true, implies_true, imp_self, List.getElem?_cons_zero, List.getElem?_cons_succ, lim_ok, rngL_len, List.length_map, List.length_cons, List.length_nil, Nat.zero_add, Nat.lt_irrefl, Nat.le_refl, beq_self_eq_true, bne_self_eq_false, gs0, gs1, gs2, gs3, gs4, gs5, gs6, gs7, gs8, gs9, gs10, gs11, gs12, gs13, gs14, gs15, gs16, ss0, ss1, ss2, ss3, ss4, ss5, ss6, ss7, ss8, ss9, ss10, ss11, ss12, ss13, ss14, ss15, ss16, shr_shr, shr_val, own_val, own_own, mkOwn_lst, mkOwn_dic, mkS_f, mkS_l, mkS_d, frz_own, frz_shr, lst_ok, row_ok, end_ret, end_next, rawV_f, rawV_s, rawV_i, rawV_b, rawV_n, v_addNL, v_addLN, v_addN, v_subNL, v_subN, v_mul2N, v_mulN, v_mulS, v_div2N, v_mod2N, v_addS, v_addL, v_addT, v_idxTl, v_iaddNL, v_iaddN, v_isubNL, v_isubN, v_eqS, v_neS, v_eqSN, v_isN, v_isS, v_isI, v_isL, v_isnN, v_isnS, v_isnI, v_isB, v_isnB, v_inS, v_ninS, v_inDS, v_ninDS, v_inDI, v_tBl, v_tNon, v_idxDS, v_idxDI, v_idxS, v_idxL, v_idxT, v_idxL0, v_idxT0, v_idxT1, v_idxS0, v_idxLl, v_lenS, v_lenL, v_lenT, v_lenD, v_revS, v_revL, v_tuple, v_listT, v_listL, v_intI, v_min2N, v_max2N, v_max20, v_itS, v_itL, v_itT, v_asI, v_neg, v_rng1, v_rng21, v_rng2, v_drw, v_app, v_setL, v_setDS, v_cutP, v_cutD, v_cutS, v_cutPL, v_cutPT, v_cutDT, v_cutS1, v_cutM1, v_eqI, v_neI, v_lt, v_le, v_gt, v_ge, beq_natCast, cst_eqL, cst_ltL, cst_leL, cst_gtL, cst_geL, cst_lt, cst_le, v_drwI, v_joinS, v_joinC, v_pre, v_end, v_any, v_all, v_sum, v_obj, v_attr, v_scount, v_listS, v_lrng, v_popAt, v_pop0, v_extL, v_sumT]
      refine ⟨_, _, rfl, fun a ha => ?_⟩
      rcases List.mem_append.mp ha with ha | ha
      · exact hd a ha
      · rw [List.mem_singleton] at ha; rw [ha]; exact hc
    | false =>
      simp (disch := (first | assumption | omega | (simp only [List.length_append, List.length_cons, List.length_nil, List.length_take, List.length_drop, List.length_reverse, List.length_map, List.length_range, List.length_dropLast, List.length_replicate, List.length_set]; omega))) only [d_nil, d_cons, d_frz, d_kil, d_ret, d_set, d_own, d_par2, d_par3, d_unp, d_parn, d_pars, sn_nil, sn_cons, st_nil, st_nm, st_sub, d_seti, d_aug, d_augi, d_app, d_pop, d_expr, d_reto, d_rett, d_ifs, d_brk, d_doc, d_for, d_whl, d_popan, d_popas, d_popif, d_ext, e_con, e_var, e_bor, e_glo, e_bin, e_cmp, e_cmp2, e_neg, e_not, e_and, e_or, e_ifx, e_tup, e_lst, e_dic0, e_idx, e_cut, o_nop, o_some, e_rev, e_bi, e_me, e_call, e_draw, e_comp, es_nil, es_cons, r_seq, r_rng1, r_rng2, r_enum, r_zip, e_attr, e_mcall, e_twr, e_lrng, r_rngd, dw_ok, dw_err, kk_next, kk_ret, kk_brk, ite_t, ite_f, tn_next, tn_brk, tn_ret, Res.ofO_some, Res.ofO_none, Res.ok_bind, Res.pure_eq, Option.map_some, Option.map_none, Option.bind_some, bd_nm, bd_tp, bds_nil, bds_cons, slotsT, slotsTs, wipeS, isNop, if_true, Bool.false_eq_true, if_false, anyRaw, isRaw, Bool.or_false, Bool.false_or, Bool.false_and, Bool.true_and, Bool.and_true, Bool.and_false, Bool.or_true, Bool.true_or, Bool.not_true, Bool.not_false, decide_true, decide_false, meOk_s, meOk_l, meL, startS, List.map_cons, List.map_nil, List.cons_append, List.nil_append, List.replicate_succ, List.replicate_zero, Nat.reduceSub, Nat.reduceAdd, Nat.reduceMul, Nat.reduceDiv, Nat.reduceMod, Nat.reduceLT, Nat.reduceLeDiff, Nat.reduceBEq, Int.reduceToNat, Int.reduceNeg, Int.reduceLT, Int.reduceLE, Nat.not_lt_zero, true_and, and_true, implies_true, imp_self, List.getElem?_cons_zero, List.getElem?_cons_succ, lim_ok, rngL_len, List.length_map, List.length_cons, List.length_nil, Nat.zero_add, Nat.lt_irrefl, Nat.le_refl, beq_self_eq_true, bne_self_eq_false, gs0, gs1, gs2, gs3, gs4, gs5, gs6, gs7, gs8, gs9, gs10, gs11, gs12, gs13, gs14, gs15, gs16, ss0, ss1, ss2, ss3, ss4, ss5, ss6, ss7, ss8, ss9, ss10, ss11, ss12, ss13, ss14, ss15, ss16, shr_shr, shr_val, own_val, own_own, mkOwn_lst, mkOwn_dic, mkS_f, mkS_l, mkS_d, frz_own, frz_shr, lst_ok, row_ok, end_ret, end_next, rawV_f, rawV_s, rawV_i, rawV_b, rawV_n, v_addNL, v_addLN, v_addN, v_subNL, v_subN, v_mul2N, v_mulN, v_mulS, v_div2N, v_mod2N, v_addS, v_addL, v_addT, v_idxTl, v_iaddNL, v_iaddN, v_isubNL, v_isubN, v_eqS, v_neS, v_eqSN, v_isN, v_isS, v_isI, v_isL, v_isnN, v_isnS, v_isnI, v_isB, v_isnB, v_inS, v_ninS, v_inDS, v_ninDS, v_inDI, v_tBl, v_tNon, v_idxDS, v_idxDI, v_idxS, v_idxL, v_idxT, v_idxL0, v_idxT0, v_idxT1, v_idxS0, v_idxLl, v_lenS, v_lenL, v_lenT, v_lenD, v_revS, v_revL, v_tuple, v_listT, v_listL, v_intI, v_min2N, v_max2N, v_max20, v_itS, v_itL, v_itT, v_asI, v_neg, v_rng1, v_rng21, v_rng2, v_drw, v_app, v_setL, v_setDS, v_cutP, v_cutD, v_cutS, v_cutPL, v_cutPT, v_cutDT, v_cutS1, v_cutM1, v_eqI, v_neI, v_lt, v_le, v_gt, v_ge, beq_natCast, cst_eqL, cst_ltL, cst_leL, cst_gtL, cst_geL, cst_lt, cst_le, v_drwI, v_joinS, v_joinC, v_pre, v_end, v_any, v_all, v_sum, v_obj, v_attr, v_scount, v_listS, v_lrng, v_popAt, v_pop0, v_extL, v_sumT]
      unfold fWrong
      have : w.findIdx? (fun c => !okC c) = some d.length := by
        rw [e, List.findIdx?_append, List.findIdx?_eq_none_iff.mpr (fun a ha => by rw [hd a ha]; rfl), List.findIdx?_cons, hc]; simp
      rw [this]
  · rintro s ⟨x, y, rfl, hd⟩
    simp (disch := (first | assumption | omega | (simp only [List.length_append, List.length_cons, List.length_nil, List.length_take, List.length_drop, List.length_reverse, List.length_map, List.length_range, List.length_dropLast, List.length_replicate, List.length_set]; omega))) only [d_nil, d_cons, d_frz, d_kil, d_ret, d_set, d_own, d_par2, d_par3, d_unp, d_parn, d_pars, sn_nil, sn_cons, st_nil, st_nm, st_sub, d_seti, d_aug, d_augi, d_app, d_pop, d_expr, d_reto, d_rett, d_ifs, d_brk, d_doc, d_for, d_whl, d_popan, d_popas, d_popif, d_ext, e_con, e_var, e_bor, e_glo, e_bin, e_cmp, e_cmp2, e_neg, e_not, e_and, e_or, e_ifx, e_tup, e_lst, e_dic0, e_idx, e_cut, o_nop, o_some, e_rev, e_bi, e_me, e_call, e_draw, e_comp, es_nil, es_cons, r_seq, r_rng1, r_rng2, r_enum, r_zip, e_attr, e_mcall, e_twr, e_lrng, r_rngd, dw_ok, dw_err, kk_next, kk_ret, kk_brk, ite_t, ite_f, tn_next, tn_brk, tn_ret, Res.ofO_some, Res.ofO_none, Res.ok_bind, Res.pure_eq, Option.map_some, Option.map_none, Option.bind_some, bd_nm, bd_tp, bds_nil, bds_cons, slotsT, slotsTs, wipeS, isNop, if_true, Bool.false_eq_true, if_false, anyRaw, isRaw, Bool.or_false, Bool.false_or, Bool.false_and, Bool.true_and, Bool.and_true, Bool.and_false, Bool.or_true, Bool.true_or, Bool.not_true, Bool.not_false, decide_true, decide_false, meOk_s, meOk_l, meL, startS, List.map_cons, List.map_nil, List.cons_append, List.nil_append, List.replicate_succ, List.replicate_zero, Nat.reduceSub, Nat.reduceAdd, Nat.reduceMul, Nat.reduceDiv, Nat.reduceMod, Nat.reduceLT, Nat.reduceLeDiff, Nat.reduceBEq, Int.reduceToNat, Int.reduceNeg, Int.reduceLT, Int.reduceLE, Nat.not_lt_zero, true_and, and_true, implies_true, imp_self, List.getElem?_cons_zero, List.getElem?_cons_succ, lim_ok, rngL_len, List.length_map, List.length_cons, List.length_nil, Nat.zero_add, Nat.lt_irrefl, Nat.le_refl, beq_self_eq_true, bne_self_eq_false, gs0, gs1, gs2, gs3, gs4, gs5, gs6, gs7, gs8, gs9, gs10, gs11, gs12, gs13, gs14, gs15, gs16, ss0, ss1, ss2, ss3, ss4, ss5, ss6, ss7, ss8, ss9, ss10, ss11, ss12, ss13, ss14, ss15, ss16, shr_shr, shr_val, own_val, own_own, mkOwn_lst, mkOwn_dic, mkS_f, mkS_l, mkS_d, frz_own, frz_shr, lst_ok, row_ok, end_ret, end_next, rawV_f, rawV_s, rawV_i, rawV_b, rawV_n, v_addNL, v_addLN, v_addN, v_subNL, v_subN, v_mul2N, v_mulN, v_mulS, v_div2N, v_mod2N, v_addS, v_addL, v_addT, v_idxTl, v_iaddNL, v_iaddN, v_isubNL, v_isubN, v_eqS, v_neS, v_eqSN, v_isN, v_isS, v_isI, v_isL, v_isnN, v_isnS, v_isnI, v_isB, v_isnB, v_inS, v_ninS, v_inDS, v_ninDS, v_inDI, v_tBl, v_tNon, v_idxDS, v_idxDI, v_idxS, v_idxL, v_idxT, v_idxL0, v_idxT0, v_idxT1, v_idxS0, v_idxLl, v_lenS, v_lenL, v_lenT, v_lenD, v_revS, v_revL, v_tuple, v_listT, v_listL, v_intI, v_min2N, v_max2N, v_max20, v_itS, v_itL, v_itT, v_asI, v_neg, v_rng1, v_rng21, v_rng2, v_drw, v_app, v_setL, v_setDS, v_cutP, v_cutD, v_cutS, v_cutPL, v_cutPT, v_cutDT, v_cutS1, v_cutM1, v_eqI, v_neI, v_lt, v_le, v_gt, v_ge, beq_natCast, cst_eqL, cst_ltL, cst_leL, cst_gtL, cst_geL, cst_lt, cst_le, v_drwI, v_joinS, v_joinC, v_pre, v_end, v_any, v_all, v_sum, v_obj, v_attr, v_scount, v_listS, v_lrng, v_popAt, v_pop0, v_extL, v_sumT]
    unfold fWrong
    rw [List.findIdx?_eq_none_iff.mpr (fun a ha => by rw [hd a ha]; rfl)]
theorem is_str {s : W} : biP (.isinst [2]) [.str s] = some (.bl true) := rfl
theorem c_need_word (N : N_need_word fns gl) {w : W} (hw : Let w) (hl : w.length ≤ 2000) : callF fns gl (l + 2) 8 [.str w] = .ok .non := by
  refine call_eq N.self rfl ?_
  have e : decide (2000 < w.length) = false := decide_eq_false (by omega)
  simp (disch := (first | assumption | omega | (simp only [List.length_append, List.length_cons, List.length_nil, List.length_take, List.length_drop, List.length_reverse, List.length_map, List.length_range, List.length_dropLast, List.length_replicate, List.length_set]; omega))) only [d_nil, d_cons, d_frz, d_kil, d_ret, d_set, d_own, d_par2, d_par3, d_unp, d_parn, d_pars, sn_nil, sn_cons, st_nil, st_nm, st_sub, d_seti, d_aug, d_augi, d_app, d_pop, d_expr, d_reto, d_rett, d_ifs, d_brk, d_doc, d_for, d_whl, d_popan, d_popas, d_popif, d_ext, e_con, e_var, e_bor, e_glo, e_bin, e_cmp, e_cmp2, e_neg, e_not, e_and, e_or, e_ifx, e_tup, e_lst, e_dic0, e_idx, e_cut, o_nop, o_some, e_rev, e_bi, e_me, e_call, e_draw, e_comp, es_nil, es_cons, r_seq, r_rng1, r_rng2, r_enum, r_zip, e_attr, e_mcall, e_twr, e_lrng, r_rngd, dw_ok, dw_err, kk_next, kk_ret, kk_brk, ite_t, ite_f, tn_next, tn_brk, tn_ret, Res.ofO_some, Res.ofO_none, Res.ok_bind, Res.pure_eq, Option.map_some, Option.map_none, Option.bind_some, bd_nm, bd_tp, bds_nil, bds_cons, slotsT, slotsTs, wipeS, isNop, if_true, Bool.false_eq_true, if_false, anyRaw, isRaw, Bool.or_false, Bool.false_or, Bool.false_and, Bool.true_and, Bool.and_true, Bool.and_false, Bool.or_true, Bool.true_or, Bool.not_true, Bool.not_false, decide_true, decide_false, meOk_s, meOk_l, meL, startS, List.map_cons, List.map_nil, List.cons_append, List.nil_append, List.replicate_succ, List.replicate_zero, Nat.reduceSub, Nat.reduceAdd, Nat.reduceMul, Nat.reduceDiv, Nat.reduceMod, Nat.reduceLT, Nat.reduceLeDiff, Nat.reduceBEq, Int.reduceToNat, Int.reduceNeg, Int.reduceLT, Int.reduceLE, Nat.not_lt_zero, true_and, and_true, implies_true, imp_self, List.getElem?_cons_zero, List.getElem?_cons_succ, lim_ok, rngL_len, List.length_map, List.length_cons, List.length_nil, Nat.zero_add, Nat.lt_irrefl, Nat.le_refl, beq_self_eq_true, bne_self_eq_false, gs0, gs1, gs2, gs3, gs4, gs5, gs6, gs7, gs8, gs9, gs10, gs11, gs12, gs13, gs14, gs15, gs16, ss0, ss1, ss2, ss3, ss4, ss5, ss6, ss7, ss8, ss9, ss10, ss11, ss12, ss13, ss14, ss15, ss16, shr_shr, shr_val, own_val, own_own, mkOwn_lst, mkOwn_dic, mkS_f, mkS_l, mkS_d, frz_own, frz_shr, lst_ok, row_ok, end_ret, end_next, rawV_f, rawV_s, rawV_i, rawV_b, rawV_n, v_addNL, v_addLN, v_addN, v_subNL, v_subN, v_mul2N, v_mulN, v_mulS, v_div2N, v_mod2N, v_addS, v_addL, v_addT, v_idxTl, v_iaddNL, v_iaddN, v_isubNL, v_isubN, v_eqS, v_neS, v_eqSN, v_isN, v_isS, v_isI, v_isL, v_isnN, v_isnS, v_isnI, v_isB, v_isnB, v_inS, v_ninS, v_inDS, v_ninDS, v_inDI, v_tBl, v_tNon, v_idxDS, v_idxDI, v_idxS, v_idxL, v_idxT, v_idxL0, v_idxT0, v_idxT1, v_idxS0, v_idxLl, v_lenS, v_lenL, v_lenT, v_lenD, v_revS, v_revL, v_tuple, v_listT, v_listL, v_intI, v_min2N, v_max2N, v_max20, v_itS, v_itL, v_itT, v_asI, v_neg, v_rng1, v_rng21, v_rng2, v_drw, v_app, v_setL, v_setDS, v_cutP, v_cutD, v_cutS, v_cutPL, v_cutPT, v_cutDT, v_cutS1, v_cutM1, v_eqI, v_neI, v_lt, v_le, v_gt, v_ge, beq_natCast, cst_eqL, cst_ltL, cst_leL, cst_gtL, cst_geL, cst_lt, cst_le, v_drwI, v_joinS, v_joinC, v_pre, v_end, v_any, v_all, v_sum, v_obj, v_attr, v_scount, v_listS, v_lrng, v_popAt, v_pop0, v_extL, v_sumT, f_need_word, is_str, N.g_MOST_WORD, c_first_wrong N.n_first_wrong, fWrong_ok hw, show ((2000 : Int)) = ((2000 : Nat) : Int) from rfl, e]
theorem c_need_plan (N : N_need_plan fns gl) {w : W} (hw : Let w) (hl : w.length ≤ 80) : callF fns gl (l + 2) 22 [.str w] = .ok .non := by
  refine call_eq N.self rfl ?_
  have e : decide (80 < w.length) = false := decide_eq_false (by omega)
  simp (disch := (first | assumption | omega | (simp only [List.length_append, List.length_cons, List.length_nil, List.length_take, List.length_drop, List.length_reverse, List.length_map, List.length_range, List.length_dropLast, List.length_replicate, List.length_set]; omega))) only [d_nil, d_cons, d_frz, d_kil, d_ret, d_set, d_own, d_par2, d_par3, d_unp, d_parn, d_pars, sn_nil, sn_cons, st_nil, st_nm, st_sub, d_seti, d_aug, d_augi, d_app, d_pop, d_expr, d_reto, d_rett, d_ifs, d_brk, d_doc, d_for, d_whl, d_popan, d_popas, d_popif, d_ext, e_con, e_var, e_bor, e_glo, e_bin, e_cmp, e_cmp2, e_neg, e_not, e_and, e_or, e_ifx, e_tup, e_lst, e_dic0, e_idx, e_cut, o_nop, o_some, e_rev, e_bi, e_me, e_call, e_draw, e_comp, es_nil, es_cons, r_seq, r_rng1, r_rng2, r_enum, r_zip, e_attr, e_mcall, e_twr, e_lrng, r_rngd, dw_ok, dw_err, kk_next, kk_ret, kk_brk, ite_t, ite_f, tn_next, tn_brk, tn_ret, Res.ofO_some, Res.ofO_none, Res.ok_bind, Res.pure_eq, Option.map_some, Option.map_none, Option.bind_some, bd_nm, bd_tp, bds_nil, bds_cons, slotsT, slotsTs, wipeS, isNop, if_true, Bool.false_eq_true, if_false, anyRaw, isRaw, Bool.or_false, Bool.false_or, Bool.false_and, Bool.true_and, Bool.and_true, Bool.and_false, Bool.or_true, Bool.true_or, Bool.not_true, Bool.not_false, decide_true, decide_false, meOk_s, meOk_l, meL, startS, List.map_cons, List.map_nil, List.cons_append, List.nil_append, List.replicate_succ, List.replicate_zero, Nat.reduceSub, Nat.reduceAdd, Nat.reduceMul, Nat.reduceDiv, Nat.reduceMod, Nat.reduceLT, Nat.reduceLeDiff, Nat.reduceBEq, Int.reduceToNat, Int.reduceNeg, Int.reduceLT, Int.reduceLE, Nat.not_lt_zero, true_and, and_true, implies_true, imp_self, List.getElem?_cons_zero, List.getElem?_cons_succ, lim_ok, rngL_len, List.length_map, List.length_cons, List.length_nil, Nat.zero_add, Nat.lt_irrefl, Nat.le_refl, beq_self_eq_true, bne_self_eq_false, gs0, gs1, gs2, gs3, gs4, gs5, gs6, gs7, gs8, gs9, gs10, gs11, gs12, gs13, gs14, gs15, gs16, ss0, ss1, ss2, ss3, ss4, ss5, ss6, ss7, ss8, ss9, ss10, ss11, ss12, ss13, ss14, ss15, ss16, shr_shr, shr_val, own_val, own_own, mkOwn_lst, mkOwn_dic, mkS_f, mkS_l, mkS_d, frz_own, frz_shr, lst_ok, row_ok, end_ret, end_next, rawV_f, rawV_s, rawV_i, rawV_b, rawV_n, v_addNL, v_addLN, v_addN, v_subNL, v_subN, v_mul2N, v_mulN, v_mulS, v_div2N, v_mod2N, v_addS, v_addL, v_addT, v_idxTl, v_iaddNL, v_iaddN, v_isubNL, v_isubN, v_eqS, v_neS, v_eqSN, v_isN, v_isS, v_isI, v_isL, v_isnN, v_isnS, v_isnI, v_isB, v_isnB, v_inS, v_ninS, v_inDS, v_ninDS, v_inDI, v_tBl, v_tNon, v_idxDS, v_idxDI, v_idxS, v_idxL, v_idxT, v_idxL0, v_idxT0, v_idxT1, v_idxS0, v_idxLl, v_lenS, v_lenL, v_lenT, v_lenD, v_revS, v_revL, v_tuple, v_listT, v_listL, v_intI, v_min2N, v_max2N, v_max20, v_itS, v_itL, v_itT, v_asI, v_neg, v_rng1, v_rng21, v_rng2, v_drw, v_app, v_setL, v_setDS, v_cutP, v_cutD, v_cutS, v_cutPL, v_cutPT, v_cutDT, v_cutS1, v_cutM1, v_eqI, v_neI, v_lt, v_le, v_gt, v_ge, beq_natCast, cst_eqL, cst_ltL, cst_leL, cst_gtL, cst_geL, cst_lt, cst_le, v_drwI, v_joinS, v_joinC, v_pre, v_end, v_any, v_all, v_sum, v_obj, v_attr, v_scount, v_listS, v_lrng, v_popAt, v_pop0, v_extL, v_sumT, f_need_plan, is_str, N.g_MOST_PLAN, c_first_wrong N.n_first_wrong, fWrong_ok hw, show ((80 : Int)) = ((80 : Nat) : Int) from rfl, e]
/-- borders_of's list: the longest border of each prefix -/
def brdL (w : W) (n : Nat) : List PV := (List.range n).map fun i => .int (brd w (i + 1) : Nat)
/-- found while it is filled: the first p are right -/
structure Fd (w : W) (p : Nat) (F : List PV) : Prop where
  len : F.length = w.length
  ok : ∀ j, j < p → F[j]? = some (.int (brd w (j + 1) : Nat))
theorem Fd.all {w : W} {F : List PV} (h : Fd w w.length F) : F = brdL w w.length := by
  apply List.ext_getElem?
  intro i
  by_cases hi : i < w.length
  · rw [h.ok i hi]
    unfold brdL
    rw [List.getElem?_map, List.getElem?_range hi]
    rfl
  · rw [List.getElem?_eq_none (by rw [h.len]; omega), List.getElem?_eq_none (by unfold brdL; rw [List.length_map, List.length_range]; omega)]
end
end Ev
set_option autoImplicit false
set_option linter.all false
set_option Elab.async false
set_option maxRecDepth 100000
namespace Ev
open Pal
section
variable {fns : Nat → Option Fn} {gl : Nat → Option PV} {l : Nat} {E : PV → Prop}
theorem i1_bl {b : Bool} : biP (.isinst [1]) [.bl b] = some (.bl true) := rfl
theorem eqBB {a b : Bool} : cmpP .eq (.bl a) (.bl b) = some (a == b) := rfl
theorem c_is (N : N_law_is fns gl) (b : Bool) : callF fns gl (l + 1) 2 [.bl b, .bl b] = .ok (.bl true) := by
  refine call_eq N.self rfl ?_
  simp (disch := (first | assumption | omega | (simp only [List.length_append, List.length_cons, List.length_nil, List.length_take, List.length_drop, List.length_reverse, List.length_map, List.length_range, List.length_dropLast, List.length_replicate, List.length_set]; omega))) only [d_nil, d_cons, d_frz, d_kil, d_ret, d_set, d_own, d_par2, d_par3, d_unp, d_parn, d_pars, sn_nil, sn_cons, st_nil, st_nm, st_sub, d_seti, d_aug, d_augi, d_app, d_pop, d_expr, d_reto, d_rett, d_ifs, d_brk, d_doc, d_for, d_whl, d_popan, d_popas, d_popif, d_ext, e_con, e_var, e_bor, e_glo, e_bin, e_cmp, e_cmp2, e_neg, e_not, e_and, e_or, e_ifx, e_tup, e_lst, e_dic0, e_idx, e_cut, o_nop, o_some, e_rev, e_bi, e_me, e_call, e_draw, e_comp, es_nil, es_cons, r_seq, r_rng1, r_rng2, r_enum, r_zip, e_attr, e_mcall, e_twr, e_lrng, r_rngd, dw_ok, dw_err, kk_next, kk_ret, kk_brk, ite_t, ite_f, tn_next, tn_brk, tn_ret, Res.ofO_some, Res.ofO_none, Res.ok_bind, Res.pure_eq, Option.map_some, Option.map_none, Option.bind_some, bd_nm, bd_tp, bds_nil, bds_cons, slotsT, slotsTs, wipeS, isNop, if_true, Bool.false_eq_true, if_false, anyRaw, isRaw, Bool.or_false, Bool.false_or, Bool.false_and, Bool.true_and, Bool.and_true, Bool.and_false, Bool.or_true, Bool.true_or, Bool.not_true, Bool.not_false, decide_true, decide_false, meOk_s, meOk_l, meL, startS, List.map_cons, List.map_nil, List.cons_append, List.nil_append, List.replicate_succ, List.replicate_zero, Nat.reduceSub, Nat.reduceAdd, Nat.reduceMul, Nat.reduceDiv, Nat.reduceMod, Nat.reduceLT, Nat.reduceLeDiff, Nat.reduceBEq, Int.reduceToNat, Int.reduceNeg, Int.reduceLT, Int.reduceLE, Nat.not_lt_zero, true_and, and_true, implies_true, imp_self, List.getElem?_cons_zero, List.getElem?_cons_succ, lim_ok, rngL_len, List.length_map, List.length_cons, List.length_nil, Nat.zero_add, Nat.lt_irrefl, Nat.le_refl, beq_self_eq_true, bne_self_eq_false, gs0, gs1, gs2, gs3, gs4, gs5, gs6, gs7, gs8, gs9, gs10, gs11, gs12, gs13, gs14, gs15, gs16, ss0, ss1, ss2, ss3, ss4, ss5, ss6, ss7, ss8, ss9, ss10, ss11, ss12, ss13, ss14, ss15, ss16, shr_shr, shr_val, own_val, own_own, mkOwn_lst, mkOwn_dic, mkS_f, mkS_l, mkS_d, frz_own, frz_shr, lst_ok, row_ok, end_ret, end_next, rawV_f, rawV_s, rawV_i, rawV_b, rawV_n, v_addNL, v_addLN, v_addN, v_subNL, v_subN, v_mul2N, v_mulN, v_mulS, v_div2N, v_mod2N, v_addS, v_addL, v_addT, v_idxTl, v_iaddNL, v_iaddN, v_isubNL, v_isubN, v_eqS, v_neS, v_eqSN, v_isN, v_isS, v_isI, v_isL, v_isnN, v_isnS, v_isnI, v_isB, v_isnB, v_inS, v_ninS, v_inDS, v_ninDS, v_inDI, v_tBl, v_tNon, v_idxDS, v_idxDI, v_idxS, v_idxL, v_idxT, v_idxL0, v_idxT0, v_idxT1, v_idxS0, v_idxLl, v_lenS, v_lenL, v_lenT, v_lenD, v_revS, v_revL, v_tuple, v_listT, v_listL, v_intI, v_min2N, v_max2N, v_max20, v_itS, v_itL, v_itT, v_asI, v_neg, v_rng1, v_rng21, v_rng2, v_drw, v_app, v_setL, v_setDS, v_cutP, v_cutD, v_cutS, v_cutPL, v_cutPT, v_cutDT, v_cutS1, v_cutM1, v_eqI, v_neI, v_lt, v_le, v_gt, v_ge, beq_natCast, cst_eqL, cst_ltL, cst_leL, cst_gtL, cst_geL, cst_lt, cst_le, v_drwI, v_joinS, v_joinC, v_pre, v_end, v_any, v_all, v_sum, v_obj, v_attr, v_scount, v_listS, v_lrng, v_popAt, v_pop0, v_extL, v_sumT, f_law_is, i1_bl, eqBB, beq_self_eq_true]
/-- of the first letters -/
def LetM (n : Nat) (w : W) : Prop := ∀ c, c ∈ w → 97 ≤ c ∧ c < 97 + n
theorem LetM.let {n : Nat} {w : W} (h : LetM n w) (hn : n ≤ 5) : Let w := fun c hc => by have := h c hc; omega
theorem LetM.nil {n : Nat} : LetM n [] := fun c hc => by cases hc
theorem LetM.snoc {n : Nat} {w : W} (h : LetM n w) {c : Nat} (hc : 97 ≤ c ∧ c < 97 + n) : LetM n (w ++ [c]) := fun d hd => by
  rcases List.mem_append.mp hd with hd | hd
  · exact h d hd
  · rw [List.mem_singleton] at hd; rw [hd]; exact hc
theorem get_abc {i : Nat} (h : i < 5) : ([97, 98, 99, 100, 101] : W).getD i 0 = 97 + i := by
  have : i = 0 ∨ i = 1 ∨ i = 2 ∨ i = 3 ∨ i = 4 := by omega
  rcases this with rfl | rfl | rfl | rfl | rfl <;> rfl
theorem d_pickS (N : N_law_pick fns gl) {w : W} (h0 : 0 < w.length) (h : w.length ≤ 1000) {Q : PV → Prop} (hq : ∀ c, c ∈ w → Q (.str [c])) :
    Dw true E (callF fns gl (l + 1) 18 [.row, .str w]) Q := by
  refine call_dw N.self rfl ?_
  simp (disch := (first | assumption | omega | (simp only [List.length_append, List.length_cons, List.length_nil, List.length_take, List.length_drop, List.length_reverse, List.length_map, List.length_range, List.length_dropLast, List.length_replicate, List.length_set]; omega))) only [d_nil, d_cons, d_frz, d_kil, d_ret, d_set, d_own, d_par2, d_par3, d_unp, d_parn, d_pars, sn_nil, sn_cons, st_nil, st_nm, st_sub, d_seti, d_aug, d_augi, d_app, d_pop, d_expr, d_reto, d_rett, d_ifs, d_brk, d_doc, d_for, d_whl, d_popan, d_popas, d_popif, d_ext, e_con, e_var, e_bor, e_glo, e_bin, e_cmp, e_cmp2, e_neg, e_not, e_and, e_or, e_ifx, e_tup, e_lst, e_dic0, e_idx, e_cut, o_nop, o_some, e_rev, e_bi, e_me, e_call, e_draw, e_comp, es_nil, es_cons, r_seq, r_rng1, r_rng2, r_enum, r_zip, e_attr, e_mcall, e_twr, e_lrng, r_rngd, dw_ok, dw_err, kk_next, kk_ret, kk_brk, ite_t, ite_f, tn_next, tn_brk, tn_ret, Res.ofO_some, Res.ofO_none, Res.ok_bind, Res.pure_eq, Option.map_some, Option.map_none, Option.bind_some, bd_nm, bd_tp, bds_nil, bds_cons, slotsT, slotsTs, wipeS, isNop, if_true, Bool.false_eq_true, if_false, anyRaw, isRaw, Bool.or_false, Bool.false_or, Bool.false_and, Bool.true_and, Bool.and_true, Bool.and_false, Bool.or_true, Bool.true_or, Bool.not_true, Bool.not_false, decide_true, decide_false, meOk_s, meOk_l, meL, startS, List.map_cons, List.map_nil, List.cons_append, List.nil_append, List.replicate_succ, List.replicate_zero, Nat.reduceSub, Nat.reduceAdd, Nat.reduceMul, Nat.reduceDiv, Nat.reduceMod, Nat.reduceLT, Nat.reduceLeDiff, Nat.reduceBEq, Int.reduceToNat, Int.reduceNeg, Int.reduceLT, Int.reduceLE, Nat.not_lt_zero, true_and, and_true, implies_true, imp_self, List.getElem?_cons_zero, List.getElem?_cons_succ, lim_ok, rngL_len, List.length_map, List.length_cons, List.length_nil, Nat.zero_add, Nat.lt_irrefl, Nat.le_refl, beq_self_eq_true, bne_self_eq_false, gs0, gs1, gs2, gs3, gs4, gs5, gs6, gs7, gs8, gs9, gs10, gs11, gs12, gs13, gs14, gs15, gs16, ss0, ss1, ss2, ss3, ss4, ss5, ss6, ss7, ss8, ss9, ss10, ss11, ss12, ss13, ss14, ss15, ss16, shr_shr, shr_val, own_val, own_own, mkOwn_lst, mkOwn_dic, mkS_f, mkS_l, mkS_d, frz_own, frz_shr, lst_ok, row_ok, end_ret, end_next, rawV_f, rawV_s, rawV_i, rawV_b, rawV_n, v_addNL, v_addLN, v_addN, v_subNL, v_subN, v_mul2N, v_mulN, v_mulS, v_div2N, v_mod2N, v_addS, v_addL, v_addT, v_idxTl, v_iaddNL, v_iaddN, v_isubNL, v_isubN, v_eqS, v_neS, v_eqSN, v_isN, v_isS, v_isI, v_isL, v_isnN, v_isnS, v_isnI, v_isB, v_isnB, v_inS, v_ninS, v_inDS, v_ninDS, v_inDI, v_tBl, v_tNon, v_idxDS, v_idxDI, v_idxS, v_idxL, v_idxT, v_idxL0, v_idxT0, v_idxT1, v_idxS0, v_idxLl, v_lenS, v_lenL, v_lenT, v_lenD, v_revS, v_revL, v_tuple, v_listT, v_listL, v_intI, v_min2N, v_max2N, v_max20, v_itS, v_itL, v_itT, v_asI, v_neg, v_rng1, v_rng21, v_rng2, v_drw, v_app, v_setL, v_setDS, v_cutP, v_cutD, v_cutS, v_cutPL, v_cutPT, v_cutDT, v_cutS1, v_cutM1, v_eqI, v_neI, v_lt, v_le, v_gt, v_ge, beq_natCast, cst_eqL, cst_ltL, cst_leL, cst_gtL, cst_geL, cst_lt, cst_le, v_drwI, v_joinS, v_joinC, v_pre, v_end, v_any, v_all, v_sum, v_obj, v_attr, v_scount, v_listS, v_lrng, v_popAt, v_pop0, v_extL, v_sumT, f_law_pick, dw_draw]
  intro i hi
  simp (disch := (first | assumption | omega | (simp only [List.length_append, List.length_cons, List.length_nil, List.length_take, List.length_drop, List.length_reverse, List.length_map, List.length_range, List.length_dropLast, List.length_replicate, List.length_set]; omega))) only [d_nil, d_cons, d_frz, d_kil, d_ret, d_set, d_own, d_par2, d_par3, d_unp, d_parn, d_pars, sn_nil, sn_cons, st_nil, st_nm, st_sub, d_seti, d_aug, d_augi, d_app, d_pop, d_expr, d_reto, d_rett, d_ifs, d_brk, d_doc, d_for, d_whl, d_popan, d_popas, d_popif, d_ext, e_con, e_var, e_bor, e_glo, e_bin, e_cmp, e_cmp2, e_neg, e_not, e_and, e_or, e_ifx, e_tup, e_lst, e_dic0, e_idx, e_cut, o_nop, o_some, e_rev, e_bi, e_me, e_call, e_draw, e_comp, es_nil, es_cons, r_seq, r_rng1, r_rng2, r_enum, r_zip, e_attr, e_mcall, e_twr, e_lrng, r_rngd, dw_ok, dw_err, kk_next, kk_ret, kk_brk, ite_t, ite_f, tn_next, tn_brk, tn_ret, Res.ofO_some, Res.ofO_none, Res.ok_bind, Res.pure_eq, Option.map_some, Option.map_none, Option.bind_some, bd_nm, bd_tp, bds_nil, bds_cons, slotsT, slotsTs, wipeS, isNop, if_true, Bool.false_eq_true, if_false, anyRaw, isRaw, Bool.or_false, Bool.false_or, Bool.false_and, Bool.true_and, Bool.and_true, Bool.and_false, Bool.or_true, Bool.true_or, Bool.not_true, Bool.not_false, decide_true, decide_false, meOk_s, meOk_l, meL, startS, List.map_cons, List.map_nil, List.cons_append, List.nil_append, List.replicate_succ, List.replicate_zero, Nat.reduceSub, Nat.reduceAdd, Nat.reduceMul, Nat.reduceDiv, Nat.reduceMod, Nat.reduceLT, Nat.reduceLeDiff, Nat.reduceBEq, Int.reduceToNat, Int.reduceNeg, Int.reduceLT, Int.reduceLE, Nat.not_lt_zero, true_and, and_true, implies_true, imp_self, List.getElem?_cons_zero, List.getElem?_cons_succ, lim_ok, rngL_len, List.length_map, List.length_cons, List.length_nil, Nat.zero_add, Nat.lt_irrefl, Nat.le_refl, beq_self_eq_true, bne_self_eq_false, gs0, gs1, gs2, gs3, gs4, gs5, gs6, gs7, gs8, gs9, gs10, gs11, gs12, gs13, gs14, gs15, gs16, ss0, ss1, ss2, ss3, ss4, ss5, ss6, ss7, ss8, ss9, ss10, ss11, ss12, ss13, ss14, ss15, ss16, shr_shr, shr_val, own_val, own_own, mkOwn_lst, mkOwn_dic, mkS_f, mkS_l, mkS_d, frz_own, frz_shr, lst_ok, row_ok, end_ret, end_next, rawV_f, rawV_s, rawV_i, rawV_b, rawV_n, v_addNL, v_addLN, v_addN, v_subNL, v_subN, v_mul2N, v_mulN, v_mulS, v_div2N, v_mod2N, v_addS, v_addL, v_addT, v_idxTl, v_iaddNL, v_iaddN, v_isubNL, v_isubN, v_eqS, v_neS, v_eqSN, v_isN, v_isS, v_isI, v_isL, v_isnN, v_isnS, v_isnI, v_isB, v_isnB, v_inS, v_ninS, v_inDS, v_ninDS, v_inDI, v_tBl, v_tNon, v_idxDS, v_idxDI, v_idxS, v_idxL, v_idxT, v_idxL0, v_idxT0, v_idxT1, v_idxS0, v_idxLl, v_lenS, v_lenL, v_lenT, v_lenD, v_revS, v_revL, v_tuple, v_listT, v_listL, v_intI, v_min2N, v_max2N, v_max20, v_itS, v_itL, v_itT, v_asI, v_neg, v_rng1, v_rng21, v_rng2, v_drw, v_app, v_setL, v_setDS, v_cutP, v_cutD, v_cutS, v_cutPL, v_cutPT, v_cutDT, v_cutS1, v_cutM1, v_eqI, v_neI, v_lt, v_le, v_gt, v_ge, beq_natCast, cst_eqL, cst_ltL, cst_leL, cst_gtL, cst_geL, cst_lt, cst_le, v_drwI, v_joinS, v_joinC, v_pre, v_end, v_any, v_all, v_sum, v_obj, v_attr, v_scount, v_listS, v_lrng, v_popAt, v_pop0, v_extL, v_sumT]
  refine hq _ ?_
  rw [List.getD_eq_getElem?_getD, List.getElem?_eq_getElem hi]
  exact List.getElem_mem hi
theorem d_plan (N : N_law_plan fns gl) {most many : Nat} (h1 : 1 ≤ many) (h2 : many ≤ 5) (h3 : most ≤ 1000) {Q : PV → Prop} (hq : ∀ w : W, w.length ≤ most → LetM many w → Q (.str w)) :
    Dw true E (callF fns gl (l + 1) 19 [.row, .int (most : Int), .int (many : Int)]) Q := by
  refine call_dw N.self rfl ?_
  simp (disch := (first | assumption | omega | (simp only [List.length_append, List.length_cons, List.length_nil, List.length_take, List.length_drop, List.length_reverse, List.length_map, List.length_range, List.length_dropLast, List.length_replicate, List.length_set]; omega))) only [d_nil, d_cons, d_frz, d_kil, d_ret, d_set, d_own, d_par2, d_par3, d_unp, d_parn, d_pars, sn_nil, sn_cons, st_nil, st_nm, st_sub, d_seti, d_aug, d_augi, d_app, d_pop, d_expr, d_reto, d_rett, d_ifs, d_brk, d_doc, d_for, d_whl, d_popan, d_popas, d_popif, d_ext, e_con, e_var, e_bor, e_glo, e_bin, e_cmp, e_cmp2, e_neg, e_not, e_and, e_or, e_ifx, e_tup, e_lst, e_dic0, e_idx, e_cut, o_nop, o_some, e_rev, e_bi, e_me, e_call, e_draw, e_comp, es_nil, es_cons, r_seq, r_rng1, r_rng2, r_enum, r_zip, e_attr, e_mcall, e_twr, e_lrng, r_rngd, dw_ok, dw_err, kk_next, kk_ret, kk_brk, ite_t, ite_f, tn_next, tn_brk, tn_ret, Res.ofO_some, Res.ofO_none, Res.ok_bind, Res.pure_eq, Option.map_some, Option.map_none, Option.bind_some, bd_nm, bd_tp, bds_nil, bds_cons, slotsT, slotsTs, wipeS, isNop, if_true, Bool.false_eq_true, if_false, anyRaw, isRaw, Bool.or_false, Bool.false_or, Bool.false_and, Bool.true_and, Bool.and_true, Bool.and_false, Bool.or_true, Bool.true_or, Bool.not_true, Bool.not_false, decide_true, decide_false, meOk_s, meOk_l, meL, startS, List.map_cons, List.map_nil, List.cons_append, List.nil_append, List.replicate_succ, List.replicate_zero, Nat.reduceSub, Nat.reduceAdd, Nat.reduceMul, Nat.reduceDiv, Nat.reduceMod, Nat.reduceLT, Nat.reduceLeDiff, Nat.reduceBEq, Int.reduceToNat, Int.reduceNeg, Int.reduceLT, Int.reduceLE, Nat.not_lt_zero, true_and, and_true, implies_true, imp_self, List.getElem?_cons_zero, List.getElem?_cons_succ, lim_ok, rngL_len, List.length_map, List.length_cons, List.length_nil, Nat.zero_add, Nat.lt_irrefl, Nat.le_refl, beq_self_eq_true, bne_self_eq_false, gs0, gs1, gs2, gs3, gs4, gs5, gs6, gs7, gs8, gs9, gs10, gs11, gs12, gs13, gs14, gs15, gs16, ss0, ss1, ss2, ss3, ss4, ss5, ss6, ss7, ss8, ss9, ss10, ss11, ss12, ss13, ss14, ss15, ss16, shr_shr, shr_val, own_val, own_own, mkOwn_lst, mkOwn_dic, mkS_f, mkS_l, mkS_d, frz_own, frz_shr, lst_ok, row_ok, end_ret, end_next, rawV_f, rawV_s, rawV_i, rawV_b, rawV_n, v_addNL, v_addLN, v_addN, v_subNL, v_subN, v_mul2N, v_mulN, v_mulS, v_div2N, v_mod2N, v_addS, v_addL, v_addT, v_idxTl, v_iaddNL, v_iaddN, v_isubNL, v_isubN, v_eqS, v_neS, v_eqSN, v_isN, v_isS, v_isI, v_isL, v_isnN, v_isnS, v_isnI, v_isB, v_isnB, v_inS, v_ninS, v_inDS, v_ninDS, v_inDI, v_tBl, v_tNon, v_idxDS, v_idxDI, v_idxS, v_idxL, v_idxT, v_idxL0, v_idxT0, v_idxT1, v_idxS0, v_idxLl, v_lenS, v_lenL, v_lenT, v_lenD, v_revS, v_revL, v_tuple, v_listT, v_listL, v_intI, v_min2N, v_max2N, v_max20, v_itS, v_itL, v_itT, v_asI, v_neg, v_rng1, v_rng21, v_rng2, v_drw, v_app, v_setL, v_setDS, v_cutP, v_cutD, v_cutS, v_cutPL, v_cutPT, v_cutDT, v_cutS1, v_cutM1, v_eqI, v_neI, v_lt, v_le, v_gt, v_ge, beq_natCast, cst_eqL, cst_ltL, cst_leL, cst_gtL, cst_geL, cst_lt, cst_le, v_drwI, v_joinS, v_joinC, v_pre, v_end, v_any, v_all, v_sum, v_obj, v_attr, v_scount, v_listS, v_lrng, v_popAt, v_pop0, v_extL, v_sumT, f_law_plan, dw_draw]
  intro n hn
  simp (disch := (first | assumption | omega | (simp only [List.length_append, List.length_cons, List.length_nil, List.length_take, List.length_drop, List.length_reverse, List.length_map, List.length_range, List.length_dropLast, List.length_replicate, List.length_set]; omega))) only [d_nil, d_cons, d_frz, d_kil, d_ret, d_set, d_own, d_par2, d_par3, d_unp, d_parn, d_pars, sn_nil, sn_cons, st_nil, st_nm, st_sub, d_seti, d_aug, d_augi, d_app, d_pop, d_expr, d_reto, d_rett, d_ifs, d_brk, d_doc, d_for, d_whl, d_popan, d_popas, d_popif, d_ext, e_con, e_var, e_bor, e_glo, e_bin, e_cmp, e_cmp2, e_neg, e_not, e_and, e_or, e_ifx, e_tup, e_lst, e_dic0, e_idx, e_cut, o_nop, o_some, e_rev, e_bi, e_me, e_call, e_draw, e_comp, es_nil, es_cons, r_seq, r_rng1, r_rng2, r_enum, r_zip, e_attr, e_mcall, e_twr, e_lrng, r_rngd, dw_ok, dw_err, kk_next, kk_ret, kk_brk, ite_t, ite_f, tn_next, tn_brk, tn_ret, Res.ofO_some, Res.ofO_none, Res.ok_bind, Res.pure_eq, Option.map_some, Option.map_none, Option.bind_some, bd_nm, bd_tp, bds_nil, bds_cons, slotsT, slotsTs, wipeS, isNop, if_true, Bool.false_eq_true, if_false, anyRaw, isRaw, Bool.or_false, Bool.false_or, Bool.false_and, Bool.true_and, Bool.and_true, Bool.and_false, Bool.or_true, Bool.true_or, Bool.not_true, Bool.not_false, decide_true, decide_false, meOk_s, meOk_l, meL, startS, List.map_cons, List.map_nil, List.cons_append, List.nil_append, List.replicate_succ, List.replicate_zero, Nat.reduceSub, Nat.reduceAdd, Nat.reduceMul, Nat.reduceDiv, Nat.reduceMod, Nat.reduceLT, Nat.reduceLeDiff, Nat.reduceBEq, Int.reduceToNat, Int.reduceNeg, Int.reduceLT, Int.reduceLE, Nat.not_lt_zero, true_and, and_true, implies_true, imp_self, List.getElem?_cons_zero, List.getElem?_cons_succ, lim_ok, rngL_len, List.length_map, List.length_cons, List.length_nil, Nat.zero_add, Nat.lt_irrefl, Nat.le_refl, beq_self_eq_true, bne_self_eq_false, gs0, gs1, gs2, gs3, gs4, gs5, gs6, gs7, gs8, gs9, gs10, gs11, gs12, gs13, gs14, gs15, gs16, ss0, ss1, ss2, ss3, ss4, ss5, ss6, ss7, ss8, ss9, ss10, ss11, ss12, ss13, ss14, ss15, ss16, shr_shr, shr_val, own_val, own_own, mkOwn_lst, mkOwn_dic, mkS_f, mkS_l, mkS_d, frz_own, frz_shr, lst_ok, row_ok, end_ret, end_next, rawV_f, rawV_s, rawV_i, rawV_b, rawV_n, v_addNL, v_addLN, v_addN, v_subNL, v_subN, v_mul2N, v_mulN, v_mulS, v_div2N, v_mod2N, v_addS, v_addL, v_addT, v_idxTl, v_iaddNL, v_iaddN, v_isubNL, v_isubN, v_eqS, v_neS, v_eqSN, v_isN, v_isS, v_isI, v_isL, v_isnN, v_isnS, v_isnI, v_isB, v_isnB, v_inS, v_ninS, v_inDS, v_ninDS, v_inDI, v_tBl, v_tNon, v_idxDS, v_idxDI, v_idxS, v_idxL, v_idxT, v_idxL0, v_idxT0, v_idxT1, v_idxS0, v_idxLl, v_lenS, v_lenL, v_lenT, v_lenD, v_revS, v_revL, v_tuple, v_listT, v_listL, v_intI, v_min2N, v_max2N, v_max20, v_itS, v_itL, v_itT, v_asI, v_neg, v_rng1, v_rng21, v_rng2, v_drw, v_app, v_setL, v_setDS, v_cutP, v_cutD, v_cutS, v_cutPL, v_cutPT, v_cutDT, v_cutS1, v_cutM1, v_eqI, v_neI, v_lt, v_le, v_gt, v_ge, beq_natCast, cst_eqL, cst_ltL, cst_leL, cst_gtL, cst_geL, cst_lt, cst_le, v_drwI, v_joinS, v_joinC, v_pre, v_end, v_any, v_all, v_sum, v_obj, v_attr, v_scount, v_listS, v_lrng, v_popAt, v_pop0, v_extL, v_sumT]
  refine for_rng0 n (fun k s => ∃ w c x, s = [.shr .row, .shr (.int (most : Int)), .shr (.int (many : Int)), .shr (.str w), .shr (.str [c]), x] ∧ w.length = k ∧ LetM many w ∧ 97 ≤ c ∧ c < 97 + many) _ ⟨[], 97, .no, rfl, rfl, LetM.nil, by omega, by omega⟩ ?_ ?_
  · rintro k s hk ⟨w, c, x, rfl, hw, hl, c1, c2⟩
    simp (disch := (first | assumption | omega | (simp only [List.length_append, List.length_cons, List.length_nil, List.length_take, List.length_drop, List.length_reverse, List.length_map, List.length_range, List.length_dropLast, List.length_replicate, List.length_set]; omega))) only [d_nil, d_cons, d_frz, d_kil, d_ret, d_set, d_own, d_par2, d_par3, d_unp, d_parn, d_pars, sn_nil, sn_cons, st_nil, st_nm, st_sub, d_seti, d_aug, d_augi, d_app, d_pop, d_expr, d_reto, d_rett, d_ifs, d_brk, d_doc, d_for, d_whl, d_popan, d_popas, d_popif, d_ext, e_con, e_var, e_bor, e_glo, e_bin, e_cmp, e_cmp2, e_neg, e_not, e_and, e_or, e_ifx, e_tup, e_lst, e_dic0, e_idx, e_cut, o_nop, o_some, e_rev, e_bi, e_me, e_call, e_draw, e_comp, es_nil, es_cons, r_seq, r_rng1, r_rng2, r_enum, r_zip, e_attr, e_mcall, e_twr, e_lrng, r_rngd, dw_ok, dw_err, kk_next, kk_ret, kk_brk, ite_t, ite_f, tn_next, tn_brk, tn_ret, Res.ofO_some, Res.ofO_none, Res.ok_bind, Res.pure_eq, Option.map_some, Option.map_none, Option.bind_some, bd_nm, bd_tp, bds_nil, bds_cons, slotsT, slotsTs, wipeS, isNop, if_true, Bool.false_eq_true, if_false, anyRaw, isRaw, Bool.or_false, Bool.false_or, Bool.false_and, Bool.true_and, Bool.and_true, Bool.and_false, Bool.or_true, Bool.true_or, Bool.not_true, Bool.not_false, decide_true, decide_false, meOk_s, meOk_l, meL, startS, List.map_cons, List.map_nil, List.cons_append, List.nil_append, List.replicate_succ, List.replicate_zero, Nat.reduceSub, Nat.reduceAdd, Nat.reduceMul, Nat.reduceDiv, Nat.reduceMod, Nat.reduceLT, Nat.reduceLeDiff, Nat.reduceBEq, Int.reduceToNat, Int.reduceNeg, Int.reduceLT, Int.reduceLE, Nat.not_lt_zero, true_and, and_true, implies_true, imp_self, List.getElem?_cons_zero, List.getElem?_cons_succ, lim_ok, rngL_len, List.length_map, List.length_cons, List.length_nil, Nat.zero_add, Nat.lt_irrefl, Nat.le_refl, beq_self_eq_true, bne_self_eq_false, gs0, gs1, gs2, gs3, gs4, gs5, gs6, gs7, gs8, gs9, gs10, gs11, gs12, gs13, gs14, gs15, gs16, ss0, ss1, ss2, ss3, ss4, ss5, ss6, ss7, ss8, ss9, ss10, ss11, ss12, ss13, ss14, ss15, ss16, shr_shr, shr_val, own_val, own_own, mkOwn_lst, mkOwn_dic, mkS_f, mkS_l, mkS_d, frz_own, frz_shr, lst_ok, row_ok, end_ret, end_next, rawV_f, rawV_s, rawV_i, rawV_b, rawV_n, v_addNL, v_addLN, v_addN, v_subNL, v_subN, v_mul2N, v_mulN, v_mulS, v_div2N, v_mod2N, v_addS, v_addL, v_addT, v_idxTl, v_iaddNL, v_iaddN, v_isubNL, v_isubN, v_eqS, v_neS, v_eqSN, v_isN, v_isS, v_isI, v_isL, v_isnN, v_isnS, v_isnI, v_isB, v_isnB, v_inS, v_ninS, v_inDS, v_ninDS, v_inDI, v_tBl, v_tNon, v_idxDS, v_idxDI, v_idxS, v_idxL, v_idxT, v_idxL0, v_idxT0, v_idxT1, v_idxS0, v_idxLl, v_lenS, v_lenL, v_lenT, v_lenD, v_revS, v_revL, v_tuple, v_listT, v_listL, v_intI, v_min2N, v_max2N, v_max20, v_itS, v_itL, v_itT, v_asI, v_neg, v_rng1, v_rng21, v_rng2, v_drw, v_app, v_setL, v_setDS, v_cutP, v_cutD, v_cutS, v_cutPL, v_cutPT, v_cutDT, v_cutS1, v_cutM1, v_eqI, v_neI, v_lt, v_le, v_gt, v_ge, beq_natCast, cst_eqL, cst_ltL, cst_leL, cst_gtL, cst_geL, cst_lt, cst_le, v_drwI, v_joinS, v_joinC, v_pre, v_end, v_any, v_all, v_sum, v_obj, v_attr, v_scount, v_listS, v_lrng, v_popAt, v_pop0, v_extL, v_sumT, f_law_plan_b1, dw_draw]
    intro j hj
    refine ite_by (fun _ => ?_) (fun _ => ?_)
    · simp (disch := (first | assumption | omega | (simp only [List.length_append, List.length_cons, List.length_nil, List.length_take, List.length_drop, List.length_reverse, List.length_map, List.length_range, List.length_dropLast, List.length_replicate, List.length_set]; omega))) only [d_nil, d_cons, d_frz, d_kil, d_ret, d_set, d_own, d_par2, d_par3, d_unp, d_parn, d_pars, sn_nil, sn_cons, st_nil, st_nm, st_sub, d_seti, d_aug, d_augi, d_app, d_pop, d_expr, d_reto, d_rett, d_ifs, d_brk, d_doc, d_for, d_whl, d_popan, d_popas, d_popif, d_ext, e_con, e_var, e_bor, e_glo, e_bin, e_cmp, e_cmp2, e_neg, e_not, e_and, e_or, e_ifx, e_tup, e_lst, e_dic0, e_idx, e_cut, o_nop, o_some, e_rev, e_bi, e_me, e_call, e_draw, e_comp, es_nil, es_cons, r_seq, r_rng1, r_rng2, r_enum, r_zip, e_attr, e_mcall, e_twr, e_lrng, r_rngd, dw_ok, dw_err, kk_next, kk_ret, kk_brk, ite_t, ite_f, tn_next, tn_brk, tn_ret, Res.ofO_some, Res.ofO_none, Res.ok_bind, Res.pure_eq, Option.map_some, Option.map_none, Option.bind_some, bd_nm, bd_tp, bds_nil, bds_cons, slotsT, slotsTs, wipeS, isNop, if_true, Bool.false_eq_true, if_false, anyRaw, isRaw, Bool.or_false, Bool.false_or, Bool.false_and, Bool.true_and, Bool.and_true, Bool.and_false, Bool.or_true, Bool.true_or, Bool.not_true, Bool.not_false, decide_true, decide_false, meOk_s, meOk_l, meL, startS, List.map_cons, List.map_nil, List.cons_append, List.nil_append, List.replicate_succ, List.replicate_zero, Nat.reduceSub, Nat.reduceAdd, Nat.reduceMul, Nat.reduceDiv, Nat.reduceMod, Nat.reduceLT, Nat.reduceLeDiff, Nat.reduceBEq, Int.reduceToNat, Int.reduceNeg, Int.reduceLT, Int.reduceLE, Nat.not_lt_zero, true_and, and_true, implies_true, imp_self, List.getElem?_cons_zero, List.getElem?_cons_succ, lim_ok, rngL_len, List.length_map, List.length_cons, List.length_nil, Nat.zero_add, Nat.lt_irrefl, Nat.le_refl, beq_self_eq_true, bne_self_eq_false, gs0, gs1, gs2, gs3, gs4, gs5, gs6, gs7, gs8, gs9, gs10, gs11, gs12, gs13, gs14, gs15, gs16, ss0, ss1, ss2, ss3, ss4, ss5, ss6, ss7, ss8, ss9, ss10, ss11, ss12, ss13, ss14, ss15, ss16, shr_shr, shr_val, own_val, own_own, mkOwn_lst, mkOwn_dic, mkS_f, mkS_l, mkS_d, frz_own, frz_shr, lst_ok, row_ok, end_ret, end_next, rawV_f, rawV_s, rawV_i, rawV_b, rawV_n, v_addNL, v_addLN, v_addN, v_subNL, v_subN, v_mul2N, v_mulN, v_mulS, v_div2N, v_mod2N, v_addS, v_addL, v_addT, v_idxTl, v_iaddNL, v_iaddN, v_isubNL, v_isubN, v_eqS, v_neS, v_eqSN, v_isN, v_isS, v_isI, v_isL, v_isnN, v_isnS, v_isnI, v_isB, v_isnB, v_inS, v_ninS, v_inDS, v_ninDS, v_inDI, v_tBl, v_tNon, v_idxDS, v_idxDI, v_idxS, v_idxL, v_idxT, v_idxL0, v_idxT0, v_idxT1, v_idxS0, v_idxLl, v_lenS, v_lenL, v_lenT, v_lenD, v_revS, v_revL, v_tuple, v_listT, v_listL, v_intI, v_min2N, v_max2N, v_max20, v_itS, v_itL, v_itT, v_asI, v_neg, v_rng1, v_rng21, v_rng2, v_drw, v_app, v_setL, v_setDS, v_cutP, v_cutD, v_cutS, v_cutPL, v_cutPT, v_cutDT, v_cutS1, v_cutM1, v_eqI, v_neI, v_lt, v_le, v_gt, v_ge, beq_natCast, cst_eqL, cst_ltL, cst_leL, cst_gtL, cst_geL, cst_lt, cst_le, v_drwI, v_joinS, v_joinC, v_pre, v_end, v_any, v_all, v_sum, v_obj, v_attr, v_scount, v_listS, v_lrng, v_popAt, v_pop0, v_extL, v_sumT, dw_draw]
      intro i hi
      simp (disch := (first | assumption | omega | (simp only [List.length_append, List.length_cons, List.length_nil, List.length_take, List.length_drop, List.length_reverse, List.length_map, List.length_range, List.length_dropLast, List.length_replicate, List.length_set]; omega))) only [d_nil, d_cons, d_frz, d_kil, d_ret, d_set, d_own, d_par2, d_par3, d_unp, d_parn, d_pars, sn_nil, sn_cons, st_nil, st_nm, st_sub, d_seti, d_aug, d_augi, d_app, d_pop, d_expr, d_reto, d_rett, d_ifs, d_brk, d_doc, d_for, d_whl, d_popan, d_popas, d_popif, d_ext, e_con, e_var, e_bor, e_glo, e_bin, e_cmp, e_cmp2, e_neg, e_not, e_and, e_or, e_ifx, e_tup, e_lst, e_dic0, e_idx, e_cut, o_nop, o_some, e_rev, e_bi, e_me, e_call, e_draw, e_comp, es_nil, es_cons, r_seq, r_rng1, r_rng2, r_enum, r_zip, e_attr, e_mcall, e_twr, e_lrng, r_rngd, dw_ok, dw_err, kk_next, kk_ret, kk_brk, ite_t, ite_f, tn_next, tn_brk, tn_ret, Res.ofO_some, Res.ofO_none, Res.ok_bind, Res.pure_eq, Option.map_some, Option.map_none, Option.bind_some, bd_nm, bd_tp, bds_nil, bds_cons, slotsT, slotsTs, wipeS, isNop, if_true, Bool.false_eq_true, if_false, anyRaw, isRaw, Bool.or_false, Bool.false_or, Bool.false_and, Bool.true_and, Bool.and_true, Bool.and_false, Bool.or_true, Bool.true_or, Bool.not_true, Bool.not_false, decide_true, decide_false, meOk_s, meOk_l, meL, startS, List.map_cons, List.map_nil, List.cons_append, List.nil_append, List.replicate_succ, List.replicate_zero, Nat.reduceSub, Nat.reduceAdd, Nat.reduceMul, Nat.reduceDiv, Nat.reduceMod, Nat.reduceLT, Nat.reduceLeDiff, Nat.reduceBEq, Int.reduceToNat, Int.reduceNeg, Int.reduceLT, Int.reduceLE, Nat.not_lt_zero, true_and, and_true, implies_true, imp_self, List.getElem?_cons_zero, List.getElem?_cons_succ, lim_ok, rngL_len, List.length_map, List.length_cons, List.length_nil, Nat.zero_add, Nat.lt_irrefl, Nat.le_refl, beq_self_eq_true, bne_self_eq_false, gs0, gs1, gs2, gs3, gs4, gs5, gs6, gs7, gs8, gs9, gs10, gs11, gs12, gs13, gs14, gs15, gs16, ss0, ss1, ss2, ss3, ss4, ss5, ss6, ss7, ss8, ss9, ss10, ss11, ss12, ss13, ss14, ss15, ss16, shr_shr, shr_val, own_val, own_own, mkOwn_lst, mkOwn_dic, mkS_f, mkS_l, mkS_d, frz_own, frz_shr, lst_ok, row_ok, end_ret, end_next, rawV_f, rawV_s, rawV_i, rawV_b, rawV_n, v_addNL, v_addLN, v_addN, v_subNL, v_subN, v_mul2N, v_mulN, v_mulS, v_div2N, v_mod2N, v_addS, v_addL, v_addT, v_idxTl, v_iaddNL, v_iaddN, v_isubNL, v_isubN, v_eqS, v_neS, v_eqSN, v_isN, v_isS, v_isI, v_isL, v_isnN, v_isnS, v_isnI, v_isB, v_isnB, v_inS, v_ninS, v_inDS, v_ninDS, v_inDI, v_tBl, v_tNon, v_idxDS, v_idxDI, v_idxS, v_idxL, v_idxT, v_idxL0, v_idxT0, v_idxT1, v_idxS0, v_idxLl, v_lenS, v_lenL, v_lenT, v_lenD, v_revS, v_revL, v_tuple, v_listT, v_listL, v_intI, v_min2N, v_max2N, v_max20, v_itS, v_itL, v_itT, v_asI, v_neg, v_rng1, v_rng21, v_rng2, v_drw, v_app, v_setL, v_setDS, v_cutP, v_cutD, v_cutS, v_cutPL, v_cutPT, v_cutDT, v_cutS1, v_cutM1, v_eqI, v_neI, v_lt, v_le, v_gt, v_ge, beq_natCast, cst_eqL, cst_ltL, cst_leL, cst_gtL, cst_geL, cst_lt, cst_le, v_drwI, v_joinS, v_joinC, v_pre, v_end, v_any, v_all, v_sum, v_obj, v_attr, v_scount, v_listS, v_lrng, v_popAt, v_pop0, v_extL, v_sumT, get_abc]
      exact ⟨_, _, _, rfl, by simp [hw], hl.snoc (by omega), by omega, by omega⟩
    · simp (disch := (first | assumption | omega | (simp only [List.length_append, List.length_cons, List.length_nil, List.length_take, List.length_drop, List.length_reverse, List.length_map, List.length_range, List.length_dropLast, List.length_replicate, List.length_set]; omega))) only [d_nil, d_cons, d_frz, d_kil, d_ret, d_set, d_own, d_par2, d_par3, d_unp, d_parn, d_pars, sn_nil, sn_cons, st_nil, st_nm, st_sub, d_seti, d_aug, d_augi, d_app, d_pop, d_expr, d_reto, d_rett, d_ifs, d_brk, d_doc, d_for, d_whl, d_popan, d_popas, d_popif, d_ext, e_con, e_var, e_bor, e_glo, e_bin, e_cmp, e_cmp2, e_neg, e_not, e_and, e_or, e_ifx, e_tup, e_lst, e_dic0, e_idx, e_cut, o_nop, o_some, e_rev, e_bi, e_me, e_call, e_draw, e_comp, es_nil, es_cons, r_seq, r_rng1, r_rng2, r_enum, r_zip, e_attr, e_mcall, e_twr, e_lrng, r_rngd, dw_ok, dw_err, kk_next, kk_ret, kk_brk, ite_t, ite_f, tn_next, tn_brk, tn_ret, Res.ofO_some, Res.ofO_none, Res.ok_bind, Res.pure_eq, Option.map_some, Option.map_none, Option.bind_some, bd_nm, bd_tp, bds_nil, bds_cons, slotsT, slotsTs, wipeS, isNop, if_true, Bool.false_eq_true, if_false, anyRaw, isRaw, Bool.or_false, Bool.false_or, Bool.false_and, Bool.true_and, Bool.and_true, Bool.and_false, Bool.or_true, Bool.true_or, Bool.not_true, Bool.not_false, decide_true, decide_false, meOk_s, meOk_l, meL, startS, List.map_cons, List.map_nil, List.cons_append, List.nil_append, List.replicate_succ, List.replicate_zero, Nat.reduceSub, Nat.reduceAdd, Nat.reduceMul, Nat.reduceDiv, Nat.reduceMod, Nat.reduceLT, Nat.reduceLeDiff, Nat.reduceBEq, Int.reduceToNat, Int.reduceNeg, Int.reduceLT, Int.reduceLE, Nat.not_lt_zero, true_and, and_true, implies_true, imp_self, List.getElem?_cons_zero, List.getElem?_cons_succ, lim_ok, rngL_len, List.length_map, List.length_cons, List.length_nil, Nat.zero_add, Nat.lt_irrefl, Nat.le_refl, beq_self_eq_true, bne_self_eq_false, gs0, gs1, gs2, gs3, gs4, gs5, gs6, gs7, gs8, gs9, gs10, gs11, gs12, gs13, gs14, gs15, gs16, ss0, ss1, ss2, ss3, ss4, ss5, ss6, ss7, ss8, ss9, ss10, ss11, ss12, ss13, ss14, ss15, ss16, shr_shr, shr_val, own_val, own_own, mkOwn_lst, mkOwn_dic, mkS_f, mkS_l, mkS_d, frz_own, frz_shr, lst_ok, row_ok, end_ret, end_next, rawV_f, rawV_s, rawV_i, rawV_b, rawV_n, v_addNL, v_addLN, v_addN, v_subNL, v_subN, v_mul2N, v_mulN, v_mulS, v_div2N, v_mod2N, v_addS, v_addL, v_addT, v_idxTl, v_iaddNL, v_iaddN, v_isubNL, v_isubN, v_eqS, v_neS, v_eqSN, v_isN, v_isS, v_isI, v_isL, v_isnN, v_isnS, v_isnI, v_isB, v_isnB, v_inS, v_ninS, v_inDS, v_ninDS, v_inDI, v_tBl, v_tNon, v_idxDS, v_idxDI, v_idxS, v_idxL, v_idxT, v_idxL0, v_idxT0, v_idxT1, v_idxS0, v_idxLl, v_lenS, v_lenL, v_lenT, v_lenD, v_revS, v_revL, v_tuple, v_listT, v_listL, v_intI, v_min2N, v_max2N, v_max20, v_itS, v_itL, v_itT, v_asI, v_neg, v_rng1, v_rng21, v_rng2, v_drw, v_app, v_setL, v_setDS, v_cutP, v_cutD, v_cutS, v_cutPL, v_cutPT, v_cutDT, v_cutS1, v_cutM1, v_eqI, v_neI, v_lt, v_le, v_gt, v_ge, beq_natCast, cst_eqL, cst_ltL, cst_leL, cst_gtL, cst_geL, cst_lt, cst_le, v_drwI, v_joinS, v_joinC, v_pre, v_end, v_any, v_all, v_sum, v_obj, v_attr, v_scount, v_listS, v_lrng, v_popAt, v_pop0, v_extL, v_sumT]
      exact ⟨_, _, _, rfl, by simp [hw], hl.snoc (by omega), c1, c2⟩
  · rintro s ⟨w, c, x, rfl, hw, hl, _⟩
    simp (disch := (first | assumption | omega | (simp only [List.length_append, List.length_cons, List.length_nil, List.length_take, List.length_drop, List.length_reverse, List.length_map, List.length_range, List.length_dropLast, List.length_replicate, List.length_set]; omega))) only [d_nil, d_cons, d_frz, d_kil, d_ret, d_set, d_own, d_par2, d_par3, d_unp, d_parn, d_pars, sn_nil, sn_cons, st_nil, st_nm, st_sub, d_seti, d_aug, d_augi, d_app, d_pop, d_expr, d_reto, d_rett, d_ifs, d_brk, d_doc, d_for, d_whl, d_popan, d_popas, d_popif, d_ext, e_con, e_var, e_bor, e_glo, e_bin, e_cmp, e_cmp2, e_neg, e_not, e_and, e_or, e_ifx, e_tup, e_lst, e_dic0, e_idx, e_cut, o_nop, o_some, e_rev, e_bi, e_me, e_call, e_draw, e_comp, es_nil, es_cons, r_seq, r_rng1, r_rng2, r_enum, r_zip, e_attr, e_mcall, e_twr, e_lrng, r_rngd, dw_ok, dw_err, kk_next, kk_ret, kk_brk, ite_t, ite_f, tn_next, tn_brk, tn_ret, Res.ofO_some, Res.ofO_none, Res.ok_bind, Res.pure_eq, Option.map_some, Option.map_none, Option.bind_some, bd_nm, bd_tp, bds_nil, bds_cons, slotsT, slotsTs, wipeS, isNop, if_true, Bool.false_eq_true, if_false, anyRaw, isRaw, Bool.or_false, Bool.false_or, Bool.false_and, Bool.true_and, Bool.and_true, Bool.and_false, Bool.or_true, Bool.true_or, Bool.not_true, Bool.not_false, decide_true, decide_false, meOk_s, meOk_l, meL, startS, List.map_cons, List.map_nil, List.cons_append, List.nil_append, List.replicate_succ, List.replicate_zero, Nat.reduceSub, Nat.reduceAdd, Nat.reduceMul, Nat.reduceDiv, Nat.reduceMod, Nat.reduceLT, Nat.reduceLeDiff, Nat.reduceBEq, Int.reduceToNat, Int.reduceNeg, Int.reduceLT, Int.reduceLE, Nat.not_lt_zero, true_and, and_true, implies_true, imp_self, List.getElem?_cons_zero, List.getElem?_cons_succ, lim_ok, rngL_len, List.length_map, List.length_cons, List.length_nil, Nat.zero_add, Nat.lt_irrefl, Nat.le_refl, beq_self_eq_true, bne_self_eq_false, gs0, gs1, gs2, gs3, gs4, gs5, gs6, gs7, gs8, gs9, gs10, gs11, gs12, gs13, gs14, gs15, gs16, ss0, ss1, ss2, ss3, ss4, ss5, ss6, ss7, ss8, ss9, ss10, ss11, ss12, ss13, ss14, ss15, ss16, shr_shr, shr_val, own_val, own_own, mkOwn_lst, mkOwn_dic, mkS_f, mkS_l, mkS_d, frz_own, frz_shr, lst_ok, row_ok, end_ret, end_next, rawV_f, rawV_s, rawV_i, rawV_b, rawV_n, v_addNL, v_addLN, v_addN, v_subNL, v_subN, v_mul2N, v_mulN, v_mulS, v_div2N, v_mod2N, v_addS, v_addL, v_addT, v_idxTl, v_iaddNL, v_iaddN, v_isubNL, v_isubN, v_eqS, v_neS, v_eqSN, v_isN, v_isS, v_isI, v_isL, v_isnN, v_isnS, v_isnI, v_isB, v_isnB, v_inS, v_ninS, v_inDS, v_ninDS, v_inDI, v_tBl, v_tNon, v_idxDS, v_idxDI, v_idxS, v_idxL, v_idxT, v_idxL0, v_idxT0, v_idxT1, v_idxS0, v_idxLl, v_lenS, v_lenL, v_lenT, v_lenD, v_revS, v_revL, v_tuple, v_listT, v_listL, v_intI, v_min2N, v_max2N, v_max20, v_itS, v_itL, v_itT, v_asI, v_neg, v_rng1, v_rng21, v_rng2, v_drw, v_app, v_setL, v_setDS, v_cutP, v_cutD, v_cutS, v_cutPL, v_cutPT, v_cutDT, v_cutS1, v_cutM1, v_eqI, v_neI, v_lt, v_le, v_gt, v_ge, beq_natCast, cst_eqL, cst_ltL, cst_leL, cst_gtL, cst_geL, cst_lt, cst_le, v_drwI, v_joinS, v_joinC, v_pre, v_end, v_any, v_all, v_sum, v_obj, v_attr, v_scount, v_listS, v_lrng, v_popAt, v_pop0, v_extL, v_sumT]
    exact hq w (by omega) hl
end
end Ev
set_option autoImplicit false
set_option linter.all false
set_option Elab.async false
set_option maxRecDepth 100000
namespace Ev
open Pal
section
variable {fns : Nat → Option Fn} {gl : Nat → Option PV} {l : Nat}
end
end Ev
set_option autoImplicit false
set_option linter.all false
set_option Elab.async false
set_option maxRecDepth 100000
namespace Ev
open Pal
theorem v_index {c : Nat} (h : 97 ≤ c ∧ c ≤ 101) : meP .index (.str [97, 98, 99, 100, 101]) [.str [c]] = some (.int ((c - 97 : Nat) : Int)) := by
  have : c = 97 ∨ c = 98 ∨ c = 99 ∨ c = 100 ∨ c = 101 := by omega
  rcases this with rfl | rfl | rfl | rfl | rfl <;> rfl
section
variable {fns : Nat → Option Fn} {gl : Nat → Option PV} {l : Nat}
end
end Ev
set_option autoImplicit false
set_option linter.all false
set_option Elab.async false
set_option maxRecDepth 100000
namespace Ev
open Pal
section
variable {fns : Nat → Option Fn} {gl : Nat → Option PV} {l : Nat}
end
end Ev
set_option autoImplicit false
set_option linter.all false
set_option Elab.async false
set_option maxRecDepth 100000
namespace Ev
open Pal
section
variable {fns : Nat → Option Fn} {gl : Nat → Option PV} {l : Nat}
end
end Ev
set_option autoImplicit false
set_option linter.all false
set_option Elab.async false
set_option maxRecDepth 100000
namespace Ev
open Pal
section
variable {fns : Nat → Option Fn} {gl : Nat → Option PV} {l : Nat}
end
end Ev
set_option autoImplicit false
set_option linter.all false
set_option Elab.async false
set_option maxRecDepth 100000
namespace Ev
open Pal
section
variable {fns : Nat → Option Fn} {gl : Nat → Option PV} {l : Nat} {E : PV → Prop}
end
end Ev
set_option autoImplicit false
set_option linter.all false
set_option Elab.async false
set_option maxRecDepth 100000
namespace Ev
open Pal
section
variable {fns : Nat → Option Fn} {gl : Nat → Option PV} {l : Nat}
end
end Ev
set_option autoImplicit false
set_option linter.all false
set_option Elab.async false
set_option maxRecDepth 100000
namespace Ev
open Pal
end Ev
set_option autoImplicit false
set_option linter.all false
set_option Elab.async false
set_option maxRecDepth 100000
namespace Ev
open Pal
/-- how long the shortest beginning is whose build has more letters than x -/
def lvl (p : W) (x : Nat) : Nat := ((List.range (p.length + 1)).find? fun k => decide (x < (B (p.take k)).length)).getD 0
section
variable {fns : Nat → Option Fn} {gl : Nat → Option PV} {l : Nat} {C : Nat}
end
end Ev
set_option autoImplicit false
set_option linter.all false
set_option Elab.async false
set_option maxRecDepth 100000
namespace Ev
open Pal
section
variable {fns : Nat → Option Fn} {gl : Nat → Option PV} {l : Nat}
end
end Ev
set_option autoImplicit false
set_option linter.all false
set_option Elab.async false
set_option maxRecDepth 100000
namespace Ev
open Pal
/-- a renaming of the letters -/
structure Ren (f : Nat → Nat) : Prop where
  inj : ∀ a b, (97 ≤ a ∧ a ≤ 101) → (97 ≤ b ∧ b ≤ 101) → f a = f b → a = b
  lt : ∀ a, (97 ≤ a ∧ a ≤ 101) → 97 ≤ f a ∧ f a ≤ 101
theorem Ren.map_inj {f : Nat → Nat} (R : Ren f) : ∀ {u v : W}, Let u → Let v → u.map f = v.map f → u = v
  | [], [], _, _, _ => rfl
  | [], b :: v, _, _, h => by simp at h
  | a :: u, [], _, _, h => by simp at h
  | a :: u, b :: v, hu, hv, h => by
    simp only [List.map_cons, List.cons.injEq] at h
    rw [R.inj a b (hu a (by simp)) (hv b (by simp)) h.1, R.map_inj (fun c hc => hu c (by simp [hc])) (fun c hc => hv c (by simp [hc])) h.2]
theorem Ren.rest {f : Nat → Nat} (R : Ren f) {w : W} (h : Let w) : rest (w.map f) = rest w := by
  apply rest_eq
  · rw [← List.map_drop, ← List.map_reverse, rest_pal]
  · intro q hq e
    rw [← List.map_drop, ← List.map_reverse] at e
    have := rest_min w q (R.map_inj (h.drop q).rev (h.drop q) e)
    omega
theorem Ren.close {f : Nat → Nat} (R : Ren f) {w : W} (h : Let w) : close (w.map f) = (close w).map f := by
  unfold Pal.close
  rw [R.rest h, List.map_append, List.map_reverse, List.map_take]
end Ev
set_option autoImplicit false
set_option linter.all false
set_option Elab.async false
set_option maxRecDepth 100000
namespace Ev
open Pal
end Ev
set_option autoImplicit false
set_option linter.all false
set_option Elab.async false
set_option maxRecDepth 100000
namespace Ev
open Pal
section
variable {fns : Nat → Option Fn} {gl : Nat → Option PV} {l : Nat} {E : PV → Prop}
end
end Ev
set_option autoImplicit false
set_option linter.all false
set_option Elab.async false
set_option maxRecDepth 100000
namespace Ev
open Pal
section
variable {fns : Nat → Option Fn} {gl : Nat → Option PV} {l : Nat} {E : PV → Prop}
end
end Ev
set_option autoImplicit false
set_option linter.all false
set_option Elab.async false
set_option maxRecDepth 100000
namespace Ev
open Pal
/-- a swap of the letters -/
structure Sw (f : Nat → Nat) : Prop where
  inv : ∀ c, f (f c) = c
  let' : ∀ c, 97 ≤ c → c ≤ 101 → 97 ≤ f c ∧ f c ≤ 101
def swW (f : Nat → Nat) : W := ([97, 98, 99, 100, 101] : W).map f
theorem Sw.inj {f : Nat → Nat} (S : Sw f) {a b : Nat} (h : f a = f b) : a = b := by rw [← S.inv a, h, S.inv]
theorem swW_get {f : Nat → Nat} {c : Nat} (h : 97 ≤ c ∧ c ≤ 101) : (swW f).getD (c - 97) 0 = f c := by
  have : c = 97 ∨ c = 98 ∨ c = 99 ∨ c = 100 ∨ c = 101 := by omega
  rcases this with rfl | rfl | rfl | rfl | rfl <;> rfl
theorem v_idxW {f : Nat → Nat} {c : Nat} (h : 97 ≤ c ∧ c ≤ 101) : idxP (.str (swW f)) (.int ((c - 97 : Nat) : Int)) = some (.str [f c]) := by
  have h5 : c - 97 < (swW f).length := by show c - 97 < 5; omega
  rw [v_idxS h5, swW_get h]
theorem Sw.tn {f : Nat → Nat} (S : Sw f) {w : W} (h : Let w) : Let (tn f w) := fun c hc => by
  obtain ⟨d, hd, rfl⟩ := List.mem_map.mp hc
  have := h d (List.mem_reverse.mp hd)
  exact S.let' d this.1 this.2
section
variable {fns : Nat → Option Fn} {gl : Nat → Option PV} {l : Nat} {E : PV → Prop}
theorem c_swapped (N : N_swapped fns gl) {f : Nat → Nat} {w : W} (hw : Let w) (hl : w.length ≤ 8000000) : callF fns gl (l + 1) 120 [.str w, .str (swW f)] = .ok (.str (w.map f)) := by
  refine call_eq N.self rfl ?_
  simp (disch := (first | assumption | omega | (simp only [List.length_append, List.length_cons, List.length_nil, List.length_take, List.length_drop, List.length_reverse, List.length_map, List.length_range, List.length_dropLast, List.length_replicate, List.length_set]; omega))) only [d_nil, d_cons, d_frz, d_kil, d_ret, d_set, d_own, d_par2, d_par3, d_unp, d_parn, d_pars, sn_nil, sn_cons, st_nil, st_nm, st_sub, d_seti, d_aug, d_augi, d_app, d_pop, d_expr, d_reto, d_rett, d_ifs, d_brk, d_doc, d_for, d_whl, d_popan, d_popas, d_popif, d_ext, e_con, e_var, e_bor, e_glo, e_bin, e_cmp, e_cmp2, e_neg, e_not, e_and, e_or, e_ifx, e_tup, e_lst, e_dic0, e_idx, e_cut, o_nop, o_some, e_rev, e_bi, e_me, e_call, e_draw, e_comp, es_nil, es_cons, r_seq, r_rng1, r_rng2, r_enum, r_zip, e_attr, e_mcall, e_twr, e_lrng, r_rngd, dw_ok, dw_err, kk_next, kk_ret, kk_brk, ite_t, ite_f, tn_next, tn_brk, tn_ret, Res.ofO_some, Res.ofO_none, Res.ok_bind, Res.pure_eq, Option.map_some, Option.map_none, Option.bind_some, bd_nm, bd_tp, bds_nil, bds_cons, slotsT, slotsTs, wipeS, isNop, if_true, Bool.false_eq_true, if_false, anyRaw, isRaw, Bool.or_false, Bool.false_or, Bool.false_and, Bool.true_and, Bool.and_true, Bool.and_false, Bool.or_true, Bool.true_or, Bool.not_true, Bool.not_false, decide_true, decide_false, meOk_s, meOk_l, meL, startS, List.map_cons, List.map_nil, List.cons_append, List.nil_append, List.replicate_succ, List.replicate_zero, Nat.reduceSub, Nat.reduceAdd, Nat.reduceMul, Nat.reduceDiv, Nat.reduceMod, Nat.reduceLT, Nat.reduceLeDiff, Nat.reduceBEq, Int.reduceToNat, Int.reduceNeg, Int.reduceLT, Int.reduceLE, Nat.not_lt_zero, true_and, and_true, implies_true, imp_self, List.getElem?_cons_zero, List.getElem?_cons_succ, lim_ok, rngL_len, List.length_map, List.length_cons, List.length_nil, Nat.zero_add, Nat.lt_irrefl, Nat.le_refl, beq_self_eq_true, bne_self_eq_false, gs0, gs1, gs2, gs3, gs4, gs5, gs6, gs7, gs8, gs9, gs10, gs11, gs12, gs13, gs14, gs15, gs16, ss0, ss1, ss2, ss3, ss4, ss5, ss6, ss7, ss8, ss9, ss10, ss11, ss12, ss13, ss14, ss15, ss16, shr_shr, shr_val, own_val, own_own, mkOwn_lst, mkOwn_dic, mkS_f, mkS_l, mkS_d, frz_own, frz_shr, lst_ok, row_ok, end_ret, end_next, rawV_f, rawV_s, rawV_i, rawV_b, rawV_n, v_addNL, v_addLN, v_addN, v_subNL, v_subN, v_mul2N, v_mulN, v_mulS, v_div2N, v_mod2N, v_addS, v_addL, v_addT, v_idxTl, v_iaddNL, v_iaddN, v_isubNL, v_isubN, v_eqS, v_neS, v_eqSN, v_isN, v_isS, v_isI, v_isL, v_isnN, v_isnS, v_isnI, v_isB, v_isnB, v_inS, v_ninS, v_inDS, v_ninDS, v_inDI, v_tBl, v_tNon, v_idxDS, v_idxDI, v_idxS, v_idxL, v_idxT, v_idxL0, v_idxT0, v_idxT1, v_idxS0, v_idxLl, v_lenS, v_lenL, v_lenT, v_lenD, v_revS, v_revL, v_tuple, v_listT, v_listL, v_intI, v_min2N, v_max2N, v_max20, v_itS, v_itL, v_itT, v_asI, v_neg, v_rng1, v_rng21, v_rng2, v_drw, v_app, v_setL, v_setDS, v_cutP, v_cutD, v_cutS, v_cutPL, v_cutPT, v_cutDT, v_cutS1, v_cutM1, v_eqI, v_neI, v_lt, v_le, v_gt, v_ge, beq_natCast, cst_eqL, cst_ltL, cst_leL, cst_gtL, cst_geL, cst_lt, cst_le, v_drwI, v_joinS, v_joinC, v_pre, v_end, v_any, v_all, v_sum, v_obj, v_attr, v_scount, v_listS, v_lrng, v_popAt, v_pop0, v_extL, v_sumT, f_swapped]
  refine cp_all (fun c : Nat => PV.str [c]) (fun c => PV.str [f c]) _ (fun c hc => ?_) ?_
  · have hc := hw c hc
    simp (disch := (first | assumption | omega | (simp only [List.length_append, List.length_cons, List.length_nil, List.length_take, List.length_drop, List.length_reverse, List.length_map, List.length_range, List.length_dropLast, List.length_replicate, List.length_set]; omega))) only [d_nil, d_cons, d_frz, d_kil, d_ret, d_set, d_own, d_par2, d_par3, d_unp, d_parn, d_pars, sn_nil, sn_cons, st_nil, st_nm, st_sub, d_seti, d_aug, d_augi, d_app, d_pop, d_expr, d_reto, d_rett, d_ifs, d_brk, d_doc, d_for, d_whl, d_popan, d_popas, d_popif, d_ext, e_con, e_var, e_bor, e_glo, e_bin, e_cmp, e_cmp2, e_neg, e_not, e_and, e_or, e_ifx, e_tup, e_lst, e_dic0, e_idx, e_cut, o_nop, o_some, e_rev, e_bi, e_me, e_call, e_draw, e_comp, es_nil, es_cons, r_seq, r_rng1, r_rng2, r_enum, r_zip, e_attr, e_mcall, e_twr, e_lrng, r_rngd, dw_ok, dw_err, kk_next, kk_ret, kk_brk, ite_t, ite_f, tn_next, tn_brk, tn_ret, Res.ofO_some, Res.ofO_none, Res.ok_bind, Res.pure_eq, Option.map_some, Option.map_none, Option.bind_some, bd_nm, bd_tp, bds_nil, bds_cons, slotsT, slotsTs, wipeS, isNop, if_true, Bool.false_eq_true, if_false, anyRaw, isRaw, Bool.or_false, Bool.false_or, Bool.false_and, Bool.true_and, Bool.and_true, Bool.and_false, Bool.or_true, Bool.true_or, Bool.not_true, Bool.not_false, decide_true, decide_false, meOk_s, meOk_l, meL, startS, List.map_cons, List.map_nil, List.cons_append, List.nil_append, List.replicate_succ, List.replicate_zero, Nat.reduceSub, Nat.reduceAdd, Nat.reduceMul, Nat.reduceDiv, Nat.reduceMod, Nat.reduceLT, Nat.reduceLeDiff, Nat.reduceBEq, Int.reduceToNat, Int.reduceNeg, Int.reduceLT, Int.reduceLE, Nat.not_lt_zero, true_and, and_true, implies_true, imp_self, List.getElem?_cons_zero, List.getElem?_cons_succ, lim_ok, rngL_len, List.length_map, List.length_cons, List.length_nil, Nat.zero_add, Nat.lt_irrefl, Nat.le_refl, beq_self_eq_true, bne_self_eq_false, gs0, gs1, gs2, gs3, gs4, gs5, gs6, gs7, gs8, gs9, gs10, gs11, gs12, gs13, gs14, gs15, gs16, ss0, ss1, ss2, ss3, ss4, ss5, ss6, ss7, ss8, ss9, ss10, ss11, ss12, ss13, ss14, ss15, ss16, shr_shr, shr_val, own_val, own_own, mkOwn_lst, mkOwn_dic, mkS_f, mkS_l, mkS_d, frz_own, frz_shr, lst_ok, row_ok, end_ret, end_next, rawV_f, rawV_s, rawV_i, rawV_b, rawV_n, v_addNL, v_addLN, v_addN, v_subNL, v_subN, v_mul2N, v_mulN, v_mulS, v_div2N, v_mod2N, v_addS, v_addL, v_addT, v_idxTl, v_iaddNL, v_iaddN, v_isubNL, v_isubN, v_eqS, v_neS, v_eqSN, v_isN, v_isS, v_isI, v_isL, v_isnN, v_isnS, v_isnI, v_isB, v_isnB, v_inS, v_ninS, v_inDS, v_ninDS, v_inDI, v_tBl, v_tNon, v_idxDS, v_idxDI, v_idxS, v_idxL, v_idxT, v_idxL0, v_idxT0, v_idxT1, v_idxS0, v_idxLl, v_lenS, v_lenL, v_lenT, v_lenD, v_revS, v_revL, v_tuple, v_listT, v_listL, v_intI, v_min2N, v_max2N, v_max20, v_itS, v_itL, v_itT, v_asI, v_neg, v_rng1, v_rng21, v_rng2, v_drw, v_app, v_setL, v_setDS, v_cutP, v_cutD, v_cutS, v_cutPL, v_cutPT, v_cutDT, v_cutS1, v_cutM1, v_eqI, v_neI, v_lt, v_le, v_gt, v_ge, beq_natCast, cst_eqL, cst_ltL, cst_leL, cst_gtL, cst_geL, cst_lt, cst_le, v_drwI, v_joinS, v_joinC, v_pre, v_end, v_any, v_all, v_sum, v_obj, v_attr, v_scount, v_listS, v_lrng, v_popAt, v_pop0, v_extL, v_sumT, N.g_LETTERS, v_index hc, v_idxW hc]
  · have e : (w.map fun c => PV.str [f c]) = (w.map f).map fun c => PV.str [c] := by rw [List.map_map]; rfl
    rw [e]
    simp (disch := (first | assumption | omega | (simp only [List.length_append, List.length_cons, List.length_nil, List.length_take, List.length_drop, List.length_reverse, List.length_map, List.length_range, List.length_dropLast, List.length_replicate, List.length_set]; omega))) only [d_nil, d_cons, d_frz, d_kil, d_ret, d_set, d_own, d_par2, d_par3, d_unp, d_parn, d_pars, sn_nil, sn_cons, st_nil, st_nm, st_sub, d_seti, d_aug, d_augi, d_app, d_pop, d_expr, d_reto, d_rett, d_ifs, d_brk, d_doc, d_for, d_whl, d_popan, d_popas, d_popif, d_ext, e_con, e_var, e_bor, e_glo, e_bin, e_cmp, e_cmp2, e_neg, e_not, e_and, e_or, e_ifx, e_tup, e_lst, e_dic0, e_idx, e_cut, o_nop, o_some, e_rev, e_bi, e_me, e_call, e_draw, e_comp, es_nil, es_cons, r_seq, r_rng1, r_rng2, r_enum, r_zip, e_attr, e_mcall, e_twr, e_lrng, r_rngd, dw_ok, dw_err, kk_next, kk_ret, kk_brk, ite_t, ite_f, tn_next, tn_brk, tn_ret, Res.ofO_some, Res.ofO_none, Res.ok_bind, Res.pure_eq, Option.map_some, Option.map_none, Option.bind_some, bd_nm, bd_tp, bds_nil, bds_cons, slotsT, slotsTs, wipeS, isNop, if_true, Bool.false_eq_true, if_false, anyRaw, isRaw, Bool.or_false, Bool.false_or, Bool.false_and, Bool.true_and, Bool.and_true, Bool.and_false, Bool.or_true, Bool.true_or, Bool.not_true, Bool.not_false, decide_true, decide_false, meOk_s, meOk_l, meL, startS, List.map_cons, List.map_nil, List.cons_append, List.nil_append, List.replicate_succ, List.replicate_zero, Nat.reduceSub, Nat.reduceAdd, Nat.reduceMul, Nat.reduceDiv, Nat.reduceMod, Nat.reduceLT, Nat.reduceLeDiff, Nat.reduceBEq, Int.reduceToNat, Int.reduceNeg, Int.reduceLT, Int.reduceLE, Nat.not_lt_zero, true_and, and_true, implies_true, imp_self, List.getElem?_cons_zero, List.getElem?_cons_succ, lim_ok, rngL_len, List.length_map, List.length_cons, List.length_nil, Nat.zero_add, Nat.lt_irrefl, Nat.le_refl, beq_self_eq_true, bne_self_eq_false, gs0, gs1, gs2, gs3, gs4, gs5, gs6, gs7, gs8, gs9, gs10, gs11, gs12, gs13, gs14, gs15, gs16, ss0, ss1, ss2, ss3, ss4, ss5, ss6, ss7, ss8, ss9, ss10, ss11, ss12, ss13, ss14, ss15, ss16, shr_shr, shr_val, own_val, own_own, mkOwn_lst, mkOwn_dic, mkS_f, mkS_l, mkS_d, frz_own, frz_shr, lst_ok, row_ok, end_ret, end_next, rawV_f, rawV_s, rawV_i, rawV_b, rawV_n, v_addNL, v_addLN, v_addN, v_subNL, v_subN, v_mul2N, v_mulN, v_mulS, v_div2N, v_mod2N, v_addS, v_addL, v_addT, v_idxTl, v_iaddNL, v_iaddN, v_isubNL, v_isubN, v_eqS, v_neS, v_eqSN, v_isN, v_isS, v_isI, v_isL, v_isnN, v_isnS, v_isnI, v_isB, v_isnB, v_inS, v_ninS, v_inDS, v_ninDS, v_inDI, v_tBl, v_tNon, v_idxDS, v_idxDI, v_idxS, v_idxL, v_idxT, v_idxL0, v_idxT0, v_idxT1, v_idxS0, v_idxLl, v_lenS, v_lenL, v_lenT, v_lenD, v_revS, v_revL, v_tuple, v_listT, v_listL, v_intI, v_min2N, v_max2N, v_max20, v_itS, v_itL, v_itT, v_asI, v_neg, v_rng1, v_rng21, v_rng2, v_drw, v_app, v_setL, v_setDS, v_cutP, v_cutD, v_cutS, v_cutPL, v_cutPT, v_cutDT, v_cutS1, v_cutM1, v_eqI, v_neI, v_lt, v_le, v_gt, v_ge, beq_natCast, cst_eqL, cst_ltL, cst_leL, cst_gtL, cst_geL, cst_lt, cst_le, v_drwI, v_joinS, v_joinC, v_pre, v_end, v_any, v_all, v_sum, v_obj, v_attr, v_scount, v_listS, v_lrng, v_popAt, v_pop0, v_extL, v_sumT]
theorem c_turned (N : N_turned fns gl) {f : Nat → Nat} {w : W} (hw : Let w) (hl : w.length ≤ 8000000) : callF fns gl (l + 2) 121 [.str w, .str (swW f)] = .ok (.str (tn f w)) := by
  refine call_eq N.self rfl ?_
  have h := c_swapped (l := l) N.n_swapped (f := f) hw.rev (by simpa using hl)
  simp (disch := (first | assumption | omega | (simp only [List.length_append, List.length_cons, List.length_nil, List.length_take, List.length_drop, List.length_reverse, List.length_map, List.length_range, List.length_dropLast, List.length_replicate, List.length_set]; omega))) only [d_nil, d_cons, d_frz, d_kil, d_ret, d_set, d_own, d_par2, d_par3, d_unp, d_parn, d_pars, sn_nil, sn_cons, st_nil, st_nm, st_sub, d_seti, d_aug, d_augi, d_app, d_pop, d_expr, d_reto, d_rett, d_ifs, d_brk, d_doc, d_for, d_whl, d_popan, d_popas, d_popif, d_ext, e_con, e_var, e_bor, e_glo, e_bin, e_cmp, e_cmp2, e_neg, e_not, e_and, e_or, e_ifx, e_tup, e_lst, e_dic0, e_idx, e_cut, o_nop, o_some, e_rev, e_bi, e_me, e_call, e_draw, e_comp, es_nil, es_cons, r_seq, r_rng1, r_rng2, r_enum, r_zip, e_attr, e_mcall, e_twr, e_lrng, r_rngd, dw_ok, dw_err, kk_next, kk_ret, kk_brk, ite_t, ite_f, tn_next, tn_brk, tn_ret, Res.ofO_some, Res.ofO_none, Res.ok_bind, Res.pure_eq, Option.map_some, Option.map_none, Option.bind_some, bd_nm, bd_tp, bds_nil, bds_cons, slotsT, slotsTs, wipeS, isNop, if_true, Bool.false_eq_true, if_false, anyRaw, isRaw, Bool.or_false, Bool.false_or, Bool.false_and, Bool.true_and, Bool.and_true, Bool.and_false, Bool.or_true, Bool.true_or, Bool.not_true, Bool.not_false, decide_true, decide_false, meOk_s, meOk_l, meL, startS, List.map_cons, List.map_nil, List.cons_append, List.nil_append, List.replicate_succ, List.replicate_zero, Nat.reduceSub, Nat.reduceAdd, Nat.reduceMul, Nat.reduceDiv, Nat.reduceMod, Nat.reduceLT, Nat.reduceLeDiff, Nat.reduceBEq, Int.reduceToNat, Int.reduceNeg, Int.reduceLT, Int.reduceLE, Nat.not_lt_zero, true_and, and_true, implies_true, imp_self, List.getElem?_cons_zero, List.getElem?_cons_succ, lim_ok, rngL_len, List.length_map, List.length_cons, List.length_nil, Nat.zero_add, Nat.lt_irrefl, Nat.le_refl, beq_self_eq_true, bne_self_eq_false, gs0, gs1, gs2, gs3, gs4, gs5, gs6, gs7, gs8, gs9, gs10, gs11, gs12, gs13, gs14, gs15, gs16, ss0, ss1, ss2, ss3, ss4, ss5, ss6, ss7, ss8, ss9, ss10, ss11, ss12, ss13, ss14, ss15, ss16, shr_shr, shr_val, own_val, own_own, mkOwn_lst, mkOwn_dic, mkS_f, mkS_l, mkS_d, frz_own, frz_shr, lst_ok, row_ok, end_ret, end_next, rawV_f, rawV_s, rawV_i, rawV_b, rawV_n, v_addNL, v_addLN, v_addN, v_subNL, v_subN, v_mul2N, v_mulN, v_mulS, v_div2N, v_mod2N, v_addS, v_addL, v_addT, v_idxTl, v_iaddNL, v_iaddN, v_isubNL, v_isubN, v_eqS, v_neS, v_eqSN, v_isN, v_isS, v_isI, v_isL, v_isnN, v_isnS, v_isnI, v_isB, v_isnB, v_inS, v_ninS, v_inDS, v_ninDS, v_inDI, v_tBl, v_tNon, v_idxDS, v_idxDI, v_idxS, v_idxL, v_idxT, v_idxL0, v_idxT0, v_idxT1, v_idxS0, v_idxLl, v_lenS, v_lenL, v_lenT, v_lenD, v_revS, v_revL, v_tuple, v_listT, v_listL, v_intI, v_min2N, v_max2N, v_max20, v_itS, v_itL, v_itT, v_asI, v_neg, v_rng1, v_rng21, v_rng2, v_drw, v_app, v_setL, v_setDS, v_cutP, v_cutD, v_cutS, v_cutPL, v_cutPT, v_cutDT, v_cutS1, v_cutM1, v_eqI, v_neI, v_lt, v_le, v_gt, v_ge, beq_natCast, cst_eqL, cst_ltL, cst_leL, cst_gtL, cst_geL, cst_lt, cst_le, v_drwI, v_joinS, v_joinC, v_pre, v_end, v_any, v_all, v_sum, v_obj, v_attr, v_scount, v_listS, v_lrng, v_popAt, v_pop0, v_extL, v_sumT, f_turned, h]
  rfl
theorem isPre_iffW : ∀ {y x : W}, isPre y x = true ↔ y <+: x
  | [], x => by simp [isPre]
  | a :: y, [] => by simp [isPre]
  | a :: y, b :: x => by
    simp only [isPre, Bool.and_eq_true, beq_iff_eq, isPre_iffW (y := y), List.cons_prefix_cons]
theorem isPre_tn {f : Nat → Nat} (w : W) (r : Nat) : isPre (w.drop r) (tn f w) = true ↔ tn f (w.drop r) = w.drop r := by
  rw [isPre_iffW]
  have h : tn f w = tn f (w.drop r) ++ tn f (w.take r) := by rw [← tn_app, List.take_append_drop]
  rw [h]
  constructor
  · intro z
    have z2 := List.prefix_of_prefix_length_le z (List.prefix_append _ _) (by rw [tn_len]; exact Nat.le_refl _)
    exact (List.IsPrefix.eq_of_length z2 (by rw [tn_len])).symm
  · intro z; rw [z]; exact List.prefix_append _ _
theorem c_rest_of (N : N_rest_of fns gl) {f : Nat → Nat} {w : W} (hw : Let w) (hl : w.length ≤ 4000000) : callF fns gl (l + 3) 126 [.str w, .str (swW f)] = .ok (.int (sr f w : Nat)) := by
  refine call_eq N.self rfl ?_
  have t := c_turned (l := l) N.n_turned (f := f) hw (by omega)
  have hr := sr_le (f := f) w
  simp (disch := (first | assumption | omega | (simp only [List.length_append, List.length_cons, List.length_nil, List.length_take, List.length_drop, List.length_reverse, List.length_map, List.length_range, List.length_dropLast, List.length_replicate, List.length_set]; omega))) only [d_nil, d_cons, d_frz, d_kil, d_ret, d_set, d_own, d_par2, d_par3, d_unp, d_parn, d_pars, sn_nil, sn_cons, st_nil, st_nm, st_sub, d_seti, d_aug, d_augi, d_app, d_pop, d_expr, d_reto, d_rett, d_ifs, d_brk, d_doc, d_for, d_whl, d_popan, d_popas, d_popif, d_ext, e_con, e_var, e_bor, e_glo, e_bin, e_cmp, e_cmp2, e_neg, e_not, e_and, e_or, e_ifx, e_tup, e_lst, e_dic0, e_idx, e_cut, o_nop, o_some, e_rev, e_bi, e_me, e_call, e_draw, e_comp, es_nil, es_cons, r_seq, r_rng1, r_rng2, r_enum, r_zip, e_attr, e_mcall, e_twr, e_lrng, r_rngd, dw_ok, dw_err, kk_next, kk_ret, kk_brk, ite_t, ite_f, tn_next, tn_brk, tn_ret, Res.ofO_some, Res.ofO_none, Res.ok_bind, Res.pure_eq, Option.map_some, Option.map_none, Option.bind_some, bd_nm, bd_tp, bds_nil, bds_cons, slotsT, slotsTs, wipeS, isNop, if_true, Bool.false_eq_true, if_false, anyRaw, isRaw, Bool.or_false, Bool.false_or, Bool.false_and, Bool.true_and, Bool.and_true, Bool.and_false, Bool.or_true, Bool.true_or, Bool.not_true, Bool.not_false, decide_true, decide_false, meOk_s, meOk_l, meL, startS, List.map_cons, List.map_nil, List.cons_append, List.nil_append, List.replicate_succ, List.replicate_zero, Nat.reduceSub, Nat.reduceAdd, Nat.reduceMul, Nat.reduceDiv, Nat.reduceMod, Nat.reduceLT, Nat.reduceLeDiff, Nat.reduceBEq, Int.reduceToNat, Int.reduceNeg, Int.reduceLT, Int.reduceLE, Nat.not_lt_zero, true_and, and_true, implies_true, imp_self, List.getElem?_cons_zero, List.getElem?_cons_succ, lim_ok, rngL_len, List.length_map, List.length_cons, List.length_nil, Nat.zero_add, Nat.lt_irrefl, Nat.le_refl, beq_self_eq_true, bne_self_eq_false, gs0, gs1, gs2, gs3, gs4, gs5, gs6, gs7, gs8, gs9, gs10, gs11, gs12, gs13, gs14, gs15, gs16, ss0, ss1, ss2, ss3, ss4, ss5, ss6, ss7, ss8, ss9, ss10, ss11, ss12, ss13, ss14, ss15, ss16, shr_shr, shr_val, own_val, own_own, mkOwn_lst, mkOwn_dic, mkS_f, mkS_l, mkS_d, frz_own, frz_shr, lst_ok, row_ok, end_ret, end_next, rawV_f, rawV_s, rawV_i, rawV_b, rawV_n, v_addNL, v_addLN, v_addN, v_subNL, v_subN, v_mul2N, v_mulN, v_mulS, v_div2N, v_mod2N, v_addS, v_addL, v_addT, v_idxTl, v_iaddNL, v_iaddN, v_isubNL, v_isubN, v_eqS, v_neS, v_eqSN, v_isN, v_isS, v_isI, v_isL, v_isnN, v_isnS, v_isnI, v_isB, v_isnB, v_inS, v_ninS, v_inDS, v_ninDS, v_inDI, v_tBl, v_tNon, v_idxDS, v_idxDI, v_idxS, v_idxL, v_idxT, v_idxL0, v_idxT0, v_idxT1, v_idxS0, v_idxLl, v_lenS, v_lenL, v_lenT, v_lenD, v_revS, v_revL, v_tuple, v_listT, v_listL, v_intI, v_min2N, v_max2N, v_max20, v_itS, v_itL, v_itT, v_asI, v_neg, v_rng1, v_rng21, v_rng2, v_drw, v_app, v_setL, v_setDS, v_cutP, v_cutD, v_cutS, v_cutPL, v_cutPT, v_cutDT, v_cutS1, v_cutM1, v_eqI, v_neI, v_lt, v_le, v_gt, v_ge, beq_natCast, cst_eqL, cst_ltL, cst_leL, cst_gtL, cst_geL, cst_lt, cst_le, v_drwI, v_joinS, v_joinC, v_pre, v_end, v_any, v_all, v_sum, v_obj, v_attr, v_scount, v_listS, v_lrng, v_popAt, v_pop0, v_extL, v_sumT, f_rest_of, t]
  refine for_rng0 _ (fun r s => ∃ x, s = [.shr (.str w), .shr (.str (swW f)), .shr (.str (tn f w)), x] ∧ r ≤ sr f w) _ ⟨.no, rfl, Nat.zero_le _⟩ ?_ ?_
  · rintro r s h ⟨x, rfl, hx⟩
    simp (disch := (first | assumption | omega | (simp only [List.length_append, List.length_cons, List.length_nil, List.length_take, List.length_drop, List.length_reverse, List.length_map, List.length_range, List.length_dropLast, List.length_replicate, List.length_set]; omega))) only [d_nil, d_cons, d_frz, d_kil, d_ret, d_set, d_own, d_par2, d_par3, d_unp, d_parn, d_pars, sn_nil, sn_cons, st_nil, st_nm, st_sub, d_seti, d_aug, d_augi, d_app, d_pop, d_expr, d_reto, d_rett, d_ifs, d_brk, d_doc, d_for, d_whl, d_popan, d_popas, d_popif, d_ext, e_con, e_var, e_bor, e_glo, e_bin, e_cmp, e_cmp2, e_neg, e_not, e_and, e_or, e_ifx, e_tup, e_lst, e_dic0, e_idx, e_cut, o_nop, o_some, e_rev, e_bi, e_me, e_call, e_draw, e_comp, es_nil, es_cons, r_seq, r_rng1, r_rng2, r_enum, r_zip, e_attr, e_mcall, e_twr, e_lrng, r_rngd, dw_ok, dw_err, kk_next, kk_ret, kk_brk, ite_t, ite_f, tn_next, tn_brk, tn_ret, Res.ofO_some, Res.ofO_none, Res.ok_bind, Res.pure_eq, Option.map_some, Option.map_none, Option.bind_some, bd_nm, bd_tp, bds_nil, bds_cons, slotsT, slotsTs, wipeS, isNop, if_true, Bool.false_eq_true, if_false, anyRaw, isRaw, Bool.or_false, Bool.false_or, Bool.false_and, Bool.true_and, Bool.and_true, Bool.and_false, Bool.or_true, Bool.true_or, Bool.not_true, Bool.not_false, decide_true, decide_false, meOk_s, meOk_l, meL, startS, List.map_cons, List.map_nil, List.cons_append, List.nil_append, List.replicate_succ, List.replicate_zero, Nat.reduceSub, Nat.reduceAdd, Nat.reduceMul, Nat.reduceDiv, Nat.reduceMod, Nat.reduceLT, Nat.reduceLeDiff, Nat.reduceBEq, Int.reduceToNat, Int.reduceNeg, Int.reduceLT, Int.reduceLE, Nat.not_lt_zero, true_and, and_true, implies_true, imp_self, List.getElem?_cons_zero, List.getElem?_cons_succ, lim_ok, rngL_len, List.length_map, List.length_cons, List.length_nil, Nat.zero_add, Nat.lt_irrefl, Nat.le_refl, beq_self_eq_true, bne_self_eq_false, gs0, gs1, gs2, gs3, gs4, gs5, gs6, gs7, gs8, gs9, gs10, gs11, gs12, gs13, gs14, gs15, gs16, ss0, ss1, ss2, ss3, ss4, ss5, ss6, ss7, ss8, ss9, ss10, ss11, ss12, ss13, ss14, ss15, ss16, shr_shr, shr_val, own_val, own_own, mkOwn_lst, mkOwn_dic, mkS_f, mkS_l, mkS_d, frz_own, frz_shr, lst_ok, row_ok, end_ret, end_next, rawV_f, rawV_s, rawV_i, rawV_b, rawV_n, v_addNL, v_addLN, v_addN, v_subNL, v_subN, v_mul2N, v_mulN, v_mulS, v_div2N, v_mod2N, v_addS, v_addL, v_addT, v_idxTl, v_iaddNL, v_iaddN, v_isubNL, v_isubN, v_eqS, v_neS, v_eqSN, v_isN, v_isS, v_isI, v_isL, v_isnN, v_isnS, v_isnI, v_isB, v_isnB, v_inS, v_ninS, v_inDS, v_ninDS, v_inDI, v_tBl, v_tNon, v_idxDS, v_idxDI, v_idxS, v_idxL, v_idxT, v_idxL0, v_idxT0, v_idxT1, v_idxS0, v_idxLl, v_lenS, v_lenL, v_lenT, v_lenD, v_revS, v_revL, v_tuple, v_listT, v_listL, v_intI, v_min2N, v_max2N, v_max20, v_itS, v_itL, v_itT, v_asI, v_neg, v_rng1, v_rng21, v_rng2, v_drw, v_app, v_setL, v_setDS, v_cutP, v_cutD, v_cutS, v_cutPL, v_cutPT, v_cutDT, v_cutS1, v_cutM1, v_eqI, v_neI, v_lt, v_le, v_gt, v_ge, beq_natCast, cst_eqL, cst_ltL, cst_leL, cst_gtL, cst_geL, cst_lt, cst_le, v_drwI, v_joinS, v_joinC, v_pre, v_end, v_any, v_all, v_sum, v_obj, v_attr, v_scount, v_listS, v_lrng, v_popAt, v_pop0, v_extL, v_sumT, f_rest_of_b1]
    refine ite_by (fun t => ?_) (fun t => ?_)
    · simp (disch := (first | assumption | omega | (simp only [List.length_append, List.length_cons, List.length_nil, List.length_take, List.length_drop, List.length_reverse, List.length_map, List.length_range, List.length_dropLast, List.length_replicate, List.length_set]; omega))) only [d_nil, d_cons, d_frz, d_kil, d_ret, d_set, d_own, d_par2, d_par3, d_unp, d_parn, d_pars, sn_nil, sn_cons, st_nil, st_nm, st_sub, d_seti, d_aug, d_augi, d_app, d_pop, d_expr, d_reto, d_rett, d_ifs, d_brk, d_doc, d_for, d_whl, d_popan, d_popas, d_popif, d_ext, e_con, e_var, e_bor, e_glo, e_bin, e_cmp, e_cmp2, e_neg, e_not, e_and, e_or, e_ifx, e_tup, e_lst, e_dic0, e_idx, e_cut, o_nop, o_some, e_rev, e_bi, e_me, e_call, e_draw, e_comp, es_nil, es_cons, r_seq, r_rng1, r_rng2, r_enum, r_zip, e_attr, e_mcall, e_twr, e_lrng, r_rngd, dw_ok, dw_err, kk_next, kk_ret, kk_brk, ite_t, ite_f, tn_next, tn_brk, tn_ret, Res.ofO_some, Res.ofO_none, Res.ok_bind, Res.pure_eq, Option.map_some, Option.map_none, Option.bind_some, bd_nm, bd_tp, bds_nil, bds_cons, slotsT, slotsTs, wipeS, isNop, if_true, Bool.false_eq_true, if_false, anyRaw, isRaw, Bool.or_false, Bool.false_or, Bool.false_and, Bool.true_and, Bool.and_true, Bool.and_false, Bool.or_true, Bool.true_or, Bool.not_true, Bool.not_false, decide_true, decide_false, meOk_s, meOk_l, meL, startS, List.map_cons, List.map_nil, List.cons_append, List.nil_append, List.replicate_succ, List.replicate_zero, Nat.reduceSub, Nat.reduceAdd, Nat.reduceMul, Nat.reduceDiv, Nat.reduceMod, Nat.reduceLT, Nat.reduceLeDiff, Nat.reduceBEq, Int.reduceToNat, Int.reduceNeg, Int.reduceLT, Int.reduceLE, Nat.not_lt_zero, true_and, and_true, implies_true, imp_self, List.getElem?_cons_zero, List.getElem?_cons_succ, lim_ok, rngL_len, List.length_map, List.length_cons, List.length_nil, Nat.zero_add, Nat.lt_irrefl, Nat.le_refl, beq_self_eq_true, bne_self_eq_false, gs0, gs1, gs2, gs3, gs4, gs5, gs6, gs7, gs8, gs9, gs10, gs11, gs12, gs13, gs14, gs15, gs16, ss0, ss1, ss2, ss3, ss4, ss5, ss6, ss7, ss8, ss9, ss10, ss11, ss12, ss13, ss14, ss15, ss16, shr_shr, shr_val, own_val, own_own, mkOwn_lst, mkOwn_dic, mkS_f, mkS_l, mkS_d, frz_own, frz_shr, lst_ok, row_ok, end_ret, end_next, rawV_f, rawV_s, rawV_i, rawV_b, rawV_n, v_addNL, v_addLN, v_addN, v_subNL, v_subN, v_mul2N, v_mulN, v_mulS, v_div2N, v_mod2N, v_addS, v_addL, v_addT, v_idxTl, v_iaddNL, v_iaddN, v_isubNL, v_isubN, v_eqS, v_neS, v_eqSN, v_isN, v_isS, v_isI, v_isL, v_isnN, v_isnS, v_isnI, v_isB, v_isnB, v_inS, v_ninS, v_inDS, v_ninDS, v_inDI, v_tBl, v_tNon, v_idxDS, v_idxDI, v_idxS, v_idxL, v_idxT, v_idxL0, v_idxT0, v_idxT1, v_idxS0, v_idxLl, v_lenS, v_lenL, v_lenT, v_lenD, v_revS, v_revL, v_tuple, v_listT, v_listL, v_intI, v_min2N, v_max2N, v_max20, v_itS, v_itL, v_itT, v_asI, v_neg, v_rng1, v_rng21, v_rng2, v_drw, v_app, v_setL, v_setDS, v_cutP, v_cutD, v_cutS, v_cutPL, v_cutPT, v_cutDT, v_cutS1, v_cutM1, v_eqI, v_neI, v_lt, v_le, v_gt, v_ge, beq_natCast, cst_eqL, cst_ltL, cst_leL, cst_gtL, cst_geL, cst_lt, cst_le, v_drwI, v_joinS, v_joinC, v_pre, v_end, v_any, v_all, v_sum, v_obj, v_attr, v_scount, v_listS, v_lrng, v_popAt, v_pop0, v_extL, v_sumT]
      have := sr_min (f := f) w r ((isPre_tn w r).mp t)
      rw [show sr f w = r by omega]
    · simp (disch := (first | assumption | omega | (simp only [List.length_append, List.length_cons, List.length_nil, List.length_take, List.length_drop, List.length_reverse, List.length_map, List.length_range, List.length_dropLast, List.length_replicate, List.length_set]; omega))) only [d_nil, d_cons, d_frz, d_kil, d_ret, d_set, d_own, d_par2, d_par3, d_unp, d_parn, d_pars, sn_nil, sn_cons, st_nil, st_nm, st_sub, d_seti, d_aug, d_augi, d_app, d_pop, d_expr, d_reto, d_rett, d_ifs, d_brk, d_doc, d_for, d_whl, d_popan, d_popas, d_popif, d_ext, e_con, e_var, e_bor, e_glo, e_bin, e_cmp, e_cmp2, e_neg, e_not, e_and, e_or, e_ifx, e_tup, e_lst, e_dic0, e_idx, e_cut, o_nop, o_some, e_rev, e_bi, e_me, e_call, e_draw, e_comp, es_nil, es_cons, r_seq, r_rng1, r_rng2, r_enum, r_zip, e_attr, e_mcall, e_twr, e_lrng, r_rngd, dw_ok, dw_err, kk_next, kk_ret, kk_brk, ite_t, ite_f, tn_next, tn_brk, tn_ret, Res.ofO_some, Res.ofO_none, Res.ok_bind, Res.pure_eq, Option.map_some, Option.map_none, Option.bind_some, bd_nm, bd_tp, bds_nil, bds_cons, slotsT, slotsTs, wipeS, isNop, if_true, Bool.false_eq_true, if_false, anyRaw, isRaw, Bool.or_false, Bool.false_or, Bool.false_and, Bool.true_and, Bool.and_true, Bool.and_false, Bool.or_true, Bool.true_or, Bool.not_true, Bool.not_false, decide_true, decide_false, meOk_s, meOk_l, meL, startS, List.map_cons, List.map_nil, List.cons_append, List.nil_append, List.replicate_succ, List.replicate_zero, Nat.reduceSub, Nat.reduceAdd, Nat.reduceMul, Nat.reduceDiv, Nat.reduceMod, Nat.reduceLT, Nat.reduceLeDiff, Nat.reduceBEq, Int.reduceToNat, Int.reduceNeg, Int.reduceLT, Int.reduceLE, Nat.not_lt_zero, true_and, and_true, implies_true, imp_self, List.getElem?_cons_zero, List.getElem?_cons_succ, lim_ok, rngL_len, List.length_map, List.length_cons, List.length_nil, Nat.zero_add, Nat.lt_irrefl, Nat.le_refl, beq_self_eq_true, bne_self_eq_false, gs0, gs1, gs2, gs3, gs4, gs5, gs6, gs7, gs8, gs9, gs10, gs11, gs12, gs13, gs14, gs15, gs16, ss0, ss1, ss2, ss3, ss4, ss5, ss6, ss7, ss8, ss9, ss10, ss11, ss12, ss13, ss14, ss15, ss16, shr_shr, shr_val, own_val, own_own, mkOwn_lst, mkOwn_dic, mkS_f, mkS_l, mkS_d, frz_own, frz_shr, lst_ok, row_ok, end_ret, end_next, rawV_f, rawV_s, rawV_i, rawV_b, rawV_n, v_addNL, v_addLN, v_addN, v_subNL, v_subN, v_mul2N, v_mulN, v_mulS, v_div2N, v_mod2N, v_addS, v_addL, v_addT, v_idxTl, v_iaddNL, v_iaddN, v_isubNL, v_isubN, v_eqS, v_neS, v_eqSN, v_isN, v_isS, v_isI, v_isL, v_isnN, v_isnS, v_isnI, v_isB, v_isnB, v_inS, v_ninS, v_inDS, v_ninDS, v_inDI, v_tBl, v_tNon, v_idxDS, v_idxDI, v_idxS, v_idxL, v_idxT, v_idxL0, v_idxT0, v_idxT1, v_idxS0, v_idxLl, v_lenS, v_lenL, v_lenT, v_lenD, v_revS, v_revL, v_tuple, v_listT, v_listL, v_intI, v_min2N, v_max2N, v_max20, v_itS, v_itL, v_itT, v_asI, v_neg, v_rng1, v_rng21, v_rng2, v_drw, v_app, v_setL, v_setDS, v_cutP, v_cutD, v_cutS, v_cutPL, v_cutPT, v_cutDT, v_cutS1, v_cutM1, v_eqI, v_neI, v_lt, v_le, v_gt, v_ge, beq_natCast, cst_eqL, cst_ltL, cst_leL, cst_gtL, cst_geL, cst_lt, cst_le, v_drwI, v_joinS, v_joinC, v_pre, v_end, v_any, v_all, v_sum, v_obj, v_attr, v_scount, v_listS, v_lrng, v_popAt, v_pop0, v_extL, v_sumT]
      refine ⟨_, rfl, ?_⟩
      rcases Nat.lt_or_eq_of_le hx with q | q
      · exact q
      · have := (isPre_tn (f := f) w r).mpr (by rw [q]; exact sr_pal w)
        rw [t] at this; cases this
  · rintro s ⟨x, rfl, hx⟩
    simp (disch := (first | assumption | omega | (simp only [List.length_append, List.length_cons, List.length_nil, List.length_take, List.length_drop, List.length_reverse, List.length_map, List.length_range, List.length_dropLast, List.length_replicate, List.length_set]; omega))) only [d_nil, d_cons, d_frz, d_kil, d_ret, d_set, d_own, d_par2, d_par3, d_unp, d_parn, d_pars, sn_nil, sn_cons, st_nil, st_nm, st_sub, d_seti, d_aug, d_augi, d_app, d_pop, d_expr, d_reto, d_rett, d_ifs, d_brk, d_doc, d_for, d_whl, d_popan, d_popas, d_popif, d_ext, e_con, e_var, e_bor, e_glo, e_bin, e_cmp, e_cmp2, e_neg, e_not, e_and, e_or, e_ifx, e_tup, e_lst, e_dic0, e_idx, e_cut, o_nop, o_some, e_rev, e_bi, e_me, e_call, e_draw, e_comp, es_nil, es_cons, r_seq, r_rng1, r_rng2, r_enum, r_zip, e_attr, e_mcall, e_twr, e_lrng, r_rngd, dw_ok, dw_err, kk_next, kk_ret, kk_brk, ite_t, ite_f, tn_next, tn_brk, tn_ret, Res.ofO_some, Res.ofO_none, Res.ok_bind, Res.pure_eq, Option.map_some, Option.map_none, Option.bind_some, bd_nm, bd_tp, bds_nil, bds_cons, slotsT, slotsTs, wipeS, isNop, if_true, Bool.false_eq_true, if_false, anyRaw, isRaw, Bool.or_false, Bool.false_or, Bool.false_and, Bool.true_and, Bool.and_true, Bool.and_false, Bool.or_true, Bool.true_or, Bool.not_true, Bool.not_false, decide_true, decide_false, meOk_s, meOk_l, meL, startS, List.map_cons, List.map_nil, List.cons_append, List.nil_append, List.replicate_succ, List.replicate_zero, Nat.reduceSub, Nat.reduceAdd, Nat.reduceMul, Nat.reduceDiv, Nat.reduceMod, Nat.reduceLT, Nat.reduceLeDiff, Nat.reduceBEq, Int.reduceToNat, Int.reduceNeg, Int.reduceLT, Int.reduceLE, Nat.not_lt_zero, true_and, and_true, implies_true, imp_self, List.getElem?_cons_zero, List.getElem?_cons_succ, lim_ok, rngL_len, List.length_map, List.length_cons, List.length_nil, Nat.zero_add, Nat.lt_irrefl, Nat.le_refl, beq_self_eq_true, bne_self_eq_false, gs0, gs1, gs2, gs3, gs4, gs5, gs6, gs7, gs8, gs9, gs10, gs11, gs12, gs13, gs14, gs15, gs16, ss0, ss1, ss2, ss3, ss4, ss5, ss6, ss7, ss8, ss9, ss10, ss11, ss12, ss13, ss14, ss15, ss16, shr_shr, shr_val, own_val, own_own, mkOwn_lst, mkOwn_dic, mkS_f, mkS_l, mkS_d, frz_own, frz_shr, lst_ok, row_ok, end_ret, end_next, rawV_f, rawV_s, rawV_i, rawV_b, rawV_n, v_addNL, v_addLN, v_addN, v_subNL, v_subN, v_mul2N, v_mulN, v_mulS, v_div2N, v_mod2N, v_addS, v_addL, v_addT, v_idxTl, v_iaddNL, v_iaddN, v_isubNL, v_isubN, v_eqS, v_neS, v_eqSN, v_isN, v_isS, v_isI, v_isL, v_isnN, v_isnS, v_isnI, v_isB, v_isnB, v_inS, v_ninS, v_inDS, v_ninDS, v_inDI, v_tBl, v_tNon, v_idxDS, v_idxDI, v_idxS, v_idxL, v_idxT, v_idxL0, v_idxT0, v_idxT1, v_idxS0, v_idxLl, v_lenS, v_lenL, v_lenT, v_lenD, v_revS, v_revL, v_tuple, v_listT, v_listL, v_intI, v_min2N, v_max2N, v_max20, v_itS, v_itL, v_itT, v_asI, v_neg, v_rng1, v_rng21, v_rng2, v_drw, v_app, v_setL, v_setDS, v_cutP, v_cutD, v_cutS, v_cutPL, v_cutPT, v_cutDT, v_cutS1, v_cutM1, v_eqI, v_neI, v_lt, v_le, v_gt, v_ge, beq_natCast, cst_eqL, cst_ltL, cst_leL, cst_gtL, cst_geL, cst_lt, cst_le, v_drwI, v_joinS, v_joinC, v_pre, v_end, v_any, v_all, v_sum, v_obj, v_attr, v_scount, v_listS, v_lrng, v_popAt, v_pop0, v_extL, v_sumT]
    rw [show sr f w = w.length by omega]
/-- letters swapped -/
def sw2 (f : Nat → Nat) (a b : Nat) : Nat → Nat := fun c => if c = a then b else if c = b then a else f c
theorem Sw.two {f : Nat → Nat} (S : Sw f) {a b : Nat} (ha : 97 ≤ a ∧ a ≤ 101) (hb : 97 ≤ b ∧ b ≤ 101) (fa : f a = a) (fb : f b = b) : Sw (sw2 f a b) := by
  constructor
  · intro c
    unfold sw2
    by_cases q : c = a
    · rw [if_pos q]
      by_cases q2 : b = a
      · rw [if_pos q2, q, q2]
      · rw [if_neg q2, if_pos rfl, q]
    · rw [if_neg q]
      by_cases q2 : c = b
      · rw [if_pos q2, if_pos rfl, q2]
      · rw [if_neg q2]
        have h1 : f c ≠ a := fun z => q (by rw [← S.inv c, z, fa])
        have h2 : f c ≠ b := fun z => q2 (by rw [← S.inv c, z, fb])
        rw [if_neg h1, if_neg h2, S.inv]
  · intro c h1 h2
    unfold sw2
    split
    · exact hb
    · split
      · exact ha
      · exact S.let' c h1 h2
/-- the letters left, and what was found for the others -/
structure JSw (f : Nat → Nat) (left : W) (D : List (PV × PV)) : Prop where
  sw : Sw f
  nd : left.Nodup
  fx : ∀ c, c ∈ left → (97 ≤ c ∧ c ≤ 101) ∧ f c = c
  ll : left.length ≤ 5
  dc : DicS (fun c => if (97 ≤ c ∧ c ≤ 101) ∧ c ∉ left then some (.str [f c]) else none) D (10 - 2 * left.length)
theorem JSw.step {f : Nat → Nat} {left left' : W} {D : List (PV × PV)} (J : JSw f left D) {a b : Nat} (ha : a ∈ left) (hb : b ∈ left) (hl : left'.length + 1 ≤ left.length) (nd : left'.Nodup)
    (hm : ∀ c, c ∈ left' ↔ c ∈ left ∧ c ≠ a ∧ c ≠ b) : JSw (sw2 f a b) left' (dput (.str [b]) (.str [a]) (dput (.str [a]) (.str [b]) D)) := by
  have a1 := J.fx a ha
  have b1 := J.fx b hb
  have l5 := J.ll
  refine ⟨J.sw.two a1.1 b1.1 a1.2 b1.2, nd, fun c hc => ?_, by omega, ?_⟩
  · obtain ⟨h1, h2, h3⟩ := (hm c).mp hc
    refine ⟨(J.fx c h1).1, ?_⟩
    unfold sw2
    rw [if_neg h2, if_neg h3]
    exact (J.fx c h1).2
  · refine ((J.dc.put a (.str [b])).put b (.str [a])).mono (fun c => ?_) (by omega)
    unfold sw2
    by_cases q : c = b
    · subst q
      rw [if_pos rfl, if_pos ⟨b1.1, fun z => ((hm c).mp z).2.2 rfl⟩]
      by_cases q2 : c = a
      · rw [if_pos q2, q2]
      · rw [if_neg q2, if_pos rfl]
    · rw [if_neg q]
      by_cases q2 : c = a
      · subst q2
        rw [if_pos rfl, if_pos ⟨a1.1, fun z => ((hm c).mp z).2.1 rfl⟩, if_pos rfl]
      · rw [if_neg q2, if_neg q2, if_neg q]
        by_cases q3 : c ∈ left
        · rw [if_neg (fun z => z.2 q3), if_neg (fun z => z.2 ((hm c).mpr ⟨q3, q2, q⟩))]
        · by_cases q4 : 97 ≤ c ∧ c ≤ 101
          · rw [if_pos ⟨q4, q3⟩, if_pos ⟨q4, fun z => q3 ((hm c).mp z).1⟩]
          · rw [if_neg (fun z => q4 z.1), if_neg (fun z => q4 z.1)]
end
end Ev
set_option autoImplicit false
set_option linter.all false
set_option Elab.async false
set_option maxRecDepth 100000
namespace Ev
open Pal
def fid : Nat → Nat := fun c => c
def fsw : Nat → Nat := fun c => if c = 97 then 98 else if c = 98 then 97 else c
theorem sw_id : Sw fid := ⟨fun _ => rfl, fun c h1 h2 => ⟨h1, h2⟩⟩
theorem sw_sw : Sw fsw := ⟨fun c => by
    unfold fsw
    by_cases q : c = 97
    · subst q; rfl
    · by_cases q2 : c = 98
      · subst q2; rfl
      · rw [if_neg q, if_neg q2, if_neg q, if_neg q2], fun c h1 h2 => by
    unfold fsw
    by_cases q : c = 97
    · subst q; decide
    · by_cases q2 : c = 98
      · subst q2; decide
      · rw [if_neg q, if_neg q2]; exact ⟨h1, h2⟩⟩
theorem swW_sw : swW fsw = [98, 97, 99, 100, 101] := rfl
def kf (s : Nat) : Nat → Nat := if s = 112 then fid else fsw
theorem sw_kf (s : Nat) : Sw (kf s) := by unfold kf; split; exact sw_id; exact sw_sw
/-- the build of a plan with a row of mirrors, as pairs -/
def rowB (L : List (Nat × Nat)) : W := L.foldl (fun w x => sc (kf x.2) (w ++ [x.1])) []
theorem rowB_snoc (L : List (Nat × Nat)) (x : Nat × Nat) : rowB (L ++ [x]) = sc (kf x.2) (rowB L ++ [x.1]) := by
  unfold rowB; rw [List.foldl_append]; rfl
theorem rowB_len (L : List (Nat × Nat)) : (rowB L).length + 2 ≤ 2 * 2 ^ L.length := by
  refine snoc_ind (M := fun L => (rowB L).length + 2 ≤ 2 * 2 ^ L.length) (by decide) (fun L x ih => ?_) L
  have h := sc_len (f := kf x.2) (rowB L ++ [x.1])
  rw [List.length_append, List.length_singleton] at h
  rw [rowB_snoc, List.length_append, List.length_singleton, Nat.pow_succ]
  omega
theorem sc_pre (f : Nat → Nat) (w : W) : w <+: sc f w := List.prefix_append _ _
theorem rowB_let {L : List (Nat × Nat)} (h : ∀ x, x ∈ L → 97 ≤ x.1 ∧ x.1 ≤ 101) : Let (rowB L) := by
  revert h
  refine snoc_ind (M := fun L => (∀ x, x ∈ L → 97 ≤ x.1 ∧ x.1 ≤ 101) → Let (rowB L)) (fun _ => Let.nil) (fun L x ih h => ?_) L
  have hw : Let (rowB L ++ [x.1]) := (ih fun y hy => h y (by simp [hy])).append (Let.one (h x (by simp)))
  rw [rowB_snoc]
  exact hw.append ((sw_kf _).tn (hw.take _))
theorem zipL_S : ∀ (p g : W), zipL (p.map fun c => PV.str [c]) (g.map fun c => PV.str [c]) = (p.zip g).map fun x => PV.tup [.str [x.1], .str [x.2]]
  | [], _ => by cases ‹W› <;> rfl
  | _ :: _, [] => rfl
  | a :: p, b :: g => by
    have := zipL_S p g
    simp only [List.map_cons, zipL, List.zip_cons_cons, this]
/-- which kind of mirror the first n letters are -/
def kindM (w : W) (n : Nat) : Option Nat := if w.take n = (w.take n).reverse then some 112 else if w.take n = tn fsw (w.take n) then some 115 else none
def toldM (w : W) : Nat → List (Nat × Nat)
  | 0 => []
  | n + 1 => toldM w n ++ (match kindM w (n + 1) with | none => [] | some s => [(n + 1, s)])
def tupNS (x : Nat × Nat) : PV := .tup [.int (x.1 : Int), .str [x.2]]
theorem toldM_mem {w : W} {x : Nat × Nat} : ∀ {n : Nat}, x ∈ toldM w n ↔ 1 ≤ x.1 ∧ x.1 ≤ n ∧ kindM w x.1 = some x.2
  | 0 => by simp only [toldM, List.not_mem_nil, false_iff]; omega
  | n + 1 => by
    rw [toldM, List.mem_append, toldM_mem (n := n)]
    constructor
    · rintro (⟨h1, h2, h3⟩ | h)
      · exact ⟨h1, by omega, h3⟩
      · cases hk : kindM w (n + 1) with
        | none => rw [hk] at h; cases h
        | some s => rw [hk] at h; rw [List.mem_singleton.mp h]; exact ⟨by simp, Nat.le_refl _, hk⟩
    · rintro ⟨h1, h2, h3⟩
      rcases Nat.lt_or_ge x.1 (n + 1) with q | q
      · exact .inl ⟨h1, by omega, h3⟩
      · have e : x.1 = n + 1 := by omega
        rw [e] at h3
        refine .inr ?_
        rw [h3, List.mem_singleton, ← e]
theorem toldM_len (w : W) : ∀ n, (toldM w n).length ≤ n
  | 0 => Nat.le_refl _
  | n + 1 => by
    have := toldM_len w n
    rw [toldM, List.length_append]
    cases kindM w (n + 1) <;> simp <;> omega
theorem toldM_succ (w : W) (n : Nat) : toldM w (n + 1) = toldM w n ++ (match kindM w (n + 1) with | none => [] | some s => [(n + 1, s)]) := rfl
section
variable {fns : Nat → Option Fn} {gl : Nat → Option PV} {l : Nat} {E : PV → Prop}
theorem c_begun_of (N : N_begun_of fns gl) {w : W} (hw : Let w) (hl : w.length ≤ 4000000) : callF fns gl (l + 3) 135 [.str w] = .ok (.lst ((toldM w w.length).map tupNS)) := by
  refine call_eq N.self rfl ?_
  simp (disch := (first | assumption | omega | (simp only [List.length_append, List.length_cons, List.length_nil, List.length_take, List.length_drop, List.length_reverse, List.length_map, List.length_range, List.length_dropLast, List.length_replicate, List.length_set]; omega))) only [d_nil, d_cons, d_frz, d_kil, d_ret, d_set, d_own, d_par2, d_par3, d_unp, d_parn, d_pars, sn_nil, sn_cons, st_nil, st_nm, st_sub, d_seti, d_aug, d_augi, d_app, d_pop, d_expr, d_reto, d_rett, d_ifs, d_brk, d_doc, d_for, d_whl, d_popan, d_popas, d_popif, d_ext, e_con, e_var, e_bor, e_glo, e_bin, e_cmp, e_cmp2, e_neg, e_not, e_and, e_or, e_ifx, e_tup, e_lst, e_dic0, e_idx, e_cut, o_nop, o_some, e_rev, e_bi, e_me, e_call, e_draw, e_comp, es_nil, es_cons, r_seq, r_rng1, r_rng2, r_enum, r_zip, e_attr, e_mcall, e_twr, e_lrng, r_rngd, dw_ok, dw_err, kk_next, kk_ret, kk_brk, ite_t, ite_f, tn_next, tn_brk, tn_ret, Res.ofO_some, Res.ofO_none, Res.ok_bind, Res.pure_eq, Option.map_some, Option.map_none, Option.bind_some, bd_nm, bd_tp, bds_nil, bds_cons, slotsT, slotsTs, wipeS, isNop, if_true, Bool.false_eq_true, if_false, anyRaw, isRaw, Bool.or_false, Bool.false_or, Bool.false_and, Bool.true_and, Bool.and_true, Bool.and_false, Bool.or_true, Bool.true_or, Bool.not_true, Bool.not_false, decide_true, decide_false, meOk_s, meOk_l, meL, startS, List.map_cons, List.map_nil, List.cons_append, List.nil_append, List.replicate_succ, List.replicate_zero, Nat.reduceSub, Nat.reduceAdd, Nat.reduceMul, Nat.reduceDiv, Nat.reduceMod, Nat.reduceLT, Nat.reduceLeDiff, Nat.reduceBEq, Int.reduceToNat, Int.reduceNeg, Int.reduceLT, Int.reduceLE, Nat.not_lt_zero, true_and, and_true, implies_true, imp_self, List.getElem?_cons_zero, List.getElem?_cons_succ, lim_ok, rngL_len, List.length_map, List.length_cons, List.length_nil, Nat.zero_add, Nat.lt_irrefl, Nat.le_refl, beq_self_eq_true, bne_self_eq_false, gs0, gs1, gs2, gs3, gs4, gs5, gs6, gs7, gs8, gs9, gs10, gs11, gs12, gs13, gs14, gs15, gs16, ss0, ss1, ss2, ss3, ss4, ss5, ss6, ss7, ss8, ss9, ss10, ss11, ss12, ss13, ss14, ss15, ss16, shr_shr, shr_val, own_val, own_own, mkOwn_lst, mkOwn_dic, mkS_f, mkS_l, mkS_d, frz_own, frz_shr, lst_ok, row_ok, end_ret, end_next, rawV_f, rawV_s, rawV_i, rawV_b, rawV_n, v_addNL, v_addLN, v_addN, v_subNL, v_subN, v_mul2N, v_mulN, v_mulS, v_div2N, v_mod2N, v_addS, v_addL, v_addT, v_idxTl, v_iaddNL, v_iaddN, v_isubNL, v_isubN, v_eqS, v_neS, v_eqSN, v_isN, v_isS, v_isI, v_isL, v_isnN, v_isnS, v_isnI, v_isB, v_isnB, v_inS, v_ninS, v_inDS, v_ninDS, v_inDI, v_tBl, v_tNon, v_idxDS, v_idxDI, v_idxS, v_idxL, v_idxT, v_idxL0, v_idxT0, v_idxT1, v_idxS0, v_idxLl, v_lenS, v_lenL, v_lenT, v_lenD, v_revS, v_revL, v_tuple, v_listT, v_listL, v_intI, v_min2N, v_max2N, v_max20, v_itS, v_itL, v_itT, v_asI, v_neg, v_rng1, v_rng21, v_rng2, v_drw, v_app, v_setL, v_setDS, v_cutP, v_cutD, v_cutS, v_cutPL, v_cutPT, v_cutDT, v_cutS1, v_cutM1, v_eqI, v_neI, v_lt, v_le, v_gt, v_ge, beq_natCast, cst_eqL, cst_ltL, cst_leL, cst_gtL, cst_geL, cst_lt, cst_le, v_drwI, v_joinS, v_joinC, v_pre, v_end, v_any, v_all, v_sum, v_obj, v_attr, v_scount, v_listS, v_lrng, v_popAt, v_pop0, v_extL, v_sumT, f_begun_of]
  rw [show w.length + 1 - 1 = w.length by omega]
  refine for_rng 1 w.length (fun n s => 1 ≤ n ∧ ∃ x, s = [.shr (.str w), .own (.lst ((toldM w (n - 1)).map tupNS)), x]) _ ⟨Nat.le_refl _, .no, rfl⟩ ?_ ?_
  · rintro n s h1 h2 ⟨_, x, rfl⟩
    have e : n - 1 + 1 = n := by omega
    have hs := toldM_succ w (n - 1)
    rw [e] at hs
    rw [show n + 1 - 1 = n by omega]
    have hlen := toldM_len w (n - 1)
    have t := c_turned (l := l) N.n_turned (f := fsw) (hw.take n) (by simp; omega)
    rw [swW_sw] at t
    simp (disch := (first | assumption | omega | (simp only [List.length_append, List.length_cons, List.length_nil, List.length_take, List.length_drop, List.length_reverse, List.length_map, List.length_range, List.length_dropLast, List.length_replicate, List.length_set]; omega))) only [d_nil, d_cons, d_frz, d_kil, d_ret, d_set, d_own, d_par2, d_par3, d_unp, d_parn, d_pars, sn_nil, sn_cons, st_nil, st_nm, st_sub, d_seti, d_aug, d_augi, d_app, d_pop, d_expr, d_reto, d_rett, d_ifs, d_brk, d_doc, d_for, d_whl, d_popan, d_popas, d_popif, d_ext, e_con, e_var, e_bor, e_glo, e_bin, e_cmp, e_cmp2, e_neg, e_not, e_and, e_or, e_ifx, e_tup, e_lst, e_dic0, e_idx, e_cut, o_nop, o_some, e_rev, e_bi, e_me, e_call, e_draw, e_comp, es_nil, es_cons, r_seq, r_rng1, r_rng2, r_enum, r_zip, e_attr, e_mcall, e_twr, e_lrng, r_rngd, dw_ok, dw_err, kk_next, kk_ret, kk_brk, ite_t, ite_f, tn_next, tn_brk, tn_ret, Res.ofO_some, Res.ofO_none, Res.ok_bind, Res.pure_eq, Option.map_some, Option.map_none, Option.bind_some, bd_nm, bd_tp, bds_nil, bds_cons, slotsT, slotsTs, wipeS, isNop, if_true, Bool.false_eq_true, if_false, anyRaw, isRaw, Bool.or_false, Bool.false_or, Bool.false_and, Bool.true_and, Bool.and_true, Bool.and_false, Bool.or_true, Bool.true_or, Bool.not_true, Bool.not_false, decide_true, decide_false, meOk_s, meOk_l, meL, startS, List.map_cons, List.map_nil, List.cons_append, List.nil_append, List.replicate_succ, List.replicate_zero, Nat.reduceSub, Nat.reduceAdd, Nat.reduceMul, Nat.reduceDiv, Nat.reduceMod, Nat.reduceLT, Nat.reduceLeDiff, Nat.reduceBEq, Int.reduceToNat, Int.reduceNeg, Int.reduceLT, Int.reduceLE, Nat.not_lt_zero, true_and, and_true, implies_true, imp_self, List.getElem?_cons_zero, List.getElem?_cons_succ, lim_ok, rngL_len, List.length_map, List.length_cons, List.length_nil, Nat.zero_add, Nat.lt_irrefl, Nat.le_refl, beq_self_eq_true, bne_self_eq_false, gs0, gs1, gs2, gs3, gs4, gs5, gs6, gs7, gs8, gs9, gs10, gs11, gs12, gs13, gs14, gs15, gs16, ss0, ss1, ss2, ss3, ss4, ss5, ss6, ss7, ss8, ss9, ss10, ss11, ss12, ss13, ss14, ss15, ss16, shr_shr, shr_val, own_val, own_own, mkOwn_lst, mkOwn_dic, mkS_f, mkS_l, mkS_d, frz_own, frz_shr, lst_ok, row_ok, end_ret, end_next, rawV_f, rawV_s, rawV_i, rawV_b, rawV_n, v_addNL, v_addLN, v_addN, v_subNL, v_subN, v_mul2N, v_mulN, v_mulS, v_div2N, v_mod2N, v_addS, v_addL, v_addT, v_idxTl, v_iaddNL, v_iaddN, v_isubNL, v_isubN, v_eqS, v_neS, v_eqSN, v_isN, v_isS, v_isI, v_isL, v_isnN, v_isnS, v_isnI, v_isB, v_isnB, v_inS, v_ninS, v_inDS, v_ninDS, v_inDI, v_tBl, v_tNon, v_idxDS, v_idxDI, v_idxS, v_idxL, v_idxT, v_idxL0, v_idxT0, v_idxT1, v_idxS0, v_idxLl, v_lenS, v_lenL, v_lenT, v_lenD, v_revS, v_revL, v_tuple, v_listT, v_listL, v_intI, v_min2N, v_max2N, v_max20, v_itS, v_itL, v_itT, v_asI, v_neg, v_rng1, v_rng21, v_rng2, v_drw, v_app, v_setL, v_setDS, v_cutP, v_cutD, v_cutS, v_cutPL, v_cutPT, v_cutDT, v_cutS1, v_cutM1, v_eqI, v_neI, v_lt, v_le, v_gt, v_ge, beq_natCast, cst_eqL, cst_ltL, cst_leL, cst_gtL, cst_geL, cst_lt, cst_le, v_drwI, v_joinS, v_joinC, v_pre, v_end, v_any, v_all, v_sum, v_obj, v_attr, v_scount, v_listS, v_lrng, v_popAt, v_pop0, v_extL, v_sumT, f_begun_of_b1]
    refine ite_by (fun q => ?_) (fun q => ?_)
    · have q : w.take n = (w.take n).reverse := by simpa using q
      have k : kindM w n = some 112 := by unfold kindM; rw [if_pos q]
      rw [k] at hs
      simp (disch := (first | assumption | omega | (simp only [List.length_append, List.length_cons, List.length_nil, List.length_take, List.length_drop, List.length_reverse, List.length_map, List.length_range, List.length_dropLast, List.length_replicate, List.length_set]; omega))) only [d_nil, d_cons, d_frz, d_kil, d_ret, d_set, d_own, d_par2, d_par3, d_unp, d_parn, d_pars, sn_nil, sn_cons, st_nil, st_nm, st_sub, d_seti, d_aug, d_augi, d_app, d_pop, d_expr, d_reto, d_rett, d_ifs, d_brk, d_doc, d_for, d_whl, d_popan, d_popas, d_popif, d_ext, e_con, e_var, e_bor, e_glo, e_bin, e_cmp, e_cmp2, e_neg, e_not, e_and, e_or, e_ifx, e_tup, e_lst, e_dic0, e_idx, e_cut, o_nop, o_some, e_rev, e_bi, e_me, e_call, e_draw, e_comp, es_nil, es_cons, r_seq, r_rng1, r_rng2, r_enum, r_zip, e_attr, e_mcall, e_twr, e_lrng, r_rngd, dw_ok, dw_err, kk_next, kk_ret, kk_brk, ite_t, ite_f, tn_next, tn_brk, tn_ret, Res.ofO_some, Res.ofO_none, Res.ok_bind, Res.pure_eq, Option.map_some, Option.map_none, Option.bind_some, bd_nm, bd_tp, bds_nil, bds_cons, slotsT, slotsTs, wipeS, isNop, if_true, Bool.false_eq_true, if_false, anyRaw, isRaw, Bool.or_false, Bool.false_or, Bool.false_and, Bool.true_and, Bool.and_true, Bool.and_false, Bool.or_true, Bool.true_or, Bool.not_true, Bool.not_false, decide_true, decide_false, meOk_s, meOk_l, meL, startS, List.map_cons, List.map_nil, List.cons_append, List.nil_append, List.replicate_succ, List.replicate_zero, Nat.reduceSub, Nat.reduceAdd, Nat.reduceMul, Nat.reduceDiv, Nat.reduceMod, Nat.reduceLT, Nat.reduceLeDiff, Nat.reduceBEq, Int.reduceToNat, Int.reduceNeg, Int.reduceLT, Int.reduceLE, Nat.not_lt_zero, true_and, and_true, implies_true, imp_self, List.getElem?_cons_zero, List.getElem?_cons_succ, lim_ok, rngL_len, List.length_map, List.length_cons, List.length_nil, Nat.zero_add, Nat.lt_irrefl, Nat.le_refl, beq_self_eq_true, bne_self_eq_false, gs0, gs1, gs2, gs3, gs4, gs5, gs6, gs7, gs8, gs9, gs10, gs11, gs12, gs13, gs14, gs15, gs16, ss0, ss1, ss2, ss3, ss4, ss5, ss6, ss7, ss8, ss9, ss10, ss11, ss12, ss13, ss14, ss15, ss16, shr_shr, shr_val, own_val, own_own, mkOwn_lst, mkOwn_dic, mkS_f, mkS_l, mkS_d, frz_own, frz_shr, lst_ok, row_ok, end_ret, end_next, rawV_f, rawV_s, rawV_i, rawV_b, rawV_n, v_addNL, v_addLN, v_addN, v_subNL, v_subN, v_mul2N, v_mulN, v_mulS, v_div2N, v_mod2N, v_addS, v_addL, v_addT, v_idxTl, v_iaddNL, v_iaddN, v_isubNL, v_isubN, v_eqS, v_neS, v_eqSN, v_isN, v_isS, v_isI, v_isL, v_isnN, v_isnS, v_isnI, v_isB, v_isnB, v_inS, v_ninS, v_inDS, v_ninDS, v_inDI, v_tBl, v_tNon, v_idxDS, v_idxDI, v_idxS, v_idxL, v_idxT, v_idxL0, v_idxT0, v_idxT1, v_idxS0, v_idxLl, v_lenS, v_lenL, v_lenT, v_lenD, v_revS, v_revL, v_tuple, v_listT, v_listL, v_intI, v_min2N, v_max2N, v_max20, v_itS, v_itL, v_itT, v_asI, v_neg, v_rng1, v_rng21, v_rng2, v_drw, v_app, v_setL, v_setDS, v_cutP, v_cutD, v_cutS, v_cutPL, v_cutPT, v_cutDT, v_cutS1, v_cutM1, v_eqI, v_neI, v_lt, v_le, v_gt, v_ge, beq_natCast, cst_eqL, cst_ltL, cst_leL, cst_gtL, cst_geL, cst_lt, cst_le, v_drwI, v_joinS, v_joinC, v_pre, v_end, v_any, v_all, v_sum, v_obj, v_attr, v_scount, v_listS, v_lrng, v_popAt, v_pop0, v_extL, v_sumT]
      rw [hs, List.map_append]
      exact ⟨_, rfl⟩
    · have q : ¬ w.take n = (w.take n).reverse := by simpa using q
      simp (disch := (first | assumption | omega | (simp only [List.length_append, List.length_cons, List.length_nil, List.length_take, List.length_drop, List.length_reverse, List.length_map, List.length_range, List.length_dropLast, List.length_replicate, List.length_set]; omega))) only [d_nil, d_cons, d_frz, d_kil, d_ret, d_set, d_own, d_par2, d_par3, d_unp, d_parn, d_pars, sn_nil, sn_cons, st_nil, st_nm, st_sub, d_seti, d_aug, d_augi, d_app, d_pop, d_expr, d_reto, d_rett, d_ifs, d_brk, d_doc, d_for, d_whl, d_popan, d_popas, d_popif, d_ext, e_con, e_var, e_bor, e_glo, e_bin, e_cmp, e_cmp2, e_neg, e_not, e_and, e_or, e_ifx, e_tup, e_lst, e_dic0, e_idx, e_cut, o_nop, o_some, e_rev, e_bi, e_me, e_call, e_draw, e_comp, es_nil, es_cons, r_seq, r_rng1, r_rng2, r_enum, r_zip, e_attr, e_mcall, e_twr, e_lrng, r_rngd, dw_ok, dw_err, kk_next, kk_ret, kk_brk, ite_t, ite_f, tn_next, tn_brk, tn_ret, Res.ofO_some, Res.ofO_none, Res.ok_bind, Res.pure_eq, Option.map_some, Option.map_none, Option.bind_some, bd_nm, bd_tp, bds_nil, bds_cons, slotsT, slotsTs, wipeS, isNop, if_true, Bool.false_eq_true, if_false, anyRaw, isRaw, Bool.or_false, Bool.false_or, Bool.false_and, Bool.true_and, Bool.and_true, Bool.and_false, Bool.or_true, Bool.true_or, Bool.not_true, Bool.not_false, decide_true, decide_false, meOk_s, meOk_l, meL, startS, List.map_cons, List.map_nil, List.cons_append, List.nil_append, List.replicate_succ, List.replicate_zero, Nat.reduceSub, Nat.reduceAdd, Nat.reduceMul, Nat.reduceDiv, Nat.reduceMod, Nat.reduceLT, Nat.reduceLeDiff, Nat.reduceBEq, Int.reduceToNat, Int.reduceNeg, Int.reduceLT, Int.reduceLE, Nat.not_lt_zero, true_and, and_true, implies_true, imp_self, List.getElem?_cons_zero, List.getElem?_cons_succ, lim_ok, rngL_len, List.length_map, List.length_cons, List.length_nil, Nat.zero_add, Nat.lt_irrefl, Nat.le_refl, beq_self_eq_true, bne_self_eq_false, gs0, gs1, gs2, gs3, gs4, gs5, gs6, gs7, gs8, gs9, gs10, gs11, gs12, gs13, gs14, gs15, gs16, ss0, ss1, ss2, ss3, ss4, ss5, ss6, ss7, ss8, ss9, ss10, ss11, ss12, ss13, ss14, ss15, ss16, shr_shr, shr_val, own_val, own_own, mkOwn_lst, mkOwn_dic, mkS_f, mkS_l, mkS_d, frz_own, frz_shr, lst_ok, row_ok, end_ret, end_next, rawV_f, rawV_s, rawV_i, rawV_b, rawV_n, v_addNL, v_addLN, v_addN, v_subNL, v_subN, v_mul2N, v_mulN, v_mulS, v_div2N, v_mod2N, v_addS, v_addL, v_addT, v_idxTl, v_iaddNL, v_iaddN, v_isubNL, v_isubN, v_eqS, v_neS, v_eqSN, v_isN, v_isS, v_isI, v_isL, v_isnN, v_isnS, v_isnI, v_isB, v_isnB, v_inS, v_ninS, v_inDS, v_ninDS, v_inDI, v_tBl, v_tNon, v_idxDS, v_idxDI, v_idxS, v_idxL, v_idxT, v_idxL0, v_idxT0, v_idxT1, v_idxS0, v_idxLl, v_lenS, v_lenL, v_lenT, v_lenD, v_revS, v_revL, v_tuple, v_listT, v_listL, v_intI, v_min2N, v_max2N, v_max20, v_itS, v_itL, v_itT, v_asI, v_neg, v_rng1, v_rng21, v_rng2, v_drw, v_app, v_setL, v_setDS, v_cutP, v_cutD, v_cutS, v_cutPL, v_cutPT, v_cutDT, v_cutS1, v_cutM1, v_eqI, v_neI, v_lt, v_le, v_gt, v_ge, beq_natCast, cst_eqL, cst_ltL, cst_leL, cst_gtL, cst_geL, cst_lt, cst_le, v_drwI, v_joinS, v_joinC, v_pre, v_end, v_any, v_all, v_sum, v_obj, v_attr, v_scount, v_listS, v_lrng, v_popAt, v_pop0, v_extL, v_sumT, N.g_SWAPPED, t]
      refine ite_by (fun q2 => ?_) (fun q2 => ?_)
      · have q2 : w.take n = tn fsw (w.take n) := by simpa using q2
        have k : kindM w n = some 115 := by unfold kindM; rw [if_neg q, if_pos q2]
        rw [k] at hs
        simp (disch := (first | assumption | omega | (simp only [List.length_append, List.length_cons, List.length_nil, List.length_take, List.length_drop, List.length_reverse, List.length_map, List.length_range, List.length_dropLast, List.length_replicate, List.length_set]; omega))) only [d_nil, d_cons, d_frz, d_kil, d_ret, d_set, d_own, d_par2, d_par3, d_unp, d_parn, d_pars, sn_nil, sn_cons, st_nil, st_nm, st_sub, d_seti, d_aug, d_augi, d_app, d_pop, d_expr, d_reto, d_rett, d_ifs, d_brk, d_doc, d_for, d_whl, d_popan, d_popas, d_popif, d_ext, e_con, e_var, e_bor, e_glo, e_bin, e_cmp, e_cmp2, e_neg, e_not, e_and, e_or, e_ifx, e_tup, e_lst, e_dic0, e_idx, e_cut, o_nop, o_some, e_rev, e_bi, e_me, e_call, e_draw, e_comp, es_nil, es_cons, r_seq, r_rng1, r_rng2, r_enum, r_zip, e_attr, e_mcall, e_twr, e_lrng, r_rngd, dw_ok, dw_err, kk_next, kk_ret, kk_brk, ite_t, ite_f, tn_next, tn_brk, tn_ret, Res.ofO_some, Res.ofO_none, Res.ok_bind, Res.pure_eq, Option.map_some, Option.map_none, Option.bind_some, bd_nm, bd_tp, bds_nil, bds_cons, slotsT, slotsTs, wipeS, isNop, if_true, Bool.false_eq_true, if_false, anyRaw, isRaw, Bool.or_false, Bool.false_or, Bool.false_and, Bool.true_and, Bool.and_true, Bool.and_false, Bool.or_true, Bool.true_or, Bool.not_true, Bool.not_false, decide_true, decide_false, meOk_s, meOk_l, meL, startS, List.map_cons, List.map_nil, List.cons_append, List.nil_append, List.replicate_succ, List.replicate_zero, Nat.reduceSub, Nat.reduceAdd, Nat.reduceMul, Nat.reduceDiv, Nat.reduceMod, Nat.reduceLT, Nat.reduceLeDiff, Nat.reduceBEq, Int.reduceToNat, Int.reduceNeg, Int.reduceLT, Int.reduceLE, Nat.not_lt_zero, true_and, and_true, implies_true, imp_self, List.getElem?_cons_zero, List.getElem?_cons_succ, lim_ok, rngL_len, List.length_map, List.length_cons, List.length_nil, Nat.zero_add, Nat.lt_irrefl, Nat.le_refl, beq_self_eq_true, bne_self_eq_false, gs0, gs1, gs2, gs3, gs4, gs5, gs6, gs7, gs8, gs9, gs10, gs11, gs12, gs13, gs14, gs15, gs16, ss0, ss1, ss2, ss3, ss4, ss5, ss6, ss7, ss8, ss9, ss10, ss11, ss12, ss13, ss14, ss15, ss16, shr_shr, shr_val, own_val, own_own, mkOwn_lst, mkOwn_dic, mkS_f, mkS_l, mkS_d, frz_own, frz_shr, lst_ok, row_ok, end_ret, end_next, rawV_f, rawV_s, rawV_i, rawV_b, rawV_n, v_addNL, v_addLN, v_addN, v_subNL, v_subN, v_mul2N, v_mulN, v_mulS, v_div2N, v_mod2N, v_addS, v_addL, v_addT, v_idxTl, v_iaddNL, v_iaddN, v_isubNL, v_isubN, v_eqS, v_neS, v_eqSN, v_isN, v_isS, v_isI, v_isL, v_isnN, v_isnS, v_isnI, v_isB, v_isnB, v_inS, v_ninS, v_inDS, v_ninDS, v_inDI, v_tBl, v_tNon, v_idxDS, v_idxDI, v_idxS, v_idxL, v_idxT, v_idxL0, v_idxT0, v_idxT1, v_idxS0, v_idxLl, v_lenS, v_lenL, v_lenT, v_lenD, v_revS, v_revL, v_tuple, v_listT, v_listL, v_intI, v_min2N, v_max2N, v_max20, v_itS, v_itL, v_itT, v_asI, v_neg, v_rng1, v_rng21, v_rng2, v_drw, v_app, v_setL, v_setDS, v_cutP, v_cutD, v_cutS, v_cutPL, v_cutPT, v_cutDT, v_cutS1, v_cutM1, v_eqI, v_neI, v_lt, v_le, v_gt, v_ge, beq_natCast, cst_eqL, cst_ltL, cst_leL, cst_gtL, cst_geL, cst_lt, cst_le, v_drwI, v_joinS, v_joinC, v_pre, v_end, v_any, v_all, v_sum, v_obj, v_attr, v_scount, v_listS, v_lrng, v_popAt, v_pop0, v_extL, v_sumT]
        rw [hs, List.map_append]
        exact ⟨_, rfl⟩
      · have q2 : ¬ w.take n = tn fsw (w.take n) := by simpa using q2
        have k : kindM w n = none := by unfold kindM; rw [if_neg q, if_neg q2]
        rw [k] at hs
        simp (disch := (first | assumption | omega | (simp only [List.length_append, List.length_cons, List.length_nil, List.length_take, List.length_drop, List.length_reverse, List.length_map, List.length_range, List.length_dropLast, List.length_replicate, List.length_set]; omega))) only [d_nil, d_cons, d_frz, d_kil, d_ret, d_set, d_own, d_par2, d_par3, d_unp, d_parn, d_pars, sn_nil, sn_cons, st_nil, st_nm, st_sub, d_seti, d_aug, d_augi, d_app, d_pop, d_expr, d_reto, d_rett, d_ifs, d_brk, d_doc, d_for, d_whl, d_popan, d_popas, d_popif, d_ext, e_con, e_var, e_bor, e_glo, e_bin, e_cmp, e_cmp2, e_neg, e_not, e_and, e_or, e_ifx, e_tup, e_lst, e_dic0, e_idx, e_cut, o_nop, o_some, e_rev, e_bi, e_me, e_call, e_draw, e_comp, es_nil, es_cons, r_seq, r_rng1, r_rng2, r_enum, r_zip, e_attr, e_mcall, e_twr, e_lrng, r_rngd, dw_ok, dw_err, kk_next, kk_ret, kk_brk, ite_t, ite_f, tn_next, tn_brk, tn_ret, Res.ofO_some, Res.ofO_none, Res.ok_bind, Res.pure_eq, Option.map_some, Option.map_none, Option.bind_some, bd_nm, bd_tp, bds_nil, bds_cons, slotsT, slotsTs, wipeS, isNop, if_true, Bool.false_eq_true, if_false, anyRaw, isRaw, Bool.or_false, Bool.false_or, Bool.false_and, Bool.true_and, Bool.and_true, Bool.and_false, Bool.or_true, Bool.true_or, Bool.not_true, Bool.not_false, decide_true, decide_false, meOk_s, meOk_l, meL, startS, List.map_cons, List.map_nil, List.cons_append, List.nil_append, List.replicate_succ, List.replicate_zero, Nat.reduceSub, Nat.reduceAdd, Nat.reduceMul, Nat.reduceDiv, Nat.reduceMod, Nat.reduceLT, Nat.reduceLeDiff, Nat.reduceBEq, Int.reduceToNat, Int.reduceNeg, Int.reduceLT, Int.reduceLE, Nat.not_lt_zero, true_and, and_true, implies_true, imp_self, List.getElem?_cons_zero, List.getElem?_cons_succ, lim_ok, rngL_len, List.length_map, List.length_cons, List.length_nil, Nat.zero_add, Nat.lt_irrefl, Nat.le_refl, beq_self_eq_true, bne_self_eq_false, gs0, gs1, gs2, gs3, gs4, gs5, gs6, gs7, gs8, gs9, gs10, gs11, gs12, gs13, gs14, gs15, gs16, ss0, ss1, ss2, ss3, ss4, ss5, ss6, ss7, ss8, ss9, ss10, ss11, ss12, ss13, ss14, ss15, ss16, shr_shr, shr_val, own_val, own_own, mkOwn_lst, mkOwn_dic, mkS_f, mkS_l, mkS_d, frz_own, frz_shr, lst_ok, row_ok, end_ret, end_next, rawV_f, rawV_s, rawV_i, rawV_b, rawV_n, v_addNL, v_addLN, v_addN, v_subNL, v_subN, v_mul2N, v_mulN, v_mulS, v_div2N, v_mod2N, v_addS, v_addL, v_addT, v_idxTl, v_iaddNL, v_iaddN, v_isubNL, v_isubN, v_eqS, v_neS, v_eqSN, v_isN, v_isS, v_isI, v_isL, v_isnN, v_isnS, v_isnI, v_isB, v_isnB, v_inS, v_ninS, v_inDS, v_ninDS, v_inDI, v_tBl, v_tNon, v_idxDS, v_idxDI, v_idxS, v_idxL, v_idxT, v_idxL0, v_idxT0, v_idxT1, v_idxS0, v_idxLl, v_lenS, v_lenL, v_lenT, v_lenD, v_revS, v_revL, v_tuple, v_listT, v_listL, v_intI, v_min2N, v_max2N, v_max20, v_itS, v_itL, v_itT, v_asI, v_neg, v_rng1, v_rng21, v_rng2, v_drw, v_app, v_setL, v_setDS, v_cutP, v_cutD, v_cutS, v_cutPL, v_cutPT, v_cutDT, v_cutS1, v_cutM1, v_eqI, v_neI, v_lt, v_le, v_gt, v_ge, beq_natCast, cst_eqL, cst_ltL, cst_leL, cst_gtL, cst_geL, cst_lt, cst_le, v_drwI, v_joinS, v_joinC, v_pre, v_end, v_any, v_all, v_sum, v_obj, v_attr, v_scount, v_listS, v_lrng, v_popAt, v_pop0, v_extL, v_sumT]
        rw [hs, List.append_nil]
        exact ⟨_, rfl⟩
  · rintro s ⟨_, x, rfl⟩
    rw [show 1 + w.length - 1 = w.length by omega]
    simp (disch := (first | assumption | omega | (simp only [List.length_append, List.length_cons, List.length_nil, List.length_take, List.length_drop, List.length_reverse, List.length_map, List.length_range, List.length_dropLast, List.length_replicate, List.length_set]; omega))) only [d_nil, d_cons, d_frz, d_kil, d_ret, d_set, d_own, d_par2, d_par3, d_unp, d_parn, d_pars, sn_nil, sn_cons, st_nil, st_nm, st_sub, d_seti, d_aug, d_augi, d_app, d_pop, d_expr, d_reto, d_rett, d_ifs, d_brk, d_doc, d_for, d_whl, d_popan, d_popas, d_popif, d_ext, e_con, e_var, e_bor, e_glo, e_bin, e_cmp, e_cmp2, e_neg, e_not, e_and, e_or, e_ifx, e_tup, e_lst, e_dic0, e_idx, e_cut, o_nop, o_some, e_rev, e_bi, e_me, e_call, e_draw, e_comp, es_nil, es_cons, r_seq, r_rng1, r_rng2, r_enum, r_zip, e_attr, e_mcall, e_twr, e_lrng, r_rngd, dw_ok, dw_err, kk_next, kk_ret, kk_brk, ite_t, ite_f, tn_next, tn_brk, tn_ret, Res.ofO_some, Res.ofO_none, Res.ok_bind, Res.pure_eq, Option.map_some, Option.map_none, Option.bind_some, bd_nm, bd_tp, bds_nil, bds_cons, slotsT, slotsTs, wipeS, isNop, if_true, Bool.false_eq_true, if_false, anyRaw, isRaw, Bool.or_false, Bool.false_or, Bool.false_and, Bool.true_and, Bool.and_true, Bool.and_false, Bool.or_true, Bool.true_or, Bool.not_true, Bool.not_false, decide_true, decide_false, meOk_s, meOk_l, meL, startS, List.map_cons, List.map_nil, List.cons_append, List.nil_append, List.replicate_succ, List.replicate_zero, Nat.reduceSub, Nat.reduceAdd, Nat.reduceMul, Nat.reduceDiv, Nat.reduceMod, Nat.reduceLT, Nat.reduceLeDiff, Nat.reduceBEq, Int.reduceToNat, Int.reduceNeg, Int.reduceLT, Int.reduceLE, Nat.not_lt_zero, true_and, and_true, implies_true, imp_self, List.getElem?_cons_zero, List.getElem?_cons_succ, lim_ok, rngL_len, List.length_map, List.length_cons, List.length_nil, Nat.zero_add, Nat.lt_irrefl, Nat.le_refl, beq_self_eq_true, bne_self_eq_false, gs0, gs1, gs2, gs3, gs4, gs5, gs6, gs7, gs8, gs9, gs10, gs11, gs12, gs13, gs14, gs15, gs16, ss0, ss1, ss2, ss3, ss4, ss5, ss6, ss7, ss8, ss9, ss10, ss11, ss12, ss13, ss14, ss15, ss16, shr_shr, shr_val, own_val, own_own, mkOwn_lst, mkOwn_dic, mkS_f, mkS_l, mkS_d, frz_own, frz_shr, lst_ok, row_ok, end_ret, end_next, rawV_f, rawV_s, rawV_i, rawV_b, rawV_n, v_addNL, v_addLN, v_addN, v_subNL, v_subN, v_mul2N, v_mulN, v_mulS, v_div2N, v_mod2N, v_addS, v_addL, v_addT, v_idxTl, v_iaddNL, v_iaddN, v_isubNL, v_isubN, v_eqS, v_neS, v_eqSN, v_isN, v_isS, v_isI, v_isL, v_isnN, v_isnS, v_isnI, v_isB, v_isnB, v_inS, v_ninS, v_inDS, v_ninDS, v_inDI, v_tBl, v_tNon, v_idxDS, v_idxDI, v_idxS, v_idxL, v_idxT, v_idxL0, v_idxT0, v_idxT1, v_idxS0, v_idxLl, v_lenS, v_lenL, v_lenT, v_lenD, v_revS, v_revL, v_tuple, v_listT, v_listL, v_intI, v_min2N, v_max2N, v_max20, v_itS, v_itL, v_itT, v_asI, v_neg, v_rng1, v_rng21, v_rng2, v_drw, v_app, v_setL, v_setDS, v_cutP, v_cutD, v_cutS, v_cutPL, v_cutPT, v_cutDT, v_cutS1, v_cutM1, v_eqI, v_neI, v_lt, v_le, v_gt, v_ge, beq_natCast, cst_eqL, cst_ltL, cst_leL, cst_gtL, cst_geL, cst_lt, cst_le, v_drwI, v_joinS, v_joinC, v_pre, v_end, v_any, v_all, v_sum, v_obj, v_attr, v_scount, v_listS, v_lrng, v_popAt, v_pop0, v_extL, v_sumT]
theorem c_begun (N : N_begun fns gl) {w : W} (hw : Let w) (hl : w.length ≤ 2000) : callF fns gl (l + 4) 136 [.str w] = .ok (.tup ((toldM w w.length).map tupNS)) := by
  refine call_eq N.self rfl ?_
  simp (disch := (first | assumption | omega | (simp only [List.length_append, List.length_cons, List.length_nil, List.length_take, List.length_drop, List.length_reverse, List.length_map, List.length_range, List.length_dropLast, List.length_replicate, List.length_set]; omega))) only [d_nil, d_cons, d_frz, d_kil, d_ret, d_set, d_own, d_par2, d_par3, d_unp, d_parn, d_pars, sn_nil, sn_cons, st_nil, st_nm, st_sub, d_seti, d_aug, d_augi, d_app, d_pop, d_expr, d_reto, d_rett, d_ifs, d_brk, d_doc, d_for, d_whl, d_popan, d_popas, d_popif, d_ext, e_con, e_var, e_bor, e_glo, e_bin, e_cmp, e_cmp2, e_neg, e_not, e_and, e_or, e_ifx, e_tup, e_lst, e_dic0, e_idx, e_cut, o_nop, o_some, e_rev, e_bi, e_me, e_call, e_draw, e_comp, es_nil, es_cons, r_seq, r_rng1, r_rng2, r_enum, r_zip, e_attr, e_mcall, e_twr, e_lrng, r_rngd, dw_ok, dw_err, kk_next, kk_ret, kk_brk, ite_t, ite_f, tn_next, tn_brk, tn_ret, Res.ofO_some, Res.ofO_none, Res.ok_bind, Res.pure_eq, Option.map_some, Option.map_none, Option.bind_some, bd_nm, bd_tp, bds_nil, bds_cons, slotsT, slotsTs, wipeS, isNop, if_true, Bool.false_eq_true, if_false, anyRaw, isRaw, Bool.or_false, Bool.false_or, Bool.false_and, Bool.true_and, Bool.and_true, Bool.and_false, Bool.or_true, Bool.true_or, Bool.not_true, Bool.not_false, decide_true, decide_false, meOk_s, meOk_l, meL, startS, List.map_cons, List.map_nil, List.cons_append, List.nil_append, List.replicate_succ, List.replicate_zero, Nat.reduceSub, Nat.reduceAdd, Nat.reduceMul, Nat.reduceDiv, Nat.reduceMod, Nat.reduceLT, Nat.reduceLeDiff, Nat.reduceBEq, Int.reduceToNat, Int.reduceNeg, Int.reduceLT, Int.reduceLE, Nat.not_lt_zero, true_and, and_true, implies_true, imp_self, List.getElem?_cons_zero, List.getElem?_cons_succ, lim_ok, rngL_len, List.length_map, List.length_cons, List.length_nil, Nat.zero_add, Nat.lt_irrefl, Nat.le_refl, beq_self_eq_true, bne_self_eq_false, gs0, gs1, gs2, gs3, gs4, gs5, gs6, gs7, gs8, gs9, gs10, gs11, gs12, gs13, gs14, gs15, gs16, ss0, ss1, ss2, ss3, ss4, ss5, ss6, ss7, ss8, ss9, ss10, ss11, ss12, ss13, ss14, ss15, ss16, shr_shr, shr_val, own_val, own_own, mkOwn_lst, mkOwn_dic, mkS_f, mkS_l, mkS_d, frz_own, frz_shr, lst_ok, row_ok, end_ret, end_next, rawV_f, rawV_s, rawV_i, rawV_b, rawV_n, v_addNL, v_addLN, v_addN, v_subNL, v_subN, v_mul2N, v_mulN, v_mulS, v_div2N, v_mod2N, v_addS, v_addL, v_addT, v_idxTl, v_iaddNL, v_iaddN, v_isubNL, v_isubN, v_eqS, v_neS, v_eqSN, v_isN, v_isS, v_isI, v_isL, v_isnN, v_isnS, v_isnI, v_isB, v_isnB, v_inS, v_ninS, v_inDS, v_ninDS, v_inDI, v_tBl, v_tNon, v_idxDS, v_idxDI, v_idxS, v_idxL, v_idxT, v_idxL0, v_idxT0, v_idxT1, v_idxS0, v_idxLl, v_lenS, v_lenL, v_lenT, v_lenD, v_revS, v_revL, v_tuple, v_listT, v_listL, v_intI, v_min2N, v_max2N, v_max20, v_itS, v_itL, v_itT, v_asI, v_neg, v_rng1, v_rng21, v_rng2, v_drw, v_app, v_setL, v_setDS, v_cutP, v_cutD, v_cutS, v_cutPL, v_cutPT, v_cutDT, v_cutS1, v_cutM1, v_eqI, v_neI, v_lt, v_le, v_gt, v_ge, beq_natCast, cst_eqL, cst_ltL, cst_leL, cst_gtL, cst_geL, cst_lt, cst_le, v_drwI, v_joinS, v_joinC, v_pre, v_end, v_any, v_all, v_sum, v_obj, v_attr, v_scount, v_listS, v_lrng, v_popAt, v_pop0, v_extL, v_sumT, f_begun, c_need_word N.n_need_word hw hl, c_begun_of N.n_begun_of hw (show w.length ≤ 4000000 by omega)]
theorem c_need_pair (N : N_need_pair fns gl) {p g : W} (hp : LetM 2 p) (hl : p.length ≤ 80) (hg : ∀ s, s ∈ g → s = 112 ∨ s = 115) (hgl : g.length = p.length) : callF fns gl (l + 3) 138 [.str p, .str g] = .ok .non := by
  refine call_eq N.self rfl ?_
  have nP := c_need_plan (l := l) N.n_need_plan (hp.let (by omega)) hl
  simp (disch := (first | assumption | omega | (simp only [List.length_append, List.length_cons, List.length_nil, List.length_take, List.length_drop, List.length_reverse, List.length_map, List.length_range, List.length_dropLast, List.length_replicate, List.length_set]; omega))) only [d_nil, d_cons, d_frz, d_kil, d_ret, d_set, d_own, d_par2, d_par3, d_unp, d_parn, d_pars, sn_nil, sn_cons, st_nil, st_nm, st_sub, d_seti, d_aug, d_augi, d_app, d_pop, d_expr, d_reto, d_rett, d_ifs, d_brk, d_doc, d_for, d_whl, d_popan, d_popas, d_popif, d_ext, e_con, e_var, e_bor, e_glo, e_bin, e_cmp, e_cmp2, e_neg, e_not, e_and, e_or, e_ifx, e_tup, e_lst, e_dic0, e_idx, e_cut, o_nop, o_some, e_rev, e_bi, e_me, e_call, e_draw, e_comp, es_nil, es_cons, r_seq, r_rng1, r_rng2, r_enum, r_zip, e_attr, e_mcall, e_twr, e_lrng, r_rngd, dw_ok, dw_err, kk_next, kk_ret, kk_brk, ite_t, ite_f, tn_next, tn_brk, tn_ret, Res.ofO_some, Res.ofO_none, Res.ok_bind, Res.pure_eq, Option.map_some, Option.map_none, Option.bind_some, bd_nm, bd_tp, bds_nil, bds_cons, slotsT, slotsTs, wipeS, isNop, if_true, Bool.false_eq_true, if_false, anyRaw, isRaw, Bool.or_false, Bool.false_or, Bool.false_and, Bool.true_and, Bool.and_true, Bool.and_false, Bool.or_true, Bool.true_or, Bool.not_true, Bool.not_false, decide_true, decide_false, meOk_s, meOk_l, meL, startS, List.map_cons, List.map_nil, List.cons_append, List.nil_append, List.replicate_succ, List.replicate_zero, Nat.reduceSub, Nat.reduceAdd, Nat.reduceMul, Nat.reduceDiv, Nat.reduceMod, Nat.reduceLT, Nat.reduceLeDiff, Nat.reduceBEq, Int.reduceToNat, Int.reduceNeg, Int.reduceLT, Int.reduceLE, Nat.not_lt_zero, true_and, and_true, implies_true, imp_self, List.getElem?_cons_zero, List.getElem?_cons_succ, lim_ok, rngL_len, List.length_map, List.length_cons, List.length_nil, Nat.zero_add, Nat.lt_irrefl, Nat.le_refl, beq_self_eq_true, bne_self_eq_false, gs0, gs1, gs2, gs3, gs4, gs5, gs6, gs7, gs8, gs9, gs10, gs11, gs12, gs13, gs14, gs15, gs16, ss0, ss1, ss2, ss3, ss4, ss5, ss6, ss7, ss8, ss9, ss10, ss11, ss12, ss13, ss14, ss15, ss16, shr_shr, shr_val, own_val, own_own, mkOwn_lst, mkOwn_dic, mkS_f, mkS_l, mkS_d, frz_own, frz_shr, lst_ok, row_ok, end_ret, end_next, rawV_f, rawV_s, rawV_i, rawV_b, rawV_n, v_addNL, v_addLN, v_addN, v_subNL, v_subN, v_mul2N, v_mulN, v_mulS, v_div2N, v_mod2N, v_addS, v_addL, v_addT, v_idxTl, v_iaddNL, v_iaddN, v_isubNL, v_isubN, v_eqS, v_neS, v_eqSN, v_isN, v_isS, v_isI, v_isL, v_isnN, v_isnS, v_isnI, v_isB, v_isnB, v_inS, v_ninS, v_inDS, v_ninDS, v_inDI, v_tBl, v_tNon, v_idxDS, v_idxDI, v_idxS, v_idxL, v_idxT, v_idxL0, v_idxT0, v_idxT1, v_idxS0, v_idxLl, v_lenS, v_lenL, v_lenT, v_lenD, v_revS, v_revL, v_tuple, v_listT, v_listL, v_intI, v_min2N, v_max2N, v_max20, v_itS, v_itL, v_itT, v_asI, v_neg, v_rng1, v_rng21, v_rng2, v_drw, v_app, v_setL, v_setDS, v_cutP, v_cutD, v_cutS, v_cutPL, v_cutPT, v_cutDT, v_cutS1, v_cutM1, v_eqI, v_neI, v_lt, v_le, v_gt, v_ge, beq_natCast, cst_eqL, cst_ltL, cst_leL, cst_gtL, cst_geL, cst_lt, cst_le, v_drwI, v_joinS, v_joinC, v_pre, v_end, v_any, v_all, v_sum, v_obj, v_attr, v_scount, v_listS, v_lrng, v_popAt, v_pop0, v_extL, v_sumT, f_need_pair, nP]
  refine for_enum (fun c : Nat => PV.str [c]) (fun _ s => ∃ x y : Slt, s = [.shr (.str p), .shr (.str g), x, y, .no]) p _ ⟨.no, .no, rfl⟩ ?_ ?_
  · rintro d c todo s e ⟨x, y, rfl⟩
    have hc := hp c (by rw [e]; simp)
    have hs : isSub [c] [97, 98] = true := by
      have : c = 97 ∨ c = 98 := by omega
      rcases this with rfl | rfl <;> rfl
    simp (disch := (first | assumption | omega | (simp only [List.length_append, List.length_cons, List.length_nil, List.length_take, List.length_drop, List.length_reverse, List.length_map, List.length_range, List.length_dropLast, List.length_replicate, List.length_set]; omega))) only [d_nil, d_cons, d_frz, d_kil, d_ret, d_set, d_own, d_par2, d_par3, d_unp, d_parn, d_pars, sn_nil, sn_cons, st_nil, st_nm, st_sub, d_seti, d_aug, d_augi, d_app, d_pop, d_expr, d_reto, d_rett, d_ifs, d_brk, d_doc, d_for, d_whl, d_popan, d_popas, d_popif, d_ext, e_con, e_var, e_bor, e_glo, e_bin, e_cmp, e_cmp2, e_neg, e_not, e_and, e_or, e_ifx, e_tup, e_lst, e_dic0, e_idx, e_cut, o_nop, o_some, e_rev, e_bi, e_me, e_call, e_draw, e_comp, es_nil, es_cons, r_seq, r_rng1, r_rng2, r_enum, r_zip, e_attr, e_mcall, e_twr, e_lrng, r_rngd, dw_ok, dw_err, kk_next, kk_ret, kk_brk, ite_t, ite_f, tn_next, tn_brk, tn_ret, Res.ofO_some, Res.ofO_none, Res.ok_bind, Res.pure_eq, Option.map_some, Option.map_none, Option.bind_some, bd_nm, bd_tp, bds_nil, bds_cons, slotsT, slotsTs, wipeS, isNop, if_true, Bool.false_eq_true, if_false, anyRaw, isRaw, Bool.or_false, Bool.false_or, Bool.false_and, Bool.true_and, Bool.and_true, Bool.and_false, Bool.or_true, Bool.true_or, Bool.not_true, Bool.not_false, decide_true, decide_false, meOk_s, meOk_l, meL, startS, List.map_cons, List.map_nil, List.cons_append, List.nil_append, List.replicate_succ, List.replicate_zero, Nat.reduceSub, Nat.reduceAdd, Nat.reduceMul, Nat.reduceDiv, Nat.reduceMod, Nat.reduceLT, Nat.reduceLeDiff, Nat.reduceBEq, Int.reduceToNat, Int.reduceNeg, Int.reduceLT, Int.reduceLE, Nat.not_lt_zero, true_and, and_true, implies_true, imp_self, List.getElem?_cons_zero, List.getElem?_cons_succ, lim_ok, rngL_len, List.length_map, List.length_cons, List.length_nil, Nat.zero_add, Nat.lt_irrefl, Nat.le_refl, beq_self_eq_true, bne_self_eq_false, gs0, gs1, gs2, gs3, gs4, gs5, gs6, gs7, gs8, gs9, gs10, gs11, gs12, gs13, gs14, gs15, gs16, ss0, ss1, ss2, ss3, ss4, ss5, ss6, ss7, ss8, ss9, ss10, ss11, ss12, ss13, ss14, ss15, ss16, shr_shr, shr_val, own_val, own_own, mkOwn_lst, mkOwn_dic, mkS_f, mkS_l, mkS_d, frz_own, frz_shr, lst_ok, row_ok, end_ret, end_next, rawV_f, rawV_s, rawV_i, rawV_b, rawV_n, v_addNL, v_addLN, v_addN, v_subNL, v_subN, v_mul2N, v_mulN, v_mulS, v_div2N, v_mod2N, v_addS, v_addL, v_addT, v_idxTl, v_iaddNL, v_iaddN, v_isubNL, v_isubN, v_eqS, v_neS, v_eqSN, v_isN, v_isS, v_isI, v_isL, v_isnN, v_isnS, v_isnI, v_isB, v_isnB, v_inS, v_ninS, v_inDS, v_ninDS, v_inDI, v_tBl, v_tNon, v_idxDS, v_idxDI, v_idxS, v_idxL, v_idxT, v_idxL0, v_idxT0, v_idxT1, v_idxS0, v_idxLl, v_lenS, v_lenL, v_lenT, v_lenD, v_revS, v_revL, v_tuple, v_listT, v_listL, v_intI, v_min2N, v_max2N, v_max20, v_itS, v_itL, v_itT, v_asI, v_neg, v_rng1, v_rng21, v_rng2, v_drw, v_app, v_setL, v_setDS, v_cutP, v_cutD, v_cutS, v_cutPL, v_cutPT, v_cutDT, v_cutS1, v_cutM1, v_eqI, v_neI, v_lt, v_le, v_gt, v_ge, beq_natCast, cst_eqL, cst_ltL, cst_leL, cst_gtL, cst_geL, cst_lt, cst_le, v_drwI, v_joinS, v_joinC, v_pre, v_end, v_any, v_all, v_sum, v_obj, v_attr, v_scount, v_listS, v_lrng, v_popAt, v_pop0, v_extL, v_sumT, f_need_pair_b1, hs]
    exact ⟨_, _, rfl⟩
  · rintro s ⟨x, y, rfl⟩
    simp (disch := (first | assumption | omega | (simp only [List.length_append, List.length_cons, List.length_nil, List.length_take, List.length_drop, List.length_reverse, List.length_map, List.length_range, List.length_dropLast, List.length_replicate, List.length_set]; omega))) only [d_nil, d_cons, d_frz, d_kil, d_ret, d_set, d_own, d_par2, d_par3, d_unp, d_parn, d_pars, sn_nil, sn_cons, st_nil, st_nm, st_sub, d_seti, d_aug, d_augi, d_app, d_pop, d_expr, d_reto, d_rett, d_ifs, d_brk, d_doc, d_for, d_whl, d_popan, d_popas, d_popif, d_ext, e_con, e_var, e_bor, e_glo, e_bin, e_cmp, e_cmp2, e_neg, e_not, e_and, e_or, e_ifx, e_tup, e_lst, e_dic0, e_idx, e_cut, o_nop, o_some, e_rev, e_bi, e_me, e_call, e_draw, e_comp, es_nil, es_cons, r_seq, r_rng1, r_rng2, r_enum, r_zip, e_attr, e_mcall, e_twr, e_lrng, r_rngd, dw_ok, dw_err, kk_next, kk_ret, kk_brk, ite_t, ite_f, tn_next, tn_brk, tn_ret, Res.ofO_some, Res.ofO_none, Res.ok_bind, Res.pure_eq, Option.map_some, Option.map_none, Option.bind_some, bd_nm, bd_tp, bds_nil, bds_cons, slotsT, slotsTs, wipeS, isNop, if_true, Bool.false_eq_true, if_false, anyRaw, isRaw, Bool.or_false, Bool.false_or, Bool.false_and, Bool.true_and, Bool.and_true, Bool.and_false, Bool.or_true, Bool.true_or, Bool.not_true, Bool.not_false, decide_true, decide_false, meOk_s, meOk_l, meL, startS, List.map_cons, List.map_nil, List.cons_append, List.nil_append, List.replicate_succ, List.replicate_zero, Nat.reduceSub, Nat.reduceAdd, Nat.reduceMul, Nat.reduceDiv, Nat.reduceMod, Nat.reduceLT, Nat.reduceLeDiff, Nat.reduceBEq, Int.reduceToNat, Int.reduceNeg, Int.reduceLT, Int.reduceLE, Nat.not_lt_zero, true_and, and_true, implies_true, imp_self, List.getElem?_cons_zero, List.getElem?_cons_succ, lim_ok, rngL_len, List.length_map, List.length_cons, List.length_nil, Nat.zero_add, Nat.lt_irrefl, Nat.le_refl, beq_self_eq_true, bne_self_eq_false, gs0, gs1, gs2, gs3, gs4, gs5, gs6, gs7, gs8, gs9, gs10, gs11, gs12, gs13, gs14, gs15, gs16, ss0, ss1, ss2, ss3, ss4, ss5, ss6, ss7, ss8, ss9, ss10, ss11, ss12, ss13, ss14, ss15, ss16, shr_shr, shr_val, own_val, own_own, mkOwn_lst, mkOwn_dic, mkS_f, mkS_l, mkS_d, frz_own, frz_shr, lst_ok, row_ok, end_ret, end_next, rawV_f, rawV_s, rawV_i, rawV_b, rawV_n, v_addNL, v_addLN, v_addN, v_subNL, v_subN, v_mul2N, v_mulN, v_mulS, v_div2N, v_mod2N, v_addS, v_addL, v_addT, v_idxTl, v_iaddNL, v_iaddN, v_isubNL, v_isubN, v_eqS, v_neS, v_eqSN, v_isN, v_isS, v_isI, v_isL, v_isnN, v_isnS, v_isnI, v_isB, v_isnB, v_inS, v_ninS, v_inDS, v_ninDS, v_inDI, v_tBl, v_tNon, v_idxDS, v_idxDI, v_idxS, v_idxL, v_idxT, v_idxL0, v_idxT0, v_idxT1, v_idxS0, v_idxLl, v_lenS, v_lenL, v_lenT, v_lenD, v_revS, v_revL, v_tuple, v_listT, v_listL, v_intI, v_min2N, v_max2N, v_max20, v_itS, v_itL, v_itT, v_asI, v_neg, v_rng1, v_rng21, v_rng2, v_drw, v_app, v_setL, v_setDS, v_cutP, v_cutD, v_cutS, v_cutPL, v_cutPT, v_cutDT, v_cutS1, v_cutM1, v_eqI, v_neI, v_lt, v_le, v_gt, v_ge, beq_natCast, cst_eqL, cst_ltL, cst_leL, cst_gtL, cst_geL, cst_lt, cst_le, v_drwI, v_joinS, v_joinC, v_pre, v_end, v_any, v_all, v_sum, v_obj, v_attr, v_scount, v_listS, v_lrng, v_popAt, v_pop0, v_extL, v_sumT, is_str, hgl]
    refine for_enum (fun c : Nat => PV.str [c]) (fun _ s => ∃ x y z : Slt, s = [.shr (.str p), .shr (.str g), x, y, z]) g _ ⟨_, _, .no, rfl⟩ ?_ ?_
    · rintro d c todo s e ⟨x, y, z, rfl⟩
      have hc := hg c (by rw [e]; simp)
      have hs : isSub [c] [112, 115] = true := by
        rcases hc with rfl | rfl <;> rfl
      simp (disch := (first | assumption | omega | (simp only [List.length_append, List.length_cons, List.length_nil, List.length_take, List.length_drop, List.length_reverse, List.length_map, List.length_range, List.length_dropLast, List.length_replicate, List.length_set]; omega))) only [d_nil, d_cons, d_frz, d_kil, d_ret, d_set, d_own, d_par2, d_par3, d_unp, d_parn, d_pars, sn_nil, sn_cons, st_nil, st_nm, st_sub, d_seti, d_aug, d_augi, d_app, d_pop, d_expr, d_reto, d_rett, d_ifs, d_brk, d_doc, d_for, d_whl, d_popan, d_popas, d_popif, d_ext, e_con, e_var, e_bor, e_glo, e_bin, e_cmp, e_cmp2, e_neg, e_not, e_and, e_or, e_ifx, e_tup, e_lst, e_dic0, e_idx, e_cut, o_nop, o_some, e_rev, e_bi, e_me, e_call, e_draw, e_comp, es_nil, es_cons, r_seq, r_rng1, r_rng2, r_enum, r_zip, e_attr, e_mcall, e_twr, e_lrng, r_rngd, dw_ok, dw_err, kk_next, kk_ret, kk_brk, ite_t, ite_f, tn_next, tn_brk, tn_ret, Res.ofO_some, Res.ofO_none, Res.ok_bind, Res.pure_eq, Option.map_some, Option.map_none, Option.bind_some, bd_nm, bd_tp, bds_nil, bds_cons, slotsT, slotsTs, wipeS, isNop, if_true, Bool.false_eq_true, if_false, anyRaw, isRaw, Bool.or_false, Bool.false_or, Bool.false_and, Bool.true_and, Bool.and_true, Bool.and_false, Bool.or_true, Bool.true_or, Bool.not_true, Bool.not_false, decide_true, decide_false, meOk_s, meOk_l, meL, startS, List.map_cons, List.map_nil, List.cons_append, List.nil_append, List.replicate_succ, List.replicate_zero, Nat.reduceSub, Nat.reduceAdd, Nat.reduceMul, Nat.reduceDiv, Nat.reduceMod, Nat.reduceLT, Nat.reduceLeDiff, Nat.reduceBEq, Int.reduceToNat, Int.reduceNeg, Int.reduceLT, Int.reduceLE, Nat.not_lt_zero, true_and, and_true, implies_true, imp_self, List.getElem?_cons_zero, List.getElem?_cons_succ, lim_ok, rngL_len, List.length_map, List.length_cons, List.length_nil, Nat.zero_add, Nat.lt_irrefl, Nat.le_refl, beq_self_eq_true, bne_self_eq_false, gs0, gs1, gs2, gs3, gs4, gs5, gs6, gs7, gs8, gs9, gs10, gs11, gs12, gs13, gs14, gs15, gs16, ss0, ss1, ss2, ss3, ss4, ss5, ss6, ss7, ss8, ss9, ss10, ss11, ss12, ss13, ss14, ss15, ss16, shr_shr, shr_val, own_val, own_own, mkOwn_lst, mkOwn_dic, mkS_f, mkS_l, mkS_d, frz_own, frz_shr, lst_ok, row_ok, end_ret, end_next, rawV_f, rawV_s, rawV_i, rawV_b, rawV_n, v_addNL, v_addLN, v_addN, v_subNL, v_subN, v_mul2N, v_mulN, v_mulS, v_div2N, v_mod2N, v_addS, v_addL, v_addT, v_idxTl, v_iaddNL, v_iaddN, v_isubNL, v_isubN, v_eqS, v_neS, v_eqSN, v_isN, v_isS, v_isI, v_isL, v_isnN, v_isnS, v_isnI, v_isB, v_isnB, v_inS, v_ninS, v_inDS, v_ninDS, v_inDI, v_tBl, v_tNon, v_idxDS, v_idxDI, v_idxS, v_idxL, v_idxT, v_idxL0, v_idxT0, v_idxT1, v_idxS0, v_idxLl, v_lenS, v_lenL, v_lenT, v_lenD, v_revS, v_revL, v_tuple, v_listT, v_listL, v_intI, v_min2N, v_max2N, v_max20, v_itS, v_itL, v_itT, v_asI, v_neg, v_rng1, v_rng21, v_rng2, v_drw, v_app, v_setL, v_setDS, v_cutP, v_cutD, v_cutS, v_cutPL, v_cutPT, v_cutDT, v_cutS1, v_cutM1, v_eqI, v_neI, v_lt, v_le, v_gt, v_ge, beq_natCast, cst_eqL, cst_ltL, cst_leL, cst_gtL, cst_geL, cst_lt, cst_le, v_drwI, v_joinS, v_joinC, v_pre, v_end, v_any, v_all, v_sum, v_obj, v_attr, v_scount, v_listS, v_lrng, v_popAt, v_pop0, v_extL, v_sumT, f_need_pair_b2, hs]
      exact ⟨_, _, _, rfl⟩
    · rintro s ⟨x, y, z, rfl⟩
      simp (disch := (first | assumption | omega | (simp only [List.length_append, List.length_cons, List.length_nil, List.length_take, List.length_drop, List.length_reverse, List.length_map, List.length_range, List.length_dropLast, List.length_replicate, List.length_set]; omega))) only [d_nil, d_cons, d_frz, d_kil, d_ret, d_set, d_own, d_par2, d_par3, d_unp, d_parn, d_pars, sn_nil, sn_cons, st_nil, st_nm, st_sub, d_seti, d_aug, d_augi, d_app, d_pop, d_expr, d_reto, d_rett, d_ifs, d_brk, d_doc, d_for, d_whl, d_popan, d_popas, d_popif, d_ext, e_con, e_var, e_bor, e_glo, e_bin, e_cmp, e_cmp2, e_neg, e_not, e_and, e_or, e_ifx, e_tup, e_lst, e_dic0, e_idx, e_cut, o_nop, o_some, e_rev, e_bi, e_me, e_call, e_draw, e_comp, es_nil, es_cons, r_seq, r_rng1, r_rng2, r_enum, r_zip, e_attr, e_mcall, e_twr, e_lrng, r_rngd, dw_ok, dw_err, kk_next, kk_ret, kk_brk, ite_t, ite_f, tn_next, tn_brk, tn_ret, Res.ofO_some, Res.ofO_none, Res.ok_bind, Res.pure_eq, Option.map_some, Option.map_none, Option.bind_some, bd_nm, bd_tp, bds_nil, bds_cons, slotsT, slotsTs, wipeS, isNop, if_true, Bool.false_eq_true, if_false, anyRaw, isRaw, Bool.or_false, Bool.false_or, Bool.false_and, Bool.true_and, Bool.and_true, Bool.and_false, Bool.or_true, Bool.true_or, Bool.not_true, Bool.not_false, decide_true, decide_false, meOk_s, meOk_l, meL, startS, List.map_cons, List.map_nil, List.cons_append, List.nil_append, List.replicate_succ, List.replicate_zero, Nat.reduceSub, Nat.reduceAdd, Nat.reduceMul, Nat.reduceDiv, Nat.reduceMod, Nat.reduceLT, Nat.reduceLeDiff, Nat.reduceBEq, Int.reduceToNat, Int.reduceNeg, Int.reduceLT, Int.reduceLE, Nat.not_lt_zero, true_and, and_true, implies_true, imp_self, List.getElem?_cons_zero, List.getElem?_cons_succ, lim_ok, rngL_len, List.length_map, List.length_cons, List.length_nil, Nat.zero_add, Nat.lt_irrefl, Nat.le_refl, beq_self_eq_true, bne_self_eq_false, gs0, gs1, gs2, gs3, gs4, gs5, gs6, gs7, gs8, gs9, gs10, gs11, gs12, gs13, gs14, gs15, gs16, ss0, ss1, ss2, ss3, ss4, ss5, ss6, ss7, ss8, ss9, ss10, ss11, ss12, ss13, ss14, ss15, ss16, shr_shr, shr_val, own_val, own_own, mkOwn_lst, mkOwn_dic, mkS_f, mkS_l, mkS_d, frz_own, frz_shr, lst_ok, row_ok, end_ret, end_next, rawV_f, rawV_s, rawV_i, rawV_b, rawV_n, v_addNL, v_addLN, v_addN, v_subNL, v_subN, v_mul2N, v_mulN, v_mulS, v_div2N, v_mod2N, v_addS, v_addL, v_addT, v_idxTl, v_iaddNL, v_iaddN, v_isubNL, v_isubN, v_eqS, v_neS, v_eqSN, v_isN, v_isS, v_isI, v_isL, v_isnN, v_isnS, v_isnI, v_isB, v_isnB, v_inS, v_ninS, v_inDS, v_ninDS, v_inDI, v_tBl, v_tNon, v_idxDS, v_idxDI, v_idxS, v_idxL, v_idxT, v_idxL0, v_idxT0, v_idxT1, v_idxS0, v_idxLl, v_lenS, v_lenL, v_lenT, v_lenD, v_revS, v_revL, v_tuple, v_listT, v_listL, v_intI, v_min2N, v_max2N, v_max20, v_itS, v_itL, v_itT, v_asI, v_neg, v_rng1, v_rng21, v_rng2, v_drw, v_app, v_setL, v_setDS, v_cutP, v_cutD, v_cutS, v_cutPL, v_cutPT, v_cutDT, v_cutS1, v_cutM1, v_eqI, v_neI, v_lt, v_le, v_gt, v_ge, beq_natCast, cst_eqL, cst_ltL, cst_leL, cst_gtL, cst_geL, cst_lt, cst_le, v_drwI, v_joinS, v_joinC, v_pre, v_end, v_any, v_all, v_sum, v_obj, v_attr, v_scount, v_listS, v_lrng, v_popAt, v_pop0, v_extL, v_sumT]
theorem c_swap_closed_of (N : N_swap_closed_of fns gl) {f : Nat → Nat} {w : W} (hw : Let w) (hl : w.length ≤ 4000000) : callF fns gl (l + 4) 127 [.str w, .str (swW f)] = .ok (.str (sc f w)) := by
  refine call_eq N.self rfl ?_
  have r := c_rest_of (l := l) N.n_rest_of (f := f) hw (by omega)
  have t := c_turned (l := l + 1) N.n_turned (f := f) (hw.take (sr f w)) (by simp; omega)
  have hl3 : w.length + (tn f (w.take (sr f w))).length ≤ 16777216 := by rw [tn_len, List.length_take]; omega
  simp (disch := (first | assumption | omega | (simp only [List.length_append, List.length_cons, List.length_nil, List.length_take, List.length_drop, List.length_reverse, List.length_map, List.length_range, List.length_dropLast, List.length_replicate, List.length_set]; omega))) only [d_nil, d_cons, d_frz, d_kil, d_ret, d_set, d_own, d_par2, d_par3, d_unp, d_parn, d_pars, sn_nil, sn_cons, st_nil, st_nm, st_sub, d_seti, d_aug, d_augi, d_app, d_pop, d_expr, d_reto, d_rett, d_ifs, d_brk, d_doc, d_for, d_whl, d_popan, d_popas, d_popif, d_ext, e_con, e_var, e_bor, e_glo, e_bin, e_cmp, e_cmp2, e_neg, e_not, e_and, e_or, e_ifx, e_tup, e_lst, e_dic0, e_idx, e_cut, o_nop, o_some, e_rev, e_bi, e_me, e_call, e_draw, e_comp, es_nil, es_cons, r_seq, r_rng1, r_rng2, r_enum, r_zip, e_attr, e_mcall, e_twr, e_lrng, r_rngd, dw_ok, dw_err, kk_next, kk_ret, kk_brk, ite_t, ite_f, tn_next, tn_brk, tn_ret, Res.ofO_some, Res.ofO_none, Res.ok_bind, Res.pure_eq, Option.map_some, Option.map_none, Option.bind_some, bd_nm, bd_tp, bds_nil, bds_cons, slotsT, slotsTs, wipeS, isNop, if_true, Bool.false_eq_true, if_false, anyRaw, isRaw, Bool.or_false, Bool.false_or, Bool.false_and, Bool.true_and, Bool.and_true, Bool.and_false, Bool.or_true, Bool.true_or, Bool.not_true, Bool.not_false, decide_true, decide_false, meOk_s, meOk_l, meL, startS, List.map_cons, List.map_nil, List.cons_append, List.nil_append, List.replicate_succ, List.replicate_zero, Nat.reduceSub, Nat.reduceAdd, Nat.reduceMul, Nat.reduceDiv, Nat.reduceMod, Nat.reduceLT, Nat.reduceLeDiff, Nat.reduceBEq, Int.reduceToNat, Int.reduceNeg, Int.reduceLT, Int.reduceLE, Nat.not_lt_zero, true_and, and_true, implies_true, imp_self, List.getElem?_cons_zero, List.getElem?_cons_succ, lim_ok, rngL_len, List.length_map, List.length_cons, List.length_nil, Nat.zero_add, Nat.lt_irrefl, Nat.le_refl, beq_self_eq_true, bne_self_eq_false, gs0, gs1, gs2, gs3, gs4, gs5, gs6, gs7, gs8, gs9, gs10, gs11, gs12, gs13, gs14, gs15, gs16, ss0, ss1, ss2, ss3, ss4, ss5, ss6, ss7, ss8, ss9, ss10, ss11, ss12, ss13, ss14, ss15, ss16, shr_shr, shr_val, own_val, own_own, mkOwn_lst, mkOwn_dic, mkS_f, mkS_l, mkS_d, frz_own, frz_shr, lst_ok, row_ok, end_ret, end_next, rawV_f, rawV_s, rawV_i, rawV_b, rawV_n, v_addNL, v_addLN, v_addN, v_subNL, v_subN, v_mul2N, v_mulN, v_mulS, v_div2N, v_mod2N, v_addS, v_addL, v_addT, v_idxTl, v_iaddNL, v_iaddN, v_isubNL, v_isubN, v_eqS, v_neS, v_eqSN, v_isN, v_isS, v_isI, v_isL, v_isnN, v_isnS, v_isnI, v_isB, v_isnB, v_inS, v_ninS, v_inDS, v_ninDS, v_inDI, v_tBl, v_tNon, v_idxDS, v_idxDI, v_idxS, v_idxL, v_idxT, v_idxL0, v_idxT0, v_idxT1, v_idxS0, v_idxLl, v_lenS, v_lenL, v_lenT, v_lenD, v_revS, v_revL, v_tuple, v_listT, v_listL, v_intI, v_min2N, v_max2N, v_max20, v_itS, v_itL, v_itT, v_asI, v_neg, v_rng1, v_rng21, v_rng2, v_drw, v_app, v_setL, v_setDS, v_cutP, v_cutD, v_cutS, v_cutPL, v_cutPT, v_cutDT, v_cutS1, v_cutM1, v_eqI, v_neI, v_lt, v_le, v_gt, v_ge, beq_natCast, cst_eqL, cst_ltL, cst_leL, cst_gtL, cst_geL, cst_lt, cst_le, v_drwI, v_joinS, v_joinC, v_pre, v_end, v_any, v_all, v_sum, v_obj, v_attr, v_scount, v_listS, v_lrng, v_popAt, v_pop0, v_extL, v_sumT, f_swap_closed_of, r]
  simp (disch := (first | assumption | omega | (simp only [List.length_append, List.length_cons, List.length_nil, List.length_take, List.length_drop, List.length_reverse, List.length_map, List.length_range, List.length_dropLast, List.length_replicate, List.length_set]; omega))) only [d_nil, d_cons, d_frz, d_kil, d_ret, d_set, d_own, d_par2, d_par3, d_unp, d_parn, d_pars, sn_nil, sn_cons, st_nil, st_nm, st_sub, d_seti, d_aug, d_augi, d_app, d_pop, d_expr, d_reto, d_rett, d_ifs, d_brk, d_doc, d_for, d_whl, d_popan, d_popas, d_popif, d_ext, e_con, e_var, e_bor, e_glo, e_bin, e_cmp, e_cmp2, e_neg, e_not, e_and, e_or, e_ifx, e_tup, e_lst, e_dic0, e_idx, e_cut, o_nop, o_some, e_rev, e_bi, e_me, e_call, e_draw, e_comp, es_nil, es_cons, r_seq, r_rng1, r_rng2, r_enum, r_zip, e_attr, e_mcall, e_twr, e_lrng, r_rngd, dw_ok, dw_err, kk_next, kk_ret, kk_brk, ite_t, ite_f, tn_next, tn_brk, tn_ret, Res.ofO_some, Res.ofO_none, Res.ok_bind, Res.pure_eq, Option.map_some, Option.map_none, Option.bind_some, bd_nm, bd_tp, bds_nil, bds_cons, slotsT, slotsTs, wipeS, isNop, if_true, Bool.false_eq_true, if_false, anyRaw, isRaw, Bool.or_false, Bool.false_or, Bool.false_and, Bool.true_and, Bool.and_true, Bool.and_false, Bool.or_true, Bool.true_or, Bool.not_true, Bool.not_false, decide_true, decide_false, meOk_s, meOk_l, meL, startS, List.map_cons, List.map_nil, List.cons_append, List.nil_append, List.replicate_succ, List.replicate_zero, Nat.reduceSub, Nat.reduceAdd, Nat.reduceMul, Nat.reduceDiv, Nat.reduceMod, Nat.reduceLT, Nat.reduceLeDiff, Nat.reduceBEq, Int.reduceToNat, Int.reduceNeg, Int.reduceLT, Int.reduceLE, Nat.not_lt_zero, true_and, and_true, implies_true, imp_self, List.getElem?_cons_zero, List.getElem?_cons_succ, lim_ok, rngL_len, List.length_map, List.length_cons, List.length_nil, Nat.zero_add, Nat.lt_irrefl, Nat.le_refl, beq_self_eq_true, bne_self_eq_false, gs0, gs1, gs2, gs3, gs4, gs5, gs6, gs7, gs8, gs9, gs10, gs11, gs12, gs13, gs14, gs15, gs16, ss0, ss1, ss2, ss3, ss4, ss5, ss6, ss7, ss8, ss9, ss10, ss11, ss12, ss13, ss14, ss15, ss16, shr_shr, shr_val, own_val, own_own, mkOwn_lst, mkOwn_dic, mkS_f, mkS_l, mkS_d, frz_own, frz_shr, lst_ok, row_ok, end_ret, end_next, rawV_f, rawV_s, rawV_i, rawV_b, rawV_n, v_addNL, v_addLN, v_addN, v_subNL, v_subN, v_mul2N, v_mulN, v_mulS, v_div2N, v_mod2N, v_addS, v_addL, v_addT, v_idxTl, v_iaddNL, v_iaddN, v_isubNL, v_isubN, v_eqS, v_neS, v_eqSN, v_isN, v_isS, v_isI, v_isL, v_isnN, v_isnS, v_isnI, v_isB, v_isnB, v_inS, v_ninS, v_inDS, v_ninDS, v_inDI, v_tBl, v_tNon, v_idxDS, v_idxDI, v_idxS, v_idxL, v_idxT, v_idxL0, v_idxT0, v_idxT1, v_idxS0, v_idxLl, v_lenS, v_lenL, v_lenT, v_lenD, v_revS, v_revL, v_tuple, v_listT, v_listL, v_intI, v_min2N, v_max2N, v_max20, v_itS, v_itL, v_itT, v_asI, v_neg, v_rng1, v_rng21, v_rng2, v_drw, v_app, v_setL, v_setDS, v_cutP, v_cutD, v_cutS, v_cutPL, v_cutPT, v_cutDT, v_cutS1, v_cutM1, v_eqI, v_neI, v_lt, v_le, v_gt, v_ge, beq_natCast, cst_eqL, cst_ltL, cst_leL, cst_gtL, cst_geL, cst_lt, cst_le, v_drwI, v_joinS, v_joinC, v_pre, v_end, v_any, v_all, v_sum, v_obj, v_attr, v_scount, v_listS, v_lrng, v_popAt, v_pop0, v_extL, v_sumT, t]
  rfl
theorem zip_take_snoc {d todo : List (Nat × Nat)} {x : Nat × Nat} {L : List (Nat × Nat)} (e : L = d ++ x :: todo) : rowB (d ++ [x]) <+: rowB L := by
  subst e
  rw [show d ++ x :: todo = (d ++ [x]) ++ todo by simp]
  generalize d ++ [x] = u
  refine snoc_ind (M := fun v => rowB u <+: rowB (u ++ v)) (by rw [List.append_nil]; exact List.prefix_rfl) (fun v y ih => ?_) todo
  rw [← List.append_assoc, rowB_snoc]
  exact ih.trans ((List.prefix_append _ _).trans (sc_pre _ _))
theorem c_row_of (N : N_row_of fns gl) {p g : W} (hp : Let p) (hb : (rowB (p.zip g)).length ≤ 4000) (hg : ∀ s, s ∈ g → s = 112 ∨ s = 115) : callF fns gl (l + 5) 139 [.str p, .str g] = .ok (.str (rowB (p.zip g))) := by
  refine call_eq N.self rfl ?_
  simp (disch := (first | assumption | omega | (simp only [List.length_append, List.length_cons, List.length_nil, List.length_take, List.length_drop, List.length_reverse, List.length_map, List.length_range, List.length_dropLast, List.length_replicate, List.length_set]; omega))) only [d_nil, d_cons, d_frz, d_kil, d_ret, d_set, d_own, d_par2, d_par3, d_unp, d_parn, d_pars, sn_nil, sn_cons, st_nil, st_nm, st_sub, d_seti, d_aug, d_augi, d_app, d_pop, d_expr, d_reto, d_rett, d_ifs, d_brk, d_doc, d_for, d_whl, d_popan, d_popas, d_popif, d_ext, e_con, e_var, e_bor, e_glo, e_bin, e_cmp, e_cmp2, e_neg, e_not, e_and, e_or, e_ifx, e_tup, e_lst, e_dic0, e_idx, e_cut, o_nop, o_some, e_rev, e_bi, e_me, e_call, e_draw, e_comp, es_nil, es_cons, r_seq, r_rng1, r_rng2, r_enum, r_zip, e_attr, e_mcall, e_twr, e_lrng, r_rngd, dw_ok, dw_err, kk_next, kk_ret, kk_brk, ite_t, ite_f, tn_next, tn_brk, tn_ret, Res.ofO_some, Res.ofO_none, Res.ok_bind, Res.pure_eq, Option.map_some, Option.map_none, Option.bind_some, bd_nm, bd_tp, bds_nil, bds_cons, slotsT, slotsTs, wipeS, isNop, if_true, Bool.false_eq_true, if_false, anyRaw, isRaw, Bool.or_false, Bool.false_or, Bool.false_and, Bool.true_and, Bool.and_true, Bool.and_false, Bool.or_true, Bool.true_or, Bool.not_true, Bool.not_false, decide_true, decide_false, meOk_s, meOk_l, meL, startS, List.map_cons, List.map_nil, List.cons_append, List.nil_append, List.replicate_succ, List.replicate_zero, Nat.reduceSub, Nat.reduceAdd, Nat.reduceMul, Nat.reduceDiv, Nat.reduceMod, Nat.reduceLT, Nat.reduceLeDiff, Nat.reduceBEq, Int.reduceToNat, Int.reduceNeg, Int.reduceLT, Int.reduceLE, Nat.not_lt_zero, true_and, and_true, implies_true, imp_self, List.getElem?_cons_zero, List.getElem?_cons_succ, lim_ok, rngL_len, List.length_map, List.length_cons, List.length_nil, Nat.zero_add, Nat.lt_irrefl, Nat.le_refl, beq_self_eq_true, bne_self_eq_false, gs0, gs1, gs2, gs3, gs4, gs5, gs6, gs7, gs8, gs9, gs10, gs11, gs12, gs13, gs14, gs15, gs16, ss0, ss1, ss2, ss3, ss4, ss5, ss6, ss7, ss8, ss9, ss10, ss11, ss12, ss13, ss14, ss15, ss16, shr_shr, shr_val, own_val, own_own, mkOwn_lst, mkOwn_dic, mkS_f, mkS_l, mkS_d, frz_own, frz_shr, lst_ok, row_ok, end_ret, end_next, rawV_f, rawV_s, rawV_i, rawV_b, rawV_n, v_addNL, v_addLN, v_addN, v_subNL, v_subN, v_mul2N, v_mulN, v_mulS, v_div2N, v_mod2N, v_addS, v_addL, v_addT, v_idxTl, v_iaddNL, v_iaddN, v_isubNL, v_isubN, v_eqS, v_neS, v_eqSN, v_isN, v_isS, v_isI, v_isL, v_isnN, v_isnS, v_isnI, v_isB, v_isnB, v_inS, v_ninS, v_inDS, v_ninDS, v_inDI, v_tBl, v_tNon, v_idxDS, v_idxDI, v_idxS, v_idxL, v_idxT, v_idxL0, v_idxT0, v_idxT1, v_idxS0, v_idxLl, v_lenS, v_lenL, v_lenT, v_lenD, v_revS, v_revL, v_tuple, v_listT, v_listL, v_intI, v_min2N, v_max2N, v_max20, v_itS, v_itL, v_itT, v_asI, v_neg, v_rng1, v_rng21, v_rng2, v_drw, v_app, v_setL, v_setDS, v_cutP, v_cutD, v_cutS, v_cutPL, v_cutPT, v_cutDT, v_cutS1, v_cutM1, v_eqI, v_neI, v_lt, v_le, v_gt, v_ge, beq_natCast, cst_eqL, cst_ltL, cst_leL, cst_gtL, cst_geL, cst_lt, cst_le, v_drwI, v_joinS, v_joinC, v_pre, v_end, v_any, v_all, v_sum, v_obj, v_attr, v_scount, v_listS, v_lrng, v_popAt, v_pop0, v_extL, v_sumT, f_row_of]
  rw [zipL_S]
  try simp (disch := (first | assumption | omega | (simp only [List.length_append, List.length_cons, List.length_nil, List.length_take, List.length_drop, List.length_reverse, List.length_map, List.length_range, List.length_dropLast, List.length_replicate, List.length_set]; omega))) only [d_nil, d_cons, d_frz, d_kil, d_ret, d_set, d_own, d_par2, d_par3, d_unp, d_parn, d_pars, sn_nil, sn_cons, st_nil, st_nm, st_sub, d_seti, d_aug, d_augi, d_app, d_pop, d_expr, d_reto, d_rett, d_ifs, d_brk, d_doc, d_for, d_whl, d_popan, d_popas, d_popif, d_ext, e_con, e_var, e_bor, e_glo, e_bin, e_cmp, e_cmp2, e_neg, e_not, e_and, e_or, e_ifx, e_tup, e_lst, e_dic0, e_idx, e_cut, o_nop, o_some, e_rev, e_bi, e_me, e_call, e_draw, e_comp, es_nil, es_cons, r_seq, r_rng1, r_rng2, r_enum, r_zip, e_attr, e_mcall, e_twr, e_lrng, r_rngd, dw_ok, dw_err, kk_next, kk_ret, kk_brk, ite_t, ite_f, tn_next, tn_brk, tn_ret, Res.ofO_some, Res.ofO_none, Res.ok_bind, Res.pure_eq, Option.map_some, Option.map_none, Option.bind_some, bd_nm, bd_tp, bds_nil, bds_cons, slotsT, slotsTs, wipeS, isNop, if_true, Bool.false_eq_true, if_false, anyRaw, isRaw, Bool.or_false, Bool.false_or, Bool.false_and, Bool.true_and, Bool.and_true, Bool.and_false, Bool.or_true, Bool.true_or, Bool.not_true, Bool.not_false, decide_true, decide_false, meOk_s, meOk_l, meL, startS, List.map_cons, List.map_nil, List.cons_append, List.nil_append, List.replicate_succ, List.replicate_zero, Nat.reduceSub, Nat.reduceAdd, Nat.reduceMul, Nat.reduceDiv, Nat.reduceMod, Nat.reduceLT, Nat.reduceLeDiff, Nat.reduceBEq, Int.reduceToNat, Int.reduceNeg, Int.reduceLT, Int.reduceLE, Nat.not_lt_zero, true_and, and_true, implies_true, imp_self, List.getElem?_cons_zero, List.getElem?_cons_succ, lim_ok, rngL_len, List.length_map, List.length_cons, List.length_nil, Nat.zero_add, Nat.lt_irrefl, Nat.le_refl, beq_self_eq_true, bne_self_eq_false, gs0, gs1, gs2, gs3, gs4, gs5, gs6, gs7, gs8, gs9, gs10, gs11, gs12, gs13, gs14, gs15, gs16, ss0, ss1, ss2, ss3, ss4, ss5, ss6, ss7, ss8, ss9, ss10, ss11, ss12, ss13, ss14, ss15, ss16, shr_shr, shr_val, own_val, own_own, mkOwn_lst, mkOwn_dic, mkS_f, mkS_l, mkS_d, frz_own, frz_shr, lst_ok, row_ok, end_ret, end_next, rawV_f, rawV_s, rawV_i, rawV_b, rawV_n, v_addNL, v_addLN, v_addN, v_subNL, v_subN, v_mul2N, v_mulN, v_mulS, v_div2N, v_mod2N, v_addS, v_addL, v_addT, v_idxTl, v_iaddNL, v_iaddN, v_isubNL, v_isubN, v_eqS, v_neS, v_eqSN, v_isN, v_isS, v_isI, v_isL, v_isnN, v_isnS, v_isnI, v_isB, v_isnB, v_inS, v_ninS, v_inDS, v_ninDS, v_inDI, v_tBl, v_tNon, v_idxDS, v_idxDI, v_idxS, v_idxL, v_idxT, v_idxL0, v_idxT0, v_idxT1, v_idxS0, v_idxLl, v_lenS, v_lenL, v_lenT, v_lenD, v_revS, v_revL, v_tuple, v_listT, v_listL, v_intI, v_min2N, v_max2N, v_max20, v_itS, v_itL, v_itT, v_asI, v_neg, v_rng1, v_rng21, v_rng2, v_drw, v_app, v_setL, v_setDS, v_cutP, v_cutD, v_cutS, v_cutPL, v_cutPT, v_cutDT, v_cutS1, v_cutM1, v_eqI, v_neI, v_lt, v_le, v_gt, v_ge, beq_natCast, cst_eqL, cst_ltL, cst_leL, cst_gtL, cst_geL, cst_lt, cst_le, v_drwI, v_joinS, v_joinC, v_pre, v_end, v_any, v_all, v_sum, v_obj, v_attr, v_scount, v_listS, v_lrng, v_popAt, v_pop0, v_extL, v_sumT]
  refine for_map (fun x : Nat × Nat => PV.tup [.str [x.1], .str [x.2]]) (fun d s => ∃ x y : Slt, s = [.shr (.str p), .shr (.str g), .shr (.str (rowB d)), x, y]) (p.zip g) _ ⟨.no, .no, rfl⟩ ?_ ?_
  · rintro d ⟨c, s'⟩ todo s e ⟨x, y, rfl⟩
    have hm : (c, s') ∈ p.zip g := by rw [e]; simp
    have hc := hp c (List.of_mem_zip hm).1
    have hs := hg s' (List.of_mem_zip hm).2
    have hpre : (sc (kf s') (rowB d ++ [c])).length ≤ (rowB (p.zip g)).length := by
      have h := (zip_take_snoc e).length_le
      rw [rowB_snoc] at h; exact h
    have hpre2 := (sc_pre (kf s') (rowB d ++ [c])).length_le
    rw [List.length_append, List.length_singleton] at hpre2
    have hL : Let (rowB d ++ [c]) := (rowB_let fun y hy => hp y.1 (List.of_mem_zip (by rw [e]; simp [hy] : (y.1, y.2) ∈ p.zip g)).1).append (Let.one hc)
    have cl := c_swap_closed_of (l := l) (f := kf s') N.n_swap_closed_of hL (by simp; omega)
    have hd : decide (4000 < (sc (kf s') (rowB d ++ [c])).length) = false := decide_eq_false (by omega)
    rcases hs with rfl | rfl
    · rw [show swW (kf 112) = [97, 98, 99, 100, 101] from rfl] at cl
      simp (disch := (first | assumption | omega | (simp only [List.length_append, List.length_cons, List.length_nil, List.length_take, List.length_drop, List.length_reverse, List.length_map, List.length_range, List.length_dropLast, List.length_replicate, List.length_set]; omega))) only [d_nil, d_cons, d_frz, d_kil, d_ret, d_set, d_own, d_par2, d_par3, d_unp, d_parn, d_pars, sn_nil, sn_cons, st_nil, st_nm, st_sub, d_seti, d_aug, d_augi, d_app, d_pop, d_expr, d_reto, d_rett, d_ifs, d_brk, d_doc, d_for, d_whl, d_popan, d_popas, d_popif, d_ext, e_con, e_var, e_bor, e_glo, e_bin, e_cmp, e_cmp2, e_neg, e_not, e_and, e_or, e_ifx, e_tup, e_lst, e_dic0, e_idx, e_cut, o_nop, o_some, e_rev, e_bi, e_me, e_call, e_draw, e_comp, es_nil, es_cons, r_seq, r_rng1, r_rng2, r_enum, r_zip, e_attr, e_mcall, e_twr, e_lrng, r_rngd, dw_ok, dw_err, kk_next, kk_ret, kk_brk, ite_t, ite_f, tn_next, tn_brk, tn_ret, Res.ofO_some, Res.ofO_none, Res.ok_bind, Res.pure_eq, Option.map_some, Option.map_none, Option.bind_some, bd_nm, bd_tp, bds_nil, bds_cons, slotsT, slotsTs, wipeS, isNop, if_true, Bool.false_eq_true, if_false, anyRaw, isRaw, Bool.or_false, Bool.false_or, Bool.false_and, Bool.true_and, Bool.and_true, Bool.and_false, Bool.or_true, Bool.true_or, Bool.not_true, Bool.not_false, decide_true, decide_false, meOk_s, meOk_l, meL, startS, List.map_cons, List.map_nil, List.cons_append, List.nil_append, List.replicate_succ, List.replicate_zero, Nat.reduceSub, Nat.reduceAdd, Nat.reduceMul, Nat.reduceDiv, Nat.reduceMod, Nat.reduceLT, Nat.reduceLeDiff, Nat.reduceBEq, Int.reduceToNat, Int.reduceNeg, Int.reduceLT, Int.reduceLE, Nat.not_lt_zero, true_and, and_true, implies_true, imp_self, List.getElem?_cons_zero, List.getElem?_cons_succ, lim_ok, rngL_len, List.length_map, List.length_cons, List.length_nil, Nat.zero_add, Nat.lt_irrefl, Nat.le_refl, beq_self_eq_true, bne_self_eq_false, gs0, gs1, gs2, gs3, gs4, gs5, gs6, gs7, gs8, gs9, gs10, gs11, gs12, gs13, gs14, gs15, gs16, ss0, ss1, ss2, ss3, ss4, ss5, ss6, ss7, ss8, ss9, ss10, ss11, ss12, ss13, ss14, ss15, ss16, shr_shr, shr_val, own_val, own_own, mkOwn_lst, mkOwn_dic, mkS_f, mkS_l, mkS_d, frz_own, frz_shr, lst_ok, row_ok, end_ret, end_next, rawV_f, rawV_s, rawV_i, rawV_b, rawV_n, v_addNL, v_addLN, v_addN, v_subNL, v_subN, v_mul2N, v_mulN, v_mulS, v_div2N, v_mod2N, v_addS, v_addL, v_addT, v_idxTl, v_iaddNL, v_iaddN, v_isubNL, v_isubN, v_eqS, v_neS, v_eqSN, v_isN, v_isS, v_isI, v_isL, v_isnN, v_isnS, v_isnI, v_isB, v_isnB, v_inS, v_ninS, v_inDS, v_ninDS, v_inDI, v_tBl, v_tNon, v_idxDS, v_idxDI, v_idxS, v_idxL, v_idxT, v_idxL0, v_idxT0, v_idxT1, v_idxS0, v_idxLl, v_lenS, v_lenL, v_lenT, v_lenD, v_revS, v_revL, v_tuple, v_listT, v_listL, v_intI, v_min2N, v_max2N, v_max20, v_itS, v_itL, v_itT, v_asI, v_neg, v_rng1, v_rng21, v_rng2, v_drw, v_app, v_setL, v_setDS, v_cutP, v_cutD, v_cutS, v_cutPL, v_cutPT, v_cutDT, v_cutS1, v_cutM1, v_eqI, v_neI, v_lt, v_le, v_gt, v_ge, beq_natCast, cst_eqL, cst_ltL, cst_leL, cst_gtL, cst_geL, cst_lt, cst_le, v_drwI, v_joinS, v_joinC, v_pre, v_end, v_any, v_all, v_sum, v_obj, v_attr, v_scount, v_listS, v_lrng, v_popAt, v_pop0, v_extL, v_sumT, f_row_of_b1, N.g_PLAIN, cl, N.g_MOST_ROW, hd]
      exact ⟨_, _, by rw [rowB_snoc]⟩
    · rw [show swW (kf 115) = [98, 97, 99, 100, 101] from rfl] at cl
      simp (disch := (first | assumption | omega | (simp only [List.length_append, List.length_cons, List.length_nil, List.length_take, List.length_drop, List.length_reverse, List.length_map, List.length_range, List.length_dropLast, List.length_replicate, List.length_set]; omega))) only [d_nil, d_cons, d_frz, d_kil, d_ret, d_set, d_own, d_par2, d_par3, d_unp, d_parn, d_pars, sn_nil, sn_cons, st_nil, st_nm, st_sub, d_seti, d_aug, d_augi, d_app, d_pop, d_expr, d_reto, d_rett, d_ifs, d_brk, d_doc, d_for, d_whl, d_popan, d_popas, d_popif, d_ext, e_con, e_var, e_bor, e_glo, e_bin, e_cmp, e_cmp2, e_neg, e_not, e_and, e_or, e_ifx, e_tup, e_lst, e_dic0, e_idx, e_cut, o_nop, o_some, e_rev, e_bi, e_me, e_call, e_draw, e_comp, es_nil, es_cons, r_seq, r_rng1, r_rng2, r_enum, r_zip, e_attr, e_mcall, e_twr, e_lrng, r_rngd, dw_ok, dw_err, kk_next, kk_ret, kk_brk, ite_t, ite_f, tn_next, tn_brk, tn_ret, Res.ofO_some, Res.ofO_none, Res.ok_bind, Res.pure_eq, Option.map_some, Option.map_none, Option.bind_some, bd_nm, bd_tp, bds_nil, bds_cons, slotsT, slotsTs, wipeS, isNop, if_true, Bool.false_eq_true, if_false, anyRaw, isRaw, Bool.or_false, Bool.false_or, Bool.false_and, Bool.true_and, Bool.and_true, Bool.and_false, Bool.or_true, Bool.true_or, Bool.not_true, Bool.not_false, decide_true, decide_false, meOk_s, meOk_l, meL, startS, List.map_cons, List.map_nil, List.cons_append, List.nil_append, List.replicate_succ, List.replicate_zero, Nat.reduceSub, Nat.reduceAdd, Nat.reduceMul, Nat.reduceDiv, Nat.reduceMod, Nat.reduceLT, Nat.reduceLeDiff, Nat.reduceBEq, Int.reduceToNat, Int.reduceNeg, Int.reduceLT, Int.reduceLE, Nat.not_lt_zero, true_and, and_true, implies_true, imp_self, List.getElem?_cons_zero, List.getElem?_cons_succ, lim_ok, rngL_len, List.length_map, List.length_cons, List.length_nil, Nat.zero_add, Nat.lt_irrefl, Nat.le_refl, beq_self_eq_true, bne_self_eq_false, gs0, gs1, gs2, gs3, gs4, gs5, gs6, gs7, gs8, gs9, gs10, gs11, gs12, gs13, gs14, gs15, gs16, ss0, ss1, ss2, ss3, ss4, ss5, ss6, ss7, ss8, ss9, ss10, ss11, ss12, ss13, ss14, ss15, ss16, shr_shr, shr_val, own_val, own_own, mkOwn_lst, mkOwn_dic, mkS_f, mkS_l, mkS_d, frz_own, frz_shr, lst_ok, row_ok, end_ret, end_next, rawV_f, rawV_s, rawV_i, rawV_b, rawV_n, v_addNL, v_addLN, v_addN, v_subNL, v_subN, v_mul2N, v_mulN, v_mulS, v_div2N, v_mod2N, v_addS, v_addL, v_addT, v_idxTl, v_iaddNL, v_iaddN, v_isubNL, v_isubN, v_eqS, v_neS, v_eqSN, v_isN, v_isS, v_isI, v_isL, v_isnN, v_isnS, v_isnI, v_isB, v_isnB, v_inS, v_ninS, v_inDS, v_ninDS, v_inDI, v_tBl, v_tNon, v_idxDS, v_idxDI, v_idxS, v_idxL, v_idxT, v_idxL0, v_idxT0, v_idxT1, v_idxS0, v_idxLl, v_lenS, v_lenL, v_lenT, v_lenD, v_revS, v_revL, v_tuple, v_listT, v_listL, v_intI, v_min2N, v_max2N, v_max20, v_itS, v_itL, v_itT, v_asI, v_neg, v_rng1, v_rng21, v_rng2, v_drw, v_app, v_setL, v_setDS, v_cutP, v_cutD, v_cutS, v_cutPL, v_cutPT, v_cutDT, v_cutS1, v_cutM1, v_eqI, v_neI, v_lt, v_le, v_gt, v_ge, beq_natCast, cst_eqL, cst_ltL, cst_leL, cst_gtL, cst_geL, cst_lt, cst_le, v_drwI, v_joinS, v_joinC, v_pre, v_end, v_any, v_all, v_sum, v_obj, v_attr, v_scount, v_listS, v_lrng, v_popAt, v_pop0, v_extL, v_sumT, f_row_of_b1, show (([115] : W) == [112]) = false from rfl, N.g_SWAPPED, cl, N.g_MOST_ROW, hd]
      exact ⟨_, _, by rw [rowB_snoc]⟩
  · rintro s ⟨x, y, rfl⟩
    simp (disch := (first | assumption | omega | (simp only [List.length_append, List.length_cons, List.length_nil, List.length_take, List.length_drop, List.length_reverse, List.length_map, List.length_range, List.length_dropLast, List.length_replicate, List.length_set]; omega))) only [d_nil, d_cons, d_frz, d_kil, d_ret, d_set, d_own, d_par2, d_par3, d_unp, d_parn, d_pars, sn_nil, sn_cons, st_nil, st_nm, st_sub, d_seti, d_aug, d_augi, d_app, d_pop, d_expr, d_reto, d_rett, d_ifs, d_brk, d_doc, d_for, d_whl, d_popan, d_popas, d_popif, d_ext, e_con, e_var, e_bor, e_glo, e_bin, e_cmp, e_cmp2, e_neg, e_not, e_and, e_or, e_ifx, e_tup, e_lst, e_dic0, e_idx, e_cut, o_nop, o_some, e_rev, e_bi, e_me, e_call, e_draw, e_comp, es_nil, es_cons, r_seq, r_rng1, r_rng2, r_enum, r_zip, e_attr, e_mcall, e_twr, e_lrng, r_rngd, dw_ok, dw_err, kk_next, kk_ret, kk_brk, ite_t, ite_f, tn_next, tn_brk, tn_ret, Res.ofO_some, Res.ofO_none, Res.ok_bind, Res.pure_eq, Option.map_some, Option.map_none, Option.bind_some, bd_nm, bd_tp, bds_nil, bds_cons, slotsT, slotsTs, wipeS, isNop, if_true, Bool.false_eq_true, if_false, anyRaw, isRaw, Bool.or_false, Bool.false_or, Bool.false_and, Bool.true_and, Bool.and_true, Bool.and_false, Bool.or_true, Bool.true_or, Bool.not_true, Bool.not_false, decide_true, decide_false, meOk_s, meOk_l, meL, startS, List.map_cons, List.map_nil, List.cons_append, List.nil_append, List.replicate_succ, List.replicate_zero, Nat.reduceSub, Nat.reduceAdd, Nat.reduceMul, Nat.reduceDiv, Nat.reduceMod, Nat.reduceLT, Nat.reduceLeDiff, Nat.reduceBEq, Int.reduceToNat, Int.reduceNeg, Int.reduceLT, Int.reduceLE, Nat.not_lt_zero, true_and, and_true, implies_true, imp_self, List.getElem?_cons_zero, List.getElem?_cons_succ, lim_ok, rngL_len, List.length_map, List.length_cons, List.length_nil, Nat.zero_add, Nat.lt_irrefl, Nat.le_refl, beq_self_eq_true, bne_self_eq_false, gs0, gs1, gs2, gs3, gs4, gs5, gs6, gs7, gs8, gs9, gs10, gs11, gs12, gs13, gs14, gs15, gs16, ss0, ss1, ss2, ss3, ss4, ss5, ss6, ss7, ss8, ss9, ss10, ss11, ss12, ss13, ss14, ss15, ss16, shr_shr, shr_val, own_val, own_own, mkOwn_lst, mkOwn_dic, mkS_f, mkS_l, mkS_d, frz_own, frz_shr, lst_ok, row_ok, end_ret, end_next, rawV_f, rawV_s, rawV_i, rawV_b, rawV_n, v_addNL, v_addLN, v_addN, v_subNL, v_subN, v_mul2N, v_mulN, v_mulS, v_div2N, v_mod2N, v_addS, v_addL, v_addT, v_idxTl, v_iaddNL, v_iaddN, v_isubNL, v_isubN, v_eqS, v_neS, v_eqSN, v_isN, v_isS, v_isI, v_isL, v_isnN, v_isnS, v_isnI, v_isB, v_isnB, v_inS, v_ninS, v_inDS, v_ninDS, v_inDI, v_tBl, v_tNon, v_idxDS, v_idxDI, v_idxS, v_idxL, v_idxT, v_idxL0, v_idxT0, v_idxT1, v_idxS0, v_idxLl, v_lenS, v_lenL, v_lenT, v_lenD, v_revS, v_revL, v_tuple, v_listT, v_listL, v_intI, v_min2N, v_max2N, v_max20, v_itS, v_itL, v_itT, v_asI, v_neg, v_rng1, v_rng21, v_rng2, v_drw, v_app, v_setL, v_setDS, v_cutP, v_cutD, v_cutS, v_cutPL, v_cutPT, v_cutDT, v_cutS1, v_cutM1, v_eqI, v_neI, v_lt, v_le, v_gt, v_ge, beq_natCast, cst_eqL, cst_ltL, cst_leL, cst_gtL, cst_geL, cst_lt, cst_le, v_drwI, v_joinS, v_joinC, v_pre, v_end, v_any, v_all, v_sum, v_obj, v_attr, v_scount, v_listS, v_lrng, v_popAt, v_pop0, v_extL, v_sumT]
theorem c_row_build (N : N_row_build fns gl) {p g : W} (hp : LetM 2 p) (hl : p.length ≤ 80) (hg : ∀ s, s ∈ g → s = 112 ∨ s = 115) (hgl : g.length = p.length) (hb : (rowB (p.zip g)).length ≤ 4000) : callF fns gl (l + 6) 140 [.str p, .str g] = .ok (.str (rowB (p.zip g))) := by
  refine call_eq N.self rfl ?_
  have nP := c_need_pair (l := l + 2) N.n_need_pair hp hl hg hgl
  have ro := c_row_of (l := l) N.n_row_of (hp.let (by omega)) hb hg
  simp (disch := (first | assumption | omega | (simp only [List.length_append, List.length_cons, List.length_nil, List.length_take, List.length_drop, List.length_reverse, List.length_map, List.length_range, List.length_dropLast, List.length_replicate, List.length_set]; omega))) only [d_nil, d_cons, d_frz, d_kil, d_ret, d_set, d_own, d_par2, d_par3, d_unp, d_parn, d_pars, sn_nil, sn_cons, st_nil, st_nm, st_sub, d_seti, d_aug, d_augi, d_app, d_pop, d_expr, d_reto, d_rett, d_ifs, d_brk, d_doc, d_for, d_whl, d_popan, d_popas, d_popif, d_ext, e_con, e_var, e_bor, e_glo, e_bin, e_cmp, e_cmp2, e_neg, e_not, e_and, e_or, e_ifx, e_tup, e_lst, e_dic0, e_idx, e_cut, o_nop, o_some, e_rev, e_bi, e_me, e_call, e_draw, e_comp, es_nil, es_cons, r_seq, r_rng1, r_rng2, r_enum, r_zip, e_attr, e_mcall, e_twr, e_lrng, r_rngd, dw_ok, dw_err, kk_next, kk_ret, kk_brk, ite_t, ite_f, tn_next, tn_brk, tn_ret, Res.ofO_some, Res.ofO_none, Res.ok_bind, Res.pure_eq, Option.map_some, Option.map_none, Option.bind_some, bd_nm, bd_tp, bds_nil, bds_cons, slotsT, slotsTs, wipeS, isNop, if_true, Bool.false_eq_true, if_false, anyRaw, isRaw, Bool.or_false, Bool.false_or, Bool.false_and, Bool.true_and, Bool.and_true, Bool.and_false, Bool.or_true, Bool.true_or, Bool.not_true, Bool.not_false, decide_true, decide_false, meOk_s, meOk_l, meL, startS, List.map_cons, List.map_nil, List.cons_append, List.nil_append, List.replicate_succ, List.replicate_zero, Nat.reduceSub, Nat.reduceAdd, Nat.reduceMul, Nat.reduceDiv, Nat.reduceMod, Nat.reduceLT, Nat.reduceLeDiff, Nat.reduceBEq, Int.reduceToNat, Int.reduceNeg, Int.reduceLT, Int.reduceLE, Nat.not_lt_zero, true_and, and_true, implies_true, imp_self, List.getElem?_cons_zero, List.getElem?_cons_succ, lim_ok, rngL_len, List.length_map, List.length_cons, List.length_nil, Nat.zero_add, Nat.lt_irrefl, Nat.le_refl, beq_self_eq_true, bne_self_eq_false, gs0, gs1, gs2, gs3, gs4, gs5, gs6, gs7, gs8, gs9, gs10, gs11, gs12, gs13, gs14, gs15, gs16, ss0, ss1, ss2, ss3, ss4, ss5, ss6, ss7, ss8, ss9, ss10, ss11, ss12, ss13, ss14, ss15, ss16, shr_shr, shr_val, own_val, own_own, mkOwn_lst, mkOwn_dic, mkS_f, mkS_l, mkS_d, frz_own, frz_shr, lst_ok, row_ok, end_ret, end_next, rawV_f, rawV_s, rawV_i, rawV_b, rawV_n, v_addNL, v_addLN, v_addN, v_subNL, v_subN, v_mul2N, v_mulN, v_mulS, v_div2N, v_mod2N, v_addS, v_addL, v_addT, v_idxTl, v_iaddNL, v_iaddN, v_isubNL, v_isubN, v_eqS, v_neS, v_eqSN, v_isN, v_isS, v_isI, v_isL, v_isnN, v_isnS, v_isnI, v_isB, v_isnB, v_inS, v_ninS, v_inDS, v_ninDS, v_inDI, v_tBl, v_tNon, v_idxDS, v_idxDI, v_idxS, v_idxL, v_idxT, v_idxL0, v_idxT0, v_idxT1, v_idxS0, v_idxLl, v_lenS, v_lenL, v_lenT, v_lenD, v_revS, v_revL, v_tuple, v_listT, v_listL, v_intI, v_min2N, v_max2N, v_max20, v_itS, v_itL, v_itT, v_asI, v_neg, v_rng1, v_rng21, v_rng2, v_drw, v_app, v_setL, v_setDS, v_cutP, v_cutD, v_cutS, v_cutPL, v_cutPT, v_cutDT, v_cutS1, v_cutM1, v_eqI, v_neI, v_lt, v_le, v_gt, v_ge, beq_natCast, cst_eqL, cst_ltL, cst_leL, cst_gtL, cst_geL, cst_lt, cst_le, v_drwI, v_joinS, v_joinC, v_pre, v_end, v_any, v_all, v_sum, v_obj, v_attr, v_scount, v_listS, v_lrng, v_popAt, v_pop0, v_extL, v_sumT, f_row_build, nP, ro]
end
end Ev
set_option autoImplicit false
set_option linter.all false
set_option Elab.async false
set_option maxRecDepth 100000
namespace Ev
open Pal
section
variable {fns : Nat → Option Fn} {gl : Nat → Option PV} {l : Nat} {E : PV → Prop}
end
end Ev
set_option autoImplicit false
set_option linter.all false
set_option Elab.async false
set_option maxRecDepth 100000
namespace Pal
end Pal
namespace Ev
open Pal
section
variable {fns : Nat → Option Fn} {gl : Nat → Option PV} {l : Nat} {E : PV → Prop}
end
end Ev
set_option autoImplicit false
set_option linter.all false
set_option Elab.async false
set_option maxRecDepth 100000
namespace Ev
open Pal
/-- what the map of a plan makes of the first letters -/
def imgs (P : W) (n : Nat) : List W := (List.range n).map fun i => psis P [97 + i]
theorem imgs_cons (c : Nat) (P : W) (n : Nat) : imgs (c :: P) n = (imgs P n).map (psi c) := by
  unfold imgs; rw [List.map_map]; rfl
theorem psi_first {c : Nat} {w : W} (h : w ≠ []) : ∃ r, psi c w = c :: r := by
  cases w with
  | nil => exact absurd rfl h
  | cons a w => 
    have := psi_snoc
    have e : psi c (a :: w) = psi c [a] ++ psi c w := psi_append c [a] w
    rw [e, psi_one]
    split <;> exact ⟨_, rfl⟩
theorem psis_last (P : W) (c : Nat) : c ∈ psis P [c] := by
  induction P with
  | nil => exact List.mem_singleton.mpr rfl
  | cons x P ih =>
    show c ∈ psi x (psis P [c])
    have : ∀ w : W, c ∈ w → c ∈ psi x w := by
      intro w hw
      rw [← psi_flat]
      rw [List.mem_flatten]
      refine ⟨_, List.mem_map.mpr ⟨c, hw, rfl⟩, ?_⟩
      split
      · rename_i h; simp [h]
      · simp
    exact this _ ih
theorem psi_len_lt {x c : Nat} (h : c ≠ x) : ∀ {w : W}, c ∈ w → w.length < (psi x w).length
  | [], hc => by cases hc
  | a :: w, hc => by
    have e : psi x (a :: w) = psi x [a] ++ psi x w := psi_append x [a] w
    rw [e, List.length_append, psi_one, List.length_cons]
    have h1 := psi_len_le x w
    rcases List.mem_cons.mp hc with hc | hc
    · subst hc; rw [if_neg h]; simp; omega
    · have := psi_len_lt h hc
      split <;> simp <;> omega
def tl (ws : List W) : Nat := (ws.map List.length).sum
theorem tl_map_le (x : Nat) : ∀ ws : List W, tl ws ≤ tl (ws.map (psi x))
  | [] => Nat.le_refl _
  | w :: ws => by
    have := tl_map_le x ws
    have := psi_len_le x w
    simp only [tl, List.map_cons, List.sum_cons] at *
    omega
theorem tl_map_lt {x c : Nat} (h : c ≠ x) : ∀ {ws : List W}, (∃ w, w ∈ ws ∧ c ∈ w) → tl ws < tl (ws.map (psi x))
  | [], hc => by obtain ⟨w, hw, _⟩ := hc; cases hw
  | w :: ws, ⟨v, hv, hcv⟩ => by
    have h1 := psi_len_le x w
    have h2 := tl_map_le x ws
    rcases List.mem_cons.mp hv with e | hv
    · subst e
      have := psi_len_lt h hcv
      simp only [tl, List.map_cons, List.sum_cons] at *
      omega
    · have := tl_map_lt h ⟨v, hv, hcv⟩
      simp only [tl, List.map_cons, List.sum_cons] at *
      omega
theorem imgs_tl_lt {n : Nat} (h2 : 2 ≤ n) (c : Nat) (P : W) : tl (imgs P n) < tl (imgs (c :: P) n) := by
  rw [imgs_cons]
  obtain ⟨j, hj, hc⟩ : ∃ j, j < n ∧ 97 + j ≠ c := by
    by_cases q : 97 = c
    · exact ⟨1, by omega, by omega⟩
    · exact ⟨0, by omega, by omega⟩
  exact tl_map_lt hc ⟨psis P [97 + j], List.mem_map.mpr ⟨j, List.mem_range.mpr hj, rfl⟩, psis_last P _⟩
/-- the words from which the map of a letter makes the words told, if there are such -/
theorem mapM_unpsi (x : Nat) : ∀ (ws vs : List W), vs.map (psi x) = ws ↔ ws.map (unpsi x) = vs.map some
  | [], [] => by simp
  | [], v :: vs => by simp
  | w :: ws, [] => by simp
  | w :: ws, v :: vs => by
    simp only [List.map_cons, List.cons.injEq, mapM_unpsi x ws vs, unpsi_iff]
theorem psis_map_cons (P : W) (c : Nat) (vs : List W) : (vs.map (psi c)).map (psis P) = vs.map (psis (P ++ [c])) := by
  rw [List.map_map]
  refine List.map_congr_left fun v _ => ?_
  show psis P (psi c v) = _
  rw [psis_psis]; rfl
theorem map_some_inj : ∀ {a b : List W}, a.map some = b.map some → a = b
  | [], [], _ => rfl
  | [], _ :: _, h => by simp at h
  | _ :: _, [], h => by simp at h
  | x :: a, y :: b, h => by
    simp only [List.map_cons, List.cons.injEq, Option.some.injEq] at h
    rw [h.1, map_some_inj h.2]
/-- how far a plan has been read -/
structure JImg (n : Nat) (ws : List W) (P : W) (now : List W) : Prop where
  let' : LetM n P
  len : now.length = n
  ne : ∀ w, w ∈ now → w ≠ [] ∧ w.length ≤ 5000
  eq : ws = now.map (psis P)
  all : ∀ P', LetM n P' → ws = imgs P' n → ∃ Q, P' = P ++ Q ∧ LetM n Q ∧ now = imgs Q n
/-- if the words are images at all, the next letter is told -/
theorem JImg.next {n : Nat} (h2 : 2 ≤ n) {ws : List W} {P : W} {now : List W} (J : JImg n ws P now) (hg : now ≠ imgs [] n) {c : Nat} {r : W} {t : List W} (hn : now = (c :: r) :: t) {P' : W} (hP' : LetM n P') (hw : ws = imgs P' n) :
    (97 ≤ c ∧ c < 97 + n) ∧ ∃ vs : List W, now = vs.map (psi c) ∧ tl vs < tl now := by
  obtain ⟨Q, h1, h3, h4⟩ := J.all P' hP' hw
  cases Q with
  | nil => exact absurd h4 hg
  | cons d Q =>
    have h5 := imgs_cons d Q n
    have h6 := imgs_tl_lt h2 d Q
    rw [← h4] at h5 h6
    obtain ⟨m, rfl⟩ : ∃ m, n = m + 1 := ⟨n - 1, by omega⟩
    have h7 : imgs Q (m + 1) = psis Q [97 + 0] :: ((List.range m).map Nat.succ).map fun i => psis Q [97 + i] := by
      unfold imgs; rw [List.range_succ_eq_map, List.map_cons]
    have hne : psis Q [97 + 0] ≠ [] := fun z => by have := psis_last Q (97 + 0); rw [z] at this; cases this
    obtain ⟨s, hs⟩ := psi_first (c := d) hne
    rw [h7, List.map_cons, hs, hn] at h5
    have hcd : c = d := (List.cons.inj (List.cons.inj h5).1).1
    subst hcd
    refine ⟨h3 c (by simp), imgs Q (m + 1), ?_, h6⟩
    rw [h4, imgs_cons]
theorem JImg.step {n : Nat} {ws : List W} {P : W} {now vs : List W} (J : JImg n ws P now) (h2 : 2 ≤ n) (hg : now ≠ imgs [] n) {c : Nat} {r : W} {t : List W} (hn : now = (c :: r) :: t) (hc : 97 ≤ c ∧ c < 97 + n) (hv : now = vs.map (psi c)) : JImg n ws (P ++ [c]) vs := by
  refine ⟨J.let'.snoc hc, by have := J.len; rw [hv, List.length_map] at this; exact this, fun w hw => ?_, ?_, fun P' hP' hw => ?_⟩
  · have h1 := J.ne (psi c w) (by rw [hv]; exact List.mem_map.mpr ⟨w, hw, rfl⟩)
    have h3 := psi_len_le c w
    exact ⟨fun z => h1.1 (by rw [z]; rfl), by omega⟩
  · rw [J.eq, hv, psis_map_cons]
  · obtain ⟨Q, h1, h3, h4⟩ := J.all P' hP' hw
    cases Q with
    | nil => exact absurd h4 hg
    | cons d Q =>
      have h5 := imgs_cons d Q n
      obtain ⟨m, rfl⟩ : ∃ m, n = m + 1 := ⟨n - 1, by omega⟩
      have h7 : imgs Q (m + 1) = psis Q [97 + 0] :: ((List.range m).map Nat.succ).map fun i => psis Q [97 + i] := by
        unfold imgs; rw [List.range_succ_eq_map, List.map_cons]
      have hne : psis Q [97 + 0] ≠ [] := fun z => by have := psis_last Q (97 + 0); rw [z] at this; cases this
      obtain ⟨s, hs⟩ := psi_first (c := d) hne
      have h8 := h5
      rw [h7, List.map_cons, hs, ← h4, hn] at h8
      have hcd : c = d := (List.cons.inj (List.cons.inj h8).1).1
      subst hcd
      refine ⟨Q, by rw [h1]; simp, fun a ha => h3 a (by simp [ha]), ?_⟩
      have h9 := (mapM_unpsi c now vs).mp hv.symm
      have h10 := (mapM_unpsi c now (imgs Q (m + 1))).mp (by rw [← h5, h4])
      rw [h9] at h10
      exact map_some_inj h10
section
variable {fns : Nat → Option Fn} {gl : Nat → Option PV} {l : Nat} {E : PV → Prop}
end
end Ev
set_option autoImplicit false
set_option linter.all false
set_option Elab.async false
set_option maxRecDepth 100000
namespace Ev
open Pal
section
variable {fns : Nat → Option Fn} {gl : Nat → Option PV} {l : Nat} {E : PV → Prop}
end
end Ev
set_option autoImplicit false
set_option linter.all false
set_option Elab.async false
set_option maxRecDepth 100000
namespace Ev
open Pal
section
variable {fns : Nat → Option Fn} {gl : Nat → Option PV} {l : Nat} {E : PV → Prop}
end
end Ev
set_option autoImplicit false
set_option linter.all false
set_option Elab.async false
set_option maxRecDepth 100000
namespace Ev
open Pal
section
variable {fns : Nat → Option Fn} {gl : Nat → Option PV} {l : Nat} {E : PV → Prop}
end
end Ev
set_option autoImplicit false
set_option linter.all false
set_option Elab.async false
set_option maxRecDepth 100000
namespace Ev
open Pal
def preF (f : Nat → Nat) : W → W → Bool
  | [], _ => true
  | _ :: _, [] => false
  | a :: r, b :: s => Nat.beq (f a) b && preF f r s
def fswK (c : Nat) : Nat := bif Nat.beq c 97 then 98 else bif Nat.beq c 98 then 97 else c
def kfK (s : Nat) : Nat → Nat := bif Nat.beq s 112 then (fun c => c) else fswK
def srK (f : Nat → Nat) (xr : W) : W → Nat
  | [] => 0
  | c :: w => bif preF f (c :: w) xr then 0 else Nat.succ (srK f xr w)
def mapK (f : Nat → Nat) : W → W
  | [] => []
  | c :: w => f c :: mapK f w
def scK (f : Nat → Nat) (x : W) : W := List.append x (mapK f (List.reverse (List.take (srK f (List.reverse x) x) x)))
def toldK (w : W) : W → W → Nat → List (Nat × Nat)
  | [], _, _ => []
  | c :: r, rev, n => bif preF (fun c => c) (c :: rev) w then (n + 1, 112) :: toldK w r (c :: rev) (n + 1) else bif preF fswK (c :: rev) w then (n + 1, 115) :: toldK w r (c :: rev) (n + 1) else toldK w r (c :: rev) (n + 1)
def eqK : W → W → Bool
  | [], [] => true
  | a :: r, b :: s => Nat.beq a b && eqK r s
  | _, _ => false
def chainK (w : W) : Nat → List (Nat × Nat) → Bool
  | prev, [] => Nat.beq prev w.length
  | prev, (n, s) :: r => eqK (scK (kfK s) (w.take (prev + 1))) (w.take n) && chainK w n r
def okWn (w : W) (n : Nat) : Bool := chainK w 0 (toldK w w [] 0) && Nat.ble n (toldK w w [] 0).length
def okD : Nat → W → Nat → Bool
  | 0, w, n => okWn w n
  | k + 1, w, n => okWn w n && (okD k (scK (kfK 112) (w ++ [97])) (n + 1) && (okD k (scK (kfK 115) (w ++ [97])) (n + 1) && (okD k (scK (kfK 112) (w ++ [98])) (n + 1) && okD k (scK (kfK 115) (w ++ [98])) (n + 1))))
theorem fswK_eq (c : Nat) : fswK c = fsw c := by
  unfold fswK fsw
  by_cases q : c = 97
  · subst q; rfl
  · have e1 : Nat.beq c 97 = false := by rw [← Bool.not_eq_true, Nat.beq_eq]; exact q
    rw [e1, if_neg q]
    by_cases q2 : c = 98
    · subst q2; rfl
    · have e2 : Nat.beq c 98 = false := by rw [← Bool.not_eq_true, Nat.beq_eq]; exact q2
      rw [e2, if_neg q2]; rfl
theorem kfK_eq (s : Nat) : kfK s = kf s := by
  unfold kfK kf
  by_cases q : s = 112
  · subst q; rfl
  · have e1 : Nat.beq s 112 = false := by rw [← Bool.not_eq_true, Nat.beq_eq]; exact q
    rw [e1, if_neg q]
    exact funext fswK_eq
theorem preF_iff {f : Nat → Nat} : ∀ {r s : W}, preF f r s = true ↔ r.map f <+: s
  | [], s => ⟨fun _ => List.nil_prefix, fun _ => rfl⟩
  | a :: r, [] => ⟨fun h => (by cases h), fun h => (by simp at h)⟩
  | a :: r, b :: s => by
    rw [preF, Bool.and_eq_true, preF_iff, Nat.beq_eq, List.map_cons, List.cons_prefix_cons]
theorem eqK_iff : ∀ {r s : W}, eqK r s = true ↔ r = s
  | [], [] => ⟨fun _ => rfl, fun _ => rfl⟩
  | [], _ :: _ => ⟨fun h => (by cases h), fun h => (by cases h)⟩
  | _ :: _, [] => ⟨fun h => (by cases h), fun h => (by cases h)⟩
  | a :: r, b :: s => by rw [eqK, Bool.and_eq_true, eqK_iff, Nat.beq_eq, List.cons.injEq]
theorem mapK_eq (f : Nat → Nat) : ∀ w : W, mapK f w = w.map f
  | [] => rfl
  | c :: w => by rw [mapK, mapK_eq f w, List.map_cons]
theorem srK_eq {f : Nat → Nat} (hf : ∀ c, f (f c) = c) (u : W) : ∀ v : W, srK f (v.reverse ++ u) v = sr f v := by
  suffices ∀ (v t : W), srK f (v.reverse ++ t) v = sr f v from fun v => this v u
  intro v
  induction v with
  | nil => intro t; rfl
  | cons c v ih =>
    intro t
    have key : preF f (c :: v) ((c :: v).reverse ++ t) = decide (tn f (c :: v) = c :: v) := by
      generalize c :: v = x
      rw [Bool.eq_iff_iff, preF_iff, decide_eq_true_eq]
      have hm : ∀ y : W, (y.map f).map f = y := fun y => by
        rw [List.map_map]
        have : (f ∘ f) = id := funext hf
        rw [this, List.map_id]
      constructor
      · intro h
        have h2 := List.prefix_iff_eq_take.mp h
        rw [List.length_map, List.take_append_of_le_length (by simp), ← List.length_reverse, List.take_length] at h2
        unfold tn
        rw [← h2]; exact hm x
      · intro h
        have h2 : x.map f = x.reverse := by
          have := congrArg (List.map f) h
          unfold tn at this
          rw [hm] at this; exact this.symm
        rw [h2]; exact List.prefix_append _ _
    have e : (c :: v).reverse ++ t = v.reverse ++ ([c] ++ t) := by simp
    rw [srK, key]
    by_cases q : tn f (c :: v) = c :: v
    · rw [decide_eq_true q]; simp only [sr, if_pos q]; rfl
    · rw [decide_eq_false q]; simp only [sr, if_neg q]
      show Nat.succ (srK f ((c :: v).reverse ++ t) v) = _
      rw [e, ih]
theorem scK_eq {f : Nat → Nat} (hf : ∀ c, f (f c) = c) (x : W) : scK f x = sc f x := by
  have := srK_eq hf [] x
  rw [List.append_nil] at this
  unfold scK
  rw [this, mapK_eq]; rfl
theorem scK_kf (s : Nat) (x : W) : scK (kfK s) x = sc (kf s) x := by rw [kfK_eq]; exact scK_eq (sw_kf s).inv x
theorem toldK_eq (w : W) : ∀ (r : W) (n : Nat), w.drop n = r → n ≤ w.length → toldM w w.length = toldM w n ++ toldK w r (w.take n).reverse n
  | [], n, h, hn => by
    have : n = w.length := by have := List.drop_eq_nil_iff.mp h; omega
    rw [this, toldK, List.append_nil]
  | c :: r, n, h, hn => by
    have hlt : n < w.length := by
      rcases Nat.lt_or_ge n w.length with q | q
      · exact q
      · rw [List.drop_eq_nil_of_le q] at h; cases h
    have hc : w[n] = c ∧ w.drop (n + 1) = r := by
      rw [List.drop_eq_getElem_cons hlt] at h
      exact ⟨(List.cons.inj h).1, (List.cons.inj h).2⟩
    have hr : (w.take (n + 1)).reverse = c :: (w.take n).reverse := by
      rw [List.take_succ_eq_append_getElem hlt, List.reverse_append, hc.1]; rfl
    have ih := toldK_eq w r (n + 1) hc.2 hlt
    rw [hr, toldM_succ, List.append_assoc] at ih
    rw [ih]
    congr 1
    have key : ∀ f : Nat → Nat, preF f (c :: (w.take n).reverse) w = decide (w.take (n + 1) = tn f (w.take (n + 1))) := fun f => by
      rw [Bool.eq_iff_iff, preF_iff, decide_eq_true_eq, ← hr, List.prefix_iff_eq_take, List.length_map, List.length_reverse, List.length_take, Nat.min_eq_left hlt]
      exact ⟨fun h => h.symm, fun h => h.symm⟩
    have k1 := key (fun c => c)
    have k2 := key fswK
    rw [show fswK = fsw from funext fswK_eq] at k2
    have ti : tn (fun c => c) (w.take (n + 1)) = (w.take (n + 1)).reverse := by unfold tn; exact List.map_id' _
    rw [ti] at k1
    rw [toldK, show fswK = fsw from funext fswK_eq, k1, k2]
    unfold kindM
    by_cases q1 : w.take (n + 1) = (w.take (n + 1)).reverse
    · rw [decide_eq_true q1, if_pos q1]; rfl
    · rw [decide_eq_false q1, if_neg q1]
      by_cases q2 : w.take (n + 1) = tn fsw (w.take (n + 1))
      · rw [decide_eq_true q2, if_pos q2]; rfl
      · rw [decide_eq_false q2, if_neg q2]; rfl
theorem toldK_all (w : W) : toldK w w [] 0 = toldM w w.length := (toldK_eq w w 0 rfl (Nat.zero_le _)).symm
/-- does each step close to the next beginning that is a mirror -/
def chB (w : W) : Nat → List (Nat × Nat) → Bool
  | _, [] => true
  | prev, (n, s) :: r => (sc (kf s) (w.take (prev + 1)) == w.take n) && chB w n r
def lastN (prev : Nat) (T : List (Nat × Nat)) : Nat := (T.map (·.1)).getLastD prev
theorem lastN_snoc (p : Nat) (T : List (Nat × Nat)) (x : Nat × Nat) : lastN p (T ++ [x]) = x.1 := by simp [lastN]
theorem lastN_cons (p : Nat) (T : List (Nat × Nat)) (x : Nat × Nat) : lastN p (x :: T) = lastN x.1 T := by
  unfold lastN
  rw [List.map_cons]
  cases T with
  | nil => rfl
  | cons y T => simp [List.getLastD]
theorem chainK_iff (w : W) : ∀ (T : List (Nat × Nat)) (p : Nat), chainK w p T = true ↔ chB w p T = true ∧ lastN p T = w.length
  | [], p => by rw [chainK, Nat.beq_eq]; exact ⟨fun h => ⟨rfl, h⟩, fun h => h.2⟩
  | (n, s) :: r, p => by
    rw [chainK, chB, Bool.and_eq_true, Bool.and_eq_true, eqK_iff, beq_iff_eq, chainK_iff w r n, lastN_cons, scK_kf, and_assoc]
/-- the letters of the steps -/
def nrmL (w : W) : Nat → List (Nat × Nat) → List (Nat × Nat)
  | _, [] => []
  | p, (n, s) :: r => (w.getD p 0, s) :: nrmL w n r
theorem nrmL_snoc (w : W) : ∀ (T : List (Nat × Nat)) (p : Nat) (x : Nat × Nat), nrmL w p (T ++ [x]) = nrmL w p T ++ [(w.getD (lastN p T) 0, x.2)]
  | [], p, x => rfl
  | (n, s) :: r, p, x => by rw [List.cons_append, nrmL, nrmL_snoc w r n x, nrmL, lastN_cons]; rfl
theorem nrmL_len (w : W) : ∀ (T : List (Nat × Nat)) (p : Nat), (nrmL w p T).length = T.length
  | [], _ => rfl
  | (n, s) :: r, p => by rw [nrmL, List.length_cons, nrmL_len w r n, List.length_cons]
theorem chB_app (w : W) : ∀ (T U : List (Nat × Nat)) (p : Nat), chB w p (T ++ U) = (chB w p T && chB w (lastN p T) U)
  | [], U, p => by rw [List.nil_append, chB, Bool.true_and]; rfl
  | (n, s) :: r, U, p => by rw [List.cons_append, chB, chB_app w r U n, chB, lastN_cons, Bool.and_assoc]
/-- sizes that rise -/
def Rise (w : W) (p : Nat) (T : List (Nat × Nat)) : Prop := (∀ x, x ∈ T → p < x.1 ∧ x.1 ≤ w.length ∧ (x.2 = 112 ∨ x.2 = 115)) ∧ T.Pairwise (fun x y => x.1 < y.1)
theorem told_rise (w : W) : Rise w 0 (toldM w w.length) := by
  refine ⟨fun x hx => ?_, ?_⟩
  · obtain ⟨h1, h2, h3⟩ := toldM_mem.mp hx
    refine ⟨h1, h2, ?_⟩
    unfold kindM at h3
    split at h3
    · exact .inl (Option.some.inj h3).symm
    · split at h3
      · exact .inr (Option.some.inj h3).symm
      · cases h3
  · generalize w.length = n
    induction n with
    | zero => exact List.Pairwise.nil
    | succ n ih =>
      rw [toldM_succ, List.pairwise_append]
      refine ⟨ih, ?_, fun x hx y hy => ?_⟩
      · cases kindM w (n + 1) <;> simp
      · have h1 := (toldM_mem.mp hx).2.1
        cases hk : kindM w (n + 1) with
        | none => rw [hk] at hy; cases hy
        | some s => rw [hk] at hy; rw [List.mem_singleton.mp hy]; show x.1 < n + 1; omega
theorem Rise.last {w : W} {T : List (Nat × Nat)} {d todo : List (Nat × Nat)} {x : Nat × Nat} (h : Rise w 0 T) (e : T = d ++ x :: todo) : lastN 0 d < x.1 ∧ x.1 ≤ w.length ∧ (x.2 = 112 ∨ x.2 = 115) := by
  have hx := h.1 x (by rw [e]; simp)
  refine ⟨?_, hx.2⟩
  rcases List.eq_nil_or_concat d with rfl | ⟨d', y, rfl⟩
  · exact hx.1
  · rw [List.concat_eq_append, lastN_snoc]
    have h2 := h.2
    rw [e, List.concat_eq_append, List.pairwise_append] at h2
    exact h2.2.2 y (by simp) x (by simp)
/-- a chain's steps build the beginnings -/
theorem row_chain {w : W} {T : List (Nat × Nat)} (h : Rise w 0 T) (hc : chB w 0 T = true) : ∀ {d todo : List (Nat × Nat)}, T = d ++ todo → rowB (nrmL w 0 d) = w.take (lastN 0 d) := by
  intro d
  refine snoc_ind (M := fun d => ∀ {todo : List (Nat × Nat)}, T = d ++ todo → rowB (nrmL w 0 d) = w.take (lastN 0 d)) (fun _ => rfl) (fun d x ih todo e => ?_) d
  have e2 : T = d ++ x :: todo := by rw [e]; simp
  have hl := h.last e2
  rw [nrmL_snoc, rowB_snoc, ih e2, lastN_snoc]
  have hlt : lastN 0 d < w.length := by omega
  have hg : w.getD (lastN 0 d) 0 = w[lastN 0 d] := by simp [List.getD_eq_getElem?_getD, hlt]
  show sc (kf x.2) (w.take (lastN 0 d) ++ [w.getD (lastN 0 d) 0]) = _
  rw [hg, ← List.take_succ_eq_append_getElem hlt]
  rw [e2, chB_app] at hc
  have := (Bool.and_eq_true _ _ ▸ hc : _ ∧ _).2
  obtain ⟨n, s⟩ := x
  rw [chB, Bool.and_eq_true, beq_iff_eq] at this
  exact this.1
/-- the facts of a row -/
theorem okD_tell : ∀ (k : Nat) (w : W) (n : Nat), okD k w n = true → ∀ L : List (Nat × Nat), L.length ≤ k → (∀ x, x ∈ L → (x.1 = 97 ∨ x.1 = 98) ∧ (x.2 = 112 ∨ x.2 = 115)) → okWn (L.foldl (fun w x => sc (kf x.2) (w ++ [x.1])) w) (n + L.length) = true
  | 0, w, n, h, L, hl, _ => by
    rw [List.eq_nil_of_length_eq_zero (Nat.le_zero.mp hl)]; exact h
  | k + 1, w, n, h, [], _, _ => by
    rw [okD, Bool.and_eq_true] at h
    exact h.1
  | k + 1, w, n, h, x :: L, hl, hx => by
    rw [okD] at h
    simp only [Bool.and_eq_true, scK_kf] at h
    obtain ⟨_, h1, h2, h3, h4⟩ := h
    have hL : L.length ≤ k := by simpa using hl
    have hx2 := hx x (by simp)
    have hr : ∀ y, y ∈ L → (y.1 = 97 ∨ y.1 = 98) ∧ (y.2 = 112 ∨ y.2 = 115) := fun y hy => hx y (by simp [hy])
    rw [List.foldl_cons, List.length_cons, show n + (L.length + 1) = (n + 1) + L.length by omega]
    obtain ⟨c, s⟩ := x
    rcases hx2 with ⟨q1, q2⟩
    rcases (show c = 97 ∨ c = 98 from q1) with rfl | rfl <;> rcases (show s = 112 ∨ s = 115 from q2) with rfl | rfl
    · exact okD_tell k _ _ h1 L hL hr
    · exact okD_tell k _ _ h2 L hL hr
    · exact okD_tell k _ _ h3 L hL hr
    · exact okD_tell k _ _ h4 L hL hr
theorem okWn_tell {w : W} {n : Nat} (h : okWn w n = true) : chB w 0 (toldM w w.length) = true ∧ lastN 0 (toldM w w.length) = w.length ∧ n ≤ (toldM w w.length).length := by
  unfold okWn at h
  rw [toldK_all, Bool.and_eq_true, chainK_iff] at h
  exact ⟨h.1.1, h.1.2, Nat.le_of_ble_eq_true h.2⟩
end Ev
set_option autoImplicit false
set_option linter.all false
set_option Elab.async false
set_option maxRecDepth 100000
namespace Ev
open Pal
def nmW (w : W) : List (Nat × Nat) := nrmL w 0 (toldM w w.length)
def fsts (L : List (Nat × Nat)) : W := L.map (·.1)
def snds (L : List (Nat × Nat)) : W := L.map (·.2)
theorem fsts_snoc (L : List (Nat × Nat)) (x : Nat × Nat) : fsts (L ++ [x]) = fsts L ++ [x.1] := by simp [fsts]
theorem snds_snoc (L : List (Nat × Nat)) (x : Nat × Nat) : snds (L ++ [x]) = snds L ++ [x.2] := by simp [snds]
theorem fsts_len (L : List (Nat × Nat)) : (fsts L).length = L.length := by simp [fsts]
theorem snds_len (L : List (Nat × Nat)) : (snds L).length = L.length := by simp [snds]
theorem zip_fs (L : List (Nat × Nat)) : (fsts L).zip (snds L) = L := by
  induction L with
  | nil => rfl
  | cons x L ih => obtain ⟨a, b⟩ := x; simp only [fsts, snds, List.map_cons, List.zip_cons_cons] at ih ⊢; rw [ih]
def pairT (L : List (Nat × Nat)) : PV := .tup [.str (fsts L), .str (snds L)]
section
variable {fns : Nat → Option Fn} {gl : Nat → Option PV} {l : Nat} {E : PV → Prop}
theorem c_normal (N : N_normal fns gl) {p g : W} (hp : LetM 2 p) (hl : p.length ≤ 80) (hg : ∀ s, s ∈ g → s = 112 ∨ s = 115) (hgl : g.length = p.length) {w : W} (hw : rowB (p.zip g) = w) (hb : w.length ≤ 4000) : callF fns gl (l + 6) 142 [.str p, .str g] = .ok (pairT (nmW w)) := by
  refine call_eq N.self rfl ?_
  have nP := c_need_pair (l := l + 2) N.n_need_pair hp hl hg hgl
  have ro := c_row_of (l := l) N.n_row_of (hp.let (by omega)) (by rw [hw]; exact hb) hg
  rw [hw] at ro
  have hLw : Let w := by rw [← hw]; exact rowB_let fun x hx => by have := hp x.1 (List.of_mem_zip (show (x.1, x.2) ∈ p.zip g from hx)).1; omega
  have bg := c_begun_of (l := l + 2) N.n_begun_of hLw (by omega)
  simp (disch := (first | assumption | omega | (simp only [List.length_append, List.length_cons, List.length_nil, List.length_take, List.length_drop, List.length_reverse, List.length_map, List.length_range, List.length_dropLast, List.length_replicate, List.length_set]; omega))) only [d_nil, d_cons, d_frz, d_kil, d_ret, d_set, d_own, d_par2, d_par3, d_unp, d_parn, d_pars, sn_nil, sn_cons, st_nil, st_nm, st_sub, d_seti, d_aug, d_augi, d_app, d_pop, d_expr, d_reto, d_rett, d_ifs, d_brk, d_doc, d_for, d_whl, d_popan, d_popas, d_popif, d_ext, e_con, e_var, e_bor, e_glo, e_bin, e_cmp, e_cmp2, e_neg, e_not, e_and, e_or, e_ifx, e_tup, e_lst, e_dic0, e_idx, e_cut, o_nop, o_some, e_rev, e_bi, e_me, e_call, e_draw, e_comp, es_nil, es_cons, r_seq, r_rng1, r_rng2, r_enum, r_zip, e_attr, e_mcall, e_twr, e_lrng, r_rngd, dw_ok, dw_err, kk_next, kk_ret, kk_brk, ite_t, ite_f, tn_next, tn_brk, tn_ret, Res.ofO_some, Res.ofO_none, Res.ok_bind, Res.pure_eq, Option.map_some, Option.map_none, Option.bind_some, bd_nm, bd_tp, bds_nil, bds_cons, slotsT, slotsTs, wipeS, isNop, if_true, Bool.false_eq_true, if_false, anyRaw, isRaw, Bool.or_false, Bool.false_or, Bool.false_and, Bool.true_and, Bool.and_true, Bool.and_false, Bool.or_true, Bool.true_or, Bool.not_true, Bool.not_false, decide_true, decide_false, meOk_s, meOk_l, meL, startS, List.map_cons, List.map_nil, List.cons_append, List.nil_append, List.replicate_succ, List.replicate_zero, Nat.reduceSub, Nat.reduceAdd, Nat.reduceMul, Nat.reduceDiv, Nat.reduceMod, Nat.reduceLT, Nat.reduceLeDiff, Nat.reduceBEq, Int.reduceToNat, Int.reduceNeg, Int.reduceLT, Int.reduceLE, Nat.not_lt_zero, true_and, and_true, implies_true, imp_self, List.getElem?_cons_zero, List.getElem?_cons_succ, lim_ok, rngL_len, List.length_map, List.length_cons, List.length_nil, Nat.zero_add, Nat.lt_irrefl, Nat.le_refl, beq_self_eq_true, bne_self_eq_false, gs0, gs1, gs2, gs3, gs4, gs5, gs6, gs7, gs8, gs9, gs10, gs11, gs12, gs13, gs14, gs15, gs16, ss0, ss1, ss2, ss3, ss4, ss5, ss6, ss7, ss8, ss9, ss10, ss11, ss12, ss13, ss14, ss15, ss16, shr_shr, shr_val, own_val, own_own, mkOwn_lst, mkOwn_dic, mkS_f, mkS_l, mkS_d, frz_own, frz_shr, lst_ok, row_ok, end_ret, end_next, rawV_f, rawV_s, rawV_i, rawV_b, rawV_n, v_addNL, v_addLN, v_addN, v_subNL, v_subN, v_mul2N, v_mulN, v_mulS, v_div2N, v_mod2N, v_addS, v_addL, v_addT, v_idxTl, v_iaddNL, v_iaddN, v_isubNL, v_isubN, v_eqS, v_neS, v_eqSN, v_isN, v_isS, v_isI, v_isL, v_isnN, v_isnS, v_isnI, v_isB, v_isnB, v_inS, v_ninS, v_inDS, v_ninDS, v_inDI, v_tBl, v_tNon, v_idxDS, v_idxDI, v_idxS, v_idxL, v_idxT, v_idxL0, v_idxT0, v_idxT1, v_idxS0, v_idxLl, v_lenS, v_lenL, v_lenT, v_lenD, v_revS, v_revL, v_tuple, v_listT, v_listL, v_intI, v_min2N, v_max2N, v_max20, v_itS, v_itL, v_itT, v_asI, v_neg, v_rng1, v_rng21, v_rng2, v_drw, v_app, v_setL, v_setDS, v_cutP, v_cutD, v_cutS, v_cutPL, v_cutPT, v_cutDT, v_cutS1, v_cutM1, v_eqI, v_neI, v_lt, v_le, v_gt, v_ge, beq_natCast, cst_eqL, cst_ltL, cst_leL, cst_gtL, cst_geL, cst_lt, cst_le, v_drwI, v_joinS, v_joinC, v_pre, v_end, v_any, v_all, v_sum, v_obj, v_attr, v_scount, v_listS, v_lrng, v_popAt, v_pop0, v_extL, v_sumT, f_normal, nP, ro, bg]
  refine for_map tupNS (fun d s => ∃ x y : Slt, s = [.shr (.str p), .shr (.str g), .shr (.str w), .shr (.str (fsts (nrmL w 0 d))), .shr (.str (snds (nrmL w 0 d))), .shr (.int (lastN 0 d : Int)), x, y]) (toldM w w.length) _ ⟨.no, .no, rfl⟩ ?_ ?_
  · rintro d x todo s e ⟨a, b, rfl⟩
    have hr := (told_rise w).last e
    have hlt : lastN 0 d < w.length := by omega
    have hll : (nrmL w 0 d).length ≤ 4000 := by
      have h1 := toldM_len w w.length
      rw [e, List.length_append] at h1
      rw [nrmL_len]; omega
    have h1 := fsts_len (nrmL w 0 d)
    have h2 := snds_len (nrmL w 0 d)
    rw [nrmL_snoc, fsts_snoc, snds_snoc, lastN_snoc]
    generalize fsts (nrmL w 0 d) = F at *
    generalize snds (nrmL w 0 d) = G at *
    generalize lastN 0 d = m at *
    unfold tupNS
    simp (disch := (first | assumption | omega | (simp only [List.length_append, List.length_cons, List.length_nil, List.length_take, List.length_drop, List.length_reverse, List.length_map, List.length_range, List.length_dropLast, List.length_replicate, List.length_set]; omega))) only [d_nil, d_cons, d_frz, d_kil, d_ret, d_set, d_own, d_par2, d_par3, d_unp, d_parn, d_pars, sn_nil, sn_cons, st_nil, st_nm, st_sub, d_seti, d_aug, d_augi, d_app, d_pop, d_expr, d_reto, d_rett, d_ifs, d_brk, d_doc, d_for, d_whl, d_popan, d_popas, d_popif, d_ext, e_con, e_var, e_bor, e_glo, e_bin, e_cmp, e_cmp2, e_neg, e_not, e_and, e_or, e_ifx, e_tup, e_lst, e_dic0, e_idx, e_cut, o_nop, o_some, e_rev, e_bi, e_me, e_call, e_draw, e_comp, es_nil, es_cons, r_seq, r_rng1, r_rng2, r_enum, r_zip, e_attr, e_mcall, e_twr, e_lrng, r_rngd, dw_ok, dw_err, kk_next, kk_ret, kk_brk, ite_t, ite_f, tn_next, tn_brk, tn_ret, Res.ofO_some, Res.ofO_none, Res.ok_bind, Res.pure_eq, Option.map_some, Option.map_none, Option.bind_some, bd_nm, bd_tp, bds_nil, bds_cons, slotsT, slotsTs, wipeS, isNop, if_true, Bool.false_eq_true, if_false, anyRaw, isRaw, Bool.or_false, Bool.false_or, Bool.false_and, Bool.true_and, Bool.and_true, Bool.and_false, Bool.or_true, Bool.true_or, Bool.not_true, Bool.not_false, decide_true, decide_false, meOk_s, meOk_l, meL, startS, List.map_cons, List.map_nil, List.cons_append, List.nil_append, List.replicate_succ, List.replicate_zero, Nat.reduceSub, Nat.reduceAdd, Nat.reduceMul, Nat.reduceDiv, Nat.reduceMod, Nat.reduceLT, Nat.reduceLeDiff, Nat.reduceBEq, Int.reduceToNat, Int.reduceNeg, Int.reduceLT, Int.reduceLE, Nat.not_lt_zero, true_and, and_true, implies_true, imp_self, List.getElem?_cons_zero, List.getElem?_cons_succ, lim_ok, rngL_len, List.length_map, List.length_cons, List.length_nil, Nat.zero_add, Nat.lt_irrefl, Nat.le_refl, beq_self_eq_true, bne_self_eq_false, gs0, gs1, gs2, gs3, gs4, gs5, gs6, gs7, gs8, gs9, gs10, gs11, gs12, gs13, gs14, gs15, gs16, ss0, ss1, ss2, ss3, ss4, ss5, ss6, ss7, ss8, ss9, ss10, ss11, ss12, ss13, ss14, ss15, ss16, shr_shr, shr_val, own_val, own_own, mkOwn_lst, mkOwn_dic, mkS_f, mkS_l, mkS_d, frz_own, frz_shr, lst_ok, row_ok, end_ret, end_next, rawV_f, rawV_s, rawV_i, rawV_b, rawV_n, v_addNL, v_addLN, v_addN, v_subNL, v_subN, v_mul2N, v_mulN, v_mulS, v_div2N, v_mod2N, v_addS, v_addL, v_addT, v_idxTl, v_iaddNL, v_iaddN, v_isubNL, v_isubN, v_eqS, v_neS, v_eqSN, v_isN, v_isS, v_isI, v_isL, v_isnN, v_isnS, v_isnI, v_isB, v_isnB, v_inS, v_ninS, v_inDS, v_ninDS, v_inDI, v_tBl, v_tNon, v_idxDS, v_idxDI, v_idxS, v_idxL, v_idxT, v_idxL0, v_idxT0, v_idxT1, v_idxS0, v_idxLl, v_lenS, v_lenL, v_lenT, v_lenD, v_revS, v_revL, v_tuple, v_listT, v_listL, v_intI, v_min2N, v_max2N, v_max20, v_itS, v_itL, v_itT, v_asI, v_neg, v_rng1, v_rng21, v_rng2, v_drw, v_app, v_setL, v_setDS, v_cutP, v_cutD, v_cutS, v_cutPL, v_cutPT, v_cutDT, v_cutS1, v_cutM1, v_eqI, v_neI, v_lt, v_le, v_gt, v_ge, beq_natCast, cst_eqL, cst_ltL, cst_leL, cst_gtL, cst_geL, cst_lt, cst_le, v_drwI, v_joinS, v_joinC, v_pre, v_end, v_any, v_all, v_sum, v_obj, v_attr, v_scount, v_listS, v_lrng, v_popAt, v_pop0, v_extL, v_sumT, f_normal_b1, v_idxS hlt]
    exact ⟨_, _, rfl⟩
  · rintro s ⟨x, y, rfl⟩
    simp (disch := (first | assumption | omega | (simp only [List.length_append, List.length_cons, List.length_nil, List.length_take, List.length_drop, List.length_reverse, List.length_map, List.length_range, List.length_dropLast, List.length_replicate, List.length_set]; omega))) only [d_nil, d_cons, d_frz, d_kil, d_ret, d_set, d_own, d_par2, d_par3, d_unp, d_parn, d_pars, sn_nil, sn_cons, st_nil, st_nm, st_sub, d_seti, d_aug, d_augi, d_app, d_pop, d_expr, d_reto, d_rett, d_ifs, d_brk, d_doc, d_for, d_whl, d_popan, d_popas, d_popif, d_ext, e_con, e_var, e_bor, e_glo, e_bin, e_cmp, e_cmp2, e_neg, e_not, e_and, e_or, e_ifx, e_tup, e_lst, e_dic0, e_idx, e_cut, o_nop, o_some, e_rev, e_bi, e_me, e_call, e_draw, e_comp, es_nil, es_cons, r_seq, r_rng1, r_rng2, r_enum, r_zip, e_attr, e_mcall, e_twr, e_lrng, r_rngd, dw_ok, dw_err, kk_next, kk_ret, kk_brk, ite_t, ite_f, tn_next, tn_brk, tn_ret, Res.ofO_some, Res.ofO_none, Res.ok_bind, Res.pure_eq, Option.map_some, Option.map_none, Option.bind_some, bd_nm, bd_tp, bds_nil, bds_cons, slotsT, slotsTs, wipeS, isNop, if_true, Bool.false_eq_true, if_false, anyRaw, isRaw, Bool.or_false, Bool.false_or, Bool.false_and, Bool.true_and, Bool.and_true, Bool.and_false, Bool.or_true, Bool.true_or, Bool.not_true, Bool.not_false, decide_true, decide_false, meOk_s, meOk_l, meL, startS, List.map_cons, List.map_nil, List.cons_append, List.nil_append, List.replicate_succ, List.replicate_zero, Nat.reduceSub, Nat.reduceAdd, Nat.reduceMul, Nat.reduceDiv, Nat.reduceMod, Nat.reduceLT, Nat.reduceLeDiff, Nat.reduceBEq, Int.reduceToNat, Int.reduceNeg, Int.reduceLT, Int.reduceLE, Nat.not_lt_zero, true_and, and_true, implies_true, imp_self, List.getElem?_cons_zero, List.getElem?_cons_succ, lim_ok, rngL_len, List.length_map, List.length_cons, List.length_nil, Nat.zero_add, Nat.lt_irrefl, Nat.le_refl, beq_self_eq_true, bne_self_eq_false, gs0, gs1, gs2, gs3, gs4, gs5, gs6, gs7, gs8, gs9, gs10, gs11, gs12, gs13, gs14, gs15, gs16, ss0, ss1, ss2, ss3, ss4, ss5, ss6, ss7, ss8, ss9, ss10, ss11, ss12, ss13, ss14, ss15, ss16, shr_shr, shr_val, own_val, own_own, mkOwn_lst, mkOwn_dic, mkS_f, mkS_l, mkS_d, frz_own, frz_shr, lst_ok, row_ok, end_ret, end_next, rawV_f, rawV_s, rawV_i, rawV_b, rawV_n, v_addNL, v_addLN, v_addN, v_subNL, v_subN, v_mul2N, v_mulN, v_mulS, v_div2N, v_mod2N, v_addS, v_addL, v_addT, v_idxTl, v_iaddNL, v_iaddN, v_isubNL, v_isubN, v_eqS, v_neS, v_eqSN, v_isN, v_isS, v_isI, v_isL, v_isnN, v_isnS, v_isnI, v_isB, v_isnB, v_inS, v_ninS, v_inDS, v_ninDS, v_inDI, v_tBl, v_tNon, v_idxDS, v_idxDI, v_idxS, v_idxL, v_idxT, v_idxL0, v_idxT0, v_idxT1, v_idxS0, v_idxLl, v_lenS, v_lenL, v_lenT, v_lenD, v_revS, v_revL, v_tuple, v_listT, v_listL, v_intI, v_min2N, v_max2N, v_max20, v_itS, v_itL, v_itT, v_asI, v_neg, v_rng1, v_rng21, v_rng2, v_drw, v_app, v_setL, v_setDS, v_cutP, v_cutD, v_cutS, v_cutPL, v_cutPT, v_cutDT, v_cutS1, v_cutM1, v_eqI, v_neI, v_lt, v_le, v_gt, v_ge, beq_natCast, cst_eqL, cst_ltL, cst_leL, cst_gtL, cst_geL, cst_lt, cst_le, v_drwI, v_joinS, v_joinC, v_pre, v_end, v_any, v_all, v_sum, v_obj, v_attr, v_scount, v_listS, v_lrng, v_popAt, v_pop0, v_extL, v_sumT]
    all_goals rfl
theorem c_is_normal (N : N_is_normal fns gl) {p g : W} (hp : LetM 2 p) (hl : p.length ≤ 80) (hg : ∀ s, s ∈ g → s = 112 ∨ s = 115) (hgl : g.length = p.length) {w : W} (hw : rowB (p.zip g) = w) (hb : w.length ≤ 4000) : callF fns gl (l + 7) 143 [.str p, .str g] = .ok (.bl (fsts (nmW w) == p && snds (nmW w) == g)) := by
  refine call_eq N.self rfl ?_
  have nm := c_normal (l := l) N.n_normal hp hl hg hgl hw hb
  unfold pairT at nm
  have ec : ∀ a b c d : W, cmpP .eq (.tup [.str a, .str b]) (.tup [.str c, .str d]) = some (a == c && b == d) := fun a b c d => by
    show some _ = _
    simp [peq, peqs]
  simp (disch := (first | assumption | omega | (simp only [List.length_append, List.length_cons, List.length_nil, List.length_take, List.length_drop, List.length_reverse, List.length_map, List.length_range, List.length_dropLast, List.length_replicate, List.length_set]; omega))) only [d_nil, d_cons, d_frz, d_kil, d_ret, d_set, d_own, d_par2, d_par3, d_unp, d_parn, d_pars, sn_nil, sn_cons, st_nil, st_nm, st_sub, d_seti, d_aug, d_augi, d_app, d_pop, d_expr, d_reto, d_rett, d_ifs, d_brk, d_doc, d_for, d_whl, d_popan, d_popas, d_popif, d_ext, e_con, e_var, e_bor, e_glo, e_bin, e_cmp, e_cmp2, e_neg, e_not, e_and, e_or, e_ifx, e_tup, e_lst, e_dic0, e_idx, e_cut, o_nop, o_some, e_rev, e_bi, e_me, e_call, e_draw, e_comp, es_nil, es_cons, r_seq, r_rng1, r_rng2, r_enum, r_zip, e_attr, e_mcall, e_twr, e_lrng, r_rngd, dw_ok, dw_err, kk_next, kk_ret, kk_brk, ite_t, ite_f, tn_next, tn_brk, tn_ret, Res.ofO_some, Res.ofO_none, Res.ok_bind, Res.pure_eq, Option.map_some, Option.map_none, Option.bind_some, bd_nm, bd_tp, bds_nil, bds_cons, slotsT, slotsTs, wipeS, isNop, if_true, Bool.false_eq_true, if_false, anyRaw, isRaw, Bool.or_false, Bool.false_or, Bool.false_and, Bool.true_and, Bool.and_true, Bool.and_false, Bool.or_true, Bool.true_or, Bool.not_true, Bool.not_false, decide_true, decide_false, meOk_s, meOk_l, meL, startS, List.map_cons, List.map_nil, List.cons_append, List.nil_append, List.replicate_succ, List.replicate_zero, Nat.reduceSub, Nat.reduceAdd, Nat.reduceMul, Nat.reduceDiv, Nat.reduceMod, Nat.reduceLT, Nat.reduceLeDiff, Nat.reduceBEq, Int.reduceToNat, Int.reduceNeg, Int.reduceLT, Int.reduceLE, Nat.not_lt_zero, true_and, and_true, implies_true, imp_self, List.getElem?_cons_zero, List.getElem?_cons_succ, lim_ok, rngL_len, List.length_map, List.length_cons, List.length_nil, Nat.zero_add, Nat.lt_irrefl, Nat.le_refl, beq_self_eq_true, bne_self_eq_false, gs0, gs1, gs2, gs3, gs4, gs5, gs6, gs7, gs8, gs9, gs10, gs11, gs12, gs13, gs14, gs15, gs16, ss0, ss1, ss2, ss3, ss4, ss5, ss6, ss7, ss8, ss9, ss10, ss11, ss12, ss13, ss14, ss15, ss16, shr_shr, shr_val, own_val, own_own, mkOwn_lst, mkOwn_dic, mkS_f, mkS_l, mkS_d, frz_own, frz_shr, lst_ok, row_ok, end_ret, end_next, rawV_f, rawV_s, rawV_i, rawV_b, rawV_n, v_addNL, v_addLN, v_addN, v_subNL, v_subN, v_mul2N, v_mulN, v_mulS, v_div2N, v_mod2N, v_addS, v_addL, v_addT, v_idxTl, v_iaddNL, v_iaddN, v_isubNL, v_isubN, v_eqS, v_neS, v_eqSN, v_isN, v_isS, v_isI, v_isL, v_isnN, v_isnS, v_isnI, v_isB, v_isnB, v_inS, v_ninS, v_inDS, v_ninDS, v_inDI, v_tBl, v_tNon, v_idxDS, v_idxDI, v_idxS, v_idxL, v_idxT, v_idxL0, v_idxT0, v_idxT1, v_idxS0, v_idxLl, v_lenS, v_lenL, v_lenT, v_lenD, v_revS, v_revL, v_tuple, v_listT, v_listL, v_intI, v_min2N, v_max2N, v_max20, v_itS, v_itL, v_itT, v_asI, v_neg, v_rng1, v_rng21, v_rng2, v_drw, v_app, v_setL, v_setDS, v_cutP, v_cutD, v_cutS, v_cutPL, v_cutPT, v_cutDT, v_cutS1, v_cutM1, v_eqI, v_neI, v_lt, v_le, v_gt, v_ge, beq_natCast, cst_eqL, cst_ltL, cst_leL, cst_gtL, cst_geL, cst_lt, cst_le, v_drwI, v_joinS, v_joinC, v_pre, v_end, v_any, v_all, v_sum, v_obj, v_attr, v_scount, v_listS, v_lrng, v_popAt, v_pop0, v_extL, v_sumT, f_is_normal, nm, ec]
end
end Ev
set_option autoImplicit false
set_option linter.all false
set_option Elab.async false
set_option maxRecDepth 100000
namespace Ev
open Pal
theorem okD_5 : okD 5 [] 0 = true := by decide +kernel
theorem rowQ_ok {L : List (Nat × Nat)} (hl : L.length ≤ 5) (h : ∀ x, x ∈ L → (x.1 = 97 ∨ x.1 = 98) ∧ (x.2 = 112 ∨ x.2 = 115)) : chB (rowB L) 0 (toldM (rowB L) (rowB L).length) = true ∧ lastN 0 (toldM (rowB L) (rowB L).length) = (rowB L).length ∧ L.length ≤ (toldM (rowB L) (rowB L).length).length := by
  have := okWn_tell (okD_tell 5 [] 0 okD_5 L hl h)
  rw [Nat.zero_add] at this
  exact this
theorem rowB_letQ {L : List (Nat × Nat)} (h : ∀ x, x ∈ L → 97 ≤ x.1 ∧ x.1 < 97 + 2) : LetM 2 (rowB L) := by
  revert h
  refine snoc_ind (M := fun L => (∀ x, x ∈ L → 97 ≤ x.1 ∧ x.1 < 97 + 2) → LetM 2 (rowB L)) (fun _ => LetM.nil) (fun L x ih h => ?_) L
  have hw : LetM 2 (rowB L ++ [x.1]) := (ih fun y hy => h y (by simp [hy])).snoc (h x (by simp))
  rw [rowB_snoc]
  intro c hc
  rcases List.mem_append.mp hc with hc | hc
  · exact hw c hc
  · obtain ⟨d, hd, rfl⟩ := List.mem_map.mp hc
    have hd := hw d (List.mem_of_mem_take (List.mem_reverse.mp hd))
    have : d = 97 ∨ d = 98 := by omega
    unfold kf
    split
    · exact hd
    · rcases this with rfl | rfl <;> decide
theorem nrmL_take (w : W) : ∀ (T : List (Nat × Nat)) (p k : Nat), nrmL w p (T.take k) = (nrmL w p T).take k
  | [], _, k => by simp [nrmL]
  | (n, s) :: r, p, 0 => rfl
  | (n, s) :: r, p, k + 1 => by rw [List.take_succ_cons, nrmL, nrmL, List.take_succ_cons, nrmL_take w r n k]
theorem snds_nrmL (w : W) : ∀ (T : List (Nat × Nat)) (p : Nat), snds (nrmL w p T) = snds T
  | [], _ => rfl
  | (n, s) :: r, p => by
    have := snds_nrmL w r n
    simp only [snds, nrmL, List.map_cons] at this ⊢
    rw [this]
theorem nrm_in {w : W} (hw : LetM 2 w) : ∀ x, x ∈ nmW w → (97 ≤ x.1 ∧ x.1 < 97 + 2) ∧ (x.2 = 112 ∨ x.2 = 115) := by
  have hr := told_rise w
  have key : ∀ d : List (Nat × Nat), ∀ todo, toldM w w.length = d ++ todo → ∀ x, x ∈ nrmL w 0 d → (97 ≤ x.1 ∧ x.1 < 97 + 2) ∧ (x.2 = 112 ∨ x.2 = 115) := by
    intro d
    refine snoc_ind (M := fun d => ∀ todo, toldM w w.length = d ++ todo → ∀ x, x ∈ nrmL w 0 d → (97 ≤ x.1 ∧ x.1 < 97 + 2) ∧ (x.2 = 112 ∨ x.2 = 115)) (fun _ _ x hx => by cases hx) (fun d y ih todo e x hx => ?_) d
    have e2 : toldM w w.length = d ++ y :: todo := by rw [e]; simp
    have hl := hr.last e2
    rw [nrmL_snoc, List.mem_append] at hx
    rcases hx with hx | hx
    · exact ih _ e2 x hx
    · rw [List.mem_singleton.mp hx]
      have hlt : lastN 0 d < w.length := by omega
      refine ⟨?_, hl.2.2⟩
      show 97 ≤ w.getD (lastN 0 d) 0 ∧ _
      have hg : w.getD (lastN 0 d) 0 = w[lastN 0 d] := by simp [List.getD_eq_getElem?_getD, hlt]
      rw [hg]
      exact hw _ (List.getElem_mem hlt)
  exact key _ [] (by rw [List.append_nil])
theorem nrm_row {w : W} (h1 : chB w 0 (toldM w w.length) = true) (k : Nat) : rowB ((nmW w).take k) = w.take (lastN 0 ((toldM w w.length).take k)) := by
  unfold nmW
  rw [← nrmL_take]
  exact row_chain (told_rise w) h1 (List.take_append_drop k _).symm
theorem nrm_all {w : W} (h1 : chB w 0 (toldM w w.length) = true) (h2 : lastN 0 (toldM w w.length) = w.length) : rowB (nmW w) = w := by
  have := nrm_row h1 (nmW w).length
  rw [List.take_length] at this
  rw [this]
  have e : (nmW w).length = (toldM w w.length).length := nrmL_len _ _ _
  rw [e, List.take_length, h2, List.take_length]
theorem dok_T (n : Nat) (T : List (Nat × Nat)) : (T.map tupNS).all (dok (n + 1)) = true := by
  rw [List.all_map, List.all_eq_true]; intro y _; cases n <;> rfl
theorem peqs_T : ∀ T : List (Nat × Nat), peqs (T.map tupNS) (T.map tupNS) = true
  | [] => rfl
  | x :: T => by
    have h : peq (tupNS x) (tupNS x) = true := by unfold tupNS; simp [peq, peqs]
    simp only [List.map_cons, peqs, h, peqs_T T, Bool.and_self]
theorem neT (T : List (Nat × Nat)) : cmpP .ne (.tup (T.map tupNS)) (.tup (T.map tupNS)) = some false := by
  have h1 : dok 60 (.tup (T.map tupNS)) = true := dok_T 58 T
  simp only [cmpP, h1, Bool.and_self, if_true, peq, peqs_T]
  rfl
theorem eqP (a b c d : W) : cmpP .eq (.tup [.str a, .str b]) (.tup [.str c, .str d]) = some (a == c && b == d) := by
  show some _ = _
  simp [peq, peqs]
end Ev
set_option autoImplicit false
set_option linter.all false
set_option Elab.async false
set_option maxRecDepth 100000
namespace Ev
open Pal
section
variable {fns : Nat → Option Fn} {gl : Nat → Option PV} {l : Nat} {E : PV → Prop}
theorem ps_chars {ys : List PV} (h : ∀ y, y ∈ ys → ∃ c, y = .str [c] ∧ (c = 112 ∨ c = 115)) : ∃ g : W, ys = g.map (fun c => PV.str [c]) ∧ ∀ s, s ∈ g → s = 112 ∨ s = 115 := by
  induction ys with
  | nil => exact ⟨[], rfl, fun s hs => by cases hs⟩
  | cons y ys ih =>
    obtain ⟨c, rfl, hc⟩ := h y (by simp)
    obtain ⟨g, rfl, hg⟩ := ih fun z hz => h z (by simp [hz])
    refine ⟨c :: g, rfl, fun s hs => ?_⟩
    rcases List.mem_cons.mp hs with rfl | hs
    · exact hc
    · exact hg s hs
theorem zip_take_fs (L : List (Nat × Nat)) (k : Nat) : ((fsts L).take k).zip ((snds L).take k) = L.take k := by
  rw [fsts, snds, ← List.map_take, ← List.map_take]
  exact zip_fs _
theorem law_k42_tail (N : N_k42 fns gl) {p g : W} (hp : LetM 2 p) (hl : p.length ≤ 5) (hg : ∀ s, s ∈ g → s = 112 ∨ s = 115) (hgl : g.length = p.length) {w : W} (hw : rowB (p.zip g) = w) (hwl : w.length ≤ 62) (F G : W) (hF : LetM 2 F) (hG : ∀ s, s ∈ G → s = 112 ∨ s = 115) (hFl : F.length ≤ 80) (hGl : G.length = F.length)
    (eF : fsts (nmW w) = F) (eG : snds (nmW w) = G) (hr : rowB (F.zip G) = w) (hge : p.length ≤ F.length) (x4 x9 : Slt) :
    Dw true (fun _ => False) (exSs gl (callF fns gl (l + 7)) [.no, .shr .row, .shr (.str p), .shr (.str g), x4, .shr (.str w), .shr (.tup [.str F, .str G]), .shr (.tup ((toldM w w.length).map tupNS)), .own (.lst ((toldM w w.length).map tupNS)), x9] b_k42_r1) (fun r => Dw true (fun _ => False) (endV r) (fun p => p = .bl true)) := by
  have rb := c_row_build (l := l + 1) N.n_row_build hF hFl hG hGl (by rw [hr]; omega)
  have nm := c_normal (l := l + 1) N.n_normal hF hFl hG hGl hr (by omega)
  have is1 := c_is_normal (l := l) N.n_is_normal hp (by omega) hg hgl hw (by omega)
  have is2 := c_is_normal (l := l) N.n_is_normal hF hFl hG hGl hr (by omega)
  rw [hr] at rb
  unfold pairT at nm
  rw [eF, eG] at nm is1 is2
  have e1 : (F == F && G == G) = true := by simp
  rw [e1] at is2
  have ne := neT (toldM w w.length)
  have li := c_is (l := l + 6) N.n_law_is (F == p && G == g)
  have tu : biP .tuple [.lst ((toldM w w.length).map tupNS)] = some (.tup ((toldM w w.length).map tupNS)) := rfl
  have hd : decide (p.length ≤ F.length) = true := decide_eq_true hge
  have isn : cmpP .isnot (.bl true) (.bl true) = some false := rfl
  generalize (toldM w w.length).map tupNS = T at *
  simp (disch := (first | assumption | omega | (simp only [List.length_append, List.length_cons, List.length_nil, List.length_take, List.length_drop, List.length_reverse, List.length_map, List.length_range, List.length_dropLast, List.length_replicate, List.length_set]; omega))) only [d_nil, d_cons, d_frz, d_kil, d_ret, d_set, d_own, d_par2, d_par3, d_unp, d_parn, d_pars, sn_nil, sn_cons, st_nil, st_nm, st_sub, d_seti, d_aug, d_augi, d_app, d_pop, d_expr, d_reto, d_rett, d_ifs, d_brk, d_doc, d_for, d_whl, d_popan, d_popas, d_popif, d_ext, e_con, e_var, e_bor, e_glo, e_bin, e_cmp, e_cmp2, e_neg, e_not, e_and, e_or, e_ifx, e_tup, e_lst, e_dic0, e_idx, e_cut, o_nop, o_some, e_rev, e_bi, e_me, e_call, e_draw, e_comp, es_nil, es_cons, r_seq, r_rng1, r_rng2, r_enum, r_zip, e_attr, e_mcall, e_twr, e_lrng, r_rngd, dw_ok, dw_err, kk_next, kk_ret, kk_brk, ite_t, ite_f, tn_next, tn_brk, tn_ret, Res.ofO_some, Res.ofO_none, Res.ok_bind, Res.pure_eq, Option.map_some, Option.map_none, Option.bind_some, bd_nm, bd_tp, bds_nil, bds_cons, slotsT, slotsTs, wipeS, isNop, if_true, Bool.false_eq_true, if_false, anyRaw, isRaw, Bool.or_false, Bool.false_or, Bool.false_and, Bool.true_and, Bool.and_true, Bool.and_false, Bool.or_true, Bool.true_or, Bool.not_true, Bool.not_false, decide_true, decide_false, meOk_s, meOk_l, meL, startS, List.map_cons, List.map_nil, List.cons_append, List.nil_append, List.replicate_succ, List.replicate_zero, Nat.reduceSub, Nat.reduceAdd, Nat.reduceMul, Nat.reduceDiv, Nat.reduceMod, Nat.reduceLT, Nat.reduceLeDiff, Nat.reduceBEq, Int.reduceToNat, Int.reduceNeg, Int.reduceLT, Int.reduceLE, Nat.not_lt_zero, true_and, and_true, implies_true, imp_self, List.getElem?_cons_zero, List.getElem?_cons_succ, lim_ok, rngL_len, List.length_map, List.length_cons, List.length_nil, Nat.zero_add, Nat.lt_irrefl, Nat.le_refl, beq_self_eq_true, bne_self_eq_false, gs0, gs1, gs2, gs3, gs4, gs5, gs6, gs7, gs8, gs9, gs10, gs11, gs12, gs13, gs14, gs15, gs16, ss0, ss1, ss2, ss3, ss4, ss5, ss6, ss7, ss8, ss9, ss10, ss11, ss12, ss13, ss14, ss15, ss16, shr_shr, shr_val, own_val, own_own, mkOwn_lst, mkOwn_dic, mkS_f, mkS_l, mkS_d, frz_own, frz_shr, lst_ok, row_ok, end_ret, end_next, rawV_f, rawV_s, rawV_i, rawV_b, rawV_n, v_addNL, v_addLN, v_addN, v_subNL, v_subN, v_mul2N, v_mulN, v_mulS, v_div2N, v_mod2N, v_addS, v_addL, v_addT, v_idxTl, v_iaddNL, v_iaddN, v_isubNL, v_isubN, v_eqS, v_neS, v_eqSN, v_isN, v_isS, v_isI, v_isL, v_isnN, v_isnS, v_isnI, v_isB, v_isnB, v_inS, v_ninS, v_inDS, v_ninDS, v_inDI, v_tBl, v_tNon, v_idxDS, v_idxDI, v_idxS, v_idxL, v_idxT, v_idxL0, v_idxT0, v_idxT1, v_idxS0, v_idxLl, v_lenS, v_lenL, v_lenT, v_lenD, v_revS, v_revL, v_tuple, v_listT, v_listL, v_intI, v_min2N, v_max2N, v_max20, v_itS, v_itL, v_itT, v_asI, v_neg, v_rng1, v_rng21, v_rng2, v_drw, v_app, v_setL, v_setDS, v_cutP, v_cutD, v_cutS, v_cutPL, v_cutPT, v_cutDT, v_cutS1, v_cutM1, v_eqI, v_neI, v_lt, v_le, v_gt, v_ge, beq_natCast, cst_eqL, cst_ltL, cst_leL, cst_gtL, cst_geL, cst_lt, cst_le, v_drwI, v_joinS, v_joinC, v_pre, v_end, v_any, v_all, v_sum, v_obj, v_attr, v_scount, v_listS, v_lrng, v_popAt, v_pop0, v_extL, v_sumT, b_k42_r1, rb, tu, ne, is1, eqP, li, is2, isn, nm, e1, hd]
theorem law_k42 (N : N_k42 fns gl) : Dw true (fun _ => False) (exSs gl (callF fns gl (l + 7)) b_k42_s b_k42 >>= endV) (fun p => p = .bl true) := by
  rw [dw_bind]
  simp (disch := (first | assumption | omega | (simp only [List.length_append, List.length_cons, List.length_nil, List.length_take, List.length_drop, List.length_reverse, List.length_map, List.length_range, List.length_dropLast, List.length_replicate, List.length_set]; omega))) only [d_nil, d_cons, d_frz, d_kil, d_ret, d_set, d_own, d_par2, d_par3, d_unp, d_parn, d_pars, sn_nil, sn_cons, st_nil, st_nm, st_sub, d_seti, d_aug, d_augi, d_app, d_pop, d_expr, d_reto, d_rett, d_ifs, d_brk, d_doc, d_for, d_whl, d_popan, d_popas, d_popif, d_ext, e_con, e_var, e_bor, e_glo, e_bin, e_cmp, e_cmp2, e_neg, e_not, e_and, e_or, e_ifx, e_tup, e_lst, e_dic0, e_idx, e_cut, o_nop, o_some, e_rev, e_bi, e_me, e_call, e_draw, e_comp, es_nil, es_cons, r_seq, r_rng1, r_rng2, r_enum, r_zip, e_attr, e_mcall, e_twr, e_lrng, r_rngd, dw_ok, dw_err, kk_next, kk_ret, kk_brk, ite_t, ite_f, tn_next, tn_brk, tn_ret, Res.ofO_some, Res.ofO_none, Res.ok_bind, Res.pure_eq, Option.map_some, Option.map_none, Option.bind_some, bd_nm, bd_tp, bds_nil, bds_cons, slotsT, slotsTs, wipeS, isNop, if_true, Bool.false_eq_true, if_false, anyRaw, isRaw, Bool.or_false, Bool.false_or, Bool.false_and, Bool.true_and, Bool.and_true, Bool.and_false, Bool.or_true, Bool.true_or, Bool.not_true, Bool.not_false, decide_true, decide_false, meOk_s, meOk_l, meL, startS, List.map_cons, List.map_nil, List.cons_append, List.nil_append, List.replicate_succ, List.replicate_zero, Nat.reduceSub, Nat.reduceAdd, Nat.reduceMul, Nat.reduceDiv, Nat.reduceMod, Nat.reduceLT, Nat.reduceLeDiff, Nat.reduceBEq, Int.reduceToNat, Int.reduceNeg, Int.reduceLT, Int.reduceLE, Nat.not_lt_zero, true_and, and_true, implies_true, imp_self, List.getElem?_cons_zero, List.getElem?_cons_succ, lim_ok, rngL_len, List.length_map, List.length_cons, List.length_nil, Nat.zero_add, Nat.lt_irrefl, Nat.le_refl, beq_self_eq_true, bne_self_eq_false, gs0, gs1, gs2, gs3, gs4, gs5, gs6, gs7, gs8, gs9, gs10, gs11, gs12, gs13, gs14, gs15, gs16, ss0, ss1, ss2, ss3, ss4, ss5, ss6, ss7, ss8, ss9, ss10, ss11, ss12, ss13, ss14, ss15, ss16, shr_shr, shr_val, own_val, own_own, mkOwn_lst, mkOwn_dic, mkS_f, mkS_l, mkS_d, frz_own, frz_shr, lst_ok, row_ok, end_ret, end_next, rawV_f, rawV_s, rawV_i, rawV_b, rawV_n, v_addNL, v_addLN, v_addN, v_subNL, v_subN, v_mul2N, v_mulN, v_mulS, v_div2N, v_mod2N, v_addS, v_addL, v_addT, v_idxTl, v_iaddNL, v_iaddN, v_isubNL, v_isubN, v_eqS, v_neS, v_eqSN, v_isN, v_isS, v_isI, v_isL, v_isnN, v_isnS, v_isnI, v_isB, v_isnB, v_inS, v_ninS, v_inDS, v_ninDS, v_inDI, v_tBl, v_tNon, v_idxDS, v_idxDI, v_idxS, v_idxL, v_idxT, v_idxL0, v_idxT0, v_idxT1, v_idxS0, v_idxLl, v_lenS, v_lenL, v_lenT, v_lenD, v_revS, v_revL, v_tuple, v_listT, v_listL, v_intI, v_min2N, v_max2N, v_max20, v_itS, v_itL, v_itT, v_asI, v_neg, v_rng1, v_rng21, v_rng2, v_drw, v_app, v_setL, v_setDS, v_cutP, v_cutD, v_cutS, v_cutPL, v_cutPT, v_cutDT, v_cutS1, v_cutM1, v_eqI, v_neI, v_lt, v_le, v_gt, v_ge, beq_natCast, cst_eqL, cst_ltL, cst_leL, cst_gtL, cst_geL, cst_lt, cst_le, v_drwI, v_joinS, v_joinC, v_pre, v_end, v_any, v_all, v_sum, v_obj, v_attr, v_scount, v_listS, v_lrng, v_popAt, v_pop0, v_extL, v_sumT, b_k42, b_k42_s]
  refine d_plan (l := l + 6) (most := 5) (many := 2) N.n_law_plan (by omega) (by omega) (by omega) fun p hl hp => ?_
  have hP := hp.let (show 2 ≤ 5 by omega)
  simp (disch := (first | assumption | omega | (simp only [List.length_append, List.length_cons, List.length_nil, List.length_take, List.length_drop, List.length_reverse, List.length_map, List.length_range, List.length_dropLast, List.length_replicate, List.length_set]; omega))) only [d_nil, d_cons, d_frz, d_kil, d_ret, d_set, d_own, d_par2, d_par3, d_unp, d_parn, d_pars, sn_nil, sn_cons, st_nil, st_nm, st_sub, d_seti, d_aug, d_augi, d_app, d_pop, d_expr, d_reto, d_rett, d_ifs, d_brk, d_doc, d_for, d_whl, d_popan, d_popas, d_popif, d_ext, e_con, e_var, e_bor, e_glo, e_bin, e_cmp, e_cmp2, e_neg, e_not, e_and, e_or, e_ifx, e_tup, e_lst, e_dic0, e_idx, e_cut, o_nop, o_some, e_rev, e_bi, e_me, e_call, e_draw, e_comp, es_nil, es_cons, r_seq, r_rng1, r_rng2, r_enum, r_zip, e_attr, e_mcall, e_twr, e_lrng, r_rngd, dw_ok, dw_err, kk_next, kk_ret, kk_brk, ite_t, ite_f, tn_next, tn_brk, tn_ret, Res.ofO_some, Res.ofO_none, Res.ok_bind, Res.pure_eq, Option.map_some, Option.map_none, Option.bind_some, bd_nm, bd_tp, bds_nil, bds_cons, slotsT, slotsTs, wipeS, isNop, if_true, Bool.false_eq_true, if_false, anyRaw, isRaw, Bool.or_false, Bool.false_or, Bool.false_and, Bool.true_and, Bool.and_true, Bool.and_false, Bool.or_true, Bool.true_or, Bool.not_true, Bool.not_false, decide_true, decide_false, meOk_s, meOk_l, meL, startS, List.map_cons, List.map_nil, List.cons_append, List.nil_append, List.replicate_succ, List.replicate_zero, Nat.reduceSub, Nat.reduceAdd, Nat.reduceMul, Nat.reduceDiv, Nat.reduceMod, Nat.reduceLT, Nat.reduceLeDiff, Nat.reduceBEq, Int.reduceToNat, Int.reduceNeg, Int.reduceLT, Int.reduceLE, Nat.not_lt_zero, true_and, and_true, implies_true, imp_self, List.getElem?_cons_zero, List.getElem?_cons_succ, lim_ok, rngL_len, List.length_map, List.length_cons, List.length_nil, Nat.zero_add, Nat.lt_irrefl, Nat.le_refl, beq_self_eq_true, bne_self_eq_false, gs0, gs1, gs2, gs3, gs4, gs5, gs6, gs7, gs8, gs9, gs10, gs11, gs12, gs13, gs14, gs15, gs16, ss0, ss1, ss2, ss3, ss4, ss5, ss6, ss7, ss8, ss9, ss10, ss11, ss12, ss13, ss14, ss15, ss16, shr_shr, shr_val, own_val, own_own, mkOwn_lst, mkOwn_dic, mkS_f, mkS_l, mkS_d, frz_own, frz_shr, lst_ok, row_ok, end_ret, end_next, rawV_f, rawV_s, rawV_i, rawV_b, rawV_n, v_addNL, v_addLN, v_addN, v_subNL, v_subN, v_mul2N, v_mulN, v_mulS, v_div2N, v_mod2N, v_addS, v_addL, v_addT, v_idxTl, v_iaddNL, v_iaddN, v_isubNL, v_isubN, v_eqS, v_neS, v_eqSN, v_isN, v_isS, v_isI, v_isL, v_isnN, v_isnS, v_isnI, v_isB, v_isnB, v_inS, v_ninS, v_inDS, v_ninDS, v_inDI, v_tBl, v_tNon, v_idxDS, v_idxDI, v_idxS, v_idxL, v_idxT, v_idxL0, v_idxT0, v_idxT1, v_idxS0, v_idxLl, v_lenS, v_lenL, v_lenT, v_lenD, v_revS, v_revL, v_tuple, v_listT, v_listL, v_intI, v_min2N, v_max2N, v_max20, v_itS, v_itL, v_itT, v_asI, v_neg, v_rng1, v_rng21, v_rng2, v_drw, v_app, v_setL, v_setDS, v_cutP, v_cutD, v_cutS, v_cutPL, v_cutPT, v_cutDT, v_cutS1, v_cutM1, v_eqI, v_neI, v_lt, v_le, v_gt, v_ge, beq_natCast, cst_eqL, cst_ltL, cst_leL, cst_gtL, cst_geL, cst_lt, cst_le, v_drwI, v_joinS, v_joinC, v_pre, v_end, v_any, v_all, v_sum, v_obj, v_attr, v_scount, v_listS, v_lrng, v_popAt, v_pop0, v_extL, v_sumT]
  refine comp_dw (fun v => ∃ c, v = .str [c] ∧ (c = 112 ∨ c = 115)) _ (fun x hx => ?_) fun ys hyl hy => ?_
  · obtain ⟨c, hc, rfl⟩ := List.mem_map.mp hx
    simp (disch := (first | assumption | omega | (simp only [List.length_append, List.length_cons, List.length_nil, List.length_take, List.length_drop, List.length_reverse, List.length_map, List.length_range, List.length_dropLast, List.length_replicate, List.length_set]; omega))) only [d_nil, d_cons, d_frz, d_kil, d_ret, d_set, d_own, d_par2, d_par3, d_unp, d_parn, d_pars, sn_nil, sn_cons, st_nil, st_nm, st_sub, d_seti, d_aug, d_augi, d_app, d_pop, d_expr, d_reto, d_rett, d_ifs, d_brk, d_doc, d_for, d_whl, d_popan, d_popas, d_popif, d_ext, e_con, e_var, e_bor, e_glo, e_bin, e_cmp, e_cmp2, e_neg, e_not, e_and, e_or, e_ifx, e_tup, e_lst, e_dic0, e_idx, e_cut, o_nop, o_some, e_rev, e_bi, e_me, e_call, e_draw, e_comp, es_nil, es_cons, r_seq, r_rng1, r_rng2, r_enum, r_zip, e_attr, e_mcall, e_twr, e_lrng, r_rngd, dw_ok, dw_err, kk_next, kk_ret, kk_brk, ite_t, ite_f, tn_next, tn_brk, tn_ret, Res.ofO_some, Res.ofO_none, Res.ok_bind, Res.pure_eq, Option.map_some, Option.map_none, Option.bind_some, bd_nm, bd_tp, bds_nil, bds_cons, slotsT, slotsTs, wipeS, isNop, if_true, Bool.false_eq_true, if_false, anyRaw, isRaw, Bool.or_false, Bool.false_or, Bool.false_and, Bool.true_and, Bool.and_true, Bool.and_false, Bool.or_true, Bool.true_or, Bool.not_true, Bool.not_false, decide_true, decide_false, meOk_s, meOk_l, meL, startS, List.map_cons, List.map_nil, List.cons_append, List.nil_append, List.replicate_succ, List.replicate_zero, Nat.reduceSub, Nat.reduceAdd, Nat.reduceMul, Nat.reduceDiv, Nat.reduceMod, Nat.reduceLT, Nat.reduceLeDiff, Nat.reduceBEq, Int.reduceToNat, Int.reduceNeg, Int.reduceLT, Int.reduceLE, Nat.not_lt_zero, true_and, and_true, implies_true, imp_self, List.getElem?_cons_zero, List.getElem?_cons_succ, lim_ok, rngL_len, List.length_map, List.length_cons, List.length_nil, Nat.zero_add, Nat.lt_irrefl, Nat.le_refl, beq_self_eq_true, bne_self_eq_false, gs0, gs1, gs2, gs3, gs4, gs5, gs6, gs7, gs8, gs9, gs10, gs11, gs12, gs13, gs14, gs15, gs16, ss0, ss1, ss2, ss3, ss4, ss5, ss6, ss7, ss8, ss9, ss10, ss11, ss12, ss13, ss14, ss15, ss16, shr_shr, shr_val, own_val, own_own, mkOwn_lst, mkOwn_dic, mkS_f, mkS_l, mkS_d, frz_own, frz_shr, lst_ok, row_ok, end_ret, end_next, rawV_f, rawV_s, rawV_i, rawV_b, rawV_n, v_addNL, v_addLN, v_addN, v_subNL, v_subN, v_mul2N, v_mulN, v_mulS, v_div2N, v_mod2N, v_addS, v_addL, v_addT, v_idxTl, v_iaddNL, v_iaddN, v_isubNL, v_isubN, v_eqS, v_neS, v_eqSN, v_isN, v_isS, v_isI, v_isL, v_isnN, v_isnS, v_isnI, v_isB, v_isnB, v_inS, v_ninS, v_inDS, v_ninDS, v_inDI, v_tBl, v_tNon, v_idxDS, v_idxDI, v_idxS, v_idxL, v_idxT, v_idxL0, v_idxT0, v_idxT1, v_idxS0, v_idxLl, v_lenS, v_lenL, v_lenT, v_lenD, v_revS, v_revL, v_tuple, v_listT, v_listL, v_intI, v_min2N, v_max2N, v_max20, v_itS, v_itL, v_itT, v_asI, v_neg, v_rng1, v_rng21, v_rng2, v_drw, v_app, v_setL, v_setDS, v_cutP, v_cutD, v_cutS, v_cutPL, v_cutPT, v_cutDT, v_cutS1, v_cutM1, v_eqI, v_neI, v_lt, v_le, v_gt, v_ge, beq_natCast, cst_eqL, cst_ltL, cst_leL, cst_gtL, cst_geL, cst_lt, cst_le, v_drwI, v_joinS, v_joinC, v_pre, v_end, v_any, v_all, v_sum, v_obj, v_attr, v_scount, v_listS, v_lrng, v_popAt, v_pop0, v_extL, v_sumT]
    refine ⟨rfl, ?_⟩
    refine d_pickS (l := l + 6) (w := [112, 115]) N.n_law_pick (by simp) (by simp) fun s hs => ?_
    exact ⟨s, rfl, by simpa using hs⟩
  obtain ⟨g, rfl, hg⟩ := ps_chars hy
  have hgl : g.length = p.length := by simpa using hyl
  have hzl : (p.zip g).length ≤ 5 := by rw [List.length_zip]; omega
  have hzm : ∀ x, x ∈ p.zip g → (x.1 = 97 ∨ x.1 = 98) ∧ (x.2 = 112 ∨ x.2 = 115) := fun x hx => by
    have h1 := hp x.1 (List.of_mem_zip (show (x.1, x.2) ∈ p.zip g from hx)).1
    exact ⟨by omega, hg x.2 (List.of_mem_zip (show (x.1, x.2) ∈ p.zip g from hx)).2⟩
  obtain ⟨ok1, ok2, ok3⟩ := rowQ_ok hzl hzm
  have hwl : (rowB (p.zip g)).length ≤ 62 := by
    have h1 := rowB_len (p.zip g)
    have h2 : 2 ^ (p.zip g).length ≤ 2 ^ 5 := Nat.pow_le_pow_right (by omega) hzl
    have h3 : (2 : Nat) ^ 5 = 32 := rfl
    omega
  have hz2 : (p.zip g).length = p.length := by rw [List.length_zip]; omega
  rw [hz2] at ok3
  have hL2 : LetM 2 (rowB (p.zip g)) := rowB_letQ fun x hx => hp x.1 (List.of_mem_zip (show (x.1, x.2) ∈ p.zip g from hx)).1
  have rb := c_row_build (l := l + 1) N.n_row_build hp (by omega) hg hgl (by omega)
  have nm := c_normal (l := l + 1) N.n_normal hp (by omega) hg hgl rfl (by omega)
  generalize hw : rowB (p.zip g) = w at *
  have bg := c_begun (l := l + 3) N.n_begun (hL2.let (by omega)) (by omega)
  have hnl : (nmW w).length = (toldM w w.length).length := nrmL_len _ _ _
  have hin := nrm_in hL2
  have hrow := fun k => nrm_row ok1 k
  have hFl := fsts_len (nmW w)
  have hGl := snds_len (nmW w)
  have hFi : LetM 2 (fsts (nmW w)) := fun c hc => by
    obtain ⟨x, hx, rfl⟩ := List.mem_map.mp hc
    exact (hin x hx).1
  have hGi : ∀ s, s ∈ snds (nmW w) → s = 112 ∨ s = 115 := fun c hc => by
    obtain ⟨x, hx, rfl⟩ := List.mem_map.mp hc
    exact (hin x hx).2
  have hz := zip_fs (nmW w)
  have hzt := zip_take_fs (nmW w)
  have hra := nrm_all ok1 ok2
  have hgs : snds (nmW w) = snds (toldM w w.length) := snds_nrmL _ _ _
  generalize eF : fsts (nmW w) = F at *
  generalize eG : snds (nmW w) = G at *
  unfold pairT at nm
  rw [eF, eG] at nm
  have rise := told_rise w
  have t2 : biP (.isinst [2]) [.str F] = some (.bl true) := rfl
  have t3 : biP (.isinst [3]) [.tup [.str F, .str G]] = some (.bl true) := rfl
  simp (disch := (first | assumption | omega | (simp only [List.length_append, List.length_cons, List.length_nil, List.length_take, List.length_drop, List.length_reverse, List.length_map, List.length_range, List.length_dropLast, List.length_replicate, List.length_set]; omega))) only [d_nil, d_cons, d_frz, d_kil, d_ret, d_set, d_own, d_par2, d_par3, d_unp, d_parn, d_pars, sn_nil, sn_cons, st_nil, st_nm, st_sub, d_seti, d_aug, d_augi, d_app, d_pop, d_expr, d_reto, d_rett, d_ifs, d_brk, d_doc, d_for, d_whl, d_popan, d_popas, d_popif, d_ext, e_con, e_var, e_bor, e_glo, e_bin, e_cmp, e_cmp2, e_neg, e_not, e_and, e_or, e_ifx, e_tup, e_lst, e_dic0, e_idx, e_cut, o_nop, o_some, e_rev, e_bi, e_me, e_call, e_draw, e_comp, es_nil, es_cons, r_seq, r_rng1, r_rng2, r_enum, r_zip, e_attr, e_mcall, e_twr, e_lrng, r_rngd, dw_ok, dw_err, kk_next, kk_ret, kk_brk, ite_t, ite_f, tn_next, tn_brk, tn_ret, Res.ofO_some, Res.ofO_none, Res.ok_bind, Res.pure_eq, Option.map_some, Option.map_none, Option.bind_some, bd_nm, bd_tp, bds_nil, bds_cons, slotsT, slotsTs, wipeS, isNop, if_true, Bool.false_eq_true, if_false, anyRaw, isRaw, Bool.or_false, Bool.false_or, Bool.false_and, Bool.true_and, Bool.and_true, Bool.and_false, Bool.or_true, Bool.true_or, Bool.not_true, Bool.not_false, decide_true, decide_false, meOk_s, meOk_l, meL, startS, List.map_cons, List.map_nil, List.cons_append, List.nil_append, List.replicate_succ, List.replicate_zero, Nat.reduceSub, Nat.reduceAdd, Nat.reduceMul, Nat.reduceDiv, Nat.reduceMod, Nat.reduceLT, Nat.reduceLeDiff, Nat.reduceBEq, Int.reduceToNat, Int.reduceNeg, Int.reduceLT, Int.reduceLE, Nat.not_lt_zero, true_and, and_true, implies_true, imp_self, List.getElem?_cons_zero, List.getElem?_cons_succ, lim_ok, rngL_len, List.length_map, List.length_cons, List.length_nil, Nat.zero_add, Nat.lt_irrefl, Nat.le_refl, beq_self_eq_true, bne_self_eq_false, gs0, gs1, gs2, gs3, gs4, gs5, gs6, gs7, gs8, gs9, gs10, gs11, gs12, gs13, gs14, gs15, gs16, ss0, ss1, ss2, ss3, ss4, ss5, ss6, ss7, ss8, ss9, ss10, ss11, ss12, ss13, ss14, ss15, ss16, shr_shr, shr_val, own_val, own_own, mkOwn_lst, mkOwn_dic, mkS_f, mkS_l, mkS_d, frz_own, frz_shr, lst_ok, row_ok, end_ret, end_next, rawV_f, rawV_s, rawV_i, rawV_b, rawV_n, v_addNL, v_addLN, v_addN, v_subNL, v_subN, v_mul2N, v_mulN, v_mulS, v_div2N, v_mod2N, v_addS, v_addL, v_addT, v_idxTl, v_iaddNL, v_iaddN, v_isubNL, v_isubN, v_eqS, v_neS, v_eqSN, v_isN, v_isS, v_isI, v_isL, v_isnN, v_isnS, v_isnI, v_isB, v_isnB, v_inS, v_ninS, v_inDS, v_ninDS, v_inDI, v_tBl, v_tNon, v_idxDS, v_idxDI, v_idxS, v_idxL, v_idxT, v_idxL0, v_idxT0, v_idxT1, v_idxS0, v_idxLl, v_lenS, v_lenL, v_lenT, v_lenD, v_revS, v_revL, v_tuple, v_listT, v_listL, v_intI, v_min2N, v_max2N, v_max20, v_itS, v_itL, v_itT, v_asI, v_neg, v_rng1, v_rng21, v_rng2, v_drw, v_app, v_setL, v_setDS, v_cutP, v_cutD, v_cutS, v_cutPL, v_cutPT, v_cutDT, v_cutS1, v_cutM1, v_eqI, v_neI, v_lt, v_le, v_gt, v_ge, beq_natCast, cst_eqL, cst_ltL, cst_leL, cst_gtL, cst_geL, cst_lt, cst_le, v_drwI, v_joinS, v_joinC, v_pre, v_end, v_any, v_all, v_sum, v_obj, v_attr, v_scount, v_listS, v_lrng, v_popAt, v_pop0, v_extL, v_sumT, rb, nm, t2, t3]
  refine ite_by (fun q => ?_) (fun q => ?_)
  · simp (disch := (first | assumption | omega | (simp only [List.length_append, List.length_cons, List.length_nil, List.length_take, List.length_drop, List.length_reverse, List.length_map, List.length_range, List.length_dropLast, List.length_replicate, List.length_set]; omega))) only [d_nil, d_cons, d_frz, d_kil, d_ret, d_set, d_own, d_par2, d_par3, d_unp, d_parn, d_pars, sn_nil, sn_cons, st_nil, st_nm, st_sub, d_seti, d_aug, d_augi, d_app, d_pop, d_expr, d_reto, d_rett, d_ifs, d_brk, d_doc, d_for, d_whl, d_popan, d_popas, d_popif, d_ext, e_con, e_var, e_bor, e_glo, e_bin, e_cmp, e_cmp2, e_neg, e_not, e_and, e_or, e_ifx, e_tup, e_lst, e_dic0, e_idx, e_cut, o_nop, o_some, e_rev, e_bi, e_me, e_call, e_draw, e_comp, es_nil, es_cons, r_seq, r_rng1, r_rng2, r_enum, r_zip, e_attr, e_mcall, e_twr, e_lrng, r_rngd, dw_ok, dw_err, kk_next, kk_ret, kk_brk, ite_t, ite_f, tn_next, tn_brk, tn_ret, Res.ofO_some, Res.ofO_none, Res.ok_bind, Res.pure_eq, Option.map_some, Option.map_none, Option.bind_some, bd_nm, bd_tp, bds_nil, bds_cons, slotsT, slotsTs, wipeS, isNop, if_true, Bool.false_eq_true, if_false, anyRaw, isRaw, Bool.or_false, Bool.false_or, Bool.false_and, Bool.true_and, Bool.and_true, Bool.and_false, Bool.or_true, Bool.true_or, Bool.not_true, Bool.not_false, decide_true, decide_false, meOk_s, meOk_l, meL, startS, List.map_cons, List.map_nil, List.cons_append, List.nil_append, List.replicate_succ, List.replicate_zero, Nat.reduceSub, Nat.reduceAdd, Nat.reduceMul, Nat.reduceDiv, Nat.reduceMod, Nat.reduceLT, Nat.reduceLeDiff, Nat.reduceBEq, Int.reduceToNat, Int.reduceNeg, Int.reduceLT, Int.reduceLE, Nat.not_lt_zero, true_and, and_true, implies_true, imp_self, List.getElem?_cons_zero, List.getElem?_cons_succ, lim_ok, rngL_len, List.length_map, List.length_cons, List.length_nil, Nat.zero_add, Nat.lt_irrefl, Nat.le_refl, beq_self_eq_true, bne_self_eq_false, gs0, gs1, gs2, gs3, gs4, gs5, gs6, gs7, gs8, gs9, gs10, gs11, gs12, gs13, gs14, gs15, gs16, ss0, ss1, ss2, ss3, ss4, ss5, ss6, ss7, ss8, ss9, ss10, ss11, ss12, ss13, ss14, ss15, ss16, shr_shr, shr_val, own_val, own_own, mkOwn_lst, mkOwn_dic, mkS_f, mkS_l, mkS_d, frz_own, frz_shr, lst_ok, row_ok, end_ret, end_next, rawV_f, rawV_s, rawV_i, rawV_b, rawV_n, v_addNL, v_addLN, v_addN, v_subNL, v_subN, v_mul2N, v_mulN, v_mulS, v_div2N, v_mod2N, v_addS, v_addL, v_addT, v_idxTl, v_iaddNL, v_iaddN, v_isubNL, v_isubN, v_eqS, v_neS, v_eqSN, v_isN, v_isS, v_isI, v_isL, v_isnN, v_isnS, v_isnI, v_isB, v_isnB, v_inS, v_ninS, v_inDS, v_ninDS, v_inDI, v_tBl, v_tNon, v_idxDS, v_idxDI, v_idxS, v_idxL, v_idxT, v_idxL0, v_idxT0, v_idxT1, v_idxS0, v_idxLl, v_lenS, v_lenL, v_lenT, v_lenD, v_revS, v_revL, v_tuple, v_listT, v_listL, v_intI, v_min2N, v_max2N, v_max20, v_itS, v_itL, v_itT, v_asI, v_neg, v_rng1, v_rng21, v_rng2, v_drw, v_app, v_setL, v_setDS, v_cutP, v_cutD, v_cutS, v_cutPL, v_cutPT, v_cutDT, v_cutS1, v_cutM1, v_eqI, v_neI, v_lt, v_le, v_gt, v_ge, beq_natCast, cst_eqL, cst_ltL, cst_leL, cst_gtL, cst_geL, cst_lt, cst_le, v_drwI, v_joinS, v_joinC, v_pre, v_end, v_any, v_all, v_sum, v_obj, v_attr, v_scount, v_listS, v_lrng, v_popAt, v_pop0, v_extL, v_sumT]
  · have h80 : F.length ≤ 80 := by simpa using q
    simp (disch := (first | assumption | omega | (simp only [List.length_append, List.length_cons, List.length_nil, List.length_take, List.length_drop, List.length_reverse, List.length_map, List.length_range, List.length_dropLast, List.length_replicate, List.length_set]; omega))) only [d_nil, d_cons, d_frz, d_kil, d_ret, d_set, d_own, d_par2, d_par3, d_unp, d_parn, d_pars, sn_nil, sn_cons, st_nil, st_nm, st_sub, d_seti, d_aug, d_augi, d_app, d_pop, d_expr, d_reto, d_rett, d_ifs, d_brk, d_doc, d_for, d_whl, d_popan, d_popas, d_popif, d_ext, e_con, e_var, e_bor, e_glo, e_bin, e_cmp, e_cmp2, e_neg, e_not, e_and, e_or, e_ifx, e_tup, e_lst, e_dic0, e_idx, e_cut, o_nop, o_some, e_rev, e_bi, e_me, e_call, e_draw, e_comp, es_nil, es_cons, r_seq, r_rng1, r_rng2, r_enum, r_zip, e_attr, e_mcall, e_twr, e_lrng, r_rngd, dw_ok, dw_err, kk_next, kk_ret, kk_brk, ite_t, ite_f, tn_next, tn_brk, tn_ret, Res.ofO_some, Res.ofO_none, Res.ok_bind, Res.pure_eq, Option.map_some, Option.map_none, Option.bind_some, bd_nm, bd_tp, bds_nil, bds_cons, slotsT, slotsTs, wipeS, isNop, if_true, Bool.false_eq_true, if_false, anyRaw, isRaw, Bool.or_false, Bool.false_or, Bool.false_and, Bool.true_and, Bool.and_true, Bool.and_false, Bool.or_true, Bool.true_or, Bool.not_true, Bool.not_false, decide_true, decide_false, meOk_s, meOk_l, meL, startS, List.map_cons, List.map_nil, List.cons_append, List.nil_append, List.replicate_succ, List.replicate_zero, Nat.reduceSub, Nat.reduceAdd, Nat.reduceMul, Nat.reduceDiv, Nat.reduceMod, Nat.reduceLT, Nat.reduceLeDiff, Nat.reduceBEq, Int.reduceToNat, Int.reduceNeg, Int.reduceLT, Int.reduceLE, Nat.not_lt_zero, true_and, and_true, implies_true, imp_self, List.getElem?_cons_zero, List.getElem?_cons_succ, lim_ok, rngL_len, List.length_map, List.length_cons, List.length_nil, Nat.zero_add, Nat.lt_irrefl, Nat.le_refl, beq_self_eq_true, bne_self_eq_false, gs0, gs1, gs2, gs3, gs4, gs5, gs6, gs7, gs8, gs9, gs10, gs11, gs12, gs13, gs14, gs15, gs16, ss0, ss1, ss2, ss3, ss4, ss5, ss6, ss7, ss8, ss9, ss10, ss11, ss12, ss13, ss14, ss15, ss16, shr_shr, shr_val, own_val, own_own, mkOwn_lst, mkOwn_dic, mkS_f, mkS_l, mkS_d, frz_own, frz_shr, lst_ok, row_ok, end_ret, end_next, rawV_f, rawV_s, rawV_i, rawV_b, rawV_n, v_addNL, v_addLN, v_addN, v_subNL, v_subN, v_mul2N, v_mulN, v_mulS, v_div2N, v_mod2N, v_addS, v_addL, v_addT, v_idxTl, v_iaddNL, v_iaddN, v_isubNL, v_isubN, v_eqS, v_neS, v_eqSN, v_isN, v_isS, v_isI, v_isL, v_isnN, v_isnS, v_isnI, v_isB, v_isnB, v_inS, v_ninS, v_inDS, v_ninDS, v_inDI, v_tBl, v_tNon, v_idxDS, v_idxDI, v_idxS, v_idxL, v_idxT, v_idxL0, v_idxT0, v_idxT1, v_idxS0, v_idxLl, v_lenS, v_lenL, v_lenT, v_lenD, v_revS, v_revL, v_tuple, v_listT, v_listL, v_intI, v_min2N, v_max2N, v_max20, v_itS, v_itL, v_itT, v_asI, v_neg, v_rng1, v_rng21, v_rng2, v_drw, v_app, v_setL, v_setDS, v_cutP, v_cutD, v_cutS, v_cutPL, v_cutPT, v_cutDT, v_cutS1, v_cutM1, v_eqI, v_neI, v_lt, v_le, v_gt, v_ge, beq_natCast, cst_eqL, cst_ltL, cst_leL, cst_gtL, cst_geL, cst_lt, cst_le, v_drwI, v_joinS, v_joinC, v_pre, v_end, v_any, v_all, v_sum, v_obj, v_attr, v_scount, v_listS, v_lrng, v_popAt, v_pop0, v_extL, v_sumT, bg]
    refine for_rng0 _ (fun k s => ∃ x, s = [.no, .shr .row, .shr (.str p), .shr (.str g), .no, .shr (.str w), .shr (.tup [.str F, .str G]), .shr (.tup ((toldM w w.length).map tupNS)), .own (.lst (((toldM w w.length).take k).map tupNS)), x]) _ ⟨.no, by rw [List.take_zero]; rfl⟩ ?_ ?_
    · rintro k s hk ⟨x, rfl⟩
      have hkT : k < (toldM w w.length).length := by omega
      have eT : (toldM w w.length).take (k + 1) = (toldM w w.length).take k ++ [(toldM w w.length)[k]] := List.take_succ_eq_append_getElem hkT
      have eD : toldM w w.length = (toldM w w.length).take k ++ (toldM w w.length)[k] :: (toldM w w.length).drop (k + 1) := by
        rw [← List.drop_eq_getElem_cons hkT, List.take_append_drop]
      have hls := rise.last eD
      have hr1 := hrow (k + 1)
      rw [eT, lastN_snoc] at hr1
      have rbk := c_row_build (l := l + 1) N.n_row_build (p := F.take (k + 1)) (g := G.take (k + 1)) (fun c hc => hFi c (List.mem_of_mem_take hc)) (by simp; omega) (fun c hc => hGi c (List.mem_of_mem_take hc)) (by simp; omega) (by rw [hzt, hr1]; simp; omega)
      rw [hzt, hr1] at rbk
      have hgk : G.getD k 0 = ((toldM w w.length)[k]).2 := by
        rw [hgs, snds, List.getD_eq_getElem?_getD, List.getElem?_map, List.getElem?_eq_getElem hkT]; rfl
      have hlw : (w.take ((toldM w w.length)[k]).1).length = ((toldM w w.length)[k]).1 := by rw [List.length_take]; omega
      have hkl : k < G.length := by omega
      rw [eT, List.map_append, List.map_singleton]
      have hTl : (((toldM w w.length).take k).map tupNS).length ≤ 100 := by simp; omega
      generalize ((toldM w w.length).take k).map tupNS = A at *
      generalize (toldM w w.length).map tupNS = T at *
      simp (disch := (first | assumption | omega | (simp only [List.length_append, List.length_cons, List.length_nil, List.length_take, List.length_drop, List.length_reverse, List.length_map, List.length_range, List.length_dropLast, List.length_replicate, List.length_set]; omega))) only [d_nil, d_cons, d_frz, d_kil, d_ret, d_set, d_own, d_par2, d_par3, d_unp, d_parn, d_pars, sn_nil, sn_cons, st_nil, st_nm, st_sub, d_seti, d_aug, d_augi, d_app, d_pop, d_expr, d_reto, d_rett, d_ifs, d_brk, d_doc, d_for, d_whl, d_popan, d_popas, d_popif, d_ext, e_con, e_var, e_bor, e_glo, e_bin, e_cmp, e_cmp2, e_neg, e_not, e_and, e_or, e_ifx, e_tup, e_lst, e_dic0, e_idx, e_cut, o_nop, o_some, e_rev, e_bi, e_me, e_call, e_draw, e_comp, es_nil, es_cons, r_seq, r_rng1, r_rng2, r_enum, r_zip, e_attr, e_mcall, e_twr, e_lrng, r_rngd, dw_ok, dw_err, kk_next, kk_ret, kk_brk, ite_t, ite_f, tn_next, tn_brk, tn_ret, Res.ofO_some, Res.ofO_none, Res.ok_bind, Res.pure_eq, Option.map_some, Option.map_none, Option.bind_some, bd_nm, bd_tp, bds_nil, bds_cons, slotsT, slotsTs, wipeS, isNop, if_true, Bool.false_eq_true, if_false, anyRaw, isRaw, Bool.or_false, Bool.false_or, Bool.false_and, Bool.true_and, Bool.and_true, Bool.and_false, Bool.or_true, Bool.true_or, Bool.not_true, Bool.not_false, decide_true, decide_false, meOk_s, meOk_l, meL, startS, List.map_cons, List.map_nil, List.cons_append, List.nil_append, List.replicate_succ, List.replicate_zero, Nat.reduceSub, Nat.reduceAdd, Nat.reduceMul, Nat.reduceDiv, Nat.reduceMod, Nat.reduceLT, Nat.reduceLeDiff, Nat.reduceBEq, Int.reduceToNat, Int.reduceNeg, Int.reduceLT, Int.reduceLE, Nat.not_lt_zero, true_and, and_true, implies_true, imp_self, List.getElem?_cons_zero, List.getElem?_cons_succ, lim_ok, rngL_len, List.length_map, List.length_cons, List.length_nil, Nat.zero_add, Nat.lt_irrefl, Nat.le_refl, beq_self_eq_true, bne_self_eq_false, gs0, gs1, gs2, gs3, gs4, gs5, gs6, gs7, gs8, gs9, gs10, gs11, gs12, gs13, gs14, gs15, gs16, ss0, ss1, ss2, ss3, ss4, ss5, ss6, ss7, ss8, ss9, ss10, ss11, ss12, ss13, ss14, ss15, ss16, shr_shr, shr_val, own_val, own_own, mkOwn_lst, mkOwn_dic, mkS_f, mkS_l, mkS_d, frz_own, frz_shr, lst_ok, row_ok, end_ret, end_next, rawV_f, rawV_s, rawV_i, rawV_b, rawV_n, v_addNL, v_addLN, v_addN, v_subNL, v_subN, v_mul2N, v_mulN, v_mulS, v_div2N, v_mod2N, v_addS, v_addL, v_addT, v_idxTl, v_iaddNL, v_iaddN, v_isubNL, v_isubN, v_eqS, v_neS, v_eqSN, v_isN, v_isS, v_isI, v_isL, v_isnN, v_isnS, v_isnI, v_isB, v_isnB, v_inS, v_ninS, v_inDS, v_ninDS, v_inDI, v_tBl, v_tNon, v_idxDS, v_idxDI, v_idxS, v_idxL, v_idxT, v_idxL0, v_idxT0, v_idxT1, v_idxS0, v_idxLl, v_lenS, v_lenL, v_lenT, v_lenD, v_revS, v_revL, v_tuple, v_listT, v_listL, v_intI, v_min2N, v_max2N, v_max20, v_itS, v_itL, v_itT, v_asI, v_neg, v_rng1, v_rng21, v_rng2, v_drw, v_app, v_setL, v_setDS, v_cutP, v_cutD, v_cutS, v_cutPL, v_cutPT, v_cutDT, v_cutS1, v_cutM1, v_eqI, v_neI, v_lt, v_le, v_gt, v_ge, beq_natCast, cst_eqL, cst_ltL, cst_leL, cst_gtL, cst_geL, cst_lt, cst_le, v_drwI, v_joinS, v_joinC, v_pre, v_end, v_any, v_all, v_sum, v_obj, v_attr, v_scount, v_listS, v_lrng, v_popAt, v_pop0, v_extL, v_sumT, b_k42_b1, rbk, hlw, v_idxS hkl, hgk]
      exact ⟨_, rfl⟩
    · rintro s ⟨x, rfl⟩
      rw [show F.length = (toldM w w.length).length by omega, List.take_length]
      exact law_k42_tail N hp hl hg hgl hw hwl F G hFi hGi h80 (by omega) eF eG (by rw [hz]; exact hra) (by omega) _ _
end
end Ev
set_option autoImplicit false
set_option linter.all false
set_option Elab.async false
/-! EvV: a law shown by a run on symbols. -/
namespace Ev
theorem vok_of {T : Text} {l : Nat} (h : ∀ C, Dw true (fun _ => False) (T.run C l) (fun p => p = .bl true)) : Vok T l :=
  ⟨fun C => Res.wp_imp (dw_wp (h C)) fun p hp => by rw [hp]; rfl⟩
end Ev

set_option autoImplicit false
set_option linter.all false
set_option Elab.async false
set_option maxRecDepth 100000
set_option maxHeartbeats 0
namespace EvLaw
open PySem PySem.Spec PyProof.Rows L2 Ev
def top (i : Nat) : Stmt := PySem.Challenge.pw_palbuilds_k42_whole_normal_rows.main.body.getD i (.Pass ⟨0, 0, 0, 0⟩)
def d_law_is : Df := { id := 2, x := "_law_is", params := defArgs (top 32), body := defBody (top 32), sc := defScope (top 32), N := ["_law_found", "_law_due"], fn := f_law_is }
def d_law_pick : Df := { id := 18, x := "_law_pick", params := defArgs (top 31), body := defBody (top 31), sc := defScope (top 31), N := ["_law_row", "_law_things"], fn := f_law_pick }
def d_law_plan : Df := { id := 19, x := "_law_plan", params := defArgs (top 33), body := defBody (top 33), sc := defScope (top 33), N := ["_law_row", "_law_most", "_law_many", "_law_found", "_law_last", "_law_turn"], fn := f_law_plan }
def d_swapped : Df := { id := 120, x := "swapped", params := defArgs (top 14), body := defBody (top 14), sc := defScope (top 14), N := ["word", "swap", "letter"], fn := f_swapped }
def d_turned : Df := { id := 121, x := "turned", params := defArgs (top 15), body := defBody (top 15), sc := defScope (top 15), N := ["word", "swap"], fn := f_turned }
def d_begun_of : Df := { id := 135, x := "begun_of", params := defArgs (top 25), body := defBody (top 25), sc := defScope (top 25), N := ["word", "found", "size"], fn := f_begun_of }
def d_first_wrong : Df := { id := 7, x := "first_wrong", params := defArgs (top 10), body := defBody (top 10), sc := defScope (top 10), N := ["value", "place", "sign"], fn := f_first_wrong }
def d_need_word : Df := { id := 8, x := "need_word", params := defArgs (top 11), body := defBody (top 11), sc := defScope (top 11), N := ["value"], fn := f_need_word }
def d_begun : Df := { id := 136, x := "begun", params := defArgs (top 26), body := defBody (top 26), sc := defScope (top 26), N := ["word"], fn := f_begun }
def d_need_plan : Df := { id := 22, x := "need_plan", params := defArgs (top 12), body := defBody (top 12), sc := defScope (top 12), N := ["value"], fn := f_need_plan }
def d_need_pair : Df := { id := 138, x := "need_pair", params := defArgs (top 22), body := defBody (top 22), sc := defScope (top 22), N := ["plan", "mirrors", "place", "letter", "sign"], fn := f_need_pair }
def d_rest_of : Df := { id := 126, x := "rest_of", params := defArgs (top 16), body := defBody (top 16), sc := defScope (top 16), N := ["word", "swap", "other", "rest"], fn := f_rest_of }
def d_swap_closed_of : Df := { id := 127, x := "swap_closed_of", params := defArgs (top 17), body := defBody (top 17), sc := defScope (top 17), N := ["word", "swap"], fn := f_swap_closed_of }
def d_row_of : Df := { id := 139, x := "row_of", params := defArgs (top 23), body := defBody (top 23), sc := defScope (top 23), N := ["plan", "mirrors", "found", "letter", "sign"], fn := f_row_of }
def d_normal : Df := { id := 142, x := "normal", params := defArgs (top 27), body := defBody (top 27), sc := defScope (top 27), N := ["plan", "mirrors", "word", "letters", "signs", "before", "size", "sign"], fn := f_normal }
def d_is_normal : Df := { id := 143, x := "is_normal", params := defArgs (top 28), body := defBody (top 28), sc := defScope (top 28), N := ["plan", "mirrors"], fn := f_is_normal }
def d_row_build : Df := { id := 140, x := "row_build", params := defArgs (top 24), body := defBody (top 24), sc := defScope (top 24), N := ["plan", "mirrors"], fn := f_row_build }
def dTaken : Df := { id := 0, x := "_law_taken", params := defArgs (top 30), body := defBody (top 30), sc := defScope (top 30), N := ["_law_row", "_law_many", "_law_found", "_law_cell"], fn := { np := 2, ns := 4, fresh := false, body := .nil } }
def dLaw : Df := { id := 0, x := "law", params := defArgs (top 34), body := defBody (top 34), sc := defScope (top 34), N := ["_law_script", "_law_row", "_law_plan_here", "_law_signs", "_law_letter", "_law_word", "_law_found", "_law_told", "_law_sizes", "_law_at"], fn := { np := 1, ns := 10, fresh := false, body := .nil } }
def txt : Text := { ds := [d_law_is, d_law_pick, d_law_plan, d_swapped, d_turned, d_begun_of, d_first_wrong, d_need_word, d_begun, d_need_plan, d_need_pair, d_rest_of, d_swap_closed_of, d_row_of, d_normal, d_is_normal, d_row_build], tk := dTaken, lw := dLaw, gv := [(0, "LETTERS", .str [97, 98, 99, 100, 101]), (13, "SWAPPED", .str [98, 97, 99, 100, 101]), (1, "MOST_WORD", .int 2000), (2, "MOST_PLAN", .int 80), (15, "PLAIN", .str [97, 98, 99, 100, 101]), (16, "MOST_ROW", .int 4000)], row := 1, body := b_k42 }
theorem txt_ok : txt.ok = true := by decide +kernel
theorem b_d_law_is : BindsOk d_law_is := fun _ _ _ _ _ _ us hl => match us, hl with | [_, _], _ => rfl
theorem b_d_law_pick : BindsOk d_law_pick := fun _ _ _ _ _ _ us hl => match us, hl with | [_, _], _ => rfl
theorem b_d_law_plan : BindsOk d_law_plan := fun _ _ _ _ _ _ us hl => match us, hl with | [_, _, _], _ => rfl
theorem b_d_swapped : BindsOk d_swapped := fun _ _ _ _ _ _ us hl => match us, hl with | [_, _], _ => rfl
theorem b_d_turned : BindsOk d_turned := fun _ _ _ _ _ _ us hl => match us, hl with | [_, _], _ => rfl
theorem b_d_begun_of : BindsOk d_begun_of := fun _ _ _ _ _ _ us hl => match us, hl with | [_], _ => rfl
theorem b_d_first_wrong : BindsOk d_first_wrong := fun _ _ _ _ _ _ us hl => match us, hl with | [_], _ => rfl
theorem b_d_need_word : BindsOk d_need_word := fun _ _ _ _ _ _ us hl => match us, hl with | [_], _ => rfl
theorem b_d_begun : BindsOk d_begun := fun _ _ _ _ _ _ us hl => match us, hl with | [_], _ => rfl
theorem b_d_need_plan : BindsOk d_need_plan := fun _ _ _ _ _ _ us hl => match us, hl with | [_], _ => rfl
theorem b_d_need_pair : BindsOk d_need_pair := fun _ _ _ _ _ _ us hl => match us, hl with | [_, _], _ => rfl
theorem b_d_rest_of : BindsOk d_rest_of := fun _ _ _ _ _ _ us hl => match us, hl with | [_, _], _ => rfl
theorem b_d_swap_closed_of : BindsOk d_swap_closed_of := fun _ _ _ _ _ _ us hl => match us, hl with | [_, _], _ => rfl
theorem b_d_row_of : BindsOk d_row_of := fun _ _ _ _ _ _ us hl => match us, hl with | [_, _], _ => rfl
theorem b_d_normal : BindsOk d_normal := fun _ _ _ _ _ _ us hl => match us, hl with | [_, _], _ => rfl
theorem b_d_is_normal : BindsOk d_is_normal := fun _ _ _ _ _ _ us hl => match us, hl with | [_, _], _ => rfl
theorem b_d_row_build : BindsOk d_row_build := fun _ _ _ _ _ _ us hl => match us, hl with | [_, _], _ => rfl
theorem b_taken : BindsOk dTaken := fun _ _ _ _ _ _ us hl => match us, hl with | [_, _], _ => rfl
theorem b_law : BindsOk dLaw := fun _ _ _ _ _ _ us hl => match us, hl with | [_], _ => rfl
theorem b_all : AllB txt.bs := ⟨b_d_law_is, ⟨b_d_law_pick, ⟨b_d_law_plan, ⟨b_d_swapped, ⟨b_d_turned, ⟨b_d_begun_of, ⟨b_d_first_wrong, ⟨b_d_need_word, ⟨b_d_begun, ⟨b_d_need_plan, ⟨b_d_need_pair, ⟨b_d_rest_of, ⟨b_d_swap_closed_of, ⟨b_d_row_of, ⟨b_d_normal, ⟨b_d_is_normal, ⟨b_d_row_build, trivial⟩⟩⟩⟩⟩⟩⟩⟩⟩⟩⟩⟩⟩⟩⟩⟩⟩
def lvl : Nat := 8
theorem nn_law_is (C : Nat) : N_law_is (fnT (allT txt.ds txt.tw)) (glT txt.tw C txt.gv) := ⟨rfl⟩
theorem nn_law_pick (C : Nat) : N_law_pick (fnT (allT txt.ds txt.tw)) (glT txt.tw C txt.gv) := ⟨rfl⟩
theorem nn_law_plan (C : Nat) : N_law_plan (fnT (allT txt.ds txt.tw)) (glT txt.tw C txt.gv) := ⟨rfl⟩
theorem nn_swapped (C : Nat) : N_swapped (fnT (allT txt.ds txt.tw)) (glT txt.tw C txt.gv) := ⟨rfl, rfl⟩
theorem nn_turned (C : Nat) : N_turned (fnT (allT txt.ds txt.tw)) (glT txt.tw C txt.gv) := ⟨rfl, nn_swapped C⟩
theorem nn_begun_of (C : Nat) : N_begun_of (fnT (allT txt.ds txt.tw)) (glT txt.tw C txt.gv) := ⟨rfl, nn_turned C, rfl⟩
theorem nn_first_wrong (C : Nat) : N_first_wrong (fnT (allT txt.ds txt.tw)) (glT txt.tw C txt.gv) := ⟨rfl, rfl⟩
theorem nn_need_word (C : Nat) : N_need_word (fnT (allT txt.ds txt.tw)) (glT txt.tw C txt.gv) := ⟨rfl, nn_first_wrong C, rfl⟩
theorem nn_begun (C : Nat) : N_begun (fnT (allT txt.ds txt.tw)) (glT txt.tw C txt.gv) := ⟨rfl, nn_begun_of C, nn_need_word C⟩
theorem nn_need_plan (C : Nat) : N_need_plan (fnT (allT txt.ds txt.tw)) (glT txt.tw C txt.gv) := ⟨rfl, nn_first_wrong C, rfl⟩
theorem nn_need_pair (C : Nat) : N_need_pair (fnT (allT txt.ds txt.tw)) (glT txt.tw C txt.gv) := ⟨rfl, nn_need_plan C⟩
theorem nn_rest_of (C : Nat) : N_rest_of (fnT (allT txt.ds txt.tw)) (glT txt.tw C txt.gv) := ⟨rfl, nn_turned C⟩
theorem nn_swap_closed_of (C : Nat) : N_swap_closed_of (fnT (allT txt.ds txt.tw)) (glT txt.tw C txt.gv) := ⟨rfl, nn_rest_of C, nn_turned C⟩
theorem nn_row_of (C : Nat) : N_row_of (fnT (allT txt.ds txt.tw)) (glT txt.tw C txt.gv) := ⟨rfl, nn_swap_closed_of C, rfl, rfl, rfl⟩
theorem nn_normal (C : Nat) : N_normal (fnT (allT txt.ds txt.tw)) (glT txt.tw C txt.gv) := ⟨rfl, nn_begun_of C, nn_need_pair C, nn_row_of C⟩
theorem nn_is_normal (C : Nat) : N_is_normal (fnT (allT txt.ds txt.tw)) (glT txt.tw C txt.gv) := ⟨rfl, nn_normal C⟩
theorem nn_row_build (C : Nat) : N_row_build (fnT (allT txt.ds txt.tw)) (glT txt.tw C txt.gv) := ⟨rfl, nn_need_pair C, nn_row_of C⟩
theorem nn_k42 (C : Nat) : N_k42 (fnT (allT txt.ds txt.tw)) (glT txt.tw C txt.gv) := ⟨nn_law_is C, nn_law_pick C, nn_law_plan C, nn_begun C, nn_is_normal C, nn_normal C, nn_row_build C⟩
theorem value : Vok txt lvl := vok_of fun C => law_k42 (l := 1) (nn_k42 C)
end EvLaw
set_option autoImplicit false
set_option linter.all false
set_option Elab.async false
set_option maxRecDepth 100000
set_option maxHeartbeats 0
namespace EvLaw
open PySem PySem.Spec PyProof.Rows L2 Ev
abbrev fnH : List He.DefD := fnL txt.ds txt.tw txt.tk txt.lw
abbrev faH : List He.Fa := faT txt.ds txt.tw txt.tk txt.lw txt.gv
abbrev R : PySem.W.OpenRow := PySem.W.OpenLaw.row PySem.Challenge.rw_palbuilds_k42_whole_normal_rows
abbrev hk : PySem.W.Hook := He.hookD 3 faH fnH
def ob (s : PySem.W.SharedT) : He.AlD := He.obsDG 3 faH fnH (HandSHeadRun.getT s)
theorem ob_eq (s : PySem.W.SharedT) : ob s = hk.obs s.abs := He.obsDG_eq (HandSHeadRun.getT_eq s)
def loose : List PySem.Str := (["__name__", "BuildError", "BadWord", "BadPlan", "TooLong", "BadMirrors", "LETTERS", "MOST_WORD", "MOST_PLAN", "first_wrong", "need_word", "need_plan", "swapped", "turned", "rest_of", "swap_closed_of", "PLAIN", "SWAPPED", "MOST_ROW", "need_pair", "row_of", "row_build", "begun_of", "begun", "normal", "is_normal", "_law_taken", "_law_pick", "_law_is", "_law_plan"] : List PySem.Str)
theorem run (w : World) : HandSHeadRun.RunEq R (PySem.W.view R.prog [34]) hk ob 6000 loose w := by
  intro os
  kernel_rfl
end EvLaw
open PySem PySem.W PySem.Calls PyProof.Rows
theorem PySem.Challenge.cw_palbuilds_k42_whole_normal_rows_holds : PySem.Challenge.rw_palbuilds_k42_whole_normal_rows.Holds := by
  w_on; o_law
  refine HandSHeadRun.head_any (r := OpenLaw.row PySem.Challenge.rw_palbuilds_k42_whole_normal_rows) (q := view (OpenLaw.row PySem.Challenge.rw_palbuilds_k42_whole_normal_rows).prog [34]) (H := EvLaw.hk) (ob := EvLaw.ob) (M := 6000) (loose := EvLaw.loose) (d := HandSHeadRun.topDef (OpenLaw.row PySem.Challenge.rw_palbuilds_k42_whole_normal_rows).prog 34) (kwd := []) EvLaw.ob_eq
    (by kernel_rfl) (fun s => by kernel_rfl) EvLaw.run (by kernel_rfl) (by kernel_rfl) (by kernel_rfl) (by rfl) (by first | assumption | decide +kernel) (by decide +kernel) ⟨rfl, rfl, rfl, rfl, rfl, by decide +kernel⟩ ?hw ?hc
  case hw => w_witness2
  case hc =>
    refine L2.walk_ofE (l := PySem.Challenge.rw_palbuilds_k42_whole_normal_rows) (n := 63) (k := 1 + 2 * EvLaw.lvl + 1) (x := "_law_script") (CX := L2.CX0) rfl (by decide) (by kernel_rfl) ⟨rfl, by decide, by decide⟩ ?F (fun _ _ _ _ z => z)
    intro w mg fa h Y G hmg0
    obtain ⟨K, KX, c⟩ := Y
    have hmg : mg ("law" : PySem.Str) = some (.ref fa) := by
      have e : (HandSHeadRun.topDef (OpenLaw.row PySem.Challenge.rw_palbuilds_k42_whole_normal_rows).prog 34).name = ("law" : PySem.Str) := by kernel_rfl
      rw [← e]
      exact hmg0
    obtain ⟨fd, hb, hF⟩ := Ev.text_facts (P := (PySem.Challenge.rw_palbuilds_k42_whole_normal_rows).prog) (w := w) EvLaw.txt_ok EvLaw.b_all EvLaw.b_taken EvLaw.b_law EvLaw.lvl EvLaw.value KX G hmg c
    exact ⟨K, fd, Ev.spL K, KX, fun s v => hb s [v] rfl, fun H a ns hl ho hS => ⟨a, ns, rfl, Ev.sqF_of ho hS, fun _ => rfl⟩, hF⟩
#print axioms PySem.Challenge.cw_palbuilds_k42_whole_normal_rows_holds
