import PyProof.Rows.All
import PySem.Syntax
import PyProof.ReprReads
import HandS.ForMost
import HandS.Flow
import HandS.Exc
import HandS.TupAny
import HandS.TupMul
import HandS.Style
import HandS.Deep
import KE.SortData
import HandS.WordsDict
import HandS.More
import HandS.IsInst
import PyProof.ReprRoads
import HandS.StrMore
import HandS.Strs
import HandS.CallSlots
import HandS.Ends
import HandS.Zip
import KE.GoesEnum
import HandS.Rev
import HandS.Small
import HandS.Comp
import HandS.Set
import HandS.SetBool
import HandS.Defaults
import PySem.Challenge.RW_othershands_k04_whole_done_tasks
set_option Elab.async false
section
set_option linter.all false
set_option autoImplicit false
/-! PyCore: data trees, the small language's terms, its evaluator. -/
namespace PyE
open PySem

/-! ### data -/
inductive D where
  | non
  | bl (b : Bool)
  | int (i : Int)
  | str (s : List Nat)
  | tup (xs : List D)
  | lst (xs : List D)
  | dct (kvs : List (D × D))
  | ref (n : Nat)
  | fn (x : Str)
  | clo (k : Nat) (cap : List D)
  | exc (c : Str) (vs : List D)
  /-- a list that was handed in from outside: it is read alone -/
  | giv (xs : List D)
  /-- a tuple of the module's own -/
  | git (xs : List D)
  deriving Inhabited

mutual
def D.beq (a b : D) : Bool := match a, b with
  | .non, .non => true
  | .bl x, .bl y => x == y
  | .int x, .int y => x == y
  | .str x, .str y => x == y
  | .tup x, .tup y => D.beqs x y
  | .lst x, .lst y => D.beqs x y
  | .giv x, .giv y => D.beqs x y
  | .git x, .git y => D.beqs x y
  | .dct x, .dct y => D.beqk x y
  | .ref x, .ref y => x == y
  | .fn x, .fn y => decide (x = y)
  | .clo k x, .clo j y => k == j && D.beqs x y
  | .exc k x, .exc j y => decide (k = j) && D.beqs x y
  | _, _ => false
termination_by structural a
def D.beqs (a b : List D) : Bool := match a, b with
  | [], [] => true
  | x :: r, y :: q => D.beq x y && D.beqs r q
  | _, _ => false
termination_by structural a
def D.beqk (a b : List (D × D)) : Bool := match a, b with
  | [], [] => true
  | x :: r, y :: q => D.beqp x y && D.beqk r q
  | _, _ => false
termination_by structural a
def D.beqp (a b : D × D) : Bool := match a, b with
  | (x, u), (y, v) => D.beq x y && D.beq u v
termination_by structural a
end
mutual
theorem D.beq_iff : ∀ a b : D, D.beq a b = true ↔ a = b
  | .non, b => by cases b <;> simp [D.beq]
  | .bl _, b => by cases b <;> simp [D.beq]
  | .int _, b => by cases b <;> simp [D.beq]
  | .str _, b => by cases b <;> simp [D.beq]
  | .ref _, b => by cases b <;> simp [D.beq]
  | .fn _, b => by cases b <;> simp [D.beq]
  | .tup x, b => by cases b <;> simp [D.beq]; exact D.beqs_iff x _
  | .lst x, b => by cases b <;> simp [D.beq]; exact D.beqs_iff x _
  | .dct x, b => by cases b <;> simp [D.beq]; exact D.beqk_iff x _
  | .giv x, b => by cases b <;> simp [D.beq]; exact D.beqs_iff x _
  | .git x, b => by cases b <;> simp [D.beq]; exact D.beqs_iff x _
  | .clo k x, b => by
    cases b <;> simp [D.beq]
    intro _
    exact D.beqs_iff x _
  | .exc k x, b => by
    cases b <;> simp [D.beq]
    intro _
    exact D.beqs_iff x _
theorem D.beqs_iff : ∀ a b : List D, D.beqs a b = true ↔ a = b
  | [], b => by cases b <;> simp [D.beqs]
  | x :: r, b => by
    cases b with
    | nil => simp [D.beqs]
    | cons y q => simp [D.beqs, D.beq_iff x y, D.beqs_iff r q]
theorem D.beqk_iff : ∀ a b : List (D × D), D.beqk a b = true ↔ a = b
  | [], b => by cases b <;> simp [D.beqk]
  | x :: r, b => by
    cases b with
    | nil => simp [D.beqk]
    | cons y q => simp [D.beqk, D.beqp_iff x y, D.beqk_iff r q]
theorem D.beqp_iff : ∀ a b : D × D, D.beqp a b = true ↔ a = b
  | (x, u), (y, v) => by simp [D.beqp, D.beq_iff x y, D.beq_iff u v]
end
instance : DecidableEq D := fun a b => if h : D.beq a b = true then isTrue ((D.beq_iff a b).mp h) else isFalse fun e => h ((D.beq_iff a b).mpr e)

/-- the longest list, tuple, text -/
def SL : Nat := 16777216

/-- a value's truth -/
def D.truth : D → Option Bool
  | .non => some false
  | .bl b => some b
  | .int i => some (i != 0)
  | .str s => some (!s.isEmpty)
  | .tup xs => some (!xs.isEmpty)
  | .lst xs => some (!xs.isEmpty)
  | .dct kvs => some (!kvs.isEmpty)
  | _ => none

/-! ### == of data -/
mutual
def D.eqv (a b : D) : Bool := match a, b with
  | .non, .non => true
  | .bl x, .bl y => x == y
  | .bl x, .int y => (if x then 1 else 0) == y
  | .int x, .bl y => x == (if y then 1 else 0)
  | .int x, .int y => x == y
  | .str x, .str y => x == y
  | .tup x, .tup y => D.eqvs x y
  | .lst x, .lst y => D.eqvs x y
  | _, _ => false
termination_by structural a
def D.eqvs (a b : List D) : Bool := match a, b with
  | [], [] => true
  | x :: r, y :: q => D.eqv x y && D.eqvs r q
  | _, _ => false
termination_by structural a
end
mutual
/-- plain data of a depth of at most n -/
def D.plain (n : Nat) (a : D) : Bool := match a with
  | .non | .bl _ | .int _ | .str _ => true
  | .tup x => match n with | 0 => false | m + 1 => D.plains m x
  | .lst x => match n with | 0 => false | m + 1 => D.plains m x
  | _ => false
termination_by structural a
def D.plains (n : Nat) (a : List D) : Bool := match a with
  | [] => true
  | x :: r => D.plain n x && D.plains n r
termination_by structural a
end
/-- how deep data may be that are compared, sorted, shown -/
def DEEP : Nat := 40
/-- a == b; none where the evaluator does not know -/
def D.eq? (a b : D) : Option Bool := if a.plain DEEP && b.plain DEEP then some (a.eqv b) else none

/-! ### < of data -/
mutual
/-- the two can be compared by < -/
def D.alike (a b : D) : Bool := match a, b with
  | .bl _, .bl _ => true
  | .int _, .int _ => true
  | .str _, .str _ => true
  | .non, .non => true
  | .tup x, .tup y => D.alikes x y
  | .lst x, .lst y => D.alikes x y
  | _, _ => false
termination_by structural a
def D.alikes (a b : List D) : Bool := match a, b with
  | x :: r, y :: q => D.alike x y && D.alikes r q
  | _, _ => true
termination_by structural a
end
/-- texts, sign by sign -/
def ltS : List Nat → List Nat → Bool
  | [], [] => false
  | [], _ :: _ => true
  | _ :: _, [] => false
  | x :: r, y :: q => if x = y then ltS r q else decide (x < y)
mutual
/-- a < b, of alike data -/
def D.lt (a b : D) : Bool := match a, b with
  | .bl x, .bl y => !x && y
  | .int x, .int y => decide (x < y)
  | .str x, .str y => ltS x y
  | .tup x, .tup y => D.lts x y
  | .lst x, .lst y => D.lts x y
  | _, _ => false
termination_by structural a
def D.lts (a b : List D) : Bool := match a, b with
  | [], [] => false
  | [], _ :: _ => true
  | _ :: _, [] => false
  | x :: r, y :: q => if D.eqv x y then D.lts r q else D.lt x y
termination_by structural a
end
end PyE
end
section
set_option linter.all false
set_option autoImplicit false
/-! PyEv: the terms of the small language and what they evaluate to. -/
namespace PyE
open PySem

/-- a name's place in a frame: nothing, a frozen value, a list or dict that this name alone holds -/
inductive Slot where
  | emp | fz (d : D) | own (d : D)
  deriving DecidableEq, Inhabited
/-- what stands in the store -/
inductive Ob where
  | lst (xs : List D) | dct (kvs : List (D × D)) | ins (c : Str) (ns : List Str) (vs : List D)
  deriving DecidableEq, Inhabited
structure S where
  loc : List Slot
  st : List Ob
  deriving DecidableEq, Inhabited

inductive R (α : Type) where
  | ok (a : α) (s : S)
  | exc (c : Str) (vs : List D) (s : S)
  | stuck
def R.bind {α β : Type} (r : R α) (f : α → S → R β) : R β := match r with
  | .ok a s => f a s
  | .exc c vs s => .exc c vs s
  | .stuck => .stuck
/-- known or stuck -/
def R.of {α : Type} (o : Option α) (s : S) : R α := match o with
  | some a => .ok a s
  | none => .stuck

/-- what an expression gives: a value (fresh: nothing else holds its list or dict), or a place that is read later -/
inductive Rv where
  | val (d : D) (fr : Bool) | loc (i : Nat)
  deriving DecidableEq, Inhabited

def deref (st : List Ob) (d : D) : D := match d with
  | .ref n => match st[n]? with
    | some (.lst xs) => .lst xs
    | some (.dct kvs) => .dct kvs
    | _ => .ref n
  | d => d
/-- what stands there now -/
def rd (s : S) (v : Rv) : Option D := match v with
  | .val d _ => some (deref s.st d)
  | .loc i => match s.loc[i]? with
    | some (.own d) => some d
    | some (.fz d) => some d
    | _ => none
/-- a value that is kept somewhere -/
def keep (v : Rv) (s : S) : R D := match v with
  | .val d _ => .ok d s
  | .loc _ => .stuck

/-! ### operators -/
def okS (x : List Nat) : Option (D × Bool) := if x.length ≤ SL then some (.str x, false) else none
def binD (o : Operator) (a b : D) : Option (D × Bool) := match o, a, b with
  | .Add, .int x, .int y => some (.int (x + y), false)
  | .Add, .str x, .str y => okS (x ++ y)
  | .Add, .tup x, .tup y => if x.length + y.length ≤ SL then some (.tup (x ++ y), false) else none
  | .Add, .lst x, .lst y => if x.length + y.length ≤ SL then some (.lst (x ++ y), true) else none
  | .Sub, .int x, .int y => some (.int (x - y), false)
  | .Mult, .int x, .int y => if x.natAbs < 2 ^ 64 ∨ y.natAbs < 2 ^ 64 then some (.int (x * y), false) else none
  | .Mult, .lst x, .int y => if x.length * y.toNat ≤ SL ∧ y.natAbs < 2 ^ 62 then some (.lst (List.replicate y.toNat x).flatten, true) else none
  | .Mult, .tup x, .int y => if x ≠ [] ∧ 2 ≤ y ∧ y ≤ 1000 ∧ x.length ≤ 1000 then some (.tup (List.replicate y.toNat x).flatten, false) else none
  | .Mult, .str [c], .int y => if -1000 ≤ y ∧ y ≤ 1000 then some (.str (List.replicate y.toNat c), false) else none
  | .FloorDiv, .int x, .int y => if 0 < y ∧ y < 1073741824 then some (.int (x / y), false) else none
  | .Mod, .int x, .int y => if 0 < y then some (.int (x % y), false) else none
  | .Pow, .int x, .int y => if 0 ≤ y ∧ y ≤ 1000000 ∧ x.natAbs < 2 ^ 64 then some (.int (x ^ y.toNat), false) else none
  | _, _, _ => none

/-- x in xs -/
def memD (x : D) (xs : List D) : Option Bool := if x.plain DEEP && D.plains DEEP xs then some (xs.any fun y => D.eqv y x) else none
/-- keys: integers and texts -/
def D.akey : D → Bool
  | .int _ | .str _ => true
  | _ => false
def getK (kvs : List (D × D)) (k : D) : Option D := match kvs with
  | [] => none
  | (j, v) :: r => if j = k then some v else getK r k
def putK (kvs : List (D × D)) (k v : D) : List (D × D) :=
  if (kvs.any fun p => decide (p.1 = k)) = true then kvs.map (fun p => if p.1 = k then (p.1, v) else p) else kvs ++ [(k, v)]
def dropK (kvs : List (D × D)) (k : D) : List (D × D) := kvs.filter fun p => decide (p.1 ≠ k)
/-- may k be asked of, put into this dict -/
def okK (kvs : List (D × D)) (k : D) : Bool := k.akey
def inD (x : D) (c : D) : Option Bool := match c with
  | .tup xs => memD x xs
  | .lst xs => memD x xs
  | .git xs => memD x xs
  | .dct kvs => if okK kvs x then some (getK kvs x).isSome else none
  | .str y => match x with
    | .str [z] => some (decide (z ∈ y))
    | _ => none
  | _ => none
def cmpLt (a b : D) : Option Bool := match a, b with
  | .int x, .int y => some (decide (x < y))
  | .str x, .str y => some (ltS x y)
  | .tup x, .tup y => if D.plains DEEP x && D.plains DEEP y && D.alikes x y then some (D.lts x y) else none
  | _, _ => none
-- a.plain DEEP && b.plain DEEP && a.alike b then some (D.lt a b) else none
/-- is, with None, True, False at the right -/
def D.isNon : D → Bool
  | .non => true
  | _ => false
def D.isBl (k : Bool) : D → Bool
  | .bl j => j == k
  | _ => false
def isD (a b : D) : Option Bool := match b with
  | .non => some a.isNon
  | .bl k => some (a.isBl k)
  | _ => none
def cmpD (o : CmpOp) (a b : D) : Option Bool := match o with
  | .Eq => D.eq? a b
  | .NotEq => (D.eq? a b).map not
  | .Lt => cmpLt a b
  | .Gt => match a, b with
    | .int x, .int y => some (decide (y < x))
    | .str x, .str y => some (ltS y x)
    | _, _ => none
  | .LtE => match a, b with
    | .int x, .int y => some (decide (x ≤ y))
    | .str x, .str y => some (!ltS y x)
    | _, _ => none
  | .GtE => match a, b with
    | .int x, .int y => some (decide (y ≤ x))
    | .str x, .str y => some (!ltS x y)
    | _, _ => none
  | .In => inD a b
  | .NotIn => (inD a b).map not
  | .Is => isD a b
  | .IsNot => (isD a b).map not

/-- the place of an index -/
def ixD (n : Nat) (i : Int) : Option Nat := if 0 ≤ i then (if i < n then some i.toNat else none) else if -(n : Int) ≤ i then some (i + n).toNat else none
def atD {α : Type} (xs : List α) (i : Int) : Option α := (ixD xs.length i).bind fun k => xs[k]?
mutual
/-- what may be a key: texts, integers, None, tuples of these -/
def D.key (n : Nat) (a : D) : Bool := match a with
  | .non | .int _ | .str _ => true
  | .tup x => match n with | 0 => false | m + 1 => D.keys m x
  | _ => false
termination_by structural a
def D.keys (n : Nat) (a : List D) : Bool := match a with
  | [] => true
  | x :: r => D.key n x && D.keys n r
termination_by structural a
end
def subD (a i : D) : Option D := match a, i with
  | .tup xs, .int k => atD xs k
  | .lst xs, .int k => atD xs k
  | .str x, .int k => (atD x k).map fun c => .str [c]
  | .dct kvs, k => if okK kvs k then getK kvs k else none
  | .git xs, .int k => atD xs k
  | _, _ => none
/-- where a part of a slice lies -/
def cutAt (n d : Nat) (o : Option Int) : Nat := match o with
  | none => d
  | some i => if i < 0 then (i + n).toNat else min i.toNat n
def cutL {α : Type} (xs : List α) (lo hi : Option Int) : List α := (xs.drop (cutAt xs.length 0 lo)).take (cutAt xs.length xs.length hi - cutAt xs.length 0 lo)
def partD (o : Option D) : Option (Option Int) := match o with
  | none => some none
  | some (.int i) => some (some i)
  | _ => none
def sliD (a : D) (lo hi : Option Int) : Option (D × Bool) := match a with
  | .tup xs => some (.tup (cutL xs lo hi), false)
  | .lst xs => some (.lst (cutL xs lo hi), true)
  | .str x => some (.str (cutL x lo hi), false)
  | _ => none
def revD (a : D) : Option (D × Bool) := match a with
  | .lst xs => some (.lst xs.reverse, true)
  | _ => none

/-! ### built-in functions -/
def itemsD (a : D) : Option (List D) := match a with
  | .tup xs => some xs
  | .lst xs => some xs
  | .giv xs => some xs
  | .git xs => some xs
  | .str x => some (x.map fun c => .str [c])
  | .dct kvs => some (kvs.map (·.1))
  | _ => none
/-- what list() takes -/
def itemsL (a : D) : Option (List D) := match a with
  | .tup xs => some xs
  | .lst xs => some xs
  | .giv xs => some xs
  | .git xs => some xs
  | _ => none
def seqD (a : D) : Option (List D) := match a with
  | .tup xs => some xs
  | .lst xs => some xs
  | _ => none
/-- sorting: all pairs can be compared -/
def insD (x : D) : List D → List D
  | [] => [x]
  | y :: r => if D.lt x y then x :: y :: r else y :: insD x r
def sortL (xs : List D) : List D := xs.mergeSort fun a b => !D.lt b a
def alikeAll (xs : List D) : Bool := xs.all fun a => xs.all fun b => D.alike a b
def sortable (xs : List D) : Bool := xs.all (fun d => match d with | .tup (_ :: _) => true | _ => false) || xs.all fun d => match d with | .non => false | .tup _ => false | _ => true
def sortD (xs : List D) : Option (List D) := if xs.all (·.plain DEEP) && alikeAll xs && sortable xs then some (sortL xs) else none
/-- each once, the first one of equal ones -/
def dedup : List D → List D → List D
  | acc, [] => acc
  | acc, x :: r => if x ∈ acc then dedup acc r else dedup (acc ++ [x]) r
def digitsN (n : Nat) : List Nat := (Nat.toDigits 10 n).map Char.toNat
def strInt (i : Int) : List Nat := if i < 0 then 45 :: digitsN i.natAbs else digitsN i.natAbs
def sumD : List D → Option Int
  | [] => some 0
  | .int i :: r => (sumD r).map (i + ·)
  | _ => none
def intsD : List D → Option (List Int)
  | [] => some []
  | .int i :: r => (intsD r).map (i :: ·)
  | _ => none
def blsD : List D → Option (List Bool)
  | [] => some []
  | .bl b :: r => (blsD r).map (b :: ·)
  | _ => none
def maxI : List Int → Int
  | [] => 0
  | [x] => x
  | x :: r => max x (maxI r)
def minI : List Int → Int
  | [] => 0
  | [x] => x
  | x :: r => min x (minI r)
inductive Bif where
  | len | int | list | tuple | sorted | sortedSet | lenSet | str | repr | all | any | sum | max | min | dict | reversed
  deriving DecidableEq, Inhabited
mutual
/-- data as the library has them -/
def D.pd (a : D) : PyData := match a with
  | .bl b => .bool b
  | .int i => .int i
  | .str s => .str ⟨s.toArray⟩
  | .tup xs => .tuple (D.pds xs)
  | .lst xs => .list (D.pds xs)
  | _ => .none
termination_by structural a
def D.pds (a : List D) : List PyData := match a with
  | [] => []
  | x :: r => D.pd x :: D.pds r
termination_by structural a
end
/-- what repr writes -/
def reprD (a : D) : List Nat := a.pd.shown.cps.toList
def strsD : List D → Option (List (List Nat))
  | [] => some []
  | .str x :: r => (strsD r).map (x :: ·)
  | _ => none
/-- texts, each once -/
def addS (ks : List (List Nat)) (k : List Nat) : List (List Nat) := if ks.contains k then ks else ks ++ [k]
def metS (l : List (List Nat)) : List (List Nat) := l.foldl addS []
def bifD (f : Bif) (as : List D) : Option (D × Bool) := match f, as with
  | .len, [.str x] => some (.int x.length, false)
  | .len, [.git x] => some (.int x.length, false)
  | .len, [.tup x] => some (.int x.length, false)
  | .len, [.lst x] => some (.int x.length, false)
  | .len, [.dct x] => some (.int x.length, false)
  | .int, [.int i] => some (.int i, false)
  | .list, [a] => (itemsL a).map fun xs => (.lst xs, true)
  | .tuple, [a] => (seqD a).map fun xs => (.tup xs, false)
  | .sorted, [.lst a] => (sortD a).map fun xs => (.lst xs, true)
  | .sortedSet, [.lst xs] => if xs.length < 4000 then (strsD xs).map fun ts => (.lst (((metS ts).mergeSort fun a b => !ltS b a).map D.str), true) else none
  | .lenSet, [a] => (seqD a).bind fun xs => if xs.all (·.key 8) then some (.int (dedup [] xs).length, false) else none
  | .str, [.int i] => if i.natAbs.log2 < 1920 then okS (strInt i) else none
  | .all, [.lst xs] => (blsD xs).map fun bs => (.bl (bs.all id), false)
  | .any, [.lst xs] => (blsD xs).map fun bs => (.bl (bs.any id), false)
  | .sum, [.lst xs] => (sumD xs).map fun i => (.int i, false)
  | .max, [.lst (x :: xs)] => (intsD (x :: xs)).map fun is => (.int (maxI is), false)
  | .min, [.lst (x :: xs)] => (intsD (x :: xs)).map fun is => (.int (minI is), false)
  | .max, [.int a, .int b] => some (.int (if b > a then b else a), false)
  | .min, [.int a, .int b] => some (.int (if b < a then b else a), false)
  | .dict, [.dct kvs] => some (.dct kvs, true)
  | .repr, [a] => if (seqD a).isSome && a.plain DEEP && a.pd.showable && (reprD a).all (· < 1114112) then okS (reprD a) else none
  | _, _ => none

/-! ### methods -/
inductive Met where
  | append | extend | pop | insert | index | get | update | isascii | isalnum | isalpha | islower | upper | split | join
  deriving DecidableEq, Inhabited
/-- methods that change nothing -/
def Met.calm : Met → Bool
  | .index | .get | .isascii | .isalnum | .isalpha | .islower | .upper | .split | .join => true
  | _ => false
def firstD (x : D) (xs : List D) : Option Nat := if x.plain DEEP && D.plains DEEP xs then xs.findIdx? fun y => D.eqv y x else none
def isDig (c : Nat) : Bool := 48 ≤ c && c ≤ 57
def isLow (c : Nat) : Bool := 97 ≤ c && c ≤ 122
def isUpp (c : Nat) : Bool := 65 ≤ c && c ≤ 90
def asciiS (x : List Nat) : Bool := x.all (· < 128)
/-- a text cut at one sign -/
def splitS (c : Nat) : List Nat → List (List Nat)
  | [] => [[]]
  | x :: r => if x = c then [] :: splitS c r else match splitS c r with
    | p :: q => (x :: p) :: q
    | [] => [[x]]
def joinS (x : List Nat) : List (List Nat) → List Nat
  | [] => []
  | [y] => y
  | y :: r => y ++ x ++ joinS x r
/-- the built-in type of data, as methods ask for it -/
def D.ty (a : D) : Option String := match a with
  | .str _ => some "str"
  | .lst _ => some "list"
  | .dct _ => some "dict"
  | _ => none
/-- the types that have the method -/
def Met.tys : Met → List String
  | .append | .extend | .insert | .index => ["list"]
  | .pop => ["list", "dict"]
  | .get => ["dict"]
  | .update => []
  | _ => ["str"]
/-- what no one can change -/
def D.firm : D → Bool
  | .non | .bl _ | .int _ | .str _ | .tup _ => true
  | _ => false
/-- the texts' methods are known for ASCII texts alone -/
def calmM (m : Met) (a : D) (as : List D) : Option (D × Bool) := match m, a, as with
  | .index, .lst xs, [x] => (firstD x xs).map fun (k : Nat) => (D.int (k : Int), false)
  | .get, .dct kvs, [k] => if okK kvs k then some ((getK kvs k).getD .non, false) else none
  | .get, .dct kvs, [k, d] => if okK kvs k && d.firm then some ((getK kvs k).getD d, false) else none
  | .isascii, .str x, [] => some (.bl (asciiS x), false)
  | .isalnum, .str x, [] => if asciiS x then some (.bl (!x.isEmpty && x.all fun c => isDig c || isLow c || isUpp c), false) else none
  | .isalpha, .str x, [] => if asciiS x then some (.bl (!x.isEmpty && x.all fun c => isLow c || isUpp c), false) else none
  | .islower, .str x, [] => if asciiS x then some (.bl (x.any isLow && !x.any isUpp), false) else none
  | .upper, .str x, [] => if asciiS x && decide (x.length ≤ 5592405) then some (.str (x.map fun c => if isLow c then c - 32 else c), false) else none
  | .split, .str x, [.str [c]] => if x.length + 2 ≤ SL ∧ c < 128 then some (.lst ((splitS c x).map .str), true) else none
  | .join, .str x, [a] => (seqD a).bind fun xs => (strsD xs).bind fun ys => if (ys.map (·.length)).sum + ys.length * x.length ≤ SL then some (.str (joinS x ys), false) else none
  | _, _, _ => none
/-- methods that change: what the object is then, and what comes back -/
def mutM (m : Met) (a : D) (as : List D) : Option (D × D) := match m, a, as with
  | .append, .lst xs, [x] => if xs.length < SL then some (.lst (xs ++ [x]), .non) else none
  | .extend, .lst xs, [.lst ys] => if xs.length + ys.length ≤ SL then some (.lst (xs ++ ys), .non) else none
  | .pop, .lst xs, [] => xs.getLast?.map fun x => (.lst xs.dropLast, x)
  | .pop, .lst xs, [.int i] => (ixD xs.length i).bind fun k => (xs[k]?).map fun x => (.lst (xs.eraseIdx k), x)
  | .insert, .lst xs, [.int i, x] => if 0 ≤ i ∧ i < 2 ^ 62 ∧ xs.length < SL then some (.lst (xs.take i.toNat ++ x :: xs.drop i.toNat), .non) else none
  | .pop, .dct kvs, [k, d] => if okK kvs k then some (match getK kvs k with | some v => (.dct (dropK kvs k), v) | none => (.dct kvs, d)) else none
  | _, _, _ => none
/-- o[i] = v -/
def setD (a i v : D) : Option D := match a, i with
  | .lst xs, .int k => (ixD xs.length k).map fun j => .lst (xs.set j v)
  | .dct kvs, k => if okK kvs k && decide (kvs.length < SL) then some (.dct (putK kvs k v)) else none
  | _, _ => none
/-- a place is changed -/
def put (v : Rv) (d : D) (s : S) : Option S := match v with
  | .loc i => match s.loc[i]? with
    | some (.own _) => some { s with loc := s.loc.set i (.own d) }
    | _ => none
  | .val (.ref n) _ => match s.st[n]?, d with
    | some (.lst _), .lst xs => some { s with st := s.st.set n (.lst xs) }
    | some (.dct _), .dct kvs => some { s with st := s.st.set n (.dct kvs) }
    | _, _ => none
  | _ => none

/-! ### terms -/
mutual
inductive E where
  | c (d : D)
  | v (i : Nat)
  | m (i : Nat)
  | mv (i : Nat)
  | tup (es : List E)
  | lst (es : List E)
  | dct (ks : List D) (es : List E)
  | neg (a : E)
  | not (a : E)
  | bin (o : Operator) (a b : E)
  | cmp (o : CmpOp) (a b : E)
  | chain (o p : CmpOp) (a b c : E)
  | and (es : List E)
  | or (es : List E)
  | ite (c a b : E)
  | sub (a i : E)
  | sli (a : E) (lo hi : Option E)
  | rev (a : E)
  | attr (a : E) (f : Str)
  | call (f : Str) (es : List E)
  | new (c : Str) (es : List E)
  | bif (f : Bif) (es : List E)
  | app (f : E) (es : List E)
  | met (m : Met) (a : E) (es : List E)
  | omet (m : Str) (a : E) (es : List E)
  | isi (a : E) (ts : List Str)
  | comp (own : List Nat) (t : T) (it : It) (ifs : List E) (e : E)
  | comp2 (own own2 : List Nat) (t : T) (it : It) (ifs : List E) (t2 : T) (it2 : It) (ifs2 : List E) (e : E)
  | dcomp (own : List Nat) (t : T) (it : It) (ifs : List E) (k e : E)
  | lam (k : Nat) (cap : List Nat)
  | box (a : E)
/-- what a loop walks -/
inductive It where
  | seq (e : E) | rng (es : List E) | zip (a b : E) | enum (a : E) | rev (a : E)
/-- targets -/
inductive T where
  | nm (i : Nat) (own : Bool) | tup (ts : List T) | sub (a i : E) | attr (a : E) (f : Str)
end
mutual
/-- the names' places of a target -/
def tsl (t : T) : List Nat := match t with
  | .nm i _ => [i]
  | .tup ts => tsls ts
  | _ => []
termination_by structural t
def tsls (ts : List T) : List Nat := match ts with
  | [] => []
  | t :: r => tsl t ++ tsls r
termination_by structural ts
end
inductive St where
  | expr (e : E)
  | asg (t : T) (e : E)
  | asg2 (i : Nat) (oi : Bool) (j : Nat) (oj : Bool) (a b : E)
  | aug (i : Nat) (o : Operator) (e : E)
  | auga (a : E) (f : Str) (o : Operator) (e : E)
  | ret (e : Option E)
  | cond (c : E) (a b : List St)
  | loop (t : T) (it : It) (body : List St)
  | whl (c : E) (body : List St)
  | brk | ct | pass
  | raise (c : Str) (es : List E)
  | tri (body : List St) (hs : List (Str × Option Nat × List St))
  | del (a i : E)
inductive Fl where
  | nx | brk | ct | ret (d : D) (fr : Bool)
  deriving DecidableEq, Inhabited

/-! ### the run -/
inductive RF where
  | ok (d : D) (fr : Bool) (st : List Ob)
  | exc (c : Str) (vs : List D) (st : List Ob)
  | stuck
/-- the program around: its defs one level lower, its exception classes -/
structure Pr where
  call : Str → List D → List Ob → RF
  lam : Nat → List D → List Ob → RF
  /-- the fields of an exception class -/
  xf : Str → Option (List Str)
  /-- an exception of the class c is one of the class d -/
  under : Str → Str → Bool
def RF.into (r : RF) (s : S) : R Rv := match r with
  | .ok d fr st => .ok (.val d fr) { s with st := st }
  | .exc c vs st => .exc c vs { s with st := st }
  | .stuck => .stuck

def getF (ns : List Str) (vs : List D) (f : Str) : Option D := match ns, vs with
  | n :: ns, v :: vs => if n = f then some v else getF ns vs f
  | _, _ => none
def putF (ns : List Str) (vs : List D) (f : Str) (x : D) : List Str × List D := match ns, vs with
  | n :: ns, v :: vs => if n = f then (n :: ns, x :: vs) else (n :: (putF ns vs f x).1, v :: (putF ns vs f x).2)
  | _, _ => ([f], [x])
def attrD (P : Pr) (st : List Ob) (d : D) (f : Str) : Option D := match d with
  | .ref n => match st[n]? with
    | some (.ins _ ns vs) => getF ns vs f
    | _ => none
  | .exc c vs => (P.xf c).bind fun ns => getF ns vs f
  | _ => none
/-- built-in types that are asked for -/
def tyNames : List Str := ["int", "bool", "str", "tuple", "list", "dict"]
/-- the type of data -/
def tyOf (d : D) : Option Str := match d with
  | .non => some "NoneType"
  | .bl _ => some "bool"
  | .int _ => some "int"
  | .str _ => some "str"
  | .tup _ => some "tuple"
  | .git _ => some "tuple"
  | .lst _ => some "list"
  | .giv _ => some "list"
  | .dct _ => some "dict"
  | _ => none
def isiD (st : List Ob) (d : D) (t : Str) : Option Bool := (tyOf d).map fun y => decide (y = t) || (decide (y = "bool") && decide (t = "int"))
def isiAll (st : List Ob) (d : D) (ts : List Str) : Option Bool := match ts with
  | [] => some false
  | t :: r => (isiD st d t).bind fun b => (isiAll st d r).map (b || ·)
def setLoc (s : S) (i : Nat) (x : Slot) : S := { s with loc := s.loc.set i x }
def wipeL (own : List Nat) (s : S) : S := { s with loc := own.foldl (fun l i => l.set i .emp) s.loc }
def backL (own : List Nat) (old : List Slot) (s : S) : S := { s with loc := own.foldl (fun l i => l.set i (old.getD i .emp)) s.loc }
/-- no name of the block's own holds a list alone -/
def calmOwn (own : List Nat) (s : S) : Bool := own.all fun i => match s.loc[i]? with
  | some (.own _) => false
  | some _ => true
  | none => false
/-- what is walked stands as it stood -/
def locked (lk : List (Rv × D)) (s : S) : Bool := lk.all fun p => rd s p.1 == some p.2
/-- items that are walked -/
def itemsW (a : D) : Option (List D) := match a with
  | .tup xs => some xs
  | .lst xs => some xs
  | .giv xs => some xs
  | .git xs => some xs
  | .str x => some (x.map fun c => .str [c])
  | _ => none
def D.isT : D → Bool
  | .tup _ | .git _ => true
  | _ => false
def D.isL : D → Bool
  | .lst _ | .giv _ => true
  | _ => false
/-- a walk: an object of the store must stand as it stood -/
def walkD (v : Rv) (s : S) : Option (List D × List (Rv × D)) := match v with
  | .val (.ref n) fr => (rd s v).bind fun d => (itemsW d).map fun xs => (xs, [(v, d)])
  | .val d fr => (itemsW d).map fun xs => (xs, [])
  | .loc _ => none
def forL (tg : D → S → R Unit) (body : S → R Fl) (lk : List (Rv × D)) : List D → S → R Fl
  | [], s => .ok .nx s
  | d :: r, s => (tg d s).bind fun _ s => (body s).bind fun f s => match f with
    | .brk => .ok .nx s
    | .ret d fr => .ok (.ret d fr) s
    | _ => if locked lk s then forL tg body lk r s else .stuck
def whlN (c : S → R Bool) (body : S → R Fl) : Nat → S → R Fl
  | 0, _ => .stuck
  | n + 1, s => (c s).bind fun b s => if b then (body s).bind fun f s => match f with
    | .brk => .ok .nx s
    | .ret d fr => .ok (.ret d fr) s
    | _ => whlN c body n s
    else .ok .nx s
/-- the turns of a comprehension: what a turn gives is put to what there is -/
def compL {β : Type} (own : List Nat) (tg : D → S → R Unit) (test : S → R Bool) (elt : β → S → R β) (lk : List (Rv × D)) : List D → β → S → R β
  | [], acc, s => .ok acc s
  | d :: r, acc, s => (tg d (wipeL own s)).bind fun _ s => (test s).bind fun b s => if b then (elt acc s).bind fun acc s => if locked lk s then compL own tg test elt lk r acc s else .stuck
    else if locked lk s then compL own tg test elt lk r acc s else .stuck
/-- a comprehension raises nothing here -/
def noExc {α : Type} (r : R α) : R α := match r with
  | .exc _ _ _ => .stuck
  | r => r
def truthR (v : Rv) (s : S) : R Bool := R.of ((rd s v).bind D.truth) s
/-- an instance's own method for an operator -/
def dunder (st : List Ob) (d : D) : Option Str := match d with
  | .ref n => match st[n]? with
    | some (.ins c _ _) => some c
    | _ => none
  | _ => none
def rds (s : S) (vs : List Rv) : Option (List D) := match vs with
  | [] => some []
  | v :: r => (rd s v).bind fun d => (rds s r).map (d :: ·)
def WF : Nat := 1000000000

mutual
def ev (P : Pr) (e : E) (s : S) : R Rv := match e with
  | .c d => .ok (.val d false) s
  | .v i => match s.loc[i]? with
    | some (.fz d) => .ok (.val d false) s
    | some (.own d) => .ok (.val d false) (setLoc s i (.fz d))
    | _ => .stuck
  | .m i => match s.loc[i]? with
    | some (.fz d) => .ok (.val d false) s
    | some (.own _) => .ok (.loc i) s
    | _ => .stuck
  | .mv i => match s.loc[i]? with
    | some (.fz d) => .ok (.val d false) s
    | some (.own d) => .ok (.val d true) (setLoc s i .emp)
    | _ => .stuck
  | .tup es => (evs P es s).bind fun ds s => .ok (.val (.tup ds) false) s
  | .lst es => (evs P es s).bind fun ds s => .ok (.val (.lst ds) true) s
  | .dct ks es => (evs P es s).bind fun ds s => .ok (.val (.dct (ks.zip ds)) true) s
  | .neg a => (ev P a s).bind fun v s => match rd s v with
    | some (.int i) => .ok (.val (.int (-i)) false) s
    | _ => .stuck
  | .not a => ((ev P a s).bind truthR).bind fun b s => .ok (.val (.bl (!b)) false) s
  | .bin o a b => (ev P a s).bind fun x s => (ev P b s).bind fun y s => match rd s x, rd s y with
    | some x, some y => R.of ((binD o x y).map fun p => Rv.val p.1 p.2) s
    | _, _ => .stuck
  | .cmp o a b => (ev P a s).bind fun x s => (ev P b s).bind fun y s => match rd s x, rd s y with
    | some x, some y => R.of ((cmpD o x y).map fun k => Rv.val (.bl k) false) s
    | _, _ => .stuck
  | .chain o p a b c => (ev P a s).bind fun x s => (ev P b s).bind fun y s => match rd s x, rd s y with
    | some x, some y' => (R.of (cmpD o x y') s).bind fun k s => if k then (ev P c s).bind fun z s => match rd s y, rd s z with
      | some y, some z => R.of ((cmpD p y z).map fun k => Rv.val (.bl k) false) s
      | _, _ => .stuck
      else .ok (.val (.bl false) false) s
    | _, _ => .stuck
  | .and es => evAnd P es s
  | .or es => evOr P es s
  | .ite c a b => ((ev P c s).bind truthR).bind fun k s => if k then ev P a s else ev P b s
  | .sub a i => (ev P a s).bind fun x s => (ev P i s).bind fun y s => match rd s x, rd s y with
    | some x, some y => R.of ((subD x y).map fun d => Rv.val d false) s
    | _, _ => .stuck
  | .sli a lo hi => (ev P a s).bind fun x s => (evo P lo s).bind fun l s => (evo P hi s).bind fun h s => match rd s x, partD l, partD h with
    | some x, some l, some h => R.of ((sliD x l h).map fun p => Rv.val p.1 p.2) s
    | _, _, _ => .stuck
  | .rev a => (ev P a s).bind fun x s => R.of (((rd s x).bind revD).map fun p => Rv.val p.1 p.2) s
  | .attr a f => (ev P a s).bind fun x s => match x with
    | .val d _ => R.of ((attrD P s.st d f).map fun d => Rv.val d false) s
    | _ => .stuck
  | .call f es => (evs P es s).bind fun ds s => (P.call f ds s.st).into s
  | .new c es => (evs P es s).bind fun ds s => match P.call (c ++ ".__init__") (.ref s.st.length :: ds) (s.st ++ [.ins c [] []]) with
    | .ok .non _ st => .ok (.val (.ref s.st.length) false) { s with st := st }
    | .exc c vs st => .exc c vs { s with st := st }
    | _ => .stuck
  | .bif f es => (evr P es s).bind fun vs s => R.of (((rds s vs).bind (bifD f)).map fun p => Rv.val p.1 p.2) s
  | .app g es => (ev P g s).bind fun x s => (evs P es s).bind fun ds s => match x with
    | .val (.fn f) _ => (P.call f ds s.st).into s
    | .val (.clo k cap) _ => (P.lam k (cap ++ ds) s.st).into s
    | _ => .stuck
  | .omet m a es => (ev P a s).bind fun x s => (evs P es s).bind fun ds s => match x with
      | .val d _ => match dunder s.st d with
        | some c => (P.call (c ++ "." ++ m) (d :: ds) s.st).into s
        | none => .stuck
      | _ => .stuck
  | .met m a es => (ev P a s).bind fun x s => (R.of (((rd s x).bind D.ty).bind fun T => if T ∈ m.tys then some T else none) s).bind fun T s =>
    if m.calm then (evr P es s).bind fun vs s => match rd s x, rds s vs with
        | some d, some ds => if d.ty = some T then R.of ((calmM m d ds).map fun p => Rv.val p.1 p.2) s else .stuck
        | _, _ => .stuck
      else (evs P es s).bind fun ds s => match rd s x with
        | some d => if d.ty = some T then match mutM m d ds with
          | some (d', r) => (R.of (put x d' s) s).bind fun s' _ => .ok (.val r false) s'
          | none => .stuck
          else .stuck
        | none => .stuck
  | .isi a ts => (ev P a s).bind fun x s => R.of (((rd s x).bind fun d => isiAll s.st d ts).map fun b => Rv.val (.bl b) false) s
  | .comp own t it ifs e => (evIt P it s).bind fun w s => if calmOwn own s && locked w.2 s then
      (noExc (compL own (fun d s => tset P t d false s) (fun s => evIfs P ifs s) (fun acc s => (ev P e s).bind fun v s => (keep v s).bind fun d s => if acc.length < SL then .ok (acc ++ [d]) s else .stuck) w.2 w.1 [] s)).bind
        fun ds s' => .ok (.val (.lst ds) true) (backL own s.loc s')
      else .stuck
  | .comp2 own own2 t it ifs t2 it2 ifs2 e => (evIt P it s).bind fun w s => if calmOwn own s && locked w.2 s then
      (noExc (compL own (fun d s => tset P t d false s) (fun s => evIfs P ifs s)
        (fun acc s => (evIt P it2 s).bind fun w2 s => if locked w2.2 s then compL own2 (fun d s => tset P t2 d false s) (fun s => evIfs P ifs2 s)
          (fun acc s => (ev P e s).bind fun v s => (keep v s).bind fun d s => if acc.length < SL then .ok (acc ++ [d]) s else .stuck) w2.2 w2.1 acc s else .stuck) w.2 w.1 [] s)).bind
        fun ds s' => .ok (.val (.lst ds) true) (backL own s.loc s')
      else .stuck
  | .dcomp own t it ifs k e => (evIt P it s).bind fun w s => if calmOwn own s && locked w.2 s then
      (noExc (compL own (fun d s => tset P t d false s) (fun s => evIfs P ifs s)
        (fun acc s => (ev P k s).bind fun x s => (keep x s).bind fun x s => (ev P e s).bind fun v s => (keep v s).bind fun d s =>
          if okK acc x && decide (acc.length < SL) then .ok (putK acc x d) s else .stuck) w.2 w.1 [] s)).bind
        fun kvs s' => .ok (.val (.dct kvs) true) (backL own s.loc s')
      else .stuck
  | .lam k cap => match cap.mapM fun i => match s.loc[i]? with | some (.fz d) => some d | _ => none with
    | some ds => .ok (.val (.clo k ds) false) s
    | none => .stuck
  | .box a => (ev P a s).bind fun v s => match v with
    | .val (.lst xs) true => .ok (.val (.ref s.st.length) false) { s with st := s.st ++ [.lst xs] }
    | .val (.dct kvs) true => .ok (.val (.ref s.st.length) false) { s with st := s.st ++ [.dct kvs] }
    | _ => .stuck
termination_by structural e
/-- values that are kept -/
def evs (P : Pr) (es : List E) (s : S) : R (List D) := match es with
  | [] => .ok [] s
  | e :: r => (ev P e s).bind fun v s => (keep v s).bind fun d s => (evs P r s).bind fun ds s => .ok (d :: ds) s
termination_by structural es
/-- values that are looked at -/
def evr (P : Pr) (es : List E) (s : S) : R (List Rv) := match es with
  | [] => .ok [] s
  | e :: r => (ev P e s).bind fun v s => (evr P r s).bind fun vs s => .ok (v :: vs) s
termination_by structural es
def evAnd (P : Pr) (es : List E) (s : S) : R Rv := match es with
  | [] => .stuck
  | e :: r => match r with
    | [] => ev P e s
    | _ => (ev P e s).bind fun v s => (truthR v s).bind fun b s => if b then evAnd P r s else .ok v s
termination_by structural es
def evOr (P : Pr) (es : List E) (s : S) : R Rv := match es with
  | [] => .stuck
  | e :: r => match r with
    | [] => ev P e s
    | _ => (ev P e s).bind fun v s => (truthR v s).bind fun b s => if b then .ok v s else evOr P r s
termination_by structural es
def evIfs (P : Pr) (es : List E) (s : S) : R Bool := match es with
  | [] => .ok true s
  | e :: r => ((ev P e s).bind truthR).bind fun b s => if b then evIfs P r s else .ok false s
termination_by structural es
def evo (P : Pr) (e : Option E) (s : S) : R (Option D) := match e with
  | none => .ok none s
  | some e => (ev P e s).bind fun v s => (keep v s).bind fun d s => match d with
    | .int i => .ok (some (.int i)) s
    | _ => .stuck
termination_by structural e
def evIt (P : Pr) (it : It) (s : S) : R (List D × List (Rv × D)) := match it with
  | .seq e => (ev P e s).bind fun v s => R.of (walkD v s) s
  | .rng es => (evs P es s).bind fun ds s => match ds with
    | [.int n] => if -(2 ^ 62) ≤ n ∧ n < 2 ^ 62 then .ok ((List.range n.toNat).map fun (k : Nat) => D.int k, []) s else .stuck
    | [.int a, .int b] => if -(2 ^ 62) ≤ a ∧ a < 2 ^ 62 ∧ -(2 ^ 62) ≤ b ∧ b < 2 ^ 62 then .ok ((List.range (b - a).toNat).map fun (k : Nat) => D.int (a + k), []) s else .stuck
    | _ => .stuck
  | .zip a b => (ev P a s).bind fun x s => (ev P b s).bind fun y s => match rd s x, rd s y with
    | some dx, some dy => if dx.isT && dy.isT || dx.isL && dy.isL then R.of ((walkD x s).bind fun w => (walkD y s).map fun u => ((w.1.zip u.1).map fun p => .tup [p.1, p.2], w.2 ++ u.2)) s else .stuck
    | _, _ => .stuck
  | .enum a => (ev P a s).bind fun x s => match rd s x with
    | some d => if d.isL || d.isT then R.of ((walkD x s).map fun w => (w.1.zipIdx.map fun p => .tup [.int p.2, p.1], w.2)) s else .stuck
    | none => .stuck
  | .rev a => (ev P a s).bind fun x s => match rd s x with
    | some d => if d.isL || d.isT then R.of ((walkD x s).map fun w => (w.1.reverse, w.2)) s else .stuck
    | none => .stuck
termination_by structural it
def tset (P : Pr) (t : T) (d : D) (fr : Bool) (s : S) : R Unit := match t with
  | .nm i own => if i < s.loc.length then .ok () (setLoc s i (if own && fr then .own d else .fz d)) else .stuck
  | .tup ts => match d with
    | .tup ds => if ts.length = ds.length then tsets P ts ds s else .stuck
    | _ => .stuck
  | .sub a i => (ev P a s).bind fun x s => (ev P i s).bind fun y s => (keep y s).bind fun k s => match rd s x with
    | some o => (R.of ((setD o k d).bind fun o' => put x o' s) s).bind fun s' _ => .ok () s'
    | none => .stuck
  | .attr a f => (ev P a s).bind fun x s => match x with
    | .val (.ref n) _ => match s.st[n]? with
      | some (.ins c ns vs) => if ns.length < 1000 then .ok () { s with st := s.st.set n (.ins c (putF ns vs f d).1 (putF ns vs f d).2) } else .stuck
      | _ => .stuck
    | _ => .stuck
termination_by structural t
def tsets (P : Pr) (ts : List T) (ds : List D) (s : S) : R Unit := match ts, ds with
  | [], [] => .ok () s
  | t :: r, d :: ds => (tset P t d false s).bind fun _ s => tsets P r ds s
  | _, _ => .stuck
termination_by structural ts
end

/-- a test -/
def evt (P : Pr) (e : E) (s : S) : R Bool := (ev P e s).bind truthR

/-! ### statements -/
def catch? (P : Pr) (c : Str) : List (Str × Option Nat × List St) → Option (Option Nat × List St)
  | [] => none
  | (d, i, b) :: r => if P.under c d then some (i, b) else catch? P c r
mutual
def ex (P : Pr) (t : St) (s : S) : R Fl := match t with
  | .expr e => (ev P e s).bind fun _ s => .ok .nx s
  | .asg t e => (ev P e s).bind fun v s => match v with
    | .val d fr => (tset P t d fr s).bind fun _ s => .ok .nx s
    | _ => .stuck
  | .asg2 i oi j oj a b => (ev P a s).bind fun v s => (ev P b s).bind fun u s => match v, u with
    | .val d fr, .val d' fr' => (tset P (.nm i oi) d fr s).bind fun _ s => (tset P (.nm j oj) d' fr' s).bind fun _ s => .ok .nx s
    | _, _ => .stuck
  | .aug i o e => match s.loc[i]? with
    | some (.fz x) => (ev P e s).bind fun v s => match rd s v with
      | some y => (R.of (binD o x y) s).bind fun p s => match p.1 with
        | .int z => .ok .nx (setLoc s i (.fz (.int z)))
        | _ => .stuck
      | none => .stuck
    | _ => .stuck
  | .auga a f o e => (ev P a s).bind fun x s => match x with
    | .val (.ref n) _ => match attrD P s.st (.ref n) f with
      | some (.int x) => (ev P e s).bind fun v s => match rd s v with
        | some y => (R.of (binD o (.int x) y) s).bind fun p s => match p.1, s.st[n]? with
          | .int z, some (.ins c ns vs) => .ok .nx { s with st := s.st.set n (.ins c (putF ns vs f (.int z)).1 (putF ns vs f (.int z)).2) }
          | _, _ => .stuck
        | none => .stuck
      | _ => .stuck
    | _ => .stuck
  | .ret none => .ok (.ret .non false) s
  | .ret (some e) => (ev P e s).bind fun v s => match v with
    | .val d fr => .ok (.ret d fr) s
    | _ => .stuck
  | .cond c a b => (evt P c s).bind fun k s => if k then exs P a s else exs P b s
  | .loop t it body => (evIt P it s).bind fun w s => if locked w.2 s then forL (fun d s => tset P t d false s) (fun s => exs P body s) w.2 w.1 s else .stuck
  | .whl c body => whlN (fun s => evt P c s) (fun s => exs P body s) WF s
  | .brk => .ok .brk s
  | .ct => .ok .ct s
  | .pass => .ok .nx s
  | .raise c es => (evs P es s).bind fun ds s => .exc c ds s
  | .tri body hs => match exs P body s with
    | .exc c vs s' => exh P hs c vs s'
    | r => r
  | .del a i => (ev P a s).bind fun x s => (ev P i s).bind fun y s => (keep y s).bind fun k s => match rd s x with
    | some (.dct kvs) => if okK kvs k && (getK kvs k).isSome then (R.of (put x (.dct (dropK kvs k)) s) s).bind fun s' _ => .ok .nx s' else .stuck
    | _ => .stuck
termination_by structural t
def exs (P : Pr) (ts : List St) (s : S) : R Fl := match ts with
  | [] => .ok .nx s
  | t :: r => (ex P t s).bind fun f s => match f with
    | .nx => exs P r s
    | f => .ok f s
termination_by structural ts
/-- the clauses behind a body that raised -/
def exh (P : Pr) (hs : List (Str × Option Nat × List St)) (c : Str) (vs : List D) (s : S) : R Fl := match hs with
  | [] => .exc c vs s
  | h :: r => match exh1 P h c vs s with
    | some q => q
    | none => exh P r c vs s
termination_by structural hs
def exh1 (P : Pr) (h : Str × Option Nat × List St) (c : Str) (vs : List D) (s : S) : Option (R Fl) := match h with
  | (d, h) => if P.under c d then some (exh2 P h c vs s) else none
termination_by structural h
def exh2 (P : Pr) (h : Option Nat × List St) (c : Str) (vs : List D) (s : S) : R Fl := match h with
  | (none, b) => exs P b s
  | (some i, b) => if i < s.loc.length then (exs P b (setLoc s i (.fz (.exc c vs)))).bind fun f s => .ok f (setLoc s i .emp) else .stuck
termination_by structural h
end

/-! ### defs -/
/-- a def: its number of names, its parameters' number, its defaults, its body -/
structure Df where
  names : Nat
  pars : Nat
  dfl : List D
  body : List St
def Df.run (P : Pr) (f : Df) (as : List D) (st : List Ob) : RF :=
  if as.length ≤ f.pars ∧ f.pars - as.length ≤ f.dfl.length then
    match exs P f.body ⟨(as ++ f.dfl.drop (f.dfl.length - (f.pars - as.length))).map Slot.fz ++ List.replicate (f.names - f.pars) .emp, st⟩ with
    | .ok .nx s => .ok .non false s.st
    | .ok (.ret d fr) s => .ok d fr s.st
    | .exc c vs s => .exc c vs s.st
    | _ => .stuck
  else .stuck
/-- a program: defs by name (methods as C.m), lambdas by number, exception classes -/
structure Pg where
  defs : Str → Option Df
  lams : Nat → Option Df
  xf : Str → Option (List Str)
  under : Str → Str → Bool
/-- the program at a level: so many calls deep -/
def Pg.at (G : Pg) : Nat → Pr
  | 0 => ⟨fun _ _ _ => .stuck, fun _ _ _ => .stuck, G.xf, G.under⟩
  | n + 1 => ⟨fun f as st => match G.defs f with | some d => d.run (G.at n) as st | none => .stuck, fun k as st => match G.lams k with | some d => d.run (G.at n) as st | none => .stuck, G.xf, G.under⟩
end PyE
end
section
set_option linter.all false
set_option autoImplicit false
/-! PyComp: from the text's trees to the terms of the small language. -/
namespace PyE
open PySem L2

/-- what stands around a piece of the text -/
structure Ct where
  N : List Str
  sc : Scope
  /-- the scope whose names may be bound here -/
  bsc : Scope
  /-- names whose lists and dicts are changed in place -/
  muts : List Str
  /-- the module's constants -/
  cons : List (Str × D)
  fns : List Str
  clss : List Str
  xcls : List Str
  /-- dicts that are returned as objects of the store -/
  boxRet : Bool
  /-- attributes whose lists and dicts are objects of the store -/
  boxAt : List Str
  /-- local names whose lists and dicts are objects of the store -/
  boxNm : List Str
def mapO {α β : Type} (f : α → Option β) : List α → Option (List β)
  | [] => some []
  | a :: r => (f a).bind fun b => (mapO f r).map (b :: ·)
def ixOf (x : Str) : List Str → Option Nat
  | [] => none
  | y :: r => if y = x then some 0 else (ixOf x r).map (· + 1)
/-- a name that is seen: local, a cell, captured -/
def visB (sc : Scope) (x : Str) : Bool := match sc.names.lookup x with
  | some .local | some .cell | some .free => true
  | _ => false
def locB (sc : Scope) (x : Str) : Bool := match sc.names.lookup x with
  | some .local | some .cell => true
  | _ => false
def globB (sc : Scope) (x : Str) : Bool := match sc.names.lookup x with
  | some .globalImplicit => true
  | _ => false
def okName (x : Str) : Bool := !(x == ("__debug__" : Str)) && !(x == ("__classdict__" : Str)) && !(x == ("__name__" : Str))
def slotOf (g : Ct) (x : Str) : Option Nat := if okName x && visB g.sc x then ixOf x g.N else none
def constD (c : Const) : Option D := match c with
  | .none => some .non
  | .bool b => some (.bl b)
  | .int i => some (.int i)
  | .str x => if x.cps.size ≤ SL ∧ x.cps.toList.all (· < 1114112) then some (.str x.cps.toList) else none
  | _ => none
def bifOf (x : Str) : Option Bif :=
  if x = "len" then some .len else if x = "int" then some .int else if x = "list" then some .list else if x = "tuple" then some .tuple
  else if x = "sorted" then some .sorted else if x = "str" then some .str else if x = "repr" then some .repr else if x = "all" then some .all
  else if x = "any" then some .any else if x = "sum" then some .sum else if x = "max" then some .max else if x = "min" then some .min
  else if x = "dict" then some .dict else none
def metOf (x : Str) : Option Met :=
  if x = "append" then some .append else if x = "extend" then some .extend else if x = "pop" then some .pop else if x = "insert" then some .insert
  else if x = "index" then some .index else if x = "get" then some .get else if x = "isascii" then some .isascii else if x = "isalnum" then some .isalnum
  else if x = "isalpha" then some .isalpha else if x = "islower" then some .islower else if x = "upper" then some .upper else if x = "split" then some .split
  else if x = "join" then some .join else none
/-- the classes that isinstance asks for -/
def classOf (g : Ct) : Expr → Option Str
  | .Name x _ => if okName x && globB g.sc x && tyNames.contains x then some x else none
  | _ => none
def classesOf (g : Ct) : Expr → Option (List Str)
  | .Tuple es _ _ => if es.isEmpty || !decide (es.length ≤ SL) then none else mapO (classOf g) es
  | e => (classOf g e).map fun c => [c]
def ownOf (g : Ct) (sc : Scope) : Option (List Nat) := mapO (fun (y : Str × NameKind) => ixOf y.1 g.N) (sc.names.filter fun y => (y.2 == .local || y.2 == .cell) && g.N.contains y.1)
def plainOp : Operator → Bool
  | .Add | .Sub | .Mult | .FloorDiv | .Mod | .Pow => true
  | _ => false
def isSet : Expr → Bool
  | .Set _ _ _ => true
  | _ => false
/-- set(e) -/
def setArg : Expr → Option (Str × Expr)
  | .Call (.Name y _) [e] [] _ => some (y, e)
  | _ => none
/-- no super() -/
def plainBase : Expr → Bool
  | .Call (.Name _ _) [] [] _ => false
  | _ => true
def isTupE : Expr → Bool
  | .Tuple _ _ _ => true
  | _ => false
/-- zip and enumerate want a written tuple as target -/
def It.fits (t : Expr) : It → Bool
  | .zip _ _ => isTupE t
  | .enum _ => isTupE t
  | _ => true
/-- a written key: a text -/
def keyEx : Option Expr → Option D := fun k => match k with
  | some (.Constant (.str x) _ _) => constD (.str x)
  | _ => none
/-- sorted(set(e)) -/
def setOf (g : Ct) : List Expr → Option Expr
  | [.Call (.Name y _) [e] [] _] => if y = "set" && globB g.sc y then some e else none
  | _ => none
/-- f(..), f a name of the module or a built-in -/
def callE (g : Ct) (cF cT : Expr → Option E) (x : Str) (es : List Expr) : Option E :=
  if okName x && globB g.sc x then
    if g.fns.contains x then (mapO cF es).map fun es => .call x es
    else if x = "isinstance" then match es with
      | [a, t] => (cT a).bind fun a => (classesOf g t).map fun ts => .isi a ts
      | _ => none
    else if x = "sorted" && (setOf g es).isSome then (setOf g es).bind fun c => (cT c).map fun c => .bif .sortedSet [c]
    else if es.isEmpty then none else (bifOf x).bind fun f => (mapO cT es).map fun es => .bif f es
  else none
/-- range(..), zip(..), enumerate(..), reversed(..) -/
def itE (g : Ct) (cF : Expr → Option E) (e : Expr) : Option It := match e with
  | .Call (.Name x _) es [] _ => if globB g.sc x then match es with
      | [a] => if x = "range" then (cF a).map fun a => .rng [a] else if x = "enumerate" then (cF a).map .enum else if x = "reversed" then (cF a).map .rev else none
      | [a, c] => if x = "range" then (cF a).bind fun a => (cF c).map fun c => .rng [a, c] else if x = "zip" then (cF a).bind fun a => (cF c).map fun c => .zip a c else none
      | _ => none
    else none
  | _ => none
/-- a.m(..) of built-in types -/
def metE (cF cT : Expr → Option E) (a : Expr) (m : Str) (ap : Pos) (es : List Expr) (cp : Pos) : Option E :=
  if (ap.endLine == cp.line) && decide (es.length < 30) && plainBase a then (cT a).bind fun a' => (metOf m).bind fun k => (mapO (if k.calm then cT else cF) es).map fun es => .met k a' es
  else none
def ownList (g : Ct) (own : List Nat) : List (Str × Nat) := own.map fun i => (g.N.getD i Str.empty, i)
def blkCt (g : Ct) (sc : Scope) : Ct := { g with sc := relS sc g.sc, bsc := sc }
/-- what all comprehensions ask -/
def lcOk (g : Ct) (sc : Scope) (ifs : List Expr) (own : List Nat) : Bool := blkC g.N g.sc sc (ownList g own) && decide (ifs.length ≤ 1)
def tgOk (own : List Nat) (tg : Expr) (it : It) (t : T) : Bool := it.fits tg && (tsl t).all fun i => own.contains i
mutual
/-- b: the value is looked at and not kept -/
def compE (g : Ct) : Nat → Bool → Expr → Option E
  | 0, _, _ => none
  | n + 1, b, e => match e with
    | .Constant c _ _ => (constD c).map .c
    | .Name x _ => match slotOf g x with
      | some i => some (if b && g.muts.contains x then .m i else .v i)
      | none => if okName x && globB g.sc x then (match g.cons.lookup x with
        | some d => some (.c d)
        | none => if g.fns.contains x then some (.c (.fn x)) else none) else none
    | .Tuple es _ _ => if es.length ≤ SL then (mapO (fun e => compE g n false e) es).map .tup else none
    | .List es _ => if es.length ≤ SL then (mapO (fun e => compE g n false e) es).map .lst else none
    | .Dict ks vs _ => (mapO keyEx ks).bind fun ks' =>
        if ks'.length = vs.length ∧ vs.length ≤ 15 ∧ ks'.Nodup then (mapO (fun e => compE g n false e) vs).map fun es => .dct ks' es else none
    | .UnaryOp o a _ => match o with
      | .USub => (compE g n true a).map .neg
      | .Not => (compE g n true a).map .not
      | _ => none
    | .BinOp a o c _ => (compE g n true a).bind fun a => (compE g n true c).map fun c => .bin o a c
    | .Compare a os cs _ => match os, cs with
      | [o], [c] => if isSet c then none else (compE g n true a).bind fun a => (compE g n true c).map fun c => .cmp o a c
      | [o, p], [c, d] => if isSet c || isSet d then none else (compE g n true a).bind fun a => (compE g n true c).bind fun c => (compE g n true d).map fun d => .chain o p a c d
      | _, _ => none
    | .BoolOp o es _ => if es.isEmpty then none else match o with
      | .And => (mapO (fun e => compE g n b e) es).map .and
      | .Or => (mapO (fun e => compE g n b e) es).map .or
    | .IfExp c a d _ => (compE g n true c).bind fun c => (compE g n b a).bind fun a => (compE g n b d).map fun d => .ite c a d
    | .Subscript a i _ => match i with
      | .Slice lo hi none _ => (compE g n true a).bind fun a => (compO g n lo).bind fun lo => (compO g n hi).map fun hi => .sli a lo hi
      | .Slice none none (some (.UnaryOp .USub (.Constant (.int 1) _ _) _)) _ => (compE g n true a).map .rev
      | .Slice _ _ _ _ => none
      | i => (compE g n true a).bind fun a => (compE g n true i).map fun i => .sub a i
    | .Call f es ks q => match f, ks with
      | .Name x _, [] => callE g (fun e => compE g n false e) (fun e => compE g n true e) x es
      | .Attribute a m ap, [] => metE (fun e => compE g n false e) (fun e => compE g n true e) a m ap es q
      | _, _ => none
    | .ListComp e gs sc _ => match gs with
      | [⟨t, it, ifs, 0⟩] => (ownOf g sc).bind fun own => if lcOk g sc ifs own then
          (compI g n it).bind fun it' => (compT (blkCt g sc) n t).bind fun t' => if tgOk own t it' t' then
            (mapO (fun e => compE (blkCt g sc) n true e) ifs).bind fun ifs => (compE (blkCt g sc) n false e).map fun e => .comp own t' it' ifs e
          else none
        else none
      | [⟨t, it, ifs, 0⟩, ⟨t2, it2, ifs2, 0⟩] => (ownOf g sc).bind fun own => if lcOk g sc ifs own && lcOk g sc ifs2 own then
          (compI g n it).bind fun it' => (compT (blkCt g sc) n t).bind fun t' => (compI (blkCt g sc) n it2).bind fun it2' => (compT (blkCt g sc) n t2).bind fun t2' => if tgOk own t it' t' && tgOk own t2 it2' t2' then
            (mapO (fun e => compE (blkCt g sc) n true e) ifs).bind fun ifs => (mapO (fun e => compE (blkCt g sc) n true e) ifs2).bind fun ifs2 => (compE (blkCt g sc) n false e).map fun e => .comp2 own (tsl t2') t' it' ifs t2' it2' ifs2 e
          else none
        else none
      | _ => none
    | _ => none
def compO (g : Ct) : Nat → Option Expr → Option (Option E)
  | 0, _ => none
  | n + 1, e => match e with
    | none => some none
    | some e => (compE g n true e).map some
def compI (g : Ct) : Nat → Expr → Option It
  | 0, _ => none
  | n + 1, e => match itE g (fun e => compE g n false e) e with
    | some it => some it
    | none => (compE g n false e).map .seq
def compT (g : Ct) : Nat → Expr → Option T
  | 0, _ => none
  | n + 1, e => match e with
    | .Name x _ => if okName x && locB g.bsc x then (ixOf x g.N).map fun i => .nm i (g.muts.contains x) else none
    | .Tuple es _ _ => (mapO (fun e => compT g n e) es).map .tup
    | .Subscript a i _ => (compE g n true a).bind fun a => (compE g n true i).map fun i => .sub a i
    | _ => none
end
/-- does a comprehension stored to a name swap (the model's own word) -/
def boxE (k : Bool) (e : E) : E := if k then .box e else e
def isComp : Expr → Bool
  | .ListComp _ _ _ _ => true
  | .SetComp _ _ _ _ => true
  | .DictComp _ _ _ _ _ => true
  | _ => false
def compScope : Expr → Option Scope
  | .ListComp _ _ s _ => some s
  | _ => none
/-- is a comprehension stored to a name in its own block -/
def swB (g : Ct) (t : Str) (pt : Pos) (v : Expr) : Bool := match compScope v with
  | some sc => (g.sc.names.lookup t == some .local) && (pt.line == v.pos.line) && !(sc.names.any fun (n, k) => n == t && (k == .local || k == .cell))
  | none => false
/-- a, b = c, d stores without a tuple -/
def sw2 (g : Ct) (x y : Str) (px py : Pos) (a b : Expr) : Bool :=
  (g.sc.names.lookup x == some .local) && (g.sc.names.lookup y == some .local) && !(x == y) && (py.line == px.line) && !((foldedForSure 8 a) && (foldedForSure 8 b)) && !((constantsAlone 8 a) && (constantsAlone 8 b))
def augOp : Operator → Bool
  | .Add | .Sub => true
  | _ => false
/-- a written list or dict, or a call that makes one -/
def retE (g : Ct) (n : Nat) (e : Expr) : Option E := match e with
  | .Name x _ => match slotOf g x with
    | some i => some (if g.muts.contains x then .mv i else .v i)
    | none => compE g n false e
  | .Dict _ _ _ => (compE g n false e).map (boxE g.boxRet)
  | e => compE g n false e
def compS (g : Ct) : Nat → Stmt → Option St
  | 0, _ => none
  | n + 1, s => match s with
    | .Expr e _ => if isComp e then none else (compE g n true e).map .expr
    | .Pass _ => some .pass
    | .Break _ => some .brk
    | .Continue _ => some .ct
    | .Return o _ => match o with
      | none => some (.ret none)
      | some e => (retE g n e).map fun e => .ret (some e)
    | .Assign ts v _ => match ts with
      | [.Name x px] => if okName x && locB g.bsc x then (ixOf x g.N).bind fun i => if isComp v && (!(swB g x px v) || g.boxNm.contains x) then none else
          (compE g n false v).map fun v => .asg (.nm i (g.muts.contains x)) (boxE (g.boxNm.contains x) v)
        else none
      | [.Tuple [.Name x px, .Name y py] k1 p1] => match v with
        | .Tuple [a, b] k2 p2 => if sw2 g x y px py a b && okName x && locB g.bsc x && okName y && locB g.bsc y then (ixOf x g.N).bind fun i => (ixOf y g.N).bind fun j =>
            if i = j then none else (compE g n false a).bind fun a => (compE g n false b).map fun b => .asg2 i (g.muts.contains x) j (g.muts.contains y) (boxE (g.boxNm.contains x) a) (boxE (g.boxNm.contains y) b)
          else none
        | .Tuple _ _ _ => none
        | v => if isComp v then none else (compT g n (.Tuple [.Name x px, .Name y py] k1 p1)).bind fun t => (compE g n false v).map fun v => .asg t v
      | [t] => if isComp v || isTupE v then none else (compT g n t).bind fun t => (compE g n false v).map fun v => .asg t v
      | _ => none
    | .AugAssign t o e _ => match t with
      | .Name x _ => if augOp o && okName x && locB g.bsc x then (ixOf x g.N).bind fun i => (compE g n true e).map fun e => .aug i o e else none
      | _ => none
    | .If c a b _ => (compE g n true c).bind fun c => (mapO (fun s => compS g n s) a).bind fun a => (mapO (fun s => compS g n s) b).map fun b => .cond c a b
    | .For t it body els _ => match els with
      | [] => (compI g n it).bind fun it' => (compT g n t).bind fun t' => if it'.fits t then (mapO (fun s => compS g n s) body).map fun b => .loop t' it' b else none
      | _ => none
    | .While c body els _ => match els with
      | [] => (compE g n true c).bind fun c => (mapO (fun s => compS g n s) body).map fun b => .whl c b
      | _ => none
    | _ => none
/-- a def's names: its parameters, then the others of its scope, then those of its comprehensions -/
def parsOf (a : Arguments) : Option (List Str) := match a with
  | ⟨[], as, none, [], [], none, _⟩ => some (as.map (·.arg))
  | _ => none
def dflOf (a : Arguments) : Option (List D) := mapO (fun e => match e with | .Constant c _ _ => constD c | _ => none) a.defaults
/-- a def, by the names of its places -/
def compF (g : Ct) (n : Nat) (st : Stmt) : Option Df := match st with
  | .FunctionDef _ a body _ _ _ sc _ _ _ => (parsOf a).bind fun ps => (dflOf a).bind fun ds =>
      if ps.isPrefixOf g.N && decide g.N.Nodup && ps.all (locB sc) && (sc.kind == .function) && !sc.isGenerator && !sc.isCoroutine && sc.names.all (fun y => !(y.2 == .free)) then
        (mapO (fun s => compS { g with sc := sc, bsc := sc } n s) body).map fun b => ⟨g.N.length, ps.length, ds, b⟩
      else none
  | _ => none
end PyE
end
section
set_option linter.all false
set_option autoImplicit false
set_option maxRecDepth 100000
/-! PyRel: how the small language's states lie over the abstract heap. -/
namespace PyE
open PySem PySem.Spec PyProof.Rows L2

/-- the ghost world: what never changes any more, where the store's objects stand -/
structure Wd where
  G : Hp
  m : List Addr
structure Wd.Le (w w' : Wd) : Prop where
  g : ∀ a o, w.G a = some o → w'.G a = some o
  m : w.m <+: w'.m
theorem Wd.Le.refl (w : Wd) : w.Le w := ⟨fun _ _ h => h, List.prefix_refl _⟩
theorem Wd.Le.trans {a b c : Wd} (h : a.Le b) (k : b.Le c) : a.Le c := ⟨fun x o e => k.g x o (h.g x o e), h.m.trans k.m⟩
theorem pre_get {α : Type} {l m : List α} (h : l <+: m) {n : Nat} {a : α} (e : l[n]? = some a) : m[n]? = some a := by
  obtain ⟨t, rfl⟩ := h
  rw [List.getElem?_append_left (List.getElem?_eq_some_iff.mp e).1]
  exact e

def keyD : Key → D
  | .inl i => .int i
  | .inr x => .str x.cps.toList
/-- a def of the text as a value -/
def FnV (mg : Str → Option Value) (x : Str) (v : V) : Prop := ∃ f, mg x = some (.ref f) ∧ v = .ref f
section
variable (K : PySem.W.Frag) (mg : Str → Option Value) (w : Wd)
mutual
/-- v stands for the frozen data d -/
def RepV (d : D) (v : V) : Prop := match d with
  | .non => v = .non
  | .bl b => v = .bl b
  | .int i => v = .int i
  | .str s => v = .str ⟨s.toArray⟩ ∧ s.length ≤ SL ∧ s.all (· < 1114112) = true
  | .tup ds => ∃ a xs, v = .ref a ∧ w.G a = some (.tup xs) ∧ RepVs ds xs
  | .git ds => ∃ a xs, v = .ref a ∧ SqT K w.G a xs ∧ RepVs ds xs
  | .lst ds => ∃ a xs, v = .ref a ∧ w.G a = some (.lst xs) ∧ RepVs ds xs
  | .giv ds => ∃ a xs, v = .ref a ∧ SqL K w.G a xs ∧ RepVs ds xs
  | .dct kvs => ∃ a xs, v = .ref a ∧ w.G a = some (.dK xs) ∧ RepKs kvs xs
  | .ref n => ∃ a, v = .ref a ∧ w.m[n]? = some a
  | .fn x => FnV mg x v
  | .clo _ _ => False
  | .exc _ _ => False
termination_by structural d
def RepVs (ds : List D) (xs : List V) : Prop := match ds with
  | [] => xs = []
  | d :: r => ∃ x t, xs = x :: t ∧ RepV d x ∧ RepVs r t
termination_by structural ds
def RepKs (kvs : List (D × D)) (xs : List (Key × V)) : Prop := match kvs with
  | [] => xs = []
  | p :: r => ∃ k x t, xs = (k, x) :: t ∧ RepP p k x ∧ RepKs r t
termination_by structural kvs
def RepP (p : D × D) (k : Key) (x : V) : Prop := match p with
  | (j, d) => keyD k = j ∧ RepV d x
termination_by structural p
end
/-- an object's content -/
def ORep (o : HO) (d : D) : Prop := match d with
  | .lst ds => ∃ xs, o = .lst xs ∧ RepVs K mg w ds xs
  | .tup ds => ∃ xs, o = .tup xs ∧ RepVs K mg w ds xs
  | .dct kvs => ∃ xs, o = .dK xs ∧ RepKs K mg w kvs xs
  | _ => False
end
theorem rd_mono {G G' : Hp} (h : ∀ a o, G a = some o → G' a = some o) {a : Addr} {o : HO} (e : Rd G a o) : Rd G' a o := by
  rcases e with e | ⟨u, e⟩
  · exact .inl (h _ _ e)
  · exact .inr ⟨u, h _ _ e⟩
theorem sqL_mono {K : PySem.W.Frag} {G G' : Hp} (h : ∀ a o, G a = some o → G' a = some o) {a : Addr} {xs : List V} (e : SqL K G a xs) : SqL K G' a xs := by
  rcases e with e | e
  · exact .inl (rd_mono h e)
  · exact .inr e
theorem sqT_mono {K : PySem.W.Frag} {G G' : Hp} (h : ∀ a o, G a = some o → G' a = some o) {a : Addr} {xs : List V} (e : SqT K G a xs) : SqT K G' a xs := by
  rcases e with e | e
  · exact .inl (rd_mono h e)
  · exact .inr e
section
variable {K : PySem.W.Frag} {mg : Str → Option Value} {w w' : Wd}
mutual
theorem RepV.mono (h : w.Le w') : ∀ (d : D) (v : V), RepV K mg w d v → RepV K mg w' d v
  | .non, _, e => e
  | .bl _, _, e => e
  | .int _, _, e => e
  | .str _, _, e => e
  | .tup ds, _, ⟨a, xs, e, s, r⟩ => ⟨a, xs, e, h.g _ _ s, RepVs.mono h ds xs r⟩
  | .git ds, _, ⟨a, xs, e, s, r⟩ => ⟨a, xs, e, sqT_mono h.g s, RepVs.mono h ds xs r⟩
  | .lst ds, _, ⟨a, xs, e, s, r⟩ => ⟨a, xs, e, h.g _ _ s, RepVs.mono h ds xs r⟩
  | .giv ds, _, ⟨a, xs, e, s, r⟩ => ⟨a, xs, e, sqL_mono h.g s, RepVs.mono h ds xs r⟩
  | .dct kvs, _, ⟨a, xs, e, s, r⟩ => ⟨a, xs, e, h.g _ _ s, RepKs.mono h kvs xs r⟩
  | .ref n, _, ⟨a, e, s⟩ => ⟨a, e, pre_get h.m s⟩
  | .fn _, _, e => e
  | .clo _ _, _, e => e.elim
  | .exc _ _, _, e => e.elim
theorem RepVs.mono (h : w.Le w') : ∀ (ds : List D) (xs : List V), RepVs K mg w ds xs → RepVs K mg w' ds xs
  | [], _, e => e
  | d :: r, _, ⟨x, t, e, p, q⟩ => ⟨x, t, e, RepV.mono h d x p, RepVs.mono h r t q⟩
theorem RepKs.mono (h : w.Le w') : ∀ (kvs : List (D × D)) (xs : List (Key × V)), RepKs K mg w kvs xs → RepKs K mg w' kvs xs
  | [], _, e => e
  | p :: r, _, ⟨k, x, t, e, p', q⟩ => ⟨k, x, t, e, RepP.mono h p k x p', RepKs.mono h r t q⟩
theorem RepP.mono (h : w.Le w') : ∀ (p : D × D) (k : Key) (x : V), RepP K mg w p k x → RepP K mg w' p k x
  | (_, d), _, _, ⟨e, r⟩ => ⟨e, RepV.mono h d _ r⟩
end
theorem ORep.mono (h : w.Le w') {o : HO} {d : D} (e : ORep K mg w o d) : ORep K mg w' o d := by
  cases d with
  | lst ds => obtain ⟨xs, e, r⟩ := e; exact ⟨xs, e, r.mono h⟩
  | tup ds => obtain ⟨xs, e, r⟩ := e; exact ⟨xs, e, r.mono h⟩
  | dct kvs => obtain ⟨xs, e, r⟩ := e; exact ⟨xs, e, r.mono h⟩
  | _ => exact e.elim
theorem RepVs.nil : RepVs K mg w [] [] := rfl
theorem RepVs.cons {d : D} {ds : List D} {x : V} {xs : List V} (h : RepV K mg w d x) (r : RepVs K mg w ds xs) : RepVs K mg w (d :: ds) (x :: xs) := ⟨x, xs, rfl, h, r⟩
theorem RepVs.length : ∀ {ds : List D} {xs : List V}, RepVs K mg w ds xs → xs.length = ds.length
  | [], _, e => by cases e; rfl
  | _ :: _, _, ⟨_, _, e, _, r⟩ => by subst e; simp [RepVs.length r]
theorem RepVs.get : ∀ {ds : List D} {xs : List V} {i : Nat} {d : D}, RepVs K mg w ds xs → ds[i]? = some d → ∃ x, xs[i]? = some x ∧ RepV K mg w d x
  | [], _, _, _, _, e => by simp at e
  | _ :: _, _, 0, _, ⟨x, _, e, p, _⟩, h => by subst e; simp at h; subst h; exact ⟨x, rfl, p⟩
  | _ :: _, _, i + 1, _, ⟨_, _, e, _, q⟩, h => by subst e; simp at h; obtain ⟨x, h1, h2⟩ := RepVs.get q h; exact ⟨x, by simpa using h1, h2⟩
theorem RepVs.get' : ∀ {ds : List D} {xs : List V} {i : Nat} {x : V}, RepVs K mg w ds xs → xs[i]? = some x → ∃ d, ds[i]? = some d ∧ RepV K mg w d x
  | [], _, _, _, e, h => by cases e; simp at h
  | d :: _, _, 0, _, ⟨x, _, e, p, _⟩, h => by subst e; simp at h; subst h; exact ⟨d, rfl, p⟩
  | _ :: _, _, i + 1, _, ⟨_, _, e, _, q⟩, h => by subst e; simp at h; obtain ⟨x, h1, h2⟩ := RepVs.get' q h; exact ⟨x, by simpa using h1, h2⟩
theorem RepVs.append : ∀ {ds es : List D} {xs ys : List V}, RepVs K mg w ds xs → RepVs K mg w es ys → RepVs K mg w (ds ++ es) (xs ++ ys)
  | [], _, _, _, e, r => by cases e; exact r
  | _ :: _, _, _, _, ⟨x, t, e, p, q⟩, r => by subst e; exact ⟨x, t ++ _, rfl, p, RepVs.append q r⟩
theorem RepVs.take : ∀ {ds : List D} {xs : List V} (n : Nat), RepVs K mg w ds xs → RepVs K mg w (ds.take n) (xs.take n)
  | _, _, 0, _ => by simp [RepVs]
  | [], _, n + 1, e => by cases e; simp [RepVs]
  | _ :: _, _, n + 1, ⟨x, t, e, p, q⟩ => by subst e; exact ⟨x, t.take n, rfl, p, RepVs.take n q⟩
theorem RepVs.drop : ∀ {ds : List D} {xs : List V} (n : Nat), RepVs K mg w ds xs → RepVs K mg w (ds.drop n) (xs.drop n)
  | _, _, 0, e => by simpa using e
  | [], _, n + 1, e => by cases e; simp [RepVs]
  | _ :: _, _, n + 1, ⟨x, t, e, p, q⟩ => by subst e; exact RepVs.drop n q
theorem RepVs.set : ∀ {ds : List D} {xs : List V} (i : Nat) {d : D} {x : V}, RepVs K mg w ds xs → RepV K mg w d x → RepVs K mg w (ds.set i d) (xs.set i x)
  | [], _, _, _, _, e, _ => by cases e; exact rfl
  | _ :: _, _, 0, _, _, ⟨x, t, e, p, q⟩, r => by subst e; exact ⟨_, t, rfl, r, q⟩
  | _ :: _, _, i + 1, _, _, ⟨x, t, e, p, q⟩, r => by subst e; exact ⟨x, _, rfl, p, RepVs.set i q r⟩
theorem RepVs.eraseIdx : ∀ {ds : List D} {xs : List V} (i : Nat), RepVs K mg w ds xs → RepVs K mg w (ds.eraseIdx i) (xs.eraseIdx i)
  | [], _, _, e => by cases e; exact rfl
  | _ :: _, _, 0, ⟨x, t, e, p, q⟩ => by subst e; exact q
  | _ :: _, _, i + 1, ⟨x, t, e, p, q⟩ => by subst e; exact ⟨x, _, rfl, p, RepVs.eraseIdx i q⟩
theorem RepVs.reverse : ∀ {ds : List D} {xs : List V}, RepVs K mg w ds xs → RepVs K mg w ds.reverse xs.reverse
  | [], _, e => by cases e; exact rfl
  | _ :: _, _, ⟨x, t, e, p, q⟩ => by
    subst e
    rw [List.reverse_cons, List.reverse_cons]
    exact q.reverse.append (.cons p .nil)
theorem RepVs.rep {ds : List D} {xs : List V} (r : RepVs K mg w ds xs) : ∀ n : Nat, RepVs K mg w (List.replicate n ds).flatten (List.replicate n xs).flatten
  | 0 => rfl
  | n + 1 => by
    rw [List.replicate_succ, List.replicate_succ, List.flatten_cons, List.flatten_cons]
    exact r.append (r.rep n)
theorem RepVs.dropLast {ds : List D} {xs : List V} (r : RepVs K mg w ds xs) : RepVs K mg w ds.dropLast xs.dropLast := by
  rw [List.dropLast_eq_take, List.dropLast_eq_take, r.length]
  exact r.take _
theorem RepVs.of_all : ∀ {ds : List D} {xs : List V}, xs.length = ds.length → (∀ (i : Nat) (d : D) (x : V), ds[i]? = some d → xs[i]? = some x → RepV K mg w d x) → RepVs K mg w ds xs
  | [], [], _, _ => rfl
  | [], _ :: _, e, _ => by simp at e
  | _ :: _, [], e, _ => by simp at e
  | d :: ds, x :: xs, e, h => ⟨x, xs, rfl, h 0 d x rfl rfl, RepVs.of_all (by simpa using e) fun i d' x' h1 h2 => h (i + 1) d' x' (by simpa using h1) (by simpa using h2)⟩
theorem RepKs.length : ∀ {kvs : List (D × D)} {xs : List (Key × V)}, RepKs K mg w kvs xs → xs.length = kvs.length
  | [], _, e => by cases e; rfl
  | _ :: _, _, ⟨_, _, _, e, _, r⟩ => by subst e; simp [RepKs.length r]
end

/-! ### the state -/
/-- a list or dict at v that one name alone holds -/
def OwnV (K : PySem.W.Frag) (mg : Str → Option Value) (w : Wd) (H : Hp) (d : D) (v : V) : Prop := ∃ a o, v = .ref a ∧ H a = some o ∧ ORep K mg w o d ∧ Mut (some o)
def StRep (K : PySem.W.Frag) (mg : Str → Option Value) (w : Wd) (H : Hp) (a : Addr) (o : Ob) : Prop := match o with
  | .lst ds => ∃ xs, H a = some (.lst xs) ∧ RepVs K mg w ds xs
  | .dct kvs => ∃ xs, H a = some (.dK xs) ∧ RepKs K mg w kvs xs
  | .ins c ns vs => ∃ C dx fs, mg c = some (.ref C) ∧ H a = some (.ins C dx fs) ∧ fs.map (·.1) = ns ∧ RepVs K mg w vs (fs.map (·.2))
structure RelC (K : PySem.W.Frag) (mg : Str → Option Value) (P : Hp) (w : Wd) (st : List Ob) (H : Hp) : Prop where
  g : ∀ a o, w.G a = some o → H a = some o
  p : ∀ a o, P a = some o → H a = some o
  stl : st.length = w.m.length
  st : ∀ (n : Nat) (o : Ob) (a : Addr), st[n]? = some o → w.m[n]? = some a → StRep K mg w H a o
  nd : w.m.Nodup
  out : ∀ a ∈ w.m, w.G a = none ∧ P a = none
  gp : ∀ a o, P a = some o → w.G a = none
structure Rel (K : PySem.W.Frag) (mg : Str → Option Value) (P : Hp) (w : Wd) (s : S) (σ : L2.St) (H : Hp) : Prop extends RelC K mg P w s.st H where
  len : s.loc.length = σ.length
  fz : ∀ (i : Nat) (d : D), s.loc[i]? = some (.fz d) → ∃ v, σ[i]? = some (some v) ∧ RepV K mg w d v
  own : ∀ (i : Nat) (d : D), s.loc[i]? = some (.own d) → ∃ v, σ[i]? = some (some v) ∧ OwnV K mg w H d v
  apart : ∀ (i : Nat) (d : D) (a : Addr), s.loc[i]? = some (.own d) → σ[i]? = some (some (.ref a)) → w.G a = none ∧ P a = none ∧ a ∉ w.m
  dis : ∀ (i j : Nat) (d e : D) (a : Addr), s.loc[i]? = some (.own d) → s.loc[j]? = some (.own e) → σ[i]? = some (some (.ref a)) → σ[j]? = some (some (.ref a)) → i = j

/-- what an expression gave, held while others are reckoned: frozen, or a place -/
def Held (K : PySem.W.Frag) (mg : Str → Option Value) (w : Wd) (σ : L2.St) (v : Rv) (x : V) : Prop := match v with
  | .val d _ => RepV K mg w d x
  | .loc i => σ[i]? = some (some x)
/-- what an expression gave, just now -/
def Now (K : PySem.W.Frag) (mg : Str → Option Value) (P : Hp) (w : Wd) (s : S) (σ : L2.St) (H : Hp) (v : Rv) (x : V) : Prop := match v with
  | .val d false => RepV K mg w d x
  | .val d true => OwnV K mg w H d x ∧ ∀ a, x = .ref a → w.G a = none ∧ P a = none ∧ a ∉ w.m ∧ ∀ (i : Nat) (e : D), s.loc[i]? = some (.own e) → σ[i]? ≠ some (some (.ref a))
  | .loc i => σ[i]? = some (some x)
/-- data that are looked at: frozen, or a list or dict as it stands -/
def Seen (K : PySem.W.Frag) (mg : Str → Option Value) (w : Wd) (H : Hp) (d : D) (x : V) : Prop := RepV K mg w d x ∨ OwnV K mg w H d x
section
variable {K : PySem.W.Frag} {mg : Str → Option Value} {P : Hp} {w w' : Wd} {s : S} {σ : L2.St} {H : Hp} {d : D} {v : Rv} {x : V}
theorem Held.mono (h : w.Le w') (e : Held K mg w σ v x) : Held K mg w' σ v x := by
  cases v with
  | val d f => exact RepV.mono h d x e
  | loc i => exact e
theorem ORep.rep {o : HO} {a : Addr} (e : ORep K mg w o d) (h : w.G a = some o) : RepV K mg w d (.ref a) := by
  cases d with
  | lst ds => obtain ⟨xs, rfl, r⟩ := e; exact ⟨a, xs, rfl, h, r⟩
  | tup ds => obtain ⟨xs, rfl, r⟩ := e; exact ⟨a, xs, rfl, h, r⟩
  | dct kvs => obtain ⟨xs, rfl, r⟩ := e; exact ⟨a, xs, rfl, h, r⟩
  | _ => exact e.elim
/-- an object that nothing of the state holds is frozen -/
def Wd.add (w : Wd) (a : Addr) (o : HO) : Wd := ⟨upd w.G a o, w.m⟩
theorem Wd.le_add {a : Addr} {o : HO} (h : w.G a = none) : w.Le (w.add a o) := ⟨fun b u e => by
  show upd w.G a o b = some u
  rw [upd_ne (ne_of_none e h)]
  exact e, List.prefix_refl _⟩
theorem StRep.mono {a : Addr} {o : Ob} {H : Hp} (h : w.Le w') (e : StRep K mg w H a o) : StRep K mg w' H a o := by
  cases o with
  | lst ds => obtain ⟨xs, e, r⟩ := e; exact ⟨xs, e, r.mono h⟩
  | dct kvs => obtain ⟨xs, e, r⟩ := e; exact ⟨xs, e, r.mono h⟩
  | ins c ns vs => obtain ⟨C, dx, fs, e1, e2, e3, r⟩ := e; exact ⟨C, dx, fs, e1, e2, e3, r.mono h⟩
theorem OwnV.mono (h : w.Le w') (e : OwnV K mg w H d x) : OwnV K mg w' H d x := by
  obtain ⟨a, o, e1, e2, e3, e4⟩ := e
  exact ⟨a, o, e1, e2, e3.mono h, e4⟩
theorem RelC.freeze {st : List Ob} (R : RelC K mg P w st H) {a : Addr} {o : HO} (hG : w.G a = none) (hP : P a = none) (hH : H a = some o) (hm : a ∉ w.m) : RelC K mg P (w.add a o) st H where
  g := fun b u e => by
    by_cases hb : b = a
    · subst hb
      rw [show (w.add b o).G b = some o from upd_same] at e
      cases e
      exact hH
    · exact R.g b u ((upd_ne hb).symm.trans e)
  p := R.p
  stl := R.stl
  st := fun n ob b h1 h2 => (R.st n ob b h1 h2).mono (Wd.le_add hG)
  nd := R.nd
  out := fun b hb => ⟨(upd_ne (show b ≠ a from fun e => hm (e ▸ hb))).trans (R.out b hb).1, (R.out b hb).2⟩
  gp := fun b u e => (upd_ne (show b ≠ a from fun z => by rw [z, hP] at e; cases e)).trans (R.gp b u e)
theorem Rel.freeze (R : Rel K mg P w s σ H) {a : Addr} {o : HO} (hG : w.G a = none) (hP : P a = none) (hH : H a = some o) (hm : a ∉ w.m) (ho : ∀ (i : Nat) (e : D), s.loc[i]? = some (.own e) → σ[i]? ≠ some (some (.ref a))) : Rel K mg P (w.add a o) s σ H :=
  { R.toRelC.freeze hG hP hH hm with
    len := R.len
    fz := fun i e h => by
      obtain ⟨u, h1, h2⟩ := R.fz i e h
      exact ⟨u, h1, RepV.mono (Wd.le_add hG) _ _ h2⟩
    own := fun i e h => by
      obtain ⟨u, h1, h2⟩ := R.own i e h
      exact ⟨u, h1, h2.mono (Wd.le_add hG)⟩
    apart := fun i e b h1 h2 => by
      obtain ⟨k1, k2, k3⟩ := R.apart i e b h1 h2
      refine ⟨?_, k2, k3⟩
      have hb : b ≠ a := fun z => ho i e h1 (z ▸ h2)
      exact (upd_ne hb).trans k1
    dis := R.dis }
/-- what was given is held -/
theorem Now.hold (R : Rel K mg P w s σ H) (h : Now K mg P w s σ H v x) : ∃ w', w.Le w' ∧ Rel K mg P w' s σ H ∧ Held K mg w' σ v x := by
  cases v with
  | loc i => exact ⟨w, .refl w, R, h⟩
  | val d fr =>
    cases fr with
    | false => exact ⟨w, .refl w, R, h⟩
    | true =>
      obtain ⟨⟨a, o, rfl, ha, ho, _⟩, hh⟩ := h
      obtain ⟨g1, g2, g3, g4⟩ := hh a rfl
      exact ⟨w.add a o, Wd.le_add g1, R.freeze g1 g2 ha g3 g4, (ho.mono (Wd.le_add g1)).rep (show (w.add a o).G a = some o from upd_same)⟩
theorem deref_seen (R : RelC K mg P w s.st H) (h : RepV K mg w d x) : Seen K mg w H (deref s.st d) x := by
  cases d with
  | ref n =>
    obtain ⟨a, rfl, hm⟩ := h
    cases e : s.st[n]? with
    | none => rw [show deref s.st (.ref n) = .ref n by simp [deref, e]]; exact .inl ⟨a, rfl, hm⟩
    | some o =>
      have q := R.st n o a e hm
      cases o with
      | lst ds => rw [show deref s.st (.ref n) = .lst ds by simp [deref, e]]; obtain ⟨xs, h1, h2⟩ := q; exact .inr ⟨a, _, rfl, h1, ⟨xs, rfl, h2⟩, trivial⟩
      | dct kvs => rw [show deref s.st (.ref n) = .dct kvs by simp [deref, e]]; obtain ⟨xs, h1, h2⟩ := q; exact .inr ⟨a, _, rfl, h1, ⟨xs, rfl, h2⟩, trivial⟩
      | ins c ns vs => rw [show deref s.st (.ref n) = .ref n by simp [deref, e]]; exact .inl ⟨a, rfl, hm⟩
  | _ => exact .inl h
/-- what is read of a held value -/
theorem Held.read (R : Rel K mg P w s σ H) (h : Held K mg w σ v x) (e : rd s v = some d) : Seen K mg w H d x := by
  cases v with
  | val d' f =>
    have e' : deref s.st d' = d := Option.some.inj e
    subst e'
    exact deref_seen R.toRelC h
  | loc i =>
    have hs : σ[i]? = some (some x) := h
    have e' : (match s.loc[i]? with | some (.own d) => some d | some (.fz d) => some d | _ => none) = some d := e
    cases q : s.loc[i]? with
    | none => rw [q] at e'; cases e'
    | some sl =>
      rw [q] at e'
      cases sl with
      | emp => cases e'
      | fz d' =>
        cases e'
        obtain ⟨u, h1, h2⟩ := R.fz i _ q
        rw [hs] at h1; cases h1
        exact .inl h2
      | own d' =>
        cases e'
        obtain ⟨u, h1, h2⟩ := R.own i _ q
        rw [hs] at h1; cases h1
        exact .inr h2
end
end PyE
end
section
set_option linter.all false
set_option autoImplicit false
set_option maxRecDepth 100000
/-! PySim: what a term's run means for the text's tree (readings made of the small language's runs). -/
namespace PyE
open PySem PySem.Spec PyProof.Rows L2

/-- what stands fast: the written part, the module's names, the exceptions' fields -/
structure En where
  K : PySem.W.Frag
  mg : Str → Option Value
  P : Pr
abbrev En.rep (e : En) := RepV e.K e.mg
abbrev En.rel (e : En) := Rel e.K e.mg
/-- an exception as it leaves: its class, its own dict -/
def En.xrep (e : En) (w : Wd) (H : Hp) (c : Str) (vs : List D) (C d : Addr) : Prop :=
  e.mg c = some (.ref C) ∧ ∃ ns fs, e.P.xf c = some ns ∧ ns.length = vs.length ∧ H d = some (.xd fs) ∧ ∀ (i : Nat) (n : Str) (dv : D), ns[i]? = some n → vs[i]? = some dv → ∃ v, fs.lookup n = some v ∧ e.rep w dv v

/-- behind a run: Q of what came back; Wx of what was raised -/
def After {α : Type} (e : En) (Wx : XK) (P : Hp) (w : Wd) (σ : L2.St) (r : R α) (Q : α → S → Wd → Hp → Prop) : Prop := match r with
  | .ok a s => ∀ w' H', w.Le w' → e.rel P w' s σ H' → Q a s w' H'
  | .exc c vs s => ∀ w' H' C d, w.Le w' → e.rel P w' s σ H' → e.xrep w' H' c vs C d → Wx (.ref C) (some d) H'
  | .stuck => False
section
variable {α β : Type} {e : En} {Wx : XK} {P : Hp} {w w' : Wd} {σ : L2.St} {r : R α} {Q Q' : α → S → Wd → Hp → Prop}
theorem After.mono (h : w.Le w') (a : After e Wx P w σ r Q) : After e Wx P w' σ r Q := by
  cases r with
  | ok x s => exact fun u H' l R => a u H' (h.trans l) R
  | exc c vs s => exact fun u H' C d l R X => a u H' C d (h.trans l) R X
  | stuck => exact a
theorem After.imp (a : After e Wx P w σ r Q) (h : ∀ x s w' H', w.Le w' → e.rel P w' s σ H' → Q x s w' H' → Q' x s w' H') : After e Wx P w σ r Q' := by
  cases r with
  | ok x s => exact fun u H' l R => h x s u H' l R (a u H' l R)
  | exc c vs s => exact a
  | stuck => exact a
theorem After.impE (a : After e Wx P w σ r Q) (h : ∀ x s w' H', r = .ok x s → w.Le w' → e.rel P w' s σ H' → Q x s w' H' → Q' x s w' H') : After e Wx P w σ r Q' := by
  cases r with
  | ok x s => exact fun u H' l R => h x s u H' rfl l R (a u H' l R)
  | exc c vs s => exact a
  | stuck => exact a
theorem After.bind {g : α → S → R β} {Q : β → S → Wd → Hp → Prop} (a : After e Wx P w σ (r.bind g) Q) : After e Wx P w σ r (fun x s w' _ => After e Wx P w' σ (g x s) Q) := by
  cases r with
  | ok x s => exact fun u H' l R => After.mono l a
  | exc c vs s => exact a
  | stuck => exact a
theorem After.of {o : Option α} {s : S} (a : After e Wx P w σ (R.of o s) Q) : ∃ x, o = some x ∧ ∀ w' H', w.Le w' → e.rel P w' s σ H' → Q x s w' H' := by
  cases o with
  | none => exact a.elim
  | some x => exact ⟨x, rfl, a⟩
end

/-! ### readings -/
def tE (e : En) (W : WX) (f : S → R Rv) : TE := fun σ H Q => ∃ P w s, e.rel P w s σ H ∧ After e (fun c d H => W c d σ H) P w σ (f s) (fun v s' w' H' => ∀ x, Now e.K e.mg P w' s' σ H' v x → Q x H')
def tT (e : En) (W : WX) (f : S → R Bool) : TT := fun σ H Q => ∃ P w s, e.rel P w s σ H ∧ After e (fun c d H => W c d σ H) P w σ (f s) (fun b _ _ H' => Q b H')
/-- values that are kept -/
def tK (e : En) (W : WX) (f : S → R (List D)) : TA := fun σ H Q => ∃ P w s, e.rel P w s σ H ∧ After e (fun c d H => W c d σ H) P w σ (f s) (fun ds s' w' H' => ∀ xs, RepVs e.K e.mg w' ds xs → Q xs H')
/-- values that are looked at -/
inductive Helds (K : PySem.W.Frag) (mg : Str → Option Value) (w : Wd) (σ : L2.St) : List Rv → List V → Prop
  | nil : Helds K mg w σ [] []
  | cons {v : Rv} {x : V} {vs : List Rv} {xs : List V} : Held K mg w σ v x → Helds K mg w σ vs xs → Helds K mg w σ (v :: vs) (x :: xs)
def tL (e : En) (W : WX) (f : S → R (List Rv)) : TA := fun σ H Q => ∃ P w s, e.rel P w s σ H ∧ After e (fun c d H => W c d σ H) P w σ (f s) (fun vs s' w' H' => ∀ xs, Helds e.K e.mg w' σ vs xs → Q xs H')
theorem Helds.mono {K : PySem.W.Frag} {mg : Str → Option Value} {w w' : Wd} {σ : L2.St} (h : w.Le w') : ∀ {vs : List Rv} {xs : List V}, Helds K mg w σ vs xs → Helds K mg w' σ vs xs
  | _, _, .nil => .nil
  | _, _, .cons a b => .cons (a.mono h) (Helds.mono h b)
theorem pe_mono {X : Cx} {a : Expr} {t t' : TE} (h : PE X a t) (k : ∀ σ H Q, t' σ H Q → t σ H Q) : PE X a t' := ⟨fun pins s σ H Q I q => h.run pins s σ H Q I (k σ H Q q)⟩
theorem pt_mono {X : Cx} {a : Expr} {t t' : TT} (h : PT X a t) (k : ∀ σ H Q, t' σ H Q → t σ H Q) : PT X a t' := ⟨fun pins s σ H Q I q => h.run pins s σ H Q I (k σ H Q q)⟩
theorem pw_mono {X : Cx} {a : Expr} {t t' : TT} (h : PW X a t) (k : ∀ σ H Q, t' σ H Q → t σ H Q) : PW X a t' := ⟨fun wh pins s σ H Q I q => h.run wh pins s σ H Q I (k σ H Q q)⟩
theorem pa_mono {X : Cx} {a : List Expr} {t t' : TA} (h : PA X a t) (k : ∀ σ H Q, t' σ H Q → t σ H Q) : PA X a t' := ⟨fun pos pins s σ H Q I q => h.run pos pins s σ H Q I (k σ H Q q)⟩
theorem ps_mono {X : Cx} {a : Stmt} {t t' : TS} (h : PS X a t) (k : ∀ D σ H, t' D σ H → t D σ H) : PS X a t' := ⟨fun pins s σ H D I q => h.run pins s σ H D I (k D σ H q)⟩
theorem pss_mono {X : Cx} {a : List Stmt} {t t' : TS} (h : PSs X a t) (k : ∀ D σ H, t' D σ H → t D σ H) : PSs X a t' := ⟨fun pins s σ H D I q => h.run pins s σ H D I (k D σ H q)⟩
section
variable {e : En} {W : WX} {σ : L2.St} {H : Hp}
/-- one step ahead, held; then the rest -/
theorem tE_bind {f : S → R Rv} {g : Rv → S → R Rv} {Q T : VK} (h : tE e W (fun s => (f s).bind g) σ H Q)
    (k : ∀ P w s v x H1, e.rel P w s σ H1 → Held e.K e.mg w σ v x → After e (fun c d H => W c d σ H) P w σ (g v s) (fun u s' w' H' => ∀ y, Now e.K e.mg P w' s' σ H' u y → Q y H') → T x H1) : tE e W f σ H T := by
  obtain ⟨P, w, s, R, A⟩ := h
  refine ⟨P, w, s, R, A.bind.imp fun v s1 w1 H1 l R1 q x n => ?_⟩
  obtain ⟨w2, l2, R2, hd⟩ := n.hold R1
  exact k P w2 s1 v x H1 R2 hd (q.mono l2)
/-- .. where the value as it is goes on -/
theorem tE_bindN {f : S → R Rv} {g : Rv → S → R Rv} {Q T : VK} (h : tE e W (fun s => (f s).bind g) σ H Q)
    (k : ∀ P w s v x H1, e.rel P w s σ H1 → Now e.K e.mg P w s σ H1 v x → After e (fun c d H => W c d σ H) P w σ (g v s) (fun u s' w' H' => ∀ y, Now e.K e.mg P w' s' σ H' u y → Q y H') → T x H1) : tE e W f σ H T := by
  obtain ⟨P, w, s, R, A⟩ := h
  exact ⟨P, w, s, R, A.bind.imp fun v s1 w1 H1 l R1 q x n => k P w1 s1 v x H1 R1 n q⟩
end

/-! ### what operators give -/
/-- the result z in the heap H': the frozen d, or a new object -/
def NewR (K : PySem.W.Frag) (mg : Str → Option Value) (w : Wd) (H : Hp) (d : D) (fr : Bool) (z : V) (H' : Hp) : Prop :=
  (H' = H ∧ fr = false ∧ RepV K mg w d z) ∨ ∃ a o, z = .ref a ∧ H a = none ∧ H' = upd H a o ∧ ORep K mg w o d ∧ (fr = true → Mut (some o))
section
variable {K : PySem.W.Frag} {mg : Str → Option Value} {P : Hp} {w : Wd} {s : S} {σ : L2.St} {H H' : Hp} {d : D} {fr : Bool} {z : V}
theorem OwnV.ext (h : ∀ a o, H a = some o → H' a = some o) (r : OwnV K mg w H d z) : OwnV K mg w H' d z := by
  obtain ⟨a, o, e1, e2, e3⟩ := r
  exact ⟨a, o, e1, h _ _ e2, e3⟩
theorem StRep.ext {a : Addr} {o : Ob} (h : ∀ a o, H a = some o → H' a = some o) (r : StRep K mg w H a o) : StRep K mg w H' a o := by
  cases o with
  | lst ds => obtain ⟨xs, e, r⟩ := r; exact ⟨xs, h _ _ e, r⟩
  | dct kvs => obtain ⟨xs, e, r⟩ := r; exact ⟨xs, h _ _ e, r⟩
  | ins c ns vs => obtain ⟨C, dx, fs, e1, e2, e3⟩ := r; exact ⟨C, dx, fs, e1, h _ _ e2, e3⟩
theorem RelC.ext {st : List Ob} (h : ∀ a o, H a = some o → H' a = some o) (R : RelC K mg P w st H) : RelC K mg P w st H' :=
  ⟨fun a o q => h _ _ (R.g a o q), fun a o q => h _ _ (R.p a o q), R.stl, fun n o a h1 h2 => (R.st n o a h1 h2).ext h, R.nd, R.out, R.gp⟩
theorem Rel.ext (h : ∀ a o, H a = some o → H' a = some o) (R : Rel K mg P w s σ H) : Rel K mg P w s σ H' :=
  { R.toRelC.ext h with
    len := R.len
    fz := R.fz
    own := fun i d q => by
      obtain ⟨v, h1, h2⟩ := R.own i d q
      exact ⟨v, h1, h2.ext h⟩
    apart := R.apart
    dis := R.dis }
theorem upd_ext {a : Addr} {o : HO} (h : H a = none) : ∀ b u, H b = some u → upd H a o b = some u := fun b u q => by
  rw [upd_ne (ne_of_none q h)]
  exact q
theorem none_of_sub {G H : Hp} (h : ∀ a o, G a = some o → H a = some o) {a : Addr} (n : H a = none) : G a = none := by
  cases q : G a with
  | none => rfl
  | some o => rw [h a o q] at n; cases n
theorem StRep.there {a : Addr} {o : Ob} (r : StRep K mg w H a o) : ∃ u, H a = some u := by
  cases o with
  | lst ds => obtain ⟨xs, e, r⟩ := r; exact ⟨_, e⟩
  | dct kvs => obtain ⟨xs, e, r⟩ := r; exact ⟨_, e⟩
  | ins c ns vs => obtain ⟨C, dx, fs, e1, e2, e3⟩ := r; exact ⟨_, e2⟩
theorem RelC.notIn {st : List Ob} (R : RelC K mg P w st H) {a : Addr} (n : H a = none) : a ∉ w.m := fun hm => by
  obtain ⟨i, hi, e⟩ := List.getElem_of_mem hm
  have h1 : w.m[i]? = some a := by rw [List.getElem?_eq_getElem hi, e]
  have h2 : i < st.length := by rw [R.stl]; exact hi
  obtain ⟨u, q⟩ := (R.st i st[i] a (List.getElem?_eq_getElem h2) h1).there
  rw [q] at n; cases n
/-- what came back from an operator -/
theorem NewR.now (R : Rel K mg P w s σ H) (h : NewR K mg w H d fr z H') : ∃ w', w.Le w' ∧ Rel K mg P w' s σ H' ∧ Now K mg P w' s σ H' (.val d fr) z := by
  rcases h with ⟨rfl, rfl, r⟩ | ⟨a, o, rfl, hn, rfl, r, hm⟩
  · exact ⟨w, .refl w, R, r⟩
  · have R1 := R.ext (upd_ext (o := o) hn)
    have g1 : w.G a = none := none_of_sub R.g hn
    have p1 : P a = none := none_of_sub R.p hn
    have m1 : a ∉ w.m := R.notIn hn
    have o1 : ∀ (i : Nat) (e : D), s.loc[i]? = some (.own e) → σ[i]? ≠ some (some (.ref a)) := fun i e q z => by
      obtain ⟨v, h1, b, u, e1, e2, _⟩ := R.own i e q
      rw [z] at h1
      have h1' : V.ref a = v := Option.some.inj (Option.some.inj h1)
      rw [← h1'] at e1
      cases e1
      rw [hn] at e2; cases e2
    cases fr with
    | true => exact ⟨w, .refl w, R1, ⟨a, o, rfl, upd_same, r, hm rfl⟩, fun b e => by cases e; exact ⟨g1, p1, m1, o1⟩⟩
    | false => exact ⟨w.add a o, Wd.le_add g1, R1.freeze g1 p1 upd_same m1 o1, (r.mono (Wd.le_add g1)).rep (show (w.add a o).G a = some o from upd_same)⟩
end
/-- an operator on data, by values -/
def rOp (e : En) (g : D → D → Option (D × Bool)) : R2 := fun x y H Q => ∃ w dx dy d fr, (∀ a o, w.G a = some o → H a = some o) ∧ Seen e.K e.mg w H dx x ∧ Seen e.K e.mg w H dy y ∧ g dx dy = some (d, fr) ∧ ∀ z H', NewR e.K e.mg w H d fr z H' → Q z H'
section
variable {X : Cx} {e : En} {W : WX} {a b c : Expr} {fa fb fc : S → R Rv} {pos : Pos}
/-- two values, then an operator -/
def run2 (g : D → D → Option (D × Bool)) (fa fb : S → R Rv) (s : S) : R Rv := (fa s).bind fun x s => (fb s).bind fun y s => match rd s x, rd s y with
  | some x, some y => R.of ((g x y).map fun p => Rv.val p.1 p.2) s
  | _, _ => .stuck
theorem run2_op {g : D → D → Option (D × Bool)} {σ : L2.St} {H : Hp} {Q : VK} (h : tE e W (run2 g fa fb) σ H Q) : tOp (rOp e g) (tE e W fa) (tE e W fb) σ H Q := by
  refine tE_bind h fun P w s v x H1 R hv A => ?_
  refine ⟨P, w, s, R, A.bind.imp fun u s2 w2 H2 l2 R2 q y n => ?_⟩
  obtain ⟨w3, l3, R3, hu⟩ := n.hold R2
  have q := q.mono l3
  have hv3 := (hv.mono l2).mono l3
  cases e1 : rd s2 v with
  | none => simp only [e1] at q; exact q.elim
  | some dx =>
    cases e2 : rd s2 u with
    | none => simp only [e1, e2] at q; exact q.elim
    | some dy =>
      simp only [e1, e2] at q
      obtain ⟨rv, hr, k⟩ := q.of
      cases hg : g dx dy with
      | none => rw [hg] at hr; cases hr
      | some p =>
        rw [hg] at hr
        cases hr
        refine ⟨w3, dx, dy, p.1, p.2, R3.g, hv3.read R3 e1, hu.read R3 e2, hg, fun z H' nr => ?_⟩
        obtain ⟨w4, l4, R4, nz⟩ := nr.now R3
        exact k w4 H' l4 R4 z nz
end
end PyE
end
section
set_option linter.all false
set_option autoImplicit false
set_option maxRecDepth 100000
set_option maxHeartbeats 1000000
/-! PySt: changes of the state. -/
namespace PyE
open PySem PySem.Spec PyProof.Rows L2

section
variable {K : PySem.W.Frag} {mg : Str → Option Value} {P : Hp} {w w' : Wd} {s : S} {σ : L2.St} {H H' : Hp} {d d' : D} {v : Rv} {x : V} {i : Nat} {a : Addr} {o o' : HO}
theorem Now.read (R : Rel K mg P w s σ H) (h : Now K mg P w s σ H v x) (e : rd s v = some d) : Seen K mg w H d x := by
  cases v with
  | loc i => exact Held.read (v := .loc i) R h e
  | val d' fr =>
    cases fr with
    | false => exact Held.read (v := .val d' false) R h e
    | true =>
      have e' : deref s.st d' = d := Option.some.inj e
      obtain ⟨h1, h2⟩ := h
      have : deref s.st d' = d' := by
        obtain ⟨a, o, _, _, r, _⟩ := h1
        cases d' with
        | ref n => exact r.elim
        | _ => rfl
      rw [this] at e'
      subst e'
      exact .inr h1
theorem setLoc_get {s : S} {i j : Nat} {y : Slot} : (setLoc s i y).loc[j]? = if i = j then (if i < s.loc.length then some y else none) else s.loc[j]? := by
  unfold setLoc
  simp only [List.getElem?_set]
theorem sig_get {σ : L2.St} {i j : Nat} {y : Option V} : (σ.set i y)[j]? = if i = j then (if i < σ.length then some y else none) else σ[j]? := by
  rw [List.getElem?_set]
/-- a name is bound to a frozen value -/
theorem Rel.nameFz (R : Rel K mg P w s σ H) (r : RepV K mg w d x) : Rel K mg P w (setLoc s i (.fz d)) (σ.set i (some x)) H :=
  { R.toRelC with
    len := by simp [setLoc, R.len]
    fz := fun j e h => by
      rw [setLoc_get] at h
      rw [sig_get]
      by_cases hj : i = j
      · rw [if_pos hj] at h ⊢
        by_cases hl : i < s.loc.length
        · rw [if_pos hl] at h
          cases h
          rw [if_pos (by rw [← R.len]; exact hl)]
          exact ⟨x, rfl, r⟩
        · rw [if_neg hl] at h; cases h
      · rw [if_neg hj] at h ⊢
        exact R.fz j e h
    own := fun j e h => by
      rw [setLoc_get] at h
      rw [sig_get]
      by_cases hj : i = j
      · rw [if_pos hj] at h
        split at h <;> cases h
      · rw [if_neg hj] at h ⊢
        exact R.own j e h
    apart := fun j e b h h2 => by
      rw [setLoc_get] at h
      rw [sig_get] at h2
      by_cases hj : i = j
      · rw [if_pos hj] at h
        split at h <;> cases h
      · rw [if_neg hj] at h h2
        exact R.apart j e b h h2
    dis := fun j k e f b h1 h2 h3 h4 => by
      rw [setLoc_get] at h1 h2
      rw [sig_get] at h3 h4
      by_cases hj : i = j
      · rw [if_pos hj] at h1
        split at h1 <;> cases h1
      · by_cases hk : i = k
        · rw [if_pos hk] at h2
          split at h2 <;> cases h2
        · rw [if_neg hj] at h1 h3
          rw [if_neg hk] at h2 h4
          exact R.dis j k e f b h1 h2 h3 h4 }
/-- a name is bound to a list or dict of its own -/
theorem Rel.nameOwn (R : Rel K mg P w s σ H) (n : Now K mg P w s σ H (.val d true) x) : Rel K mg P w (setLoc s i (.own d)) (σ.set i (some x)) H := by
  obtain ⟨n1, n2⟩ := n
  exact { R.toRelC with
    len := by simp [setLoc, R.len]
    fz := fun j e h => by
      rw [setLoc_get] at h
      rw [sig_get]
      by_cases hj : i = j
      · rw [if_pos hj] at h
        split at h <;> cases h
      · rw [if_neg hj] at h ⊢
        exact R.fz j e h
    own := fun j e h => by
      rw [setLoc_get] at h
      rw [sig_get]
      by_cases hj : i = j
      · rw [if_pos hj] at h ⊢
        by_cases hl : i < s.loc.length
        · rw [if_pos hl] at h
          cases h
          rw [if_pos (by rw [← R.len]; exact hl)]
          exact ⟨x, rfl, n1⟩
        · rw [if_neg hl] at h; cases h
      · rw [if_neg hj] at h ⊢
        exact R.own j e h
    apart := fun j e b h h2 => by
      rw [setLoc_get] at h
      rw [sig_get] at h2
      by_cases hj : i = j
      · rw [if_pos hj] at h h2
        by_cases hl : i < σ.length
        · rw [if_pos hl] at h2
          have e1 : x = .ref b := Option.some.inj (Option.some.inj h2)
          obtain ⟨g1, g2, g3, _⟩ := n2 b e1
          exact ⟨g1, g2, g3⟩
        · rw [if_neg hl] at h2; cases h2
      · rw [if_neg hj] at h h2
        exact R.apart j e b h h2
    dis := fun j k e f b h1 h2 h3 h4 => by
      rw [setLoc_get] at h1 h2
      rw [sig_get] at h3 h4
      by_cases hj : i = j
      · by_cases hk : i = k
        · rw [← hj, ← hk]
        · rw [if_pos hj] at h1 h3
          rw [if_neg hk] at h2 h4
          by_cases hl : i < σ.length
          · rw [if_pos hl] at h3
            have e1 : x = .ref b := Option.some.inj (Option.some.inj h3)
            exact absurd h4 ((n2 b e1).2.2.2 k f h2)
          · rw [if_neg hl] at h3; cases h3
      · by_cases hk : i = k
        · rw [if_neg hj] at h1 h3
          rw [if_pos hk] at h2 h4
          by_cases hl : i < σ.length
          · rw [if_pos hl] at h4
            have e1 : x = .ref b := Option.some.inj (Option.some.inj h4)
            exact absurd h3 ((n2 b e1).2.2.2 j e h1)
          · rw [if_neg hl] at h4; cases h4
        · rw [if_neg hj] at h1 h3
          rw [if_neg hk] at h2 h4
          exact R.dis j k e f b h1 h2 h3 h4 }
/-- a slot is forgotten: its list or dict is in the hand -/
theorem Rel.take (R : Rel K mg P w s σ H) (h : s.loc[i]? = some (.own d)) (hx : σ[i]? = some (some x)) : Rel K mg P w (setLoc s i .emp) σ H ∧ Now K mg P w (setLoc s i .emp) σ H (.val d true) x := by
  have hold : ∀ j y, (setLoc s i .emp).loc[j]? = some y → y ≠ .emp → s.loc[j]? = some y ∧ i ≠ j := fun j y h1 h2 => by
    rw [setLoc_get] at h1
    by_cases hj : i = j
    · rw [if_pos hj] at h1
      split at h1
      · cases h1; exact absurd rfl h2
      · cases h1
    · rw [if_neg hj] at h1
      exact ⟨h1, hj⟩
  refine ⟨{ R.toRelC with
    len := by simp [setLoc, R.len]
    fz := fun j e h1 => R.fz j e (hold j _ h1 (fun z => nomatch z)).1
    own := fun j e h1 => R.own j e (hold j _ h1 (fun z => nomatch z)).1
    apart := fun j e b h1 h2 => R.apart j e b (hold j _ h1 (fun z => nomatch z)).1 h2
    dis := fun j k e f b h1 h2 h3 h4 => R.dis j k e f b (hold j _ h1 (fun z => nomatch z)).1 (hold k _ h2 (fun z => nomatch z)).1 h3 h4 }, ?_, fun b hb => ?_⟩
  · obtain ⟨v, h1, h2⟩ := R.own i d h
    rw [hx] at h1; cases h1
    exact h2
  · subst hb
    obtain ⟨g1, g2, g3⟩ := R.apart i d b h hx
    refine ⟨g1, g2, g3, fun j e h1 h2 => ?_⟩
    obtain ⟨h3, h4⟩ := hold j _ h1 (fun z => nomatch z)
    exact h4 (R.dis i j d e b h h3 hx h2)
/-- what a slot holds is known -/
theorem Rel.know (R : Rel K mg P w s σ H) (hx : σ[i]? = some (some x)) (r : RepV K mg w d x) : Rel K mg P w (setLoc s i (.fz d)) σ H := by
  have := R.nameFz (i := i) r
  have e : σ.set i (some x) = σ := by
    apply List.ext_getElem?
    intro j
    rw [sig_get]
    by_cases hj : i = j
    · rw [if_pos hj, ← hj, hx, if_pos (List.getElem?_eq_some_iff.mp hx).1]
    · rw [if_neg hj]
  rw [e] at this
  exact this
theorem setLoc_twice (s : S) (i : Nat) (a b : Slot) : setLoc (setLoc s i a) i b = setLoc s i b := by
  unfold setLoc
  simp

/-! ### a place is written -/
theorem RelC.store {st : List Ob} (R : RelC K mg P w st H) (hG : w.G a = none) (hP : P a = none) (hm : a ∉ w.m) : RelC K mg P w st (upd H a o') where
  g := fun b u e => by rw [upd_ne (ne_of_none e hG)]; exact R.g b u e
  p := fun b u e => by rw [upd_ne (ne_of_none e hP)]; exact R.p b u e
  stl := R.stl
  st := fun n ob b h1 h2 => by
    have hb : b ≠ a := fun z => hm (z ▸ List.mem_of_getElem? h2)
    have := R.st n ob b h1 h2
    cases ob with
    | lst ds => obtain ⟨xs, e, r⟩ := this; exact ⟨xs, by rw [upd_ne hb]; exact e, r⟩
    | dct ds => obtain ⟨xs, e, r⟩ := this; exact ⟨xs, by rw [upd_ne hb]; exact e, r⟩
    | ins c ns vs => obtain ⟨C, dx, fs, e1, e2, e3⟩ := this; exact ⟨C, dx, fs, e1, by rw [upd_ne hb]; exact e2, e3⟩
  nd := R.nd
  out := R.out
  gp := R.gp
/-- what a place is: the address of a local's own object, or of the store's -/
theorem put_at (R : Rel K mg P w s σ H) (h : Held K mg w σ v x) {s' : S} (e : rd s v = some d) (hp : put v d' s = some s') : ∃ a o, x = .ref a ∧ H a = some o ∧ ORep K mg w o d ∧ Mut (some o) ∧ ∀ o', ORep K mg w o' d' → Mut (some o') → Rel K mg P w s' σ (upd H a o') := by
  unfold put at hp
  cases v with
  | loc i =>
    have hx : σ[i]? = some (some x) := h
    simp only at hp
    cases q : s.loc[i]? with
    | none => rw [q] at hp; cases hp
    | some sl =>
      rw [q] at hp
      cases sl with
      | emp => cases hp
      | fz d1 => cases hp
      | own d1 =>
        cases hp
        have e1 : d1 = d := by
          have : (match s.loc[i]? with | some (.own d) => some d | some (.fz d) => some d | _ => none) = some d := e
          rw [q] at this
          exact Option.some.inj this
        subst e1
        obtain ⟨v, h1, a, o, rfl, ha, ho, hm⟩ := R.own i d1 q
        rw [hx] at h1; cases h1
        obtain ⟨g1, g2, g3⟩ := R.apart i d1 a q hx
        refine ⟨a, o, rfl, ha, ho, hm, fun o' ho' hm' => ?_⟩
        have hget : ∀ j y, (s.loc.set i (.own d'))[j]? = some y → (i = j ∧ y = .own d') ∨ (i ≠ j ∧ s.loc[j]? = some y) := fun j y h1 => by
          rw [List.getElem?_set] at h1
          by_cases hj : i = j
          · rw [if_pos hj] at h1
            split at h1
            · cases h1; exact .inl ⟨hj, rfl⟩
            · cases h1
          · rw [if_neg hj] at h1
            exact .inr ⟨hj, h1⟩
        exact { R.toRelC.store g1 g2 g3 with
          len := by simp [R.len]
          fz := fun j e h1 => by
            rcases hget j _ h1 with ⟨_, z⟩ | ⟨_, z⟩
            · cases z
            · exact R.fz j e z
          own := fun j e h1 => by
            rcases hget j _ h1 with ⟨hj, z⟩ | ⟨hj, z⟩
            · cases z
              subst hj
              exact ⟨_, hx, a, o', rfl, upd_same, ho', hm'⟩
            · obtain ⟨u, k1, b, ob, rfl, k2, k3, k4⟩ := R.own j e z
              have hb : b ≠ a := fun zz => hj (R.dis i j d1 e a q z hx (zz ▸ k1))
              exact ⟨_, k1, b, ob, rfl, by rw [upd_ne hb]; exact k2, k3, k4⟩
          apart := fun j e b h1 h2 => by
            rcases hget j _ h1 with ⟨hj, z⟩ | ⟨hj, z⟩
            · subst hj
              exact R.apart i d1 b q h2
            · exact R.apart j e b z h2
          dis := fun j k e f b h1 h2 h3 h4 => by
            rcases hget j _ h1 with ⟨hj, z⟩ | ⟨hj, z⟩
            · rcases hget k _ h2 with ⟨hk, y⟩ | ⟨hk, y⟩
              · exact hj.symm.trans hk
              · subst hj; exact R.dis i k d1 f b q y h3 h4
            · rcases hget k _ h2 with ⟨hk, y⟩ | ⟨hk, y⟩
              · subst hk; exact R.dis j i e d1 b z q h3 h4
              · exact R.dis j k e f b z y h3 h4 }
  | val d0 fr =>
    cases d0 with
    | ref n =>
      obtain ⟨a, rfl, hm⟩ : ∃ a, x = .ref a ∧ w.m[n]? = some a := h
      have hmem : a ∈ w.m := List.mem_of_getElem? hm
      obtain ⟨g1, g2⟩ := R.out a hmem
      have fin : ∀ (ob : Ob) (o' : HO) (st' : List Ob), st' = s.st.set n ob → StRep K mg w (upd H a o') a ob → Rel K mg P w { s with st := st' } σ (upd H a o') := fun ob o' st' est hr => by
        subst est
        have Rc : RelC K mg P w (s.st.set n ob) (upd H a o') := {
          g := fun b u e => by rw [upd_ne (ne_of_none e g1)]; exact R.g b u e
          p := fun b u e => by rw [upd_ne (ne_of_none e g2)]; exact R.p b u e
          stl := by rw [List.length_set]; exact R.stl
          st := fun k ob' b h1 h2 => by
            rw [List.getElem?_set] at h1
            by_cases hk : n = k
            · rw [if_pos hk] at h1
              split at h1
              · cases h1
                rw [← hk, hm] at h2
                cases h2
                exact hr
              · cases h1
            · rw [if_neg hk] at h1
              have hb : b ≠ a := fun z => by
                subst z
                obtain ⟨i1, e1⟩ := List.getElem?_eq_some_iff.mp hm
                obtain ⟨i2, e2⟩ := List.getElem?_eq_some_iff.mp h2
                exact hk ((List.getElem_inj R.nd).mp (e1.trans e2.symm))
              have := R.st k ob' b h1 h2
              cases ob' with
              | lst ds => obtain ⟨xs, e, r⟩ := this; exact ⟨xs, by rw [upd_ne hb]; exact e, r⟩
              | dct ds => obtain ⟨xs, e, r⟩ := this; exact ⟨xs, by rw [upd_ne hb]; exact e, r⟩
              | ins c ns vs => obtain ⟨C, dx, fs, e1, e2, e3⟩ := this; exact ⟨C, dx, fs, e1, by rw [upd_ne hb]; exact e2, e3⟩
          nd := R.nd
          out := R.out
          gp := R.gp }
        exact { Rc with
          len := R.len
          fz := R.fz
          own := fun j e h1 => by
            obtain ⟨u, k1, b, ob, rfl, k2, k3, k4⟩ := R.own j e h1
            have hb : b ≠ a := fun zz => (R.apart j e b h1 k1).2.2 (zz ▸ hmem)
            exact ⟨_, k1, b, ob, rfl, by rw [upd_ne hb]; exact k2, k3, k4⟩
          apart := R.apart
          dis := R.dis }
      have e' : deref s.st (.ref n) = d := Option.some.inj e
      cases q : s.st[n]? with
      | none => simp only [q] at hp; cases hp
      | some ob =>
        have hq := R.st n ob a q hm
        simp only [q] at hp
        cases ob with
        | lst ds =>
          have e1 : d = .lst ds := by rw [← e']; simp [deref, q]
          subst e1
          obtain ⟨xs, h1, h2⟩ := hq
          cases d' with
          | lst ds' =>
            cases hp
            exact ⟨a, _, rfl, h1, ⟨xs, rfl, h2⟩, trivial, fun o' ho' hm' => fin _ o' _ rfl (by obtain ⟨ys, rfl, r⟩ := ho'; exact ⟨ys, upd_same, r⟩)⟩
          | _ => cases hp
        | dct ds =>
          have e1 : d = .dct ds := by rw [← e']; simp [deref, q]
          subst e1
          obtain ⟨xs, h1, h2⟩ := hq
          cases d' with
          | dct ds' =>
            cases hp
            exact ⟨a, _, rfl, h1, ⟨xs, rfl, h2⟩, trivial, fun o' ho' hm' => fin _ o' _ rfl (by obtain ⟨ys, rfl, r⟩ := ho'; exact ⟨ys, upd_same, r⟩)⟩
          | _ => cases hp
        | ins c ns vs => cases hp
    | _ => cases hp

/-! ### an object under guard: what is being built stands through the parts' runs -/
theorem Rel.drop (R : Rel K mg (upd P a o) w s σ H) (hP : P a = none) : Rel K mg P w s σ H := by
  have sub : ∀ b, upd P a o b = none → P b = none := fun b h => by
    by_cases hb : b = a
    · rw [hb]; exact hP
    · rw [upd_ne hb] at h; exact h
  have sub2 : ∀ b u, P b = some u → upd P a o b = some u := fun b u h => by
    rw [upd_ne (show b ≠ a from fun z => by rw [z, hP] at h; cases h)]
    exact h
  exact {
    g := R.g
    p := fun b u h => R.p b u (sub2 b u h)
    stl := R.stl
    st := R.st
    nd := R.nd
    out := fun b hb => ⟨(R.out b hb).1, sub b (R.out b hb).2⟩
    gp := fun b u h => R.gp b u (sub2 b u h)
    len := R.len
    fz := R.fz
    own := R.own
    apart := fun i d b h1 h2 => ⟨(R.apart i d b h1 h2).1, sub b (R.apart i d b h1 h2).2.1, (R.apart i d b h1 h2).2.2⟩
    dis := R.dis }
theorem Rel.guard (R : Rel K mg P w s σ H) (hn : H a = none) : Rel K mg (upd P a o) w s σ (upd H a o) := by
  have g1 : w.G a = none := none_of_sub R.g hn
  have m1 : a ∉ w.m := R.notIn hn
  have R1 := R.ext (upd_ext (o := o) hn)
  have ne : ∀ b, upd P a o b ≠ none → b = a ∨ P b ≠ none := fun b h => by
    by_cases hb : b = a
    · exact .inl hb
    · rw [upd_ne hb] at h; exact .inr h
  exact {
    g := R1.g
    p := fun b u h => by
      by_cases hb : b = a
      · subst hb
        rw [upd_same] at h ⊢
        exact h
      · rw [upd_ne hb] at h ⊢
        exact R.p b u h
    stl := R.stl
    st := R1.st
    nd := R.nd
    out := fun b hb => ⟨(R.out b hb).1, by
      rw [upd_ne (show b ≠ a from fun z => m1 (z ▸ hb))]
      exact (R.out b hb).2⟩
    gp := fun b u h => by
      by_cases hb : b = a
      · rw [hb]; exact g1
      · rw [upd_ne hb] at h; exact R.gp b u h
    len := R.len
    fz := R.fz
    own := R1.own
    apart := fun i d b h1 h2 => by
      have hb : b ≠ a := fun z => by
        obtain ⟨v, h3, c, u, rfl, h4, _⟩ := R.own i d h1
        rw [h2] at h3
        cases h3
        rw [z, hn] at h4
        cases h4
      rw [upd_ne hb]
      exact R.apart i d b h1 h2
    dis := R.dis }
theorem Rel.guarded (R : Rel K mg (upd P a o) w s σ H) : H a = some o ∧ w.G a = none ∧ a ∉ w.m ∧ ∀ (i : Nat) (e : D), s.loc[i]? = some (.own e) → σ[i]? ≠ some (some (.ref a)) := by
  refine ⟨R.p a o upd_same, R.gp a o upd_same, fun hm => ?_, fun i e h1 h2 => ?_⟩
  · have := (R.out a hm).2
    rw [upd_same] at this
    cases this
  · have := (R.apart i e a h1 h2).2.1
    rw [upd_same] at this
    cases this
theorem upd_upd {H : Hp} {a : Addr} {o o' : HO} : upd (upd H a o) a o' = upd H a o' := by
  funext b
  by_cases hb : b = a
  · subst hb; rw [upd_same, upd_same]
  · rw [upd_ne hb, upd_ne hb, upd_ne hb]
theorem Rel.rewrite (R : Rel K mg (upd P a o) w s σ H) (o' : HO) : Rel K mg (upd P a o') w s σ (upd H a o') := by
  obtain ⟨h1, g1, m1, ow⟩ := R.guarded
  exact {
    g := fun b u h => by rw [upd_ne (ne_of_none h g1)]; exact R.g b u h
    p := fun b u h => by
      by_cases hb : b = a
      · subst hb
        rw [upd_same] at h ⊢
        exact h
      · rw [upd_ne hb] at h ⊢
        exact R.p b u (by rw [upd_ne hb]; exact h)
    stl := R.stl
    st := fun n ob b h2 h3 => by
      have hb : b ≠ a := fun z => m1 (z ▸ List.mem_of_getElem? h3)
      have := R.st n ob b h2 h3
      cases ob with
      | lst ds => obtain ⟨xs, e, r⟩ := this; exact ⟨xs, by rw [upd_ne hb]; exact e, r⟩
      | dct ds => obtain ⟨xs, e, r⟩ := this; exact ⟨xs, by rw [upd_ne hb]; exact e, r⟩
      | ins c ns vs => obtain ⟨C, dx, fs, e1, e2, e3⟩ := this; exact ⟨C, dx, fs, e1, by rw [upd_ne hb]; exact e2, e3⟩
    nd := R.nd
    out := fun b hb => ⟨(R.out b hb).1, by
      have hb' : b ≠ a := fun z => m1 (z ▸ hb)
      have := (R.out b hb).2
      rw [upd_ne hb'] at this ⊢
      exact this⟩
    gp := fun b u h => by
      by_cases hb : b = a
      · rw [hb]; exact g1
      · rw [upd_ne hb] at h
        exact R.gp b u (by rw [upd_ne hb]; exact h)
    len := R.len
    fz := R.fz
    own := fun i d h => by
      obtain ⟨v, h2, b, u, rfl, h3, h4, h5⟩ := R.own i d h
      exact ⟨_, h2, b, u, rfl, by rw [upd_ne (show b ≠ a from fun z => ow i d h (z ▸ h2))]; exact h3, h4, h5⟩
    apart := fun i d b h2 h3 => by
      have hb : b ≠ a := fun z => ow i d h2 (z ▸ h3)
      have := R.apart i d b h2 h3
      rw [upd_ne hb] at this ⊢
      exact this
    dis := R.dis }
/-- what was built is in the hand -/
theorem Rel.built (R : Rel K mg (upd P a o) w s σ H) (hP : P a = none) (ho : ORep K mg w o d) (hm : Mut (some o)) : Rel K mg P w s σ H ∧ Now K mg P w s σ H (.val d true) (.ref a) := by
  obtain ⟨h1, g1, m1, ow⟩ := R.guarded
  exact ⟨R.drop hP, ⟨a, o, rfl, h1, ho, hm⟩, fun b hb => by cases hb; exact ⟨g1, hP, m1, ow⟩⟩
end
theorem After.guard {α : Type} {e : En} {Wx : XK} {P : Hp} {w : Wd} {σ : L2.St} {r : R α} {Q : α → S → Wd → Hp → Prop} {a : Addr} (o : HO) (A : After e Wx P w σ r Q) (hP : P a = none) : After e Wx (upd P a o) w σ r Q := by
  cases r with
  | ok x s => exact fun w' H' l R => A w' H' l (R.drop hP)
  | exc c vs s => exact fun w' H' C d l R X => A w' H' C d l (R.drop hP) X
  | stuck => exact A
end PyE
end
section
set_option linter.all false
set_option autoImplicit false
set_option maxRecDepth 100000
set_option maxHeartbeats 1000000
/-! PyOps: the operators on data. -/
namespace PyE
open PySem PySem.Spec PyProof.Rows L2

theorem sl_eq : SL = sizeLine := by rw [sizeLine_eq]; rfl
section
variable {K : PySem.W.Frag} {mg : Str → Option Value} {w : Wd} {H : Hp} {x : V}
theorem OwnV.atom {d : D} (h : ∀ o, ¬ ORep K mg w o d) : ¬ OwnV K mg w H d x := fun ⟨_, o, _, _, r, _⟩ => h o r
theorem seen_non (h : Seen K mg w H .non x) : x = .non := h.resolve_right (OwnV.atom fun _ r => r)
theorem seen_bl {b : Bool} (h : Seen K mg w H (.bl b) x) : x = .bl b := h.resolve_right (OwnV.atom fun _ r => r)
theorem seen_int {i : Int} (h : Seen K mg w H (.int i) x) : x = .int i := h.resolve_right (OwnV.atom fun _ r => r)
theorem seen_str {s : List Nat} (h : Seen K mg w H (.str s) x) : x = .str ⟨s.toArray⟩ ∧ s.length ≤ SL ∧ s.all (· < 1114112) = true := h.resolve_right (OwnV.atom fun _ r => r)
theorem seen_tup {ds : List D} (hG : ∀ a o, w.G a = some o → H a = some o) (h : Seen K mg w H (.tup ds) x) : ∃ a xs, x = .ref a ∧ H a = some (.tup xs) ∧ RepVs K mg w ds xs := by
  rcases h with ⟨a, xs, e, s, r⟩ | ⟨a, o, e, s, ⟨xs, rfl, r⟩, m⟩
  · exact ⟨a, xs, e, hG _ _ s, r⟩
  · exact m.elim
theorem seen_git {ds : List D} (hG : ∀ a o, w.G a = some o → H a = some o) (h : Seen K mg w H (.git ds) x) : ∃ a xs, x = .ref a ∧ SqT K H a xs ∧ RepVs K mg w ds xs := by
  rcases h with ⟨a, xs, e, s, r⟩ | ⟨a, o, e, s, r, m⟩
  · exact ⟨a, xs, e, sqT_mono hG s, r⟩
  · exact r.elim
theorem seen_lst {ds : List D} (hG : ∀ a o, w.G a = some o → H a = some o) (h : Seen K mg w H (.lst ds) x) : ∃ a xs, x = .ref a ∧ H a = some (.lst xs) ∧ RepVs K mg w ds xs := by
  rcases h with ⟨a, xs, e, s, r⟩ | ⟨a, o, e, s, ⟨xs, rfl, r⟩, m⟩
  · exact ⟨a, xs, e, hG _ _ s, r⟩
  · exact ⟨a, xs, e, s, r⟩
theorem seen_giv {ds : List D} (hG : ∀ a o, w.G a = some o → H a = some o) (h : Seen K mg w H (.giv ds) x) : ∃ a xs, x = .ref a ∧ SqL K H a xs ∧ RepVs K mg w ds xs := by
  rcases h with ⟨a, xs, e, s, r⟩ | ⟨a, o, e, s, r, m⟩
  · exact ⟨a, xs, e, sqL_mono hG s, r⟩
  · exact r.elim
theorem seen_dct {kvs : List (D × D)} (hG : ∀ a o, w.G a = some o → H a = some o) (h : Seen K mg w H (.dct kvs) x) : ∃ a xs, x = .ref a ∧ H a = some (.dK xs) ∧ RepKs K mg w kvs xs := by
  rcases h with ⟨a, xs, e, s, r⟩ | ⟨a, o, e, s, ⟨xs, rfl, r⟩, m⟩
  · exact ⟨a, xs, e, hG _ _ s, r⟩
  · exact ⟨a, xs, e, s, r⟩
end
theorem str_app (x y : List Nat) : (⟨x.toArray⟩ : Str) ++ ⟨y.toArray⟩ = ⟨(x ++ y).toArray⟩ := by
  apply TL.ext_tl
  rw [TL.tl_append]
theorem str_len (x : List Nat) : (⟨x.toArray⟩ : Str).length = x.length := by
  simp [Str.length]
section
variable {X : Cx} {e : En}
theorem new_atom {K : PySem.W.Frag} {mg : Str → Option Value} {w : Wd} {H : Hp} {d : D} {z : V} (r : RepV K mg w d z) : NewR K mg w H d false z H := .inl ⟨rfl, rfl, r⟩
theorem op_bin (hK : X.K = e.K) (o : Operator) : OpR X (binaryOp o) (rOp e (binD o)) := by
  intro pins s σ H x y v u Q I rx ry ⟨w, dx, dy, d, fr, hG, sx, sy, hg, k⟩
  unfold binD at hg
  split at hg
  -- int + int
  · cases hg
    exact op_add pins s σ H x y v u Q I rx ry ⟨_, _, seen_int sx, seen_int sy, k _ _ (new_atom rfl)⟩
  -- str + str
  · rename_i a b
    unfold okS at hg
    split at hg
    · rename_i hz
      cases hg
      refine op_add_str pins s σ H x y v u Q I rx ry ⟨_, _, (seen_str sx).1, (seen_str sy).1, ?_, ?_⟩
      · rw [str_len, str_len, ← sl_eq, ← List.length_append]; exact hz
      · rw [str_app]; exact k _ _ (new_atom ⟨rfl, hz, by rw [List.all_append, (seen_str sx).2.2, (seen_str sy).2.2]; rfl⟩)
    · cases hg
  -- tup + tup
  · rename_i a b
    split at hg
    · rename_i hz
      cases hg
      obtain ⟨p, xs, e1, s1, r1⟩ := seen_tup hG sx
      obtain ⟨q, ys, e2, s2, r2⟩ := seen_tup hG sy
      refine op_catA pins s σ H x y v u Q I rx ry ⟨p, q, xs, ys, e1, e2, .of s1, .of s2, by rw [r1.length, r2.length, ← sl_eq]; exact hz, fun z => ?_, fun _ z => ?_, fun _ _ a ha => ?_⟩
      · have ea : a = [] := List.length_eq_zero_iff.mp (by rw [← r1.length, z]; rfl)
        subst ea
        rcases sy with h | ⟨_, _, _, _, ⟨_, rfl, _⟩, m⟩
        · exact k _ _ (e2 ▸ new_atom h)
        · exact m.elim
      · have eb : b = [] := List.length_eq_zero_iff.mp (by rw [← r2.length, z]; rfl)
        subst eb
        rw [List.append_nil] at k
        rcases sx with h | ⟨_, _, _, _, ⟨_, rfl, _⟩, m⟩
        · exact k _ _ (e1 ▸ new_atom h)
        · exact m.elim
      · exact k _ _ (.inr ⟨a, _, rfl, ha, rfl, ⟨_, rfl, r1.append r2⟩, fun z => nomatch z⟩)
    · cases hg
  -- lst + lst
  · split at hg
    · rename_i hz
      cases hg
      obtain ⟨p, xs, e1, s1, r1⟩ := seen_lst hG sx
      obtain ⟨q, ys, e2, s2, r2⟩ := seen_lst hG sy
      refine op_cat pins s σ H x y v u Q I rx ry ⟨p, q, xs, ys, e1, e2, s1, s2, by rw [r1.length, r2.length, ← sl_eq]; exact hz, fun a ha => ?_⟩
      exact k _ _ (.inr ⟨a, _, rfl, ha, rfl, ⟨_, rfl, r1.append r2⟩, fun _ => trivial⟩)
    · cases hg
  -- int - int
  · cases hg
    exact op_sub pins s σ H x y v u Q I rx ry ⟨_, _, seen_int sx, seen_int sy, k _ _ (new_atom rfl)⟩
  -- int * int
  · split at hg
    · rename_i hz
      cases hg
      exact op_mul pins s σ H x y v u Q I rx ry ⟨_, _, seen_int sx, seen_int sy, hz.imp (fun h => ⟨by omega, by omega⟩) (fun h => ⟨by omega, by omega⟩), k _ _ (new_atom rfl)⟩
    · cases hg
  -- lst * int
  · split at hg
    · rename_i hz
      cases hg
      obtain ⟨p, xs, e1, s1, r1⟩ := seen_lst hG sx
      refine op_rep pins s σ H x y v u Q I rx ry ⟨p, _, xs, e1, seen_int sy, s1, by omega, by omega, by rw [r1.length, ← sl_eq]; exact hz.1, fun a ha => ?_⟩
      exact k _ _ (.inr ⟨a, _, rfl, ha, rfl, ⟨_, rfl, r1.rep _⟩, fun _ => trivial⟩)
    · cases hg
  -- tup * int
  · split at hg
    · rename_i hz
      cases hg
      obtain ⟨p, xs, e1, s1, r1⟩ := seen_tup hG sx
      refine op_repT pins s σ H x y v u Q I rx ry ⟨p, _, xs, e1, seen_int sy, .of s1, fun z => ?_, hz.2.1, hz.2.2.1, by rw [r1.length]; exact hz.2.2.2, fun a ha => ?_⟩
      · exact hz.1 (List.length_eq_zero_iff.mp (by rw [← r1.length, z]; rfl))
      · exact k _ _ (.inr ⟨a, _, rfl, ha, rfl, ⟨_, rfl, r1.rep _⟩, fun z => nomatch z⟩)
    · cases hg
  -- str * int
  · rename_i c n
    split at hg
    · rename_i hz
      cases hg
      obtain ⟨rfl, _, hall⟩ := seen_str sx
      obtain rfl := seen_int sy
      obtain ⟨t, rfl⟩ := rx
      obtain ⟨t', rfl⟩ := ry
      have h1 : Txt.mul (⟨#[c]⟩ : Str) n = ⟨(List.replicate n.toNat c).toArray⟩ := by
        apply TL.ext_tl
        exact mul_one_list c n
      refine SB.mul (x := ⟨#[c]⟩) ⟨?_, fun hn _ => ?_, fun hn _ => ?_⟩ fun tt kk => ?_
      · rw [decide_eq_false (by omega), decide_eq_false (by omega)]; rfl
      · have : (2 : Int) ^ 63 - 1 = 9223372036854775807 := by decide
        rw [this]
        show ¬ (1 : Int) > _
        have : (1 : Int) ≤ 9223372036854775807 / n := (Int.le_ediv_iff_mul_le (by omega)).mpr (by omega)
        omega
      · exact decide_eq_false (show ¬ _ > sizeLine by rw [sizeLine_eq]; show ¬ 1 * n.toNat > _; omega)
      · rw [h1]
        exact ⟨.str _, H, I.tok _, ⟨_, rfl⟩, k _ _ (new_atom ⟨rfl, by rw [List.length_replicate]; unfold SL; omega, by
          rw [List.all_eq_true] at hall ⊢
          intro y hy
          rw [List.eq_of_mem_replicate hy]
          exact hall c (by simp)⟩)⟩
    · cases hg
  -- int // int
  · split at hg
    · rename_i hz
      cases hg
      exact op_fdiv pins s σ H x y v u Q I rx ry ⟨_, _, seen_int sx, seen_int sy, hz, k _ _ (new_atom rfl)⟩
    · cases hg
  -- int % int
  · split at hg
    · rename_i hz
      cases hg
      exact op_mod pins s σ H x y v u Q I rx ry ⟨_, _, seen_int sx, seen_int sy, hz, k _ _ (new_atom rfl)⟩
    · cases hg
  -- int ** int
  · split at hg
    · rename_i hz
      cases hg
      exact op_pow pins s σ H x y v u Q I rx ry ⟨_, _, seen_int sx, seen_int sy, hz, k _ _ (new_atom rfl)⟩
    · cases hg
  · cases hg
end
end PyE
end
section
set_option linter.all false
set_option autoImplicit false
set_option maxRecDepth 100000
set_option maxHeartbeats 1000000
/-! PyData2: data as the library has them. -/
namespace PyE
open PySem PySem.Spec PyProof.Rows L2

section
variable {K : PySem.W.Frag} {mg : Str → Option Value} {w : Wd} {H : Hp}
mutual
theorem rep_dp (hG : ∀ a o, w.G a = some o → H a = some o) : ∀ (d : D) (x : V) (n : Nat), RepV K mg w d x → d.plain n = true → Dp K H x d.pd ∧ d.pd.canLay0 = true ∧ d.pd.depth ≤ n
  | .non, _, n, e, _ => by cases (show _ = _ from e); simp [D.pd, PyData.canLay0, PyData.depth]; exact .non
  | .bl b, _, n, e, _ => by cases (show _ = _ from e); simp [D.pd, PyData.canLay0, PyData.depth]; exact .bl b
  | .int i, _, n, e, _ => by cases (show _ = _ from e); simp [D.pd, PyData.canLay0, PyData.depth]; exact .int i
  | .str s, _, n, ⟨e, _, h⟩, _ => by
    subst e
    refine ⟨.str _, ?_, by simp [D.pd, PyData.depth]⟩
    simp only [D.pd, PyData.canLay0, PyData.strOk]
    simpa using h
  | .tup ds, _, n, ⟨a, xs, e, s, r⟩, p => by
    subst e
    cases n with
    | zero => simp [D.plain] at p
    | succ n =>
      obtain ⟨h1, h2, h3⟩ := reps_dp hG ds xs n r (by simpa [D.plain] using p)
      exact ⟨by rw [D.pd]; exact .tup (.of (hG _ _ s)) h1, by rw [D.pd, PyData.canLay0]; exact h2, by rw [D.pd, PyData.depth]; omega⟩
  | .lst ds, _, n, ⟨a, xs, e, s, r⟩, p => by
    subst e
    cases n with
    | zero => simp [D.plain] at p
    | succ n =>
      obtain ⟨h1, h2, h3⟩ := reps_dp hG ds xs n r (by simpa [D.plain] using p)
      exact ⟨by rw [D.pd]; exact .lst (.of (hG _ _ s)) h1, by rw [D.pd, PyData.canLay0]; exact h2, by rw [D.pd, PyData.depth]; omega⟩
  | .dct _, _, _, _, p => by simp [D.plain] at p
  | .ref _, _, _, _, p => by simp [D.plain] at p
  | .fn _, _, _, _, p => by simp [D.plain] at p
  | .clo _ _, _, _, _, p => by simp [D.plain] at p
  | .exc _ _, _, _, _, p => by simp [D.plain] at p
  | .giv _, _, _, _, p => by simp [D.plain] at p
  | .git _, _, _, _, p => by simp [D.plain] at p
theorem reps_dp (hG : ∀ a o, w.G a = some o → H a = some o) : ∀ (ds : List D) (xs : List V) (n : Nat), RepVs K mg w ds xs → D.plains n ds = true → DpAll K H xs (D.pds ds) ∧ PyData.canLayAll0 (D.pds ds) = true ∧ PyData.depthAll (D.pds ds) ≤ n
  | [], _, n, e, _ => by cases (show _ = _ from e); simp [D.pds, PyData.canLayAll0, PyData.depthAll]; exact .nil
  | d :: ds, _, n, ⟨x, t, e, p, q⟩, h => by
    subst e
    rw [D.plains, Bool.and_eq_true] at h
    obtain ⟨a1, a2, a3⟩ := rep_dp hG d x n p h.1
    obtain ⟨b1, b2, b3⟩ := reps_dp hG ds t n q h.2
    exact ⟨by rw [D.pds]; exact .cons a1 b1, by rw [D.pds, PyData.canLayAll0, a2, b2]; rfl, by rw [D.pds, PyData.depthAll]; omega⟩
end
end
mutual
theorem eqv_pd : ∀ (a b : D) (n m : Nat), a.plain n = true → b.plain m = true → PyData.eqv a.pd b.pd = a.eqv b
  | .non, b, n, m, _, q => by cases b <;> simp [D.plain] at q <;> simp [D.pd, PyData.eqv, D.eqv]
  | .bl _, b, n, m, _, q => by cases b <;> simp [D.plain] at q <;> simp [D.pd, PyData.eqv, D.eqv]
  | .int _, b, n, m, _, q => by cases b <;> simp [D.plain] at q <;> simp [D.pd, PyData.eqv, D.eqv]
  | .str x, b, n, m, _, q => by
    cases b <;> simp [D.plain] at q <;> simp [D.pd, PyData.eqv, D.eqv]
    rename_i y
    by_cases h : x = y
    · subst h; simp
    · rw [beq_eq_false_iff_ne.mpr h, beq_eq_false_iff_ne.mpr]
      intro z
      have := congrArg (fun (s : Str) => s.cps.toList) z
      exact h (by simpa using this)
  | .tup x, b, n, m, p, q => by
    cases n with
    | zero => simp [D.plain] at p
    | succ n =>
      cases b <;> cases m <;> simp [D.plain] at q <;> simp [D.pd, PyData.eqv, D.eqv]
      exact eqvs_pd x _ n _ (by simpa [D.plain] using p) q
  | .lst x, b, n, m, p, q => by
    cases n with
    | zero => simp [D.plain] at p
    | succ n =>
      cases b <;> cases m <;> simp [D.plain] at q <;> simp [D.pd, PyData.eqv, D.eqv]
      exact eqvs_pd x _ n _ (by simpa [D.plain] using p) q
  | .dct _, _, _, _, p, _ => by simp [D.plain] at p
  | .ref _, _, _, _, p, _ => by simp [D.plain] at p
  | .fn _, _, _, _, p, _ => by simp [D.plain] at p
  | .clo _ _, _, _, _, p, _ => by simp [D.plain] at p
  | .exc _ _, _, _, _, p, _ => by simp [D.plain] at p
  | .giv _, _, _, _, p, _ => by simp [D.plain] at p
  | .git _, _, _, _, p, _ => by simp [D.plain] at p
theorem eqvs_pd : ∀ (a b : List D) (n m : Nat), D.plains n a = true → D.plains m b = true → PyData.eqvAll (D.pds a) (D.pds b) = D.eqvs a b
  | [], b, n, m, _, q => by cases b <;> simp [D.pds, PyData.eqvAll, D.eqvs]
  | x :: a, b, n, m, p, q => by
    cases b with
    | nil => simp [D.pds, PyData.eqvAll, D.eqvs]
    | cons y b =>
      rw [D.plains, Bool.and_eq_true] at p q
      simp only [D.pds, PyData.eqvAll, D.eqvs, eqv_pd x y n m p.1 q.1, eqvs_pd a b n m p.2 q.2]
end
mutual
theorem alike_pd : ∀ (a b : D) (n m : Nat), a.plain n = true → b.plain m = true → PySem.W.alike a.pd b.pd = a.alike b
  | .non, b, n, m, _, q => by cases b <;> simp [D.plain] at q <;> simp [D.pd, PySem.W.alike, D.alike]
  | .bl _, b, n, m, _, q => by cases b <;> simp [D.plain] at q <;> simp [D.pd, PySem.W.alike, D.alike]
  | .int _, b, n, m, _, q => by cases b <;> simp [D.plain] at q <;> simp [D.pd, PySem.W.alike, D.alike]
  | .str x, b, n, m, _, q => by cases b <;> simp [D.plain] at q <;> simp [D.pd, PySem.W.alike, D.alike]
  | .tup x, b, n, m, p, q => by
    cases n with
    | zero => simp [D.plain] at p
    | succ n =>
      cases b <;> cases m <;> simp [D.plain] at q <;> simp [D.pd, PySem.W.alike, D.alike]
      exact alikes_pd x _ n _ (by simpa [D.plain] using p) q
  | .lst x, b, n, m, p, q => by
    cases n with
    | zero => simp [D.plain] at p
    | succ n =>
      cases b <;> cases m <;> simp [D.plain] at q <;> simp [D.pd, PySem.W.alike, D.alike]
      exact alikes_pd x _ n _ (by simpa [D.plain] using p) q
  | .dct _, _, _, _, p, _ => by simp [D.plain] at p
  | .ref _, _, _, _, p, _ => by simp [D.plain] at p
  | .fn _, _, _, _, p, _ => by simp [D.plain] at p
  | .clo _ _, _, _, _, p, _ => by simp [D.plain] at p
  | .exc _ _, _, _, _, p, _ => by simp [D.plain] at p
  | .giv _, _, _, _, p, _ => by simp [D.plain] at p
  | .git _, _, _, _, p, _ => by simp [D.plain] at p
theorem alikes_pd : ∀ (a b : List D) (n m : Nat), D.plains n a = true → D.plains m b = true → PySem.W.alikeAll (D.pds a) (D.pds b) = D.alikes a b
  | [], b, n, m, _, q => by cases b <;> simp [D.pds, PySem.W.alikeAll, D.alikes]
  | x :: a, b, n, m, p, q => by
    cases b with
    | nil => simp [D.pds, PySem.W.alikeAll, D.alikes]
    | cons y b =>
      rw [D.plains, Bool.and_eq_true] at p q
      simp only [D.pds, PySem.W.alikeAll, D.alikes, alike_pd x y n m p.1 q.1, alikes_pd a b n m p.2 q.2]
end
theorem ltS_eq : ∀ x y : List Nat, ltS x y = decide (x < y)
  | [], [] => by simp [ltS]
  | [], _ :: _ => by simp [ltS]
  | _ :: _, [] => by simp [ltS]
  | x :: r, y :: q => by
    unfold ltS
    by_cases h : x = y
    · subst h
      simp [ltS_eq r q, List.cons_lt_cons_iff]
    · simp [h, List.cons_lt_cons_iff]
mutual
theorem lt_pd : ∀ (a b : D) (n m : Nat), a.plain n = true → b.plain m = true → a.alike b = true → a ≠ .non → PySem.W.dataLt a.pd b.pd = a.lt b
  | .non, _, _, _, _, _, _, h => absurd rfl h
  | .bl x, b, n, m, _, q, l, _ => by
    cases b <;> simp [D.alike] at l
    rw [D.pd, D.pd, PySem.W.dataLt_bool, D.lt]
    rename_i y
    cases x <;> cases y <;> decide
  | .int x, b, n, m, _, q, l, _ => by
    cases b <;> simp [D.alike] at l
    rw [D.pd, D.pd, PySem.W.dataLt_int, D.lt]
  | .str x, b, n, m, _, q, l, _ => by
    cases b <;> simp [D.alike] at l
    rw [D.pd, D.pd, PySem.W.dataLt_str, D.lt, ltS_eq]
  | .tup x, b, n, m, p, q, l, _ => by
    cases n with
    | zero => simp [D.plain] at p
    | succ n =>
      cases b <;> simp [D.alike] at l
      rename_i y
      cases m with
      | zero => simp [D.plain] at q
      | succ m =>
        rw [D.pd, D.pd, PySem.W.dataLt_tuple, D.lt]
        exact lts_pd x y n m (by simpa [D.plain] using p) (by simpa [D.plain] using q) l
  | .lst x, b, n, m, p, q, l, _ => by
    cases n with
    | zero => simp [D.plain] at p
    | succ n =>
      cases b <;> simp [D.alike] at l
      rename_i y
      cases m with
      | zero => simp [D.plain] at q
      | succ m =>
        rw [D.pd, D.pd, PySem.W.dataLt_list, D.lt]
        exact lts_pd x y n m (by simpa [D.plain] using p) (by simpa [D.plain] using q) l
  | .dct _, _, _, _, p, _, _, _ => by simp [D.plain] at p
  | .ref _, _, _, _, p, _, _, _ => by simp [D.plain] at p
  | .fn _, _, _, _, p, _, _, _ => by simp [D.plain] at p
  | .clo _ _, _, _, _, p, _, _, _ => by simp [D.plain] at p
  | .exc _ _, _, _, _, p, _, _, _ => by simp [D.plain] at p
  | .giv _, _, _, _, p, _, _, _ => by simp [D.plain] at p
  | .git _, _, _, _, p, _, _, _ => by simp [D.plain] at p
theorem lts_pd : ∀ (a b : List D) (n m : Nat), D.plains n a = true → D.plains m b = true → D.alikes a b = true → PyProof.Rows.lexLt itemOrd (PySem.W.keyToksAll (D.pds a)) (PySem.W.keyToksAll (D.pds b)) = D.lts a b
  | [], [], _, _, _, _, _ => by simp only [D.pds, PySem.W.keyToksAll, D.lts]; decide
  | [], y :: b, _, _, _, _, _ => by
    simp only [D.pds, PySem.W.keyToksAll, D.lts]
    rw [PySem.W.lex_atom (by decide)]
    decide
  | x :: a, [], _, _, _, _, _ => by
    simp only [D.pds, PySem.W.keyToksAll, D.lts]
    rw [PySem.W.lex_atom (by decide)]
    decide
  | x :: a, y :: b, n, m, p, q, l => by
    rw [D.plains, Bool.and_eq_true] at p q
    rw [D.alikes, Bool.and_eq_true] at l
    have la : PySem.W.alike x.pd y.pd = true := (alike_pd x y n m p.1 q.1).trans l.1
    simp only [D.pds, D.lts]
    by_cases h : D.eqv x y = true
    · rw [if_pos h, PySem.W.dataLt_all_yes la ((eqv_pd x y n m p.1 q.1).trans h)]
      exact lts_pd a b n m p.2 q.2 l.2
    · have h' : D.eqv x y = false := by simpa using h
      rw [if_neg h, PySem.W.dataLt_all_no la ((eqv_pd x y n m p.1 q.1).trans h')]
      refine lt_pd x y n m p.1 q.1 l.1 fun z => ?_
      subst z
      cases y <;> simp [D.alike] at l
      simp [D.eqv] at h
end
end PyE
end
section
set_option linter.all false
set_option autoImplicit false
set_option maxRecDepth 100000
set_option maxHeartbeats 1000000
/-! PyCmp: comparisons of data. -/
namespace PyE
open PySem PySem.Spec PyProof.Rows L2

section
variable {K : PySem.W.Frag} {mg : Str → Option Value} {w : Wd} {H : Hp}
theorem seen_dp (hG : ∀ a o, w.G a = some o → H a = some o) {d : D} {x : V} {n : Nat} (h : Seen K mg w H d x) (p : d.plain n = true) : Dp K H x d.pd ∧ d.pd.canLay0 = true ∧ d.pd.depth ≤ n := by
  rcases h with h | ⟨a, o, rfl, ha, r, m⟩
  · exact rep_dp hG d x n h p
  · cases d with
    | lst ds =>
      obtain ⟨xs, rfl, r⟩ := r
      cases n with
      | zero => simp [D.plain] at p
      | succ n =>
        obtain ⟨h1, h2, h3⟩ := reps_dp hG ds xs n r (by simpa [D.plain] using p)
        exact ⟨by rw [D.pd]; exact .lst (.of ha) h1, by rw [D.pd, PyData.canLay0]; exact h2, by rw [D.pd, PyData.depth]; omega⟩
    | tup ds => obtain ⟨xs, rfl, r⟩ := r; exact m.elim
    | dct kvs => simp [D.plain] at p
    | _ => exact r.elim
theorem seqs_dp (hG : ∀ a o, w.G a = some o → H a = some o) {ds : List D} {xs : List V} {n : Nat} (r : RepVs K mg w ds xs) (p : D.plains n ds = true) : DpAll K H xs (D.pds ds) ∧ PyData.canLayAll0 (D.pds ds) = true ∧ PyData.depthAll (D.pds ds) ≤ n := reps_dp hG ds xs n r p
end
theorem shaped_of {d : PyData} (h : d.canLay0 = true) (k : d.depth ≤ DEEP) : SeqAt.shaped d = true := by
  unfold SeqAt.shaped
  rw [h, decide_eq_true (Nat.le_trans k (by decide))]
  rfl
theorem any_pds (x : D) (n m : Nat) (p : x.plain n = true) : ∀ xs : List D, D.plains m xs = true → (D.pds xs).any (fun y => PyData.eqv y x.pd) = xs.any fun y => D.eqv y x
  | [], _ => by simp [D.pds]
  | y :: xs, q => by
    rw [D.plains, Bool.and_eq_true] at q
    simp only [D.pds, List.any_cons, eqv_pd y x m n q.1 p, any_pds x n m p xs q.2]
theorem plains_mem {n : Nat} : ∀ {xs : List D}, D.plains n xs = true → ∀ d ∈ xs, d.plain n = true
  | [], _, _, h => by simp at h
  | x :: xs, p, d, h => by
    rw [D.plains, Bool.and_eq_true] at p
    rcases List.mem_cons.mp h with e | h
    · rw [e]; exact p.1
    · exact plains_mem p.2 d h
theorem keyD_inj {a b : Key} (h : keyD a = keyD b) : a = b := by
  cases a <;> cases b <;> simp [keyD] at h
  · rw [h]
  · rename_i x y
    cases x; cases y
    simp at h
    rw [h]
/-- .. with a truth value out -/
def rCmp (e : En) (g : D → D → Option Bool) : R2 := rOp e fun a b => (g a b).map fun k => (.bl k, false)
section
variable {X : Cx} {e : En} {k : Nat}
theorem repK_get {K : PySem.W.Frag} {mg : Str → Option Value} {w : Wd} (key : Key) : ∀ {kvs : List (D × D)} {xs : List (Key × V)}, RepKs K mg w kvs xs → match valV xs key, getK kvs (keyD key) with
    | some v, some d => RepV K mg w d v
    | none, none => True
    | _, _ => False
  | [], _, e => by cases (show _ = _ from e); simp [valV_nil, getK]
  | (j, d) :: r, _, ⟨k, x, t, e, p, q⟩ => by
    subst e
    obtain ⟨p1, p2⟩ := p
    have ih := repK_get key q
    by_cases h : k = key
    · subst h
      rw [valV_pos (p := (k, x)) rfl, getK, if_pos p1.symm]
      exact p2
    · rw [valV_neg (p := (k, x)) h, getK, if_neg (fun z => h (keyD_inj (p1.trans z)))]
      exact ih
theorem seen_isnon {K : PySem.W.Frag} {mg : Str → Option Value} {w : Wd} {H : Hp} {d : D} {x : V} (hG : ∀ a o, w.G a = some o → H a = some o) (h : Seen K mg w H d x) : decide (x = .non) = d.isNon := by
  cases d with
  | non => rw [seen_non h]; rfl
  | bl b => rw [seen_bl h]; rfl
  | int i => rw [seen_int h]; rfl
  | str s => rw [(seen_str h).1]; rfl
  | tup ds => obtain ⟨a, _, rfl, _⟩ := seen_tup hG h; rfl
  | lst ds => obtain ⟨a, _, rfl, _⟩ := seen_lst hG h; rfl
  | giv ds => obtain ⟨a, _, rfl, _⟩ := seen_giv hG h; rfl
  | git ds => obtain ⟨a, _, rfl, _⟩ := seen_git hG h; rfl
  | dct ds => obtain ⟨a, _, rfl, _⟩ := seen_dct hG h; rfl
  | ref n => rcases h with ⟨a, rfl, _⟩ | ⟨_, _, _, _, r, _⟩; rfl; exact r.elim
  | fn n => rcases h with ⟨a, _, rfl⟩ | ⟨_, _, _, _, r, _⟩; rfl; exact r.elim
  | clo n c => rcases h with h | ⟨_, _, _, _, r, _⟩; exact (show False from h).elim; exact r.elim
  | exc n c => rcases h with h | ⟨_, _, _, _, r, _⟩; exact (show False from h).elim; exact r.elim
theorem seen_isbl {K : PySem.W.Frag} {mg : Str → Option Value} {w : Wd} {H : Hp} {d : D} {x : V} (hG : ∀ a o, w.G a = some o → H a = some o) (h : Seen K mg w H d x) (k : Bool) : decide (x = .bl k) = d.isBl k := by
  cases d with
  | non => rw [seen_non h]; rfl
  | bl b => rw [seen_bl h]; cases b <;> cases k <;> rfl
  | int i => rw [seen_int h]; rfl
  | str s => rw [(seen_str h).1]; rfl
  | tup ds => obtain ⟨a, _, rfl, _⟩ := seen_tup hG h; rfl
  | lst ds => obtain ⟨a, _, rfl, _⟩ := seen_lst hG h; rfl
  | giv ds => obtain ⟨a, _, rfl, _⟩ := seen_giv hG h; rfl
  | git ds => obtain ⟨a, _, rfl, _⟩ := seen_git hG h; rfl
  | dct ds => obtain ⟨a, _, rfl, _⟩ := seen_dct hG h; rfl
  | ref n => rcases h with ⟨a, rfl, _⟩ | ⟨_, _, _, _, r, _⟩; rfl; exact r.elim
  | fn n => rcases h with ⟨a, _, rfl⟩ | ⟨_, _, _, _, r, _⟩; rfl; exact r.elim
  | clo n c => rcases h with h | ⟨_, _, _, _, r, _⟩; exact (show False from h).elim; exact r.elim
  | exc n c => rcases h with h | ⟨_, _, _, _, r, _⟩; exact (show False from h).elim; exact r.elim
theorem relv_isbl {x : V} {v : Value} (r : RelV x v) (k : Bool) : (v == Value.bool k) = decide (x = .bl k) := by
  cases x with
  | bl b => cases r; cases b <;> cases k <;> rfl
  | non => cases r; rfl
  | int _ => obtain ⟨t, rfl⟩ := r; rfl
  | str _ => obtain ⟨t, rfl⟩ := r; rfl
  | byt _ => obtain ⟨t, rfl⟩ := r; rfl
  | flt _ => obtain ⟨t, rfl⟩ := r; rfl
  | ref _ => cases r; rfl
  | ty _ => cases r; rfl
theorem relv_plain {x : V} {v : Value} (r : RelV x v) (k : Bool) : plainIs v (.bool k) = true := by
  cases x with
  | bl b => cases r; rfl
  | non => cases r; rfl
  | int _ => obtain ⟨t, rfl⟩ := r; rfl
  | str _ => obtain ⟨t, rfl⟩ := r; rfl
  | byt _ => obtain ⟨t, rfl⟩ := r; rfl
  | flt _ => obtain ⟨t, rfl⟩ := r; rfl
  | ref _ => cases r; rfl
  | ty _ => cases r; rfl
theorem relv_str {x : V} {v : Value} {s : Str} (e : x = .str s) (r : RelV x v) : ∃ t, v = .str s t := by subst e; exact r
theorem op_cmp (hK : X.K = e.K) (hu : X.A.units + 65 < cLine) (o : CmpOp) : OpR X (compareOp o) (rCmp e (cmpD o)) := by
  intro pins s σ H x y v u Q I rx ry ⟨w, dx, dy, d, fr, hG, sx, sy, hg, kk⟩
  obtain ⟨b, hb, rfl, rfl⟩ : ∃ b, cmpD o dx dy = some b ∧ d = .bl b ∧ fr = false := by
    have hg : (cmpD o dx dy).map (fun k => (D.bl k, false)) = some (d, fr) := hg
    cases h : cmpD o dx dy with
    | none => rw [h] at hg; cases hg
    | some b => rw [h] at hg; cases hg; exact ⟨b, rfl, rfl, rfl⟩
  have q : Q (.bl b) H := kk _ _ (new_atom rfl)
  have eqs : ∀ {b : Bool}, D.eq? dx dy = some b → dx.plain DEEP = true ∧ dy.plain DEEP = true ∧ dx.eqv dy = b := fun {b} h => by
    unfold D.eq? at h
    split at h
    · rename_i z
      rw [Bool.and_eq_true] at z
      exact ⟨z.1, z.2, Option.some.inj h⟩
    · cases h
  have inn : ∀ {b : Bool}, inD dx dy = some b → (∀ c, c = b → wpAny (model X.prog X.w) X.A (compareOp .In v u) (fun r s' => r = .bool c ∧ Inv X pins σ H s') X.xe s) ∧
      (∀ c, c = b → wpAny (model X.prog X.w) X.A (compareOp .NotIn v u) (fun r s' => r = .bool (!c) ∧ Inv X pins σ H s') X.xe s) := fun {b} h => by
    unfold inD at h
    have seqs : ∀ (ds : List D) (xs : List V), RepVs e.K e.mg w ds xs → memD dx ds = some b → dx.plain DEEP = true ∧ DpAll e.K H xs (D.pds ds) ∧ PyData.canLayAll0 (D.pds ds) = true ∧ PyData.depthAll (D.pds ds) ≤ DEEP ∧ ((D.pds ds).any fun y => PyData.eqv y dx.pd) = b := fun ds xs r h => by
      unfold memD at h
      split at h
      · rename_i z
        rw [Bool.and_eq_true] at z
        obtain ⟨h1, h2, h3⟩ := reps_dp hG ds xs DEEP r z.2
        exact ⟨z.1, h1, h2, h3, by rw [any_pds dx DEEP DEEP z.1 ds z.2]; exact Option.some.inj h⟩
      · cases h
    have room : ∀ (ds : List PyData) (d : PyData), d.depth ≤ DEEP → X.A.units + 1 + min (PyData.depthAll ds) d.depth < cLine := fun ds d h => by
      have : min (PyData.depthAll ds) d.depth ≤ DEEP := Nat.le_trans (Nat.min_le_right _ _) h
      have : DEEP = 40 := rfl
      omega
    split at h
    · rename_i ds
      obtain ⟨a, xs, e1, s1, r1⟩ := seen_tup hG sy
      obtain ⟨p, d1, d2, d3, d4⟩ := seqs ds xs r1 h
      obtain ⟨x1, x2, x3⟩ := seen_dp hG sx p
      obtain ⟨as, hx⟩ := Dp.reads I _ x v (by rw [hK]; exact x1) rx
      obtain ⟨bs, hy⟩ := Dp.reads I (.tuple (D.pds ds)) y u (by rw [hK, e1]; exact .tup (.of s1) d1) ry
      exact ⟨fun c hc => SeqAt.in_tuple_reads hy hx d2 x2 (room _ _ x3) ⟨by rw [d4, hc], I⟩, fun c hc => SeqAt.notIn_tuple_reads hy hx d2 x2 (room _ _ x3) ⟨by rw [d4, hc], I⟩⟩
    · rename_i ds
      obtain ⟨a, xs, e1, s1, r1⟩ := seen_lst hG sy
      obtain ⟨p, d1, d2, d3, d4⟩ := seqs ds xs r1 h
      obtain ⟨x1, x2, x3⟩ := seen_dp hG sx p
      obtain ⟨as, hx⟩ := Dp.reads I _ x v (by rw [hK]; exact x1) rx
      obtain ⟨bs, hy⟩ := Dp.reads I (.list (D.pds ds)) y u (by rw [hK, e1]; exact .lst (.of s1) d1) ry
      exact ⟨fun c hc => SeqAt.in_list_reads hy hx d2 x2 (room _ _ x3) ⟨by rw [d4, hc], I⟩, fun c hc => SeqAt.notIn_list_reads hy hx d2 x2 (room _ _ x3) ⟨by rw [d4, hc], I⟩⟩
    · rename_i ds
      obtain ⟨a, xs, e1, s1, r1⟩ := seen_git hG sy
      obtain ⟨p, d1, d2, d3, d4⟩ := seqs ds xs r1 h
      obtain ⟨x1, x2, x3⟩ := seen_dp hG sx p
      obtain ⟨as, hx⟩ := Dp.reads I _ x v (by rw [hK]; exact x1) rx
      obtain ⟨bs, hy⟩ := Dp.reads I (.tuple (D.pds ds)) y u (by rw [hK, e1]; exact .tup s1 d1) ry
      exact ⟨fun c hc => SeqAt.in_tuple_reads hy hx d2 x2 (room _ _ x3) ⟨by rw [d4, hc], I⟩, fun c hc => SeqAt.notIn_tuple_reads hy hx d2 x2 (room _ _ x3) ⟨by rw [d4, hc], I⟩⟩
    · rename_i kvs
      split at h
      · rename_i hk
        cases h
        obtain ⟨a, xs, rfl, s1, r1⟩ := seen_dct hG sy
        obtain ⟨key, hx, hd⟩ : ∃ key : Key, x = kV key ∧ keyD key = dx := by
          cases dx with
          | int i => exact ⟨.inl i, seen_int sx, rfl⟩
          | str z => exact ⟨.inr ⟨z.toArray⟩, (seen_str sx).1, rfl⟩
          | _ => simp [okK, D.akey] at hk
        have g : DGet H a x (valV xs key) := hx ▸ DGet.k s1
        have hs : (valV xs key).isSome = (getK kvs dx).isSome := by
          have := repK_get key r1
          rw [hd] at this
          cases h1 : valV xs key <;> cases h2 : getK kvs dx <;> rw [h1, h2] at this <;> first | rfl | exact this.elim
        cases ry
        exact ⟨fun c hc => d_in (by omega) I g rx fun s' I' => ⟨by rw [hs, hc], I'⟩, fun c hc => d_notIn (by omega) I g rx fun s' I' => ⟨by rw [hs, hc], I'⟩⟩
      · cases h
    · rename_i ys
      split at h
      · rename_i z
        cases h
        obtain ⟨rfl, _, _⟩ := seen_str sx
        obtain ⟨rfl, _, _⟩ := seen_str sy
        have i1 := (op_in_sign (X := X)) pins s σ H _ _ v u (fun x H' => x = .bl (decide (z ∈ ys)) ∧ H' = H) I rx ry ⟨z, _, rfl, rfl, by simp, rfl⟩
        have i2 := (op_notIn_sign (X := X)) pins s σ H _ _ v u (fun x H' => x = .bl (!decide (z ∈ ys)) ∧ H' = H) I rx ry ⟨z, _, rfl, rfl, by simp, rfl⟩
        refine ⟨fun c hc => thn i1 fun r s' ⟨x, H', I', rr, e1, e2⟩ => ?_, fun c hc => thn i2 fun r s' ⟨x, H', I', rr, e1, e2⟩ => ?_⟩
        · subst e1; subst e2; subst hc; exact ⟨rr, I'⟩
        · subst e1; subst e2; subst hc; exact ⟨rr, I'⟩
      · cases h
    · cases h
  have iss : ∀ {b : Bool}, isD dx dy = some b → wpAny (model X.prog X.w) X.A (compareOp .Is v u) (fun r s' => r = .bool b ∧ Inv X pins σ H s') X.xe s ∧ wpAny (model X.prog X.w) X.A (compareOp .IsNot v u) (fun r s' => r = .bool (!b) ∧ Inv X pins σ H s') X.xe s := fun {b} h => by
    unfold isD at h
    split at h
    · obtain rfl := seen_non sy
      cases ry
      cases h
      have e1 : (v == Value.none) = dx.isNon := by
        rw [rx.none_iff]
        exact seen_isnon hG sx
      exact ⟨is_none_gen ⟨by rw [e1], I⟩, isnot_none_gen ⟨by rw [e1], I⟩⟩
    · rename_i k
      obtain rfl := seen_bl sy
      cases ry
      cases h
      have e1 : (v == Value.bool k) = dx.isBl k := (relv_isbl rx k).trans (seen_isbl hG sx k)
      have pl : plainIs v (.bool k) = true := relv_plain rx k
      exact ⟨wpAny_is_plain pl ⟨by rw [e1], I⟩, wpAny_isNot_plain pl ⟨by rw [e1], I⟩⟩
    · cases h
  cases o with
  | Eq =>
    obtain ⟨p1, p2, rfl⟩ := eqs hb
    obtain ⟨a1, a2, a3⟩ := seen_dp hG sx p1
    obtain ⟨b1, b2, b3⟩ := seen_dp hG sy p2
    exact op_eqD (by omega) pins s σ H x y v u Q I rx ry ⟨_, _, by rw [hK]; exact a1, by rw [hK]; exact b1, shaped_of a2 a3, shaped_of b2 b3, by rw [eqv_pd dx dy DEEP DEEP p1 p2]; exact q⟩
  | NotEq =>
    obtain ⟨c, hc, rfl⟩ : ∃ c, D.eq? dx dy = some c ∧ b = !c := by
      cases h : D.eq? dx dy with
      | none => unfold cmpD at hb; rw [h] at hb; cases hb
      | some c => unfold cmpD at hb; rw [h] at hb; cases hb; exact ⟨c, rfl, rfl⟩
    obtain ⟨p1, p2, rfl⟩ := eqs hc
    obtain ⟨a1, a2, a3⟩ := seen_dp hG sx p1
    obtain ⟨b1, b2, b3⟩ := seen_dp hG sy p2
    exact op_neD (by omega) pins s σ H x y v u Q I rx ry ⟨_, _, by rw [hK]; exact a1, by rw [hK]; exact b1, shaped_of a2 a3, shaped_of b2 b3, by rw [eqv_pd dx dy DEEP DEEP p1 p2]; exact q⟩
  | Lt =>
    have hb2 : cmpLt dx dy = some b := hb
    clear hb hg eqs inn iss
    have hb := hb2
    clear hb2
    unfold cmpLt at hb
    split at hb
    · cases hb
      exact op_lt pins s σ H x y v u Q I rx ry ⟨_, _, seen_int sx, seen_int sy, q⟩
    · cases hb
      rename_i a c
      exact op_lt_str pins s σ H x y v u Q I rx ry ⟨_, _, (seen_str sx).1, (seen_str sy).1, by rw [ltS_eq] at q; simpa using q⟩
    · rename_i a c
      split at hb
      · rename_i z
        cases hb
        rw [Bool.and_eq_true, Bool.and_eq_true] at z
        have pa : (D.tup a).plain (DEEP + 1) = true := by simpa [D.plain] using z.1.1
        have pc : (D.tup c).plain (DEEP + 1) = true := by simpa [D.plain] using z.1.2
        obtain ⟨a1, a2, a3⟩ := seen_dp hG sx pa
        obtain ⟨b1, b2, b3⟩ := seen_dp hG sy pc
        obtain ⟨as, hx⟩ := Dp.reads I _ x v (by rw [hK]; exact a1) rx
        obtain ⟨bs, hy⟩ := Dp.reads I _ y u (by rw [hK]; exact b1) ry
        have al : PySem.W.alike (D.tup a).pd (D.tup c).pd = true := (alike_pd _ _ _ _ pa pc).trans (by simpa [D.alike] using z.2)
        have hroom : X.A.units + min (D.tup a).pd.depth (D.tup c).pd.depth < cLine := by
          have : min (D.tup a).pd.depth (D.tup c).pd.depth ≤ DEEP + 1 := Nat.le_trans (Nat.min_le_left _ _) a3
          have : DEEP = 40 := rfl
          omega
        have r := PySem.W.rcLt_alike (D.tup a).pd (D.tup c).pd X.A s v u as bs hx hy al (by simp [D.pd]) hroom
        refine r X.prog X.w X.xe (EP X pins σ Q) ?_
        rw [lt_pd _ _ _ _ pa pc (by simpa [D.alike] using z.2) (by simp), D.lt]
        exact ⟨.bl _, H, I, rfl, q⟩
      · cases hb
    · cases hb
  | Gt =>
    unfold cmpD at hb
    simp only at hb
    split at hb
    · cases hb
      exact op_gt pins s σ H x y v u Q I rx ry ⟨_, _, seen_int sx, seen_int sy, q⟩
    · cases hb
      exact op_gt_str pins s σ H x y v u Q I rx ry ⟨_, _, (seen_str sx).1, (seen_str sy).1, by rw [ltS_eq] at q; simpa using q⟩
    · cases hb
  | LtE =>
    unfold cmpD at hb
    simp only at hb
    split at hb
    · cases hb
      exact op_le pins s σ H x y v u Q I rx ry ⟨_, _, seen_int sx, seen_int sy, q⟩
    · cases hb
      exact op_le_str pins s σ H x y v u Q I rx ry ⟨_, _, (seen_str sx).1, (seen_str sy).1, by rw [ltS_eq] at q; simpa using q⟩
    · cases hb
  | GtE =>
    unfold cmpD at hb
    simp only at hb
    split at hb
    · cases hb
      exact op_ge pins s σ H x y v u Q I rx ry ⟨_, _, seen_int sx, seen_int sy, q⟩
    · cases hb
      exact op_ge_str pins s σ H x y v u Q I rx ry ⟨_, _, (seen_str sx).1, (seen_str sy).1, by rw [ltS_eq] at q; simpa using q⟩
    · cases hb
  | In => exact thn ((inn hb).1 b rfl) fun r s' ⟨e1, I'⟩ => ⟨.bl b, H, I', e1, q⟩
  | NotIn =>
    obtain ⟨c, hc, rfl⟩ : ∃ c, inD dx dy = some c ∧ b = !c := by
      cases h : inD dx dy with
      | none => unfold cmpD at hb; rw [h] at hb; cases hb
      | some c => unfold cmpD at hb; rw [h] at hb; cases hb; exact ⟨c, rfl, rfl⟩
    exact thn ((inn hc).2 c rfl) fun r s' ⟨e1, I'⟩ => ⟨.bl (!c), H, I', e1, q⟩
  | Is => exact thn (iss hb).1 fun r s' ⟨e1, I'⟩ => ⟨.bl b, H, I', e1, q⟩
  | IsNot =>
    obtain ⟨c, hc, rfl⟩ : ∃ c, isD dx dy = some c ∧ b = !c := by
      cases h : isD dx dy with
      | none => unfold cmpD at hb; rw [h] at hb; cases hb
      | some c => unfold cmpD at hb; rw [h] at hb; cases hb; exact ⟨c, rfl, rfl⟩
    exact thn (iss hc).2 fun r s' ⟨e1, I'⟩ => ⟨.bl (!c), H, I', e1, q⟩
end
end PyE
end
section
set_option linter.all false
set_option autoImplicit false
set_option maxRecDepth 100000
set_option maxHeartbeats 1000000
/-! PyBif: truth, subscripts, slices, built-in functions on data. -/
namespace PyE
open PySem PySem.Spec PyProof.Rows L2

theorem emp_len {α : Type} (x : List α) : (((x.length : Nat) : Int) != 0) = !x.isEmpty := by
  cases x with
  | nil => rfl
  | cons a r =>
    simp only [List.length_cons, List.isEmpty_cons, Bool.not_false, bne_iff_ne, ne_eq]
    omega
theorem reps_emp {K : PySem.W.Frag} {mg : Str → Option Value} {w : Wd} {ds : List D} {xs : List V} (r : RepVs K mg w ds xs) : (!ds.isEmpty) = !xs.isEmpty := by
  cases ds with
  | nil => cases (show xs = [] from r); rfl
  | cons d t => obtain ⟨x, q, rfl, _⟩ := r; rfl
theorem repk_emp {K : PySem.W.Frag} {mg : Str → Option Value} {w : Wd} {ds : List (D × D)} {xs : List (Key × V)} (r : RepKs K mg w ds xs) : (!ds.isEmpty) = !xs.isEmpty := by
  cases ds with
  | nil => cases (show xs = [] from r); rfl
  | cons d t => obtain ⟨k, x, q, rfl, _⟩ := r; rfl
/-- a value's truth, as seen -/
theorem seen_truth {K : PySem.W.Frag} {mg : Str → Option Value} {w : Wd} {H : Hp} {d : D} {x : V} {k : Bool} (hG : ∀ a o, w.G a = some o → H a = some o) (h : Seen K mg w H d x) (e : d.truth = some k) : TruV K x H k := by
  cases d with
  | non => cases e; rw [seen_non h]; rfl
  | bl b => cases e; rw [seen_bl h]; rfl
  | int i => cases e; rw [seen_int h]; rfl
  | str s =>
    cases e
    obtain ⟨rfl, hl, _⟩ := seen_str h
    refine ⟨by rw [str_len, ← sl_eq]; exact hl, ?_⟩
    rw [str_len, emp_len]
  | tup ds =>
    cases e
    obtain ⟨a, xs, rfl, s1, r⟩ := seen_tup hG h
    exact .inr (.inl ⟨xs, .of s1, reps_emp r⟩)
  | lst ds =>
    cases e
    obtain ⟨a, xs, rfl, s1, r⟩ := seen_lst hG h
    exact .inl ⟨xs, .of s1, reps_emp r⟩
  | dct ds =>
    cases e
    obtain ⟨a, xs, rfl, s1, r⟩ := seen_dct hG h
    exact .inr (.inr ⟨xs, s1, repk_emp r⟩)
  | _ => cases e

/-! ### subscripts -/
theorem ixD_eq : ixD = ixN := rfl
theorem at_rep {K : PySem.W.Frag} {mg : Str → Option Value} {w : Wd} {ds : List D} {xs : List V} {i : Int} {d : D} (r : RepVs K mg w ds xs) (h : atD ds i = some d) : ∃ x, atI xs i = some x ∧ RepV K mg w d x := by
  unfold atD at h
  unfold atI
  rw [r.length, ← ixD_eq]
  cases e : ixD ds.length i with
  | none => rw [e] at h; cases h
  | some j =>
    rw [e] at h
    exact r.get h
def rIxD (e : En) : R2 := rOp e fun a i => (subD a i).map fun d => (d, false)
section
variable {X : Cx} {e : En}
theorem ix_sub (hK : X.K = e.K) (hu : X.A.units + 1 < cLine) : IxR X (rIxD e) := by
  intro value slice pins s σ H x y v u Q I rx ry ⟨w, dx, dy, d, fr, hG, sx, sy, hg, k⟩ hs
  obtain ⟨d', hd, hq⟩ := Option.map_eq_some_iff.mp hg
  cases hq
  clear hg
  unfold subD at hd
  split at hd
  · rename_i ds i
    obtain ⟨a, xs, e1, s1, r1⟩ := seen_tup hG sx
    obtain ⟨z, hz, rz⟩ := at_rep r1 hd
    exact ix_tup value slice pins s σ H x y v u Q I rx ry ⟨a, xs, i, z, e1, seen_int sy, .of s1, hz, k _ _ (new_atom rz)⟩ hs
  · rename_i ds i
    obtain ⟨a, xs, e1, s1, r1⟩ := seen_lst hG sx
    obtain ⟨z, hz, rz⟩ := at_rep r1 hd
    exact ix_list value slice pins s σ H x y v u Q I rx ry ⟨a, xs, i, z, e1, seen_int sy, .of s1, hz, k _ _ (new_atom rz)⟩ hs
  · rename_i z i
    obtain ⟨e1, hl, hall⟩ := seen_str sx
    cases hc : atD z i with
    | none => rw [hc] at hd; cases hd
    | some c =>
      rw [hc] at hd
      cases hd
      refine ix_str value slice pins s σ H x y v u Q I rx ry ⟨_, i, c, e1, seen_int sy, by rw [str_len, ← sl_eq]; exact hl, hc, k _ _ (new_atom ⟨rfl, by unfold SL; simp, ?_⟩)⟩ hs
      have hm : c ∈ z := by
        unfold atD at hc
        cases e2 : ixD z.length i with
        | none => rw [e2] at hc; cases hc
        | some j => rw [e2] at hc; exact List.mem_of_getElem? hc
      have := List.all_eq_true.mp hall c hm
      simpa using this
  · rename_i kvs _
    split at hd
    · rename_i hk
      obtain ⟨a, xs, rfl, s1, r1⟩ := seen_dct hG sx
      obtain ⟨key, hx, hd'⟩ : ∃ key : Key, y = kV key ∧ keyD key = dy := by
        cases dy with
        | int i => exact ⟨.inl i, seen_int sy, rfl⟩
        | str z => exact ⟨.inr ⟨z.toArray⟩, (seen_str sy).1, rfl⟩
        | _ => simp [okK, D.akey] at hk
      have hv := repK_get key r1
      rw [hd', hd] at hv
      cases h1 : valV xs key with
      | none => rw [h1] at hv; exact hv.elim
      | some z =>
        rw [h1] at hv
        have g : DGet H a y (some z) := by
          have := DGet.k (k := key) s1
          rw [h1] at this
          exact hx ▸ this
        cases rx
        exact tail_any (dict_typeIs I g) PySem.F.slot_dict_getitem.lookup (d_getItem hu I g ry fun w' s3 I3 rw' => ⟨z, H, I3, rw', k _ _ (new_atom hv)⟩) hs
    · cases hd
  · rename_i ds i
    obtain ⟨a, xs, e1, s1, r1⟩ := seen_git hG sx
    obtain ⟨z, hz, rz⟩ := at_rep r1 hd
    exact ix_tup value slice pins s σ H x y v u Q I rx ry ⟨a, xs, i, z, e1, seen_int sy, by rw [hK]; exact s1, hz, k _ _ (new_atom rz)⟩ hs
  · cases hd
end

/-! ### slices -/
theorem cutAt_eq (n d : Nat) (o : Option Int) : cutAt n d o = HT.sIx n d o := by
  cases o with
  | none => rfl
  | some i => rfl
theorem cut_rep {K : PySem.W.Frag} {mg : Str → Option Value} {w : Wd} {ds : List D} {xs : List V} (lo hi : Option Int) (r : RepVs K mg w ds xs) : RepVs K mg w (cutL ds lo hi) (cutV xs lo hi) := by
  unfold cutL cutV
  simp only [cutAt_eq, r.length]
  exact (r.drop _).take _
/-- a slice, of data -/
def rSli (e : En) : V → Option Int → Option Int → Hp → VK → Prop := fun x lo hi H Q => ∃ w dx d fr, (∀ a o, w.G a = some o → H a = some o) ∧ Seen e.K e.mg w H dx x ∧ sliD dx lo hi = some (d, fr) ∧ ∀ z H', NewR e.K e.mg w H d fr z H' → Q z H'
section
variable {X : Cx} {e : En}
theorem sl_data : SlR X (rSli e) := by
  intro pins s σ H x v vl vu lo hi sl Q I rx hs pl pu ⟨w, dx, d, fr, hG, sx, hd, k⟩
  unfold sliD at hd
  split at hd
  · rename_i ds
    cases hd
    obtain ⟨a, xs, e1, s1, r1⟩ := seen_tup hG sx
    refine sl_tupA pins s σ H x v vl vu lo hi sl Q I rx hs pl pu ⟨a, xs, e1, .of s1, fun ⟨z1, z2⟩ => ?_, fun _ p hp => ?_⟩
    · have : cutL ds lo hi = ds := by
        unfold cutL
        rw [cutAt_eq, cutAt_eq, ← r1.length, z1, z2, List.drop_zero, Nat.sub_zero, r1.length, List.take_length]
      rw [this] at k
      rcases sx with h | ⟨_, _, _, _, ⟨_, rfl, _⟩, m⟩
      · exact k _ _ (e1 ▸ new_atom h)
      · exact m.elim
    · exact k _ _ (.inr ⟨p, _, rfl, hp, rfl, ⟨_, rfl, cut_rep lo hi r1⟩, fun z => nomatch z⟩)
  · rename_i ds
    cases hd
    obtain ⟨a, xs, e1, s1, r1⟩ := seen_lst hG sx
    exact sl_list pins s σ H x v vl vu lo hi sl Q I rx hs pl pu ⟨a, xs, e1, .of s1, fun p hp => k _ _ (.inr ⟨p, _, rfl, hp, rfl, ⟨_, rfl, cut_rep lo hi r1⟩, fun _ => trivial⟩)⟩
  · rename_i z
    cases hd
    obtain ⟨e1, hl, hall⟩ := seen_str sx
    refine sl_str pins s σ H x v vl vu lo hi sl Q I rx hs pl pu ⟨_, e1, by rw [str_len, ← sl_eq]; exact hl, k _ _ (new_atom ⟨?_, ?_, ?_⟩)⟩
    · unfold cutS cutL
      simp only [cutAt_eq, str_len]
    · unfold cutL
      rw [List.length_take, List.length_drop]
      omega
    · rw [List.all_eq_true] at hall ⊢
      exact fun c hc => hall c (List.mem_of_mem_drop (List.mem_of_mem_take hc))
  · cases hd
end

mutual
theorem dp_of_plain : ∀ (d : D) (n : Nat), d.plain n = true → True ∧ True ∧ d.pd.depth ≤ n
  | .tup ds, 0, p => by simp [D.plain] at p
  | .lst ds, 0, p => by simp [D.plain] at p
  | .tup ds, n + 1, p => by
    have := dps_of_plain ds n (by simpa [D.plain] using p)
    exact ⟨trivial, trivial, by rw [D.pd, PyData.depth]; omega⟩
  | .lst ds, n + 1, p => by
    have := dps_of_plain ds n (by simpa [D.plain] using p)
    exact ⟨trivial, trivial, by rw [D.pd, PyData.depth]; omega⟩
  | .non, _, _ | .bl _, _, _ | .int _, _, _ | .str _, _, _ => by simp [D.pd, PyData.depth]
  | .giv _, _, p | .git _, _, p | .dct _, _, p | .ref _, _, p | .fn _, _, p | .clo _ _, _, p | .exc _ _, _, p => by simp [D.plain] at p
theorem dps_of_plain : ∀ (ds : List D) (n : Nat), D.plains n ds = true → PyData.depthAll (D.pds ds) ≤ n
  | [], _, _ => by simp [D.pds, PyData.depthAll]
  | d :: ds, n, h => by
    rw [D.plains, Bool.and_eq_true] at h
    have h1 := (dp_of_plain d n h.1).2.2
    have h2 := dps_of_plain ds n h.2
    rw [D.pds, PyData.depthAll]
    omega
end
mutual
theorem pd_nodict : ∀ (d : D) (n : Nat), d.plain n = true → d.pd.hasDict = false
  | .tup ds, 0, p => by simp [D.plain] at p
  | .lst ds, 0, p => by simp [D.plain] at p
  | .tup ds, n + 1, p => by rw [D.pd, PyData.hasDict]; exact pds_nodict ds n (by simpa [D.plain] using p)
  | .lst ds, n + 1, p => by rw [D.pd, PyData.hasDict]; exact pds_nodict ds n (by simpa [D.plain] using p)
  | .non, _, _ | .bl _, _, _ | .int _, _, _ | .str _, _, _ => by simp [D.pd, PyData.hasDict]
  | .giv _, _, p | .git _, _, p | .dct _, _, p | .ref _, _, p | .fn _, _, p | .clo _ _, _, p | .exc _ _, _, p => by simp [D.plain] at p
theorem pds_nodict : ∀ (ds : List D) (n : Nat), D.plains n ds = true → PyData.hasDictAll (D.pds ds) = false
  | [], _, _ => by simp [D.pds, PyData.hasDictAll]
  | d :: ds, n, h => by
    rw [D.plains, Bool.and_eq_true] at h
    rw [D.pds, PyData.hasDictAll, pd_nodict d n h.1, pds_nodict ds n h.2]
    rfl
end
/-! ### built-in functions -/
def bifVal : Bif → Value
  | .len => .builtin "len"
  | .int => .type "int"
  | .list => .type "list"
  | .tuple => .type "tuple"
  | .sorted => .builtin "sorted"
  | .str => .type "str"
  | .repr => .builtin "repr"
  | .all => .builtin "all"
  | .any => .builtin "any"
  | .sum => .builtin "sum"
  | .max => .builtin "max"
  | .min => .builtin "min"
  | .dict => .type "dict"
  | _ => .none
inductive Seens (K : PySem.W.Frag) (mg : Str → Option Value) (w : Wd) (H : Hp) : List D → List V → Prop
  | nil : Seens K mg w H [] []
  | cons {d : D} {x : V} {ds : List D} {xs : List V} : Seen K mg w H d x → Seens K mg w H ds xs → Seens K mg w H (d :: ds) (x :: xs)
/-- a call on data, by values -/
def rDs (e : En) (g : List D → Option (D × Bool)) : List V → Hp → VK → Prop := fun xs H Q => ∃ w ds d fr, (∀ a o, w.G a = some o → H a = some o) ∧ Seens e.K e.mg w H ds xs ∧ g ds = some (d, fr) ∧ ∀ z H', NewR e.K e.mg w H d fr z H' → Q z H'
theorem reps_int {K : PySem.W.Frag} {mg : Str → Option Value} {w : Wd} : ∀ {ds : List D} {xs : List V} {is : List Int}, RepVs K mg w ds xs → intsD ds = some is → xs = is.map V.int
  | [], _, is, r, h => by
    cases (show _ = [] from r)
    cases h
    rfl
  | d :: ds, _, is, ⟨x, t, rfl, p, q⟩, h => by
    cases d with
    | int i =>
      obtain ⟨js, h1, rfl⟩ := Option.map_eq_some_iff.mp (show (intsD ds).map (i :: ·) = some is from h)
      rw [List.map_cons, ← reps_int q h1, show x = V.int i from p]
    | _ => cases h
theorem reps_bls {K : PySem.W.Frag} {mg : Str → Option Value} {w : Wd} : ∀ {ds : List D} {xs : List V} {bs : List Bool}, RepVs K mg w ds xs → blsD ds = some bs → xs = bs.map V.bl
  | [], _, is, r, h => by
    cases (show _ = [] from r)
    cases h
    rfl
  | d :: ds, _, is, ⟨x, t, rfl, p, q⟩, h => by
    cases d with
    | bl i =>
      obtain ⟨js, h1, rfl⟩ := Option.map_eq_some_iff.mp (show (blsD ds).map (i :: ·) = some is from h)
      rw [List.map_cons, ← reps_bls q h1, show x = V.bl i from p]
    | _ => cases h
theorem sum_ints : ∀ {ds : List D} {i : Int}, sumD ds = some i → ∃ is, intsD ds = some is ∧ is.sum = i
  | [], i, h => by cases h; exact ⟨[], rfl, rfl⟩
  | d :: ds, i, h => by
    cases d with
    | int j =>
      obtain ⟨k, h1, rfl⟩ := Option.map_eq_some_iff.mp (show (sumD ds).map (j + ·) = some i from h)
      obtain ⟨is, h2, rfl⟩ := sum_ints h1
      exact ⟨j :: is, by rw [intsD, h2]; rfl, by simp⟩
    | _ => cases h
theorem ints_len : ∀ {ds : List D} {is : List Int}, intsD ds = some is → is.length = ds.length
  | [], _, h => by cases h; rfl
  | d :: ds, is, h => by
    cases d with
    | int j =>
      obtain ⟨js, h1, rfl⟩ := Option.map_eq_some_iff.mp (show (intsD ds).map (j :: ·) = some is from h)
      simp [ints_len h1]
    | _ => cases h
theorem maxI_mem : ∀ (x : Int) (r : List Int), maxI (x :: r) ∈ x :: r ∧ ∀ y ∈ x :: r, y ≤ maxI (x :: r)
  | x, [] => ⟨by simp [maxI], fun y hy => by simp at hy; subst hy; exact Int.le_refl _⟩
  | x, y :: r => by
    obtain ⟨h1, h2⟩ := maxI_mem y r
    have e : maxI (x :: y :: r) = max x (maxI (y :: r)) := rfl
    refine ⟨?_, fun z hz => ?_⟩
    · rw [e]
      by_cases h : x ≤ maxI (y :: r)
      · rw [Int.max_eq_right h]; exact List.mem_cons_of_mem _ h1
      · rw [Int.max_eq_left (by omega)]; exact List.mem_cons_self
    · rw [e]
      rcases List.mem_cons.mp hz with rfl | hz
      · exact Int.le_max_left _ _
      · exact Int.le_trans (h2 z hz) (Int.le_max_right _ _)
theorem minI_mem : ∀ (x : Int) (r : List Int), minI (x :: r) ∈ x :: r ∧ ∀ y ∈ x :: r, minI (x :: r) ≤ y
  | x, [] => ⟨by simp [minI], fun y hy => by simp at hy; subst hy; exact Int.le_refl _⟩
  | x, y :: r => by
    obtain ⟨h1, h2⟩ := minI_mem y r
    have e : minI (x :: y :: r) = min x (minI (y :: r)) := rfl
    refine ⟨?_, fun z hz => ?_⟩
    · rw [e]
      by_cases h : x ≤ minI (y :: r)
      · rw [Int.min_eq_left h]; exact List.mem_cons_self
      · rw [Int.min_eq_right (by omega)]; exact List.mem_cons_of_mem _ h1
    · rw [e]
      rcases List.mem_cons.mp hz with rfl | hz
      · exact Int.min_le_left _ _
      · exact Int.le_trans (Int.min_le_right _ _) (h2 z hz)
theorem seen1 {K : PySem.W.Frag} {mg : Str → Option Value} {w : Wd} {H : Hp} {d : D} {xs : List V} (h : Seens K mg w H [d] xs) : ∃ x, xs = [x] ∧ Seen K mg w H d x := by
  cases h with
  | cons a b => cases b; exact ⟨_, rfl, a⟩
theorem seen2 {K : PySem.W.Frag} {mg : Str → Option Value} {w : Wd} {H : Hp} {c d : D} {xs : List V} (h : Seens K mg w H [c, d] xs) : ∃ x y, xs = [x, y] ∧ Seen K mg w H c x ∧ Seen K mg w H d y := by
  cases h with
  | cons a b => cases b with
    | cons b c => cases c; exact ⟨_, _, rfl, a, b⟩
theorem int_repr (i : Int) : (toString i : String).toList.map Char.toNat = strInt i := by
  show (Int.repr i).toList.map Char.toNat = strInt i
  unfold strInt digitsN
  cases i with
  | ofNat m =>
    rw [if_neg (by simp)]
    simp [Int.repr, Nat.repr]
  | negSucc m =>
    rw [if_pos (Int.negSucc_lt_zero m)]
    simp [Int.repr, Nat.repr, String.toList_append]
theorem str_ofs (i : Int) : Str.ofString (toString i) = ⟨(strInt i).toArray⟩ := by
  apply TL.ext_tl
  rw [TL.tl_ofString, int_repr]
theorem chr_lt (c : Char) : c.toNat < 1114112 := by
  have h := c.valid
  rcases h with h | ⟨_, h⟩
  · have : c.toNat < 55296 := h
    omega
  · exact h
theorem strInt_all (i : Int) : (strInt i).all (· < 1114112) = true := by
  rw [← int_repr, List.all_eq_true]
  intro x hx
  obtain ⟨c, _, rfl⟩ := List.mem_map.mp hx
  exact decide_eq_true (chr_lt c)
section
variable {X : Cx} {e : En}
theorem bif_len (hK : X.K = e.K) : CallR X (.builtin "len") (rDs e (bifD .len)) := by
  intro pins s σ H xs us Q I r ⟨w, ds, d, fr, hG, sx, hd, k⟩
  have sl := sl_eq
  unfold bifD at hd
  split at hd <;> first | contradiction | skip
  all_goals rename_i h
  all_goals cases h
  all_goals cases hd
  all_goals (obtain ⟨x, rfl, sx'⟩ := seen1 sx; replace sx := sx')
  · obtain ⟨rfl, hl, _⟩ := seen_str sx
    exact call_len pins s σ H _ us Q I r ⟨_, _, rfl, ⟨by rw [str_len]; omega, (str_len _).symm⟩, k _ _ (new_atom rfl)⟩
  · obtain ⟨a, xs, rfl, s1, r1⟩ := seen_git hG sx
    exact call_len pins s σ H _ us Q I r ⟨_, _, rfl, .inr ⟨xs, by rw [hK]; exact s1, r1.length.symm⟩, k _ _ (new_atom rfl)⟩
  · obtain ⟨a, xs, rfl, s1, r1⟩ := seen_tup hG sx
    exact call_len pins s σ H _ us Q I r ⟨_, _, rfl, .inr ⟨xs, .of s1, r1.length.symm⟩, k _ _ (new_atom rfl)⟩
  · obtain ⟨a, xs, rfl, s1, r1⟩ := seen_lst hG sx
    exact call_len pins s σ H _ us Q I r ⟨_, _, rfl, .inl ⟨xs, .of s1, r1.length.symm⟩, k _ _ (new_atom rfl)⟩
  · obtain ⟨a, xs, rfl, s1, r1⟩ := seen_dct hG sx
    exact call_lenD pins s σ H _ us Q I r ⟨a, xs, rfl, s1, by rw [r1.length]; exact k _ _ (new_atom rfl)⟩
theorem bif_int : CallR X (.type "int") (rDs e (bifD .int)) := by
  intro pins s σ H xs us Q I r ⟨w, ds, d, fr, hG, sx, hd, k⟩
  unfold bifD at hd
  split at hd <;> first | contradiction | skip
  all_goals rename_i h
  all_goals cases h
  all_goals cases hd
  obtain ⟨x, rfl, sx'⟩ := seen1 sx; replace sx := sx'
  exact call_int1 pins s σ H _ us Q I r (.inl ⟨_, by rw [seen_int sx], k _ _ (new_atom rfl)⟩)
theorem bif_str : CallR X (.type "str") (rDs e (bifD .str)) := by
  intro pins s σ H xs us Q I r ⟨w, ds, d, fr, hG, sx, hd, k⟩
  unfold bifD at hd
  split at hd <;> first | contradiction | skip
  all_goals rename_i h
  all_goals cases h
  split at hd
  · rename_i i hz
    unfold okS at hd
    split at hd
    · rename_i hl
      cases hd
      obtain ⟨x, rfl, sx'⟩ := seen1 sx; replace sx := sx'
      exact call_str_int pins s σ H _ us Q I r ⟨i, by rw [seen_int sx], hz, k _ _ (new_atom ⟨congrArg V.str (str_ofs i), hl, strInt_all i⟩)⟩
    · cases hd
  · cases hd
theorem bif_all (hK : X.K = e.K) (hc : X.calm = true) : CallR X (.builtin "all") (rDs e (bifD .all)) := by
  intro pins s σ H xs us Q I r ⟨w, ds, d, fr, hG, sx, hd, k⟩
  unfold bifD at hd
  split at hd <;> first | contradiction | skip
  all_goals rename_i h
  all_goals cases h
  rename_i ds
  obtain ⟨bs, h1, h2⟩ := Option.map_eq_some_iff.mp hd
  cases h2
  obtain ⟨x, rfl, sx'⟩ := seen1 sx; replace sx := sx'
  obtain ⟨a, xs, rfl, s1, r1⟩ := seen_lst hG sx
  exact cr_all hc pins s σ H _ us Q I r ⟨a, bs, rfl, by rw [← reps_bls r1 h1]; exact .of s1, k _ _ (new_atom rfl)⟩
theorem bif_any (hK : X.K = e.K) (hc : X.calm = true) : CallR X (.builtin "any") (rDs e (bifD .any)) := by
  intro pins s σ H xs us Q I r ⟨w, ds, d, fr, hG, sx, hd, k⟩
  unfold bifD at hd
  split at hd <;> first | contradiction | skip
  all_goals rename_i h
  all_goals cases h
  rename_i ds
  obtain ⟨bs, h1, h2⟩ := Option.map_eq_some_iff.mp hd
  cases h2
  obtain ⟨x, rfl, sx'⟩ := seen1 sx; replace sx := sx'
  obtain ⟨a, xs, rfl, s1, r1⟩ := seen_lst hG sx
  exact cr_any hc pins s σ H _ us Q I r ⟨a, bs, rfl, by rw [← reps_bls r1 h1]; exact .of s1, k _ _ (new_atom rfl)⟩
theorem bif_sum (hc : X.calm = true) : CallR X (.builtin "sum") (rDs e (bifD .sum)) := by
  intro pins s σ H xs us Q I r ⟨w, ds, d, fr, hG, sx, hd, k⟩
  unfold bifD at hd
  split at hd <;> first | contradiction | skip
  all_goals rename_i h
  all_goals cases h
  obtain ⟨i, h1, h2⟩ := Option.map_eq_some_iff.mp hd
  cases h2
  obtain ⟨is, h2, rfl⟩ := sum_ints h1
  obtain ⟨x, rfl, sx'⟩ := seen1 sx; replace sx := sx'
  obtain ⟨a, xs, rfl, s1, r1⟩ := seen_lst hG sx
  exact cr_sum hc pins s σ H _ us Q I r ⟨a, is, rfl, by rw [← reps_int r1 h2]; exact .of s1, k _ _ (new_atom rfl)⟩
theorem bif_max (hc : X.calm = true) : CallR X (.builtin "max") (rDs e (bifD .max)) := by
  intro pins s σ H xs us Q I r ⟨w, ds, d, fr, hG, sx, hd, k⟩
  unfold bifD at hd
  split at hd <;> first | contradiction | skip
  all_goals rename_i h
  all_goals cases h
  · obtain ⟨is, h1, h2⟩ := Option.map_eq_some_iff.mp hd
    cases h2
    obtain ⟨x, rfl, sx'⟩ := seen1 sx; replace sx := sx'
    obtain ⟨a, xs, rfl, s1, r1⟩ := seen_lst hG sx
    have hl := ints_len h1
    refine cr_max hc pins s σ H _ us Q I r ⟨a, is, rfl, by rw [← reps_int r1 h1]; exact .of s1, by rw [hl]; simp, fun m hm hy => ?_⟩
    cases is with
    | nil => cases hm
    | cons i js =>
      obtain ⟨m1, m2⟩ := maxI_mem i js
      have : m = maxI (i :: js) := Int.le_antisymm (m2 m hm) (hy _ m1)
      subst this
      exact k _ _ (new_atom rfl)
  · cases hd
    obtain ⟨x, y, rfl, sx', sy⟩ := seen2 sx; replace sx := sx'
    exact call_max2 hc pins s σ H _ us Q I r ⟨_, _, by rw [seen_int sx, seen_int sy], k _ _ (new_atom rfl)⟩
theorem bif_min (hc : X.calm = true) : CallR X (.builtin "min") (rDs e (bifD .min)) := by
  intro pins s σ H xs us Q I r ⟨w, ds, d, fr, hG, sx, hd, k⟩
  unfold bifD at hd
  split at hd <;> first | contradiction | skip
  all_goals rename_i h
  all_goals cases h
  · obtain ⟨is, h1, h2⟩ := Option.map_eq_some_iff.mp hd
    cases h2
    obtain ⟨x, rfl, sx'⟩ := seen1 sx; replace sx := sx'
    obtain ⟨a, xs, rfl, s1, r1⟩ := seen_lst hG sx
    have hl := ints_len h1
    refine cr_min hc pins s σ H _ us Q I r ⟨a, is, rfl, by rw [← reps_int r1 h1]; exact .of s1, by rw [hl]; simp, fun m hm hy => ?_⟩
    cases is with
    | nil => cases hm
    | cons i js =>
      obtain ⟨m1, m2⟩ := minI_mem i js
      have : m = minI (i :: js) := Int.le_antisymm (hy _ m1) (m2 m hm)
      subst this
      exact k _ _ (new_atom rfl)
  · cases hd
    obtain ⟨x, y, rfl, sx', sy⟩ := seen2 sx; replace sx := sx'
    exact call_min2 hc pins s σ H _ us Q I r ⟨_, _, by rw [seen_int sx, seen_int sy], k _ _ (new_atom rfl)⟩
theorem bif_dict : CallR X (.type "dict") (rDs e (bifD .dict)) := by
  intro pins s σ H xs us Q I r ⟨w, ds, d, fr, hG, sx, hd, k⟩
  unfold bifD at hd
  split at hd <;> first | contradiction | skip
  all_goals rename_i h
  all_goals cases h
  cases hd
  obtain ⟨x, rfl, sx'⟩ := seen1 sx; replace sx := sx'
  obtain ⟨a, xs, rfl, s1, r1⟩ := seen_dct hG sx
  exact call_dictD pins s σ H _ us Q I r ⟨a, xs, rfl, .inl s1, fun p hp => k _ _ (.inr ⟨p, _, rfl, hp, rfl, ⟨_, rfl, r1⟩, fun _ => trivial⟩)⟩
theorem bif_list (hK : X.K = e.K) : CallR X (.type "list") (rDs e (bifD .list)) := by
  intro pins s σ H xs us Q I r ⟨w, ds, d, fr, hG, sx, hd, k⟩
  unfold bifD at hd
  split at hd <;> first | contradiction | skip
  all_goals rename_i h
  all_goals cases h
  obtain ⟨ys, h1, h2⟩ := Option.map_eq_some_iff.mp hd
  cases h2
  obtain ⟨x, rfl, sx'⟩ := seen1 sx; replace sx := sx'
  have new : ∀ (xs : List V) (r1 : RepVs e.K e.mg w ys xs) (l : Addr), H l = none → Q (.ref l) (upd H l (.lst xs)) := fun xs r1 l hl => k _ _ (.inr ⟨l, _, rfl, hl, rfl, ⟨_, rfl, r1⟩, fun _ => trivial⟩)
  unfold itemsL at h1
  split at h1 <;> first | contradiction | skip
  all_goals cases h1
  · obtain ⟨a, xs, rfl, s1, r1⟩ := seen_tup hG sx
    exact call_list_of pins s σ H _ us Q I r ⟨a, xs, rfl, .inr (.of s1), new xs r1⟩
  · obtain ⟨a, xs, rfl, s1, r1⟩ := seen_lst hG sx
    exact call_list_of pins s σ H _ us Q I r ⟨a, xs, rfl, .inl (.of s1), new xs r1⟩
  · obtain ⟨a, xs, rfl, s1, r1⟩ := seen_giv hG sx
    exact call_list_of pins s σ H _ us Q I r ⟨a, xs, rfl, .inl (by rw [hK]; exact s1), new xs r1⟩
  · obtain ⟨a, xs, rfl, s1, r1⟩ := seen_git hG sx
    exact call_list_of pins s σ H _ us Q I r ⟨a, xs, rfl, .inr (by rw [hK]; exact s1), new xs r1⟩
theorem bif_tuple (hK : X.K = e.K) : CallR X (.type "tuple") (rDs e (bifD .tuple)) := by
  intro pins s σ H xs us Q I r ⟨w, ds, d, fr, hG, sx, hd, k⟩
  unfold bifD at hd
  split at hd <;> first | contradiction | skip
  all_goals rename_i h
  all_goals cases h
  obtain ⟨ys, h1, h2⟩ := Option.map_eq_some_iff.mp hd
  cases h2
  obtain ⟨x, rfl, sx'⟩ := seen1 sx; replace sx := sx'
  unfold seqD at h1
  split at h1 <;> first | contradiction | skip
  all_goals cases h1
  · obtain ⟨a, xs, rfl, s1, r1⟩ := seen_tup hG sx
    refine call_tuple_of pins s σ H _ us Q I r ⟨a, xs, rfl, .inr ⟨.of s1, ?_⟩⟩
    rcases sx with h | ⟨_, _, _, _, ⟨_, rfl, _⟩, m⟩
    · exact k _ _ (new_atom h)
    · exact m.elim
  · obtain ⟨a, xs, rfl, s1, r1⟩ := seen_lst hG sx
    exact call_tuple_of pins s σ H _ us Q I r ⟨a, xs, rfl, .inl ⟨.of s1, fun p hp => k _ _ (.inr ⟨p, _, rfl, hp, rfl, ⟨_, rfl, r1⟩, fun z => nomatch z⟩)⟩⟩
/-- what the sorted things are, and how they stand -/
theorem sort_rep {K : PySem.W.Frag} {mg : Str → Option Value} {w : Wd} {H : Hp} {X : Cx} {pins : List (Addr × Obj)} {σ : L2.St} {s : Shared} (I : Inv X pins σ H s) (hK : X.K = K) (hG : ∀ a o, w.G a = some o → H a = some o) : ∀ {ds : List D} {xs : List V} {its : List Value}, RepVs K mg w ds xs → (∀ d ∈ ds, d.plain DEEP = true) → Vals xs its →
    PySem.W.EachIs (fun v (b : D × V) => RelV b.2 v ∧ RepV K mg w b.1 b.2) its (ds.zip xs) ∧ PySem.W.EachIs (fun v (b : D × V) => ∃ as, Reads s.heap v b.1.pd as) its (ds.zip xs)
  | [], _, _, r, _, v => by
    cases (show _ = [] from r)
    cases v
    exact ⟨.nil, .nil⟩
  | d :: ds, _, _, ⟨x, t, rfl, p, q⟩, hp, v => by
    cases v with
    | cons rx rt =>
      obtain ⟨h1, h2⟩ := sort_rep I hK hG q (fun d' hd => hp d' (List.mem_cons_of_mem _ hd)) rt
      obtain ⟨d1, _, _⟩ := rep_dp hG d x DEEP p (hp d List.mem_cons_self)
      exact ⟨.cons ⟨rx, p⟩ h1, .cons (Dp.reads I _ x _ (by rw [hK]; exact d1) rx) h2⟩
theorem each_out {K : PySem.W.Frag} {mg : Str → Option Value} {w : Wd} : ∀ {out : List Value} {bs : List (D × V)}, PySem.W.EachIs (fun v (b : D × V) => RelV b.2 v ∧ RepV K mg w b.1 b.2) out bs → Vals (bs.map (·.2)) out ∧ RepVs K mg w (bs.map (·.1)) (bs.map (·.2))
  | _, _, .nil => ⟨.nil, rfl⟩
  | _, _, .cons h t => by
    obtain ⟨h1, h2⟩ := each_out t
    exact ⟨.cons h.1 h1, .cons h.2 h2⟩
theorem merge_fst (le : D → D → Bool) (lz : D × V → D × V → Bool) (bs : List (D × V)) (h : ∀ a ∈ bs, ∀ b ∈ bs, lz a b = le a.1 b.1) : (bs.mergeSort lz).map (·.1) = (bs.map (·.1)).mergeSort le := by
  exact List.map_mergeSort fun a ha b hb => h a ha b hb
theorem bif_sorted (hK : X.K = e.K) (hu : X.A.units + 65 < cLine) : CallR X (.builtin "sorted") (rDs e (bifD .sorted)) := by
  intro pins s σ H xs us Q I r ⟨w, ds, d, fr, hG, sx, hd, k⟩
  unfold bifD at hd
  split at hd <;> first | contradiction | skip
  all_goals rename_i h
  all_goals cases h
  rename_i ds
  obtain ⟨ys, h1, h2⟩ := Option.map_eq_some_iff.mp hd
  cases h2
  obtain ⟨x, rfl, sx'⟩ := seen1 sx; replace sx := sx'
  obtain ⟨a, xs, rfl, s1, r1⟩ := seen_lst hG sx
  unfold sortD at h1
  split at h1
  · rename_i hs
    cases h1
    rw [Bool.and_eq_true, Bool.and_eq_true] at hs
    obtain ⟨⟨hp, hal⟩, hso⟩ := hs
    have hp := List.all_eq_true.mp hp
    obtain ⟨its, rv, hl, hz⟩ := I.list (.of s1)
    have hlen := rv.length
    have hdl := r1.length
    obtain ⟨e1, e2⟩ := sort_rep I hK hG r1 hp rv
    have hmem : ∀ b ∈ ds.zip xs, b.1 ∈ ds := fun b hb => (List.of_mem_zip hb).1
    have alz : ∀ c ∈ ds, ∀ c' ∈ ds, D.alike c c' = true := fun c hc c' hc' => by
      have := List.all_eq_true.mp hal c hc
      exact List.all_eq_true.mp this c' hc'
    have hmap : (ds.zip xs).map (·.1) = ds := by rw [List.map_fst_zip]; omega
    have hA : PySem.W.AllAlike ((ds.zip xs).map fun b => b.1.pd) := fun p hp1 q hq1 => by
      obtain ⟨b, hb, rfl⟩ := List.mem_map.mp hp1
      obtain ⟨c, hc, rfl⟩ := List.mem_map.mp hq1
      rw [alike_pd _ _ _ _ (hp _ (hmem b hb)) (hp _ (hmem c hc))]
      exact alz _ (hmem b hb) _ (hmem c hc)
    have hS : PySem.W.Sortable ((ds.zip xs).map fun b => b.1.pd) := by
      unfold sortable at hso
      rw [Bool.or_eq_true] at hso
      rcases hso with hso | hso
      · refine .inl fun p hp1 => ?_
        obtain ⟨b, hb, rfl⟩ := List.mem_map.mp hp1
        have := List.all_eq_true.mp hso b.1 (hmem b hb)
        obtain ⟨d1, x1⟩ := b
        cases d1 with
        | tup zs => cases zs with
          | nil => cases this
          | cons z zs => exact ⟨z.pd, D.pds zs, by simp [D.pd, D.pds]⟩
        | _ => cases this
      · refine .inr fun p hp1 => ?_
        obtain ⟨b, hb, rfl⟩ := List.mem_map.mp hp1
        have h3 := List.all_eq_true.mp hso b.1 (hmem b hb)
        have h4 := hp _ (hmem b hb)
        obtain ⟨d1, x1⟩ := b
        cases d1 <;> simp [D.plain] at h3 h4 <;> simp [D.pd]
    rw [Vals.ref1 r]
    refine PySem.W.sorted_data hl.isList e1 e2 hA hS (by rw [List.length_zip]; omega) (fun b hb => ?_) fun out ho eo => ?_
    · obtain ⟨_, _, h3⟩ := dp_of_plain b.1 DEEP (hp _ (hmem b hb))
      have : DEEP = 40 := rfl
      omega
    · obtain ⟨v1, v2⟩ := each_out eo
      have hle : ∀ b ∈ ds.zip xs, ∀ c ∈ ds.zip xs, PySem.W.dataLe false (fun b : D × V => b.1.pd) b c = !D.lt c.1 b.1 := fun b hb c hc => by
        rw [PySem.W.dataLe_eq]
        show (!PySem.W.dataLt c.1.pd b.1.pd) = _
        by_cases hn : c.1 = .non
        · have h5 := alz _ (hmem c hc) _ (hmem b hb)
          rw [hn] at h5
          have hb2 : b.1 = .non := by
            revert h5
            cases b.1 <;> simp [D.alike]
          have hso' := hS
          exfalso
          rcases hso' with hso' | hso'
          · obtain ⟨z, zs, h6⟩ := hso' _ (List.mem_map.mpr ⟨c, hc, rfl⟩)
            rw [hn] at h6
            simp [D.pd] at h6
          · obtain ⟨h6, _⟩ := hso' _ (List.mem_map.mpr ⟨c, hc, rfl⟩)
            rw [hn] at h6
            simp [D.pd] at h6
        · rw [lt_pd _ _ _ _ (hp _ (hmem c hc)) (hp _ (hmem b hb)) (alz _ (hmem c hc) _ (hmem b hb)) hn]
      have hm := merge_fst (fun a b => !D.lt b a) _ (ds.zip xs) hle
      rw [hmap] at hm
      obtain ⟨ep, he'⟩ := PyProof.Rows.sortedAll_at s.heap its out.toArray
      refine ⟨.ref _, upd H (s.heap.objs.size + 1) (.lst _), I.laid (t' := s.toks) (fun _ _ => PyProof.Rows.sortedAll_old) (Nat.le_succ _) ⟨?_, out, ep, v1, he'⟩, rfl, k _ _ (.inr ⟨_, _, rfl, I.hok.fresh (Nat.le_succ _), rfl, ⟨_, rfl, ?_⟩, fun _ => trivial⟩)⟩
      · rw [v1.length, ho, List.length_zip]; omega
      · rw [hm] at v2
        exact v2
  · cases h1
theorem bif_repr (hK : X.K = e.K) (hu : X.A.units + 65 < cLine) (hg : X.A.guards = some []) : CallR X (.builtin "repr") (rDs e (bifD .repr)) := by
  intro pins s σ H xs us Q I r ⟨w, ds, d, fr, hG, sx, hd, k⟩
  unfold bifD at hd
  split at hd <;> first | contradiction | skip
  all_goals rename_i h
  all_goals cases h
  rename_i a
  split at hd
  · rename_i hz
    unfold okS at hd
    split at hd
    · rename_i hl
      cases hd
      rw [Bool.and_eq_true, Bool.and_eq_true, Bool.and_eq_true] at hz
      obtain ⟨⟨⟨hq, hp⟩, hs⟩, hall⟩ := hz
      obtain ⟨x, rfl, sx'⟩ := seen1 sx; replace sx := sx'
      obtain ⟨d1, _, d3⟩ := seen_dp hG sx hp
      obtain ⟨u, rfl, rx⟩ := vals1 r
      obtain ⟨as, hr⟩ := Dp.reads I _ x u (by rw [hK]; exact d1) rx
      obtain ⟨p, rfl⟩ : ∃ p, x = .ref p := by
        cases a with
        | tup zs => obtain ⟨p, _, e1, _⟩ := seen_tup hG sx; exact ⟨p, e1⟩
        | lst zs => obtain ⟨p, _, e1, _⟩ := seen_lst hG sx; exact ⟨p, e1⟩
        | _ => simp [seqD] at hq
      cases rx
      have hsh : (⟨(reprD a).toArray⟩ : Str) = a.pd.shown := TL.mk_tl _
      refine repr_of_reads' hr hs (fun hd => ?_) hg (by have : DEEP = 40 := rfl; omega) (fun _ _ q => q) (fun h' v tk hk => ?_) ?_
      · rw [pd_nodict a DEEP hp] at hd; cases hd
      · exact ⟨.str a.pd.shown, H, I.kept hk, ⟨_, rfl⟩, hsh ▸ k _ _ (new_atom ⟨rfl, hl, hall⟩)⟩
      · rw [← hsh, str_len, ← sl_eq]; exact hl
    · cases hd
  · cases hd
end
end PyE
end
section
set_option linter.all false
set_option autoImplicit false
set_option maxRecDepth 100000
set_option maxHeartbeats 1000000
/-! PyMeth: methods of lists, dicts, texts on data. -/
namespace PyE
open PySem PySem.Spec PyProof.Rows L2

/-! ### types -/
section
variable {K : PySem.W.Frag} {mg : Str → Option Value} {w : Wd} {H : Hp} {X : Cx} {pins : List (Addr × Obj)} {σ : L2.St} {s : Shared}
theorem ty_seen (I : Inv X pins σ H s) (hK : X.K = K) (hG : ∀ a o, w.G a = some o → H a = some o) {d : D} {x : V} {v : Value} {T : String} (h : Seen K mg w H d x) (r : RelV x v) (t : d.ty = some T) :
    s.TypeIs v T ∧ ∀ a, v = .ref a → ∃ ob, s.heap.get? a = some ob ∧ ob.dict = none := by
  cases d with
  | str z =>
    cases t
    exact tyV_is I r (by rw [(seen_str h).1]; exact rfl)
  | lst ds =>
    cases t
    obtain ⟨a, xs, rfl, s1, r1⟩ := seen_lst hG h
    exact tyV_is I r (.inl ⟨rfl, xs, .of s1⟩)
  | dct ds =>
    cases t
    obtain ⟨a, xs, rfl, s1, r1⟩ := seen_dct hG h
    exact tyV_is I r (.inr (.inr (.inl ⟨rfl, .inl ⟨_, s1⟩⟩)))
  | _ => cases t
end
/-! ### methods that change nothing -/
/-- a method on data, by values -/
def rMt (e : En) (g : D → List D → Option (D × Bool)) (T : String) : V → List V → Hp → VK → Prop := fun x xs H Q => ∃ w dx ds d fr, (∀ a o, w.G a = some o → H a = some o) ∧ Seen e.K e.mg w H dx x ∧ dx.ty = some T ∧ Seens e.K e.mg w H ds xs ∧ g dx ds = some (d, fr) ∧ ∀ z H', NewR e.K e.mg w H d fr z H' → Q z H'
def metName : Met → Str
  | .append => "append"
  | .extend => "extend"
  | .pop => "pop"
  | .insert => "insert"
  | .index => "index"
  | .get => "get"
  | .update => "update"
  | .isascii => "isascii"
  | .isalnum => "isalnum"
  | .isalpha => "isalpha"
  | .islower => "islower"
  | .upper => "upper"
  | .split => "split"
  | .join => "join"
/-- what a method's call asks for: its type's slot, its rule -/
def MtOk (X : Cx) (T : String) (name : Str) (r : V → List V → Hp → VK → Prop) : Prop := ∃ id, PlainAttrs T ∧ PySem.Slot T name id ∧ typeOf (.builtin id) = pure (.type "method_descriptor") ∧ MtR X id r
theorem MtOk.never {X : Cx} {T : String} {name : Str} {r r' : V → List V → Hp → VK → Prop} (k : MtOk X T name r) (h : ∀ x xs H Q, r' x xs H Q → r x xs H Q) : MtOk X T name r' := by
  obtain ⟨id, a, b, c, d⟩ := k
  exact ⟨id, a, b, c, fun pins s σ H x xs v us Q I rx rs q => d pins s σ H x xs v us Q I rx rs (h _ _ _ _ q)⟩
theorem pds_map : ∀ zs : List D, D.pds zs = zs.map D.pd
  | [] => rfl
  | z :: r => by rw [D.pds, List.map_cons, pds_map r]
theorem seen_firm {K : PySem.W.Frag} {mg : Str → Option Value} {w : Wd} {H : Hp} {d : D} {x : V} (f : d.firm = true) (h : Seen K mg w H d x) : RepV K mg w d x := by
  rcases h with h | ⟨a, o, _, _, r, m⟩
  · exact h
  · cases d with
    | tup ds => obtain ⟨xs, rfl, _⟩ := r; exact m.elim
    | lst ds => cases f
    | dct ds => cases f
    | _ => exact r.elim
theorem seens0 {K : PySem.W.Frag} {mg : Str → Option Value} {w : Wd} {H : Hp} {xs : List V} (h : Seens K mg w H [] xs) : xs = [] := by
  cases h; rfl
/-- signs of ASCII -/
theorem asc_al : ∀ c : Nat, c < 128 → Unicode.isAlpha c = (isLow c || isUpp c) := by decide +kernel
theorem asc_an : ∀ c : Nat, c < 128 → Unicode.isAlnum c = (isDig c || isLow c || isUpp c) := by decide +kernel
theorem asc_lo : ∀ c : Nat, c < 128 → Unicode.isLower c = isLow c := by decide +kernel
theorem asc_up : ∀ c : Nat, c < 128 → (Unicode.isUpper c || Unicode.isTitle c) = isUpp c := by decide +kernel
theorem asc_to : ∀ c : Nat, c < 128 → Unicode.upperOf c = [if isLow c then c - 32 else c] := by decide +kernel
theorem any_congr_mem {α : Type} {p q : α → Bool} : ∀ {l : List α}, (∀ x ∈ l, p x = q x) → l.any p = l.any q
  | [], _ => rfl
  | x :: l, h => by rw [List.any_cons, List.any_cons, h x List.mem_cons_self, any_congr_mem fun y hy => h y (List.mem_cons_of_mem _ hy)]
theorem all_congr_mem {α : Type} {p q : α → Bool} : ∀ {l : List α}, (∀ x ∈ l, p x = q x) → l.all p = l.all q
  | [], _ => rfl
  | x :: l, h => by rw [List.all_cons, List.all_cons, h x List.mem_cons_self, all_congr_mem fun y hy => h y (List.mem_cons_of_mem _ hy)]
theorem asc_mem {x : List Nat} (h : asciiS x = true) : ∀ c ∈ x, c < 128 := fun c hc => by
  have := List.all_eq_true.mp h c hc
  simpa using this
theorem splitS_ne (c : Nat) : ∀ x : List Nat, splitS c x ≠ []
  | [] => by simp [splitS]
  | y :: r => by
    rw [splitS]
    split
    · simp
    · split <;> simp
theorem spl_one (c : Nat) : ∀ (x acc : List Nat), TL.spl [c] 0 acc x = match splitS c x with
    | p :: q => (acc ++ p) :: q
    | [] => []
  | [], acc => by simp [TL.spl, splitS]
  | y :: r, acc => by
    by_cases h : y = c
    · subst h
      have e1 : TL.pre [y] (y :: r) = true := by simp [TL.pre]
      rw [TL.spl, if_pos e1]
      show acc :: TL.spl [y] 0 [] r = _
      rw [spl_one y r [], splitS, if_pos rfl]
      cases splitS y r <;> simp
    · have e1 : ¬ TL.pre [c] (y :: r) = true := by simp [TL.pre, h]
      rw [TL.spl, if_neg e1, spl_one c r, splitS, if_neg h]
      cases e2 : splitS c r with
      | nil => exact absurd e2 (splitS_ne c r)
      | cons p q => simp
theorem spl_all (c : Nat) (x : List Nat) : TL.spl [c] 0 [] x = splitS c x := by
  rw [spl_one]
  cases e2 : splitS c x with
  | nil => exact absurd e2 (splitS_ne c x)
  | cons p q => simp
theorem splitS_part (c : Nat) : ∀ (x : List Nat), (splitS c x).length ≤ x.length + 1 ∧ ∀ p ∈ splitS c x, p.length ≤ x.length ∧ ∀ z ∈ p, z ∈ x
  | [] => by simp [splitS]
  | y :: r => by
    obtain ⟨h1, h2⟩ := splitS_part c r
    rw [splitS]
    split
    · refine ⟨by simp; omega, fun p hp => ?_⟩
      rcases List.mem_cons.mp hp with rfl | hp
      · simp
      · obtain ⟨a, b⟩ := h2 p hp
        exact ⟨by simp; omega, fun z hz => List.mem_cons_of_mem _ (b z hz)⟩
    · split
      · rename_i e1
        rw [e1] at h1 h2
        refine ⟨by simpa using Nat.le_succ_of_le h1, fun p hp => ?_⟩
        rcases List.mem_cons.mp hp with rfl | hp
        · obtain ⟨a, b⟩ := h2 _ List.mem_cons_self
          refine ⟨by simp; omega, fun z hz => ?_⟩
          rcases List.mem_cons.mp hz with rfl | hz
          · exact List.mem_cons_self
          · exact List.mem_cons_of_mem _ (b z hz)
        · obtain ⟨a, b⟩ := h2 p (List.mem_cons_of_mem _ hp)
          exact ⟨by simp; omega, fun z hz => List.mem_cons_of_mem _ (b z hz)⟩
      · exact absurd ‹_› (splitS_ne c r)
theorem reps_strs {K : PySem.W.Frag} {mg : Str → Option Value} {w : Wd} : ∀ {ds : List D} {xs : List V} {ys : List (List Nat)}, RepVs K mg w ds xs → strsD ds = some ys → xs = (ys.map fun y => (⟨y.toArray⟩ : Str)).map V.str ∧ ∀ y ∈ ys, y.length ≤ SL ∧ y.all (· < 1114112) = true
  | [], _, ys, r, h => by
    cases (show _ = [] from r)
    cases h
    exact ⟨rfl, fun y hy => by cases hy⟩
  | d :: ds, _, ys, ⟨x, t, rfl, p, q⟩, h => by
    cases d with
    | str z =>
      obtain ⟨zs, h1, rfl⟩ := Option.map_eq_some_iff.mp (show (strsD ds).map (z :: ·) = some ys from h)
      obtain ⟨e1, e2⟩ := reps_strs q h1
      obtain ⟨p1, p2, p3⟩ := p
      refine ⟨by rw [List.map_cons, List.map_cons, ← e1, p1], fun y hy => ?_⟩
      rcases List.mem_cons.mp hy with rfl | hy
      · exact ⟨p2, p3⟩
      · exact e2 y hy
    | _ => cases h
theorem reps_of_strs {K : PySem.W.Frag} {mg : Str → Option Value} {w : Wd} : ∀ {ys : List (List Nat)}, (∀ y ∈ ys, y.length ≤ SL ∧ y.all (· < 1114112) = true) → RepVs K mg w (ys.map D.str) ((ys.map fun y => (⟨y.toArray⟩ : Str)).map V.str)
  | [], _ => rfl
  | y :: ys, h => ⟨_, _, rfl, ⟨rfl, h y List.mem_cons_self⟩, reps_of_strs fun z hz => h z (List.mem_cons_of_mem _ hz)⟩
theorem joinS_eq (x : List Nat) : ∀ ys : List (List Nat), joinS x ys = TL.joinL x ys
  | [] => rfl
  | [_] => rfl
  | y :: z :: r => by
    rw [joinS, TL.joinL, joinS_eq x (z :: r), List.append_assoc]
    simp
theorem joinS_len (x : List Nat) : ∀ ys : List (List Nat), (joinS x ys).length ≤ (ys.map (·.length)).sum + ys.length * x.length
  | [] => by simp [joinS]
  | [y] => by simp [joinS]
  | y :: z :: r => by
    have := joinS_len x (z :: r)
    rw [joinS, List.length_append, List.length_append]
    · simp only [List.map_cons, List.sum_cons, List.length_cons] at this ⊢
      rw [Nat.add_mul (r.length + 1) 1]
      omega
    · simp
theorem joinS_all (p : Nat → Bool) (x : List Nat) (hx : x.all p = true) : ∀ ys : List (List Nat), (∀ y ∈ ys, y.all p = true) → (joinS x ys).all p = true
  | [], _ => rfl
  | [y], h => h y (by simp)
  | y :: z :: r, h => by
    rw [joinS, List.all_append, List.all_append, hx, h y (by simp), joinS_all p x hx (z :: r) fun q hq => h q (List.mem_cons_of_mem _ hq)]
    · rfl
    · simp
theorem len_emp {α : Type} (x : List α) : decide (0 < x.length) = !x.isEmpty := by cases x <;> simp
theorem placed_one (x : List Nat) (f : Nat → Nat) (g : Nat → List Nat) (h : ∀ c ∈ x, g c = [f c]) : (placed ⟨x.toArray⟩ fun _ c => g c) = (x.map f).toArray := by
  unfold placed
  apply Array.toList_inj.mp
  rw [Array.toList_flatten]
  have e1 : ∀ (l : List Nat), (∀ c ∈ l, g c = [f c]) → (l.map fun c => g c).flatten = l.map f := fun l => by
    induction l with
    | nil => intro _; rfl
    | cons c r ih =>
      intro hl
      rw [List.map_cons, List.flatten_cons, hl c List.mem_cons_self, ih fun d hd => hl d (List.mem_cons_of_mem _ hd), List.map_cons]
      rfl
  have e2 : List.mapIdx (fun i c => (g c).toArray) x = x.map fun c => (g c).toArray := by
    apply List.ext_getElem (by simp)
    intro i h1 h2
    simp
  simp only [Array.toList_map, Array.toList_mapIdx, e2, List.map_map]
  exact (congrArg List.flatten (List.map_congr_left fun c _ => rfl)).trans (e1 x h)
section
variable {X : Cx} {e : En}
theorem mt_index_d (hK : X.K = e.K) (hu : X.A.units + 65 < cLine) : MtR X "list.index" (rMt e (calmM .index) "list") := by
  intro pins s σ H x xs v us Q I rx rs ⟨w, dx, ds, d, fr, hG, sx, ht, ss, hg, k⟩
  unfold calmM at hg
  split at hg <;> first | contradiction | skip
  rename_i zs y _
  obtain ⟨j, h1, h2⟩ := Option.map_eq_some_iff.mp hg
  cases h2
  obtain ⟨v1, rfl, sy⟩ := seen1 ss
  obtain ⟨a, vs, rfl, s1, r1⟩ := seen_lst hG sx
  unfold firstD at h1
  split at h1
  · rename_i hz
    rw [Bool.and_eq_true] at hz
    obtain ⟨d1, d2, d3⟩ := seen_dp hG sy hz.1
    obtain ⟨c1, c2, c3⟩ := reps_dp hG _ _ DEEP r1 hz.2
    obtain ⟨hj, hh, hno⟩ := List.findIdx?_eq_some_iff_getElem.mp h1
    have hp := plains_mem hz.2
    have at1 : ∀ (m : Nat) (hm : m < zs.length), (D.pds zs)[m]? = some (zs[m].pd) := fun m hm => by
      rw [pds_map, List.getElem?_map, List.getElem?_eq_getElem hm]; rfl
    refine mt_indexD hu pins s σ H _ _ v us Q I rx rs ⟨a, v1, y.pd, D.pds zs, j, zs[j].pd, rfl, rfl, .lst (.of s1) (by rw [hK]; exact c1), by rw [hK]; exact d1, ?_, shaped_of d2 d3, at1 j hj, ?_, fun m z' hm hz' => ?_, k _ _ (new_atom rfl)⟩
    · unfold SeqAt.shaped
      rw [show (PyData.list (D.pds zs)).canLay0 = true by rw [PyData.canLay0]; exact c2, decide_eq_true (Nat.le_trans (show (PyData.list (D.pds zs)).depth ≤ 41 by rw [PyData.depth]; have : DEEP = 40 := rfl; omega) (by decide))]
      rfl
    · rw [eqv_pd _ _ _ _ (hp _ (List.getElem_mem hj)) hz.1]; exact hh
    · rw [at1 m (by omega)] at hz'
      cases hz'
      rw [eqv_pd _ _ _ _ (hp _ (List.getElem_mem _)) hz.1]
      have := hno m hm
      simpa using this
  · cases h1
theorem mt_get_d (hu : X.A.units + 65 < cLine) : MtR X "dict.get" (rMt e (calmM .get) "dict") := by
  intro pins s σ H x xs v us Q I rx rs ⟨w, dx, ds, d, fr, hG, sx, ht, ss, hg, k⟩
  have key : ∀ (kvs : List (D × D)) (y : D) (v1 : V), okK kvs y = true → Seen e.K e.mg w H y v1 → ∃ key : Key, v1 = kV key ∧ keyD key = y := fun kvs y v1 hk sy => by
    cases y with
    | int i => exact ⟨.inl i, seen_int sy, rfl⟩
    | str z => exact ⟨.inr ⟨z.toArray⟩, (seen_str sy).1, rfl⟩
    | _ => simp [okK, D.akey] at hk
  unfold calmM at hg
  split at hg <;> first | contradiction | skip
  · rename_i kvs y _
    split at hg
    · rename_i hk
      cases hg
      obtain ⟨v1, rfl, sy⟩ := seen1 ss
      obtain ⟨a, vs, rfl, s1, r1⟩ := seen_dct hG sx
      obtain ⟨ky, rfl, hd⟩ := key kvs y v1 hk sy
      obtain ⟨u, rfl, ru⟩ := vals1 rs
      cases rx
      refine d_get1 (by omega) I (DGet.k (k := ky) s1) ru fun w' s3 I3 rw' => ⟨_, H, I3, rw', k _ _ (new_atom ?_)⟩
      have := repK_get ky r1
      rw [hd] at this
      cases h1 : valV vs ky <;> cases h2 : getK kvs y <;> rw [h1, h2] at this
      · exact rfl
      · exact this.elim
      · exact this.elim
      · exact this
    · cases hg
  · rename_i kvs y z _
    split at hg
    · rename_i hk
      rw [Bool.and_eq_true] at hk
      obtain ⟨hk, hf⟩ := hk
      cases hg
      obtain ⟨v1, v2, rfl, sy, sz⟩ := seen2 ss
      obtain ⟨a, vs, rfl, s1, r1⟩ := seen_dct hG sx
      obtain ⟨ky, rfl, hd⟩ := key kvs y v1 hk sy
      obtain ⟨u, u2, rfl, ru, ru2⟩ := vals2 rs
      cases rx
      have := repK_get ky r1
      rw [hd] at this
      refine d_get2 (by omega) I (DGet.k (k := ky) s1) ru ru2 fun w' s3 I3 rw' => ⟨_, H, I3, rw', ?_⟩
      cases h1 : valV vs ky <;> cases h2 : getK kvs y <;> rw [h1, h2] at this
      · rw [h2] at k
        exact k _ _ (new_atom (seen_firm hf sz))
      · exact this.elim
      · exact this.elim
      · rw [h2] at k
        exact k _ _ (new_atom this)
    · cases hg
theorem mt_asc_d : MtR X "str.isascii" (rMt e (calmM .isascii) "str") := by
  intro pins s σ H x xs v us Q I rx rs ⟨w, dx, ds, d, fr, hG, sx, ht, ss, hg, k⟩
  unfold calmM at hg
  split at hg <;> first | contradiction | skip
  cases hg
  obtain rfl := seens0 ss
  obtain ⟨rfl, _, _⟩ := seen_str sx
  refine mt_isascii pins s σ H _ _ v us Q I rx rs ⟨_, rfl, rfl, trivial, k _ _ (new_atom ?_)⟩
  show V.bl _ = V.bl _
  simp [Txt.isascii, asciiS]
theorem mt_an_d : MtR X "str.isalnum" (rMt e (calmM .isalnum) "str") := by
  intro pins s σ H x xs v us Q I rx rs ⟨w, dx, ds, d, fr, hG, sx, ht, ss, hg, k⟩
  unfold calmM at hg
  split at hg <;> first | contradiction | skip
  split at hg
  · rename_i hz
    cases hg
    obtain rfl := seens0 ss
    obtain ⟨rfl, _, _⟩ := seen_str sx
    refine mt_isalnum pins s σ H _ _ v us Q I rx rs ⟨_, rfl, rfl, trivial, k _ _ (new_atom ?_)⟩
    show V.bl _ = V.bl _
    congr 1
    unfold Txt.isalnum
    rw [str_len]
    congr 1
    · exact len_emp _
    · rw [List.all_toArray]
      exact all_congr_mem fun c hc => asc_an c (asc_mem hz c hc)
  · cases hg
theorem mt_al_d : MtR X "str.isalpha" (rMt e (calmM .isalpha) "str") := by
  intro pins s σ H x xs v us Q I rx rs ⟨w, dx, ds, d, fr, hG, sx, ht, ss, hg, k⟩
  unfold calmM at hg
  split at hg <;> first | contradiction | skip
  split at hg
  · rename_i hz
    cases hg
    obtain rfl := seens0 ss
    obtain ⟨rfl, _, _⟩ := seen_str sx
    refine mt_isalpha pins s σ H _ _ v us Q I rx rs ⟨_, rfl, rfl, trivial, k _ _ (new_atom ?_)⟩
    show V.bl _ = V.bl _
    congr 1
    unfold Txt.isalpha
    rw [str_len]
    congr 1
    · exact len_emp _
    · rw [List.all_toArray]
      exact all_congr_mem fun c hc => asc_al c (asc_mem hz c hc)
  · cases hg
theorem mt_lo_d : MtR X "str.islower" (rMt e (calmM .islower) "str") := by
  intro pins s σ H x xs v us Q I rx rs ⟨w, dx, ds, d, fr, hG, sx, ht, ss, hg, k⟩
  unfold calmM at hg
  split at hg <;> first | contradiction | skip
  split at hg
  · rename_i hz
    cases hg
    obtain rfl := seens0 ss
    obtain ⟨rfl, _, _⟩ := seen_str sx
    refine mt_islower pins s σ H _ _ v us Q I rx rs ⟨_, rfl, rfl, trivial, k _ _ (new_atom ?_)⟩
    show V.bl _ = V.bl _
    congr 1
    unfold Txt.islower
    rw [List.any_toArray, List.any_toArray, any_congr_mem fun c hc => asc_lo c (asc_mem hz c hc), any_congr_mem fun c hc => asc_up c (asc_mem hz c hc)]
  · cases hg
theorem mt_up_d : MtR X "str.upper" (rMt e (calmM .upper) "str") := by
  intro pins s σ H x xs v us Q I rx rs ⟨w, dx, ds, d, fr, hG, sx, ht, ss, hg, k⟩
  unfold calmM at hg
  split at hg <;> first | contradiction | skip
  split at hg
  · rename_i hz
    rw [Bool.and_eq_true] at hz
    have hl := of_decide_eq_true hz.2
    cases hg
    obtain rfl := seens0 ss
    obtain ⟨rfl, _, _⟩ := seen_str sx
    refine mt_upper pins s σ H _ _ v us Q I rx rs ⟨_, rfl, rfl, by rw [str_len]; exact hl, k _ _ (new_atom ⟨?_, by rw [List.length_map]; unfold SL; omega, ?_⟩)⟩
    · show V.str _ = V.str _
      congr 1
      unfold Txt.upper
      rw [placed_one _ (fun c => if isLow c then c - 32 else c) _ fun c hc => asc_to c (asc_mem hz.1 c hc)]
    · rw [List.all_eq_true]
      intro c hc
      obtain ⟨b, hb, rfl⟩ := List.mem_map.mp hc
      have := asc_mem hz.1 b hb
      apply decide_eq_true
      split <;> omega
  · cases hg
theorem mt_split_d : MtR X "str.split" (rMt e (calmM .split) "str") := by
  intro pins s σ H x xs v us Q I rx rs ⟨w, dx, ds, d, fr, hG, sx, ht, ss, hg, k⟩
  unfold calmM at hg
  split at hg <;> first | contradiction | skip
  split at hg
  · rename_i z c _ hz
    cases hg
    obtain ⟨y, rfl, sy⟩ := seen1 ss
    obtain ⟨rfl, hl, ha⟩ := seen_str sx
    obtain ⟨rfl, _, _⟩ := seen_str sy
    have e1 : Txt.split ⟨z.toArray⟩ ⟨[c].toArray⟩ = (splitS c z).map fun y => (⟨y.toArray⟩ : Str) := by
      refine TL.map_tl_inj ?_
      rw [TL.split_spl _ _ (by simp [TL.tl]) (TL.kind_ok (by simp; omega))]
      show TL.spl [c] 0 [] z = _
      rw [spl_all, List.map_map]
      symm
      exact (List.map_congr_left fun y _ => rfl).trans (List.map_id _)
    obtain ⟨p1, p2⟩ := splitS_part c z
    refine mt_split pins s σ H _ _ v us Q I rx rs ⟨_, _, rfl, rfl, by simp [Str.length], by rw [str_len, ← sl_eq]; exact hz.1, fun p hp => ?_⟩
    rw [e1]
    refine k _ _ (.inr ⟨p, _, rfl, hp, rfl, ⟨_, rfl, reps_of_strs fun q hq => ?_⟩, fun _ => trivial⟩)
    obtain ⟨q1, q2⟩ := p2 q hq
    refine ⟨by omega, ?_⟩
    rw [List.all_eq_true] at ha ⊢
    exact fun b hb => ha b (q2 b hb)
  · cases hg
theorem mt_join_d (hK : X.K = e.K) : MtR X "str.join" (rMt e (calmM .join) "str") := by
  intro pins s σ H x xs v us Q I rx rs ⟨w, dx, ds, d, fr, hG, sx, ht, ss, hg, k⟩
  unfold calmM at hg
  split at hg <;> first | contradiction | skip
  rename_i z a _
  obtain ⟨zs, h1, hg⟩ := Option.bind_eq_some_iff.mp hg
  obtain ⟨ys, h2, hg⟩ := Option.bind_eq_some_iff.mp hg
  split at hg
  · rename_i hz
    cases hg
    obtain ⟨y, rfl, sy⟩ := seen1 ss
    obtain ⟨rfl, hl, ha⟩ := seen_str sx
    obtain ⟨p, vs, rfl, hp, hr⟩ : ∃ p vs, y = .ref p ∧ (SqL X.K H p vs ∨ SqT X.K H p vs) ∧ RepVs e.K e.mg w zs vs := by
      cases a with
      | tup ts =>
        cases h1
        obtain ⟨p, vs, e1, s1, r1⟩ := seen_tup hG sy
        exact ⟨p, vs, e1, .inr (.of s1), r1⟩
      | lst ts =>
        cases h1
        obtain ⟨p, vs, e1, s1, r1⟩ := seen_lst hG sy
        exact ⟨p, vs, e1, .inl (.of s1), r1⟩
      | _ => cases h1
    obtain ⟨e1, e2⟩ := reps_strs hr h2
    subst e1
    have hlen : (ys.map fun y => (⟨y.toArray⟩ : Str)).map (·.length) = ys.map (·.length) := by
      rw [List.map_map]
      exact List.map_congr_left fun y _ => str_len y
    refine mt_join pins s σ H _ _ v us Q I rx rs ⟨_, p, _, rfl, rfl, hp, by rw [hlen, List.length_map, str_len]; exact hz, ?_⟩
    have e3 : Txt.join ⟨z.toArray⟩ (ys.map fun y => (⟨y.toArray⟩ : Str)) = ⟨(joinS z ys).toArray⟩ := by
      apply TL.ext_tl
      rw [TL.join_eq, TL.tl_join, List.map_map]
      show TL.joinL z (ys.map fun y => y) = joinS z ys
      rw [List.map_id', joinS_eq]
    rw [e3]
    refine k _ _ (new_atom ⟨rfl, Nat.le_trans (joinS_len z ys) hz, joinS_all _ z ha ys fun q hq => (e2 q hq).2⟩)
  · cases hg
/-- the methods that change nothing -/
theorem mt_calm (hK : X.K = e.K) (hu : X.A.units + 65 < cLine) (m : Met) (T : String) (hm : m.calm = true) (hT : T ∈ m.tys) : MtOk X T (metName m) (rMt e (calmM m) T) := by
  cases m with
  | append | extend | pop | insert | update => cases hm
  | index => obtain rfl := List.mem_singleton.mp hT; exact ⟨_, PySem.F.plainAttrs_list, PySem.F.slot_list_index, PySem.F.type_list_index, mt_index_d hK hu⟩
  | get => obtain rfl := List.mem_singleton.mp hT; exact ⟨_, PySem.F.plainAttrs_dict, PySem.F.slot_dict_get, PySem.F.type_dict_get, mt_get_d hu⟩
  | isascii => obtain rfl := List.mem_singleton.mp hT; exact ⟨_, PySem.F.plainAttrs_str, PySem.F.slot_str_isascii, PySem.F.type_str_isascii, mt_asc_d⟩
  | isalnum => obtain rfl := List.mem_singleton.mp hT; exact ⟨_, PySem.F.plainAttrs_str, PySem.F.slot_str_isalnum, PySem.F.type_str_isalnum, mt_an_d⟩
  | isalpha => obtain rfl := List.mem_singleton.mp hT; exact ⟨_, PySem.F.plainAttrs_str, PySem.F.slot_str_isalpha, PySem.F.type_str_isalpha, mt_al_d⟩
  | islower => obtain rfl := List.mem_singleton.mp hT; exact ⟨_, PySem.F.plainAttrs_str, PySem.F.slot_str_islower, PySem.F.type_str_islower, mt_lo_d⟩
  | upper => obtain rfl := List.mem_singleton.mp hT; exact ⟨_, PySem.F.plainAttrs_str, PySem.F.slot_str_upper, PySem.F.type_str_upper, mt_up_d⟩
  | split => obtain rfl := List.mem_singleton.mp hT; exact ⟨_, PySem.F.plainAttrs_str, PySem.F.slot_str_split, PySem.F.type_str_split, mt_split_d⟩
  | join => obtain rfl := List.mem_singleton.mp hT; exact ⟨_, PySem.F.plainAttrs_str, PySem.F.slot_str_join, PySem.F.type_str_join, mt_join_d hK⟩

/-! ### methods that change their object -/
/-- by values: what stood there, what stands there then -/
def rMut (e : En) (g : D → List D → Option (D × D)) (T : String) : V → List V → Hp → VK → Prop := fun x xs H Q => ∃ w a o d ds d' r, (∀ a o, w.G a = some o → H a = some o) ∧ x = .ref a ∧ H a = some o ∧ ORep e.K e.mg w o d ∧ Mut (some o) ∧ d.ty = some T ∧ RepVs e.K e.mg w ds xs ∧ g d ds = some (d', r) ∧
  ∀ z o', ORep e.K e.mg w o' d' → Mut (some o') → RepV e.K e.mg w r z → Q z (upd H a o')
theorem ixD_lt {n : Nat} {i : Int} {k : Nat} (h : ixD n i = some k) : seqIndex? i n = some k ∧ k < n ∧ -(n : Int) ≤ i ∧ i < n := ixN_seq h
theorem reps_one {K : PySem.W.Frag} {mg : Str → Option Value} {w : Wd} {d : D} {xs : List V} (r : RepVs K mg w [d] xs) : ∃ x, xs = [x] ∧ RepV K mg w d x := by
  obtain ⟨x, t, rfl, p, q⟩ := r
  cases (show t = [] from q)
  exact ⟨x, rfl, p⟩
theorem reps_two {K : PySem.W.Frag} {mg : Str → Option Value} {w : Wd} {c d : D} {xs : List V} (r : RepVs K mg w [c, d] xs) : ∃ x y, xs = [x, y] ∧ RepV K mg w c x ∧ RepV K mg w d y := by
  obtain ⟨x, t, rfl, p, q⟩ := r
  obtain ⟨y, rfl, q'⟩ := reps_one q
  exact ⟨x, y, rfl, p, q'⟩
theorem orep_lst {K : PySem.W.Frag} {mg : Str → Option Value} {w : Wd} {o : HO} {ds : List D} (r : ORep K mg w o (.lst ds)) : ∃ xs, o = .lst xs ∧ RepVs K mg w ds xs := r
theorem mt_append_d : MtR X "list.append" (rMut e (mutM .append) "list") := by
  intro pins s σ H x xs v us Q I rx rs hh
  obtain ⟨w, a, o, d, ds, d', r, hG, rfl, ha, ho, hm, ht, hd, hg, k⟩ := hh
  unfold mutM at hg
  split at hg <;> first | contradiction | skip
  split at hg
  · rename_i hz
    cases hg
    obtain ⟨zs, rfl, r1⟩ := orep_lst ho
    obtain ⟨y, rfl, ry⟩ := reps_one hd
    exact mt_append pins s σ H _ _ v us Q I rx rs ⟨a, zs, y, rfl, rfl, ha, by rw [r1.length, ← sl_eq]; exact hz, k _ _ ⟨_, rfl, r1.append (.cons ry .nil)⟩ trivial rfl⟩
  · cases hg
theorem mt_extend_d : MtR X "list.extend" (rMut e (mutM .extend) "list") := by
  intro pins s σ H x xs v us Q I rx rs hh
  obtain ⟨w, a, o, d, ds, d', r, hG, rfl, ha, ho, hm, ht, hd, hg, k⟩ := hh
  unfold mutM at hg
  split at hg <;> first | contradiction | skip
  split at hg
  · rename_i hz
    cases hg
    obtain ⟨zs, rfl, r1⟩ := orep_lst ho
    obtain ⟨y, rfl, b, ys, rfl, hb, r2⟩ := reps_one hd
    exact mt_extend pins s σ H _ _ v us Q I rx rs ⟨a, b, zs, ys, rfl, rfl, ha, hG _ _ hb, by rw [r1.length, r2.length, ← sl_eq]; exact hz, k _ _ ⟨_, rfl, r1.append r2⟩ trivial rfl⟩
  · cases hg
theorem mt_insert_d : MtR X "list.insert" (rMut e (mutM .insert) "list") := by
  intro pins s σ H x xs v us Q I rx rs hh
  obtain ⟨w, a, o, d, ds, d', r, hG, rfl, ha, ho, hm, ht, hd, hg, k⟩ := hh
  unfold mutM at hg
  split at hg <;> first | contradiction | skip
  split at hg
  · rename_i hz
    cases hg
    obtain ⟨zs, rfl, r1⟩ := orep_lst ho
    obtain ⟨y1, y2, rfl, ry1, ry2⟩ := reps_two hd
    cases (show y1 = _ from ry1)
    refine mt_insert pins s σ H _ _ v us Q I rx rs ⟨a, zs, _, y2, rfl, rfl, ha, by rw [r1.length, ← sl_eq]; exact hz.2.2, hz.1, by omega, k _ _ ⟨_, rfl, ?_⟩ trivial rfl⟩
    rw [List.append_assoc]
    exact (r1.take _).append (.cons ry2 (r1.drop _))
  · cases hg
theorem repks_drop {K : PySem.W.Frag} {mg : Str → Option Value} {w : Wd} (key : Key) : ∀ {kvs : List (D × D)} {xs : List (Key × V)}, RepKs K mg w kvs xs → RepKs K mg w (dropK kvs (keyD key)) (L2.dropK xs key)
  | [], _, e => by cases (show _ = [] from e); exact rfl
  | (j, d) :: r, _, ⟨k, x, t, e, p, q⟩ => by
    subst e
    have ih := repks_drop key q
    obtain ⟨p1, p2⟩ := p
    unfold dropK L2.dropK at *
    rw [List.filter_cons, List.filter_cons]
    by_cases h : k = key
    · subst h
      rw [if_neg (by simp [p1]), if_neg (by simp)]
      exact ih
    · rw [if_pos (by simp; exact fun z => h (keyD_inj (p1.trans z))), if_pos (by simpa using h)]
      exact ⟨_, _, _, rfl, ⟨p1, p2⟩, ih⟩
theorem mt_pop_d : MtR X "list.pop" (rMut e (mutM .pop) "list") := by
  intro pins s σ H x xs v us Q I rx rs hh
  obtain ⟨w, a, o, d, ds, d', r, hG, rfl, ha, ho, hm, ht, hd, hg, k⟩ := hh
  unfold mutM at hg
  split at hg <;> first | contradiction | skip
  · rename_i zs _
    obtain ⟨y, h1, h2⟩ := Option.map_eq_some_iff.mp hg
    cases h2
    obtain ⟨vs, rfl, r1⟩ := orep_lst ho
    cases (show xs = [] from hd)
    rw [List.getLast?_eq_getElem?] at h1
    obtain ⟨v1, h3, h4⟩ := r1.get h1
    exact mt_pop pins s σ H _ _ v us Q I rx rs ⟨a, vs, v1, rfl, rfl, ha, by rw [r1.length]; exact h3, k _ _ ⟨_, rfl, r1.dropLast⟩ trivial h4⟩
  · rename_i zs i _
    obtain ⟨j, h1, hg⟩ := Option.bind_eq_some_iff.mp hg
    obtain ⟨y, h2, h3⟩ := Option.map_eq_some_iff.mp hg
    cases h3
    obtain ⟨vs, rfl, r1⟩ := orep_lst ho
    obtain ⟨y1, rfl, ry1⟩ := reps_one hd
    cases (show y1 = _ from ry1)
    obtain ⟨v1, h3, h4⟩ := r1.get h2
    obtain ⟨i1, i2, i3, i4⟩ := ixD_lt h1
    have hl : vs.length ≤ sizeLine := (I.lstM ha).1
    have hle := r1.length
    have hn := line63
    exact mt_popAt pins s σ H _ _ v us Q I rx rs ⟨a, vs, i, j, v1, rfl, rfl, ha, by omega, by omega, by rw [r1.length]; exact i1, h3, k _ _ ⟨_, rfl, r1.eraseIdx j⟩ trivial h4⟩
  · exact absurd ht (by simp [D.ty])
theorem mt_popd_d : MtR X "dict.pop" (rMut e (mutM .pop) "dict") := by
  intro pins s σ H x xs v us Q I rx rs hh
  obtain ⟨w, a, o, d, ds, d', r, hG, rfl, ha, ho, hm, ht, hd, hg, k⟩ := hh
  unfold mutM at hg
  split at hg <;> first | contradiction | skip
  · exact absurd ht (by simp [D.ty])
  · exact absurd ht (by simp [D.ty])
  rename_i kvs y z _
  split at hg
  · rename_i hk
    obtain ⟨vs, rfl, r1⟩ := (show ∃ vs, o = .dK vs ∧ RepKs e.K e.mg w kvs vs from ho)
    obtain ⟨y1, y2, rfl, ry1, ry2⟩ := reps_two hd
    obtain ⟨key, rfl, hd'⟩ : ∃ key : Key, y1 = kV key ∧ keyD key = y := by
      cases y with
      | int i => exact ⟨.inl i, ry1, rfl⟩
      | str z => exact ⟨.inr ⟨z.toArray⟩, ry1.1, rfl⟩
      | _ => simp [okK, D.akey] at hk
    obtain ⟨u, u2, rfl, ru, ru2⟩ := vals2 rs
    have hv := repK_get key r1
    rw [hd'] at hv
    cases rx
    cases h1 : valV vs key with
    | some w1 =>
      cases h2 : getK kvs y with
      | none => rw [h1, h2] at hv; exact hv.elim
      | some w2 =>
        rw [h1, h2] at hv
        rw [h2] at hg
        cases hg
        exact d_pop I ha ru h1 (.inr ⟨_, rfl⟩) fun w' s3 I3 rw' => ⟨w1, _, I3, rw', k _ _ ⟨_, rfl, hd' ▸ repks_drop key r1⟩ trivial hv⟩
    | none =>
      cases h2 : getK kvs y with
      | some w2 => rw [h1, h2] at hv; exact hv.elim
      | none =>
        rw [h2] at hg
        cases hg
        refine d_popD I ha ru h1 fun s3 I3 => ⟨y2, H, I3, ru2, ?_⟩
        have e1 : upd H a (.dK vs) = H := by
          funext b
          by_cases hb : b = a
          · subst hb; rw [upd_same, ha]
          · exact upd_ne hb
        have q := k y2 _ ⟨_, rfl, r1⟩ trivial ry2
        rw [e1] at q
        exact q
  · cases hg
/-- the methods that change their object -/
theorem mt_mut (m : Met) (T : String) (hm : m.calm = false) (hT : T ∈ m.tys) : MtOk X T (metName m) (rMut e (mutM m) T) := by
  cases m with
  | append => obtain rfl := List.mem_singleton.mp hT; exact ⟨_, PySem.F.plainAttrs_list, PySem.F.slot_list_append, PySem.F.type_list_append, mt_append_d⟩
  | extend => obtain rfl := List.mem_singleton.mp hT; exact ⟨_, PySem.F.plainAttrs_list, PySem.F.slot_list_extend, PySem.F.type_list_extend, mt_extend_d⟩
  | insert => obtain rfl := List.mem_singleton.mp hT; exact ⟨_, PySem.F.plainAttrs_list, PySem.F.slot_list_insert, PySem.F.type_list_insert, mt_insert_d⟩
  | pop =>
    rcases List.mem_cons.mp hT with rfl | hT
    · exact ⟨_, PySem.F.plainAttrs_list, PySem.F.slot_list_pop, PySem.F.type_list_pop, mt_pop_d⟩
    · obtain rfl := List.mem_singleton.mp hT; exact ⟨_, PySem.F.plainAttrs_dict, PySem.F.slot_dict_pop, PySem.F.type_dict_pop, mt_popd_d⟩
  | update => cases hT
  | _ => cases hm
end
end PyE
end
section
set_option linter.all false
set_option autoImplicit false
set_option maxRecDepth 100000
set_option maxHeartbeats 1000000
/-! PyFn: what a def of the text promises (with the guards of repr), its body, its calls, the law's end. -/
namespace PyE
open PySem PySem.Spec PyProof.Rows L2

/-- as the hand layer's FnOk, where nothing is being shown -/
structure FnG (Pg : Program) (wo : World) (K : PySem.W.Frag) (mg : Str → Option Value) (base : Heap) (n : Nat) (fa : Addr) (fd : FuncData) (ps : List Str) (sp : Sp) : Prop where
  size : ∀ xs G Q E, sp xs G Q E → xs.length = ps.length
  goes : ∀ (A : Around) (above : List Env) (s0 : Shared) (G : Hp) (given : Args) (us : List Value) (xs : List V) (Q : VK) (E : XK), Room n A → A.guards = some [] → Env0 Pg wo K mg base A above s0 G → BindsTo s0 fd given (ps.zip us) →
    Vals xs us → sp xs G Q E → codeAny (model Pg wo) A (.call (.ref fa) given) (CR (L2.CX Pg wo) above Pg wo G s0 Q E) s0
theorem FnG.lower {Pg : Program} {wo : World} {K : PySem.W.Frag} {mg : Str → Option Value} {base : Heap} {m n : Nat} {fa : Addr} {fd : FuncData} {ps : List Str} {sp : Sp} (F : FnG Pg wo K mg base m fa fd ps sp) (h : m ≤ n) : FnG Pg wo K mg base n fa fd ps sp :=
  ⟨F.size, fun A above s0 G given us xs Q E hr => F.goes A above s0 G given us xs Q E (hr.mono h)⟩
theorem FnG.weaker {Pg : Program} {wo : World} {K : PySem.W.Frag} {mg : Str → Option Value} {base : Heap} {n : Nat} {fa : Addr} {fd : FuncData} {ps : List Str} {sp sp' : Sp} (F : FnG Pg wo K mg base n fa fd ps sp) (h : ∀ xs G Q E, sp' xs G Q E → sp xs G Q E) : FnG Pg wo K mg base n fa fd ps sp' :=
  ⟨fun xs G Q E q => F.size xs G Q E (h _ _ _ _ q), fun A above s0 G given us xs Q E hr hg h0 hb hv hs => F.goes A above s0 G given us xs Q E hr hg h0 hb hv (h _ _ _ _ hs)⟩

theorem deeper_guards {A : Around} {env : Env} (h : A.guards = some []) : (A.deeper env).guards = some [] := h
theorem make_guards {A : Around} {C : Addr} {us : List Value} {kw : List (Str × Value)} (h : A.guards = some []) : (A.under (.builtin "type.__call__" ⟨.ref C :: us, kw⟩)).guards = some [] := by
  have e1 : "type.__call__" ∉ guardIds := by decide +kernel
  simp [Around.under, h, Code.guards, Code.isGuard, pushGuards, e1]

/-- a def by its body -/
theorem fnG_of {Pg : Program} {wo : World} {K : PySem.W.Frag} {mg : Str → Option Value} {base : Heap} {n : Nat} {fa : Addr} {nm qn : Str} {ar : Arguments} {bd : List Stmt} {sc : Scope} {z1 z2 z3 z4 cdv z5 oc : Value} {an od : Option Addr}
    {osl : Array (Option Value)} {N ps : List Str} {sp : Sp} (lk : K.lookup fa = some ⟨oc, od, .func (PySem.W.fnOf nm qn ar bd sc z1 z2 z3 z4 an cdv z5), osl⟩) (hcd : PySem.W.codeIn K cdv qn = true) (S : FnScope N ps sc) (size : ∀ xs G Q E, sp xs G Q E → xs.length = ps.length)
    (run : ∀ (A : Around) (above : List Env) (s0 : Shared) (G : Hp) (xs : List V) (Q : VK) (E : XK), Room n (A.deeper (envOfC qn sc s0.heap.objs.size fa cdv)) → A.guards = some [] → sp xs G Q E →
      ∃ t, PSs (cxOf (L2.CX Pg wo) Pg wo K mg base N qn sc fa cdv A above s0 G E) bd t ∧ t { nx := fun _ G' => Q .non G', rt := Q } (start N xs) G) :
    FnG Pg wo K mg base (n + 1) fa (PySem.W.fnOf nm qn ar bd sc z1 z2 z3 z4 an cdv z5) ps sp := by
  refine ⟨size, fun A above s0 G given us xs Q E hr hg h0 hb rv hs => ?_⟩
  have hin : K.In s0.heap := h0.mod.kin.keeps fun b o q => (h0.bs b o q).1
  have hno : s0.heap.NoLimit := h0.mod.nolimit.keeps fun b o q => (h0.bs b o q).1
  have kinds : ∀ y ∈ ps.zip us, sc.names.lookup y.1 = some .local ∨ (sc.names.lookup y.1 = some .cell ∧ ((cellsFrom (s0.heap.objs.size + 1) sc.names []).lookup y.1).isSome = true) := by
    rintro ⟨m, v⟩ hy
    have hm := (List.of_mem_zip hy).1
    exact (S.par m hm).imp id fun q => ⟨q, PySem.W.cellsFrom_some _ _ _ (.inl q)⟩
  apply codeAny_call_function hr.depth (hin _ _ lk) rfl S.co S.gen rfl (PySem.W.codeRec_of hin hcd)
  apply hb
  apply wpAny_newFunctionEnv_cells S.kind kinds
  rintro env rfl s1 x
  refine ⟨hno.keeps x.toInCall.keep, codeAny_func ?_⟩
  obtain ⟨t, ht, hq⟩ := run A above s0 G xs Q E (hr.deeper _) hg hs
  have J0 : Inv (cxOf (L2.CX Pg wo) Pg wo K mg base N qn sc fa cdv A above s0 G E) [] (start N xs) G s1 := inv_start S hr.hd h0 (size _ _ _ _ hs) rv x
  refine wpAny_mono (ht.run [] s1 (start N xs) G _ J0 hq) ?_ fun _ _ q => q
  intro fl s2 hz
  cases fl with
  | ret u =>
    obtain ⟨v, τ, G2, J, ru, q⟩ := hz
    exact ⟨v, G2, J.os, J.bare, J.base, J.hok, ru, q⟩
  | next =>
    obtain ⟨τ, G2, J, q⟩ := hz
    exact ⟨V.non, G2, J.os, J.bare, J.base, J.hok, rfl, q⟩
  | brk => exact hz.choose_spec.choose_spec.2.elim
  | cont => exact hz.choose_spec.choose_spec.2.elim

section
variable {X : Cx} {n : Nat} {fa C : Addr} {fd : FuncData} {ps : List Str} {sp : Sp} {dvs : List V} {dus : List Value} {E : XK} {W : WX} {pins : List (Addr × Obj)} {σ : L2.St} {G : Hp} {s : Shared} {Q : VK} {us : List Value} {vs : List V}
theorem goes_out {fl : Result} {s' : Shared} (hx : ∀ (e : Value) (s' : Shared), L2.CX X.prog X.w X.stack G s E e s' → X.xe e s') (I : Inv X pins σ G s) (h : CR (L2.CX X.prog X.w) X.stack X.prog X.w G s Q E fl s') : match fl with
    | .ok (.ret u) => EP X pins σ Q u s'
    | .ok _ => False
    | .error e => X.xe e s' := by
  cases fl with
  | error e => exact hx e s' h
  | ok f =>
    cases f with
    | ret u => exact I.after h
    | _ => exact h
/-- a def is called -/
theorem goG (F : FnG X.prog X.w X.K X.mg X.base n fa fd ps sp) (hr : Room n X.A) (hg : X.A.guards = some []) (hb : Binds X.K fd ps dus) (hd : Vals dvs dus) (tk : Takes X W) (hW : ∀ c d H', E c d H' → W c d σ H')
    (I : Inv X pins σ G s) (r : Vals vs us) (h : sp (vs ++ dvs) G Q E) : wpAny (model X.prog X.w) X.A (call (.ref fa) us) (EP X pins σ Q) X.xe s := by
  have rr : Vals (vs ++ dvs) (us ++ dus) := r.append hd
  have sz : (us ++ dus).length = ps.length := rr.length.symm.trans (F.size _ _ _ _ h)
  apply wpAny_call
  refine codeAny_mono (F.goes X.A X.stack s G ⟨us, []⟩ _ _ Q E hr hg I.env0 (hb s us I.kIn sz) rr h) fun fl s' q => ?_
  have := goes_out (fun e s' c => tk e s' (XE.of_call I (fun c d H' k => hW c d H' k) c)) I q
  cases fl with
  | error e => exact this
  | ok f => cases f <;> first | exact this | exact this.elim
/-- an instance is made -/
theorem makeG (M : Mk X.K C fa) (F : FnG X.prog X.w X.K X.mg X.base n fa fd ps sp) (hr : Room (n + 1) X.A) (hg : X.A.guards = some []) (hb : Binds X.K fd ps dus) (hd : Vals dvs dus) (tk : Takes X W) (hW : ∀ c d H', E c d H' → W c d σ H') (I : Inv X pins σ G s) (r : Vals vs us)
    (h : ∀ x dx, G x = none → G dx = none → dx ≠ x → sp (.ref x :: (vs ++ dvs)) (upd (upd G dx (.own x)) x (.ins C dx [])) (fun v H2 => v = .non ∧ Q (.ref x) H2) E) : wpAny (model X.prog X.w) X.A (call (.ref C) us) (EP X pins σ Q) X.xe s := by
  have hs := h (s.heap.objs.size + 1) s.heap.objs.size (I.hok.fresh (Nat.le_add_right _ 1)) (I.hok.fresh Nat.le.refl) (Nat.ne_of_lt (Nat.lt_add_one _))
  have J := Inv.made (C := C) I
  have rr : Vals (V.ref (s.heap.objs.size + 1) :: (vs ++ dvs)) (Value.ref (s.heap.objs.size + 1) :: (us ++ dus)) := Paired.cons rfl (r.append hd)
  have sz : (Value.ref (s.heap.objs.size + 1) :: us ++ dus).length = ps.length := rr.length.symm.trans (F.size _ _ _ _ hs)
  apply wpAny_call
  apply make_map (f := fa) I.kIn M.makes M.init (beq_iff_eq.mp M.fn)
  refine codeAny_mono (F.goes _ X.stack _ _ ⟨Value.ref (s.heap.objs.size + 1) :: us, []⟩ _ _ _ E (hr.make C us []) (make_guards hg) (J.env0.make C us []) (hb _ _ J.kIn sz) rr hs) fun fl s' q => ?_
  have := goes_out (fun e s' c => tk e s' (XE.of_call J (fun c d H' k => hW c d H' k) c)) J q
  cases fl with
  | error e => exact this
  | ok f =>
    cases f with
    | ret u =>
      obtain ⟨v, H', I3, rv, ev, q3⟩ := this
      subst ev
      exact ⟨rv, V.ref (s.heap.objs.size + 1), H', I3, rfl, q3⟩
    | _ => exact this.elim
end

/-! ### the law's end -/
theorem law_goes {Pg : Program} {wo : World} {K : PySem.W.Frag} {mg mb : Str → Option Value} {n : Nat} {fa a : Addr} {fd : FuncData} {x : Str} {sp : Sp} {s0 : Shared} {vs : List Value} {ns : List Int}
    (hin : K.In s0.heap) (hn : s0.heap.Ns mainGlobals mg) (hb : s0.heap.Ns builtinsNs mb) (hbb : ∀ y : Str, y ≠ "__name__" → mb y = bootBuiltins y) (hno : s0.heap.NoLimit) (hge : s0.gens = #[])
    (ha : s0.heap.get? a = some { cls := .type "list", data := .seq vs.toArray }) (hi : IntsAre vs ns) (hl : ns.length ≤ sizeLine) (hr : Room n callerA)
    (F : ∀ base : Heap, K.In base → base.Ns mainGlobals mg → FnG Pg wo K mg base n fa fd [x] sp) (hbind : ∀ (s : Shared) (u : Value), BindsTo s fd ⟨[u], []⟩ [(x, u)])
    (hsp : ∀ G : Hp, Only G → SqL K G a (ns.map V.int) → sp [.ref a] G (fun v _ => v = .bl true) fun _ _ _ => False) :
    codeAny (model Pg wo) callerA (.call (.ref fa) ⟨[.ref a], []⟩) (fun r s' => r = .ok (.ret (.bool true)) ∧ OldK s0.heap s'.heap ∧ s'.os = s0.os ∧ AllBare s'.gens) s0 := by
  have rv := vals_ints hi
  have core : ∀ G : Hp, Only G → SqL K G a (ns.map V.int) → HOk Pg wo G s0.heap → (∀ b u, G b = some u → b = a ∧ K.lookup a = none) →
      codeAny (model Pg wo) callerA (.call (.ref fa) ⟨[.ref a], []⟩) (fun r s' => r = .ok (.ret (.bool true)) ∧ OldK s0.heap s'.heap ∧ s'.os = s0.os ∧ AllBare s'.gens) s0 := by
    intro G only sq hok one
    have notDict : ∀ {b : Addr} {o : Obj} {es : Array DictEntry} {m : Nat}, s0.heap.get? b = some o → o.data = .dict es m → G b = none := by
      intro b o es m h1 h2
      cases q : G b with
      | none => rfl
      | some u =>
        obtain ⟨rfl, _⟩ := one b u q
        rw [ha] at h1
        cases h1
        exact nomatch h2
    have nsB : ∀ {b : Addr} {m : Str → Option Value}, s0.heap.Ns b m → (hidT s0.heap G).Ns b m := by
      rintro b m ⟨o, es, k, h1, h2, h3⟩
      exact ⟨o, es, k, hidT_get h1 (notDict h1 h2), h2, h3⟩
    have inB : K.In (hidT s0.heap G) := by
      intro b o h1
      refine hidT_get (hin b o h1) ?_
      cases q : G b with
      | none => rfl
      | some u =>
        obtain ⟨rfl, h2⟩ := one b u q
        rw [h2] at h1
        cases h1
    have md : Mod K mg (hidT s0.heap G) := ⟨inB, nsB hn, ⟨mb, nsB hb, hbb⟩, hno.elim fun mc h => ⟨mc, nsB h.1, h.2⟩⟩
    have h0 : Env0 Pg wo K mg (hidT s0.heap G) callerA [] s0 G := ⟨rfl, md, fun b o h1 => of_hidT h1, Nat.le_of_eq (hidT_size _ _), trivial, fun b hb => absurd (show b ∈ ([] : List Addr) from hb) List.not_mem_nil, hok, AllBare.of_eq hge⟩
    refine codeAny_mono ((F _ inB (nsB hn)).goes callerA [] s0 G ⟨[.ref a], []⟩ [.ref a] [.ref a] _ _ hr rfl h0 (hbind s0 (.ref a)) (.cons rfl .nil) (hsp G only sq)) fun fl s' q => ?_
    cases fl with
    | error e =>
      obtain ⟨_, _, _, _, _, _, _, _, _, _, _, _, z⟩ := q
      exact z.elim
    | ok f =>
      cases f with
      | ret u =>
        obtain ⟨v, G', os, bare, un, hok', rr, z⟩ := q
        cases (show v = .bl true from z)
        cases (show u = Value.bool true from rr)
        refine ⟨rfl, OldK.of_keep fun b o h1 => ?_, os, bare⟩
        cases q : G b with
        | none => exact un.keep b o h1 q (fun z => absurd (show b ∈ ([] : List Addr) from z) List.not_mem_nil) List.not_mem_nil
        | some u =>
          rcases only b with z | ⟨ob, xs, z⟩
          · rw [q] at z; cases z
          · have y1 := (hok b _ z).1
            have y2 := (hok' b _ (un.frzs b ob _ z)).1
            rw [h1] at y1
            cases y1
            exact y2
      | _ => exact False.elim q
  have lv := hi.length
  cases hk : K.lookup a with
  | some o =>
    have h1 := hin a o hk
    rw [ha] at h1
    cases h1
    exact core (fun _ => none) (fun _ => .inl rfl) (.inr ⟨_, vs.toArray, _, hk, rfl, rfl, rfl, by rw [List.size_toArray, lv]; exact hl, by simpa using rv⟩) (fun b u z => nomatch (show (none : Option HO) = some u from z)) fun b u z => nomatch (show (none : Option HO) = some u from z)
  | none =>
    have at' : ∀ b u, upd (fun _ => none) a (.frz { cls := .type "list", data := .seq vs.toArray } (.lst (ns.map V.int))) b = some u → b = a ∧ u = .frz { cls := .type "list", data := .seq vs.toArray } (.lst (ns.map V.int)) := by
      intro b u z
      by_cases hb : b = a
      · subst hb
        rw [upd_same] at z
        cases z
        exact ⟨rfl, rfl⟩
      · rw [upd_ne hb] at z
        cases z
    refine core (upd (fun _ => none) a (.frz { cls := .type "list", data := .seq vs.toArray } (.lst (ns.map V.int)))) (fun b => ?_) (.inl (.inr ⟨{ cls := .type "list", data := .seq vs.toArray }, upd_same⟩)) (fun b u z => ?_) fun b u z => ⟨(at' b u z).1, hk⟩
    · cases q : upd (fun _ => none) a (.frz { cls := .type "list", data := .seq vs.toArray } (.lst (ns.map V.int))) b with
      | none => exact .inl rfl
      | some u =>
        obtain ⟨_, e⟩ := at' b u q
        exact .inr ⟨_, _, by rw [e]⟩
    · obtain ⟨rfl, rfl⟩ := at' b u z
      exact ⟨ha, by rw [List.length_map]; exact hl, vs, _, rv, ha⟩
/-- what k_head leaves -/
theorem walkG {l : PySem.W.OpenLaw} {m n : Nat} {q : Program} {loose : List Str} {XP : (Str → Option Value) → Heap → Prop} {YP : World → Heap → Prop} {d : DefRec} {K : Params → PySem.W.Frag} {sp : World → (Str → Option Value) → Sp} {x : Str}
    (hm : l.most = some m) (hs : m ≤ sizeLine) (hdf : d.params.defaults = []) (hr : Room n callerA) (hY : ∀ (w : World) (h : Heap), YP w h → (K w.params).In h)
    (F : ∀ (w : World) (mg : Str → Option Value) (fa : Addr) (h : Heap), (K w.params).In h → h.Ns mainGlobals mg → mg d.name = some (.ref fa) →
      ∃ fd : FuncData, (∀ (s : Shared) (u : Value), BindsTo s fd ⟨[u], []⟩ [(x, u)]) ∧ ∀ base : Heap, (K w.params).In base → base.Ns mainGlobals mg → FnG l.prog w (K w.params) mg base n fa fd [x] (sp w mg))
    (hsp : ∀ (w : World) (mg : Str → Option Value) (G : Hp) (a : Addr) (ns : List Int), ns.length ≤ m → Only G → SqL (K w.params) G a (ns.map V.int) → sp w mg [.ref a] G (fun v _ => v = .bl true) fun _ _ _ => False) :
    PySem.W.WalkO q loose XP YP l.row.toRowW d [] (fun f vs => PySem.call f vs) := by
  apply Att.attach_call hm hdf
  intro w s0 s1 mg mb fa o pm cd doc a vs ns G Y ho hd hcd hmg hobj hints hlen hg
  obtain ⟨fd, hb, hF⟩ := F w mg fa _ (hY w _ Y) G.T.g hmg
  exact law_goes (hY w _ Y) G.T.g G.T.b G.T.builtins G.T.nolimit hg hobj hints (Nat.le_trans hlen hs) hr hF hb fun H only sq => hsp w mg H a ns hlen only sq
end PyE
end
section
set_option linter.all false
set_option autoImplicit false
set_option maxRecDepth 100000
set_option maxHeartbeats 1000000
/-! PyCall: calls of defs, by the small language's runs. -/
namespace PyE
open PySem PySem.Spec PyProof.Rows L2

/-- what comes back from a def -/
def Ret (e : En) (P : Hp) (w : Wd) (H : Hp) (d : D) (fr : Bool) (z : V) : Prop := match fr with
  | false => RepV e.K e.mg w d z
  | true => OwnV e.K e.mg w H d z ∧ ∀ a, z = .ref a → w.G a = none ∧ P a = none ∧ a ∉ w.m
def Outc (e : En) (P : Hp) (w : Wd) (r : RF) (Q : VK) (E : XK) : Prop := match r with
  | .ok d fr st => ∀ w' H' z, w.Le w' → RelC e.K e.mg P w' st H' → Ret e P w' H' d fr z → Q z H'
  | .exc c vs st => ∀ w' H' C d, w.Le w' → RelC e.K e.mg P w' st H' → e.xrep w' H' c vs C d → E (.ref C) (some d) H'
  | .stuck => False
/-- a def's promise -/
def spC (e : En) (n : Nat) (call : List D → List Ob → RF) : Sp := fun vs H Q E => vs.length = n ∧ ∃ P w st ds, RelC e.K e.mg P w st H ∧ RepVs e.K e.mg w ds vs ∧ Outc e P w (call ds st) Q E

/-! ### what a caller holds stands through a call -/
def ownA (s : S) (σ : L2.St) (a : Addr) : Prop := ∃ (i : Nat) (d : D), s.loc[i]? = some (.own d) ∧ σ[i]? = some (some (.ref a))
open Classical in
noncomputable def shield (P : Hp) (s : S) (σ : L2.St) (H : Hp) : Hp := fun a => if ownA s σ a then H a else P a
section
variable {K : PySem.W.Frag} {mg : Str → Option Value} {P : Hp} {w w' : Wd} {s : S} {σ : L2.St} {H H' : Hp} {st : List Ob} {a : Addr}
theorem shield_own (h : ownA s σ a) : shield P s σ H a = H a := if_pos h
theorem shield_not (h : ¬ ownA s σ a) : shield P s σ H a = P a := if_neg h
theorem Rel.ownNo (R : Rel K mg P w s σ H) (h : ownA s σ a) : w.G a = none ∧ P a = none ∧ a ∉ w.m := by
  obtain ⟨i, d, h1, h2⟩ := h
  exact R.apart i d a h1 h2
theorem Rel.ownSome (R : Rel K mg P w s σ H) (h : ownA s σ a) : ∃ o, H a = some o := by
  obtain ⟨i, d, h1, h2⟩ := h
  obtain ⟨v, h3, b, o, rfl, h4, _⟩ := R.own i d h1
  rw [h2] at h3
  cases h3
  exact ⟨o, h4⟩
theorem Rel.shielded (R : Rel K mg P w s σ H) : RelC K mg (shield P s σ H) w s.st H where
  g := R.g
  p := fun a o e => by
    by_cases h : ownA s σ a
    · rw [shield_own h] at e; exact e
    · rw [shield_not h] at e; exact R.p a o e
  stl := R.stl
  st := R.st
  nd := R.nd
  out := fun a ha => ⟨(R.out a ha).1, by
    by_cases h : ownA s σ a
    · exact absurd ha (R.ownNo h).2.2
    · rw [shield_not h]; exact (R.out a ha).2⟩
  gp := fun a o e => by
    by_cases h : ownA s σ a
    · exact (R.ownNo h).1
    · rw [shield_not h] at e; exact R.gp a o e
theorem Rel.back (R : Rel K mg P w s σ H) (l : w.Le w') (C : RelC K mg (shield P s σ H) w' st H') : Rel K mg P w' { s with st := st } σ H' := by
  have inP : ∀ a o, P a = some o → shield P s σ H a = some o := fun a o e => by
    by_cases h : ownA s σ a
    · rw [(R.ownNo h).2.1] at e; cases e
    · rw [shield_not h]; exact e
  exact {
    g := C.g
    p := fun a o e => C.p a o (inP a o e)
    stl := C.stl
    st := C.st
    nd := C.nd
    out := fun a ha => ⟨(C.out a ha).1, by
      by_cases h : ownA s σ a
      · exact (R.ownNo h).2.1
      · rw [← shield_not (P := P) (H := H) h]; exact (C.out a ha).2⟩
    gp := fun a o e => C.gp a o (inP a o e)
    len := R.len
    fz := fun i d h => by
      obtain ⟨v, h1, h2⟩ := R.fz i d h
      exact ⟨v, h1, RepV.mono l _ _ h2⟩
    own := fun i d h => by
      obtain ⟨v, h1, a, o, rfl, h2, h3, h4⟩ := R.own i d h
      exact ⟨_, h1, a, o, rfl, C.p a o ((shield_own (P := P) (H := H) (show ownA s σ a from ⟨i, d, h, h1⟩)).trans h2), h3.mono l, h4⟩
    apart := fun i d a h h1 => by
      have ho : ownA s σ a := ⟨i, d, h, h1⟩
      obtain ⟨o, h2⟩ := R.ownSome ho
      have h3 : shield P s σ H a = some o := by rw [shield_own ho]; exact h2
      refine ⟨C.gp a o h3, (R.ownNo ho).2.1, fun hm => ?_⟩
      rw [(C.out a hm).2] at h3
      cases h3
    dis := R.dis }
theorem Ret.now {e : En} {d : D} {fr : Bool} {z : V} (R : Rel e.K e.mg P w s σ H) (h : Ret e (shield P s σ H) w' H' d fr z) : Now e.K e.mg P w' { s with st := st } σ H' (.val d fr) z := by
  cases fr with
  | false => exact h
  | true =>
    refine ⟨h.1, fun a ha => ?_⟩
    obtain ⟨h1, h2, h3⟩ := h.2 a ha
    have no : ¬ ownA s σ a := fun ho => by
      obtain ⟨o, h4⟩ := R.ownSome ho
      rw [shield_own ho, h4] at h2
      cases h2
    exact ⟨h1, by rw [← shield_not (P := P) (H := H) no]; exact h2, h3, fun i e h4 h5 => no ⟨i, e, h4, h5⟩⟩
end
/-- a def's call, by values -/
def rCall (e : En) (W : WX) (f : Str) (σ : L2.St) : List V → Hp → VK → Prop := fun xs H Q => ∃ P w s ds, e.rel P w s σ H ∧ RepVs e.K e.mg w ds xs ∧ After e (fun c d H => W c d σ H) P w σ ((e.P.call f ds s.st).into s) (fun v s' w' H' => ∀ x, Now e.K e.mg P w' s' σ H' v x → Q x H')
/-- how a def's arguments are bound, where some are left out -/
def ArgsOk (K : PySem.W.Frag) (e : En) (f : Str) (fd : FuncData) (ps : List Str) : Prop :=
  ∀ m : Nat, (∀ (as : List D) (st : List Ob), as.length = m → e.P.call f as st = .stuck) ∨ ∃ dds dvs dus, m + dds.length = ps.length ∧ (∀ w, RepVs e.K e.mg w dds dvs) ∧ Vals dvs dus ∧ Binds K fd ps dus ∧ ∀ (as : List D) (st : List Ob), as.length = m → e.P.call f as st = e.P.call f (as ++ dds) st
/-- the def f stands at fa -/
def FnVal (X : Cx) (e : En) (f : Str) (fa : Addr) : Prop := ∃ n fd ps, FnG X.prog X.w X.K X.mg X.base n fa fd ps (spC e ps.length (e.P.call f)) ∧ Room (n + 1) X.A ∧ ArgsOk X.K e f fd ps
section
variable {X : Cx} {e : En} {W : WX} {f : Str} {fa : Addr} {pins : List (Addr × Obj)} {σ : L2.St} {H : Hp} {s : Shared} {Q : VK} {us : List Value} {xs : List V}
theorem rCall_sp {n : Nat} {dds : List D} {dvs : List V} (hm : ∀ (as : List D) (st : List Ob), RepVs e.K e.mg ⟨fun _ => none, []⟩ [] [] → as.length = xs.length → e.P.call f as st = e.P.call f (as ++ dds) st) (hn : xs.length + dds.length = n) (hd : ∀ w, RepVs e.K e.mg w dds dvs)
    (h : rCall e W f σ xs H Q) : spC e n (e.P.call f) (xs ++ dvs) H Q fun c d H => W c d σ H := by
  obtain ⟨P, w, s, ds, R, r, A⟩ := h
  refine ⟨?_, shield P s σ H, w, s.st, ds ++ dds, R.shielded, r.append (hd w), ?_⟩
  · rw [List.length_append, (hd w).length, hn]
  · rw [← hm ds s.st rfl r.length.symm]
    cases hc : e.P.call f ds s.st with
    | stuck => rw [hc] at A; exact A
    | ok d fr st =>
      rw [hc] at A
      intro w' H' z l C rz
      exact A w' H' l (R.back l C) z (Ret.now R rz)
    | exc c vs st =>
      rw [hc] at A
      intro w' H' C d l Rc x
      exact A w' H' C d l (R.back l Rc) x
/-- the call -/
theorem go_call (F : FnVal X e f fa) (hg : X.A.guards = some []) (tk : Takes X W) (I : Inv X pins σ H s) (r : Vals xs us) (h : rCall e W f σ xs H Q) : wpAny (model X.prog X.w) X.A (call (.ref fa) us) (EP X pins σ Q) X.xe s := by
  obtain ⟨n, fd, ps, G, hr, ha⟩ := F
  rcases ha xs.length with hs | ⟨dds, dvs, dus, hl, hd, hv, hb, hc⟩
  · obtain ⟨P, w, s, ds, R, rr, A⟩ := h
    rw [hs ds s.st rr.length.symm] at A
    exact A.elim
  · exact goG G (hr.mono (Nat.le_succ n)) hg hb hv tk (fun c d H' q => q) I r (rCall_sp (fun as st _ q => hc as st q) hl hd h)
end
section
variable {X : Cx} {e : En} {W : WX} {f : Str} {fa : Addr} {p pos : Pos} {es : List Expr} {t : TA}
/-- no starred argument -/
def noStar : Expr → Bool
  | .Starred _ _ => false
  | _ => true
theorem star_cons {a : Expr} (h : noStar a = true) (es : List Expr) (env : Env) : starEach (a :: es) env = (false, eval a env) :: starEach es env := by
  cases a <;> first | rfl | cases h
theorem star_none : ∀ {es : List Expr} (pos : Pos) (env : Env), es.all noStar = true → (backTo pos (starEach es env)).any (·.1) = false
  | [], _, _, _ => rfl
  | a :: es, pos, env, h => by
    rw [List.all_cons, Bool.and_eq_true] at h
    rw [star_cons h.1]
    exact star_none pos env h.2
theorem star_few : ∀ {es : List Expr} (pos : Pos) (env : Env), es.all noStar = true → (backTo pos (starEach es env)).all (fun x => !x.1) = true
  | [], _, _, _ => rfl
  | a :: es, pos, env, h => by
    rw [List.all_cons, Bool.and_eq_true] at h
    rw [star_cons h.1]
    exact star_few pos env h.2
theorem pe_callG (F : FnVal X e f fa) (hg : X.A.guards = some []) (tk : Takes X W) (gl : Gl X f) (hm : X.mg f = some (.ref fa)) (hk : PySem.W.keepIn X.K (.ref fa) = true) {a : Expr} (ha : PA X (a :: es) t) (hs : (a :: es).all noStar = true) (hdb : (f == ("__debug__" : Str)) = false) :
    PE X (.Call (.Name f p) (a :: es) [] pos) (fun σ H Q => t σ H fun xs H1 => rCall e W f σ xs H1 Q) := by
  refine ⟨fun pins s σ H Q I h => ?_⟩
  apply wpAny_Call_Name_kw
  refine ld_glob I gl hm ?_ hdb
  rw [List.all_cons, Bool.and_eq_true] at hs
  exact PySem.W.callWith_K (h₀ := X.base) I.ok.mod.kin hk (thn (ha.run pos pins s σ H _ I h) fun us s1 ⟨xs, H1, J, r, q⟩ => ⟨J.kIn, go_call F hg tk J r q⟩) (star_cons hs.1 es X.env) (star_none pos X.env hs.2)
theorem pe_callG0 (F : FnVal X e f fa) (hg : X.A.guards = some []) (tk : Takes X W) (gl : Gl X f) (hm : X.mg f = some (.ref fa)) (hk : PySem.W.keepIn X.K (.ref fa) = true) (hdb : (f == ("__debug__" : Str)) = false) :
    PE X (.Call (.Name f p) [] [] pos) (fun σ H Q => rCall e W f σ [] H Q) := by
  refine ⟨fun pins s σ H Q I h => ?_⟩
  apply wpAny_Call_Name_kw
  refine ld_glob I gl hm ?_ hdb
  exact PySem.W.callWith_K0 I.kIn hk (go_call F hg tk I .nil h)
end
end PyE
end
section
set_option linter.all false
set_option autoImplicit false
set_option maxRecDepth 100000
set_option maxHeartbeats 1000000
/-! PyEx1: expressions, construct by construct. -/
namespace PyE
open PySem PySem.Spec PyProof.Rows L2

def bltAll : List Str := ["len", "int", "list", "tuple", "sorted", "str", "repr", "all", "any", "sum", "max", "min", "dict", "range", "zip", "enumerate", "reversed", "isinstance", "set", "bool"]
/-- what the context must keep of the text -/
structure CtOk (X : Cx) (g : Ct) (e : En) (W : WX) : Prop where
  K : X.K = e.K
  mg : X.mg = e.mg
  N : X.N = g.N
  nd : g.N.Nodup
  sc : X.env.scope = g.sc
  un : X.A.units + 65 < cLine
  gu : X.A.guards = some []
  calm : X.calm = true
  tk : Takes X W
  con : ∀ x d, g.cons.lookup x = some d → ∃ v u, X.mg x = some u ∧ RelV v u ∧ ∀ w, RepV e.K e.mg w d v
  fns : ∀ f ∈ g.fns, ∃ fa, X.mg f = some (.ref fa) ∧ FnVal X e f fa ∧ PySem.W.keepIn X.K (.ref fa) = true
  blt : ∀ x ∈ bltAll, X.mg x = none
  bnd : ∀ x, locB g.bsc x = true → Loc X.env.scope x ∧ (X.fn x = true ∨ X.env.scope.names.lookup x = some .local)

section
variable {X : Cx} {g : Ct} {e : En} {W : WX} {a b c : Expr} {es : List Expr} {fa fb fc : S → R Rv} {pos p : Pos}
/-! ### atoms -/
theorem ex_val {f : S → R Rv} {v : V} {d : D} (h : PE X a (tC v)) (r : ∀ w, RepV e.K e.mg w d v) (hf : ∀ s, f s = .ok (.val d false) s) : PE X a (tE e W f) := pe_mono h fun σ H Q ⟨P, w, s, R, A⟩ => by
  rw [hf] at A
  exact A w H (.refl w) R v (r w)
theorem okName_d {x : Str} (h : okName x = true) : (x == ("__debug__" : Str)) = false ∧ (x == ("__classdict__" : Str)) = false ∧ (x == ("__name__" : Str)) = false := by
  unfold okName at h
  simp only [Bool.and_eq_true, Bool.not_eq_true'] at h
  exact ⟨h.1.1, h.1.2, h.2⟩
theorem vis_of {sc : Scope} {x : Str} (h : visB sc x = true) : Vis sc x := by
  unfold visB at h
  unfold Vis
  split at h <;> first | (simp_all; done) | cases h
theorem glob_of {X : Cx} {sc : Scope} {x : Str} (hs : X.env.scope = sc) (h : globB sc x = true) : Gl X x := by
  unfold globB at h
  show X.env.scope.names.lookup x = _
  rw [hs]
  split at h
  · assumption
  · cases h
theorem ixOf_get : ∀ {N : List Str} {x : Str} {i : Nat}, ixOf x N = some i → N[i]? = some x
  | [], _, _, h => by cases h
  | y :: r, x, i, h => by
    unfold ixOf at h
    split at h
    · cases h; rename_i h1; rw [← h1]; rfl
    · obtain ⟨j, h1, rfl⟩ := Option.map_eq_some_iff.mp h
      simpa using ixOf_get h1
theorem slotOf_at {g : Ct} {x : Str} {i : Nat} (h : slotOf g x = some i) : okName x = true ∧ visB g.sc x = true ∧ g.N[i]? = some x := by
  unfold slotOf at h
  split at h
  · rename_i h1
    rw [Bool.and_eq_true] at h1
    exact ⟨h1.1, h1.2, ixOf_get h⟩
  · cases h
theorem pe_slot (ok : CtOk X g e W) {x : Str} {i : Nat} (h : slotOf g x = some i) : PE X (.Name x p) (tVar i) := by
  obtain ⟨h1, h2, h3⟩ := slotOf_at h
  obtain ⟨d1, d2, _⟩ := okName_d h1
  exact pe_var (by rw [ok.N]; exact h3) (by rw [ok.sc]; exact vis_of h2) d1 d2
theorem ex_v (ok : CtOk X g e W) {x : Str} {i : Nat} (h : slotOf g x = some i) : PE X (.Name x p) (tE e W (ev e.P (.v i))) := pe_mono (pe_slot ok h) fun σ H Q ⟨P, w, s, R, A⟩ => by
  rw [ev] at A
  cases q : s.loc[i]? with
  | none => rw [q] at A; exact A.elim
  | some sl =>
    rw [q] at A
    cases sl with
    | emp => exact A.elim
    | fz d =>
      obtain ⟨v, h1, h2⟩ := R.fz i d q
      exact ⟨v, h1, A w H (.refl w) R v h2⟩
    | own d =>
      obtain ⟨v, h1, _⟩ := R.own i d q
      obtain ⟨R1, n1⟩ := R.take q h1
      obtain ⟨w2, l2, R2, hd⟩ := n1.hold R1
      have R3 := R2.know h1 hd
      rw [setLoc_twice] at R3
      exact ⟨v, h1, A w2 H l2 R3 v hd⟩
theorem ex_m (ok : CtOk X g e W) {x : Str} {i : Nat} (h : slotOf g x = some i) : PE X (.Name x p) (tE e W (ev e.P (.m i))) := pe_mono (pe_slot ok h) fun σ H Q ⟨P, w, s, R, A⟩ => by
  rw [ev] at A
  cases q : s.loc[i]? with
  | none => rw [q] at A; exact A.elim
  | some sl =>
    rw [q] at A
    cases sl with
    | emp => exact A.elim
    | fz d =>
      obtain ⟨v, h1, h2⟩ := R.fz i d q
      exact ⟨v, h1, A w H (.refl w) R v h2⟩
    | own d =>
      obtain ⟨v, h1, _⟩ := R.own i d q
      exact ⟨v, h1, A w H (.refl w) R v h1⟩
theorem ex_mv (ok : CtOk X g e W) {x : Str} {i : Nat} (h : slotOf g x = some i) : PE X (.Name x p) (tE e W (ev e.P (.mv i))) := pe_mono (pe_slot ok h) fun σ H Q ⟨P, w, s, R, A⟩ => by
  rw [ev] at A
  cases q : s.loc[i]? with
  | none => rw [q] at A; exact A.elim
  | some sl =>
    rw [q] at A
    cases sl with
    | emp => exact A.elim
    | fz d =>
      obtain ⟨v, h1, h2⟩ := R.fz i d q
      exact ⟨v, h1, A w H (.refl w) R v h2⟩
    | own d =>
      obtain ⟨v, h1, _⟩ := R.own i d q
      obtain ⟨R1, n1⟩ := R.take q h1
      exact ⟨v, h1, A w H (.refl w) R1 v n1⟩
theorem ex_const {c : Const} {d : D} {k : Nat} (h : constD c = some d) : PE X (.Constant c k pos) (tE e W (ev e.P (.c d))) := by
  have hf : ∀ s, ev e.P (.c d) s = .ok (.val d false) s := fun s => by rw [ev]
  cases c with
  | none => cases h; exact ex_val (d := .non) pe_non (fun _ => rfl) hf
  | bool k => cases h; exact ex_val (d := .bl k) pe_bl (fun _ => rfl) hf
  | int k => cases h; exact ex_val (d := .int k) pe_int (fun _ => rfl) hf
  | str x =>
    have h : (if x.cps.size ≤ SL ∧ x.cps.toList.all (· < 1114112) then some (D.str x.cps.toList) else none) = some d := h
    split at h
    · rename_i h1
      cases h
      refine ex_val (d := .str x.cps.toList) pe_str (fun w => ⟨?_, ?_, h1.2⟩) hf
      · show V.str x = V.str ⟨x.cps.toList.toArray⟩
        rw [Array.toArray_toList]
      · rw [Array.length_toList]; exact h1.1
    · cases h
  | _ => cases h
theorem ex_con (ok : CtOk X g e W) {x : Str} {d : D} (h1 : okName x = true) (h2 : globB g.sc x = true) (h : g.cons.lookup x = some d) : PE X (.Name x p) (tE e W (ev e.P (.c d))) := by
  obtain ⟨v, u, hm, r, hr⟩ := ok.con x d h
  exact ex_val (pe_glob (glob_of ok.sc h2) hm r (okName_d h1).1) hr fun s => by rw [ev]
theorem ex_fn (ok : CtOk X g e W) {x : Str} (h1 : okName x = true) (h2 : globB g.sc x = true) (h : x ∈ g.fns) : PE X (.Name x p) (tE e W (ev e.P (.c (.fn x)))) := by
  obtain ⟨fa, hm, _, _⟩ := ok.fns x h
  refine ex_val (v := .ref fa) (d := .fn x) (pe_glob (glob_of ok.sc h2) hm rfl (okName_d h1).1) (fun w => ⟨fa, by rw [← ok.mg]; exact hm, rfl⟩) fun s => by rw [ev]

/-! ### items that are kept, values that are looked at -/
theorem ex_evs_nil : PA X [] (tK e W (evs e.P [])) := pa_mono pa_nil fun σ H Q ⟨P, w, s, R, A⟩ => by
  rw [evs] at A
  exact A w H (.refl w) R [] rfl
theorem ex_evs_cons {t : E} {ts : List E} (hs : noStar a = true) (h : PE X a (tE e W (ev e.P t))) (hr : PA X es (tK e W (evs e.P ts))) : PA X (a :: es) (tK e W (evs e.P (t :: ts))) :=
  pa_mono (pa_cons h hr (star_cons hs es X.env)) fun σ H Q ⟨P, w, s, R, A⟩ => by
    rw [evs] at A
    refine ⟨P, w, s, R, A.bind.imp fun v s1 w1 H1 l1 R1 q x n => ?_⟩
    obtain ⟨w2, l2, R2, hd⟩ := n.hold R1
    have q := q.mono l2
    cases v with
    | loc i => exact q.elim
    | val d fr =>
      refine ⟨P, w2, s1, R2, After.imp (After.bind q) fun ds s3 w3 H3 l3 R3 q3 xs r => ?_⟩
      exact q3 w3 H3 (.refl w3) R3 (x :: xs) (.cons (RepV.mono l3 d x hd) r)
theorem ex_evr_nil : PA X [] (tL e W (evr e.P [])) := pa_mono pa_nil fun σ H Q ⟨P, w, s, R, A⟩ => by
  rw [evr] at A
  exact A w H (.refl w) R [] .nil
theorem ex_evr_cons {t : E} {ts : List E} (hs : noStar a = true) (h : PE X a (tE e W (ev e.P t))) (hr : PA X es (tL e W (evr e.P ts))) : PA X (a :: es) (tL e W (evr e.P (t :: ts))) :=
  pa_mono (pa_cons h hr (star_cons hs es X.env)) fun σ H Q ⟨P, w, s, R, A⟩ => by
    rw [evr] at A
    refine ⟨P, w, s, R, A.bind.imp fun v s1 w1 H1 l1 R1 q x n => ?_⟩
    obtain ⟨w2, l2, R2, hd⟩ := n.hold R1
    have q := q.mono l2
    refine ⟨P, w2, s1, R2, After.imp (After.bind q) fun vs s3 w3 H3 l3 R3 q3 xs r => ?_⟩
    exact q3 w3 H3 (.refl w3) R3 (x :: xs) (.cons (hd.mono l3) r)
theorem helds_read {K : PySem.W.Frag} {mg : Str → Option Value} {P : Hp} {w : Wd} {s : S} {σ : L2.St} {H : Hp} (R : Rel K mg P w s σ H) : ∀ {vs : List Rv} {xs : List V} {ds : List D}, Helds K mg w σ vs xs → rds s vs = some ds → Seens K mg w H ds xs
  | [], _, _, h, q => by
    cases h
    cases q
    exact .nil
  | v :: vs, _, _, h, q => by
    cases h with
    | cons h1 h2 =>
      unfold rds at q
      obtain ⟨d, e1, q⟩ := Option.bind_eq_some_iff.mp q
      obtain ⟨ds, e2, rfl⟩ := Option.map_eq_some_iff.mp q
      exact .cons (h1.read R e1) (helds_read R h2 e2)

/-! ### displays -/
theorem bind_ok {α β : Type} {r : R α} {f : α → S → R β} {b : β} {s' : S} (h : r.bind f = .ok b s') : ∃ a s, r = .ok a s ∧ f a s = .ok b s' := by
  cases r with
  | ok a s => exact ⟨a, s, rfl, h⟩
  | exc c vs s => cases h
  | stuck => cases h
theorem evs_len {P : Pr} : ∀ {ts : List E} {s s' : S} {ds : List D}, evs P ts s = .ok ds s' → ds.length = ts.length
  | [], _, _, _, h => by
    rw [evs] at h
    cases h
    rfl
  | t :: ts, s, s', ds, h => by
    rw [evs] at h
    obtain ⟨v, s1, _, h⟩ := bind_ok h
    obtain ⟨d, s2, _, h⟩ := bind_ok h
    obtain ⟨es, s3, h3, h⟩ := bind_ok h
    cases h
    simp [evs_len h3]
theorem ex_tup {ts : List E} {k : Nat} (h : PA X es (tK e W (evs e.P ts))) (hl : ts.length ≤ SL) : PE X (.Tuple es k pos) (tE e W (ev e.P (.tup ts))) := pe_mono (pe_tup h) fun σ H Q ⟨P, w, s, R, A⟩ => by
  rw [ev] at A
  refine ⟨P, w, s, R, A.bind.impE fun ds s1 w1 H1 eq l1 R1 q xs r => ⟨by rw [r.length, evs_len eq, ← sl_eq]; exact hl, fun p hp => ?_⟩⟩
  obtain ⟨w2, l2, R2, n⟩ := NewR.now (d := .tup ds) (fr := false) R1 (.inr ⟨p, _, rfl, hp, rfl, ⟨xs, rfl, r⟩, fun z => nomatch z⟩)
  exact q w2 _ l2 R2 _ n
theorem ex_lst {ts : List E} (h : PA X es (tK e W (evs e.P ts))) (hl : ts.length ≤ SL) : PE X (.List es pos) (tE e W (ev e.P (.lst ts))) := pe_mono (pe_lst h) fun σ H Q ⟨P, w, s, R, A⟩ => by
  rw [ev] at A
  refine ⟨P, w, s, R, A.bind.impE fun ds s1 w1 H1 eq l1 R1 q xs r => ⟨by rw [r.length, evs_len eq, ← sl_eq]; exact hl, fun p hp => ?_⟩⟩
  obtain ⟨w2, l2, R2, n⟩ := NewR.now (d := .lst ds) (fr := true) R1 (.inr ⟨p, _, rfl, hp, rfl, ⟨xs, rfl, r⟩, fun _ => trivial⟩)
  exact q w2 _ l2 R2 _ n

/-! ### operators -/
theorem ex_neg {t : E} (h : PE X a (tE e W (ev e.P t))) : PE X (.UnaryOp .USub a pos) (tE e W (ev e.P (.neg t))) := pe_mono (pe_un un_neg h) fun σ H Q ⟨P, w, s, R, A⟩ => by
  rw [ev] at A
  refine ⟨P, w, s, R, A.bind.imp fun v s1 w1 H1 l1 R1 q x n => ?_⟩
  cases e1 : rd s1 v with
  | none => simp only [e1] at q; exact q.elim
  | some d =>
    simp only [e1] at q
    have sn := n.read R1 e1
    cases d with
    | int i => exact ⟨i, seen_int sn, q w1 H1 (.refl w1) R1 _ rfl⟩
    | _ => exact q.elim
theorem ex_bin (ok : CtOk X g e W) {o : Operator} {ta tb : E} (ha : PE X a (tE e W (ev e.P ta))) (hb : PE X b (tE e W (ev e.P tb))) : PE X (.BinOp a o b pos) (tE e W (ev e.P (.bin o ta tb))) :=
  pe_mono (pe_op (op_bin ok.K o) ha hb) fun σ H Q h => run2_op (g := binD o) (by
    have e1 : ev e.P (.bin o ta tb) = run2 (binD o) (ev e.P ta) (ev e.P tb) := by funext s; rw [ev]; rfl
    rw [e1] at h
    exact h)
theorem cmp_run (o : CmpOp) (P : Pr) (ta tb : E) : ev P (.cmp o ta tb) = run2 (fun x y => (cmpD o x y).map fun k => (.bl k, false)) (ev P ta) (ev P tb) := by
  funext s
  rw [ev]
  unfold run2
  congr
  funext x s1
  congr
  funext y s2
  cases rd s2 x <;> cases rd s2 y <;> simp [Option.map_map, Function.comp_def]
theorem ex_cmp (ok : CtOk X g e W) {o : CmpOp} {ta tb : E} (ha : PE X a (tE e W (ev e.P ta))) (hb : PE X b (tE e W (ev e.P tb))) (hm : behindInMarks o b = false) : PE X (.Compare a [o] [b] pos) (tE e W (ev e.P (.cmp o ta tb))) :=
  pe_mono (pe_cmpR (op_cmp ok.K ok.un o) ha hb hm) fun σ H Q h => run2_op (by rw [cmp_run] at h; exact h)
/-! ### tests -/
theorem tests {t : E} (h : PE X a (tE e W (ev e.P t))) (ht : ∀ whole, isTrue a X.env whole = (do let v ← whole; standAt a.pos; holding [v] (truthy v))) (hK : X.K = e.K) : PT X a (tT e W (evt e.P t)) :=
  pt_mono (pt_truth h ht) fun σ H Q ⟨P, w, s, R, A⟩ => by
    unfold evt at A
    refine ⟨P, w, s, R, A.bind.imp fun v s1 w1 H1 l1 R1 q x n => ?_⟩
    unfold truthR at q
    obtain ⟨k, hk, q⟩ := q.of
    obtain ⟨d, h1, h2⟩ := Option.bind_eq_some_iff.mp hk
    exact ⟨k, by rw [hK]; exact seen_truth R1.g (n.read R1 h1) h2, q w1 H1 (.refl w1) R1⟩
theorem test_cmp (ok : CtOk X g e W) {o : CmpOp} {ta tb : E} (ha : PE X a (tE e W (ev e.P ta))) (hb : PE X b (tE e W (ev e.P tb))) (hm : behindInMarks o b = false) : PT X (.Compare a [o] [b] pos) (tT e W (evt e.P (.cmp o ta tb))) :=
  pt_mono (pt_cmpR (op_cmp ok.K ok.un o) ha hb hm) fun σ H Q ⟨P, w, s, R, A⟩ => by
    refine run2_op (g := fun x y => (cmpD o x y).map fun k => (.bl k, false)) ⟨P, w, s, R, ?_⟩
    unfold evt at A
    rw [cmp_run] at A
    refine A.bind.impE fun v s1 w1 H1 eq l1 R1 q x n => ?_
    obtain ⟨x1, s2, _, eq⟩ := bind_ok eq
    obtain ⟨y1, s3, _, eq⟩ := bind_ok eq
    have hv : ∃ k, v = .val (.bl k) false := by
      revert eq
      cases rd s3 x1 <;> cases rd s3 y1 <;> intro eq <;> try cases eq
      rename_i dx dy
      unfold PyE.R.of at eq
      cases hc : cmpD o dx dy with
      | none => simp only [hc, Option.map_none] at eq; cases eq
      | some k => simp only [hc, Option.map_some] at eq; cases eq; exact ⟨k, rfl⟩
    obtain ⟨k, rfl⟩ := hv
    exact ⟨k, n, q w1 H1 (.refl w1) R1⟩
theorem of_ok {α : Type} {o : Option α} {s s' : S} {x : α} (h : R.of o s = .ok x s') : o = some x ∧ s = s' := by
  cases o with
  | none => cases h
  | some y => cases h; exact ⟨rfl, rfl⟩
theorem chain_bl {P : Pr} {o o' : CmpOp} {ta tb tc : E} {s s' : S} {v : Rv} (h : ev P (.chain o o' ta tb tc) s = .ok v s') : ∃ k, v = .val (.bl k) false := by
  rw [ev] at h
  obtain ⟨x1, s1, _, h⟩ := bind_ok h
  obtain ⟨y1, s2, _, h⟩ := bind_ok h
  revert h
  cases rd s2 x1 <;> cases rd s2 y1 <;> intro h <;> try cases h
  obtain ⟨k, s3, h1, h⟩ := bind_ok h
  cases k with
  | false => cases h; exact ⟨_, rfl⟩
  | true =>
    obtain ⟨z, s4, _, h⟩ := bind_ok h
    revert h
    cases rd s4 y1 <;> cases rd s4 z <;> intro h <;> try cases h
    obtain ⟨h, _⟩ := of_ok h
    obtain ⟨k, _, h⟩ := Option.map_eq_some_iff.mp h
    exact ⟨k, h.symm⟩
/-- the second comparison of a chain -/
theorem ex_chain (ok : CtOk X g e W) {o o' : CmpOp} {ta tb tc : E} (ha : PE X a (tE e W (ev e.P ta))) (hb : PE X b (tE e W (ev e.P tb))) (hc : PE X c (tE e W (ev e.P tc))) (hm : lastMarks [o, o'] [b, c] = false) :
    PE X (.Compare a [o, o'] [b, c] pos) (tE e W (ev e.P (.chain o o' ta tb tc))) ∧ PT X (.Compare a [o, o'] [b, c] pos) (tT e W (evt e.P (.chain o o' ta tb tc))) := by
  have core : ∀ σ H Q, tE e W (ev e.P (.chain o o' ta tb tc)) σ H Q → tChain (rCmp e (cmpD o)) (rCmp e (cmpD o')) (tE e W (ev e.P ta)) (tE e W (ev e.P tb)) (tE e W (ev e.P tc)) σ H Q := fun σ H Q ⟨P, w, s, R, A⟩ => by
    rw [ev] at A
    refine ⟨P, w, s, R, A.bind.imp fun v s1 w1 H1 l1 R1 q x n => ?_⟩
    obtain ⟨w2, l2, R2, hv⟩ := n.hold R1
    have q := q.mono l2
    refine ⟨P, w2, s1, R2, After.imp (After.bind q) fun u s3 w3 H3 l3 R3 q y n3 => ?_⟩
    obtain ⟨w4, l4, R4, hu⟩ := n3.hold R3
    have q := q.mono l4
    have hv4 := (hv.mono l3).mono l4
    cases e1 : rd s3 v with
    | none => simp only [e1] at q; exact q.elim
    | some dx =>
      cases e2 : rd s3 u with
      | none => simp only [e1, e2] at q; exact q.elim
      | some dy =>
        simp only [e1, e2] at q
        cases hk : cmpD o dx dy with
        | none => rw [hk] at q; exact q.elim
        | some k =>
          rw [hk] at q
          refine ⟨w4, dx, dy, .bl k, false, R4.g, hv4.read R4 e1, hu.read R4 e2, by show (cmpD o dx dy).map _ = _; rw [hk]; rfl, fun z H' nr => ?_⟩
          rcases nr with ⟨rfl, _, rz⟩ | ⟨a, ob, _, _, _, r, _⟩
          · have hz : z = .bl k := rz
            subst hz
            refine ⟨k, rfl, ?_⟩
            cases k with
            | true =>
              rw [if_pos rfl]
              change After e _ P w4 σ ((ev e.P tc s3).bind _) _ at q
              refine ⟨P, w4, s3, R4, After.imp (After.bind q) fun t5 s5 w5 H5 l5 R5 q x5 n5 => ?_⟩
              obtain ⟨w6, l6, R6, ht⟩ := n5.hold R5
              have q := q.mono l6
              have hu6 := (hu.mono l5).mono l6
              cases e3 : rd s5 u with
              | none => simp only [e3] at q; exact q.elim
              | some dy' =>
                cases e4 : rd s5 t5 with
                | none => simp only [e3, e4] at q; exact q.elim
                | some dz =>
                  simp only [e3, e4] at q
                  obtain ⟨rv, hr, q⟩ := q.of
                  obtain ⟨k', h1, h2⟩ := Option.map_eq_some_iff.mp hr
                  subst h2
                  refine ⟨w6, dy', dz, .bl k', false, R6.g, hu6.read R6 e3, ht.read R6 e4, by show (cmpD o' dy' dz).map _ = _; rw [h1]; rfl, fun z H' nr => ?_⟩
                  rcases nr with ⟨rfl, _, rz⟩ | ⟨_, _, _, _, _, r, _⟩
                  · exact q w6 H' (.refl w6) R6 z rz
                  · exact r.elim
            | false =>
              rw [if_neg (fun z => nomatch z)]
              exact q w4 H' (.refl w4) R4 _ rfl
          · exact r.elim
  refine ⟨pe_mono (pe_chain (op_cmp ok.K ok.un o) (op_cmp ok.K ok.un o') ha hb hc hm) core, pt_mono (pt_chain (op_cmp ok.K ok.un o) (op_cmp ok.K ok.un o') ha hb hc hm) fun σ H Q ⟨P, w, s, R, A⟩ => core σ H _ ⟨P, w, s, R, ?_⟩⟩
  unfold evt at A
  refine A.bind.impE fun v s1 w1 H1 eq l1 R1 q x n => ?_
  have hv := chain_bl eq
  obtain ⟨k, rfl⟩ := hv
  exact ⟨k, n, q w1 H1 (.refl w1) R1⟩

/-! ### not, and, or, if .. else -/
theorem bind_assoc {α β γ : Type} (r : R α) (f : α → S → R β) (k : β → S → R γ) : (r.bind f).bind k = r.bind fun x s => (f x s).bind k := by
  cases r <;> rfl
theorem ex_not (ok : CtOk X g e W) {t : E} (h : PE X a (tE e W (ev e.P t))) : PE X (.UnaryOp .Not a pos) (tE e W (ev e.P (.not t))) := pe_mono (pe_notT h) fun σ H Q ⟨P, w, s, R, A⟩ => by
  rw [ev] at A
  refine ⟨P, w, s, R, After.imp (After.bind (After.bind A)) fun v s1 w1 H1 l1 R1 q x n => ?_⟩
  unfold truthR at q
  obtain ⟨k, hk, q⟩ := After.of q
  obtain ⟨d, h1, h2⟩ := Option.bind_eq_some_iff.mp hk
  exact ⟨k, by rw [ok.K]; exact seen_truth R1.g (n.read R1 h1) h2, q w1 H1 (.refl w1) R1 w1 H1 (.refl w1) R1 _ rfl⟩
theorem test_not {t : E} (h : PT X a (tT e W (evt e.P t))) : PT X (.UnaryOp .Not a pos) (tT e W (evt e.P (.not t))) := pt_mono (pt_not h) fun σ H Q ⟨P, w, s, R, A⟩ => by
  unfold evt at A
  rw [ev] at A
  refine ⟨P, w, s, R, After.imp (After.bind (After.bind A)) fun k s1 w1 H1 l1 R1 q => ?_⟩
  have q := q w1 H1 (.refl w1) R1
  exact q w1 H1 (.refl w1) R1
theorem ex_ite {c : Expr} {tc ta tb : E} (hc : PT X c (tT e W (evt e.P tc))) (ha : PE X a (tE e W (ev e.P ta))) (hb : PE X b (tE e W (ev e.P tb))) : PE X (.IfExp c a b pos) (tE e W (ev e.P (.ite tc ta tb))) :=
  pe_mono (pe_ifExp hc ha hb) fun σ H Q ⟨P, w, s, R, A⟩ => by
    rw [ev] at A
    refine ⟨P, w, s, R, After.imp (After.bind A) fun k s1 w1 H1 l1 R1 q => ?_⟩
    cases k with
    | true => rw [if_pos rfl]; exact ⟨P, w1, s1, R1, q⟩
    | false => rw [if_neg (fun z => nomatch z)]; exact ⟨P, w1, s1, R1, q⟩
theorem test_ite {c : Expr} {tc ta tb : E} (hc : PT X c (tT e W (evt e.P tc))) (ha : PT X a (tT e W (evt e.P ta))) (hb : PT X b (tT e W (evt e.P tb))) : PT X (.IfExp c a b pos) (tT e W (evt e.P (.ite tc ta tb))) := by
  refine ⟨fun pins s σ H Q I h => ?_⟩
  have h : tT e W (evt e.P tc) σ H fun k H1 => if k = true then tT e W (evt e.P ta) σ H1 Q else tT e W (evt e.P tb) σ H1 Q := by
    obtain ⟨P, w, s, R, A⟩ := h
    unfold evt at A
    rw [ev, bind_assoc] at A
    refine ⟨P, w, s, R, After.imp (After.bind A) fun k s1 w1 H1 l1 R1 q => ?_⟩
    cases k with
    | true => rw [if_pos rfl]; exact ⟨P, w1, s1, R1, q⟩
    | false => rw [if_neg (fun z => nomatch z)]; exact ⟨P, w1, s1, R1, q⟩
  refine isTrue_IfExp (thn (hc.run pins s σ H _ I h) fun k s1 ⟨H1, J, q⟩ => ?_)
  cases k with
  | true => exact ha.run pins s1 σ H1 Q J q
  | false => exact hb.run pins s1 σ H1 Q J q
/-- a and b and ..: by its parts -/
inductive Parts (X : Cx) (e : En) (W : WX) : List Expr → List E → Prop
  | nil : Parts X e W [] []
  | cons {a : Expr} {t : E} {as : List Expr} {ts : List E} : PE X a (tE e W (ev e.P t)) → PT X a (tT e W (evt e.P t)) → Parts X e W as ts → Parts X e W (a :: as) (t :: ts)
theorem and_again (F : S → R Bool) (v : Rv) (s : S) : (truthR v s).bind (fun b s => if b = true then F s else truthR v s) = (truthR v s).bind fun b s => if b = true then F s else .ok false s := by
  unfold truthR
  cases h : (rd s v).bind D.truth with
  | none => rfl
  | some b => cases b <;> simp [PyE.R.of, R.bind, h]
theorem or_again (F : S → R Bool) (v : Rv) (s : S) : (truthR v s).bind (fun b s => if b = true then truthR v s else F s) = (truthR v s).bind fun b s => if b = true then .ok true s else F s := by
  unfold truthR
  cases h : (rd s v).bind D.truth with
  | none => rfl
  | some b => cases b <;> simp [PyE.R.of, R.bind, h]
theorem bind_ite {α β : Type} (c : Bool) (a b : R α) (f : α → S → R β) : (if c = true then a else b).bind f = if c = true then a.bind f else b.bind f := by cases c <;> rfl
theorem ex_and (ok : CtOk X g e W) : ∀ {as : List Expr} {ts : List E}, Parts X e W as ts → ts ≠ [] → PE X (.BoolOp .And as pos) (tE e W (evAnd e.P ts)) ∧ PW X (.BoolOp .And as pos) (tT e W fun s => (evAnd e.P ts s).bind truthR)
  | _, _, .nil, h => absurd rfl h
  | _, _, .cons (t := t) h1 h2 .nil, _ => by
    have e1 : evAnd e.P [t] = ev e.P t := by funext s; rw [evAnd]
    rw [e1]
    exact ⟨pe_one h1, pw_and1 h2⟩
  | _, _, .cons (t := t) h1 h2 (.cons (t := t2) (ts := ts) h3 h4 hr), _ => by
    have e1 : evAnd e.P (t :: t2 :: ts) = fun s => (ev e.P t s).bind fun v s => (truthR v s).bind fun b s => if b = true then evAnd e.P (t2 :: ts) s else .ok v s := by
      funext s
      rw [evAnd]
      simp
    have e2 : (fun s => (evAnd e.P (t :: t2 :: ts) s).bind truthR) = fun s => (evt e.P t s).bind fun b s => if b = true then (evAnd e.P (t2 :: ts) s).bind truthR else .ok false s := by
      funext s
      rw [e1]
      unfold evt
      simp only [bind_assoc, bind_ite]
      congr
      funext v s
      exact and_again _ v s
    obtain ⟨i1, i2⟩ := ex_and ok (.cons h3 h4 hr) (by simp)
    rw [e2, e1]
    refine ⟨pe_mono (pe_andT h1 i1) fun σ H Q ⟨P, w, s, R, A⟩ => ?_, pw_mono (pw_and h2 i2) fun σ H Q ⟨P, w, s, R, A⟩ => ?_⟩
    · refine ⟨P, w, s, R, After.imp (After.bind A) fun v s1 w1 H1 l1 R1 q x n => ?_⟩
      cases hk : (rd s1 v).bind D.truth with
      | none => unfold truthR at q; rw [hk] at q; exact q.elim
      | some k =>
        obtain ⟨d, h5, h6⟩ := Option.bind_eq_some_iff.mp hk
        unfold truthR at q
        rw [hk] at q
        refine ⟨k, by rw [ok.K]; exact seen_truth R1.g (n.read R1 h5) h6, ?_⟩
        cases k with
        | true => exact ⟨P, w1, s1, R1, q⟩
        | false => exact q w1 H1 (.refl w1) R1 x n
    · refine ⟨P, w, s, R, After.imp (After.bind A) fun b s1 w1 H1 l1 R1 q => ?_⟩
      cases b with
      | true => exact ⟨P, w1, s1, R1, q⟩
      | false => exact q w1 H1 (.refl w1) R1
theorem ex_or (ok : CtOk X g e W) : ∀ {as : List Expr} {ts : List E}, Parts X e W as ts → ts ≠ [] → PE X (.BoolOp .Or as pos) (tE e W (evOr e.P ts)) ∧ PW X (.BoolOp .Or as pos) (tT e W fun s => (evOr e.P ts s).bind truthR)
  | _, _, .nil, h => absurd rfl h
  | _, _, .cons (t := t) h1 h2 .nil, _ => by
    have e1 : evOr e.P [t] = ev e.P t := by funext s; rw [evOr]
    rw [e1]
    exact ⟨pe_one h1, pw_or1 h2⟩
  | _, _, .cons (t := t) h1 h2 (.cons (t := t2) (ts := ts) h3 h4 hr), _ => by
    have e1 : evOr e.P (t :: t2 :: ts) = fun s => (ev e.P t s).bind fun v s => (truthR v s).bind fun b s => if b = true then .ok v s else evOr e.P (t2 :: ts) s := by
      funext s
      rw [evOr]
      simp
    have e2 : (fun s => (evOr e.P (t :: t2 :: ts) s).bind truthR) = fun s => (evt e.P t s).bind fun b s => if b = true then .ok true s else (evOr e.P (t2 :: ts) s).bind truthR := by
      funext s
      rw [e1]
      unfold evt
      simp only [bind_assoc, bind_ite]
      congr
      funext v s
      exact or_again _ v s
    obtain ⟨i1, i2⟩ := ex_or ok (.cons h3 h4 hr) (by simp)
    rw [e2, e1]
    refine ⟨pe_mono (pe_orT h1 i1) fun σ H Q ⟨P, w, s, R, A⟩ => ?_, pw_mono (pw_or h2 i2) fun σ H Q ⟨P, w, s, R, A⟩ => ?_⟩
    · refine ⟨P, w, s, R, After.imp (After.bind A) fun v s1 w1 H1 l1 R1 q x n => ?_⟩
      cases hk : (rd s1 v).bind D.truth with
      | none => unfold truthR at q; rw [hk] at q; exact q.elim
      | some k =>
        obtain ⟨d, h5, h6⟩ := Option.bind_eq_some_iff.mp hk
        unfold truthR at q
        rw [hk] at q
        refine ⟨k, by rw [ok.K]; exact seen_truth R1.g (n.read R1 h5) h6, ?_⟩
        cases k with
        | true => exact q w1 H1 (.refl w1) R1 x n
        | false => exact ⟨P, w1, s1, R1, q⟩
    · refine ⟨P, w, s, R, After.imp (After.bind A) fun b s1 w1 H1 l1 R1 q => ?_⟩
      cases b with
      | true => exact q w1 H1 (.refl w1) R1
      | false => exact ⟨P, w1, s1, R1, q⟩
end
end PyE
end
section
set_option linter.all false
set_option autoImplicit false
set_option maxRecDepth 100000
set_option maxHeartbeats 1000000
/-! PyEx2: subscripts, calls, methods, isinstance. -/
namespace PyE
open PySem PySem.Spec PyProof.Rows L2

section
variable {X : Cx} {g : Ct} {e : En} {W : WX} {a b c : Expr} {es : List Expr} {pos p p2 : Pos}
/-- no slice -/
def noSlice : Expr → Bool
  | .Slice _ _ _ _ => false
  | _ => true
theorem plainIx_of (h : noSlice b = true) : PlainIx b := fun o i => by
  cases b <;> first | rfl | cases h
theorem ex_sub (ok : CtOk X g e W) {ta tb : E} (ha : PE X a (tE e W (ev e.P ta))) (hb : PE X b (tE e W (ev e.P tb))) (hs : noSlice b = true) : PE X (.Subscript a b pos) (tE e W (ev e.P (.sub ta tb))) :=
  pe_mono (pe_ix (ix_sub ok.K (Nat.lt_of_le_of_lt (Nat.add_le_add_left (by decide) _) ok.un)) ha hb (plainIx_of hs)) fun σ H Q h => run2_op (g := fun x y => (subD x y).map fun d => (d, false)) (by
    have e1 : ev e.P (.sub ta tb) = run2 (fun x y => (subD x y).map fun d => (d, false)) (ev e.P ta) (ev e.P tb) := by
      funext s
      rw [ev]
      unfold run2
      congr
      funext x s1
      congr
      funext y s2
      cases rd s2 x <;> cases rd s2 y <;> simp [Option.map_map, Function.comp_def]
    rw [e1] at h
    exact h)
/-- a slice's part -/
def tO (e : En) (W : WX) (f : S → R (Option D)) : TO := fun σ H Q => ∃ P w s, e.rel P w s σ H ∧ After e (fun c d H => W c d σ H) P w σ (f s) (fun d s' w' H' => ∀ o, partD d = some o → Q o H')
theorem po_mono {o : Option Expr} {t t' : TO} (h : PO X o t) (k : ∀ σ H Q, t' σ H Q → t σ H Q) : PO X o t' := ⟨fun pins s σ H Q I q => h.run pins s σ H Q I (k σ H Q q)⟩
theorem ex_po_none : PO X none (tO e W (evo e.P none)) := po_mono po_none fun σ H Q ⟨P, w, s, R, A⟩ => by
  rw [evo] at A
  exact A w H (.refl w) R none rfl
theorem ex_po_some {t : E} (h : PE X a (tE e W (ev e.P t))) : PO X (some a) (tO e W (evo e.P (some t))) := po_mono (po_some h) fun σ H Q ⟨P, w, s, R, A⟩ => by
  rw [evo] at A
  refine ⟨P, w, s, R, A.bind.imp fun v s1 w1 H1 l1 R1 q x n => ?_⟩
  cases v with
  | loc i => exact q.elim
  | val d fr =>
    cases d with
    | int i =>
      cases fr with
      | false => exact ⟨i, n, q w1 H1 (.refl w1) R1 _ rfl⟩
      | true => obtain ⟨⟨_, o, _, _, r, _⟩, _⟩ := n; exact r.elim
    | _ => exact q.elim
theorem ex_sli {ta : E} {lo hi : Option Expr} {tl th : Option E} (ha : PE X a (tE e W (ev e.P ta))) (hl : PO X lo (tO e W (evo e.P tl))) (hh : PO X hi (tO e W (evo e.P th))) : PE X (.Subscript a (.Slice lo hi none p2) pos) (tE e W (ev e.P (.sli ta tl th))) :=
  pe_mono (pe_slice sl_data ha hl hh) fun σ H Q ⟨P, w, s, R, A⟩ => by
    rw [ev] at A
    refine ⟨P, w, s, R, A.bind.imp fun v s1 w1 H1 l1 R1 q x n => ?_⟩
    obtain ⟨w2, l2, R2, hv⟩ := n.hold R1
    have q := q.mono l2
    refine ⟨P, w2, s1, R2, After.imp (After.bind q) fun dl s3 w3 H3 l3 R3 q o1 ho1 => ?_⟩
    refine ⟨P, w3, s3, R3, After.imp (After.bind q) fun dh s4 w4 H4 l4 R4 q o2 ho2 => ?_⟩
    have hv4 := (hv.mono l3).mono l4
    cases e1 : rd s4 v with
    | none => simp only [e1] at q; exact q.elim
    | some dx =>
      simp only [e1, ho1, ho2] at q
      obtain ⟨rv, hr, q⟩ := q.of
      obtain ⟨pr, h1, h2⟩ := Option.map_eq_some_iff.mp hr
      subst h2
      refine ⟨w4, dx, pr.1, pr.2, R4.g, hv4.read R4 e1, h1, fun z H' nr => ?_⟩
      obtain ⟨w5, l5, R5, nz⟩ := nr.now R4
      exact q w5 H' l5 R5 z nz
theorem ex_rev {ta : E} {k : Nat} {p1 p3 p4 : Pos} (ha : PE X a (tE e W (ev e.P ta))) : PE X (.Subscript a (.Slice none none (some (.UnaryOp .USub (.Constant (.int 1) k p1) p3)) p4) pos) (tE e W (ev e.P (.rev ta))) :=
  pe_mono (pe_revL ha) fun σ H Q ⟨P, w, s, R, A⟩ => by
    rw [ev] at A
    refine ⟨P, w, s, R, A.bind.imp fun v s1 w1 H1 l1 R1 q x n => ?_⟩
    obtain ⟨rv, hr, q⟩ := q.of
    obtain ⟨pr, h1, h2⟩ := Option.map_eq_some_iff.mp hr
    subst h2
    obtain ⟨d, h3, h4⟩ := Option.bind_eq_some_iff.mp h1
    unfold revD at h4
    split at h4
    · rename_i ds
      cases h4
      obtain ⟨a1, xs, rfl, s2, r1⟩ := seen_lst R1.g (n.read R1 h3)
      obtain ⟨w2, l2, R2, hv⟩ := n.hold R1
      refine ⟨a1, xs, rfl, .of s2, fun p hp => ?_⟩
      obtain ⟨w3, l3, R3, nz⟩ := NewR.now (d := .lst ds.reverse) (fr := true) R2 (.inr ⟨p, _, rfl, hp, rfl, ⟨_, rfl, (r1.mono l2).reverse⟩, fun _ => trivial⟩)
      exact q w3 _ (l2.trans l3) R3 _ nz
    · cases h4

/-! ### calls -/
theorem bif_row {x : Str} {f : Bif} (h : bifOf x = some f) : x ∈ bltAll ∧ x ≠ "__name__" ∧ (x == ("__debug__" : Str)) = false ∧ bootBuiltins x = some (bifVal f) ∧ f ∈ [Bif.len, .int, .list, .tuple, .sorted, .str, .repr, .all, .any, .sum, .max, .min, .dict] := by
  unfold bifOf at h
  by_cases hx : x = "len"
  · rw [if_pos hx] at h; cases h; subst hx; decide +kernel
  rw [if_neg hx] at h; clear hx
  by_cases hx : x = "int"
  · rw [if_pos hx] at h; cases h; subst hx; decide +kernel
  rw [if_neg hx] at h; clear hx
  by_cases hx : x = "list"
  · rw [if_pos hx] at h; cases h; subst hx; decide +kernel
  rw [if_neg hx] at h; clear hx
  by_cases hx : x = "tuple"
  · rw [if_pos hx] at h; cases h; subst hx; decide +kernel
  rw [if_neg hx] at h; clear hx
  by_cases hx : x = "sorted"
  · rw [if_pos hx] at h; cases h; subst hx; decide +kernel
  rw [if_neg hx] at h; clear hx
  by_cases hx : x = "str"
  · rw [if_pos hx] at h; cases h; subst hx; decide +kernel
  rw [if_neg hx] at h; clear hx
  by_cases hx : x = "repr"
  · rw [if_pos hx] at h; cases h; subst hx; decide +kernel
  rw [if_neg hx] at h; clear hx
  by_cases hx : x = "all"
  · rw [if_pos hx] at h; cases h; subst hx; decide +kernel
  rw [if_neg hx] at h; clear hx
  by_cases hx : x = "any"
  · rw [if_pos hx] at h; cases h; subst hx; decide +kernel
  rw [if_neg hx] at h; clear hx
  by_cases hx : x = "sum"
  · rw [if_pos hx] at h; cases h; subst hx; decide +kernel
  rw [if_neg hx] at h; clear hx
  by_cases hx : x = "max"
  · rw [if_pos hx] at h; cases h; subst hx; decide +kernel
  rw [if_neg hx] at h; clear hx
  by_cases hx : x = "min"
  · rw [if_pos hx] at h; cases h; subst hx; decide +kernel
  rw [if_neg hx] at h; clear hx
  by_cases hx : x = "dict"
  · rw [if_pos hx] at h; cases h; subst hx; decide +kernel
  rw [if_neg hx] at h; clear hx
  cases h
theorem ex_bif (ok : CtOk X g e W) {x : Str} {f : Bif} {t : E} {ts : List E} (h1 : bifOf x = some f) (hg : globB g.sc x = true) (hs : (a :: es).all noStar = true) (h : PA X (a :: es) (tL e W (evr e.P (t :: ts)))) : PE X (.Call (.Name x p) (a :: es) [] pos) (tE e W (ev e.P (.bif f (t :: ts)))) := by
  obtain ⟨b1, b2, b3, b4, b5⟩ := bif_row h1
  have gl := glob_of ok.sc hg
  have mn := ok.blt x b1
  rw [List.all_cons, Bool.and_eq_true] at hs
  have core : ∀ σ H Q, tE e W (ev e.P (.bif f (t :: ts))) σ H Q → tCB (rDs e (bifD f)) (tL e W (evr e.P (t :: ts))) σ H Q := fun σ H Q ⟨P, w, s, R, A⟩ => by
    rw [ev] at A
    refine ⟨P, w, s, R, A.bind.imp fun vs s1 w1 H1 l1 R1 q xs r => ?_⟩
    obtain ⟨rv, hr, q⟩ := q.of
    obtain ⟨pr, h1, h2⟩ := Option.map_eq_some_iff.mp hr
    subst h2
    obtain ⟨ds, h3, h4⟩ := Option.bind_eq_some_iff.mp h1
    refine ⟨w1, ds, pr.1, pr.2, R1.g, helds_read R1 r h3, h4, fun z H' nr => ?_⟩
    obtain ⟨w2, l2, R2, nz⟩ := nr.now R1
    exact q w2 H' l2 R2 z nz
  have fn : ∀ {id : String}, bifVal f = .builtin id → CallR X (.builtin id) (rDs e (bifD f)) → PE X (.Call (.Name x p) (a :: es) [] pos) (tE e W (ev e.P (.bif f (t :: ts)))) := fun {id} hv hc =>
    pe_mono (pe_callB hc gl mn (by rw [b4, hv]) h b2 b3 (star_cons hs.1 es X.env) (star_none pos X.env hs.2)) core
  have ty : ∀ {T : String}, bifVal f = .type T → CallR X (.type T) (rDs e (bifD f)) → PE X (.Call (.Name x p) (a :: es) [] pos) (tE e W (ev e.P (.bif f (t :: ts)))) := fun {id} hv hc =>
    pe_mono (pe_callTy hc gl mn (by rw [b4, hv]) h b2 b3 (star_cons hs.1 es X.env) (star_none pos X.env hs.2)) core
  cases f with
  | len => exact fn rfl (bif_len ok.K)
  | int => exact ty rfl bif_int
  | list => exact ty rfl (bif_list ok.K)
  | tuple => exact ty rfl (bif_tuple ok.K)
  | sorted => exact fn rfl (bif_sorted ok.K ok.un)
  | str => exact ty rfl bif_str
  | repr => exact fn rfl (bif_repr ok.K ok.un ok.gu)
  | all => exact fn rfl (bif_all ok.K ok.calm)
  | any => exact fn rfl (bif_any ok.K ok.calm)
  | sum => exact fn rfl (bif_sum ok.calm)
  | max => exact fn rfl (bif_max ok.calm)
  | min => exact fn rfl (bif_min ok.calm)
  | dict => exact ty rfl bif_dict
  | _ => simp at b5
/-- a def's call -/
theorem ex_call (ok : CtOk X g e W) {f : Str} {ts : List E} (h1 : okName f = true) (h2 : globB g.sc f = true) (h3 : f ∈ g.fns) (hs : es.all noStar = true) (h : PA X es (tK e W (evs e.P ts))) (h0 : es = [] → ts = []) : PE X (.Call (.Name f p) es [] pos) (tE e W (ev e.P (.call f ts))) := by
  obtain ⟨fa, hm, F, hk⟩ := ok.fns f h3
  have core : ∀ (s : S), ev e.P (.call f ts) s = (evs e.P ts s).bind fun ds s => (e.P.call f ds s.st).into s := fun s => by rw [ev]
  cases es with
  | nil =>
    cases h0 rfl
    refine pe_mono (pe_callG0 F ok.gu ok.tk (glob_of ok.sc h2) hm hk (okName_d h1).1) fun σ H Q ⟨P, w, s, R, A⟩ => ?_
    rw [core, evs] at A
    exact ⟨P, w, s, [], R, rfl, A⟩
  | cons a es =>
    refine pe_mono (pe_callG F ok.gu ok.tk (glob_of ok.sc h2) hm hk h hs (okName_d h1).1) fun σ H Q ⟨P, w, s, R, A⟩ => ?_
    rw [core] at A
    exact ⟨P, w, s, R, A.bind.imp fun ds s1 w1 H1 l1 R1 q xs r => ⟨P, w1, s1, ds, R1, r, q⟩⟩

/-! ### methods -/
theorem metOf_name {x : Str} {m : Met} (h : metOf x = some m) : metName m = x := by
  unfold metOf at h
  by_cases hx : x = "append"
  · rw [if_pos hx] at h; cases h; exact hx.symm
  rw [if_neg hx] at h; clear hx
  by_cases hx : x = "extend"
  · rw [if_pos hx] at h; cases h; exact hx.symm
  rw [if_neg hx] at h; clear hx
  by_cases hx : x = "pop"
  · rw [if_pos hx] at h; cases h; exact hx.symm
  rw [if_neg hx] at h; clear hx
  by_cases hx : x = "insert"
  · rw [if_pos hx] at h; cases h; exact hx.symm
  rw [if_neg hx] at h; clear hx
  by_cases hx : x = "index"
  · rw [if_pos hx] at h; cases h; exact hx.symm
  rw [if_neg hx] at h; clear hx
  by_cases hx : x = "get"
  · rw [if_pos hx] at h; cases h; exact hx.symm
  rw [if_neg hx] at h; clear hx
  by_cases hx : x = "isascii"
  · rw [if_pos hx] at h; cases h; exact hx.symm
  rw [if_neg hx] at h; clear hx
  by_cases hx : x = "isalnum"
  · rw [if_pos hx] at h; cases h; exact hx.symm
  rw [if_neg hx] at h; clear hx
  by_cases hx : x = "isalpha"
  · rw [if_pos hx] at h; cases h; exact hx.symm
  rw [if_neg hx] at h; clear hx
  by_cases hx : x = "islower"
  · rw [if_pos hx] at h; cases h; exact hx.symm
  rw [if_neg hx] at h; clear hx
  by_cases hx : x = "upper"
  · rw [if_pos hx] at h; cases h; exact hx.symm
  rw [if_neg hx] at h; clear hx
  by_cases hx : x = "split"
  · rw [if_pos hx] at h; cases h; exact hx.symm
  rw [if_neg hx] at h; clear hx
  by_cases hx : x = "join"
  · rw [if_pos hx] at h; cases h; exact hx.symm
  rw [if_neg hx] at h; clear hx
  cases h
/-- a method's call behind its receiver -/
def metRest (P : Pr) (m : Met) (ts : List E) (x : Rv) (s : S) : R Rv := (R.of (((rd s x).bind D.ty).bind fun T => if T ∈ m.tys then some T else none) s).bind fun T s =>
    if m.calm then (evr P ts s).bind fun vs s => match rd s x, rds s vs with
        | some d, some ds => if d.ty = some T then R.of ((calmM m d ds).map fun p => Rv.val p.1 p.2) s else .stuck
        | _, _ => .stuck
      else (evs P ts s).bind fun ds s => match rd s x with
        | some d => if d.ty = some T then match mutM m d ds with
          | some (d', r) => (R.of (put x d' s) s).bind fun s' _ => .ok (.val r false) s'
          | none => .stuck
          else .stuck
        | none => .stuck
theorem met_ev (P : Pr) (m : Met) (ta : E) (ts : List E) (s : S) : ev P (.met m ta ts) s = (ev P ta s).bind (metRest P m ts) := by
  rw [ev]
  rfl
def metMid (e : En) (W : WX) (P : Hp) (σ : L2.St) (H0 : Hp) (Q : VK) (m : Met) (ts : List E) : VK := fun x H1 => ∃ v s1 w1, e.rel P w1 s1 σ H1 ∧ Now e.K e.mg P w1 s1 σ H1 v x ∧ After e (fun c d H => W c d σ H) P w1 σ (metRest e.P m ts v s1) (fun v s' w' H' => ∀ x, Now e.K e.mg P w' s' σ H' v x → Q x H')
theorem held_own {K : PySem.W.Frag} {mg : Str → Option Value} {P : Hp} {w : Wd} {s : S} {σ : L2.St} {H : Hp} {v : Rv} {x : V} {d : D} (R : Rel K mg P w s σ H) (h : Held K mg w σ v x) (e : rd s v = some d) : Seen K mg w H d x := h.read R e
theorem ex_met (ok : CtOk X g e W) {x : Str} {m : Met} {ta : E} {ts : List E} {ap cp : Pos} (hm : metOf x = some m) (ha : PE X a (tE e W (ev e.P ta)))
    (hc : m.calm = true → PA X es (tL e W (evr e.P ts))) (hk : m.calm = false → PA X es (tK e W (evs e.P ts))) (hs : es.all noStar = true) (hl : (ap.endLine == cp.line) = true) (hn : es.length < 30) (hb : plainBase a = true) (h0 : es = [] → ts = []) :
    PE X (.Call (.Attribute a x ap) es [] cp) (tE e W (ev e.P (.met m ta ts))) := by
  obtain rfl := metOf_name hm
  refine ⟨fun pins s σ H Q I h => ?_⟩
  have hbase : attributeBase a (metName m) X.env (eval a X.env) = eval a X.env := by
    unfold attributeBase
    split
    · cases hb
    · rfl
  have hfew : ((backTo cp (starEach es X.env)).all (fun x => !x.1) && (backToKw cp (keywordEach [] X.env)).all (fun x => x.1.isSome) && decide (es.length + ([] : List Keyword).length + (if ([] : List Keyword).isEmpty then 0 else 1) < 30)) = true := by
    rw [star_few cp X.env hs]
    simp [keywordEach, backToKw]
    exact hn
  obtain ⟨P, w, s, R, A⟩ := h
  rw [met_ev] at A
  refine wpAny_Call_method_late hbase hfew hl rfl (thn (ha.run pins _ σ H (metMid e W P σ H Q m ts) I ⟨P, w, s, R, A.bind.imp fun v s1 w1 H1 l1 R1 q x n => ⟨v, s1, w1, R1, n, q⟩⟩) fun u t1 ⟨y, H1, J, ru, v, s1, w1, R1, n, q⟩ => ?_)
  unfold metRest at q
  obtain ⟨T, hT, q⟩ := After.of (After.bind q)
  obtain ⟨T', hd, hT⟩ := Option.bind_eq_some_iff.mp hT
  obtain ⟨d, hr, hty⟩ := Option.bind_eq_some_iff.mp hd
  have hin : T ∈ m.tys := by
    split at hT
    · cases hT; assumption
    · cases hT
  have : T' = T := by
    split at hT
    · cases hT; rfl
    · cases hT
  subst this
  obtain ⟨w2, l2, R2, hv⟩ := n.hold R1
  obtain ⟨h1, h2⟩ := ty_seen J ok.K R1.g (n.read R1 hr) ru hty
  have q := q w2 H1 l2 R2
  have fin : ∀ {r : V → List V → Hp → VK → Prop} {tt : TA}, MtOk X T' (metName m) r → PA X es tt → tt σ H1 (fun xs H2 => r y xs H2 Q) → (es = [] → r y [] H1 Q) → MethodOn X.prog X.w X.A (metName m) cp u (backTo cp (starEach es X.env)) (EP X pins σ Q) X.xe t1 := fun {r tt} ⟨id, k1, k2, k3, k4⟩ hA hq hq0 => by
    refine ⟨T', id, k1, k2, k3, h1, h2, ?_⟩
    cases es with
    | nil =>
      exact Calls.callWith_builtin rfl (PySem.evalArgs_none (k4 pins t1 σ H1 y [] u [] Q J ru .nil (hq0 rfl)))
    | cons b bs =>
      rw [List.all_cons, Bool.and_eq_true] at hs
      have z := hA.run cp pins t1 σ H1 _ J hq
      rw [star_cons hs.1] at z ⊢
      refine Calls.callWith_builtin (by show (false || (backTo cp (starEach bs X.env)).any (·.1)) = false; rw [star_none cp X.env hs.2]; rfl) (Calls.evalArgs_plain ?_)
      exact thn z fun us s2 ⟨vs, H2, J2, r2, q2⟩ => k4 pins s2 σ H2 y vs u us Q J2 ru r2 q2
  cases hcm : m.calm with
  | true =>
    rw [hcm] at q
    have key : ∀ (vs : List Rv) (s3 : S) (w3 : Wd) (H3 : Hp) (xs : List V), w2.Le w3 → e.rel P w3 s3 σ H3 → Helds e.K e.mg w3 σ vs xs → After e (fun c d H => W c d σ H) P w3 σ (match rd s3 v, rds s3 vs with
        | some d, some ds => if d.ty = some T' then PyE.R.of ((calmM m d ds).map fun p => Rv.val p.1 p.2) s3 else .stuck
        | _, _ => .stuck) (fun v s' w' H' => ∀ x, Now e.K e.mg P w' s' σ H' v x → Q x H') → rMt e (calmM m) T' y xs H3 Q := fun vs s3 w3 H3 xs l3 R3 hx q => ?_
    · have q1 := q
      refine fin (mt_calm ok.K ok.un m T' hcm hin) (hc hcm) ⟨P, w2, s1, R2, After.imp (After.bind q) fun vs s3 w3 H3 l3 R3 q xs hx => key vs s3 w3 H3 xs l3 R3 hx q⟩ fun he => ?_
      rw [h0 he] at q1
      rw [if_pos rfl, evr] at q1
      exact key [] s1 w2 H1 [] (.refl w2) R2 .nil q1
    cases e1 : rd s3 v with
    | none => simp only [e1] at q; exact q.elim
    | some dx =>
      cases e2 : rds s3 vs with
      | none => simp only [e1, e2] at q; exact q.elim
      | some ds =>
        simp only [e1, e2] at q
        split at q
        · rename_i hty2
          obtain ⟨rv, hr, q⟩ := q.of
          obtain ⟨pr, h3, h4⟩ := Option.map_eq_some_iff.mp hr
          subst h4
          refine ⟨w3, dx, ds, pr.1, pr.2, R3.g, (hv.mono l3).read R3 e1, hty2, helds_read R3 hx e2, h3, fun z H' nr => ?_⟩
          obtain ⟨w4, l4, R4, nz⟩ := nr.now R3
          exact q w4 H' l4 R4 z nz
        · exact q.elim
  | false =>
    rw [hcm] at q
    have key : ∀ (ds : List D) (s3 : S) (w3 : Wd) (H3 : Hp) (xs : List V), w2.Le w3 → e.rel P w3 s3 σ H3 → RepVs e.K e.mg w3 ds xs → After e (fun c d H => W c d σ H) P w3 σ (match rd s3 v with
        | some d => if d.ty = some T' then match mutM m d ds with
          | some (d', r) => (PyE.R.of (put v d' s3) s3).bind fun s' _ => .ok (.val r false) s'
          | none => .stuck
          else .stuck
        | none => .stuck) (fun v s' w' H' => ∀ x, Now e.K e.mg P w' s' σ H' v x → Q x H') → rMut e (mutM m) T' y xs H3 Q := fun ds s3 w3 H3 xs l3 R3 hx q => ?_
    · have q1 := q
      refine fin (mt_mut m T' hcm hin) (hk hcm) ⟨P, w2, s1, R2, After.imp (After.bind q) fun ds s3 w3 H3 l3 R3 q xs hx => key ds s3 w3 H3 xs l3 R3 hx q⟩ fun he => ?_
      rw [h0 he] at q1
      rw [if_neg (fun z => nomatch z), evs] at q1
      exact key [] s1 w2 H1 [] (.refl w2) R2 rfl q1
    cases e1 : rd s3 v with
    | none => simp only [e1] at q; exact q.elim
    | some dx =>
      simp only [e1] at q
      split at q
      · rename_i hty2
        cases e2 : mutM m dx ds with
        | none => simp only [e2] at q; exact q.elim
        | some pr =>
          obtain ⟨d', r⟩ := pr
          simp only [e2] at q
          obtain ⟨s4, hp, q⟩ := After.of (After.bind q)
          obtain ⟨a0, o, rfl, h3, h4, h5, h6⟩ := put_at R3 (hv.mono l3) e1 hp
          refine ⟨w3, a0, o, dx, ds, d', r, R3.g, rfl, h3, h4, h5, hty2, hx, e2, fun z o' k1 k2 k3 => ?_⟩
          have q := q w3 H3 (.refl w3) R3
          exact q w3 _ (.refl w3) (h6 o' k1 k2) z k3
      · exact q.elim
end
end PyE
end
section
set_option linter.all false
set_option autoImplicit false
set_option maxRecDepth 100000
set_option maxHeartbeats 1000000
/-! PyEx3: isinstance, dict displays, objects of the store. -/
namespace PyE
open PySem PySem.Spec PyProof.Rows L2

section
variable {X : Cx} {g : Ct} {e : En} {W : WX} {a b c : Expr} {es : List Expr} {pos p p2 : Pos}
/-- a type's name as the model has it -/
def tyS : Str → String := fun x => x.toString
theorem kit_all : ∀ y ∈ ["NoneType", "bool", "int", "str", "tuple", "list", "dict"], ∀ t ∈ tyNames, kitB y (tyS t) = some (decide (Str.ofString y = t) || (decide (Str.ofString y = "bool") && decide (t = "int"))) := by decide +kernel
theorem ty_boot : ∀ t ∈ tyNames, bootBuiltins t = some (.type (tyS t)) ∧ t ≠ "__name__" ∧ (t == ("__debug__" : Str)) = false ∧ t ∈ bltAll := by decide +kernel
theorem tyx_seen {K : PySem.W.Frag} {mg : Str → Option Value} {w : Wd} {H : Hp} {d : D} {x : V} {y : Str} (hG : ∀ a o, w.G a = some o → H a = some o) (h : Seen K mg w H d x) (e : tyOf d = some y) : ∃ T : String, T ∈ ["NoneType", "bool", "int", "str", "tuple", "list", "dict"] ∧ y = Str.ofString T ∧ TyX K H x (.type T) := by
  cases d with
  | non => cases e; rw [seen_non h]; exact ⟨_, by decide, rfl, .base .non⟩
  | bl b => cases e; rw [seen_bl h]; exact ⟨_, by decide, rfl, .base (.bl b)⟩
  | int i => cases e; rw [seen_int h]; exact ⟨_, by decide, rfl, .base (.int i)⟩
  | str s => cases e; rw [(seen_str h).1]; exact ⟨_, by decide, rfl, .base (.str _)⟩
  | tup ds => cases e; obtain ⟨a, xs, rfl, s1, _⟩ := seen_tup hG h; exact ⟨_, by decide, rfl, .base (.tup s1)⟩
  | git ds =>
    cases e
    obtain ⟨a, xs, rfl, s1, _⟩ := seen_git hG h
    refine ⟨"tuple", by decide, rfl, ?_⟩
    rcases s1 with (s1 | ⟨o, s1⟩) | ⟨o, vs, n, h1, h2, _⟩
    · exact .base (.tup s1)
    · exact .fTuple s1
    · exact .kTuple h1 h2
  | lst ds => cases e; obtain ⟨a, xs, rfl, s1, _⟩ := seen_lst hG h; exact ⟨_, by decide, rfl, .base (.lst s1)⟩
  | giv ds =>
    cases e
    obtain ⟨a, xs, rfl, s1, _⟩ := seen_giv hG h
    refine ⟨"list", by decide, rfl, ?_⟩
    rcases s1 with (s1 | ⟨o, s1⟩) | ⟨o, vs, n, h1, h2, _⟩
    · exact .base (.lst s1)
    · exact .base (.frz s1)
    · exact .kList h1 h2
  | dct ds => cases e; obtain ⟨a, xs, rfl, s1, _⟩ := seen_dct hG h; exact ⟨_, by decide, rfl, .base (.dK s1)⟩
  | _ => cases e
theorem isiD_ty {st : List Ob} {d : D} {t : Str} {k : Bool} (h : isiD st d t = some k) : ∃ y, tyOf d = some y ∧ k = (decide (y = t) || (decide (y = "bool") && decide (t = "int"))) := by
  unfold isiD at h
  obtain ⟨y, h1, h2⟩ := Option.map_eq_some_iff.mp h
  exact ⟨y, h1, h2.symm⟩
theorem kit_any {K : PySem.W.Frag} {T : String} (hT : T ∈ ["NoneType", "bool", "int", "str", "tuple", "list", "dict"]) {st : List Ob} {d : D} (hd : tyOf d = some (Str.ofString T)) : ∀ {ts : List Str} {k : Bool}, (∀ t ∈ ts, t ∈ tyNames) → isiAll st d ts = some k → PySem.W.kitAny K (.type T) (ts.map fun t => Value.type (tyS t)) = some k
  | [], _, _, h => by cases h; exact kitAny_nil
  | t :: ts, k, hin, h => by
    unfold isiAll at h
    obtain ⟨b, h1, h⟩ := Option.bind_eq_some_iff.mp h
    obtain ⟨c, h2, rfl⟩ := Option.map_eq_some_iff.mp h
    obtain ⟨y, h3, rfl⟩ := isiD_ty h1
    rw [hd] at h3
    cases h3
    have ih := kit_any (K := K) hT hd (fun t' ht' => hin t' (List.mem_cons_of_mem _ ht')) h2
    refine kitAny_cons (kit_ty (kit_all T hT t (hin t List.mem_cons_self))) (fun hb => ?_) fun hb => ?_
    · rw [ih, hb]; rfl
    · rw [hb]; rfl
theorem classOf_at {g : Ct} {a : Expr} {t : Str} (h : classOf g a = some t) : ∃ p, a = .Name t p ∧ okName t = true ∧ globB g.sc t = true ∧ t ∈ tyNames := by
  unfold classOf at h
  split at h
  · split at h
    · rename_i h1
      cases h
      rw [Bool.and_eq_true, Bool.and_eq_true] at h1
      exact ⟨_, rfl, h1.1.1, h1.1.2, by simpa using h1.2⟩
    · cases h
  · cases h
theorem ex_cls (ok : CtOk X g e W) {t : Str} (h : classOf g a = some t) : PE X a (tC (.ty (tyS t))) := by
  obtain ⟨p, rfl, h1, h2, h3⟩ := classOf_at h
  obtain ⟨b1, b2, b3, b4⟩ := ty_boot t h3
  exact pe_bltn (glob_of ok.sc h2) (ok.blt t b4) b1 rfl b2 b3
/-- several classes -/
def tVs (vs : List V) : TA := fun _ H Q => Q vs H
theorem ex_clss (ok : CtOk X g e W) : ∀ {as : List Expr} {ts : List Str}, mapO (classOf g) as = some ts → PA X as (tVs (ts.map fun t => .ty (tyS t))) ∧ (∀ t ∈ ts, t ∈ tyNames) ∧ ts.length = as.length
  | [], ts, h => by cases h; exact ⟨pa_nil, (fun t ht => absurd ht List.not_mem_nil), rfl⟩
  | a :: as, ts, h => by
    unfold mapO at h
    obtain ⟨t, h1, h⟩ := Option.bind_eq_some_iff.mp h
    obtain ⟨rs, h2, rfl⟩ := Option.map_eq_some_iff.mp h
    obtain ⟨i1, i2, i3⟩ := ex_clss ok h2
    obtain ⟨p, rfl, k1, k2, k3⟩ := classOf_at h1
    refine ⟨pa_mono (pa_cons (ex_cls ok h1) i1 (star_cons rfl as X.env)) fun σ H Q q => q, fun t' ht' => ?_, by simp [i3]⟩
    rcases List.mem_cons.mp ht' with rfl | ht'
    · exact k3
    · exact i2 t' ht'
theorem isi_ty {st : List Ob} {d : D} {ts : List Str} {k : Bool} (h : isiAll st d ts = some k) (hn : ts ≠ []) : ∃ y, tyOf d = some y := by
  cases ts with
  | nil => exact absurd rfl hn
  | cons t ts =>
    unfold isiAll at h
    obtain ⟨b, h1, h⟩ := Option.bind_eq_some_iff.mp h
    obtain ⟨y, h2, _⟩ := isiD_ty h1
    exact ⟨y, h2⟩
theorem clsVs (ts : List Str) : Paired ClsV (ts.map fun t => V.ty (tyS t)) (ts.map fun t => Value.type (tyS t)) := by
  induction ts with
  | nil => exact .nil
  | cons t ts ih => exact .cons (.ty _) ih
theorem ex_isi (ok : CtOk X g e W) {x : Str} {t : E} {ts : List Str} (hx : x = "isinstance") (hg : globB g.sc x = true) (hs : noStar a = true) (h : PE X a (tE e W (ev e.P t))) (hc : classesOf g b = some ts) : PE X (.Call (.Name x p) [a, b] [] pos) (tE e W (ev e.P (.isi t ts))) := by
  subst hx
  have gl := glob_of ok.sc hg
  have mn := ok.blt "isinstance" (by decide +kernel)
  have boot : bootBuiltins "isinstance" = some (.builtin "isinstance") := by decide +kernel
  by_cases hb : ∃ as k pb, b = .Tuple as k pb
  · obtain ⟨as, k, pb, rfl⟩ := hb
    unfold classesOf at hc
    simp only at hc
    split at hc
    · cases hc
    · rename_i hl
      obtain ⟨i1, i2, i3⟩ := ex_clss ok hc
      have hne : ts ≠ [] := fun z => hl (by rw [List.length_eq_zero_iff.mp (i3.symm.trans (by rw [z]; rfl))]; rfl)
      have hsz : ts.length ≤ SL := by
        rw [i3]
        by_cases hz : as.length ≤ SL
        · exact hz
        · exact absurd (by simp [hz]) hl
      refine pe_mono (pe_callB call_isiT gl mn boot (pa_cons h (pa_cons (pe_tup i1) pa_nil (star_cons rfl [] X.env)) (star_cons hs _ X.env)) (by decide +kernel) (by decide +kernel) (star_cons hs _ X.env) (star_none pos X.env (by rfl))) fun σ H Q ⟨P, w, s, R, A⟩ => ?_
      rw [ev] at A
      refine ⟨P, w, s, R, A.bind.imp fun v s1 w1 H1 l1 R1 q x n => ?_⟩
      obtain ⟨rv, hr, q⟩ := q.of
      obtain ⟨bb, h1, rfl⟩ := Option.map_eq_some_iff.mp hr
      obtain ⟨d, h2, h3⟩ := Option.bind_eq_some_iff.mp h1
      obtain ⟨w2, l2, R2, hv⟩ := n.hold R1
      obtain ⟨y, h4⟩ := isi_ty h3 hne
      refine ⟨by rw [List.length_map, ← sl_eq]; exact hsz, fun tp htp => ?_⟩
      have R3 := R2.ext (upd_ext (o := .tup (ts.map fun t => V.ty (tyS t))) htp)
      obtain ⟨T, hT, rfl, tx⟩ := tyx_seen R3.g (hv.read R3 h2) h4
      exact ⟨x, tp, _, _, _, bb, rfl, upd_same, clsVs ts, by rw [ok.K]; exact tx, kit_any hT h4 i2 h3, q w2 _ l2 R3 _ rfl⟩
  · have hc' : (classOf g b).map (fun c => [c]) = some ts := by
      unfold classesOf at hc
      split at hc
      · exact absurd ⟨_, _, _, rfl⟩ hb
      · exact hc
    obtain ⟨c, h1, rfl⟩ := Option.map_eq_some_iff.mp hc'
    obtain ⟨pc, rfl, k1, k2, k3⟩ := classOf_at h1
    refine pe_mono (pe_callB call_isi gl mn boot (pa_cons h (pa_cons (ex_cls ok h1) pa_nil (star_cons rfl [] X.env)) (star_cons hs _ X.env)) (by decide +kernel) (by decide +kernel) (star_cons hs _ X.env) (star_none pos X.env (by rfl))) fun σ H Q ⟨P, w, s, R, A⟩ => ?_
    rw [ev] at A
    refine ⟨P, w, s, R, A.bind.imp fun v s1 w1 H1 l1 R1 q x n => ?_⟩
    obtain ⟨rv, hr, q⟩ := q.of
    obtain ⟨bb, h4, rfl⟩ := Option.map_eq_some_iff.mp hr
    obtain ⟨d, h2, h3⟩ := Option.bind_eq_some_iff.mp h4
    unfold isiAll at h3
    obtain ⟨b1, h5, h6⟩ := Option.bind_eq_some_iff.mp h3
    obtain ⟨b2, h7, rfl⟩ := Option.map_eq_some_iff.mp h6
    cases h7
    obtain ⟨y, h8, rfl⟩ := isiD_ty h5
    obtain ⟨T, hT, rfl, tx⟩ := tyx_seen R1.g (n.read R1 h2) h8
    refine ⟨x, _, _, _, _, rfl, .ty _, by rw [ok.K]; exact tx, kit_ty (kit_all T hT c k3), ?_⟩
    have q := q w1 H1 (.refl w1) R1
    rw [Bool.or_false] at q
    exact q _ rfl

/-! ### written dicts -/
theorem keyEx_at {k : Option Expr} {d : D} (h : keyEx k = some d) : ∃ x i p, k = some (.Constant (.str x) i p) ∧ d = .str x.cps.toList := by
  unfold keyEx at h
  split at h
  · rename_i x i p
    refine ⟨x, i, p, rfl, ?_⟩
    have h : (if x.cps.size ≤ SL ∧ x.cps.toList.all (· < 1114112) then some (D.str x.cps.toList) else none) = some d := h
    split at h
    · cases h; rfl
    · cases h
  · cases h
def keyOf : D → Key
  | .str s => .inr ⟨s.toArray⟩
  | .int i => .inl i
  | _ => .inl 0
theorem keyOf_d {x : Str} : keyOf (.str x.cps.toList) = .inr x := by
  show Sum.inr (⟨x.cps.toList.toArray⟩ : Str) = Sum.inr x
  rw [Array.toArray_toList]
def trsOf (e : En) (W : WX) : List D → List E → List (TE × TE)
  | k :: ks, t :: ts => (tC (kV (keyOf k)), tE e W (ev e.P t)) :: trsOf e W ks ts
  | _, _ => []
theorem pps_of : ∀ {ks : List (Option Expr)} {vs : List Expr} {kds : List D} {ts : List E}, mapO keyEx ks = some kds → ks.length = vs.length → (∀ {i : Nat} {v : Expr} {t : E}, vs[i]? = some v → ts[i]? = some t → PE X v (tE e W (ev e.P t))) → vs.length = ts.length → PPs X pos ks vs (trsOf e W kds ts)
  | [], [], kds, ts, h, _, _, hl => by
    cases h
    cases ts with
    | nil => exact pps_nil
    | cons t ts => cases hl
  | k :: ks, v :: vs, kds, ts, h, hn, hp, hl => by
    unfold mapO at h
    obtain ⟨kd, h1, h⟩ := Option.bind_eq_some_iff.mp h
    obtain ⟨ks', h2, rfl⟩ := Option.map_eq_some_iff.mp h
    obtain ⟨x, i, p, rfl, rfl⟩ := keyEx_at h1
    cases ts with
    | nil => cases hl
    | cons t ts =>
      refine pps_cons ?_ (hp (i := 0) rfl rfl) (pps_of h2 (by simpa using hn) (fun {i v t} a b => hp (i := i + 1) (by simpa using a) (by simpa using b)) (by simpa using hl))
      rw [keyOf_d]
      exact pe_str
  | [], _ :: _, _, _, _, hn, _, _ => by cases hn
  | _ :: _, [], _, _, _, hn, _, _ => by cases hn
theorem pairs_of : ∀ {kds : List D} {ts : List E} {σ : L2.St} {H : Hp} {Q : List (V × V) → Hp → Prop}, kds.length = ts.length → tK e W (evs e.P ts) σ H (fun xs H' => Q ((kds.map fun k => kV (keyOf k)).zip xs) H') → tPairs (trsOf e W kds ts) σ H Q
  | [], [], σ, H, Q, _, ⟨P, w, s, R, A⟩ => by
    rw [evs] at A
    exact A w H (.refl w) R [] rfl
  | k :: ks, t :: ts, σ, H, Q, hl, ⟨P, w, s, R, A⟩ => by
    rw [evs] at A
    show tE e W (ev e.P t) σ H fun y H2 => tPairs (trsOf e W ks ts) σ H2 fun ps H3 => Q ((kV (keyOf k), y) :: ps) H3
    refine ⟨P, w, s, R, A.bind.imp fun v s1 w1 H1 l1 R1 q x n => pairs_of (by simpa using hl) ?_⟩
    obtain ⟨w2, l2, R2, hd⟩ := n.hold R1
    have q := q.mono l2
    cases v with
    | loc i => exact q.elim
    | val d fr =>
      refine ⟨P, w2, s1, R2, After.imp (After.bind q) fun ds s3 w3 H3 l3 R3 q3 xs r => ?_⟩
      exact q3 w3 H3 (.refl w3) R3 (x :: xs) (.cons (RepV.mono l3 d x hd) r)
  | [], _ :: _, _, _, _, hl, _ => by cases hl
  | _ :: _, [], _, _, _, hl, _ => by cases hl
theorem merge_new : ∀ (more acc : List (Key × V)), ((acc ++ more).map (·.1)).Nodup → mergeK acc more = acc ++ more
  | [], acc, _ => by simp [mergeK]
  | p :: r, acc, h => by
    have e1 : mergeK acc (p :: r) = mergeK (L2.putK acc p.1 p.2) r := rfl
    have h2 : p.1 ∉ acc.map (·.1) := by
      rw [List.map_append, List.nodup_append] at h
      intro hm
      exact h.2.2 _ hm _ (by simp) rfl
    have e2 : L2.putK acc p.1 p.2 = acc ++ [p] := by
      rw [putK_new]
      · cases hv : valV acc p.1 with
        | none => rfl
        | some v => exact absurd (valV_in hv) h2
    rw [e1, e2, merge_new r (acc ++ [p]) (by simpa using h)]
    simp
theorem rep_pairs {K : PySem.W.Frag} {mg : Str → Option Value} {w : Wd} : ∀ {kds ds : List D} {xs : List V}, (∀ k ∈ kds, keyD (keyOf k) = k) → kds.length = ds.length → RepVs K mg w ds xs → RepKs K mg w (kds.zip ds) ((kds.map keyOf).zip xs)
  | [], [], _, _, _, r => by cases (show _ = [] from r); exact rfl
  | k :: ks, d :: ds, _, hk, hl, ⟨x, t, rfl, p, q⟩ => ⟨_, _, _, rfl, ⟨hk k List.mem_cons_self, p⟩, rep_pairs (fun k' h => hk k' (List.mem_cons_of_mem _ h)) (by simpa using hl) q⟩
  | [], _ :: _, _, _, hl, _ => by cases hl
  | _ :: _, [], _, _, hl, _ => by cases hl
theorem keys_str : ∀ {ks : List (Option Expr)} {kds : List D}, mapO keyEx ks = some kds → kds.length = ks.length ∧ ks.all (·.isSome) = true ∧ ∀ k ∈ kds, keyD (keyOf k) = k
  | [], kds, h => by cases h; exact ⟨rfl, rfl, fun k hk => absurd hk List.not_mem_nil⟩
  | k :: ks, kds, h => by
    unfold mapO at h
    obtain ⟨kd, h1, h⟩ := Option.bind_eq_some_iff.mp h
    obtain ⟨ks', h2, rfl⟩ := Option.map_eq_some_iff.mp h
    obtain ⟨x, i, p, rfl, rfl⟩ := keyEx_at h1
    obtain ⟨i1, i2, i3⟩ := keys_str h2
    refine ⟨by simp [i1], by simpa using i2, fun k hk => ?_⟩
    rcases List.mem_cons.mp hk with rfl | hk
    · rw [keyOf_d]; rfl
    · exact i3 k hk
theorem zip_kv : ∀ (kds : List D) (xs : List V), (kds.map fun k => kV (keyOf k)).zip xs = ((kds.map keyOf).zip xs).map fun kv => (kV kv.1, kv.2)
  | [], _ => rfl
  | _ :: _, [] => rfl
  | k :: ks, x :: xs => by simp only [List.map_cons, List.zip_cons_cons, zip_kv ks xs]
theorem nodup_keys : ∀ {kds : List D}, (∀ k ∈ kds, keyD (keyOf k) = k) → kds.Nodup → (kds.map keyOf).Nodup
  | [], _, _ => List.nodup_nil
  | k :: ks, h, hn => by
    rw [List.nodup_cons] at hn
    rw [List.map_cons, List.nodup_cons]
    refine ⟨fun hm => ?_, nodup_keys (fun k' hk => h k' (List.mem_cons_of_mem _ hk)) hn.2⟩
    obtain ⟨k', hk, e1⟩ := List.mem_map.mp hm
    have e2 := h k' (List.mem_cons_of_mem _ hk)
    rw [e1, h k List.mem_cons_self] at e2
    exact hn.1 (e2 ▸ hk)
theorem ex_dct {ks : List (Option Expr)} {vs : List Expr} {kds : List D} {ts : List E} (h : mapO keyEx ks = some kds) (hl : kds.length = vs.length) (h15 : vs.length ≤ 15) (hnd : kds.Nodup) (hp : ∀ {i : Nat} {v : Expr} {t : E}, vs[i]? = some v → ts[i]? = some t → PE X v (tE e W (ev e.P t))) (ht : vs.length = ts.length) :
    PE X (.Dict ks vs pos) (tE e W (ev e.P (.dct kds ts))) := by
  obtain ⟨k1, k2, k3⟩ := keys_str h
  by_cases h0 : ks = []
  · subst h0
    have hk : kds = [] := List.length_eq_zero_iff.mp (k1.trans rfl)
    subst hk
    have hv : vs = [] := List.length_eq_zero_iff.mp hl.symm
    subst hv
    have hts : ts = [] := List.length_eq_zero_iff.mp ht.symm
    subst hts
    refine pe_mono pe_dnewK fun σ H Q ⟨P, w, s, R, A⟩ p hn => ?_
    rw [ev, evs] at A
    obtain ⟨w2, l2, R2, n⟩ := NewR.now (d := .dct []) (fr := true) R (.inr ⟨p, _, rfl, hn, rfl, ⟨[], rfl, rfl⟩, fun _ => trivial⟩)
    exact A w2 _ l2 R2 _ n
  · refine pe_mono (pe_disp (pps_of (e := e) (W := W) (ts := ts) h (by omega) hp ht) k2 (by omega) h0 (by omega)) fun σ H Q ⟨P, w, s, R, A⟩ p hn => ?_
    rw [ev] at A
    have hP : P p = none := none_of_sub R.p hn
    refine pairs_of (by omega) ⟨_, w, s, R.guard hn, (A.bind.guard (.dK []) hP).impE fun ds s1 w1 H1 eq l1 R1 q xs r => ?_⟩
    have hds : ds.length = ts.length := evs_len eq
    have hxs := r.length
    refine ⟨R1.guarded.1, (kds.map keyOf).zip xs, ?_, ?_, ?_⟩
    · exact zip_kv kds xs
    · rw [List.length_zip, List.length_map]; omega
    · have nd : (((kds.map keyOf).zip xs).map (·.1)).Nodup := by
        rw [List.map_fst_zip (by rw [List.length_map]; omega)]
        exact nodup_keys k3 hnd
      rw [merge_new _ [] (by simpa using nd), List.nil_append]
      have R2 := R1.rewrite (.dK ((kds.map keyOf).zip xs))
      obtain ⟨R3, n⟩ := R2.built hP (d := .dct (kds.zip ds)) ⟨_, rfl, rep_pairs k3 (by omega) r⟩ trivial
      exact q w1 _ (.refl w1) R3 _ n
end
/-! ### objects of the store -/
section
variable {K : PySem.W.Frag} {mg : Str → Option Value} {P : Hp} {w : Wd} {s : S} {σ : L2.St} {H : Hp} {d : D} {x : V} {ob : Ob}
theorem Rel.box (R : Rel K mg P w s σ H) (n : Now K mg P w s σ H (.val d true) x) (ho : ∀ a o, ORep K mg w o d → H a = some o → StRep K mg w H a ob) : ∃ w', w.Le w' ∧ Rel K mg P w' { s with st := s.st ++ [ob] } σ H ∧ RepV K mg w' (.ref s.st.length) x := by
  obtain ⟨⟨a, o, rfl, ha, hr, hm⟩, hh⟩ := n
  obtain ⟨g1, g2, g3, g4⟩ := hh a rfl
  have l : w.Le ⟨w.G, w.m ++ [a]⟩ := ⟨fun _ _ h => h, List.prefix_append _ _⟩
  refine ⟨⟨w.G, w.m ++ [a]⟩, l, ?_, a, rfl, ?_⟩
  · exact {
      g := R.g
      p := R.p
      stl := by simp [R.stl]
      st := fun k ob' b h1 h2 => by
        by_cases hk : k < s.st.length
        · rw [List.getElem?_append_left hk] at h1
          have h2 : (w.m ++ [a])[k]? = some b := h2
          rw [List.getElem?_append_left (by rw [← R.stl]; exact hk)] at h2
          exact (R.st k ob' b h1 h2).mono l
        · rw [List.getElem?_append_right (by omega)] at h1
          have h2 : (w.m ++ [a])[k]? = some b := h2
          rw [List.getElem?_append_right (by rw [← R.stl]; omega), ← R.stl] at h2
          have hz : k - s.st.length = 0 := by
            obtain ⟨i1, _⟩ := List.getElem?_eq_some_iff.mp h1
            simp at i1
            omega
          rw [hz] at h1 h2
          cases h1
          cases h2
          exact (ho _ o hr ha).mono l
      nd := by
        show (w.m ++ [a]).Nodup
        rw [List.nodup_append]
        exact ⟨R.nd, by simp, fun b hb c hc => by
          rw [List.mem_singleton] at hc
          subst hc
          exact fun z => g3 (z ▸ hb)⟩
      out := fun b hb => by
        rcases List.mem_append.mp (show b ∈ w.m ++ [a] from hb) with hb | hb
        · exact R.out b hb
        · rw [List.mem_singleton] at hb
          subst hb
          exact ⟨g1, g2⟩
      gp := R.gp
      len := R.len
      fz := fun i e h => by
        obtain ⟨v, h1, h2⟩ := R.fz i e h
        exact ⟨v, h1, RepV.mono l _ _ h2⟩
      own := fun i e h => by
        obtain ⟨v, h1, h2⟩ := R.own i e h
        exact ⟨v, h1, h2.mono l⟩
      apart := fun i e b h1 h2 => by
        obtain ⟨k1, k2, k3⟩ := R.apart i e b h1 h2
        refine ⟨k1, k2, fun hm => ?_⟩
        rcases List.mem_append.mp (show b ∈ w.m ++ [a] from hm) with hm | hm
        · exact k3 hm
        · rw [List.mem_singleton] at hm
          subst hm
          exact g4 i e h1 h2
      dis := R.dis }
  · show (w.m ++ [a])[s.st.length]? = some a
    rw [R.stl, List.getElem?_append_right (Nat.le_refl _)]
    simp
end
section
variable {X : Cx} {e : En} {W : WX} {a : Expr}
theorem ex_box {t : E} (h : PE X a (tE e W (ev e.P t))) : PE X a (tE e W (ev e.P (.box t))) := pe_mono h fun σ H Q ⟨P, w, s, R, A⟩ => by
  rw [ev] at A
  refine ⟨P, w, s, R, A.bind.imp fun v s1 w1 H1 l1 R1 q x n => ?_⟩
  cases v with
  | loc i => exact q.elim
  | val d fr =>
    cases d with
    | lst ds =>
      cases fr with
      | false => exact q.elim
      | true =>
        obtain ⟨w2, l2, R2, r2⟩ := Rel.box (ob := .lst ds) R1 n fun a o ⟨xs, e1, r⟩ h1 => ⟨xs, e1 ▸ h1, r⟩
        exact q w2 H1 l2 R2 x r2
    | dct ds =>
      cases fr with
      | false => exact q.elim
      | true =>
        obtain ⟨w2, l2, R2, r2⟩ := Rel.box (ob := .dct ds) R1 n fun a o ⟨xs, e1, r⟩ h1 => ⟨xs, e1 ▸ h1, r⟩
        exact q w2 H1 l2 R2 x r2
    | _ => exact q.elim
end
end PyE
end
section
set_option linter.all false
set_option autoImplicit false
set_option maxRecDepth 100000
set_option maxHeartbeats 2000000
/-! PyEnumT: enumerate over a tuple. -/
namespace PyE
open PySem PySem.Spec PyProof.Rows L2

section
variable {prog : Program} {w : World} {A : Around} {E : Value → Shared → Prop} {s : Shared}
open Sem (wp)
theorem newEnum_tuple (t : Addr) (items : Array Value) :
    Meets (Builtin.«enumerate.__new__» ⟨[.type "enumerate", .ref t], []⟩) (fun _ R s => s.heap.IsTuple t items ∧
      R (.ok (.ret (.ref (s.heap.push { cls := .type "tuple_iterator", data := .fields #[.ref t, .int 0 0] }).objs.size)))
        { s with heap := (s.heap.push { cls := .type "tuple_iterator", data := .fields #[.ref t, .int 0 0] }).push { cls := .type "enumerate", data := .fields #[.none, .bool false, .ref s.heap.objs.size, rawInt 0, .none, .none] } }) :=
  .of_wp fun prog w A R s h => by
    obtain ⟨hp, g, d, tk, os⟩ := s; obtain ⟨hT, h⟩ := h
    have hsub := sub_enumerate
    wp_walk using wpAny_pyIter_tuple hT
    refine wpAny_stack_any fun st => wpAny_pure ?_
    split
    · rename_i c _ _ _ _ _
      cases (c == Value.type "enumerate")
      · wp_walk using wpAny_pyIter_tuple hT
        exact ⟨_, rfl, h⟩
      · wp_walk using wpAny_pyIter_tuple hT
        exact ⟨_, rfl, h⟩
    · wp_walk using wpAny_pyIter_tuple hT
      exact ⟨_, rfl, h⟩
theorem callEnum_tuple {t : Addr} {items : Array Value} {Q : Value → Shared → Prop} (hT : s.heap.IsTuple t items)
    (h : ∀ h', IsEnum h' (s.heap.objs.size + 1) s.heap.objs.size 0 .none → h'.IsTupleIter s.heap.objs.size t 0 → h'.objs.size = s.heap.objs.size + 2 →
      (∀ b o, s.heap.get? b = some o → h'.get? b = some o) → Q (.ref (s.heap.objs.size + 1)) { s with heap := h' }) :
    wpAny (model prog w) A (call (.type "enumerate") [.ref t]) Q E s := by
  refine callType_new F.called_enumerate (by decide) (F.typeCall_enumerate_1 _) (F.newCall_enumerate_1 _) (fun obj => F.args_object_init_2 obj _) F.entry_enumerate_new
    (newEnum_tuple t items) ⟨hT, ?_⟩
  have hz : (s.heap.push { cls := .type "tuple_iterator", data := .fields #[.ref t, .int 0 0] }).objs.size = s.heap.objs.size + 1 := Heap.size_push ..
  show _ ∧ _
  rw [hz]
  have he : IsEnum ((s.heap.push { cls := .type "tuple_iterator", data := .fields #[.ref t, .int 0 0] }).push
      { cls := .type "enumerate", data := .fields #[.none, .bool false, .ref s.heap.objs.size, rawInt 0, .none, .none] }) (s.heap.objs.size + 1) s.heap.objs.size 0 .none := by
    have := Heap.get?_push_size (s.heap.push { cls := .type "tuple_iterator", data := .fields #[.ref t, .int 0 0] })
      (o := { cls := .type "enumerate", data := .fields #[.none, .bool false, .ref s.heap.objs.size, rawInt 0, .none, .none] }) rfl
    rw [hz] at this; exact this
  refine ⟨⟨_, he, rfl⟩, h _ he ⟨_, Heap.get?_push_of_some _ (Heap.get?_push_size _ rfl), rfl, rfl⟩ (by rw [Heap.size_push, hz]) fun b o x => Heap.get?_push_of_some _ (Heap.get?_push_of_some _ x)⟩
end
theorem pyNext_enumT_end {prog : Program} {w : World} {A : Around} {E : Value → Shared → Prop} {s : Shared} {e it a : Addr} {items : Array Value} {i : Nat} {c : Int} {old : Value} {Q : Option Value → Shared → Prop} (hh : A.handled = none)
    (he : IsEnum s.heap e it c old) (hit : s.heap.IsTupleIter it a i) (hT : s.heap.IsTuple a items) (hx : items[i]? = none)
    (hQ : ∀ h', Heap.ExtBut it s.heap h' → Q none { s with heap := h' }) : wpAny (model prog w) A (pyNext (.ref e)) Q E s := by
  have hTy : s.TypeIs (.ref e) "enumerate" := ⟨_, he, rfl⟩
  unfold pyNext
  refine wpAny_bind (wpAny_attempt (wpAny_callSpecial?_slot (name := Str.ofString "__next__") hTy F.slot_enumerate_next
    (wpAny_call_entry F.slot_enumerate_next hTy F.entry_enumerate_next ?_ (F.args_enumerate_next_1 _))))
  show wpAny _ _ (field (.ref e) 2 >>= _) _ _ _
  refine wpAny_bind (wpAny_field he rfl (x := .ref it) rfl ?_)
  refine wpAny_bind (wpAny_nextOf_tuple_end (A := A.in1) hh hit hT hx fun h' x he' hx' => ?_)
  obtain ⟨o, ho, hc⟩ := hx'
  refine wpAny_bind (wpAny_isInstance (T := "StopIteration") (b := true) ⟨o, ho, hc⟩ isSubtype_stop ?_)
  exact wpAny_pure (hQ _ he')
/-- the tuple at a as it stands at each turn, each item in a new pair -/
def IteT (K : PySem.W.Frag) (a : Addr) : L2.It :=
  ⟨fun i H => ∃ (xs : List V) (x : V), SqT K H a xs ∧ xs[i]? = some x, fun i H v H' => ∃ T x, v = .ref T ∧ H T = none ∧ H' = upd H T (.tup [.int (i : Nat), x]) ∧ ∀ xs, SqT K H a xs → xs[i]? = some x, fun i H => ∃ xs : List V, SqT K H a xs ∧ xs.length ≤ i⟩
theorem turn_enumT {P : Program} {w : World} {K : PySem.W.Frag} {elts : List Expr} {kk : Nat} {tpos : Pos} (a e it : Addr) (hai : a ≠ it) (hea : e ≠ a) :
    Turn P w K (.Tuple elts kk tpos) (IteT K a) [e, it] e (fun i h => (∃ old, IsEnum h e it ((i : Nat) : Int) old) ∧ h.IsTupleIter it a i ∧ e ≠ it) where
  mem := by simp
  obj := fun i h st b hb => by
    obtain ⟨⟨old, he⟩, ⟨o, ho, hc, hd⟩, _⟩ := st
    have e' : b = e ∨ b = it := by simpa using hb
    rcases e' with z | z
    · rw [z]; exact ⟨_, he, fun v q => nomatch q⟩
    · rw [z]; exact ⟨o, ho, fun v q => by rw [hd] at q; cases q⟩
  keep := fun i h h' st k => let ⟨⟨old, he⟩, hi, hne⟩ := st; ⟨⟨old, k e (by simp) _ he⟩, hi.at fun o q => k it (by simp) o q, hne⟩
  item := by
    intro X hP hw hK hc i pins s σ H E I hf st hg
    subst hP hw hK
    obtain ⟨⟨old, he⟩, hit, hne⟩ := st
    obtain ⟨xs, x, hq, hx⟩ := hg
    obtain ⟨its, rv, p, hz⟩ := I.tuple hq
    obtain ⟨u, hu, ru⟩ := rv.get hx
    have hel : e < s.heap.objs.size := Heap.lt_size he
    have hil : it < s.heap.objs.size := by obtain ⟨_, q, _⟩ := hit; exact Heap.lt_size q
    have hlt : i < its.toArray.size := by simpa using (List.getElem?_eq_some_iff.mp hu).1
    refine wpAny_pyNext_enum_itemD (Draws.tuple (A := X.A.in1) (I.ok.hd hc) it a hai its.toArray) he ⟨hit, p⟩ hlt hne (by simp [hne, hea]) fun x' h' tk hx' ho hst hT hsz hk => ?_
    have hxu : x' = u := by
      have h1 : its.toArray[i]? = some x' := hx'
      rw [show its.toArray[i]? = some u by simpa using hu] at h1
      exact (Option.some.inj h1).symm
    subst hxu
    refine ⟨_, rfl, wpAny_letOwnedTupleGo_enum (s := { s with heap := h', toks := tk + 1 }) ho fun h'' he' sb => ?_⟩
    have hT2 : h''.get? s.heap.objs.size = some { cls := .type "tuple", data := .seq #[.int i tk, x'] } := (sb.2 _ (Nat.ne_of_gt hel)).trans hT
    have new : ObjOk X.prog X.w (upd H s.heap.objs.size (.tup [.int (i : Nat), x])) h'' s.heap.objs.size (.tup [.int (i : Nat), x]) :=
      ⟨by show 2 ≤ sizeLine; decide, [.int i tk, x'], .cons ⟨_, rfl⟩ (.cons ru .nil), ⟨_, hT2, rfl, _, rfl⟩⟩
    have I1 : Inv X pins σ (upd H s.heap.objs.size (.tup [.int (i : Nat), x])) { s with heap := h'', toks := tk + 1 } :=
      I.turnedNew (ch := [e, it]) (fun b ob hb q => (sb.2 b (fun z => hb (by simp [z]))).trans (hk b ob (fun z => hb (by simp [z])) (fun z => hb (by simp [z])) q)) hf (Nat.le_refl _) new
    refine ⟨.ref s.heap.objs.size, _, I1, rfl, ⟨_, x, rfl, I.hok.fresh (Nat.le_refl _), rfl, fun ys hy => by rw [I.tuple_inj hy hq]; exact hx⟩, ⟨⟨x', ?_⟩, hst.1.at fun o q => (sb.2 it (Ne.symm hne)).trans q, hne⟩, fun b hb => ?_⟩
    · have e1 : ((i + 1 : Nat) : Int) = (i : Int) + 1 := by omega
      rw [e1]; exact he'
    · have hb' : b < s.heap.objs.size := by
        have e' : b = e ∨ b = it := by simpa using hb
        rcases e' with z | z
        · rw [z]; exact hel
        · rw [z]; exact hil
      rw [upd_ne (Nat.ne_of_lt hb')]
      exact (hf b hb).1
  done := by
    intro X hP hw hK hc i pins s σ H E I hf st hg
    subst hP hw hK
    obtain ⟨⟨old, he⟩, hit, hne⟩ := st
    obtain ⟨xs, hq, hx⟩ := hg
    obtain ⟨its, rv, p, hz⟩ := I.tuple hq
    have hl := rv.length
    exact pyNext_enumT_end (I.ok.hd hc) he hit p (by simp; omega) fun h' eb => ⟨rfl, I.turned (t' := s.toks) (fun b o hb q => eb b o hb q) (hf it (by simp)).1 (hf it (by simp)).2.1 (hf it (by simp)).2.2.2.1 (hf it (by simp)).2.2.2.2.1 (hf it (by simp)).2.2.2.2.2⟩
  self := fun A i s Q E st h => let ⟨⟨_, he⟩, _⟩ := st; wpAny_pyIter_enum he h
def iEnumA (K : PySem.W.Frag) (ta : TA) : TI := fun σ H R => ta σ H fun vs H1 => ∃ a xs, vs = [.ref a] ∧ ((SqL K H1 a xs ∧ R (Ite K a) H1) ∨ (SqT K H1 a xs ∧ R (IteT K a) H1))
theorem pi_enumA {X : Cx} {e : Expr} {ta : TA} {p pos tpos : Pos} {elts : List Expr} {kk : Nat} (hg : Gl X "enumerate") (hm : X.mg "enumerate" = none) (ha : PA X [e] ta) (hs : starEach [e] X.env = [(false, eval e X.env)] := by rfl) :
    PI X (.Tuple elts kk tpos) (.Call (.Name "enumerate" p) [e] [] pos) (iEnumA X.K ta) := by
  refine ⟨fun pins s σ H R I h => ?_⟩
  refine Call_ (ld_blt I hg hm boot_enumerate (PyProof.Rows.callWith_type1 (thn (ha.run pos pins s σ H _ I h) fun us s1 ⟨vs, H1, I1, r1, q1⟩ => ?_) hs rfl))
  obtain ⟨a, xs, ex, q⟩ := q1
  subst ex
  cases r1 with
  | cons r rr =>
    cases rr
    cases r
    have fresh : ∀ b ∈ [s1.heap.objs.size + 1, s1.heap.objs.size], FpOk X pins H1 b := fun b hb => by
      have e' : b = s1.heap.objs.size + 1 ∨ b = s1.heap.objs.size := by simpa using hb
      have hle : s1.heap.objs.size ≤ b := by
        rcases e' with z | z
        · rw [z]; exact Nat.le_add_right _ _
        · rw [z]; exact Nat.le_refl _
      exact I1.fpOk hle (I1.hok.fresh hle)
    rcases q with ⟨hq, q⟩ | ⟨hq, q⟩
    · obtain ⟨its, rv, p', hz⟩ := I1.list hq
      refine call_enumerate_list p'.isList fun h' he hit hsz hk => wpAny_pyIter_enum he ?_
      have I2 : Inv X pins σ H1 { s1 with heap := h' } := I1.kept (t' := s1.toks) hk
      exact ⟨s1.heap.objs.size + 1, [s1.heap.objs.size + 1, s1.heap.objs.size], _, _, H1, rfl, I2, turn_enum a (s1.heap.objs.size + 1) s1.heap.objs.size, ⟨⟨.none, he⟩, hit, Nat.succ_ne_self _⟩, fresh, q⟩
    · obtain ⟨its, rv, p', hz⟩ := I1.tuple hq
      have hal : a < s1.heap.objs.size := by obtain ⟨_, q, _⟩ := p'; exact Heap.lt_size q
      refine callEnum_tuple p' fun h' he hit hsz hk => wpAny_pyIter_enum he ?_
      have I2 : Inv X pins σ H1 { s1 with heap := h' } := I1.kept (t' := s1.toks) hk
      exact ⟨s1.heap.objs.size + 1, [s1.heap.objs.size + 1, s1.heap.objs.size], _, _, H1, rfl, I2, turn_enumT a (s1.heap.objs.size + 1) s1.heap.objs.size (Nat.ne_of_lt hal) (Nat.ne_of_gt (Nat.lt_succ_of_lt hal)), ⟨⟨.none, he⟩, hit, Nat.succ_ne_self _⟩, fresh, q⟩
end PyE
end
section
set_option linter.all false
set_option autoImplicit false
set_option maxRecDepth 100000
set_option maxHeartbeats 1000000
/-! PyIt: what loops walk. -/
namespace PyE
open PySem PySem.Spec PyProof.Rows L2 RZ RT

/-- an iterator that gives the data ds, turn by turn -/
def ItOk (e : En) (w : Wd) (lk : List (Rv × D)) (ds : List D) (J : L2.It) : Prop := ∀ (P' : Hp) (w' : Wd) (s' : S) (σ' : L2.St) (H' : Hp) (i : Nat), w.Le w' → e.rel P' w' s' σ' H' → locked lk s' = true →
  (∀ d, ds[i]? = some d → J.go i H' ∧ ∀ x H'', J.yld i H' x H'' → NewR e.K e.mg w' H' d false x H'') ∧ (ds.length ≤ i → J.stop i H')
def tI (e : En) (W : WX) (f : S → R (List D × List (Rv × D))) : TI := fun σ H R => ∃ P w s, e.rel P w s σ H ∧ After e (fun c d H => W c d σ H) P w σ (f s) (fun p s' w' H' => ∀ J, ItOk e w' p.2 p.1 J → R J H')
theorem pi_mono {X : Cx} {tg a : Expr} {t t' : TI} (h : PI X tg a t) (k : ∀ σ H R, t' σ H R → t σ H R) : PI X tg a t' := ⟨fun pins s σ H R I q => h.run pins s σ H R I (k σ H R q)⟩

section
variable {K : PySem.W.Frag} {mg : Str → Option Value} {P : Hp} {w w' : Wd} {s s' : S} {σ σ' : L2.St} {H H' : Hp} {d : D} {x : V} {ds : List D} {lk : List (Rv × D)} {v : Rv}
/-- what is walked stands there at each turn -/
def StandsL (K : PySem.W.Frag) (mg : Str → Option Value) (w : Wd) (lk : List (Rv × D)) (ds : List D) (a : Addr) : Prop := ∀ (P' : Hp) (w' : Wd) (s' : S) (σ' : L2.St) (H' : Hp), w.Le w' → Rel K mg P' w' s' σ' H' → locked lk s' = true → ∃ xs, SqL K H' a xs ∧ RepVs K mg w' ds xs
def StandsT (K : PySem.W.Frag) (mg : Str → Option Value) (w : Wd) (lk : List (Rv × D)) (ds : List D) (a : Addr) : Prop := ∀ (P' : Hp) (w' : Wd) (s' : S) (σ' : L2.St) (H' : Hp), w.Le w' → Rel K mg P' w' s' σ' H' → locked lk s' = true → ∃ xs, SqT K H' a xs ∧ RepVs K mg w' ds xs
theorem StandsL.more {lk' : List (Rv × D)} {a : Addr} (h : StandsL K mg w lk ds a) (hl : w.Le w') (k : ∀ s, locked lk' s = true → locked lk s = true) : StandsL K mg w' lk' ds a := fun P' w2 s2 σ2 H2 l R e => h P' w2 s2 σ2 H2 (hl.trans l) R (k s2 e)
theorem StandsT.more {lk' : List (Rv × D)} {a : Addr} (h : StandsT K mg w lk ds a) (hl : w.Le w') (k : ∀ s, locked lk' s = true → locked lk s = true) : StandsT K mg w' lk' ds a := fun P' w2 s2 σ2 H2 l R e => h P' w2 s2 σ2 H2 (hl.trans l) R (k s2 e)
theorem locked_app {a b : List (Rv × D)} {s : S} : locked (a ++ b) s = (locked a s && locked b s) := by
  unfold locked
  rw [List.all_append]
theorem walk_locked (e : walkD v s = some (ds, lk)) : locked lk s = true := by
  cases v with
  | loc i => cases e
  | val d0 fr =>
    by_cases hn : ∃ n, d0 = .ref n
    · obtain ⟨n, rfl⟩ := hn
      have e' : (rd s (.val (.ref n) fr)).bind (fun d => (itemsW d).map fun xs => (xs, [(Rv.val (.ref n) fr, d)])) = some (ds, lk) := e
      obtain ⟨d, hr, e'⟩ := Option.bind_eq_some_iff.mp e'
      obtain ⟨xs0, hi, e'⟩ := Option.map_eq_some_iff.mp e'
      cases e'
      unfold locked
      simp [hr]
    · have e2 : walkD (.val d0 fr) s = (itemsW d0).map fun xs => (xs, []) := by
        cases d0 <;> first | rfl | exact absurd ⟨_, rfl⟩ hn
      rw [e2] at e
      obtain ⟨xs0, hi, e⟩ := Option.map_eq_some_iff.mp e
      cases e
      rfl
/-- a walked value: what kind it is, how it stands -/
theorem walk_stands (R : Rel K mg P w s σ H) (h : Held K mg w σ v x) (e : walkD v s = some (ds, lk)) : ∃ d, rd s v = some d ∧ itemsW d = some ds ∧
    (d.isL = true → ∃ a, x = .ref a ∧ StandsL K mg w lk ds a ∧ ∃ xs, SqL K H a xs) ∧ (d.isT = true → ∃ a, x = .ref a ∧ StandsT K mg w lk ds a ∧ ∃ xs, SqT K H a xs) ∧ (∀ z, d = .str z → x = .str ⟨z.toArray⟩ ∧ z.length ≤ SL ∧ z.all (· < 1114112) = true) := by
  cases v with
    | loc i => cases e
    | val d0 fr =>
      by_cases hn : ∃ n, d0 = .ref n
      · obtain ⟨n, rfl⟩ := hn
        have e' : (rd s (.val (.ref n) fr)).bind (fun d => (itemsW d).map fun xs => (xs, [(Rv.val (.ref n) fr, d)])) = some (ds, lk) := e
        obtain ⟨d, hr, e'⟩ := Option.bind_eq_some_iff.mp e'
        obtain ⟨xs0, hi, e'⟩ := Option.map_eq_some_iff.mp e'
        cases e'
        obtain ⟨a, rfl, hm⟩ : ∃ a, x = .ref a ∧ w.m[n]? = some a := h
        have hd : deref s.st (.ref n) = d := Option.some.inj hr
        have st : ∀ (P' : Hp) (w' : Wd) (s' : S) (σ' : L2.St) (H' : Hp), w.Le w' → Rel K mg P' w' s' σ' H' → deref s'.st (.ref n) = d → ∀ ys, d = .lst ys → ∃ xs, H' a = some (.lst xs) ∧ RepVs K mg w' ys xs := fun P' w' s' σ' H' l R' hd' ys hy => by
          subst hy
          have hm' := pre_get l.m hm
          cases q : s'.st[n]? with
          | none => simp [deref, q] at hd'
          | some ob =>
            cases ob with
            | lst zs =>
              have : zs = ys := by simpa [deref, q] using hd'
              subst this
              exact R'.st n _ a q hm'
            | dct zs => simp [deref, q] at hd'
            | ins c ns vs => simp [deref, q] at hd'
        refine ⟨d, hr, hi, fun hL => ?_, fun hT => ?_, fun z hz => ?_⟩
        · cases d with
          | lst ys =>
            cases hi
            refine ⟨a, rfl, fun P' w' s' σ' H' l R' hl => ?_, ?_⟩
            · have hd' : deref s'.st (.ref n) = .lst ds := by
                unfold locked at hl
                simp [rd] at hl
                exact hl
              obtain ⟨xs, h1, h2⟩ := st P' w' s' σ' H' l R' hd' _ rfl
              exact ⟨xs, .of h1, h2⟩
            · obtain ⟨xs, h1, h2⟩ := st P w s σ H (.refl w) R hd _ rfl
              exact ⟨xs, .of h1⟩
          | giv ys =>
            exfalso
            cases q : s.st[n]? with
            | none => simp [deref, q] at hd
            | some ob => cases ob <;> simp [deref, q] at hd
          | _ => cases hL
        · exfalso
          cases q : s.st[n]? with
          | none => simp [deref, q] at hd; subst hd; cases hT
          | some ob => cases ob <;> simp [deref, q] at hd <;> subst hd <;> cases hT
        · exfalso
          subst hz
          cases q : s.st[n]? with
          | none => simp [deref, q] at hd
          | some ob => cases ob <;> simp [deref, q] at hd
      · have hn' : ∀ n, d0 ≠ .ref n := fun n z => hn ⟨n, z⟩
        have e2 : walkD (.val d0 fr) s = (itemsW d0).map fun xs => (xs, []) := by
          cases d0 <;> first | rfl | exact absurd rfl (hn' _)
        rw [e2] at e
        obtain ⟨xs0, hi, e⟩ := Option.map_eq_some_iff.mp e
        cases e
        have hr : rd s (.val d0 fr) = some d0 := by
          cases d0 <;> first | rfl | exact absurd rfl (hn' _)
        have h : RepV K mg w d0 x := h
        refine ⟨d0, hr, hi, fun hL => ?_, fun hT => ?_, fun z hz => ?_⟩
        · cases d0 with
          | lst ys =>
            cases hi
            obtain ⟨a, xs, rfl, h1, h2⟩ := h
            exact ⟨a, rfl, fun P' w' s' σ' H' l R' _ => ⟨xs, .of (R'.g _ _ (l.g _ _ h1)), h2.mono l⟩, xs, .of (R.g _ _ h1)⟩
          | giv ys =>
            cases hi
            obtain ⟨a, xs, rfl, h1, h2⟩ := h
            exact ⟨a, rfl, fun P' w' s' σ' H' l R' _ => ⟨xs, sqL_mono (fun b o q => R'.g b o (l.g b o q)) h1, h2.mono l⟩, xs, sqL_mono R.g h1⟩
          | _ => cases hL
        · cases d0 with
          | tup ys =>
            cases hi
            obtain ⟨a, xs, rfl, h1, h2⟩ := h
            exact ⟨a, rfl, fun P' w' s' σ' H' l R' _ => ⟨xs, .of (R'.g _ _ (l.g _ _ h1)), h2.mono l⟩, xs, .of (R.g _ _ h1)⟩
          | git ys =>
            cases hi
            obtain ⟨a, xs, rfl, h1, h2⟩ := h
            exact ⟨a, rfl, fun P' w' s' σ' H' l R' _ => ⟨xs, sqT_mono (fun b o q => R'.g b o (l.g b o q)) h1, h2.mono l⟩, xs, sqT_mono R.g h1⟩
          | _ => cases hT
        · subst hz
          exact h
end
section
variable {e : En} {w : Wd} {lk : List (Rv × D)} {ds es : List D} {a b : Addr}
theorem itok_list (h : StandsL e.K e.mg w lk ds a) : ItOk e w lk ds (Itl e.K a) := fun P' w' s' σ' H' i l R hl => by
  obtain ⟨xs, h1, h2⟩ := h P' w' s' σ' H' l R hl
  refine ⟨fun d hd => ?_, fun hn => ⟨xs, h1, by rw [h2.length]; exact hn⟩⟩
  obtain ⟨x, h3, h4⟩ := h2.get hd
  refine ⟨⟨xs, x, h1, h3⟩, fun y H'' ⟨e1, hy⟩ => ?_⟩
  have h5 := hy xs h1
  rw [h3] at h5
  cases h5
  exact e1 ▸ new_atom h4
theorem itok_tup (h : StandsT e.K e.mg w lk ds a) : ItOk e w lk ds (Itt e.K a) := fun P' w' s' σ' H' i l R hl => by
  obtain ⟨xs, h1, h2⟩ := h P' w' s' σ' H' l R hl
  refine ⟨fun d hd => ?_, fun hn => ⟨xs, h1, by rw [h2.length]; exact hn⟩⟩
  obtain ⟨x, h3, h4⟩ := h2.get hd
  refine ⟨⟨xs, x, h1, h3⟩, fun y H'' ⟨e1, hy⟩ => ?_⟩
  have h5 := hy xs h1
  rw [h3] at h5
  cases h5
  exact e1 ▸ new_atom h4
theorem itok_str {z : List Nat} (ha : z.all (· < 1114112) = true) : ItOk e w lk (z.map fun c => .str [c]) (Its ⟨z.toArray⟩) := fun P' w' s' σ' H' i l R hl => by
  refine ⟨fun d hd => ?_, fun hn => by show (⟨z.toArray⟩ : Str).cps.size ≤ i; simpa using hn⟩
  rw [List.getElem?_map] at hd
  obtain ⟨c, hc, rfl⟩ := Option.map_eq_some_iff.mp hd
  have hi := (List.getElem?_eq_some_iff.mp hc).1
  refine ⟨by show i < (⟨z.toArray⟩ : Str).cps.size; simpa using hi, fun y H'' ⟨e1, c', hc', hy⟩ => ?_⟩
  have : c' = c := by
    have h1 : z.toArray[i]? = some c' := hc'
    rw [List.getElem?_toArray, hc] at h1
    cases h1; rfl
  subst this
  subst hy
  refine e1 ▸ new_atom ⟨rfl, by unfold SL; simp, ?_⟩
  have := List.all_eq_true.mp ha c' (List.mem_of_getElem? hc)
  simpa using this
theorem itok_rng (lo : Int) (n : Nat) : ItOk e w lk ((List.range n).map fun (k : Nat) => .int (lo + k)) (Itr lo n) := fun P' w' s' σ' H' i l R hl => by
  refine ⟨fun d hd => ?_, fun hn => by show n ≤ i; simpa using hn⟩
  rw [List.getElem?_map] at hd
  obtain ⟨c, hc, rfl⟩ := Option.map_eq_some_iff.mp hd
  obtain ⟨h1, h2⟩ := List.getElem?_eq_some_iff.mp hc
  rw [List.getElem_range] at h2
  subst h2
  rw [List.length_range] at h1
  exact ⟨h1, fun y H'' ⟨e1, hy⟩ => e1 ▸ new_atom hy⟩
theorem itok_zipL (h : StandsL e.K e.mg w lk ds a) (h' : StandsL e.K e.mg w lk es b) : ItOk e w lk ((ds.zip es).map fun p => .tup [p.1, p.2]) (Itz e.K a b) := fun P' w' s' σ' H' i l R hl => by
  obtain ⟨xs, h1, h2⟩ := h P' w' s' σ' H' l R hl
  obtain ⟨ys, k1, k2⟩ := h' P' w' s' σ' H' l R hl
  refine ⟨fun d hd => ?_, fun hn => ⟨xs, ys, h1, k1, ?_⟩⟩
  · rw [List.getElem?_map] at hd
    obtain ⟨p, hp, rfl⟩ := Option.map_eq_some_iff.mp hd
    rw [List.getElem?_zip_eq_some] at hp
    obtain ⟨x, h3, h4⟩ := h2.get hp.1
    obtain ⟨y, k3, k4⟩ := k2.get hp.2
    refine ⟨⟨xs, ys, x, y, h1, k1, h3, k3⟩, fun v H'' ⟨T, x', y', e1, e2, e3, hx, hy⟩ => ?_⟩
    have h5 := hx xs h1
    have k5 := hy ys k1
    rw [h3] at h5
    rw [k3] at k5
    cases h5
    cases k5
    exact .inr ⟨T, _, e1, e2, e3, ⟨_, rfl, .cons h4 (.cons k4 .nil)⟩, fun z => nomatch z⟩
  · rw [List.length_map, List.length_zip] at hn
    rw [h2.length, k2.length]
    omega
theorem itok_zipT (h : StandsT e.K e.mg w lk ds a) (h' : StandsT e.K e.mg w lk es b) : ItOk e w lk ((ds.zip es).map fun p => .tup [p.1, p.2]) (ItzT e.K a b) := fun P' w' s' σ' H' i l R hl => by
  obtain ⟨xs, h1, h2⟩ := h P' w' s' σ' H' l R hl
  obtain ⟨ys, k1, k2⟩ := h' P' w' s' σ' H' l R hl
  refine ⟨fun d hd => ?_, fun hn => ⟨xs, ys, h1, k1, ?_⟩⟩
  · rw [List.getElem?_map] at hd
    obtain ⟨p, hp, rfl⟩ := Option.map_eq_some_iff.mp hd
    rw [List.getElem?_zip_eq_some] at hp
    obtain ⟨x, h3, h4⟩ := h2.get hp.1
    obtain ⟨y, k3, k4⟩ := k2.get hp.2
    refine ⟨⟨xs, ys, x, y, h1, k1, h3, k3⟩, fun v H'' ⟨T, x', y', e1, e2, e3, hx, hy⟩ => ?_⟩
    have h5 := hx xs h1
    have k5 := hy ys k1
    rw [h3] at h5
    rw [k3] at k5
    cases h5
    cases k5
    exact .inr ⟨T, _, e1, e2, e3, ⟨_, rfl, .cons h4 (.cons k4 .nil)⟩, fun z => nomatch z⟩
  · rw [List.length_map, List.length_zip] at hn
    rw [h2.length, k2.length]
    omega
theorem itok_enum (h : StandsL e.K e.mg w lk ds a) : ItOk e w lk (ds.zipIdx.map fun p => .tup [.int p.2, p.1]) (Ite e.K a) := fun P' w' s' σ' H' i l R hl => by
  obtain ⟨xs, h1, h2⟩ := h P' w' s' σ' H' l R hl
  refine ⟨fun d hd => ?_, fun hn => ⟨xs, h1, by rw [h2.length]; simpa using hn⟩⟩
  rw [List.getElem?_map] at hd
  obtain ⟨p, hp, rfl⟩ := Option.map_eq_some_iff.mp hd
  rw [List.getElem?_zipIdx] at hp
  obtain ⟨d, hd', rfl⟩ := Option.map_eq_some_iff.mp hp
  obtain ⟨x, h3, h4⟩ := h2.get hd'
  refine ⟨⟨xs, x, h1, h3⟩, fun v H'' ⟨T, x', e1, e2, e3, hx⟩ => ?_⟩
  have h5 := hx xs h1
  rw [h3] at h5
  cases h5
  refine .inr ⟨T, _, e1, e2, e3, ⟨_, rfl, .cons ?_ (.cons h4 .nil)⟩, fun z => nomatch z⟩
  show V.int _ = V.int _
  simp
theorem itok_enumT (h : StandsT e.K e.mg w lk ds a) : ItOk e w lk (ds.zipIdx.map fun p => .tup [.int p.2, p.1]) (IteT e.K a) := fun P' w' s' σ' H' i l R hl => by
  obtain ⟨xs, h1, h2⟩ := h P' w' s' σ' H' l R hl
  refine ⟨fun d hd => ?_, fun hn => ⟨xs, h1, by rw [h2.length]; simpa using hn⟩⟩
  rw [List.getElem?_map] at hd
  obtain ⟨p, hp, rfl⟩ := Option.map_eq_some_iff.mp hd
  rw [List.getElem?_zipIdx] at hp
  obtain ⟨d, hd', rfl⟩ := Option.map_eq_some_iff.mp hp
  obtain ⟨x, h3, h4⟩ := h2.get hd'
  refine ⟨⟨xs, x, h1, h3⟩, fun v H'' ⟨T, x', e1, e2, e3, hx⟩ => ?_⟩
  have h5 := hx xs h1
  rw [h3] at h5
  cases h5
  refine .inr ⟨T, _, e1, e2, e3, ⟨_, rfl, .cons ?_ (.cons h4 .nil)⟩, fun z => nomatch z⟩
  show V.int _ = V.int _
  simp
theorem itok_revL (h : StandsL e.K e.mg w lk ds a) : ItOk e w lk ds.reverse (Itv e.K a ds.length) := fun P' w' s' σ' H' i l R hl => by
  obtain ⟨xs, h1, h2⟩ := h P' w' s' σ' H' l R hl
  refine ⟨fun d hd => ?_, fun hn => by show ds.length ≤ i; simpa using hn⟩
  have hi : i < ds.length := by simpa using (List.getElem?_eq_some_iff.mp hd).1
  rw [List.getElem?_reverse hi] at hd
  obtain ⟨x, h3, h4⟩ := h2.get hd
  refine ⟨⟨hi, xs, x, h1, h3⟩, fun y H'' ⟨e1, hy⟩ => ?_⟩
  have h5 := hy xs h1
  rw [h3] at h5
  cases h5
  exact e1 ▸ new_atom h4
theorem itok_revT (h : StandsT e.K e.mg w lk ds a) : ItOk e w lk ds.reverse (ItvT e.K a ds.length) := fun P' w' s' σ' H' i l R hl => by
  obtain ⟨xs, h1, h2⟩ := h P' w' s' σ' H' l R hl
  refine ⟨fun d hd => ?_, fun hn => by show ds.length ≤ i; simpa using hn⟩
  have hi : i < ds.length := by simpa using (List.getElem?_eq_some_iff.mp hd).1
  rw [List.getElem?_reverse hi] at hd
  obtain ⟨x, h3, h4⟩ := h2.get hd
  refine ⟨⟨hi, xs, x, h1, h3⟩, fun y H'' ⟨e1, hy⟩ => ?_⟩
  have h5 := hy xs h1
  rw [h3] at h5
  cases h5
  exact e1 ▸ new_atom h4
end
section
variable {X : Cx} {g : Ct} {e : En} {W : WX} {a b c tg : Expr} {es : List Expr} {pos p : Pos}
theorem stands_eq {e : En} {w : Wd} {lk : List (Rv × D)} {ds : List D} {a a' : Addr} (h : StandsL e.K e.mg w lk ds a) (q : V.ref a' = .ref a) : StandsL e.K e.mg w lk ds a' := by cases q; exact h
theorem ex_seq (ok : CtOk X g e W) {t : E} (h : PE X a (tE e W (ev e.P t))) : PI X tg a (tI e W (evIt e.P (.seq t))) := by
  refine ⟨fun pins s0 σ H Rr I ⟨P, w, s, R, A⟩ => ?_⟩
  rw [evIt] at A
  -- what the run says of the value
  have main : ∀ v s1 w1 H1 x, ev e.P t s = .ok v s1 → e.rel P w1 s1 σ H1 → Now e.K e.mg P w1 s1 σ H1 v x →
      After e (fun c d H => W c d σ H) P w1 σ (PyE.R.of (walkD v s1) s1) (fun p s' w' H' => ∀ J, ItOk e w' p.2 p.1 J → Rr J H') →
      ∃ w2 ds lk d, e.rel P w2 s1 σ H1 ∧ rd s1 v = some d ∧ itemsW d = some ds ∧ (d.isL = true → ∃ a, x = .ref a ∧ StandsL e.K e.mg w2 lk ds a ∧ ∃ xs, SqL e.K H1 a xs) ∧ (d.isT = true → ∃ a, x = .ref a ∧ StandsT e.K e.mg w2 lk ds a ∧ ∃ xs, SqT e.K H1 a xs) ∧
        (∀ z, d = .str z → x = .str ⟨z.toArray⟩ ∧ z.length ≤ SL ∧ z.all (· < 1114112) = true) ∧ ∀ J, ItOk e w2 lk ds J → Rr J H1 := fun v s1 w1 H1 x eq R1 n q => by
    obtain ⟨pr, hw, q⟩ := q.of
    obtain ⟨w2, l2, R2, hv⟩ := n.hold R1
    obtain ⟨d, h1, h2, h3, h4, h5⟩ := walk_stands R2 hv (ds := pr.1) (lk := pr.2) hw
    exact ⟨w2, pr.1, pr.2, d, R2, h1, h2, h3, h4, h5, q w2 H1 l2 R2⟩
  by_cases hT : ∃ v s1 d, ev e.P t s = .ok v s1 ∧ rd s1 v = some d ∧ d.isT = true
  · obtain ⟨v0, s0', d0, e0, e1, e2⟩ := hT
    refine (pi_tup (tg := tg) h).run pins s0 σ H Rr I ⟨P, w, s, R, A.bind.impE fun v s1 w1 H1 eq l1 R1 q x n => ?_⟩
    rw [e0] at eq
    cases eq
    obtain ⟨w2, ds, lk, d, R2, h1, h2, h3, h4, h5, q⟩ := main v0 s0' w1 H1 x e0 R1 n q
    rw [e1] at h1
    cases h1
    obtain ⟨a, rfl, st, xs, hx⟩ := h4 e2
    exact ⟨a, rfl, ⟨xs, by rw [ok.K]; exact hx⟩, by rw [ok.K]; exact q _ (itok_tup st)⟩
  · by_cases hS : ∃ v s1 z, ev e.P t s = .ok v s1 ∧ rd s1 v = some (.str z)
    · obtain ⟨v0, s0', z, e0, e1⟩ := hS
      refine (pi_str (tg := tg) h).run pins s0 σ H Rr I ⟨P, w, s, R, A.bind.impE fun v s1 w1 H1 eq l1 R1 q x n => ?_⟩
      rw [e0] at eq
      cases eq
      obtain ⟨w2, ds, lk, d, R2, h1, h2, h3, h4, h5, q⟩ := main v0 s0' w1 H1 x e0 R1 n q
      rw [e1] at h1
      cases h1
      cases h2
      obtain ⟨rfl, _, ha⟩ := h5 z rfl
      exact ⟨_, rfl, q _ (itok_str ha)⟩
    · refine (pi_list (tg := tg) h).run pins s0 σ H Rr I ⟨P, w, s, R, A.bind.impE fun v s1 w1 H1 eq l1 R1 q x n => ?_⟩
      obtain ⟨w2, ds, lk, d, R2, h1, h2, h3, h4, h5, q⟩ := main v s1 w1 H1 x eq R1 n q
      have hL : d.isL = true := by
        cases d with
        | lst _ => rfl
        | giv _ => rfl
        | tup _ => exact absurd ⟨v, s1, _, eq, h1, rfl⟩ hT
        | git _ => exact absurd ⟨v, s1, _, eq, h1, rfl⟩ hT
        | str z => exact absurd ⟨v, s1, z, eq, h1⟩ hS
        | _ => cases h2
      obtain ⟨a, rfl, st, xs, hx⟩ := h3 hL
      exact ⟨a, rfl, ⟨xs, by rw [ok.K]; exact hx⟩, by rw [ok.K]; exact q _ (itok_list st)⟩
theorem ex_rng1 (ok : CtOk X g e W) {t : E} (hg : globB g.sc "range" = true) (hs : noStar a = true) (h : PA X [a] (tK e W (evs e.P [t]))) : PI X tg (.Call (.Name "range" p) [a] [] pos) (tI e W (evIt e.P (.rng [t]))) :=
  pi_mono (pi_range1 (glob_of ok.sc hg) (ok.blt "range" (by decide +kernel)) h (star_cons hs [] X.env)) fun σ H Rr ⟨P, w, s, R, A⟩ => by
    rw [evIt] at A
    refine ⟨P, w, s, R, A.bind.impE fun ds s1 w1 H1 eq l1 R1 q xs r => ?_⟩
    have hn := evs_len eq
    match ds, hn, q, r with
    | [.int j], _, q, r =>
      obtain ⟨x, rfl, rx⟩ := reps_one r
      cases (show x = _ from rx)
      simp only at q
      split at q
      · rename_i hz
        refine ⟨j, rfl, hz.1, hz.2, q w1 H1 (.refl w1) R1 _ ?_⟩
        have := itok_rng (e := e) (w := w1) (lk := []) 0 j.toNat
        simpa using this
      · exact q.elim
    | [.non], _, q, _ | [.bl _], _, q, _ | [.str _], _, q, _ | [.tup _], _, q, _ | [.lst _], _, q, _ | [.dct _], _, q, _ | [.ref _], _, q, _ | [.fn _], _, q, _ | [.clo _ _], _, q, _ | [.exc _ _], _, q, _ | [.giv _], _, q, _ | [.git _], _, q, _ => exact q.elim
theorem ex_rng2 (ok : CtOk X g e W) {t u : E} (hg : globB g.sc "range" = true) (hs : noStar a = true) (hs2 : noStar b = true) (h : PA X [a, b] (tK e W (evs e.P [t, u]))) : PI X tg (.Call (.Name "range" p) [a, b] [] pos) (tI e W (evIt e.P (.rng [t, u]))) :=
  pi_mono (pi_range2 (glob_of ok.sc hg) (ok.blt "range" (by decide +kernel)) h (by rw [star_cons hs, star_cons hs2]; rfl) (star_cons hs2 [] X.env)) fun σ H Rr ⟨P, w, s, R, A⟩ => by
    rw [evIt] at A
    refine ⟨P, w, s, R, A.bind.impE fun ds s1 w1 H1 eq l1 R1 q xs r => ?_⟩
    have hn := evs_len eq
    match ds, hn, q, r with
    | [d1, d2], _, q, r =>
      obtain ⟨x, y, rfl, rx, ry⟩ := reps_two r
      cases d1 with
      | int i =>
        cases d2 with
        | int j =>
          cases (show x = _ from rx)
          cases (show y = _ from ry)
          simp only at q
          split at q
          · rename_i hz
            exact ⟨i, j, rfl, hz, q w1 H1 (.refl w1) R1 _ (itok_rng i (j - i).toNat)⟩
          · exact q.elim
        | _ => exact q.elim
      | _ => exact q.elim
theorem ex_zip (ok : CtOk X g e W) {t u : E} {ts : List Expr} {k : Nat} {tp : Pos} (hg : globB g.sc "zip" = true) (hs : noStar a = true) (hs2 : noStar b = true) (ha : PE X a (tE e W (ev e.P t))) (hb : PE X b (tE e W (ev e.P u))) :
    PI X (.Tuple ts k tp) (.Call (.Name "zip" p) [a, b] [] pos) (tI e W (evIt e.P (.zip t u))) :=
  pi_mono (pi_zipA (glob_of ok.sc hg) (ok.blt "zip" (by decide +kernel)) (pa_cons ha (pa_cons hb pa_nil (star_cons hs2 [] X.env)) (star_cons hs _ X.env)) (star_cons hs _ X.env) (star_none pos X.env (by rw [List.all_cons, hs2]; rfl))) fun σ H Rr ⟨P, w, s, R, A⟩ => by
    rw [evIt] at A
    refine ⟨P, w, s, R, A.bind.imp fun v s1 w1 H1 l1 R1 q x n => ?_⟩
    obtain ⟨w2, l2, R2, hv⟩ := n.hold R1
    have q := q.mono l2
    refine ⟨P, w2, s1, R2, After.imp (After.bind q) fun v2 s3 w3 H3 l3 R3 q y n3 => ?_⟩
    obtain ⟨w4, l4, R4, hu⟩ := n3.hold R3
    have hv4 := (hv.mono l3).mono l4
    cases e1 : rd s3 v with
    | none => simp only [e1] at q; exact q.elim
    | some dx =>
      cases e2 : rd s3 v2 with
      | none => simp only [e1, e2] at q; exact q.elim
      | some dy =>
        simp only [e1, e2] at q
        split at q
        · rename_i hk
          obtain ⟨pr, hw, q⟩ := q.of
          obtain ⟨wa, h1, hw⟩ := Option.bind_eq_some_iff.mp hw
          obtain ⟨wb, h2, rfl⟩ := Option.map_eq_some_iff.mp hw
          obtain ⟨d1, k1, k2, k3, k4, _⟩ := walk_stands R4 hv4 (ds := wa.1) (lk := wa.2) h1
          obtain ⟨d2, j1, j2, j3, j4, _⟩ := walk_stands R4 hu (ds := wb.1) (lk := wb.2) h2
          rw [e1] at k1
          rw [e2] at j1
          cases k1
          cases j1
          have q := q w4 H3 l4 R4
          have la : ∀ s, locked (wa.2 ++ wb.2) s = true → locked wa.2 s = true := fun s z => by rw [locked_app, Bool.and_eq_true] at z; exact z.1
          have lb : ∀ s, locked (wa.2 ++ wb.2) s = true → locked wb.2 s = true := fun s z => by rw [locked_app, Bool.and_eq_true] at z; exact z.2
          rw [Bool.or_eq_true, Bool.and_eq_true, Bool.and_eq_true] at hk
          rcases hk with hk | hk
          · obtain ⟨a1, rfl, st1, xs, hx⟩ := k4 hk.1
            obtain ⟨a2, rfl, st2, ys, hy⟩ := j4 hk.2
            refine ⟨a1, a2, xs, ys, rfl, .inr ⟨by rw [ok.K]; exact hx, by rw [ok.K]; exact hy, ?_⟩⟩
            rw [ok.K]
            exact q _ (itok_zipT (st1.more (.refl w4) la) (st2.more (.refl w4) lb))
          · obtain ⟨a1, rfl, st1, xs, hx⟩ := k3 hk.1
            obtain ⟨a2, rfl, st2, ys, hy⟩ := j3 hk.2
            refine ⟨a1, a2, xs, ys, rfl, .inl ⟨by rw [ok.K]; exact hx, by rw [ok.K]; exact hy, ?_⟩⟩
            rw [ok.K]
            exact q _ (itok_zipL (st1.more (.refl w4) la) (st2.more (.refl w4) lb))
        · exact q.elim
theorem ex_enum (ok : CtOk X g e W) {t : E} {ts : List Expr} {k : Nat} {tp : Pos} (hg : globB g.sc "enumerate" = true) (hs : noStar a = true) (ha : PE X a (tE e W (ev e.P t))) : PI X (.Tuple ts k tp) (.Call (.Name "enumerate" p) [a] [] pos) (tI e W (evIt e.P (.enum t))) :=
  pi_mono (pi_enumA (glob_of ok.sc hg) (ok.blt "enumerate" (by decide +kernel)) (pa_cons ha pa_nil (star_cons hs [] X.env)) (star_cons hs [] X.env)) fun σ H Rr ⟨P, w, s, R, A⟩ => by
    rw [evIt] at A
    refine ⟨P, w, s, R, A.bind.imp fun v s1 w1 H1 l1 R1 q x n => ?_⟩
    obtain ⟨w2, l2, R2, hv⟩ := n.hold R1
    cases e1 : rd s1 v with
    | none => simp only [e1] at q; exact q.elim
    | some dx =>
      simp only [e1] at q
      split at q
      · rename_i hk
        obtain ⟨pr, hw, q⟩ := q.of
        obtain ⟨wa, h1, rfl⟩ := Option.map_eq_some_iff.mp hw
        obtain ⟨d1, k1, k2, k3, k4, _⟩ := walk_stands R2 hv (ds := wa.1) (lk := wa.2) h1
        rw [e1] at k1
        cases k1
        rcases (Bool.or_eq_true _ _).mp hk with hk | hk
        · obtain ⟨a1, rfl, st1, xs, hx⟩ := k3 hk
          refine ⟨a1, xs, rfl, .inl ⟨by rw [ok.K]; exact hx, ?_⟩⟩
          rw [ok.K]
          exact q w2 H1 l2 R2 _ (itok_enum st1)
        · obtain ⟨a1, rfl, st1, xs, hx⟩ := k4 hk
          refine ⟨a1, xs, rfl, .inr ⟨by rw [ok.K]; exact hx, ?_⟩⟩
          rw [ok.K]
          exact q w2 H1 l2 R2 _ (itok_enumT st1)
      · exact q.elim
theorem ex_itrev (ok : CtOk X g e W) {t : E} (hg : globB g.sc "reversed" = true) (hs : noStar a = true) (ha : PE X a (tE e W (ev e.P t))) : PI X tg (.Call (.Name "reversed" p) [a] [] pos) (tI e W (evIt e.P (.rev t))) :=
  pi_mono (pi_revA (glob_of ok.sc hg) (ok.blt "reversed" (by decide +kernel)) ha (star_cons hs [] X.env)) fun σ H Rr ⟨P, w, s, R, A⟩ => by
    rw [evIt] at A
    refine ⟨P, w, s, R, A.bind.imp fun v s1 w1 H1 l1 R1 q x n => ?_⟩
    obtain ⟨w2, l2, R2, hv⟩ := n.hold R1
    cases e1 : rd s1 v with
    | none => simp only [e1] at q; exact q.elim
    | some dx =>
      simp only [e1] at q
      split at q
      · rename_i hk
        obtain ⟨pr, hw, q⟩ := q.of
        obtain ⟨wa, h1, rfl⟩ := Option.map_eq_some_iff.mp hw
        obtain ⟨d1, k1, k2, k3, k4, _⟩ := walk_stands R2 hv (ds := wa.1) (lk := wa.2) h1
        rw [e1] at k1
        cases k1
        have q := q w2 H1 l2 R2
        rw [Bool.or_eq_true] at hk
        rcases hk with hk | hk
        · obtain ⟨a1, rfl, st1, xs, hx⟩ := k3 hk
          obtain ⟨ys, hy, ry⟩ := st1 P w2 s1 σ H1 (.refl w2) R2 (walk_locked h1)
          refine ⟨a1, ys, rfl, .inl ⟨by rw [ok.K]; exact hy, ?_⟩⟩
          rw [ok.K, ry.length]
          exact q _ (itok_revL st1)
        · obtain ⟨a1, rfl, st1, xs, hx⟩ := k4 hk
          obtain ⟨ys, hy, ry⟩ := st1 P w2 s1 σ H1 (.refl w2) R2 (walk_locked h1)
          refine ⟨a1, ys, rfl, .inr ⟨by rw [ok.K]; exact hy, ?_⟩⟩
          rw [ok.K, ry.length]
          exact q _ (itok_revT st1)
      · exact q.elim
end
end PyE
end
section
set_option linter.all false
set_option autoImplicit false
set_option maxRecDepth 100000
set_option maxHeartbeats 1000000
/-! PyTg: what statements leave; targets. -/
namespace PyE
open PySem PySem.Spec PyProof.Rows L2

/-- behind a run that may change the slots -/
def AfterS {α : Type} (e : En) (W : WX) (P : Hp) (w : Wd) (r : R α) (Q : α → S → Wd → L2.St → Hp → Prop) : Prop := match r with
  | .ok a s => ∀ w' σ' H', w.Le w' → e.rel P w' s σ' H' → Q a s w' σ' H'
  | .exc c vs s => ∀ w' σ' H' C d, w.Le w' → e.rel P w' s σ' H' → e.xrep w' H' c vs C d → W (.ref C) (some d) σ' H'
  | .stuck => False
section
variable {α β : Type} {e : En} {W : WX} {P : Hp} {w w' : Wd} {σ : L2.St} {r : R α} {Q Q' : α → S → Wd → L2.St → Hp → Prop}
theorem AfterS.mono (h : w.Le w') (a : AfterS e W P w r Q) : AfterS e W P w' r Q := by
  cases r with
  | ok x s => exact fun u τ H' l R => a u τ H' (h.trans l) R
  | exc c vs s => exact fun u τ H' C d l R X => a u τ H' C d (h.trans l) R X
  | stuck => exact a
theorem AfterS.imp (a : AfterS e W P w r Q) (h : ∀ x s w' τ H', w.Le w' → e.rel P w' s τ H' → Q x s w' τ H' → Q' x s w' τ H') : AfterS e W P w r Q' := by
  cases r with
  | ok x s => exact fun u τ H' l R => h x s u τ H' l R (a u τ H' l R)
  | exc c vs s => exact a
  | stuck => exact a
theorem AfterS.bind {g : α → S → R β} {Q : β → S → Wd → L2.St → Hp → Prop} (a : AfterS e W P w (r.bind g) Q) : AfterS e W P w r (fun x s w' _ _ => AfterS e W P w' (g x s) Q) := by
  cases r with
  | ok x s => exact fun u τ H' l R => AfterS.mono l a
  | exc c vs s => exact a
  | stuck => exact a
theorem AfterS.expr {g : α → S → R β} {Q : β → S → Wd → L2.St → Hp → Prop} (a : AfterS e W P w (r.bind g) Q) : After e (fun c d H => W c d σ H) P w σ r (fun x s w' _ => AfterS e W P w' (g x s) Q) := by
  cases r with
  | ok x s => exact fun u H' l R => AfterS.mono l a
  | exc c vs s => exact fun u H' C d l R X => a u σ H' C d l R X
  | stuck => exact a
theorem AfterS.of {o : Option α} {s : S} (a : AfterS e W P w (R.of o s) Q) : ∃ x, o = some x ∧ ∀ w' σ' H', w.Le w' → e.rel P w' s σ' H' → Q x s w' σ' H' := by
  cases o with
  | none => exact a.elim
  | some x => exact ⟨x, rfl, a⟩
end
/-- a target -/
def tG (e : En) (W : WX) (Fr : L2.St → Prop) (t : T) : TG := fun v σ H Q => ∃ P w s d fr, Fr σ ∧ e.rel P w s σ H ∧ Now e.K e.mg P w s σ H (.val d fr) v ∧ AfterS e W P w (tset e.P t d fr s) (fun _ s' w' σ' H' => Fr σ' → Q σ' H')
def tGs (e : En) (W : WX) (Fr : L2.St → Prop) (ts : List T) : TGs := fun vs σ H Q => ∃ P w s ds, Fr σ ∧ e.rel P w s σ H ∧ RepVs e.K e.mg w ds vs ∧ AfterS e W P w (tsets e.P ts ds s) (fun _ s' w' σ' H' => Fr σ' → Q σ' H')
/-- what is known of the slots stands through a target's names -/
def FrOk (Fr : L2.St → Prop) (is : List Nat) : Prop := ∀ i ∈ is, ∀ (σ : L2.St) (v : V), Fr σ → Fr (σ.set i (some v))
theorem pg_mono {X : Cx} {a : Expr} {t t' : TG} (h : PG X a t) (k : ∀ v σ H Q, t' v σ H Q → t v σ H Q) : PG X a t' := ⟨fun pins s σ H v u Q I r q => h.run pins s σ H v u Q I r (k v σ H Q q)⟩
theorem pgs_mono {X : Cx} {a : List Expr} {t t' : TGs} (h : PGs X a t) (k : ∀ v σ H Q, t' v σ H Q → t v σ H Q) : PGs X a t' := ⟨fun pins s σ H v u Q I r q => h.run pins s σ H v u Q I r (k v σ H Q q)⟩
section
variable {X : Cx} {g : Ct} {e : En} {W : WX} {Fr : L2.St → Prop} {a b : Expr} {es : List Expr} {pos p : Pos}
theorem tg_nm (ok : CtOk X g e W) {x : Str} {i : Nat} {ow : Bool} (hF : FrOk Fr [i]) (h1 : locB g.bsc x = true) (h2 : ixOf x g.N = some i) : PG X (.Name x p) (tG e W Fr (.nm i ow)) := by
  obtain ⟨b1, b2⟩ := ok.bnd x h1
  refine pg_mono (pg_name (by rw [ok.N]; exact ok.nd) (by rw [ok.N]; exact ixOf_get h2) b1 b2) fun v σ H Q ⟨P, w, s, d, fr, F, R, n, A⟩ => ?_
  rw [tset] at A
  split at A
  · cases ow with
    | false =>
      obtain ⟨w2, l2, R2, hd⟩ := n.hold R
      exact A w2 _ H l2 (R2.nameFz hd) (hF i (by simp) σ v F)
    | true =>
      cases fr with
      | true => exact A w _ H (.refl w) (R.nameOwn n) (hF i (by simp) σ v F)
      | false => exact A w _ H (.refl w) (R.nameFz n) (hF i (by simp) σ v F)
  · exact A.elim
theorem tgs_nil : PGs X [] (tGs e W Fr []) := pgs_mono pgs_nil fun vs σ H Q ⟨P, w, s, ds, F, R, r, A⟩ => by
  cases ds with
  | nil =>
    rw [tsets] at A
    exact ⟨r, A w σ H (.refl w) R F⟩
  | cons d ds =>
    have e1 : tsets e.P [] (d :: ds) s = .stuck := by rw [tsets] <;> simp
    rw [e1] at A; exact A.elim
theorem each_cons (h : noStar a = true) (env : Env) : (assignEach (a :: es) env).map (·.2) = assign a env :: (assignEach es env).map (·.2) ∧ assignEach (a :: es) env = (false, assign a env) :: assignEach es env := by
  cases a <;> first | exact ⟨rfl, rfl⟩ | cases h
theorem each_len : ∀ {es : List Expr} (env : Env), (assignEach es env).length = es.length
  | [], _ => rfl
  | a :: es, env => by
    cases a <;> simp [assignEach, each_len env]
theorem each_star : ∀ {es : List Expr} (env : Env), es.all noStar = true → (assignEach es env).findIdx? (·.1) = none
  | [], _, _ => rfl
  | a :: es, env, h => by
    rw [List.all_cons, Bool.and_eq_true] at h
    rw [(each_cons h.1 env).2, List.findIdx?_cons]
    simp [each_star env h.2]
theorem tgs_cons {t : T} {ts : List T} (hs : noStar a = true) (h : PG X a (tG e W Fr t)) (hr : PGs X es (tGs e W Fr ts)) : PGs X (a :: es) (tGs e W Fr (t :: ts)) :=
  pgs_mono (pgs_cons h hr (each_cons hs X.env).1) fun vs σ H Q ⟨P, w, s, ds, F, R, r, A⟩ => by
    cases ds with
    | nil =>
      have e1 : tsets e.P (t :: ts) [] s = .stuck := by rw [tsets] <;> simp
      rw [e1] at A; exact A.elim
    | cons d ds =>
      obtain ⟨v, vr, rfl, r1, r2⟩ := r
      rw [tsets] at A
      exact ⟨v, vr, rfl, P, w, s, d, false, F, R, r1, A.bind.imp fun _ s1 w1 σ1 H1 l1 R1 q F1 => ⟨P, w1, s1, ds, F1, R1, r2.mono l1, q⟩⟩
theorem tg_tup (ok : CtOk X g e W) {ts : List T} {k : Nat} (hs : es.all noStar = true) (hn : ts.length = es.length) (h : PGs X es (tGs e W Fr ts)) : PG X (.Tuple es k pos) (tG e W Fr (.tup ts)) :=
  pg_mono (pg_tup ok.calm h (each_len X.env) (each_star X.env hs)) fun v σ H Q ⟨P, w, s, d, fr, F, R, n, A⟩ => by
    cases d with
    | tup ds =>
      rw [tset] at A
      split at A
      · rename_i hl
        cases fr with
        | true => obtain ⟨⟨_, o, _, _, ⟨_, rfl, _⟩, m⟩, _⟩ := n; exact m.elim
        | false =>
          obtain ⟨a1, xs, rfl, s1, r1⟩ := n
          exact ⟨a1, xs, rfl, .of (R.g _ _ s1), by rw [r1.length, ← hl, hn], P, w, s, ds, F, R, r1, A⟩
      · exact A.elim
    | _ =>
      rw [tset] at A
      · exact A.elim
      · intro ds z; cases z
/-- o[i] = v, of lists and dicts -/
def rSet (e : En) : TSet := fun o i v H Q => ∃ w a ob d k x d', (∀ a o, w.G a = some o → H a = some o) ∧ o = .ref a ∧ H a = some ob ∧ ORep e.K e.mg w ob d ∧ RepV e.K e.mg w k i ∧ RepV e.K e.mg w x v ∧ setD d k x = some d' ∧ ∀ ob', ORep e.K e.mg w ob' d' → Mut (some ob') → Q (upd H a ob')
theorem repks_map {K : PySem.W.Frag} {mg : Str → Option Value} {w : Wd} {x : D} {v : V} (key : Key) (r : RepV K mg w x v) : ∀ {kvs : List (D × D)} {xs : List (Key × V)}, RepKs K mg w kvs xs → RepKs K mg w (kvs.map fun p => if p.1 = keyD key then (p.1, x) else p) (xs.map fun q => if q.1 = key then (q.1, v) else q)
  | [], _, e => by cases (show _ = [] from e); exact rfl
  | (j, d) :: rr, _, ⟨k, y, t, e, p, q⟩ => by
    subst e
    have ih := repks_map key r q
    obtain ⟨p1, p2⟩ := p
    rw [List.map_cons, List.map_cons]
    by_cases h : k = key
    · subst h
      rw [if_pos p1.symm, if_pos rfl]
      exact ⟨_, _, _, rfl, ⟨p1, r⟩, ih⟩
    · rw [if_neg (fun z => h (keyD_inj (p1.trans z))), if_neg h]
      exact ⟨_, _, _, rfl, ⟨p1, p2⟩, ih⟩
theorem repks_any {K : PySem.W.Frag} {mg : Str → Option Value} {w : Wd} (key : Key) : ∀ {kvs : List (D × D)} {xs : List (Key × V)}, RepKs K mg w kvs xs → (kvs.any fun p => decide (p.1 = keyD key)) = xs.any fun q => decide (q.1 = key)
  | [], _, e => by cases (show _ = [] from e); rfl
  | (j, d) :: rr, _, ⟨k, y, t, e, p, q⟩ => by
    subst e
    obtain ⟨p1, p2⟩ := p
    rw [List.any_cons, List.any_cons, repks_any key q]
    congr 1
    by_cases h : k = key
    · rw [decide_eq_true (show j = keyD key from by rw [← p1, h]), decide_eq_true h]
    · rw [decide_eq_false (fun z => h (keyD_inj (p1.trans z))), decide_eq_false h]
theorem repks_snoc {K : PySem.W.Frag} {mg : Str → Option Value} {w : Wd} {x : D} {v : V} (key : Key) (r : RepV K mg w x v) : ∀ {kvs : List (D × D)} {xs : List (Key × V)}, RepKs K mg w kvs xs → RepKs K mg w (kvs ++ [(keyD key, x)]) (xs ++ [(key, v)])
  | [], _, e => by cases (show _ = [] from e); exact ⟨_, _, _, rfl, ⟨rfl, r⟩, rfl⟩
  | (j, d) :: rr, _, ⟨k, y, t, e, p, q⟩ => by
    subst e
    exact ⟨_, _, _, rfl, p, repks_snoc key r q⟩
theorem repks_put {K : PySem.W.Frag} {mg : Str → Option Value} {w : Wd} {x : D} {v : V} {kvs : List (D × D)} {xs : List (Key × V)} (key : Key) (h : RepKs K mg w kvs xs) (r : RepV K mg w x v) : RepKs K mg w (putK kvs (keyD key) x) (L2.putK xs key v) := by
  unfold putK L2.putK
  rw [repks_any key h]
  split
  · exact repks_map key r h
  · exact repks_snoc key r h
theorem set_any (ok : CtOk X g e W) : PSet X (rSet e) := by
  intro pins s σ H o i v ov iv u Q I ro ri rv hh
  obtain ⟨w, a, ob, d, k, x, d', hG, rfl, ha, hob, rk, rx, hs, q⟩ := hh
  unfold setD at hs
  split at hs
  · rename_i ds j
    obtain ⟨m, h1, rfl⟩ := Option.map_eq_some_iff.mp hs
    obtain ⟨vs, rfl, r1⟩ := orep_lst hob
    cases (show i = _ from rk)
    exact set_list pins s σ H _ _ v ov iv u Q I ro ri rv ⟨a, vs, j, m, rfl, rfl, ha, by rw [r1.length]; exact h1, q _ ⟨_, rfl, r1.set m rx⟩ trivial⟩
  · rename_i kvs
    split at hs
    · rename_i hk
      rw [Bool.and_eq_true] at hk
      cases hs
      obtain ⟨vs, rfl, r1⟩ := (show ∃ vs, ob = .dK vs ∧ RepKs e.K e.mg w kvs vs from hob)
      obtain ⟨key, rfl, hd⟩ : ∃ key : Key, i = kV key ∧ keyD key = k := by
        cases k with
        | int n => exact ⟨.inl n, rk, rfl⟩
        | str z => exact ⟨.inr ⟨z.toArray⟩, rk.1, rfl⟩
        | _ => simp [okK, D.akey] at hk
      have hl : kvs.length < SL := of_decide_eq_true hk.2
      refine set_dict (Nat.lt_of_le_of_lt (Nat.add_le_add_left (by decide) _) ok.un) pins s σ H _ _ v ov iv u Q I ro ri rv ⟨a, _, rfl, DPut.k (k := key) ha (by rw [r1.length, ← sl_eq]; exact hl), q _ ⟨_, rfl, hd ▸ repks_put key r1 rx⟩ trivial⟩
    · cases hs
  · cases hs
theorem asg_sub (h : noSlice b = true) (env : Env) : ∀ v, assign (.Subscript a b pos) env v = (do
      let ov ← holding [v] (eval a env)
      let iv ← holding [v, ov] (eval b env)
      standAt pos
      holding [v, ov, iv] (setItem ov iv v)
      release [v, ov, iv] []) := by
  intro v
  cases b <;> first | rfl | cases h
theorem tg_sub (ok : CtOk X g e W) {ta ti : E} (hs : noSlice b = true) (ha : PE X a (tE e W (ev e.P ta))) (hb : PE X b (tE e W (ev e.P ti))) : PG X (.Subscript a b pos) (tG e W Fr (.sub ta ti)) :=
  pg_mono (pg_sub ha hb (set_any ok) (asg_sub hs X.env)) fun v σ H Q ⟨P, w, s, d, fr, F, R, n, A⟩ => by
    rw [tset] at A
    obtain ⟨w0, l0, R0, hd⟩ := n.hold R
    have A := A.mono l0
    refine ⟨P, w0, s, R0, A.expr.imp fun o1 s1 w1 H1 l1 R1 q x n1 => ?_⟩
    obtain ⟨w2, l2, R2, ho⟩ := n1.hold R1
    have q := q.mono l2
    refine ⟨P, w2, s1, R2, (AfterS.expr q).imp fun i1 s3 w3 H3 l3 R3 q y n3 => ?_⟩
    obtain ⟨w4, l4, R4, hi⟩ := n3.hold R3
    have q := q.mono l4
    cases i1 with
    | loc j => exact q.elim
    | val k kf =>
      have q : AfterS e W P w4 (match rd s3 o1 with
        | some o => (PyE.R.of ((setD o k d).bind fun o' => put o1 o' s3) s3).bind fun s' _ => PyE.R.ok () s'
        | none => .stuck) (fun _ s' w' σ' H' => Fr σ' → Q σ' H') := (AfterS.bind q) w4 σ H3 (.refl w4) R4
      cases e1 : rd s3 o1 with
      | none => rw [e1] at q; exact q.elim
      | some d0 =>
        rw [e1] at q
        obtain ⟨s5, hp, q⟩ := AfterS.of (AfterS.bind q)
        obtain ⟨o', h1, h2⟩ := Option.bind_eq_some_iff.mp hp
        obtain ⟨a0, ob, rfl, h3, h4, h5, h6⟩ := put_at R4 ((ho.mono l3).mono l4) e1 h2
        refine ⟨w4, a0, ob, _, k, d, o', R4.g, rfl, h3, h4, hi, RepV.mono ((l1.trans l2).trans (l3.trans l4)) _ _ hd, h1, fun ob' k1 k2 => ?_⟩
        have q := q w4 σ H3 (.refl w4) R4
        exact q w4 σ _ (.refl w4) (h6 ob' k1 k2) F
end
end PyE
end
section
set_option linter.all false
set_option autoImplicit false
set_option maxRecDepth 100000
set_option maxHeartbeats 1000000
/-! PyLc: list comprehensions. -/
namespace PyE
open PySem PySem.Spec PyProof.Rows L2

/-! ### the block's own names -/
theorem set_fold_get (l : List Slot) (own : List Nat) (f : Nat → Slot) (j : Nat) : (own.foldl (fun l i => l.set i (f i)) l)[j]? = if j ∈ own then (if j < l.length then some (f j) else none) else l[j]? := by
  induction own generalizing l with
  | nil => simp
  | cons i own ih =>
    rw [List.foldl_cons, ih, List.length_set]
    by_cases h1 : j ∈ own
    · rw [if_pos h1, if_pos (List.mem_cons_of_mem _ h1)]
    · rw [if_neg h1]
      by_cases h2 : j = i
      · subst h2
        rw [if_pos List.mem_cons_self, List.getElem?_set, if_pos rfl]
      · rw [if_neg (by simp [h1, h2]), List.getElem?_set_ne (fun z => h2 z.symm)]
theorem fold_len (l : List Slot) (own : List Nat) (f : Nat → Slot) : (own.foldl (fun l i => l.set i (f i)) l).length = l.length := by
  induction own generalizing l with
  | nil => rfl
  | cons i own ih => rw [List.foldl_cons, ih, List.length_set]
theorem wipe_get {σ : L2.St} {own : List Nat} {j : Nat} (h : j ∉ own) : (wipe σ own)[j]? = σ[j]? := by
  induction own with
  | nil => rfl
  | cons i own ih =>
    rw [List.mem_cons, not_or] at h
    unfold wipe
    rw [List.getElem?_set_ne (fun z => h.1 z.symm), ih h.2]
theorem wipe_set {σ : L2.St} {own : List Nat} {i : Nat} {v : Option V} (h : i ∈ own) : wipe (σ.set i v) own = wipe σ own := by
  apply List.ext_getElem?
  intro j
  by_cases hj : j ∈ own
  · have hn : ∀ τ : L2.St, (wipe τ own)[j]? = if j < τ.length then some none else none := fun τ => by
      clear h
      induction own with
      | nil => cases hj
      | cons k own ih =>
        unfold wipe
        by_cases hk : k = j
        · subst hk
          rw [List.getElem?_set, if_pos rfl, wipe_length]
        · rw [List.getElem?_set_ne hk]
          rcases List.mem_cons.mp hj with z | hj
          · exact absurd z.symm hk
          · exact ih hj
    rw [hn, hn, List.length_set]
  · rw [wipe_get hj, wipe_get hj, List.getElem?_set_ne (fun z => by subst z; exact hj h)]
theorem wipe_in (τ : L2.St) {own : List Nat} {j : Nat} (hj : j ∈ own) : (wipe τ own)[j]? = if j < τ.length then some none else none := by
  induction own with
  | nil => cases hj
  | cons k own ih =>
    unfold wipe
    by_cases hk : k = j
    · subst hk
      rw [List.getElem?_set, if_pos rfl, wipe_length]
    · rw [List.getElem?_set_ne hk]
      rcases List.mem_cons.mp hj with z | hj
      · exact absurd z.symm hk
      · exact ih hj
theorem wipe_twice (τ : L2.St) (own : List Nat) : wipe (wipe τ own) own = wipe τ own := by
  apply List.ext_getElem?
  intro j
  by_cases hj : j ∈ own
  · rw [wipe_in _ hj, wipe_in _ hj, wipe_length]
  · rw [wipe_get hj]
section
variable {K : PySem.W.Frag} {mg : Str → Option Value} {P : Hp} {w w' : Wd} {s s' : S} {σ σ' : L2.St} {H H' : Hp} {own : List Nat} {v : Rv} {x : V}
theorem wipeL_get {j : Nat} : (wipeL own s).loc[j]? = if j ∈ own then (if j < s.loc.length then some .emp else none) else s.loc[j]? := set_fold_get s.loc own (fun _ => .emp) j
theorem backL_get {old : List Slot} {j : Nat} : (backL own old s).loc[j]? = if j ∈ own then (if j < s.loc.length then some (old.getD j .emp) else none) else s.loc[j]? := set_fold_get s.loc own (fun i => old.getD i .emp) j
theorem wipe_slot {j : Nat} {y : Slot} (h : (wipeL own s).loc[j]? = some y) (hy : y ≠ .emp) : s.loc[j]? = some y ∧ j ∉ own := by
  rw [wipeL_get] at h
  by_cases hj : j ∈ own
  · rw [if_pos hj] at h
    split at h
    · cases h; exact absurd rfl hy
    · cases h
  · rw [if_neg hj] at h
    exact ⟨h, hj⟩
theorem Rel.wiped (R : Rel K mg P w s σ H) : Rel K mg P w (wipeL own s) (wipe σ own) H :=
  { R.toRelC with
    len := by
      show (own.foldl (fun l i => l.set i Slot.emp) s.loc).length = _
      rw [fold_len s.loc own (fun _ => .emp), wipe_length, R.len]
    fz := fun j d h => by
      obtain ⟨h1, h2⟩ := wipe_slot h (fun z => nomatch z)
      obtain ⟨v, h3, h4⟩ := R.fz j d h1
      exact ⟨v, by rw [wipe_get h2]; exact h3, h4⟩
    own := fun j d h => by
      obtain ⟨h1, h2⟩ := wipe_slot h (fun z => nomatch z)
      obtain ⟨v, h3, h4⟩ := R.own j d h1
      exact ⟨v, by rw [wipe_get h2]; exact h3, h4⟩
    apart := fun j d a h h3 => by
      obtain ⟨h1, h2⟩ := wipe_slot h (fun z => nomatch z)
      rw [wipe_get h2] at h3
      exact R.apart j d a h1 h3
    dis := fun i j d e a h k h3 k3 => by
      obtain ⟨h1, h2⟩ := wipe_slot h (fun z => nomatch z)
      obtain ⟨k1, k2⟩ := wipe_slot k (fun z => nomatch z)
      rw [wipe_get h2] at h3
      rw [wipe_get k2] at k3
      exact R.dis i j d e a h1 k1 h3 k3 }
/-- behind the block: the own names as they were -/
theorem back_slot {old : S} {j : Nat} {y : Slot} (hc : calmOwn own old = true) (hl : s.loc.length = old.loc.length) (h : (backL own old.loc s).loc[j]? = some y) : (j ∈ own ∧ old.loc[j]? = some y ∧ ∀ d, y ≠ .own d) ∨ (j ∉ own ∧ s.loc[j]? = some y) := by
  rw [backL_get] at h
  by_cases hj : j ∈ own
  · rw [if_pos hj] at h
    have hcj := List.all_eq_true.mp hc j hj
    cases q : old.loc[j]? with
    | none => rw [q] at hcj; cases hcj
    | some sl =>
      rw [q] at hcj
      have hlt := (List.getElem?_eq_some_iff.mp q).1
      rw [if_pos (by omega), List.getD_eq_getElem?_getD, q] at h
      cases h
      refine .inl ⟨hj, rfl, fun d z => ?_⟩
      simp only [Option.getD_some] at z
      rw [z] at hcj
      cases hcj
  · rw [if_neg hj] at h
    exact .inr ⟨hj, h⟩
theorem Rel.restored {old : S} {H0 : Hp} {P0 : Hp} {w0 : Wd} (R0 : Rel K mg P0 w0 old σ H0) (l : w0.Le w) (R : Rel K mg P w s σ' H) (hw : wipe σ' own = wipe σ own) (hc : calmOwn own old = true) : Rel K mg P w (backL own old.loc s) σ H := by
  have same : ∀ j, j ∉ own → σ'[j]? = σ[j]? := fun j hj => by
    rw [← wipe_get (σ := σ') hj, hw, wipe_get hj]
  have hlen : σ'.length = σ.length := by
    have := congrArg List.length hw
    rwa [wipe_length, wipe_length] at this
  have hl : s.loc.length = old.loc.length := by rw [R.len, R0.len, hlen]
  exact { R.toRelC with
    len := by
      show (own.foldl (fun l i => l.set i (old.loc.getD i .emp)) s.loc).length = _
      rw [fold_len s.loc own (fun i => old.loc.getD i .emp), hl, R0.len]
    fz := fun j d h => by
      rcases back_slot hc hl h with ⟨_, h1, _⟩ | ⟨h1, h2⟩
      · obtain ⟨v, h3, h4⟩ := R0.fz j d h1
        exact ⟨v, h3, RepV.mono l _ _ h4⟩
      · obtain ⟨v, h3, h4⟩ := R.fz j d h2
        exact ⟨v, by rw [← same j h1]; exact h3, h4⟩
    own := fun j d h => by
      rcases back_slot hc hl h with ⟨_, _, h1⟩ | ⟨h1, h2⟩
      · exact absurd rfl (h1 d)
      · obtain ⟨v, h3, h4⟩ := R.own j d h2
        exact ⟨v, by rw [← same j h1]; exact h3, h4⟩
    apart := fun j d a h h3 => by
      rcases back_slot hc hl h with ⟨_, _, h1⟩ | ⟨h1, h2⟩
      · exact absurd rfl (h1 d)
      · rw [← same j h1] at h3
        exact R.apart j d a h2 h3
    dis := fun i j d e a h k h3 k3 => by
      rcases back_slot hc hl h with ⟨_, _, h1⟩ | ⟨h1, h2⟩
      · exact absurd rfl (h1 d)
      · rcases back_slot hc hl k with ⟨_, _, k1⟩ | ⟨k1, k2⟩
        · exact absurd rfl (k1 e)
        · rw [← same i h1] at h3
          rw [← same j k1] at k3
          exact R.dis i j d e a h2 k2 h3 k3 }
theorem Now.restored {old : S} {H0 : Hp} {P0 : Hp} {w0 : Wd} {d : D} (R0 : Rel K mg P0 w0 old σ H0) (R : Rel K mg P w s σ' H) (hw : wipe σ' own = wipe σ own) (hc : calmOwn own old = true) (n : Now K mg P w s σ' H (.val d true) x) : Now K mg P w (backL own old.loc s) σ H (.val d true) x := by
  have hlen : σ'.length = σ.length := by
    have := congrArg List.length hw
    rwa [wipe_length, wipe_length] at this
  have hl : s.loc.length = old.loc.length := by rw [R.len, R0.len, hlen]
  refine ⟨n.1, fun a ha => ?_⟩
  obtain ⟨h1, h2, h3, h4⟩ := n.2 a ha
  refine ⟨h1, h2, h3, fun j e k k3 => ?_⟩
  rcases back_slot hc hl k with ⟨_, _, k1⟩ | ⟨k1, k2⟩
  · exact absurd rfl (k1 e)
  · refine h4 j e k2 ?_
    rw [← wipe_get (σ := σ') k1, hw, wipe_get k1]
    exact k3
end
theorem noExc_ok {α : Type} {e : En} {Wx : XK} {P : Hp} {w : Wd} {σ : L2.St} {β : Type} {r : R α} {f : α → S → R β} {Q : β → S → Wd → Hp → Prop} (h : After e Wx P w σ ((noExc r).bind f) Q) : ∃ a s, r = .ok a s ∧ After e Wx P w σ (f a s) Q := by
  cases r with
  | ok a s => exact ⟨a, s, rfl, h⟩
  | exc c vs s => exact h.elim
  | stuck => exact h.elim
/-- a run that is known -/
theorem After.known {α : Type} {e : En} {Wx : XK} {P : Hp} {w : Wd} {σ : L2.St} {r : R α} {a : α} {s : S} {Q : α → S → Wd → Hp → Prop} (h : r = .ok a s) (k : ∀ w' H', w.Le w' → e.rel P w' s σ H' → Q a s w' H') : After e Wx P w σ r Q := by
  rw [h]; exact k
theorem AfterS.known {α : Type} {e : En} {W : WX} {P : Hp} {w : Wd} {r : R α} {a : α} {s : S} {Q : α → S → Wd → L2.St → Hp → Prop} (h : r = .ok a s) (k : ∀ w' σ' H', w.Le w' → e.rel P w' s σ' H' → Q a s w' σ' H') : AfterS e W P w r Q := by
  rw [h]; exact k
abbrev W0 : WX := fun _ _ _ _ => False
/-- a block's target: only its own names are bound -/
def tGc (e : En) (own : List Nat) (t : T) : TG := fun v σ H Q => tG e W0 (fun τ => wipe τ own = wipe σ own) t v σ H Q
theorem wipe_sub {σ τ : L2.St} {own own2 : List Nat} (h : wipe σ own2 = wipe τ own2) (hs : ∀ i ∈ own2, i ∈ own) : wipe σ own = wipe τ own := by
  have hlen : σ.length = τ.length := by
    have := congrArg List.length h
    rwa [wipe_length, wipe_length] at this
  apply List.ext_getElem?
  intro j
  by_cases hj : j ∈ own
  · rw [wipe_in _ hj, wipe_in _ hj, hlen]
  · rw [wipe_get hj, wipe_get hj, ← wipe_get (σ := σ) (fun z => hj (hs j z)), h, wipe_get (fun z => hj (hs j z))]
section
variable {X : Cx} {g : Ct} {e : En} {W : WX} {a b tg elt iter : Expr} {ifs : List Expr} {sc : Scope} {pos p : Pos}
def ELT (P : Pr) (t : E) (acc : List D) (s : S) : R (List D) := (ev P t s).bind fun v s => (keep v s).bind fun d s => if acc.length < SL then .ok (acc ++ [d]) s else .stuck
theorem lc_read {σ : L2.St} {H : Hp} {Q : VK} {own : List Nat} {t : T} {it : It} {ts : List E} {el : E} (h : tE e W (ev e.P (.comp own t it ts el)) σ H Q) :
    tLc (tI e W (evIt e.P it)) (tGc e own t) (tT e W0 (evIfs e.P ts)) (tE e W0 (ev e.P el)) own σ H Q := by
  obtain ⟨P, w, s, R, A⟩ := h
  rw [ev] at A
  refine ⟨P, w, s, R, A.bind.imp fun pr s1 w1 H1 l1 R1 q J hJ dl hD => ?_⟩
  split at q
  · rename_i hcl
    rw [Bool.and_eq_true] at hcl
    obtain ⟨accF, sF, hc, q⟩ := noExc_ok q
    have hc : compL own (fun d s => tset e.P t d false s) (fun s => evIfs e.P ts s) (ELT e.P el) pr.2 pr.1 [] s1 = .ok accF sF := hc
    have hP : P dl = none := none_of_sub R1.p hD
    refine ⟨fun i m H => m = pr.1.length - i ∧ i ≤ pr.1.length ∧ ∃ w2 s2 σ2 acc accV, w1.Le w2 ∧ e.rel (upd P dl (.lst accV)) w2 s2 σ2 H ∧ wipe σ2 own = wipe σ own ∧ RepVs e.K e.mg w2 acc accV ∧ locked pr.2 s2 = true ∧
        compL own (fun d s => tset e.P t d false s) (fun s => evIfs e.P ts s) (ELT e.P el) pr.2 (pr.1.drop i) acc s2 = .ok accF sF,
      ⟨pr.1.length, rfl, Nat.zero_le _, w1, s1, σ, [], [], .refl w1, R1.guard hD, rfl, rfl, hcl.2, hc⟩, ?_⟩
    rintro i m H2 ⟨rfl, hi, w2, s2, σ2, acc, accV, l2, R2, hw, hr, hlk, hcc⟩
    obtain ⟨j1, j2⟩ := hJ _ w2 s2 σ2 H2 i l2 R2 hlk
    by_cases hlt : i < pr.1.length
    · obtain ⟨jg, jy⟩ := j1 _ (List.getElem?_eq_getElem hlt)
      refine .inr ⟨jg, _, fun H' q => ⟨pr.1.length - (i + 1), by omega, q⟩, fun x H' y => ?_⟩
      have nr := jy x H' y
      rw [List.drop_eq_getElem_cons hlt] at hcc
      unfold compL at hcc
      obtain ⟨_, s3, h3, hcc⟩ := bind_ok hcc
      obtain ⟨bb, s4, h4, hcc⟩ := bind_ok hcc
      obtain ⟨w3, l3, R3, n3⟩ := nr.now (R2.wiped (own := own))
      rw [hw] at R3 n3
      refine ⟨_, w3, wipeL own s2, _, false, rfl, R3, n3, AfterS.known h3 fun w4 σ4 H4 l4 R4 F4 => ?_⟩
      rw [wipe_twice] at F4
      refine ⟨F4, ?_⟩
      refine ⟨_, w4, s3, R4, After.known h4 fun w5 H5 l5 R5 => ?_⟩
      cases bb with
      | false =>
        rw [if_neg (fun z => nomatch z)] at hcc ⊢
        split at hcc
        · rename_i hlk2
          exact ⟨rfl, hlt, w5, s4, σ4, acc, accV, ((l2.trans l3).trans l4).trans l5, R5, F4, ((hr.mono l3).mono l4).mono l5, hlk2, hcc⟩
        · cases hcc
      | true =>
        rw [if_pos rfl] at hcc ⊢
        obtain ⟨acc', s6, h6, hcc⟩ := bind_ok hcc
        unfold ELT at h6
        obtain ⟨v, s7, h7, h6⟩ := bind_ok h6
        refine ⟨_, w5, s4, R5, After.known h7 fun w6 H6 l6 R6 y n6 => ?_⟩
        obtain ⟨w7, l7, R7, h8⟩ := n6.hold R6
        cases v with
        | loc k => cases h6
        | val d fr =>
          have h6 : (if acc.length < SL then (PyE.R.ok (acc ++ [d]) s7 : PyE.R (List D)) else .stuck) = .ok acc' s6 := h6
          split at h6
          · rename_i hsz
            cases h6
            have lall := ((((l2.trans l3).trans l4).trans l5).trans l6).trans l7
            have r7 := ((((hr.mono l3).mono l4).mono l5).mono l6).mono l7
            refine ⟨accV, R7.guarded.1, by rw [hr.length, ← sl_eq]; exact hsz, ?_⟩
            split at hcc
            · rename_i hlk2
              exact ⟨rfl, hlt, w7, s6, σ4, acc ++ [d], accV ++ [y], lall, R7.rewrite (.lst (accV ++ [y])), F4, r7.append (.cons h8 .nil), hlk2, hcc⟩
            · cases hcc
          · cases h6
    · have he : pr.1.length ≤ i := by omega
      refine .inl ⟨j2 he, ?_⟩
      rw [List.drop_eq_nil_of_le he] at hcc
      unfold compL at hcc
      cases hcc
      obtain ⟨R3, n3⟩ := R2.built hP (d := .lst accF) ⟨_, rfl, hr⟩ trivial
      exact q w2 H2 l2 (Rel.restored R1 l2 R3 hw hcl.1) _ (Now.restored R1 R3 hw hcl.1 n3)
  · exact q.elim
theorem lc2_read {σ : L2.St} {H : Hp} {Q : VK} {own own2 : List Nat} {t t2 : T} {it it2 : It} {ts ts2 : List E} {el : E} (hs : ∀ i ∈ own2, i ∈ own) (h : tE e W (ev e.P (.comp2 own own2 t it ts t2 it2 ts2 el)) σ H Q) :
    tLc2 (tI e W (evIt e.P it)) (tGc e own t) (tT e W0 (evIfs e.P ts)) (tI e W0 (evIt e.P it2)) (tGc e own2 t2) (tT e W0 (evIfs e.P ts2)) (tE e W0 (ev e.P el)) own own2 σ H Q := by
  obtain ⟨P, w, s, R, A⟩ := h
  rw [ev] at A
  refine ⟨P, w, s, R, A.bind.imp fun pr s1 w1 H1 l1 R1 q J hJ dl hD => ?_⟩
  split at q
  · rename_i hcl
    rw [Bool.and_eq_true] at hcl
    obtain ⟨accF, sF, hc, q⟩ := noExc_ok q
    generalize hIN : (fun (acc : List D) s => (evIt e.P it2 s).bind fun w2 s => if locked w2.2 s = true then compL own2 (fun d s => tset e.P t2 d false s) (fun s => evIfs e.P ts2 s) (ELT e.P el) w2.2 w2.1 acc s else .stuck) = IN at hc
    have hc : compL own (fun d s => tset e.P t d false s) (fun s => evIfs e.P ts s) IN pr.2 pr.1 [] s1 = .ok accF sF := by rw [← hIN]; exact hc
    have hP : P dl = none := none_of_sub R1.p hD
    refine ⟨fun i m H => m = pr.1.length - i ∧ i ≤ pr.1.length ∧ ∃ w2 s2 σ2 acc accV, w1.Le w2 ∧ e.rel (upd P dl (.lst accV)) w2 s2 σ2 H ∧ wipe σ2 own = wipe σ own ∧ RepVs e.K e.mg w2 acc accV ∧ locked pr.2 s2 = true ∧
        compL own (fun d s => tset e.P t d false s) (fun s => evIfs e.P ts s) IN pr.2 (pr.1.drop i) acc s2 = .ok accF sF,
      ⟨pr.1.length, rfl, Nat.zero_le _, w1, s1, σ, [], [], .refl w1, R1.guard hD, rfl, rfl, hcl.2, hc⟩, ?_⟩
    rintro i m H2 ⟨rfl, hi, w2, s2, σ2, acc, accV, l2, R2, hw, hr, hlk, hcc⟩
    obtain ⟨j1, j2⟩ := hJ _ w2 s2 σ2 H2 i l2 R2 hlk
    by_cases hlt : i < pr.1.length
    · obtain ⟨jg, jy⟩ := j1 _ (List.getElem?_eq_getElem hlt)
      refine .inr ⟨jg, _, fun H' q => ⟨pr.1.length - (i + 1), by omega, q⟩, fun x H' y => ?_⟩
      have nr := jy x H' y
      rw [List.drop_eq_getElem_cons hlt] at hcc
      unfold compL at hcc
      obtain ⟨_, s3, h3, hcc⟩ := bind_ok hcc
      obtain ⟨bb, s4, h4, hcc⟩ := bind_ok hcc
      obtain ⟨w3, l3, R3, n3⟩ := nr.now (R2.wiped (own := own))
      rw [hw] at R3 n3
      refine ⟨_, w3, wipeL own s2, _, false, rfl, R3, n3, AfterS.known h3 fun w4 σ4 H4 l4 R4 F4 => ?_⟩
      rw [wipe_twice] at F4
      refine ⟨F4, ?_⟩
      refine ⟨_, w4, s3, R4, After.known h4 fun w5 H5 l5 R5 => ?_⟩
      cases bb with
      | false =>
        rw [if_neg (fun z => nomatch z)] at hcc ⊢
        split at hcc
        · rename_i hlk2
          exact ⟨rfl, hlt, w5, s4, σ4, acc, accV, ((l2.trans l3).trans l4).trans l5, R5, F4, ((hr.mono l3).mono l4).mono l5, hlk2, hcc⟩
        · cases hcc
      | true =>
        rw [if_pos rfl] at hcc ⊢
        obtain ⟨acc', s6, h6, hcc⟩ := bind_ok hcc
        rw [← hIN] at h6
        obtain ⟨pr2, s7, h7, h6⟩ := bind_ok h6
        split at h6
        · rename_i hlk7
          split at hcc
          · rename_i hlk6
            refine ⟨_, w5, s4, R5, After.known h7 fun w7 H7 l7 R7 J1 hJ1 => ?_⟩
            have l27 := (((l2.trans l3).trans l4).trans l5).trans l7
            have hr7 := (((hr.mono l3).mono l4).mono l5).mono l7
            refine ⟨fun j k H => k = pr2.1.length - j ∧ j ≤ pr2.1.length ∧ ∃ w8 s8 σ8 ac acV, w7.Le w8 ∧ e.rel (upd P dl (.lst acV)) w8 s8 σ8 H ∧ wipe σ8 own2 = wipe σ4 own2 ∧ RepVs e.K e.mg w8 ac acV ∧ locked pr2.2 s8 = true ∧
                compL own2 (fun d s => tset e.P t2 d false s) (fun s => evIfs e.P ts2 s) (ELT e.P el) pr2.2 (pr2.1.drop j) ac s8 = .ok acc' s6,
              ⟨pr2.1.length, rfl, Nat.zero_le _, w7, s7, σ4, acc, accV, .refl w7, R7, rfl, hr7, hlk7, h6⟩, ?_⟩
            rintro j k H8 ⟨rfl, hj, w8, s8, σ8, ac, acV, l8, R8, hw8, hr8, hlk8, hc8⟩
            obtain ⟨k1, k2⟩ := hJ1 _ w8 s8 σ8 H8 j l8 R8 hlk8
            by_cases hlt2 : j < pr2.1.length
            · obtain ⟨kg, ky⟩ := k1 _ (List.getElem?_eq_getElem hlt2)
              refine .inr ⟨kg, _, fun H' q => ⟨pr2.1.length - (j + 1), by omega, q⟩, fun x2 H' y2 => ?_⟩
              have nr2 := ky x2 H' y2
              rw [List.drop_eq_getElem_cons hlt2] at hc8
              unfold compL at hc8
              obtain ⟨_, s9, h9, hc8⟩ := bind_ok hc8
              obtain ⟨b2, sa, ha, hc8⟩ := bind_ok hc8
              obtain ⟨w9, l9, R9, n9⟩ := nr2.now (R8.wiped (own := own2))
              rw [hw8] at R9 n9
              refine ⟨_, w9, wipeL own2 s8, _, false, rfl, R9, n9, AfterS.known h9 fun wa σa Ha la Ra Fa => ?_⟩
              rw [wipe_twice] at Fa
              refine ⟨Fa, ?_⟩
              refine ⟨_, wa, s9, Ra, After.known ha fun wb Hb lb Rb => ?_⟩
              cases b2 with
              | false =>
                rw [if_neg (fun z => nomatch z)] at hc8 ⊢
                split at hc8
                · rename_i hlka
                  exact ⟨rfl, hlt2, wb, sa, σa, ac, acV, ((l8.trans l9).trans la).trans lb, Rb, Fa, ((hr8.mono l9).mono la).mono lb, hlka, hc8⟩
                · cases hc8
              | true =>
                rw [if_pos rfl] at hc8 ⊢
                obtain ⟨ac', sb, hb, hc8⟩ := bind_ok hc8
                unfold ELT at hb
                obtain ⟨v, sc, hsc, hb⟩ := bind_ok hb
                refine ⟨_, wb, sa, Rb, After.known hsc fun wc Hc lc Rc y nc => ?_⟩
                obtain ⟨wd, ld, Rd, hd⟩ := nc.hold Rc
                cases v with
                | loc k => cases hb
                | val d fr =>
                  have hb : (if ac.length < SL then (PyE.R.ok (ac ++ [d]) sc : PyE.R (List D)) else .stuck) = .ok ac' sb := hb
                  split at hb
                  · rename_i hsz
                    cases hb
                    have lall := ((((l8.trans l9).trans la).trans lb).trans lc).trans ld
                    have rall := ((((hr8.mono l9).mono la).mono lb).mono lc).mono ld
                    refine ⟨acV, Rd.guarded.1, by rw [hr8.length, ← sl_eq]; exact hsz, ?_⟩
                    split at hc8
                    · rename_i hlkb
                      exact ⟨rfl, hlt2, wd, sb, σa, ac ++ [d], acV ++ [y], lall, Rd.rewrite (.lst (acV ++ [y])), Fa, rall.append (.cons hd .nil), hlkb, hc8⟩
                    · cases hc8
                  · cases hb
            · have he : pr2.1.length ≤ j := by omega
              refine .inl ⟨k2 he, ?_⟩
              rw [List.drop_eq_nil_of_le he] at hc8
              unfold compL at hc8
              cases hc8
              exact ⟨rfl, hlt, w8, s6, σ8, acc', acV, l27.trans l8, R8, (wipe_sub hw8 hs).trans F4, hr8, hlk6, hcc⟩
          · cases hcc
        · cases h6
    · have he : pr.1.length ≤ i := by omega
      refine .inl ⟨j2 he, ?_⟩
      rw [List.drop_eq_nil_of_le he] at hcc
      unfold compL at hcc
      cases hcc
      obtain ⟨R3, n3⟩ := R2.built hP (d := .lst accF) ⟨_, rfl, hr⟩ trivial
      exact q w2 H2 l2 (Rel.restored R1 l2 R3 hw hcl.1) _ (Now.restored R1 R3 hw hcl.1 n3)
  · exact q.elim
end
end PyE
end
section
set_option Elab.async false
set_option linter.all false
set_option maxRecDepth 100000
set_option maxHeartbeats 2000000
namespace PyE
open PySem PySem.Spec PyProof.Rows L2
noncomputable section
/-! ### a set whose things are of one kind; which ones, in some order -/
/-- the key of a member -/
def keyG {P : Program} {w : World} {K : Type} [DecidableEq K] [Inhabited K] (knd : PySem.KeyKind P w K) (e : Int × Value) : K :=
  open Classical in if h : ∃ k, knd.is k e.2 = true then Classical.choose h else default
section
variable {P : Program} {w : World} {K : Type} [DecidableEq K] [Inhabited K] {knd : PySem.KeyKind P w K}
theorem keyG_is {e : Int × Value} {k : K} (h : knd.is k e.2 = true) : keyG knd e = k := by
  unfold keyG
  have hx : ∃ k, knd.is k e.2 = true := ⟨k, h⟩
  rw [dif_pos hx]
  exact knd.inj e.2 _ _ (Classical.choose_spec hx) h
/-- one thing more, each once -/
def addK (ks : List K) (k : K) : List K := if k ∈ ks then ks else ks ++ [k]
def metK (l : List K) : List K := l.foldl addK []
theorem addK_len (ks : List K) (k : K) : (addK ks k).length ≤ ks.length + 1 := by
  unfold addK
  split
  · exact Nat.le_succ _
  · rw [List.length_append]; exact Nat.le_refl _
/-- the set at a -/
def SetG (knd : PySem.KeyKind P w K) (h : Heap) (a : Addr) (ks : List K) : Prop :=
  ∃ o es ep t, h.get? a = some o ∧ o.ExactSet ∧ o.data = .set es ep t ∧ ElemsOf knd es.toList ∧ (es.toList.map (keyG knd)).Perm ks ∧
    es.size < scanBound ∧ t.fits es.size = true ∧ Ris t.place.toList ∧ (w.params.followText "set-order" = true ∨ t.led = true)
theorem SetG.at {h h' : Heap} {a : Addr} {ks : List K} (R : SetG knd h a ks) (k : ∀ o, h.get? a = some o → h'.get? a = some o) : SetG knd h' a ks := by
  obtain ⟨o, es, ep, t, ho, r⟩ := R
  exact ⟨o, es, ep, t, k o ho, r⟩
theorem elems_mem {l : List (Int × Value)} (g : ElemsOf knd l) (k : K) : k ∈ l.map (keyG knd) ↔ ∃ e ∈ l, knd.is k e.2 = true := by
  rw [List.mem_map]
  constructor
  · rintro ⟨e, he, q⟩
    obtain ⟨⟨k', h1, _⟩, _⟩ := g e he
    rw [keyG_is h1] at q
    exact ⟨e, he, q ▸ h1⟩
  · rintro ⟨e, he, q⟩
    exact ⟨e, he, keyG_is q⟩
variable {A : Around} {E : Value → Shared → Prop} {s : Shared} {a : Addr} {ks : List K}
theorem setG_add_tail {g : Bool → Sem Unit} (hg : ∀ (b : Bool) (s₁ : Shared) (Q' : Unit → Shared → Prop), Q' () s₁ → wpAny (model P w) A (g b) Q' E s₁)
    {o : Obj} {es : Array (Int × Value)} {ep : Nat} {t : SetTable} (ho : s.heap.get? a = some o) (hex : o.ExactSet) (hd : o.data = .set es ep t)
    {es1 : Array (Int × Value)} {t2 : SetTable} {ks' : List K} (g1 : ElemsOf knd es1.toList) (m1 : (es1.toList.map (keyG knd)).Perm ks')
    (hb1 : es1.size < scanBound) (hf2 : t2.fits es1.size = true) (hr : Ris t2.place.toList) (hl : w.params.followText "set-order" = true ∨ t2.led = true) {wasDummy : Bool} {R : Option Bool → Shared → Prop}
    (hR : ∀ h', Heap.SameBut a s.heap h' → SetG knd h' a ks' → R (some true) { s with heap := h' }) :
    wpAny (model P w) A (do
        storeSet a es1 t2
        if (!wasDummy && t2.tooFull) = true then do
            g (relayAll t2 es1 (SetTable.grown es1.size)).2.2
            storeSet a (relayAll t2 es1 (SetTable.grown es1.size)).1 (relayAll t2 es1 (SetTable.grown es1.size)).2.1
            pure (some true)
          else pure (some true)) R E s := by
  refine wpAny_bind (wpAny_storeSet_of ho hd ?_ (fits_of_scanBound hb1))
  have ho1 := PpSet.storeB_at (es' := es1) (t' := t2) ho hd
  have sb1 := Heap.SameBut.update s.heap a (Obj.putSet es1 t2)
  split
  · have pm := relayAll_perm t2 es1 (SetTable.grown es1.size)
    have hf3 := relayAll_fits t2 es1 (SetTable.grown es1.size)
    have hr3 := relayAll_ris t2 es1 (SetTable.grown es1.size)
    have hl3 := relayAll_led t2 es1 (SetTable.grown es1.size)
    generalize relayAll t2 es1 (SetTable.grown es1.size) = Z at pm hf3 hr3 hl3 ⊢
    obtain ⟨es2, t3, gave⟩ := Z
    dsimp only at pm hf3 hr3 hl3 ⊢
    have hsz : es2.size = es1.size := by rw [← Array.length_toList, pm.length_eq, Array.length_toList]
    have hb2 : es2.size < scanBound := by rw [hsz]; exact hb1
    refine wpAny_bind (hg _ _ _ ?_)
    refine wpAny_bind (wpAny_storeSet_of ho1 rfl ?_ (fits_of_scanBound hb2))
    have ho2 := PpSet.storeB_at (es' := es2) (t' := t3) ho1 rfl
    refine wpAny_pure (hR _ (sb1.trans (Heap.SameBut.update _ a _)) ?_)
    exact ⟨_, es2, _, t3, ho2, hex, rfl, fun e he => g1 e (pm.mem_iff.mp he), (pm.map (keyG knd)).trans m1, hb2, hf3, hr3,
      hl.imp id fun z => by rw [hl3]; exact z⟩
  · exact wpAny_pure (hR _ sb1 ⟨_, es1, _, t2, ho1, hex, rfl, g1, m1, hb1, hf2, hr, hl⟩)
theorem setG_add_hashed {k : K} {x : Value} {Q : Bool → Shared → Prop} (hkey : knd.is k x = true) (hsc : x.scannable = true) (R : SetG knd s.heap a ks) (room : ks.length + 1 < scanBound)
    (hQ : ∀ h' b, Heap.SameBut a s.heap h' → SetG knd h' a (addK ks k) → Q b { s with heap := h' }) :
    wpAny (model P w) A (setAddHashed a x (knd.hash k)) Q E s := by
  obtain ⟨o, es, ep, t, ho, hex, hd, hel, hm, hb, hf, hr, hl⟩ := R
  unfold setAddHashed setAddHashedIn
  refine wpAny_holding (wpAny_bind (wpAny_setState_of ho hd hf ?_))
  dsimp only
  rw [byScan_of hsc hb hel]
  simp only [↓reduceIte]
  unfold setAddByScan
  refine wpAny_bind ?_
  refine wpAny_bind (wpAny_rule ?_)
  refine wpAny_bind (wpAny_setScan_of hkey ho hd hf hel ?_)
  cases hfi : List.findIdx? (fun e => knd.is k e.2) es.toList with
  | some j =>
    dsimp only
    obtain ⟨hj, pj, _⟩ := List.findIdx?_eq_some_iff_getElem.mp hfi
    have hk : k ∈ ks := hm.mem_iff.mp ((elems_mem hel k).2 ⟨es.toList[j], List.getElem_mem hj, pj⟩)
    refine wpAny_pure (wpAny_pure ?_)
    exact hQ s.heap _ (Heap.SameBut.refl a s.heap) ⟨o, es, ep, t, ho, hex, hd, hel, by unfold addK; rw [if_pos hk]; exact hm, hb, hf, hr, hl⟩
  | none =>
    dsimp only
    have hnk : k ∉ ks := fun z => by
      obtain ⟨e, he, q⟩ := (elems_mem hel k).1 (hm.mem_iff.mpr z)
      have c := List.findIdx?_eq_none_iff.mp hfi e he
      rw [q] at c
      cases c
    have hgw : ∀ (b : Bool) {s₁ : Shared} {Q' : Unit → Shared → Prop}, Q' () s₁ → wpAny (model P w) A (match b with | true => rule "set.scan.the-table-gave-way" | false => pure ()) Q' E s₁ :=
      fun b s₁ Q' q => by cases b <;> first | exact wpAny_pure q | exact wpAny_rule q
    have pm := layNew_perm t es (knd.hash k) x
    have hf1 := layNew_fits t es (knd.hash k) x
    have hr1 := layNew_ris t es (knd.hash k) x hr
    have hl1 := layNew_led t es (knd.hash k) x
    generalize layNew t es (knd.hash k) x = Z at pm hf1 hr1 hl1 ⊢
    obtain ⟨es1, t1, wasDummy, gave⟩ := Z
    dsimp only at pm hf1 hr1 hl1 ⊢
    rw [Array.toList_push] at pm
    have g1 : ElemsOf knd es1.toList := fun e he => by
      rcases List.mem_append.mp (pm.mem_iff.mp he) with z | z
      · exact hel e z
      · rw [List.mem_singleton] at z
        rw [z]
        exact ⟨⟨k, hkey, rfl⟩, hsc⟩
    have m1 : (es1.toList.map (keyG knd)).Perm (addK ks k) := by
      unfold addK
      rw [if_neg hnk]
      refine (pm.map (keyG knd)).trans ?_
      rw [List.map_append]
      refine hm.append (.of_eq ?_)
      show [keyG knd (knd.hash k, x)] = [k]
      rw [keyG_is hkey]
    have hsz : es1.size = ks.length + 1 := by
      rw [← Array.length_toList, pm.length_eq, List.length_append, ← hm.length_eq, List.length_map]
      rfl
    have hb1 : es1.size < scanBound := by rw [hsz]; exact room
    have hled : w.params.followText "set-order" = true ∨ t1.led = true := hl.imp id fun z => by rw [hl1]; exact z
    refine wpAny_bind (hgw _ ?_)
    split
    · refine wpAny_bind ?_
      rw [hashByValue_scannable 8 hsc]
      refine wpAny_pure ?_
      refine setG_add_tail ?_ ho hex hd g1 m1 hb1 ?_ ?_ ?_ ?_
      · intro b s₁ Q' q; cases b <;> first | exact wpAny_pure q | exact wpAny_rule q
      · first | (split <;> first | exact hf1 | exact SetTable.fits_plain_off hf1) | exact hf1
      · first | (split <;> exact hr1) | exact hr1
      · first | (split <;> exact hled) | exact hled
      · intro h' sb r; dsimp only; exact wpAny_pure (hQ h' _ sb r)
    · refine wpAny_bind (wpAny_pure ?_)
      simp only [↓reduceIte]
      refine setG_add_tail ?_ ho hex hd g1 m1 hb1 hf1 hr1 hled ?_
      · intro b s₁ Q' q; cases b <;> first | exact wpAny_pure q | exact wpAny_rule q
      · intro h' sb r; dsimp only; exact wpAny_pure (hQ h' _ sb r)
/-! ### set(a list) -/
theorem metK_succ (val : Nat → K) (i : Nat) : metK ((List.range (i + 1)).map val) = addK (metK ((List.range i).map val)) (val i) := by
  unfold metK
  rw [List.range_succ, List.map_append, List.foldl_append]; rfl
theorem metK_len (val : Nat → K) : ∀ i, (metK ((List.range i).map val)).length ≤ i
  | 0 => Nat.le_refl _
  | i + 1 => by
    rw [metK_succ]
    have := addK_len (metK ((List.range i).map val)) (val i)
    have := metK_len val i
    omega
end
section
variable {prog : Program} {w : World} {K : Type} [DecidableEq K] [Inhabited K] {knd : PySem.KeyKind prog w K} {A : Around} {R : Result → Shared → Prop} {I : Addr} {fp wr : List Addr} {G : Array GenState → Array GenState → Prop} {n : Nat} {P : Nat → Value → Prop} {St : Nat → Shared → Prop}
theorem setG_loop (W : WalksS prog w A.in1 I fp wr G n P St) (S : Addr) (hSf : S ∉ fp)
    (val : Nat → K) (hval : ∀ i v, P i v → knd.is (val i) v = true ∧ v.scannable = true) (hb : n + 1 < scanBound) :
    ∀ (k i : Nat) (s : Shared), n - i = k → i ≤ n → St i s → SetG knd s.heap S (metK ((List.range i).map val)) →
      (∀ s', Moved (S :: wr) G s s' → SetG knd s'.heap S (metK ((List.range n).map val)) → R (.ok (.ret .none)) s') →
      codeAny (model prog w) A (.builtin "set.update.loop" ⟨[.ref S, .ref I], []⟩) R s := by
  have hSw : S ∉ wr := fun h => hSf (W.sub _ h)
  have hsub : ∀ b ∈ wr, b ∈ S :: wr := fun b hb => List.mem_cons_of_mem _ hb
  intro k
  induction k with
  | zero =>
    intro i s hk hi hst hS hR
    have hin : i = n := by omega
    subst hin
    refine codeAny_builtin F.entry_set_update_loop ?_
    rw [Around.under_plainId F.plain_set_update_loop _]
    show wpAny _ A.in1 (pyNext (.ref I) >>= _) _ _ s
    refine wpAny_bind (W.done s _ _ hst fun s' hm => ?_)
    show wpAny _ A.in1 (ret Value.none) _ _ s'
    exact wpAny_pure (hR s' (hm.mono hsub) (hS.at fun o ho => hm.heap S _ hSw ho))
  | succ k ih =>
    intro i s hk hi hst hS hR
    have hlt : i < n := by omega
    refine codeAny_builtin F.entry_set_update_loop ?_
    rw [Around.under_plainId F.plain_set_update_loop _]
    show wpAny _ A.in1 (pyNext (.ref I) >>= _) _ _ s
    refine wpAny_bind (W.item i s _ _ hlt hst fun v s' hP hst' hm => ?_)
    obtain ⟨hv, hsc⟩ := hval i v hP
    have hS' : SetG knd s'.heap S (metK ((List.range i).map val)) := hS.at fun o ho => hm.heap S _ hSw ho
    show wpAny _ A.in1 (holding [v] (setAdd S v) >>= _) _ _ s'
    refine wpAny_bind (wpAny_holding ?_)
    unfold setAdd
    refine wpAny_holding ?_
    refine wpAny_bind (knd.pyHash hv ?_)
    have hroom : (metK ((List.range i).map val)).length + 1 < scanBound := by have := metK_len val i; omega
    refine setG_add_hashed (s := { s' with toks := s'.toks + 1 }) hv hsc hS' hroom fun h' b hsb hS2 => ?_
    have hSi : SetG knd h' S (metK ((List.range (i + 1)).map val)) := by rw [metK_succ]; exact hS2
    refine wpAny_pure ⟨plainId_quiet F.plain_set_update_loop _, ih (i + 1) _ (by omega) hlt (W.frame _ s' _ _ hst' (Nat.le_succ _) fun b hb o e => ?_) hSi fun s'' hm'' hS'' => ?_⟩
    · rw [hsb.2 b (fun h : b = S => hSf (by rw [← h]; exact hb))]; exact e
    · refine hR s'' (Moved.trans W.gtrans ((hm.mono hsub).then_heap (Nat.le_succ _) fun b o hb e => ?_) hm'') hS''
      rw [hsb.2 b (fun h : b = S => hb (by rw [h]; exact List.mem_cons_self))]; exact e
end
section
variable {prog : Program} {w : World} {A : Around} {E : Value → Shared → Prop} {s : Shared}
/-- the empty set that set(x) begins with -/
def setNil (w : World) : Obj := { cls := .type "set", dict := none, data := .set #[] 0 (.fresh 0 0 (!w.params.followText "set-order")) }
theorem code_set_one (a : Value) {Q₁ : Value → Shared → Prop} (h : Q₁ (.ref s.heap.objs.size) { s with heap := s.heap.push (setNil w) }) :
    codeAny (model prog w) A (.call (.builtin "set.__new__") ⟨[.type "set", a], []⟩) (wants Q₁ E) s := by
  refine codeAny_of_tree ?_
  show wpAny _ A.in1 (do checkBuiltinCall "set.__new__" ⟨[.type "set", a], []⟩; again (.builtin "set.__new__" ⟨[.type "set", a], []⟩)) _ _ s
  refine wpAny_bind (wpAny_of_eq (PySem.F.newCall_set_1 a) (wpAny_pure ⟨plainId_quiet PySem.F.plain_set_new _, codeAny_builtin PySem.F.entry_set_new ?_⟩))
  rw [Around.under_plainId PySem.F.plain_set_new _]
  unfold Builtin.«set.__new__» Builtin.Frozenset.newClass
  have hsub := sub_set_self
  obtain ⟨hp, g, d, tk, os⟩ := s
  dsimp only
  wp_walk
  refine wpAny_askSetting (wpAny_pure ?_)
  dsimp only
  simp only [newObj]
  refine wpAny_bind (wpAny_alloc (wpAny_pure ?_))
  exact wpAny_pure h
theorem setG_fresh {K : Type} [DecidableEq K] [Inhabited K] {knd : PySem.KeyKind prog w K} {h : Heap} : SetG knd (h.push (setNil w)) h.objs.size [] :=
  ⟨_, #[], 0, _, Heap.get?_push_size _ rfl, ⟨rfl, rfl, rfl⟩, rfl, (fun e he => by simp at he), (by simp), (by decide), (by rfl), List.Pairwise.nil, by
    show _ ∨ (!w.params.followText "set-order") = true
    cases w.params.followText "set-order"
    · exact .inr rfl
    · exact .inl rfl⟩
set_option maxHeartbeats 3200000 in
theorem set_of_list {K : Type} [DecidableEq K] [Inhabited K] {knd : PySem.KeyKind prog w K} {l : Addr} {items : Array Value} {val : Nat → K} {Q : Value → Shared → Prop}
    (hh : A.handled = none) (hl : s.heap.IsList l items) (hval : ∀ (i : Nat) (v : Value), items[i]? = some v → knd.is (val i) v = true ∧ v.scannable = true) (hb : items.size + 1 < scanBound)
    (h : ∀ (h' : Heap) (tk : Nat), SetG knd h' s.heap.objs.size (metK ((List.range items.size).map val)) →
      (∀ b o, b < s.heap.objs.size → s.heap.get? b = some o → h'.get? b = some o) → Q (.ref s.heap.objs.size) { s with heap := h', toks := tk }) :
    wpAny (model prog w) A (call (.type "set") [.ref l]) Q E s := by
  obtain ⟨c, tl, hmro⟩ := PySem.F.called_set.mro
  have hmade := PySem.F.called_set.made
  have hsub := PySem.F.called_set.sub
  refine wpAny_call (codeAny_of_tree ?_)
  show wpAny _ _ (callAny (.type "set") _) _ _ _
  refine wpAny_pure ⟨Code.quiet_builtin _ (by decide +kernel), codeAny_builtin PySem.F.entry_type_call ?_⟩
  rw [Around.under_plain (weight_type_call_type "set" [.ref l] []) rfl]
  have h1 := PySem.F.called_set.notType
  have h2 := PySem.F.called_set.canCreate
  have hct := PySem.F.typeCall_set_1 (.ref l)
  repeat (any_goals (first | assumption | wp_step))
  refine codeAny_mono (code_set_one (.ref l) (E := E) (Q₁ := fun obj s₁ => obj = .ref s.heap.objs.size ∧ s₁ = { s with heap := s.heap.push (setNil w) }) ⟨rfl, rfl⟩) fun r s₁ hr => ?_
  cases r with
  | error e => exact hr
  | ok fl =>
    cases fl with
    | ret obj =>
      obtain ⟨rfl, rfl⟩ := hr
      have hS : (s.heap.push (setNil w)).get? s.heap.objs.size = some (setNil w) := Heap.get?_push_size _ rfl
      have hT : Shared.TypeIs { s with heap := s.heap.push (setNil w) } (.ref s.heap.objs.size) "set" := ⟨_, hS, rfl⟩
      have hli := PySem.F.called_set.init.lookup
      have hbi := PySem.F.called_set.init.bind (.ref s.heap.objs.size)
      repeat (any_goals (first | assumption | wp_step))
      refine codeAny_mono (codeAny_call_builtin (R := wants (fun r s₂ => r = .none ∧ ∃ h' tk, s₂ = { s with heap := h', toks := tk } ∧
          SetG knd h' s.heap.objs.size (metK ((List.range items.size).map val)) ∧
          (∀ b o, b < s.heap.objs.size → s.heap.get? b = some o → h'.get? b = some o)) E) PySem.F.called_set.init.plain PySem.F.entry_set_init (check_set_init_1 hT ?_)) fun r₂ s₂ hr₂ => ?_
      · obtain ⟨ol, hol, hcl, nl, hdl⟩ := hl
        obtain ⟨ocls, odict, odata, oslots⟩ := ol
        simp only at hcl hdl
        subst hcl; subst hdl
        have hol' : (s.heap.push (setNil w)).get? l = some { cls := .type "list", dict := odict, data := .seq items nl, slots := oslots } := Heap.get?_push_of_some _ hol
        have hsls := PySem.F.sub_list_set
        have hslf := PySem.F.sub_list_frozenset
        have hne : (Value.type "list" == Value.type "dict") = false := by decide
        have hl1 : (s.heap.push (setNil w)).IsList l items := ⟨_, hol', rfl, nl, rfl⟩
        unfold Builtin.«set.__init__» noKeywords Builtin.Frozenset.updateFrom
        generalize hPI : pyIter = PI
        have hS' := hS
        unfold setNil at hS' hT hol' hl1 ⊢
        wp_walk
        subst hPI
        refine wpAny_pyIter_list hl1 ?_
        refine wpAny_bind (wpAny_runValue ?_)
        have hlS : l < s.heap.objs.size := Heap.lt_size hol
        have hh3 : A.in1.in1.in1.handled = none := by simp [hh]
        have hneI : l ≠ (s.heap.push (setNil w)).objs.size := by
          rw [Heap.size_push]; exact Nat.ne_of_lt (Nat.lt_succ_of_lt hlS)
        have hSf : s.heap.objs.size ∉ [(s.heap.push (setNil w)).objs.size, l] := by
          rw [Heap.size_push]; simp only [List.mem_cons, List.mem_singleton, List.not_mem_nil, or_false, not_or]
          exact ⟨Nat.ne_of_lt (Nat.lt_succ_self _), Nat.ne_of_gt hlS⟩
        refine setG_loop ((Walks.list hh3 _ l hneI items).toS) s.heap.objs.size
          hSf val hval hb (items.size - 0) 0 _ (by omega) (Nat.zero_le _)
          ⟨⟨_, Heap.get?_push_size _ rfl, rfl, rfl⟩, (hl1.push _)⟩ ?hS0 ?hR
        case hS0 =>
          exact (setG_fresh (prog := prog) (w := w) (knd := knd) (h := s.heap)).at fun o e => Heap.get?_push_of_some _ e
        case hR =>
          intro s' hm hS'
          obtain ⟨h', g', d', tk', os'⟩ := s'
          have eg : g' = s.gens := hm.gens
          have ed : d' = s.drawn := hm.drawn
          have eo : os' = s.os := hm.os
          subst eg; subst ed; subst eo
          show wpAny _ _ _ _ _ _
          refine wpAny_pure ?_
          show wpAny _ _ (ret Value.none) _ _ _
          refine wpAny_pure ⟨rfl, h', tk', rfl, hS', fun b o hb e => ?_⟩
          have hb1 : b ≠ s.heap.objs.size := Nat.ne_of_lt hb
          have hb2 : b ≠ (s.heap.push (setNil w)).objs.size := by
            rw [Heap.size_push]; exact Nat.ne_of_lt (Nat.lt_succ_of_lt hb)
          exact hm.heap b o (by simp only [List.mem_cons, List.mem_singleton, List.not_mem_nil, or_false, not_or]; exact ⟨hb1, hb2⟩) (Heap.get?_push_of_some _ (Heap.get?_push_of_some _ e))
      · cases r₂ with
        | error e => exact hr₂
        | ok fl₂ =>
          cases fl₂ with
          | ret r =>
            obtain ⟨rfl, h', tk, rfl, hS', hk'⟩ := hr₂
            repeat (any_goals (first | assumption | wp_step))
            exact h _ _ hS' hk'
          | _ => exact hr₂.elim
    | _ => exact hr.elim
/-! ### sorted(a set of texts) -/
instance : Inhabited Str := ⟨Str.empty⟩
/-- the text's data -/
def strPd (x : Str) : PyData := .str x
def leS (a b : Str) : Bool := !ltS b.cps.toList a.cps.toList
theorem strLe_eq : PySem.W.dataLe false strPd = leS := by
  rw [PySem.W.dataLe_eq]
  funext a b
  show (!PySem.W.dataLt (.str b) (.str a)) = _
  rw [PySem.W.dataLt_str]
  unfold leS
  rw [ltS_eq]
theorem leS_iff (a b : Str) : leS a b = true ↔ a.cps.toList ≤ b.cps.toList := by
  unfold leS
  rw [ltS_eq, PySem.W.not_lt_str, decide_eq_true_eq]
theorem sort_one {a b : List Str} (h : a.Perm b) : a.mergeSort leS = b.mergeSort leS := by
  have tr : ∀ x y z : Str, leS x y = true → leS y z = true → leS x z = true := fun x y z p q => by
    rw [leS_iff] at *
    exact List.le_trans p q
  have to : ∀ x y : Str, (leS x y || leS y x) = true := fun x y => by
    rw [Bool.or_eq_true, leS_iff, leS_iff]
    exact List.le_total _ _
  refine List.Perm.eq_of_pairwise (le := fun x y => leS x y = true) (fun x y _ _ p q => ?_) (List.pairwise_mergeSort tr to a) (List.pairwise_mergeSort tr to b) (((List.mergeSort_perm a leS).trans h).trans (List.mergeSort_perm b leS).symm)
  rw [leS_iff] at p q
  exact PySem.W.str_of_cps (List.le_antisymm p q)
def strOfV : Value → Str
  | .str x _ => x
  | _ => Str.empty
theorem strs_each {h : Heap} : ∀ {vs : List Value}, (∀ v ∈ vs, ∃ x tk, v = Value.str x tk) →
    PySem.W.EachIs (fun v (x : Str) => ∃ tk, v = Value.str x tk) vs (vs.map strOfV) ∧ PySem.W.EachIs (fun v (x : Str) => ∃ as, Reads h v (strPd x) as) vs (vs.map strOfV)
  | [], _ => ⟨.nil, .nil⟩
  | v :: vs, hv => by
    obtain ⟨x, tk, rfl⟩ := hv v List.mem_cons_self
    obtain ⟨h1, h2⟩ := strs_each (h := h) fun u hu => hv u (List.mem_cons_of_mem _ hu)
    exact ⟨.cons ⟨tk, rfl⟩ h1, .cons ⟨[], .str x tk⟩ h2⟩
theorem sorted_strs {a : Addr} {ks : List Str} {Q : Value → Shared → Prop} (R : SetG (strKind prog w) s.heap a ks) (hh : A.handled = none) (hu : A.units + 3 < cLine)
    (hQ : ∀ s' p (out : List Value) (c : Nat), (∀ b o, s.heap.get? b = some o → s'.heap.get? b = some o) → s'.gens = s.gens → s'.os = s.os → s.heap.objs.size ≤ p →
      s'.heap.get? p = some (seqObj "list" out.toArray c) → PySem.W.EachIs (fun v (x : Str) => ∃ tk, v = Value.str x tk) out (ks.mergeSort leS) → Q (.ref p) s') :
    wpAny (model prog w) A (call (.builtin "sorted") [.ref a]) Q E s := by
  obtain ⟨o, es, ep, t, ho, hex, hd, hel, hm, hb, hf, hr, hl⟩ := R
  refine Calls.call_function_entry kind_sorted plain_sorted entry_sorted (args_sorted1 _) ?_
  unfold Builtin.«sorted»
  refine wpAny_bind (m := checkCount "sorted" 1 1 _) (wpAny_pure ?_)
  refine wpAny_bind (collect_set (A := A.in1) hh ⟨o, ho, hex.1, hd⟩ hf hb hr hl fun s1 vs k1 hz g1 o1 pm => ?_)
  have hvl : vs.length = es.size := by rw [pm.length_eq, List.length_map, Array.length_toList]
  have hv : ∀ v ∈ vs, ∃ x tk, v = Value.str x tk := fun v hv => by
    obtain ⟨e, he, q⟩ := List.mem_map.mp (pm.mem_iff.mp hv)
    obtain ⟨⟨k, h1, _⟩, _⟩ := hel e he
    obtain ⟨tk, h2⟩ := Value.isStrOf_shape h1
    exact ⟨k, tk, by rw [← q, h2]⟩
  have hp : (vs.map strOfV).Perm ks := by
    refine ((pm.map strOfV).trans (.of_eq ?_)).trans hm
    rw [List.map_map]
    refine List.map_congr_left fun e he => ?_
    obtain ⟨⟨k, h1, _⟩, _⟩ := hel e he
    rw [keyG_is h1]
    obtain ⟨tk, h2⟩ := Value.isStrOf_shape h1
    show strOfV e.2 = k
    rw [h2]
    rfl
  have hsz : vs.length ≤ sizeLine := by rw [hvl, sizeLine_eq]; unfold scanBound at hb; omega
  refine wpAny_bind (wpAny_newList ?_ hsz)
  have hoL : (s1.heap.push (seqObj "list" vs.toArray 0)).get? s1.heap.objs.size = some (seqObj "list" vs.toArray 0) := Heap.get?_push_size _ rfl
  obtain ⟨e1, e2⟩ := strs_each (h := s1.heap.push (seqObj "list" vs.toArray 0)) hv
  have e3 : PySem.W.EachIs (fun v (x : Str) => ∃ as, Reads (s1.heap.push (seqObj "list" vs.toArray 0)) v (strPd x) as ∧ s1.heap.objs.size ∉ as) vs (vs.map strOfV) :=
    e1.mono fun v x ⟨tk, q⟩ => ⟨[], by rw [q]; exact .str x tk, by simp⟩
  refine wpAny_bind (wpAny_holding (PySem.W.list_sort_data (enc := strPd) hoL e1 e3 (fun p hp q hq => ?_) (.inr fun p hp => ?_) (by rw [List.length_map]; exact hsz) (fun x hx => ?_) fun out ho2 eo => ?_))
  · obtain ⟨x, _, rfl⟩ := List.mem_map.mp hp
    obtain ⟨y, _, rfl⟩ := List.mem_map.mp hq
    rfl
  · obtain ⟨x, _, rfl⟩ := List.mem_map.mp hp
    exact ⟨by simp [strPd], fun xs => by simp [strPd]⟩
  · show A.in1.units + 1 + (PyData.str x).depth < cLine
    have : (PyData.str x).depth = 0 := by first | rfl | simp [PyData.depth]
    have h3 : A.in1.units ≤ A.units + 1 := by first | exact Nat.le_refl _ | simp
    omega
  obtain ⟨c, hc⟩ := sortedHeap_at (vs := vs) (out := out.toArray) hoL
  rw [strLe_eq, sort_one hp] at eo
  refine wpAny_pure ⟨_, rfl, hQ _ s1.heap.objs.size out c (fun b u e => ?_) g1 o1 hz hc eo⟩
  have q := k1 b u e
  have hlt := Heap.lt_size q
  show (sortedHeap (s1.heap.push (seqObj "list" vs.toArray 0)) s1.heap.objs.size vs out.toArray).get? b = some u
  rw [sortedHeap_old (Nat.ne_of_lt hlt) (by rw [size_push']; exact Nat.lt_succ_of_lt hlt)]
  exact Heap.get?_push_of_some _ q
end
end
end PyE
end
section
set_option linter.all false
set_option autoImplicit false
set_option maxRecDepth 100000
set_option maxHeartbeats 1000000
/-! PySet2: sorted(set(a list of texts)). -/
namespace PyE
open PySem PySem.Spec PyProof.Rows L2
abbrev mkS (y : List Nat) : Str := ⟨y.toArray⟩
theorem mkS_inj {x y : List Nat} (h : mkS x = mkS y) : x = y := by
  have h1 : x.toArray = y.toArray := congrArg Str.cps h
  exact Array.toList_inj.mpr h1 |> fun z => by simpa using z
theorem mkS_mem {x : List Nat} {ks : List (List Nat)} : mkS x ∈ ks.map mkS ↔ x ∈ ks := by
  rw [List.mem_map]
  exact ⟨fun ⟨y, h1, h2⟩ => mkS_inj h2 ▸ h1, fun h => ⟨x, h, rfl⟩⟩
theorem met_mk : ∀ (l : List (List Nat)) (acc : List (List Nat)), (l.map mkS).foldl addK (acc.map mkS) = (l.foldl addS acc).map mkS
  | [], acc => rfl
  | x :: l, acc => by
    rw [List.map_cons, List.foldl_cons, List.foldl_cons]
    have h : addK (acc.map mkS) (mkS x) = (addS acc x).map mkS := by
      unfold addK addS
      by_cases hx : x ∈ acc
      · rw [if_pos (mkS_mem.mpr hx), if_pos (by simpa using hx)]
      · rw [if_neg fun z => hx (mkS_mem.mp z), if_neg (by simpa using hx), List.map_append]
        rfl
    rw [h]
    exact met_mk l (addS acc x)
theorem metK_mk (l : List (List Nat)) : metK (l.map mkS) = (metS l).map mkS := met_mk l []
theorem leS_mk (a b : List Nat) : leS (mkS a) (mkS b) = !ltS b a := by
  unfold leS
  simp
theorem sort_mk (l : List (List Nat)) : (l.map mkS).mergeSort leS = (l.mergeSort fun a b => !ltS b a).map mkS :=
  (List.map_mergeSort fun a _ b _ => (leS_mk a b).symm).symm
theorem met_sub : ∀ (l acc : List (List Nat)), ∀ y ∈ l.foldl addS acc, y ∈ acc ∨ y ∈ l
  | [], acc, y, h => .inl h
  | x :: l, acc, y, h => by
    rcases met_sub l (addS acc x) y h with h | h
    · unfold addS at h
      split at h
      · exact .inl h
      · rcases List.mem_append.mp h with h | h
        · exact .inl h
        · exact .inr (by rw [List.mem_singleton.mp h]; exact List.mem_cons_self)
    · exact .inr (List.mem_cons_of_mem _ h)
theorem met_len : ∀ (l acc : List (List Nat)), (l.foldl addS acc).length ≤ acc.length + l.length
  | [], acc => Nat.le_refl _
  | x :: l, acc => by
    have h := met_len l (addS acc x)
    have h2 : (addS acc x).length ≤ acc.length + 1 := by
      unfold addS
      split
      · exact Nat.le_succ _
      · simp
    rw [List.foldl_cons, List.length_cons]
    omega
theorem vals_each : ∀ {out : List Value} {xs : List Str}, PySem.W.EachIs (fun v (x : Str) => ∃ tk, v = Value.str x tk) out xs → Vals (xs.map V.str) out
  | _, _, .nil => .nil
  | _, _, .cons ⟨tk, h⟩ t => .cons ⟨tk, h⟩ (vals_each t)
section
variable {X : Cx} {e : En} {W : WX}
/-- what sorted(set(x)) does with a value -/
def tSS (e : En) (ta : TE) : TE := fun σ H Q => ta σ H fun x H1 => ∃ w xs d fr, (∀ a o, w.G a = some o → H1 a = some o) ∧ Seen e.K e.mg w H1 (.lst xs) x ∧ bifD .sortedSet [.lst xs] = some (d, fr) ∧ ∀ z H', NewR e.K e.mg w H1 d fr z H' → Q z H'
theorem pe_sortedSet {a : Expr} {ta : TE} {p p2 q pos : Pos} (hK : X.K = e.K) (hu : X.A.units + 65 < cLine) (hg : Gl X "sorted") (hm : X.mg "sorted" = none) (hg2 : Gl X "set") (hm2 : X.mg "set" = none) (ha : PE X a ta) (hc : X.calm = true)
    (na : starEach [a] X.env = (false, eval a X.env) :: starEach [] X.env) : PE X (.Call (.Name "sorted" p) [.Call (.Name "set" p2) [a] [] q] [] pos) (tSS e ta) := by
  refine ⟨fun pins s σ H Q I h => ?_⟩
  refine Call_ (ld_blt I hg hm (by decide +kernel : bootBuiltins "sorted" = some (.builtin "sorted")) ?_)
  refine PyProof.Rows.callWith_builtin1 (PyProof.Rows.args_cons ?_ rfl) rfl rfl
  refine Call_ (ld_blt I hg2 hm2 (by decide +kernel : bootBuiltins "set" = some (.type "set")) ?_)
  refine PyProof.Rows.callWith_type1 (PyProof.Rows.args_cons (thn (ha.run pins s σ H _ I h) fun v s1 ⟨x, H1, I1, r1, q1⟩ => PyProof.Rows.args_nil ?_) na) na rfl
  obtain ⟨w, xs, d, fr, hG, sx, hd, k⟩ := q1
  obtain ⟨l, vs, rfl, hq, rv⟩ := seen_lst hG sx
  cases r1
  unfold bifD at hd
  simp only at hd
  split at hd
  · rename_i hlen
    obtain ⟨ts, h1, h2⟩ := Option.map_eq_some_iff.mp hd
    cases h2
    obtain ⟨e1, e2⟩ := reps_strs rv h1
    subst e1
    obtain ⟨its, r, pl, hz⟩ := I1.list (.of hq)
    have hl1 : its.length = ts.length := by rw [← r.length]; simp
    have hl2 : ts.length = xs.length := by have := rv.length; simp at this; omega
    have hsz : its.toArray.size = ts.length := by rw [List.size_toArray, hl1]
    refine set_of_list (knd := strKind X.prog X.w) (val := fun i => (ts.map mkS).getD i Str.empty) (I1.ok.hd hc) pl.isList (fun i v hv => ?_) (by rw [hsz]; unfold scanBound; omega) fun h' tk hS hk => ?_
    · have hv : its[i]? = some v := by simpa using hv
      have hi : i < its.length := by
        by_cases z : i < its.length
        · exact z
        · rw [List.getElem?_eq_none (by omega)] at hv; cases hv
      obtain ⟨u, hu1, hu2⟩ := r.get (i := i) (x := V.str (mkS (ts[i]'(by omega)))) (by first | (simp; done) | (simp; omega))
      rw [hv] at hu1
      cases hu1
      obtain ⟨tk, rfl⟩ := hu2
      refine ⟨?_, rfl⟩
      have : (ts.map mkS).getD i Str.empty = mkS (ts[i]'(by omega)) := by
        rw [List.getD_eq_getElem?_getD, List.getElem?_map, List.getElem?_eq_getElem (by omega)]
        rfl
      rw [this]
      show Value.isStrOf (mkS _) (Value.str (mkS _) tk) = true
      simp [Value.isStrOf]
    · refine PyProof.Rows.args_nil ?_
      rw [hsz] at hS
      have hr : (List.range ts.length).map (fun i => (ts.map mkS).getD i Str.empty) = ts.map mkS := by
        apply List.ext_getElem
        · simp
        · intro i h1 h2
          simp at h1 h2
          simp [h2]
      rw [hr, metK_mk] at hS
      have I2 : Inv X pins σ H1 { s1 with heap := h', toks := tk } := I1.kept fun b o e => hk b o (Heap.lt_size e) e
      replace hS : SetG (strKind X.prog X.w) ({ s1 with heap := h', toks := tk } : Shared).heap s1.heap.objs.size ((metS ts).map mkS) := hS
      generalize ({ s1 with heap := h', toks := tk } : Shared) = s2 at I2 hS ⊢
      refine sorted_strs (s := s2) hS (I1.ok.hd hc) (by omega) fun s' p out c k2 g o hp hg eo => ?_
      rw [sort_mk] at eo
      have vo := vals_each eo
      have hn : H1 p = none := I2.hok.fresh hp
      have hol : (((metS ts).mergeSort fun a b => !ltS b a).map mkS).length ≤ sizeLine := by
        have := met_len ts []
        rw [List.length_map, List.length_mergeSort, sizeLine_eq]
        unfold metS
        simp at this
        omega
      have J : Inv X pins σ (upd H1 p (.lst ((((metS ts).mergeSort fun a b => !ltS b a).map mkS).map V.str))) { s2 with heap := s'.heap, gens := s'.gens, drawn := s'.drawn, toks := s'.toks } :=
        I2.call (ch := []) (Un.laid k2 hp hn) (I2.hok.laid k2 hp ⟨by rw [List.length_map]; exact hol, out, c, vo, hg⟩) (by rw [g]; exact I2.bare) (fun _ z => nomatch z)
      have es : s' = { s2 with heap := s'.heap, gens := s'.gens, drawn := s'.drawn, toks := s'.toks } := by
        cases s'
        cases s2
        cases o
        rfl
      rw [es]
      refine ⟨.ref p, _, J, rfl, k _ _ (.inr ⟨p, _, rfl, hn, rfl, ⟨_, rfl, ?_⟩, fun _ => trivial⟩)⟩
      refine reps_of_strs fun y hy => e2 y ?_
      rcases met_sub ts [] y ((List.mergeSort_perm _ _).mem_iff.mp hy) with z | z
      · cases z
      · exact z
  · cases hd
end
section
variable {X : Cx} {g : Ct} {e : En} {W : WX} {a : Expr} {pos p p2 q : Pos}
theorem ex_sortedSet (ok : CtOk X g e W) {t : E} (h1 : globB g.sc "sorted" = true) (h2 : globB g.sc "set" = true) (hs : noStar a = true) (h : PE X a (tE e W (ev e.P t))) :
    PE X (.Call (.Name "sorted" p) [.Call (.Name "set" p2) [a] [] q] [] pos) (tE e W (ev e.P (.bif .sortedSet [t]))) := by
  refine pe_mono (pe_sortedSet (e := e) ok.K ok.un (glob_of ok.sc h1) (ok.blt _ (by decide +kernel)) (glob_of ok.sc h2) (ok.blt _ (by decide +kernel)) h ok.calm (star_cons hs [] X.env)) fun σ H Q ⟨P, w, s, R, A⟩ => ?_
  rw [ev] at A
  simp only [evr] at A
  refine ⟨P, w, s, R, After.imp (After.bind (After.bind A)) fun v s1 w1 H1 l1 R1 q x n => ?_⟩
  replace q := q w1 H1 (.refl w1) R1
  obtain ⟨rv, hr, q⟩ := After.of q
  obtain ⟨pr, h3, rfl⟩ := Option.map_eq_some_iff.mp hr
  obtain ⟨ds, h4, h5⟩ := Option.bind_eq_some_iff.mp h3
  have h6 : ∃ d0, rd s1 v = some d0 ∧ ds = [d0] := by
    simp only [rds] at h4
    cases hv : rd s1 v with
    | none => rw [hv] at h4; simp at h4
    | some d0 => rw [hv] at h4; simp at h4; exact ⟨d0, rfl, h4.symm⟩
  obtain ⟨d0, h7, rfl⟩ := h6
  have h8 : ∃ xs, d0 = .lst xs := by
    cases d0 <;> first | exact ⟨_, rfl⟩ | (unfold bifD at h5; simp at h5)
  obtain ⟨xs, rfl⟩ := h8
  refine ⟨w1, xs, pr.1, pr.2, R1.g, n.read R1 h7, h5, fun z H' nr => ?_⟩
  obtain ⟨w2, l2, R2, nz⟩ := nr.now R1
  exact q w2 H' l2 R2 z nz
end
end PyE
end
section
set_option linter.all false
set_option autoImplicit false
set_option maxRecDepth 100000
set_option maxHeartbeats 1000000
/-! PyExpr: what compE gives is sound. -/
namespace PyE
open PySem PySem.Spec PyProof.Rows L2

theorem compE_fine {g : Ct} {n : Nat} {b : Bool} {a : Expr} {t : E} (h : compE g n b a = some t) : noStar a = true ∧ noSlice a = true := by
  cases n with
  | zero => unfold compE at h; cases h
  | succ n => cases a <;> first | exact ⟨rfl, rfl⟩ | (unfold compE at h; cases h)
theorem compT_fine {g : Ct} {n : Nat} {a : Expr} {t : T} (h : compT g n a = some t) : noStar a = true := by
  cases n with
  | zero => unfold compT at h; cases h
  | succ n => cases a <;> first | rfl | (unfold compT at h; cases h)
theorem mapO_cons {α β : Type} {f : α → Option β} {a : α} {as : List α} {bs : List β} (h : mapO f (a :: as) = some bs) : ∃ b rs, f a = some b ∧ mapO f as = some rs ∧ bs = b :: rs := by
  unfold mapO at h
  obtain ⟨b, h1, h⟩ := Option.bind_eq_some_iff.mp h
  obtain ⟨rs, h2, rfl⟩ := Option.map_eq_some_iff.mp h
  exact ⟨b, rs, h1, h2, rfl⟩
theorem mapO_len {α β : Type} {f : α → Option β} : ∀ {as : List α} {bs : List β}, mapO f as = some bs → bs.length = as.length
  | [], _, h => by cases h; rfl
  | a :: as, _, h => by
    obtain ⟨b, rs, _, h2, rfl⟩ := mapO_cons h
    simp [mapO_len h2]
theorem mapO_get {α β : Type} {f : α → Option β} : ∀ {as : List α} {bs : List β} {i : Nat} {a : α} {b : β}, mapO f as = some bs → as[i]? = some a → bs[i]? = some b → f a = some b
  | [], _, _, _, _, _, h1, _ => by simp at h1
  | a :: as, _, i, a', b', h, h1, h2 => by
    obtain ⟨b, rs, k1, k2, rfl⟩ := mapO_cons h
    cases i with
    | zero => simp at h1 h2; subst h1; subst h2; exact k1
    | succ i => exact mapO_get k2 (by simpa using h1) (by simpa using h2)
section
variable {X : Cx} {g : Ct} {e : En} {W : WX}
/-- a compiler of expressions that is sound here -/
def SndF (X : Cx) (e : En) (W : WX) (f : Expr → Option E) : Prop := ∀ a t, f a = some t → noStar a = true ∧ noSlice a = true ∧ PE X a (tE e W (ev e.P t)) ∧ PT X a (tT e W (evt e.P t))
theorem snd_evs {f : Expr → Option E} (h : SndF X e W f) : ∀ {es : List Expr} {ts : List E}, mapO f es = some ts → es.all noStar = true ∧ PA X es (tK e W (evs e.P ts))
  | [], _, h1 => by cases h1; exact ⟨rfl, ex_evs_nil⟩
  | a :: as, _, h1 => by
    obtain ⟨t, ts, k1, k2, rfl⟩ := mapO_cons h1
    obtain ⟨i1, i2⟩ := snd_evs h k2
    obtain ⟨j1, _, j2, _⟩ := h a t k1
    exact ⟨by rw [List.all_cons, j1, i1]; rfl, ex_evs_cons j1 j2 i2⟩
theorem snd_evr {f : Expr → Option E} (h : SndF X e W f) : ∀ {es : List Expr} {ts : List E}, mapO f es = some ts → es.all noStar = true ∧ PA X es (tL e W (evr e.P ts))
  | [], _, h1 => by cases h1; exact ⟨rfl, ex_evr_nil⟩
  | a :: as, _, h1 => by
    obtain ⟨t, ts, k1, k2, rfl⟩ := mapO_cons h1
    obtain ⟨i1, i2⟩ := snd_evr h k2
    obtain ⟨j1, _, j2, _⟩ := h a t k1
    exact ⟨by rw [List.all_cons, j1, i1]; rfl, ex_evr_cons j1 j2 i2⟩
theorem snd_parts {f : Expr → Option E} (h : SndF X e W f) : ∀ {es : List Expr} {ts : List E}, mapO f es = some ts → Parts X e W es ts
  | [], _, h1 => by cases h1; exact .nil
  | a :: as, _, h1 => by
    obtain ⟨t, ts, k1, k2, rfl⟩ := mapO_cons h1
    obtain ⟨_, _, j2, j3⟩ := h a t k1
    exact .cons j2 j3 (snd_parts h k2)
theorem setOf_of {g : Ct} {es : List Expr} {c : Expr} (h : setOf g es = some c) : ∃ y p q, es = [.Call (.Name y p) [c] [] q] ∧ y = "set" ∧ globB g.sc y = true := by
  unfold setOf at h
  split at h
  · split at h
    · rename_i hz
      rw [Bool.and_eq_true, decide_eq_true_eq] at hz
      cases h
      exact ⟨_, _, _, rfl, hz.1, hz.2⟩
    · cases h
  · cases h
theorem snd_call (ok : CtOk X g e W) {cF cT : Expr → Option E} (hF : SndF X e W cF) (hT : SndF X e W cT) {x : Str} {es : List Expr} {t : E} {p pos : Pos} (h : callE g cF cT x es = some t) : PE X (.Call (.Name x p) es [] pos) (tE e W (ev e.P t)) := by
  unfold callE at h
  split at h
  · rename_i hx
    rw [Bool.and_eq_true] at hx
    split at h
    · rename_i hf
      obtain ⟨ts, h1, rfl⟩ := Option.map_eq_some_iff.mp h
      obtain ⟨i1, i2⟩ := snd_evs hF h1
      exact ex_call ok hx.1 hx.2 (by simpa using hf) i1 i2 fun z => by subst z; cases h1; rfl
    · split at h
      · rename_i hi
        split at h
        · rename_i a b
          obtain ⟨t1, h1, h⟩ := Option.bind_eq_some_iff.mp h
          obtain ⟨ts, h2, rfl⟩ := Option.map_eq_some_iff.mp h
          obtain ⟨j1, _, j2, _⟩ := hT a t1 h1
          exact ex_isi ok hi hx.2 j1 j2 h2
        · cases h
      · split at h
        · rename_i hso
          rw [Bool.and_eq_true, decide_eq_true_eq] at hso
          obtain ⟨c, h1, h⟩ := Option.bind_eq_some_iff.mp h
          obtain ⟨t1, h2, rfl⟩ := Option.map_eq_some_iff.mp h
          obtain ⟨y, p2, q, rfl, hy, hg⟩ := setOf_of h1
          obtain ⟨j1, _, j2, _⟩ := hT c t1 h2
          rw [hso.1] at hx ⊢
          rw [hy] at hg ⊢
          exact ex_sortedSet ok hx.2 hg j1 j2
        · split at h
          · cases h
          rename_i hne
          obtain ⟨f, h1, h⟩ := Option.bind_eq_some_iff.mp h
          obtain ⟨ts, h2, rfl⟩ := Option.map_eq_some_iff.mp h
          obtain ⟨i1, i2⟩ := snd_evr hT h2
          cases es with
          | nil => simp at hne
          | cons a es =>
            obtain ⟨b, rs, _, _, rfl⟩ := mapO_cons h2
            exact ex_bif ok h1 hx.2 i1 i2
  · cases h
theorem snd_met (ok : CtOk X g e W) {cF cT : Expr → Option E} (hF : SndF X e W cF) (hT : SndF X e W cT) {a : Expr} {m : Str} {ap cp : Pos} {es : List Expr} {t : E} (h : metE cF cT a m ap es cp = some t) : PE X (.Call (.Attribute a m ap) es [] cp) (tE e W (ev e.P t)) := by
  unfold metE at h
  split at h
  · rename_i hz
    rw [Bool.and_eq_true, Bool.and_eq_true] at hz
    obtain ⟨a', h1, h⟩ := Option.bind_eq_some_iff.mp h
    obtain ⟨k, h2, h⟩ := Option.bind_eq_some_iff.mp h
    obtain ⟨ts, h3, rfl⟩ := Option.map_eq_some_iff.mp h
    obtain ⟨_, _, j2, _⟩ := hT a a' h1
    have hst : es.all noStar = true := by
      cases hk : k.calm with
      | true => rw [hk] at h3; exact (snd_evs hT h3).1
      | false => rw [hk] at h3; exact (snd_evs hF h3).1
    refine ex_met ok h2 j2 (fun hk => ?_) (fun hk => ?_) hst hz.1.1 (of_decide_eq_true hz.1.2) hz.2 fun z => by subst z; cases h3; rfl
    · rw [hk] at h3; exact (snd_evr hT h3).2
    · rw [hk] at h3; exact (snd_evs hF h3).2
  · cases h
theorem snd_it (ok : CtOk X g e W) {cF : Expr → Option E} (hF : SndF X e W cF) {a tg : Expr} {it : It} (h : itE g cF a = some it) (ht : it.fits tg = true) : PI X tg a (tI e W (evIt e.P it)) := by
  unfold itE at h
  split at h
  · rename_i x p es pos
    split at h
    · rename_i hg
      split at h
      · rename_i b
        split at h
        · rename_i hx
          subst hx
          obtain ⟨t, h1, rfl⟩ := Option.map_eq_some_iff.mp h
          obtain ⟨j1, _, j2, _⟩ := hF b t h1
          exact ex_rng1 ok hg j1 (ex_evs_cons j1 j2 ex_evs_nil)
        · split at h
          · rename_i hx
            subst hx
            obtain ⟨t, h1, rfl⟩ := Option.map_eq_some_iff.mp h
            obtain ⟨j1, _, j2, _⟩ := hF b t h1
            cases tg <;> first | (exact ex_enum ok hg j1 j2; done) | cases ht
          · split at h
            · rename_i hx
              subst hx
              obtain ⟨t, h1, rfl⟩ := Option.map_eq_some_iff.mp h
              obtain ⟨j1, _, j2, _⟩ := hF b t h1
              exact ex_itrev ok hg j1 j2
            · cases h
      · rename_i b c
        split at h
        · rename_i hx
          subst hx
          obtain ⟨t, h1, h⟩ := Option.bind_eq_some_iff.mp h
          obtain ⟨u, h2, rfl⟩ := Option.map_eq_some_iff.mp h
          obtain ⟨j1, _, j2, _⟩ := hF b t h1
          obtain ⟨k1, _, k2, _⟩ := hF c u h2
          exact ex_rng2 ok hg j1 k1 (ex_evs_cons j1 j2 (ex_evs_cons k1 k2 ex_evs_nil))
        · split at h
          · rename_i hx
            subst hx
            obtain ⟨t, h1, h⟩ := Option.bind_eq_some_iff.mp h
            obtain ⟨u, h2, rfl⟩ := Option.map_eq_some_iff.mp h
            obtain ⟨j1, _, j2, _⟩ := hF b t h1
            obtain ⟨k1, _, k2, _⟩ := hF c u h2
            cases tg <;> first | (exact ex_zip ok hg j1 k1 j2 k2; done) | cases ht
          · cases h
      · cases h
    · cases h
  · cases h
theorem itE_noset {g : Ct} {cF : Expr → Option E} {a : Expr} {it : It} (h : itE g cF a = some it) (env : Env) : ∀ x, foldedSetIterable a env x = pure x := by
  intro x
  cases a <;> first | rfl | (unfold itE at h; cases h)
theorem compE_noset {g : Ct} {n : Nat} {b : Bool} {a : Expr} {t : E} (h : compE g n b a = some t) (env : Env) : ∀ x, foldedSetIterable a env x = pure x := by
  intro x
  cases n with
  | zero => unfold compE at h; cases h
  | succ n => cases a <;> first | rfl | (unfold compE at h; cases h)

/-! ### blocks -/
theorem lookup_mapf {k : NameKind} {f : Str × NameKind → Str × NameKind} (h1 : ∀ p, (f p).1 = p.1) (h2 : ∀ p, p.2 ≠ .free → (f p).2 = p.2) : ∀ {names : List (Str × NameKind)} {x : Str}, names.lookup x = some k → k ≠ .free → (names.map f).lookup x = some k
  | [], _, h, _ => by cases h
  | p :: r, x, h, hk => by
    have e1 : ∀ q : Str × NameKind, ∀ l : List (Str × NameKind), (q :: l).lookup x = if (x == q.1) = true then some q.2 else l.lookup x := fun q l => by
      obtain ⟨n, j⟩ := q
      rw [List.lookup_cons]
      cases x == n <;> rfl
    rw [e1] at h
    rw [List.map_cons, e1, h1]
    by_cases hx : (x == p.1) = true
    · rw [if_pos hx] at h ⊢
      cases h
      rw [h2 p hk]
    · rw [if_neg hx] at h ⊢
      exact lookup_mapf h1 h2 h hk
theorem rel_lookup {k : NameKind} {scope sc : Scope} {x : Str} (h : scope.names.lookup x = some k) (hk : k ≠ .free) : (relS scope sc).names.lookup x = some k := by
  refine lookup_mapf (fun p => ?_) (fun p hp => ?_) h hk
  · show (if _ then _ else _ : Str × NameKind).1 = _
    split <;> rfl
  · show (if _ then _ else _ : Str × NameKind).2 = _
    have e1 : (p.2 == NameKind.free) = false := by
      cases hz : p.2 <;> first | rfl | exact absurd hz hp
    rw [e1]
    rfl
theorem blk_ok (ok : CtOk X g e W) {sc : Scope} {s : Shared} {H : Hp} {C : Addr} {cl : List (Str × Addr)} {fp : List Addr} : CtOk (X.blk s H sc (compEnvC sc cl C X.env) fp) (blkCt g sc) e W0 where
  K := ok.K
  mg := ok.mg
  N := ok.N
  nd := ok.nd
  sc := by
    show relS sc X.env.scope = relS sc g.sc
    rw [ok.sc]
  un := ok.un
  gu := ok.gu
  calm := ok.calm
  tk := fun u s' ⟨_, _, _, _, _, _, _, _, _, _, _, _, _, _, _, _, w⟩ => w.elim
  con := ok.con
  fns := ok.fns
  blt := ok.blt
  bnd := fun x h => by
    unfold locB at h
    have h : (match sc.names.lookup x with | some .local | some .cell => true | _ => false) = true := h
    split at h
    · rename_i hx
      have h1 : (relS sc X.env.scope).names.lookup x = some .local := rel_lookup hx (by intro z; cases z)
      exact ⟨.inl h1, .inr h1⟩
    · rename_i hx
      have h1 : (relS sc X.env.scope).names.lookup x = some .cell := rel_lookup hx (by intro z; cases z)
      refine ⟨.inr h1, .inl ?_⟩
      show (sc.names.lookup x == some .cell) = true
      rw [hx]; rfl
    · cases h
/-! ### the induction -/
structure Snd (n : Nat) : Prop where
  E : ∀ (g : Ct) (X : Cx) (e : En) (W : WX), CtOk X g e W → ∀ b, SndF X e W fun a => compE g n b a
  O : ∀ (g : Ct) (X : Cx) (e : En) (W : WX), CtOk X g e W → ∀ o t, compO g n o = some t → PO X o (tO e W (evo e.P t))
  I : ∀ (g : Ct) (X : Cx) (e : En) (W : WX), CtOk X g e W → ∀ a it tg, compI g n a = some it → it.fits tg = true → PI X tg a (tI e W (evIt e.P it)) ∧ ∀ env x, foldedSetIterable a env x = pure x
  T : ∀ (g : Ct) (X : Cx) (e : En) (W : WX), CtOk X g e W → ∀ a t Fr, compT g n a = some t → FrOk Fr (tsl t) → PG X a (tG e W Fr t)
theorem tgs_all {n : Nat} (h : Snd n) (ok : CtOk X g e W) {Fr : L2.St → Prop} : ∀ {es : List Expr} {ts : List T}, mapO (fun a => compT g n a) es = some ts → FrOk Fr (tsls ts) → es.all noStar = true ∧ PGs X es (tGs e W Fr ts)
  | [], _, h1, _ => by cases h1; exact ⟨rfl, tgs_nil⟩
  | a :: as, _, h1, hF => by
    obtain ⟨t, ts, k1, k2, rfl⟩ := mapO_cons h1
    have hF' : FrOk Fr (tsl t ++ tsls ts) := by
      have : tsls (t :: ts) = tsl t ++ tsls ts := by rw [tsls]
      rw [← this]; exact hF
    obtain ⟨i1, i2⟩ := tgs_all h ok k2 fun i hi => hF' i (List.mem_append_right _ hi)
    have j1 := compT_fine k1
    exact ⟨by rw [List.all_cons, j1, i1]; rfl, tgs_cons j1 (h.T g X e W ok a t Fr k1 fun i hi => hF' i (List.mem_append_left _ hi)) i2⟩
theorem pts_of {ifs : List Expr} {ts : List E} {f : Expr → Option E} (h : SndF X e W f) (hl : ifs.length ≤ 1) (h1 : mapO f ifs = some ts) : PTs X ifs (tT e W (evIfs e.P ts)) := by
  match ifs, hl, h1 with
  | [], _, h1 =>
    cases h1
    refine ⟨fun pins s σ H Q I ⟨P, w, s', R, A⟩ => pts_nil.run pins s σ H Q I ?_⟩
    rw [evIfs] at A
    exact A w H (.refl w) R
  | [a], _, h1 =>
    obtain ⟨t, ts, k1, k2, rfl⟩ := mapO_cons h1
    cases k2
    obtain ⟨_, _, _, j3⟩ := h a t k1
    have e1 : evIfs e.P [t] = evt e.P t := by
      funext s
      rw [evIfs]
      unfold evt
      cases (ev e.P t s).bind truthR with
      | ok b s1 => cases b <;> simp [R.bind, evIfs]
      | exc c vs s1 => rfl
      | stuck => rfl
    rw [e1]
    exact pts_one j3
theorem own_map (g : Ct) (own : List Nat) : (ownList g own).map (·.2) = own := by
  unfold ownList
  rw [List.map_map]
  exact (List.map_congr_left fun _ _ => rfl).trans (List.map_id _)
theorem fr_own {own is : List Nat} {σ : L2.St} (h : ∀ i ∈ is, i ∈ own) : FrOk (fun τ => wipe τ own = wipe σ own) is := fun i hi τ v hτ => by
  show wipe (τ.set i (some v)) own = wipe σ own
  rw [wipe_set (h i hi)]
  exact hτ
theorem pg_block {a : Expr} {t : T} {own : List Nat} (h : ∀ Fr, FrOk Fr (tsl t) → PG X a (tG e W0 Fr t)) (hs : ∀ i ∈ tsl t, i ∈ own) : PG X a (tGc e own t) := ⟨fun pins s σ H v u Q I r q => (h _ (fr_own hs)).run pins s σ H v u Q I r q⟩
/-- what a comprehension gives to its rules -/
theorem lc_one {n : Nat} (ih : Snd n) (ok : CtOk X g e W) {el tg it : Expr} {ifs : List Expr} {sc : Scope} {tm : E}
    (h : ((ownOf g sc).bind fun own => if lcOk g sc ifs own = true then
          (compI g n it).bind fun it' => (compT (blkCt g sc) n tg).bind fun t' => if tgOk own tg it' t' = true then
            (mapO (fun e => compE (blkCt g sc) n true e) ifs).bind fun ifs => (compE (blkCt g sc) n false el).map fun e => E.comp own t' it' ifs e
          else none
        else none) = some tm) : ∃ own t' it' ts el', tm = .comp own t' it' ts el' ∧ PI X tg it (tI e W (evIt e.P it')) ∧ BlkOk X.N X.env.scope sc (ownList g own) ∧
      (∀ (s : Shared) (H : Hp) (C : Addr) (cl : List (Str × Addr)) (fp : List Addr), PG (X.blk s H sc (compEnvC sc cl C X.env) fp) tg (tGc e own t')) ∧
      (∀ (s : Shared) (H : Hp) (C : Addr) (cl : List (Str × Addr)) (fp : List Addr), PTs (X.blk s H sc (compEnvC sc cl C X.env) fp) ifs (tT e W0 (evIfs e.P ts))) ∧
      (∀ (s : Shared) (H : Hp) (C : Addr) (cl : List (Str × Addr)) (fp : List Addr), PE (X.blk s H sc (compEnvC sc cl C X.env) fp) el (tE e W0 (ev e.P el'))) ∧ ∀ x, foldedSetIterable it X.env x = pure x := by
  obtain ⟨own, ho, h⟩ := Option.bind_eq_some_iff.mp h
  split at h
  · rename_i hlc
    obtain ⟨it', h1, h⟩ := Option.bind_eq_some_iff.mp h
    obtain ⟨t', h2, h⟩ := Option.bind_eq_some_iff.mp h
    split at h
    · rename_i htg
      obtain ⟨ts, h3, h⟩ := Option.bind_eq_some_iff.mp h
      obtain ⟨el', h4, rfl⟩ := Option.map_eq_some_iff.mp h
      unfold lcOk at hlc
      unfold tgOk at htg
      rw [Bool.and_eq_true] at hlc htg
      obtain ⟨i1, i2⟩ := ih.I g X e W ok it it' tg h1 htg.1
      have hsub : ∀ i ∈ tsl t', i ∈ own := fun i hi => by simpa using List.all_eq_true.mp htg.2 i hi
      exact ⟨own, t', it', ts, el', rfl, i1, by rw [ok.N, ok.sc]; exact blkOk_by hlc.1, fun s H C cl fp => pg_block (fun Fr hF => ih.T _ _ e W0 (blk_ok ok) tg t' Fr h2 hF) hsub,
        fun s H C cl fp => pts_of (ih.E _ _ e W0 (blk_ok ok) true) (of_decide_eq_true hlc.2) h3, fun s H C cl fp => (ih.E _ _ e W0 (blk_ok ok) false _ _ h4).2.2.1, i2 X.env⟩
    · cases h
  · cases h
theorem lc_two {n : Nat} (ih : Snd n) (ok : CtOk X g e W) {el tg it tg2 it2 : Expr} {ifs ifs2 : List Expr} {sc : Scope} {tm : E}
    (h : ((ownOf g sc).bind fun own => if (lcOk g sc ifs own && lcOk g sc ifs2 own) = true then
          (compI g n it).bind fun it' => (compT (blkCt g sc) n tg).bind fun t' => (compI (blkCt g sc) n it2).bind fun it2' => (compT (blkCt g sc) n tg2).bind fun t2' => if (tgOk own tg it' t' && tgOk own tg2 it2' t2') = true then
            (mapO (fun e => compE (blkCt g sc) n true e) ifs).bind fun ifs => (mapO (fun e => compE (blkCt g sc) n true e) ifs2).bind fun ifs2 => (compE (blkCt g sc) n false el).map fun e => E.comp2 own (tsl t2') t' it' ifs t2' it2' ifs2 e
          else none
        else none) = some tm) : ∃ own t' it' ts t2' it2' ts2 el', tm = .comp2 own (tsl t2') t' it' ts t2' it2' ts2 el' ∧ (∀ i ∈ tsl t2', i ∈ own) ∧ PI X tg it (tI e W (evIt e.P it')) ∧ BlkOk X.N X.env.scope sc (ownList g own) ∧
      (∀ (s : Shared) (H : Hp) (C : Addr) (cl : List (Str × Addr)) (fp : List Addr), PG (X.blk s H sc (compEnvC sc cl C X.env) fp) tg (tGc e own t')) ∧
      (∀ (s : Shared) (H : Hp) (C : Addr) (cl : List (Str × Addr)) (fp : List Addr), PTs (X.blk s H sc (compEnvC sc cl C X.env) fp) ifs (tT e W0 (evIfs e.P ts))) ∧
      (∀ (s : Shared) (H : Hp) (C : Addr) (cl : List (Str × Addr)) (fp : List Addr), PI (X.blk s H sc (compEnvC sc cl C X.env) fp) tg2 it2 (tI e W0 (evIt e.P it2'))) ∧
      (∀ (s : Shared) (H : Hp) (C : Addr) (cl : List (Str × Addr)) (fp : List Addr), PG (X.blk s H sc (compEnvC sc cl C X.env) fp) tg2 (tGc e (tsl t2') t2')) ∧
      (∀ (s : Shared) (H : Hp) (C : Addr) (cl : List (Str × Addr)) (fp : List Addr), PTs (X.blk s H sc (compEnvC sc cl C X.env) fp) ifs2 (tT e W0 (evIfs e.P ts2))) ∧
      (∀ (s : Shared) (H : Hp) (C : Addr) (cl : List (Str × Addr)) (fp : List Addr), PE (X.blk s H sc (compEnvC sc cl C X.env) fp) el (tE e W0 (ev e.P el'))) ∧ (∀ x, foldedSetIterable it X.env x = pure x) ∧ ∀ env x, foldedSetIterable it2 env x = pure x := by
  obtain ⟨own, ho, h⟩ := Option.bind_eq_some_iff.mp h
  split at h
  · rename_i hlc
    obtain ⟨it', h1, h⟩ := Option.bind_eq_some_iff.mp h
    obtain ⟨t', h2, h⟩ := Option.bind_eq_some_iff.mp h
    obtain ⟨it2', h5, h⟩ := Option.bind_eq_some_iff.mp h
    obtain ⟨t2', h6, h⟩ := Option.bind_eq_some_iff.mp h
    split at h
    · rename_i htg
      obtain ⟨ts, h3, h⟩ := Option.bind_eq_some_iff.mp h
      obtain ⟨ts2, h7, h⟩ := Option.bind_eq_some_iff.mp h
      obtain ⟨el', h4, rfl⟩ := Option.map_eq_some_iff.mp h
      rw [Bool.and_eq_true] at hlc htg
      unfold lcOk at hlc
      unfold tgOk at htg
      rw [Bool.and_eq_true, Bool.and_eq_true] at hlc htg
      obtain ⟨i1, i2⟩ := ih.I g X e W ok it it' tg h1 htg.1.1
      have hsub : ∀ i ∈ tsl t', i ∈ own := fun i hi => by simpa using List.all_eq_true.mp htg.1.2 i hi
      have hsub2 : ∀ i ∈ tsl t2', i ∈ own := fun i hi => by simpa using List.all_eq_true.mp htg.2.2 i hi
      have set2 : ∀ env x, foldedSetIterable it2 env x = pure x := (ih.I _ _ e W0 (blk_ok ok (s := ⟨X.base, #[], X.s_0.drawn, 0, X.s_0.os⟩) (H := X.H_0) (C := 0) (cl := []) (fp := [])) it2 it2' tg2 h5 htg.2.1).2
      exact ⟨own, t', it', ts, t2', it2', ts2, el', rfl, hsub2, i1, by rw [ok.N, ok.sc]; exact blkOk_by hlc.1.1, fun s H C cl fp => pg_block (fun Fr hF => ih.T _ _ e W0 (blk_ok ok) tg t' Fr h2 hF) hsub,
        fun s H C cl fp => pts_of (ih.E _ _ e W0 (blk_ok ok) true) (of_decide_eq_true hlc.1.2) h3, fun s H C cl fp => (ih.I _ _ e W0 (blk_ok ok) it2 it2' tg2 h5 htg.2.1).1,
        fun s H C cl fp => pg_block (fun Fr hF => ih.T _ _ e W0 (blk_ok ok) tg2 t2' Fr h6 hF) (fun i hi => hi), fun s H C cl fp => pts_of (ih.E _ _ e W0 (blk_ok ok) true) (of_decide_eq_true hlc.2.2) h7,
        fun s H C cl fp => (ih.E _ _ e W0 (blk_ok ok) false _ _ h4).2.2.1, i2 X.env, set2⟩
    · cases h
  · cases h
theorem snd_of_pe {a : Expr} {t : E} (ok : CtOk X g e W) (h : noStar a = true ∧ noSlice a = true) (h1 : PE X a (tE e W (ev e.P t))) (ht : ∀ whole, isTrue a X.env whole = (do let v ← whole; standAt a.pos; holding [v] (truthy v))) : noStar a = true ∧ noSlice a = true ∧ PE X a (tE e W (ev e.P t)) ∧ PT X a (tT e W (evt e.P t)) :=
  ⟨h.1, h.2, h1, tests h1 ht ok.K⟩
theorem snd_step {n : Nat} (ih : Snd n) : Snd (n + 1) := by
  have hO : ∀ (g : Ct) (X : Cx) (e : En) (W : WX), CtOk X g e W → ∀ o t, compO g (n + 1) o = some t → PO X o (tO e W (evo e.P t)) := fun g X e W ok o t h => by
    unfold compO at h
    split at h
    · cases h; exact ex_po_none
    · obtain ⟨t', h1, rfl⟩ := Option.map_eq_some_iff.mp h
      exact ex_po_some (ih.E g X e W ok true _ _ h1).2.2.1
  have hI : ∀ (g : Ct) (X : Cx) (e : En) (W : WX), CtOk X g e W → ∀ a it tg, compI g (n + 1) a = some it → it.fits tg = true → PI X tg a (tI e W (evIt e.P it)) ∧ ∀ env x, foldedSetIterable a env x = pure x := fun g X e W ok a it tg h ht => by
    unfold compI at h
    split at h
    · rename_i it' h1
      cases h
      exact ⟨snd_it ok (ih.E g X e W ok false) h1 ht, itE_noset h1⟩
    · obtain ⟨t, h1, rfl⟩ := Option.map_eq_some_iff.mp h
      exact ⟨ex_seq ok (ih.E g X e W ok false _ _ h1).2.2.1, compE_noset h1⟩
  have hT : ∀ (g : Ct) (X : Cx) (e : En) (W : WX), CtOk X g e W → ∀ a t Fr, compT g (n + 1) a = some t → FrOk Fr (tsl t) → PG X a (tG e W Fr t) := fun g X e W ok a t Fr h hF => by
    unfold compT at h
    split at h
    · split at h
      · rename_i h1
        rw [Bool.and_eq_true] at h1
        obtain ⟨i, h2, rfl⟩ := Option.map_eq_some_iff.mp h
        refine tg_nm ok ?_ h1.2 h2
        rw [tsl] at hF
        exact hF
      · cases h
    · obtain ⟨ts, h1, rfl⟩ := Option.map_eq_some_iff.mp h
      rw [tsl] at hF
      obtain ⟨i1, i2⟩ := tgs_all ih ok h1 hF
      exact tg_tup ok i1 (mapO_len h1) i2
    · obtain ⟨a', h1, h⟩ := Option.bind_eq_some_iff.mp h
      obtain ⟨i', h2, rfl⟩ := Option.map_eq_some_iff.mp h
      obtain ⟨_, _, j2, _⟩ := ih.E g X e W ok true _ _ h1
      obtain ⟨_, k1, k2, _⟩ := ih.E g X e W ok true _ _ h2
      exact tg_sub ok k1 j2 k2
    · cases h
  refine ⟨fun g X e W ok b a t h => ?_, hO, hI, hT⟩
  have fine := compE_fine h
  have EE := ih.E g X e W ok
  have h : compE g (n + 1) b a = some t := h
  unfold compE at h
  split at h
  · -- constant
    obtain ⟨d, h1, rfl⟩ := Option.map_eq_some_iff.mp h
    exact snd_of_pe ok fine (ex_const h1) fun _ => rfl
  · -- name
    refine snd_of_pe ok fine ?_ fun _ => rfl
    split at h
    · rename_i i hi
      split at h
      · cases h; exact ex_m ok hi
      · cases h; exact ex_v ok hi
    · split at h
      · rename_i h1
        rw [Bool.and_eq_true] at h1
        split at h
        · rename_i d hd
          cases h
          exact ex_con ok h1.1 h1.2 hd
        · split at h
          · rename_i hf
            cases h
            exact ex_fn ok h1.1 h1.2 (by simpa using hf)
          · cases h
      · cases h
  · -- tuple
    split at h
    · rename_i hl
      obtain ⟨ts, h1, rfl⟩ := Option.map_eq_some_iff.mp h
      exact snd_of_pe ok fine (ex_tup (snd_evs (EE false) h1).2 (by rw [mapO_len h1]; exact hl)) fun _ => rfl
    · cases h
  · -- list
    split at h
    · rename_i hl
      obtain ⟨ts, h1, rfl⟩ := Option.map_eq_some_iff.mp h
      exact snd_of_pe ok fine (ex_lst (snd_evs (EE false) h1).2 (by rw [mapO_len h1]; exact hl)) fun _ => rfl
    · cases h
  · -- dict
    obtain ⟨kds, h1, h⟩ := Option.bind_eq_some_iff.mp h
    split at h
    · rename_i hl
      obtain ⟨ts, h2, rfl⟩ := Option.map_eq_some_iff.mp h
      exact snd_of_pe ok fine (ex_dct h1 hl.1 hl.2.1 hl.2.2 (fun k1 k2 => (EE false _ _ (mapO_get h2 k1 k2)).2.2.1) (mapO_len h2).symm) fun _ => rfl
    · cases h
  · -- unary
    split at h
    · obtain ⟨t', h1, rfl⟩ := Option.map_eq_some_iff.mp h
      exact snd_of_pe ok fine (ex_neg (EE true _ _ h1).2.2.1) fun _ => rfl
    · obtain ⟨t', h1, rfl⟩ := Option.map_eq_some_iff.mp h
      obtain ⟨_, _, j1, j2⟩ := EE true _ _ h1
      exact ⟨fine.1, fine.2, ex_not ok j1, test_not j2⟩
    · cases h
  · -- operator
    obtain ⟨t1, h1, h⟩ := Option.bind_eq_some_iff.mp h
    obtain ⟨t2, h2, rfl⟩ := Option.map_eq_some_iff.mp h
    exact snd_of_pe ok fine (ex_bin ok (EE true _ _ h1).2.2.1 (EE true _ _ h2).2.2.1) fun _ => rfl
  · -- comparison
    split at h
    · split at h
      · cases h
      · rename_i o c hdup hset
        obtain ⟨t1, h1, h⟩ := Option.bind_eq_some_iff.mp h
        obtain ⟨t2, h2, rfl⟩ := Option.map_eq_some_iff.mp h
        have hm : behindInMarks o c = false := by
          cases c <;> first | rfl | exact absurd rfl hset
        exact ⟨fine.1, fine.2, ex_cmp ok (EE true _ _ h1).2.2.1 (EE true _ _ h2).2.2.1 hm, test_cmp ok (EE true _ _ h1).2.2.1 (EE true _ _ h2).2.2.1 hm⟩
    · split at h
      · cases h
      · rename_i o o2 c d hdup hset
        obtain ⟨t1, h1, h⟩ := Option.bind_eq_some_iff.mp h
        obtain ⟨t2, h2, h⟩ := Option.bind_eq_some_iff.mp h
        obtain ⟨t3, h3, rfl⟩ := Option.map_eq_some_iff.mp h
        have hm : lastMarks [o, o2] [c, d] = false := by
          show behindInMarks o2 d = false
          cases d <;> first | rfl | exact absurd (by simp [isSet]) hset
        have := ex_chain ok (pos := ‹Pos›) (EE true _ _ h1).2.2.1 (EE true _ _ h2).2.2.1 (EE true _ _ h3).2.2.1 hm
        exact ⟨fine.1, fine.2, this.1, this.2⟩
    · cases h
  · -- and, or
    split at h
    · cases h
    · rename_i hne
      split at h
      · obtain ⟨ts, h1, rfl⟩ := Option.map_eq_some_iff.mp h
        have hn : ts ≠ [] := fun z => by
          subst z
          have := mapO_len h1
          exact hne (by rw [List.isEmpty_iff]; exact List.length_eq_zero_iff.mp this.symm)
        obtain ⟨i1, i2⟩ := ex_and (pos := ‹Pos›) ok (snd_parts (EE b) h1) hn
        have e1 : ev e.P (.and ts) = evAnd e.P ts := by funext s; rw [ev]
        exact ⟨fine.1, fine.2, by rw [e1]; exact i1, by unfold evt; rw [e1]; exact i2.pt⟩
      · obtain ⟨ts, h1, rfl⟩ := Option.map_eq_some_iff.mp h
        have hn : ts ≠ [] := fun z => by
          subst z
          have := mapO_len h1
          exact hne (by rw [List.isEmpty_iff]; exact List.length_eq_zero_iff.mp this.symm)
        obtain ⟨i1, i2⟩ := ex_or (pos := ‹Pos›) ok (snd_parts (EE b) h1) hn
        have e1 : ev e.P (.or ts) = evOr e.P ts := by funext s; rw [ev]
        exact ⟨fine.1, fine.2, by rw [e1]; exact i1, by unfold evt; rw [e1]; exact i2.pt⟩
  · -- if else
    obtain ⟨t1, h1, h⟩ := Option.bind_eq_some_iff.mp h
    obtain ⟨t2, h2, h⟩ := Option.bind_eq_some_iff.mp h
    obtain ⟨t3, h3, rfl⟩ := Option.map_eq_some_iff.mp h
    obtain ⟨_, _, _, c2⟩ := EE true _ _ h1
    obtain ⟨_, _, a1, a2⟩ := EE b _ _ h2
    obtain ⟨_, _, b1, b2⟩ := EE b _ _ h3
    exact ⟨fine.1, fine.2, ex_ite c2 a1 b1, test_ite c2 a2 b2⟩
  · -- subscript
    refine snd_of_pe ok fine ?_ fun _ => rfl
    split at h
    · obtain ⟨t1, h1, h⟩ := Option.bind_eq_some_iff.mp h
      obtain ⟨t2, h2, h⟩ := Option.bind_eq_some_iff.mp h
      obtain ⟨t3, h3, rfl⟩ := Option.map_eq_some_iff.mp h
      exact ex_sli (EE true _ _ h1).2.2.1 (ih.O g X e W ok _ _ h2) (ih.O g X e W ok _ _ h3)
    · obtain ⟨t1, h1, rfl⟩ := Option.map_eq_some_iff.mp h
      exact ex_rev (EE true _ _ h1).2.2.1
    · cases h
    · obtain ⟨t1, h1, h⟩ := Option.bind_eq_some_iff.mp h
      obtain ⟨t2, h2, rfl⟩ := Option.map_eq_some_iff.mp h
      obtain ⟨_, k1, k2, _⟩ := EE true _ _ h2
      exact ex_sub ok (EE true _ _ h1).2.2.1 k2 k1
  · -- call
    refine snd_of_pe ok fine ?_ fun _ => rfl
    split at h
    · exact snd_call ok (EE false) (EE true) h
    · exact snd_met ok (EE false) (EE true) h
    · cases h
  · -- comprehension
    refine snd_of_pe ok fine ?_ fun _ => rfl
    split at h
    · obtain ⟨own, t', it', ts, el, rfl, b1, b2, b3, b4, b5, b6⟩ := lc_one ih ok h
      refine pe_mono (pe_lc (own := ownList g own) ok.calm (by rw [ok.N]; exact ok.nd) b1 b2 b3 b4 b5 b6) fun σ H Q q => ?_
      rw [own_map]
      exact lc_read q
    · obtain ⟨own, t', it', ts, t2', it2', ts2, el, rfl, hs, b1, b2, b3, b4, b5, b6, b7, b8, b9, b10⟩ := lc_two ih ok h
      refine pe_mono (pe_lc2 (own := ownList g own) (vs1 := tsl t2') ok.calm (by rw [ok.N]; exact ok.nd) b1 b2 (by rw [own_map]; exact hs) b3 b4 b5 b6 b7 b8 b9 b10) fun σ H Q q => ?_
      rw [own_map]
      exact lc2_read hs q
    · cases h
  · cases h
theorem snd_all : ∀ n, Snd n
  | 0 =>
    { E := fun g X e W ok b a t h => by
        have h : compE g 0 b a = some t := h
        unfold compE at h
        cases h
      O := fun g X e W ok o t h => by
        unfold compO at h
        cases h
      I := fun g X e W ok a it tg h _ => by
        unfold compI at h
        cases h
      T := fun g X e W ok a t Fr h _ => by
        unfold compT at h
        cases h }
  | n + 1 => snd_step (snd_all n)
end
end PyE
end
section
set_option linter.all false
set_option autoImplicit false
set_option maxRecDepth 100000
set_option maxHeartbeats 1000000
/-! PyStm: statements. -/
namespace PyE
open PySem PySem.Spec PyProof.Rows L2

/-- what a statement leaves, by the wanted ends -/
def FlQ (e : En) (P : Hp) (D : Ends) (fl : Fl) (s : S) (w : Wd) (σ : L2.St) (H : Hp) : Prop := match fl with
  | .nx => D.nx σ H
  | .brk => D.bk σ H
  | .ct => D.ct σ H
  | .ret d fr => ∀ z, Now e.K e.mg P w s σ H (.val d fr) z → D.rt z H
def tS (e : En) (W : WX) (f : S → R Fl) : TS := fun D σ H => ∃ P w s, e.rel P w s σ H ∧ AfterS e W P w (f s) (FlQ e P D)
/-- what statements ask of the context besides -/
structure StOk (X : Cx) (g : Ct) (e : En) (W : WX) : Prop extends CtOk X g e W where
  po : PassesOwn (model X.prog X.w) X.A X.env X.xe
  kd : X.env.scope.kind = .function
  sn : ∀ x, locB g.bsc x = true → locB g.sc x = true
section
variable {X : Cx} {g : Ct} {e : En} {W : WX} {a b c : Expr} {es : List Expr} {pos p : Pos} {st : Stmt} {sts : List Stmt}
theorem AfterS.expr' {α β : Type} {P : Hp} {w : Wd} {σ : L2.St} {r : R α} {g : α → S → R β} {Q : β → S → Wd → L2.St → Hp → Prop} (a : AfterS e W P w (r.bind g) Q) : After e (fun c d H => W c d σ H) P w σ r (fun x s w' _ => AfterS e W P w' (g x s) Q) := AfterS.expr a
theorem st_nil : PSs X [] (tS e W (exs e.P [])) := pss_mono pss_nil fun D σ H ⟨P, w, s, R, A⟩ => by
  rw [exs] at A
  exact A w σ H (.refl w) R
theorem st_cons {t : PyE.St} {ts : List PyE.St} (h : PS X st (tS e W (ex e.P t))) (hr : PSs X sts (tS e W (exs e.P ts))) : PSs X (st :: sts) (tS e W (exs e.P (t :: ts))) := pss_mono (pss_cons h hr) fun D σ H ⟨P, w, s, R, A⟩ => by
  rw [exs] at A
  refine ⟨P, w, s, R, A.bind.imp fun fl s1 w1 σ1 H1 l1 R1 q => ?_⟩
  cases fl with
  | nx => exact ⟨P, w1, s1, R1, q⟩
  | brk => exact q w1 σ1 H1 (.refl w1) R1
  | ct => exact q w1 σ1 H1 (.refl w1) R1
  | ret d fr => exact q w1 σ1 H1 (.refl w1) R1
theorem st_expr (hs : isComp a = false) {t : E} (h : PE X a (tE e W (ev e.P t))) : PS X (.Expr a pos) (tS e W (ex e.P (.expr t))) :=
  ps_mono (ps_expr h (by unfold swapsWith; cases a <;> first | rfl | cases hs)) fun D σ H ⟨P, w, s, R, A⟩ => by
    rw [ex] at A
    exact ⟨P, w, s, R, A.expr.imp fun v s1 w1 H1 l1 R1 q x n => q w1 σ H1 (.refl w1) R1⟩
theorem st_pass : PS X (.Pass pos) (tS e W (ex e.P .pass)) := ps_mono ps_pass fun D σ H ⟨P, w, s, R, A⟩ => by
  rw [ex] at A
  exact A w σ H (.refl w) R
theorem st_break : PS X (.Break pos) (tS e W (ex e.P .brk)) := ps_mono ps_break fun D σ H ⟨P, w, s, R, A⟩ => by
  rw [ex] at A
  exact A w σ H (.refl w) R
theorem st_cont : PS X (.Continue pos) (tS e W (ex e.P .ct)) := ps_mono ps_continue fun D σ H ⟨P, w, s, R, A⟩ => by
  rw [ex] at A
  exact A w σ H (.refl w) R
theorem st_ret0 : PS X (.Return none pos) (tS e W (ex e.P (.ret none))) := ps_mono ps_retN fun D σ H ⟨P, w, s, R, A⟩ => by
  rw [ex] at A
  exact A w σ H (.refl w) R .non rfl
theorem st_ret {t : E} (h : PE X a (tE e W (ev e.P t))) : PS X (.Return (some a) pos) (tS e W (ex e.P (.ret (some t)))) := ps_mono (ps_ret h) fun D σ H ⟨P, w, s, R, A⟩ => by
  rw [ex] at A
  refine ⟨P, w, s, R, A.expr.imp fun v s1 w1 H1 l1 R1 q x n => ?_⟩
  cases v with
  | loc i => exact q.elim
  | val d fr => exact q w1 σ H1 (.refl w1) R1 x n
theorem st_if {t : E} {as bs : List Stmt} {ts us : List PyE.St} (h : PT X c (tT e W (evt e.P t))) (ha : PSs X as (tS e W (exs e.P ts))) (hb : PSs X bs (tS e W (exs e.P us))) : PS X (.If c as bs pos) (tS e W (ex e.P (.cond t ts us))) :=
  ps_mono (ps_if h ha hb) fun D σ H ⟨P, w, s, R, A⟩ => by
    rw [ex] at A
    refine ⟨P, w, s, R, A.expr.imp fun k s1 w1 H1 l1 R1 q => ?_⟩
    cases k with
    | true => exact ⟨P, w1, s1, R1, q⟩
    | false => exact ⟨P, w1, s1, R1, q⟩
/-- one target, one value -/
theorem st_asg {tg : Expr} {t : T} {v : E} (hc : isComp a = false) (ht : isTupE tg = false ∨ isTupE a = false) (hls : noStar tg = true) (hl : ∀ es p, tg ≠ .List es p) (ha : PE X a (tE e W (ev e.P v))) (hg : PG X tg (tG e W (fun _ => True) t)) : PS X (.Assign [tg] a pos) (tS e W (ex e.P (.asg t v))) := by
  have h1 : swapsWithSole [tg] a pos.line X.env = pure false := by
    show swapsWith a (some tg) pos.line X.env = pure false
    unfold swapsWith
    cases a <;> first | rfl | cases hc
  have h2 : swappedStores [tg] a X.env = pure none := by
    unfold swappedStores
    cases tg <;> first | rfl | (exact absurd rfl (hl _ _)) | skip
    rcases ht with ht | ht
    · cases ht
    · cases a <;> first | rfl | cases ht
  have h3 : (assignEach [tg] X.env).map (·.2) = [assign tg X.env] := (each_cons hls X.env).1
  refine ps_mono (ps_asg ha hg h1 h2 h3) fun D σ H ⟨P, w, s, R, A⟩ => ?_
  rw [ex] at A
  refine ⟨P, w, s, R, A.expr.imp fun u s1 w1 H1 l1 R1 q x n => ?_⟩
  cases u with
  | loc i => exact q.elim
  | val d fr => exact ⟨P, w1, s1, d, fr, trivial, R1, n, (AfterS.bind q).imp fun _ s2 w2 σ2 H2 l2 R2 q _ => q w2 σ2 H2 (.refl w2) R2⟩
theorem st_aug (ok : CtOk X g e W) {x : Str} {o : Operator} {i : Nat} {t : E} (ho : augOp o = true) (h1 : locB g.bsc x = true) (h2 : ixOf x g.N = some i) (ha : PE X a (tE e W (ev e.P t))) : PS X (.AugAssign (.Name x p) o a pos) (tS e W (ex e.P (.aug i o t))) := by
  obtain ⟨b1, b2⟩ := ok.bnd x h1
  have core : ∀ (f : Int → Int → Int), (∀ (y z : D) (n : Int) (fr : Bool), binD o y z = some (.int n, fr) → ∃ j k, y = .int j ∧ z = .int k ∧ n = f j k) → ∀ D σ H, tS e W (ex e.P (.aug i o t)) D σ H → tAug i (tE e W (ev e.P t)) (ipI f) D σ H := fun f hf D σ H ⟨P, w, s, R, A⟩ => by
    rw [ex] at A
    cases q0 : s.loc[i]? with
    | none => rw [q0] at A; exact A.elim
    | some sl =>
      rw [q0] at A
      cases sl with
      | emp => exact A.elim
      | own d => exact A.elim
      | fz d =>
        obtain ⟨v, h3, h4⟩ := R.fz i d q0
        refine ⟨v, h3, P, w, s, R, (AfterS.expr A).imp fun u s1 w1 H1 l1 R1 q y n => ?_⟩
        cases e1 : rd s1 u with
        | none => rw [e1] at q; exact q.elim
        | some dy =>
          rw [e1] at q
          obtain ⟨pr, h5, q⟩ := AfterS.of (AfterS.bind q)
          obtain ⟨z, fr⟩ := pr
          have q := q w1 σ H1 (.refl w1) R1
          cases z with
          | int m =>
            obtain ⟨j, k, rfl, rfl, rfl⟩ := hf d dy m fr h5
            cases (show v = _ from h4)
            exact ⟨j, k, rfl, seen_int (n.read R1 e1), q w1 _ H1 (.refl w1) (R1.nameFz (d := .int (f j k)) rfl)⟩
          | _ => exact q.elim
  cases o with
  | Add =>
    refine ps_mono (ps_aug (by rw [ok.N]; exact ok.nd) (by rw [ok.N]; exact ixOf_get h2) b1 ha ip_add b2) (core _ fun y z n fr hz => ?_)
    cases y <;> cases z <;> simp [binD, okS] at hz <;> first | (split at hz <;> cases hz; done) | skip
    exact ⟨_, _, rfl, rfl, hz.1.symm⟩
  | Sub =>
    refine ps_mono (ps_aug (by rw [ok.N]; exact ok.nd) (by rw [ok.N]; exact ixOf_get h2) b1 ha ip_sub b2) (core _ fun y z n fr hz => ?_)
    cases y <;> cases z <;> simp [binD] at hz
    exact ⟨_, _, rfl, rfl, hz.1.symm⟩
  | _ => cases ho
/-! ### loops -/
theorem st_for (ok : StOk X g e W) {tg it : Expr} {t : T} {i : It} {body : List Stmt} {ts : List PyE.St} (hi : PI X tg it (tI e W (evIt e.P i))) (hf : ∀ env x, foldedSetIterable it env x = pure x) (hg : PG X tg (tG e W (fun _ => True) t)) (hb : PSs X body (tS e W (exs e.P ts))) : PS X (.For tg it body [] pos) (tS e W (ex e.P (.loop t i ts))) :=
  ps_mono (ps_for ok.po ok.calm hi hg hb (hf X.env)) fun D σ H ⟨P, w, s, R, A⟩ => by
    rw [ex] at A
    refine ⟨P, w, s, R, A.expr.imp fun pr s1 w1 H1 l1 R1 q J hJ => ?_⟩
    split at q
    · rename_i hlk1
      refine ⟨fun k m σ' H' => m = pr.1.length - k ∧ k ≤ pr.1.length ∧ ∃ w2 s2, w1.Le w2 ∧ e.rel P w2 s2 σ' H' ∧ locked pr.2 s2 = true ∧ AfterS e W P w2 (forL (fun d s => tset e.P t d false s) (fun s => exs e.P ts s) pr.2 (pr.1.drop k) s2) (FlQ e P D), ⟨pr.1.length, rfl, Nat.zero_le _, w1, s1, .refl w1, R1, hlk1, q⟩, ?_⟩
      rintro k m σ2 H2 ⟨rfl, hk, w2, s2, l2, R2, hlk, q⟩
      obtain ⟨j1, j2⟩ := hJ P w2 s2 σ2 H2 k l2 R2 hlk
      by_cases hlt : k < pr.1.length
      · obtain ⟨jg, jy⟩ := j1 _ (List.getElem?_eq_getElem hlt)
        refine .inr ⟨jg, _, fun σ' H' q => ⟨pr.1.length - (k + 1), by omega, q⟩, fun x H' y => ?_⟩
        rw [List.drop_eq_getElem_cons hlt] at q
        unfold forL at q
        obtain ⟨w3, l3, R3, n3⟩ := (jy x H' y).now R2
        refine ⟨P, w3, s2, _, false, trivial, R3, n3, (AfterS.bind (q.mono l3)).imp fun _ s4 w4 σ4 H4 l4 R4 q _ => ⟨P, w4, s4, R4, (AfterS.bind q).imp fun fl s5 w5 σ5 H5 l5 R5 q => ?_⟩⟩
        have lall := ((l2.trans l3).trans l4).trans l5
        have next : AfterS e W P w5 (if locked pr.2 s5 = true then forL (fun d s => tset e.P t d false s) (fun s => exs e.P ts s) pr.2 (pr.1.drop (k + 1)) s5 else .stuck) (FlQ e P D) → _ := fun q => (show pr.1.length - (k + 1) = pr.1.length - (k + 1) ∧ k + 1 ≤ pr.1.length ∧ ∃ w2 s2, w1.Le w2 ∧ e.rel P w2 s2 σ5 H5 ∧ locked pr.2 s2 = true ∧ AfterS e W P w2 (forL (fun d s => tset e.P t d false s) (fun s => exs e.P ts s) pr.2 (pr.1.drop (k + 1)) s2) (FlQ e P D) by
          split at q
          · rename_i hlk5
            exact ⟨rfl, hlt, w5, s5, lall, R5, hlk5, q⟩
          · exact q.elim)
        cases fl with
        | nx => exact next q
        | ct => exact next q
        | brk => exact q w5 σ5 H5 (.refl w5) R5
        | ret d fr => exact q w5 σ5 H5 (.refl w5) R5
      · have he : pr.1.length ≤ k := by omega
        refine .inl ⟨j2 he, ?_⟩
        rw [List.drop_eq_nil_of_le he] at q
        unfold forL at q
        exact q w2 σ2 H2 (.refl w2) R2
    · exact q.elim
theorem st_while (ok : StOk X g e W) {t : E} {body : List Stmt} {ts : List PyE.St} (hc : PT X c (tT e W (evt e.P t))) (hb : PSs X body (tS e W (exs e.P ts))) : PS X (.While c body [] pos) (tS e W (ex e.P (.whl t ts))) :=
  ps_mono (ps_while ok.po hc hb) fun D σ H ⟨P, w, s, R, A⟩ => by
    rw [ex] at A
    refine ⟨fun m σ' H' => ∃ w2 s2, e.rel P w2 s2 σ' H' ∧ AfterS e W P w2 (whlN (fun s => evt e.P t s) (fun s => exs e.P ts s) m s2) (FlQ e P D), ⟨WF, w, s, R, A⟩, ?_⟩
    rintro m σ2 H2 ⟨w2, s2, R2, q⟩
    cases m with
    | zero => unfold whlN at q; exact q.elim
    | succ m =>
      unfold whlN at q
      refine ⟨P, w2, s2, R2, (AfterS.expr q).imp fun k s3 w3 H3 l3 R3 q => ?_⟩
      cases k with
      | false =>
        rw [if_neg (fun z => nomatch z)] at q ⊢
        exact q w3 σ2 H3 (.refl w3) R3
      | true =>
        rw [if_pos rfl] at q ⊢
        refine ⟨_, fun σ' H' q => ⟨m, Nat.lt_succ_self m, q⟩, P, w3, s3, R3, (AfterS.bind q).imp fun fl s5 w5 σ5 H5 l5 R5 q => ?_⟩
        cases fl with
        | nx => exact ⟨w5, s5, R5, q⟩
        | ct => exact ⟨w5, s5, R5, q⟩
        | brk => exact q w5 σ5 H5 (.refl w5) R5
        | ret d fr => exact q w5 σ5 H5 (.refl w5) R5
/-! ### comprehensions stored to a name; two stores at once -/
theorem swB_true (ok : StOk X g e W) {x : Str} {px : Pos} {ln : Nat} {v : Expr} (h : swB g x px v = true) (hc : ∃ el gs sc q, v = .ListComp el gs sc q) : swapsWith v (some (.Name x px)) ln X.env = pure true ∧ X.env.scope.names.lookup x = some .local := by
  obtain ⟨el, gs, sc, q, rfl⟩ := hc
  unfold swB at h
  simp only [compScope, Bool.and_eq_true] at h
  obtain ⟨⟨h1, h2⟩, h3⟩ := h
  have hx : X.env.scope.names.lookup x = some .local := by
    rw [ok.sc]
    cases hz : g.sc.names.lookup x with
    | none => rw [hz] at h1; cases h1
    | some k => rw [hz] at h1; cases k <;> first | rfl | cases h1
  refine ⟨?_, hx⟩
  have hb : X.env.blockKind = .function := by
    unfold Env.blockKind
    rw [ok.kd]
    rfl
  have hk : X.env.kindOf x = some .local := hx
  unfold swapsWith
  show (pure (X.env.blockKind == .function && X.env.kindOf x == some .local && px.line == q.line && !(sc.names.any fun (n, k) => n == x && (k == .local || k == .cell))) : Sem Bool) = pure true
  rw [hb, hk, show (px.line == q.line) = true from h2, h3]
  rfl
theorem asg_after {P : Hp} {w : Wd} {σ : L2.St} {i : Nat} {ow : Bool} {r : R Rv} {D : Ends} (A : AfterS e W P w (r.bind fun v s => match v with
    | .val d fr => (tset e.P (.nm i ow) d fr s).bind fun _ s => .ok Fl.nx s
    | _ => .stuck) (FlQ e P D)) : After e (fun c d H => W c d σ H) P w σ r (fun v s' w' H' => ∀ x, Now e.K e.mg P w' s' σ H' v x → D.nx (σ.set i (some x)) H') :=
  A.expr.imp fun v s1 w1 H1 l1 R1 q x n => by
    cases v with
    | loc i => exact q.elim
    | val d fr =>
      have q := AfterS.bind q
      rw [tset] at q
      split at q
      · cases ow with
        | false =>
          obtain ⟨w2, l2, R2, hd⟩ := n.hold R1
          have q := q w2 (σ.set i (some x)) H1 l2 (R2.nameFz hd)
          exact q w2 (σ.set i (some x)) H1 (.refl w2) (R2.nameFz hd)
        | true =>
          cases fr with
          | true =>
            have q := q w1 (σ.set i (some x)) H1 (.refl w1) (R1.nameOwn n)
            exact q w1 (σ.set i (some x)) H1 (.refl w1) (R1.nameOwn n)
          | false =>
            have q := q w1 (σ.set i (some x)) H1 (.refl w1) (R1.nameFz n)
            exact q w1 (σ.set i (some x)) H1 (.refl w1) (R1.nameFz n)
      · exact q.elim
theorem st_lc (ok : StOk X g e W) {n : Nat} {x : Str} {px lp : Pos} {i : Nat} {ow : Bool} {el : Expr} {gs : List Comprehension} {sc : Scope} {tm : E} (hx : swB g x px (.ListComp el gs sc lp) = true) (hi : ixOf x g.N = some i) (h : compE g (n + 1) false (.ListComp el gs sc lp) = some tm) :
    PS X (.Assign [.Name x px] (.ListComp el gs sc lp) pos) (tS e W (ex e.P (.asg (.nm i ow) tm))) := by
  obtain ⟨hsw, hloc⟩ := swB_true ok (ln := pos.line) hx ⟨_, _, _, _, rfl⟩
  have hN : X.N[i]? = some x := by rw [ok.N]; exact ixOf_get hi
  have hnd : X.N.Nodup := by rw [ok.N]; exact ok.nd
  unfold compE at h
  simp only at h
  split at h
  · obtain ⟨own, t', it', ts, el', rfl, b1, b2, b3, b4, b5, b6⟩ := lc_one (snd_all n) ok.toCtOk h
    refine ps_mono (ps_setLc (i := i) (own := ownList g own) ok.calm hnd hN hloc hsw b1 b2 b3 b4 b5 b6) fun D σ H ⟨P, w, s, R, A⟩ => ?_
    rw [ex] at A
    rw [own_map]
    exact lc_read ⟨P, w, s, R, asg_after A⟩
  · obtain ⟨own, t', it', ts, t2', it2', ts2, el', rfl, hs, b1, b2, b3, b4, b5, b6, b7, b8, b9, b10⟩ := lc_two (snd_all n) ok.toCtOk h
    refine ps_mono (ps_setLc2 (i := i) (own := ownList g own) (vs1 := tsl t2') ok.calm hnd hN hloc hsw b1 b2 (by rw [own_map]; exact hs) b3 b4 b5 b6 b7 b8 b9 b10) fun D σ H ⟨P, w, s, R, A⟩ => ?_
    rw [ex] at A
    rw [own_map]
    exact lc2_read hs ⟨P, w, s, R, asg_after A⟩
  · cases h
end
/-- what is in the hand stands under guard -/
theorem Rel.guardNow {K : PySem.W.Frag} {mg : Str → Option Value} {P : Hp} {w : Wd} {s : S} {σ : L2.St} {H : Hp} {d : D} {a : Addr} {o : HO} (R : Rel K mg P w s σ H) (n : Now K mg P w s σ H (.val d true) (.ref a)) (ha : H a = some o) : Rel K mg (upd P a o) w s σ H := by
  obtain ⟨_, n2⟩ := n
  obtain ⟨g1, p1, m1, ow⟩ := n2 a rfl
  exact {
    g := R.g
    p := fun b u h => by
      by_cases hb : b = a
      · subst hb
        rw [upd_same] at h
        cases h
        exact ha
      · rw [upd_ne hb] at h
        exact R.p b u h
    stl := R.stl
    st := R.st
    nd := R.nd
    out := fun b hb => ⟨(R.out b hb).1, by
      rw [upd_ne (show b ≠ a from fun z => m1 (z ▸ hb))]
      exact (R.out b hb).2⟩
    gp := fun b u h => by
      by_cases hb : b = a
      · rw [hb]; exact g1
      · rw [upd_ne hb] at h; exact R.gp b u h
    len := R.len
    fz := R.fz
    own := R.own
    apart := fun i d b h1 h2 => by
      have hb : b ≠ a := fun z => ow i d h1 (z ▸ h2)
      rw [upd_ne hb]
      exact R.apart i d b h1 h2
    dis := R.dis }
/-- a value is kept as it is through another one's run -/
theorem Now.through {e : En} {P : Hp} {w : Wd} {s : S} {σ : L2.St} {H : Hp} {d : D} {fr : Bool} {x : V} {α : Type} {Wx : XK} {r : R α} {Q : α → S → Wd → Hp → Prop} (R : e.rel P w s σ H) (n : Now e.K e.mg P w s σ H (.val d fr) x) (A : After e Wx P w σ r Q) :
    ∃ P', e.rel P' w s σ H ∧ (∀ b, P' b = none → P b = none ∧ (fr = true → x ≠ .ref b)) ∧ After e Wx P' w σ r (fun a s' w' H' => Q a s' w' H' ∧ e.rel P w' s' σ H' ∧ Now e.K e.mg P w' s' σ H' (.val d fr) x) := by
  cases fr with
  | false =>
    exact ⟨P, R, fun b h => ⟨h, fun z => nomatch z⟩, A.imp fun a s' w' H' l R' q => ⟨q, R', RepV.mono l d x n⟩⟩
  | true =>
    obtain ⟨⟨a, o, rfl, ha, hr, hm⟩, n2⟩ := id n
    obtain ⟨g1, p1, m1, ow⟩ := n2 a rfl
    refine ⟨upd P a o, R.guardNow n ha, fun b h => ?_, (A.guard o p1).imp fun b s' w' H' l R' q => ?_⟩
    · by_cases hb : b = a
      · subst hb
        rw [upd_same] at h
        cases h
      · rw [upd_ne hb] at h
        exact ⟨h, fun _ z => hb (V.ref.inj z).symm⟩
    · obtain ⟨R2, n3⟩ := R'.built p1 (hr.mono l) hm
      exact ⟨q, R2, n3⟩
theorem Now.hold2 {K : PySem.W.Frag} {mg : Str → Option Value} {P : Hp} {w : Wd} {s : S} {σ : L2.St} {H : Hp} {d : D} {fr : Bool} {x : V} (R : Rel K mg P w s σ H) (h : Now K mg P w s σ H (.val d fr) x) : ∃ w', w.Le w' ∧ Rel K mg P w' s σ H ∧ RepV K mg w' d x ∧ w'.m = w.m ∧ ∀ b, w.G b = none → (fr = true → x ≠ .ref b) → w'.G b = none := by
  cases fr with
  | false => exact ⟨w, .refl w, R, h, rfl, fun b hb _ => hb⟩
  | true =>
    obtain ⟨⟨a, o, rfl, ha, ho, _⟩, hh⟩ := h
    obtain ⟨g1, g2, g3, g4⟩ := hh a rfl
    refine ⟨w.add a o, Wd.le_add g1, R.freeze g1 g2 ha g3 g4, (ho.mono (Wd.le_add g1)).rep (show (w.add a o).G a = some o from upd_same), rfl, fun b hb hx => ?_⟩
    have hn : b ≠ a := fun z => hx rfl (by rw [z])
    exact (upd_ne hn).trans hb
section
variable {X : Cx} {g : Ct} {e : En} {W : WX} {a b : Expr} {pos p : Pos}
theorem sw2_true (ok : StOk X g e W) {x y : Str} {px py p1 p2 : Pos} {k1 k2 : Nat} (h : sw2 g x y px py a b = true) (ha : noStar a = true) (hb : noStar b = true) : swappedStores [.Tuple [.Name x px, .Name y py] k1 p1] (.Tuple [a, b] k2 p2) X.env = pure (some [x, y]) ∧ X.env.scope.names.lookup x = some .local ∧ X.env.scope.names.lookup y = some .local := by
  unfold sw2 at h
  simp only [Bool.and_eq_true, Bool.not_eq_true'] at h
  obtain ⟨⟨⟨⟨⟨h1, h2⟩, h3⟩, h4⟩, h5⟩, h6⟩ := h
  have look : ∀ z : Str, (g.sc.names.lookup z == some NameKind.local) = true → X.env.scope.names.lookup z = some .local := fun z hz => by
    rw [ok.sc]
    cases hy : g.sc.names.lookup z with
    | none => rw [hy] at hz; cases hz
    | some k => rw [hy] at hz; cases k <;> first | rfl | cases hz
  have hx := look x h1
  have hy := look y h2
  refine ⟨?_, hx, hy⟩
  have hbk : X.env.blockKind = .function := by
    unfold Env.blockKind
    rw [ok.kd]
    rfl
  have kx : X.env.kindOf x = some .local := hx
  have ky : X.env.kindOf y = some .local := hy
  have h4' : (py.line == px.line) = true := h4
  have nd : [x, y].eraseDups = [x, y] := by
    have h3' : (y == x) = false := by rw [Bool.beq_comm]; exact h3
    simp [List.eraseDups_cons, h3']
  have f1 : [a, b].all (foldedForSure 8) = false := by simpa [List.all_cons] using h5
  have f2 : [a, b].all (constantsAlone 8) = false := by simpa [List.all_cons] using h6
  have e1 : ([a, b].any fun | .Starred .. => true | _ => false) = false := by
    have st : ∀ v, noStar v = true → (fun | .Starred .. => true | _ => false : Expr → Bool) v = false := fun v h => by
      cases v <;> first | rfl | exact absurd h Bool.false_ne_true
    show ((fun | .Starred .. => true | _ => false : Expr → Bool) a || ((fun | .Starred .. => true | _ => false : Expr → Bool) b || false)) = false
    rw [st a ha, st b hb]
    rfl
  unfold swappedStores
  have e2 : ([Expr.Name x px, .Name y py].filterMap fun
    | .Name id pos => if X.env.kindOf id == some .local && pos.line == (([Expr.Name x px, .Name y py].head?.map (·.pos.line)).getD 0) then some id else none
    | _ => none) = [x, y] := by
    have hp : (Expr.Name x px).pos = px := rfl
    have kk : (some NameKind.local == some NameKind.local) = true := rfl
    have h5 : (px.line == px.line) = true := by simp
    simp only [List.filterMap_cons, List.filterMap_nil, List.head?_cons, Option.map_some, Option.getD_some, kx, ky, hp, kk, h5, h4', Bool.and_self, if_true]
  refine (if_neg ?_).trans ((if_neg ?_).trans ((if_neg ?_).trans ((if_neg ?_).trans ((if_neg ?_).trans ?_))))
  · rw [hbk]; exact Bool.false_ne_true
  · exact fun h => Bool.false_ne_true (e1.symm.trans h)
  · exact (congrArg (fun l : List Str => ¬ ((l.length != 2 || l.eraseDups.length != l.length) = true)) e2).mpr (by rw [nd]; exact Bool.false_ne_true)
  · rw [f1]; exact Bool.false_ne_true
  · rw [f2]; exact Bool.false_ne_true
  · exact congrArg (fun l : List Str => (pure (some l) : Sem (Option (List Str)))) e2
theorem set_after {P : Hp} {w : Wd} {σ : L2.St} {H : Hp} {i : Nat} {ow : Bool} {d : D} {fr : Bool} {x : V} {s : S} {β : Type} {k : Unit → S → R β} {Q : β → S → Wd → L2.St → Hp → Prop} (R : e.rel P w s σ H) (n : Now e.K e.mg P w s σ H (.val d fr) x) (A : AfterS e W P w ((tset e.P (.nm i ow) d fr s).bind k) Q) :
    ∃ w' s', w.Le w' ∧ e.rel P w' s' (σ.set i (some x)) H ∧ AfterS e W P w' (k () s') Q ∧ w'.m = w.m ∧ (∀ b, w.G b = none → (fr = true → x ≠ .ref b) → w'.G b = none) ∧ (∀ (j : Nat) (dj : D), s'.loc[j]? = some (.own dj) → (i = j ∧ fr = true) ∨ (i ≠ j ∧ s.loc[j]? = some (.own dj))) := by
  rw [tset] at A
  have keepF : ∀ (dz : D) (j : Nat) (dj : D), (setLoc s i (.fz dz)).loc[j]? = some (.own dj) → (i = j ∧ fr = true) ∨ (i ≠ j ∧ s.loc[j]? = some (.own dj)) := fun dz j dj h => by
    rw [setLoc_get] at h
    by_cases hj : i = j
    · rw [if_pos hj] at h
      split at h <;> cases h
    · rw [if_neg hj] at h
      exact .inr ⟨hj, h⟩
  split at A
  · cases ow with
    | false =>
      obtain ⟨w2, l2, R2, hd, hm, hg⟩ := n.hold2 R
      exact ⟨w2, _, l2, R2.nameFz hd, A.mono l2, hm, hg, keepF d⟩
    | true =>
      cases fr with
      | true =>
        refine ⟨w, _, .refl w, R.nameOwn n, A, rfl, fun b h _ => h, fun j dj h => ?_⟩
        rw [setLoc_get] at h
        by_cases hj : i = j
        · exact .inl ⟨hj, rfl⟩
        · rw [if_neg hj] at h
          exact .inr ⟨hj, h⟩
      | false => exact ⟨w, _, .refl w, R.nameFz n, A, rfl, fun b h _ => h, keepF d⟩
  · exact A.elim
theorem st_par (ok : StOk X g e W) {x y : Str} {px py p1 p2 : Pos} {k1 k2 i j : Nat} {oi oj : Bool} {ta tb : E} (h : sw2 g x y px py a b = true) (ha : noStar a = true) (hb : noStar b = true) (hi : ixOf x g.N = some i) (hj : ixOf y g.N = some j) (hij : i ≠ j)
    (h1 : PE X a (tE e W (ev e.P ta))) (h2 : PE X b (tE e W (ev e.P tb))) : PS X (.Assign [.Tuple [.Name x px, .Name y py] k1 p1] (.Tuple [a, b] k2 p2) pos) (tS e W (ex e.P (.asg2 i oi j oj ta tb))) := by
  obtain ⟨s1, s2, s3⟩ := sw2_true ok (k1 := k1) (k2 := k2) (p1 := p1) (p2 := p2) h ha hb
  refine ps_mono (ps_par ok.calm (by rw [ok.N]; exact ok.nd) (by rw [ok.N]; exact ixOf_get hi) (by rw [ok.N]; exact ixOf_get hj) hij s2 s3 (pa_cons h1 (pa_cons h2 pa_nil (star_cons hb [] X.env)) (star_cons ha _ X.env)) s1) fun D σ H ⟨P, w, s, R, A⟩ => ?_
  rw [ex] at A
  refine ⟨P, w, s, R, A.expr.imp fun v s4 w4 H4 l4 R4 q x4 n4 => ?_⟩
  cases v with
  | loc m =>
    -- never
    refine ⟨P, w4, s4, R4, (AfterS.expr q).imp fun u s5 w5 H5 l5 R5 q y n5 => ?_⟩
    cases u <;> exact q.elim
  | val d fr =>
    obtain ⟨P', R4', hP', q'⟩ := Now.through R4 n4 (AfterS.expr q)
    refine ⟨P', w4, s4, R4', q'.imp fun u s5 w5 H5 l5 R5' ⟨q, R5, n5⟩ y m5 => ?_⟩
    cases u with
    | loc m => exact q.elim
    | val d2 fr2 =>
      refine ⟨x4, y, rfl, ?_⟩
      obtain ⟨w6, s6, l6, R6, q6, hm6, hg6, how⟩ := set_after R5 n5 q
      have n6 : Now e.K e.mg P w6 s6 (σ.set i (some x4)) H5 (.val d2 fr2) y := by
        cases fr2 with
        | false => exact RepV.mono l6 d2 y m5
        | true =>
          obtain ⟨o1, o2⟩ := m5
          refine ⟨o1.mono l6, fun b hb => ?_⟩
          obtain ⟨g1, g2, g3, g4⟩ := o2 b hb
          obtain ⟨g5, g6⟩ := hP' b g2
          refine ⟨hg6 b g1 g6, g5, by rw [hm6]; exact g3, fun k dk h1 h2 => ?_⟩
          rw [sig_get] at h2
          rcases how k dk h1 with ⟨h3, h4⟩ | ⟨h3, h4⟩
          · rw [if_pos h3] at h2
            split at h2
            · exact g6 h4 (Option.some.inj (Option.some.inj h2))
            · cases h2
          · rw [if_neg h3] at h2
            exact g4 k dk h4 h2
      obtain ⟨w7, s7, l7, R7, q7, _⟩ := set_after R6 n6 q6
      exact q7 w7 _ H5 (.refl w7) R7

/-! ### the induction -/
theorem snd_ret (ok : CtOk X g e W) {n : Nat} {t : E} (h : retE g n a = some t) : PE X a (tE e W (ev e.P t)) := by
  unfold retE at h
  split at h
  · rename_i x px
    split at h
    · rename_i i hi
      split at h
      · cases h; exact ex_mv ok hi
      · cases h; exact ex_v ok hi
    · exact ((snd_all n).E g X e W ok false _ _ h).2.2.1
  · obtain ⟨t', h1, rfl⟩ := Option.map_eq_some_iff.mp h
    have := ((snd_all n).E g X e W ok false _ _ h1).2.2.1
    unfold boxE
    split
    · exact ex_box this
    · exact this
  · exact ((snd_all n).E g X e W ok false _ _ h).2.2.1
theorem snd_box {n : Nat} {k : Bool} {t : E} (ok : CtOk X g e W) (h : compE g n false a = some t) : PE X a (tE e W (ev e.P (boxE k t))) := by
  have := ((snd_all n).E g X e W ok false _ _ h).2.2.1
  unfold boxE
  split
  · exact ex_box this
  · exact this
theorem notTup {v : Expr} (h : ∀ es k p, v = .Tuple es k p → False) : isTupE v = false := by
  cases v <;> first | rfl | exact (h _ _ _ rfl).elim
theorem frTrue (is : List Nat) : FrOk (fun _ => True) is := fun _ _ _ _ _ => trivial
theorem snd_stmts {f : Stmt → Option PyE.St} (h : ∀ s t, f s = some t → PS X s (tS e W (ex e.P t))) : ∀ {ss : List Stmt} {ts : List PyE.St}, mapO f ss = some ts → PSs X ss (tS e W (exs e.P ts))
  | [], _, h1 => by cases h1; exact st_nil
  | s :: ss, _, h1 => by
    obtain ⟨t, ts, k1, k2, rfl⟩ := mapO_cons h1
    exact st_cons (h s t k1) (snd_stmts h k2)
theorem isComp_lc {n : Nat} {b : Bool} {t : E} (h : compE g n b a = some t) (hc : isComp a = true) : ∃ m el gs sc q, n = m + 1 ∧ a = .ListComp el gs sc q := by
  cases n with
  | zero => unfold compE at h; cases h
  | succ n =>
    cases a <;> first | exact absurd hc Bool.false_ne_true | exact ⟨n, _, _, _, _, rfl, rfl⟩ | (unfold compE at h; cases h)
theorem snd_stm : ∀ (n : Nat) (g : Ct) (X : Cx) (e : En) (W : WX), StOk X g e W → ∀ s t, compS g n s = some t → PS X s (tS e W (ex e.P t))
  | 0, _, _, _, _, _, s, t, h => by unfold compS at h; cases h
  | n + 1, g, X, e, W, ok, s, t, h => by
    have ih := snd_stm n g X e W ok
    have E := (snd_all n).E g X e W ok.toCtOk
    unfold compS at h
    split at h
    · -- expression
      split at h
      · cases h
      · rename_i hc
        obtain ⟨t', h1, rfl⟩ := Option.map_eq_some_iff.mp h
        exact st_expr (by simpa using hc) (E true _ _ h1).2.2.1
    · cases h; exact st_pass
    · cases h; exact st_break
    · cases h; exact st_cont
    · split at h
      · cases h; exact st_ret0
      · obtain ⟨t', h1, rfl⟩ := Option.map_eq_some_iff.mp h
        exact st_ret (snd_ret ok.toCtOk h1)
    · -- assignments
      split at h
      · rename_i x px
        split at h
        · rename_i hx
          rw [Bool.and_eq_true] at hx
          obtain ⟨i, hi, h⟩ := Option.bind_eq_some_iff.mp h
          split at h
          · cases h
          · rename_i hnc
            obtain ⟨t', h1, rfl⟩ := Option.map_eq_some_iff.mp h
            by_cases hc : isComp ‹Expr› = true
            · obtain ⟨m, el, gs, sc, q, rfl, rfl⟩ := isComp_lc h1 hc
              have hb : g.boxNm.contains x = false ∧ swB g x px (.ListComp el gs sc q) = true := by
                rw [hc] at hnc
                simp only [Bool.true_and, Bool.or_eq_true, not_or] at hnc
                exact ⟨by simpa using hnc.2, by simpa using hnc.1⟩
              rw [hb.1]
              exact st_lc ok hb.2 hi h1
            · exact st_asg (by simpa using hc) (.inl rfl) rfl (fun _ _ z => by cases z) (snd_box ok.toCtOk h1) (tg_nm ok.toCtOk (frTrue _) hx.2 hi)
        · cases h
      · rename_i x px y py k1 p1
        split at h
        · rename_i a b k2 p2
          split at h
          · rename_i hz
            simp only [Bool.and_eq_true] at hz
            obtain ⟨⟨⟨⟨z1, z2⟩, z3⟩, z4⟩, z5⟩ := hz
            obtain ⟨i, hi, h⟩ := Option.bind_eq_some_iff.mp h
            obtain ⟨j, hj, h⟩ := Option.bind_eq_some_iff.mp h
            split at h
            · cases h
            · rename_i hij
              obtain ⟨ta, h1, h⟩ := Option.bind_eq_some_iff.mp h
              obtain ⟨tb, h2, rfl⟩ := Option.map_eq_some_iff.mp h
              exact st_par ok z1 (E false _ _ h1).1 (E false _ _ h2).1 hi hj hij (snd_box ok.toCtOk h1) (snd_box ok.toCtOk h2)
          · cases h
        · cases h
        · rename_i hnt1 hnt2
          split at h
          · cases h
          · rename_i hc
            obtain ⟨tt, h1, h⟩ := Option.bind_eq_some_iff.mp h
            obtain ⟨tv, h2, rfl⟩ := Option.map_eq_some_iff.mp h
            exact st_asg (by simpa using hc) (.inr (notTup hnt2)) rfl (fun _ _ z => by cases z) (E false _ _ h2).2.2.1 ((snd_all n).T g X e W ok.toCtOk _ tt _ h1 (frTrue _))
      · rename_i tg hn1 hn2
        split at h
        · cases h
        · rename_i hc
          rw [Bool.or_eq_true, not_or] at hc
          obtain ⟨tt, h1, h⟩ := Option.bind_eq_some_iff.mp h
          obtain ⟨tv, h2, rfl⟩ := Option.map_eq_some_iff.mp h
          exact st_asg (by simpa using hc.1) (.inr (by simpa using hc.2)) (compT_fine h1) (fun es p z => by subst z; cases n <;> (unfold compT at h1; cases h1)) (E false _ _ h2).2.2.1 ((snd_all n).T g X e W ok.toCtOk _ tt _ h1 (frTrue _))
      · cases h
    · -- op=
      split at h
      · split at h
        · rename_i hz
          rw [Bool.and_eq_true, Bool.and_eq_true] at hz
          obtain ⟨i, hi, h⟩ := Option.bind_eq_some_iff.mp h
          obtain ⟨t', h1, rfl⟩ := Option.map_eq_some_iff.mp h
          exact st_aug ok.toCtOk hz.1.1 hz.2 hi (E true _ _ h1).2.2.1
        · cases h
      · cases h
    · -- if
      obtain ⟨tc, h1, h⟩ := Option.bind_eq_some_iff.mp h
      obtain ⟨ta, h2, h⟩ := Option.bind_eq_some_iff.mp h
      obtain ⟨tb, h3, rfl⟩ := Option.map_eq_some_iff.mp h
      exact st_if (E true _ _ h1).2.2.2 (snd_stmts ih h2) (snd_stmts ih h3)
    · -- for
      split at h
      · obtain ⟨it', h1, h⟩ := Option.bind_eq_some_iff.mp h
        obtain ⟨t', h2, h⟩ := Option.bind_eq_some_iff.mp h
        split at h
        · rename_i hfit
          obtain ⟨b, h3, rfl⟩ := Option.map_eq_some_iff.mp h
          obtain ⟨i1, i2⟩ := (snd_all n).I g X e W ok.toCtOk _ it' _ h1 hfit
          exact st_for ok i1 i2 ((snd_all n).T g X e W ok.toCtOk _ t' _ h2 (frTrue _)) (snd_stmts ih h3)
        · cases h
      · cases h
    · -- while
      split at h
      · obtain ⟨tc, h1, h⟩ := Option.bind_eq_some_iff.mp h
        obtain ⟨b, h3, rfl⟩ := Option.map_eq_some_iff.mp h
        exact st_while ok (E true _ _ h1).2.2.2 (snd_stmts ih h3)
      · cases h
    · cases h
end
end PyE
end
section
set_option linter.all false
set_option autoImplicit false
set_option maxRecDepth 100000
set_option maxHeartbeats 1000000
/-! PyDef: the defs of a text, level by level. -/
namespace PyE
open PySem PySem.Spec PyProof.Rows L2

theorem at_xf (G : PyE.Pg) : ∀ k, (G.at k).xf = G.xf
  | 0 => rfl
  | _ + 1 => rfl
/-- the slots at a def's entry -/
def entryS (ds : List D) (n : Nat) (st : List Ob) : S := ⟨ds.map Slot.fz ++ List.replicate (n - ds.length) .emp, st⟩
section
variable {K : PySem.W.Frag} {mg : Str → Option Value} {P : Hp} {w : Wd} {st : List Ob} {H : Hp} {ds : List D} {xs : List V}
theorem Rel.entry (R : RelC K mg P w st H) (r : RepVs K mg w ds xs) (N : List Str) (hn : ds.length ≤ N.length) : Rel K mg P w (entryS ds N.length st) (L2.start N xs) H := by
  have hl := r.length
  have get : ∀ (i : Nat) (y : Slot), (entryS ds N.length st).loc[i]? = some y → y ≠ .emp → ∃ d, y = .fz d ∧ ds[i]? = some d := fun i y h hy => by
    unfold entryS at h
    by_cases hi : i < ds.length
    · rw [List.getElem?_append_left (by rw [List.length_map]; exact hi), List.getElem?_map] at h
      obtain ⟨d, h1, rfl⟩ := Option.map_eq_some_iff.mp h
      exact ⟨d, rfl, h1⟩
    · rw [List.getElem?_append_right (by rw [List.length_map]; omega), List.getElem?_replicate] at h
      split at h <;> cases h
      exact absurd rfl hy
  exact { R with
    len := by
      unfold entryS L2.start
      simp only [List.length_append, List.length_map, List.length_replicate]
      omega
    fz := fun i d h => by
      obtain ⟨d', e1, h1⟩ := get i _ h (fun z => nomatch z)
      cases e1
      obtain ⟨x, h2, h3⟩ := r.get h1
      refine ⟨x, ?_, h3⟩
      unfold L2.start
      have hi := (List.getElem?_eq_some_iff.mp h2).1
      rw [List.getElem?_append_left (by rw [List.length_map]; exact hi), List.getElem?_map, h2]
      rfl
    own := fun i d h => by obtain ⟨_, e1, _⟩ := get i _ h (fun z => nomatch z); cases e1
    apart := fun i d a h _ => by obtain ⟨_, e1, _⟩ := get i _ h (fun z => nomatch z); cases e1
    dis := fun i j d e a h _ _ _ => by obtain ⟨_, e1, _⟩ := get i _ h (fun z => nomatch z); cases e1 }
end
/-- how calls of a def are bound -/
def BindsOk (K : PySem.W.Frag) (mg : Str → Option Value) (fd : FuncData) (ps : List Str) (dfl : List D) : Prop :=
  ∀ m : Nat, m ≤ ps.length → ps.length - m ≤ dfl.length → ∃ dvs dus, (∀ w, RepVs K mg w (dfl.drop (dfl.length - (ps.length - m))) dvs) ∧ Vals dvs dus ∧ Binds K fd ps dus
/-- a def of the text, as it stands behind the top -/
def DefOk (K : PySem.W.Frag) (mg : Str → Option Value) (G : PyE.Pg) (cons : List (Str × D)) (fns : List Str) (f : Str) (fa : Addr) (fd : FuncData) (ps : List Str) : Prop :=
  ∃ (st : Stmt) (g : Ct) (n : Nat) (df : Df) (x qn : Str) (z1 z2 z3 z4 cdv z5 oc : Value) (an od : Option Addr) (osl : Array (Option Value)),
    G.defs f = some df ∧ compF g n st = some df ∧ g.cons = cons ∧ g.fns = fns ∧ parsOf (defArgs st) = some ps ∧ fd = PySem.W.fnOf x qn (defArgs st) (defBody st) (defScope st) z1 z2 z3 z4 an cdv z5 ∧
      K.lookup fa = some ⟨oc, od, .func fd, osl⟩ ∧ PySem.W.codeIn K cdv qn = true ∧ BindsOk K mg fd ps df.dfl
/-- what the whole text asks -/
structure TextOk (K : PySem.W.Frag) (mg : Str → Option Value) (G : PyE.Pg) (cons : List (Str × D)) (fns : List Str) : Prop where
  con : ∀ x d, cons.lookup x = some d → ∃ v u, mg x = some u ∧ RelV v u ∧ ∀ w, RepV K mg w d v
  blt : ∀ x ∈ bltAll, mg x = none
  fns : ∀ f ∈ fns, ∃ fa fd ps, mg f = some (.ref fa) ∧ PySem.W.keepIn K (.ref fa) = true ∧ DefOk K mg G cons fns f fa fd ps
theorem compF_at {g : Ct} {n : Nat} {st : Stmt} {df : Df} {ps : List Str} (h : compF g n st = some df) (hp : parsOf (defArgs st) = some ps) : df.pars = ps.length ∧ df.names = g.N.length ∧ ps.length ≤ g.N.length ∧ FnScope g.N ps (defScope st) ∧ mapO (fun s => compS { g with sc := defScope st, bsc := defScope st } n s) (defBody st) = some df.body := by
  unfold compF at h
  split at h
  · rename_i nm a body dl rt tp sc ts bd pos
    obtain ⟨ps', h1, h⟩ := Option.bind_eq_some_iff.mp h
    obtain ⟨ds, h2, h⟩ := Option.bind_eq_some_iff.mp h
    have e1 : ps' = ps := by
      have : parsOf a = some ps := hp
      rw [h1] at this
      exact Option.some.inj this
    subst e1
    split at h
    · rename_i hz
      obtain ⟨b, h3, rfl⟩ := Option.map_eq_some_iff.mp h
      simp only [Bool.and_eq_true] at hz
      obtain ⟨⟨⟨⟨⟨⟨z1, z2⟩, z3⟩, z4⟩, z5⟩, z6⟩, z7⟩ := hz
      have hpre : ps' <+: g.N := List.isPrefixOf_iff_prefix.mp z1
      refine ⟨rfl, rfl, hpre.length_le, ⟨?_, (by show sc.isCoroutine = false; simpa using z6), (by show sc.isGenerator = false; simpa using z5), of_decide_eq_true z2, List.prefix_iff_eq_take.mp hpre |>.symm, fun x hx => ?_, fun y hy => ?_⟩, h3⟩
      · show sc.kind = .function
        cases hk : sc.kind <;> rw [hk] at z4 <;> first | rfl | cases z4
      · have := List.all_eq_true.mp z3 x hx
        unfold locB at this
        show sc.names.lookup x = some .local ∨ sc.names.lookup x = some .cell
        split at this <;> first | (exact .inl (by assumption)) | (exact .inr (by assumption)) | cases this
      · have := List.all_eq_true.mp z7 y hy
        intro hf
        rw [hf] at this
        cases this
    · cases h
  · cases h
/-- a def at a level, from the defs one level lower -/
theorem def_ok {Pg : Program} {wo : World} {K : PySem.W.Frag} {mg : Str → Option Value} {base : Heap} {G : PyE.Pg} {cons : List (Str × D)} {fns : List Str} {k : Nat} (T : TextOk K mg G cons fns)
    (below : ∀ f fa fd ps, DefOk K mg G cons fns f fa fd ps → FnG Pg wo K mg base (2 * k) fa fd ps (spC ⟨K, mg, G.at k⟩ ps.length ((G.at k).call f)))
    {f : Str} {fa : Addr} {fd : FuncData} {ps : List Str} (h : DefOk K mg G cons fns f fa fd ps) : FnG Pg wo K mg base (2 * (k + 1)) fa fd ps (spC ⟨K, mg, G.at (k + 1)⟩ ps.length ((G.at (k + 1)).call f)) := by
  obtain ⟨st, g, n, df, x, qn, z1, z2, z3, z4, cdv, z5, oc, an, od, osl, hG, hc, e1, e2, hp, rfl, lk, hcd, hb⟩ := id h
  obtain ⟨c1, c2, c3, c4, c5⟩ := compF_at hc hp
  refine fnG_of (N := g.N) lk hcd c4 (fun xs H Q E hs => hs.1) fun A above s0 H xs Q E hr hg hs => ?_
  obtain ⟨hlen, P, w, so, ds, R, r, hout⟩ := hs
  have hdl : ds.length = ps.length := by rw [← r.length]; exact hlen
  have ok : StOk (cxOf (L2.CX Pg wo) Pg wo K mg base g.N qn (defScope st) fa cdv A above s0 H E) { g with sc := defScope st, bsc := defScope st } ⟨K, mg, G.at k⟩ (fun c d _ H => E c d H) := {
    K := rfl
    mg := rfl
    N := rfl
    nd := c4.nd
    sc := rfl
    un := by
      have := hr.un
      show (A.deeper (envOfC qn (defScope st) s0.heap.objs.size fa cdv)).units + 65 < cLine
      omega
    gu := hg
    calm := rfl
    tk := takes_of rfl rfl rfl rfl
    con := fun y d hy => T.con y d (by rw [← e1]; exact hy)
    fns := fun f' hf' => by
      obtain ⟨fa', fd', ps', m1, m2, m3⟩ := T.fns f' (by rw [← e2]; exact hf')
      refine ⟨fa', m1, ⟨2 * k, fd', ps', below f' fa' fd' ps' m3, hr, fun m => ?_⟩, m2⟩
      obtain ⟨st', g', n', df', x', qn', y1, y2, y3, y4, cdv', y5, oc', an', od', osl', hG', hc', _, _, hp', rfl, lk', hcd', hb'⟩ := id m3
      obtain ⟨d1, d2, d3, d4, d5⟩ := compF_at hc' hp'
      by_cases hm : m ≤ df'.pars ∧ df'.pars - m ≤ df'.dfl.length
      · obtain ⟨dvs, dus, b1, b2, b3⟩ := hb' m (by rw [← d1]; exact hm.1) (by rw [← d1]; exact hm.2)
        rw [← d1] at b1
        refine .inr ⟨df'.dfl.drop (df'.dfl.length - (df'.pars - m)), dvs, dus, ?_, b1, b2, b3, fun as so' ha => ?_⟩
        · rw [List.length_drop, ← d1]; omega
        · cases k with
          | zero => rfl
          | succ k =>
            show (match G.defs f' with | some d => d.run (G.at k) as so' | none => .stuck) = (match G.defs f' with | some d => d.run (G.at k) (as ++ _) so' | none => .stuck)
            rw [hG']
            show df'.run (G.at k) as so' = df'.run (G.at k) (as ++ _) so'
            have hl : (as ++ df'.dfl.drop (df'.dfl.length - (df'.pars - m))).length = df'.pars := by
              rw [List.length_append, List.length_drop, ha]; omega
            unfold Df.run
            rw [if_pos (by rw [ha]; exact hm), if_pos (by rw [hl]; omega), hl, ha]
            simp
      · refine .inl fun as so' ha => ?_
        cases k with
        | zero => rfl
        | succ k =>
          show (match G.defs f' with | some d => d.run (G.at k) as so' | none => .stuck) = .stuck
          rw [hG']
          show df'.run (G.at k) as so' = .stuck
          unfold Df.run
          rw [if_neg (by rw [ha]; exact hm)]
    blt := T.blt
    bnd := fun y hy => by
      refine ⟨?_, .inl rfl⟩
      unfold locB at hy
      show (defScope st).names.lookup y = some .local ∨ (defScope st).names.lookup y = some .cell
      split at hy <;> first | (exact .inl (by assumption)) | (exact .inr (by assumption)) | cases hy
    po := passes_of rfl
    kd := c4.kind
    sn := fun y hy => hy }
  refine ⟨_, snd_stmts (snd_stm n _ _ _ _ ok) c5, P, w, entryS ds g.N.length so, Rel.entry R r g.N (by omega), ?_⟩
  have hrun : (G.at (k + 1)).call f ds so = match exs (G.at k) df.body (entryS ds g.N.length so) with
      | .ok .nx s => .ok .non false s.st
      | .ok (.ret d fr) s => .ok d fr s.st
      | .exc c vs s => .exc c vs s.st
      | _ => .stuck := by
    show (match G.defs f with | some d => d.run (G.at k) ds so | none => .stuck) = _
    rw [hG]
    show df.run (G.at k) ds so = _
    unfold Df.run entryS
    rw [if_pos (by rw [c1]; omega), c1, c2, hdl, Nat.sub_self, Nat.sub_zero, List.drop_length, List.append_nil]
    try rfl
  rw [hrun] at hout
  show AfterS ⟨K, mg, G.at k⟩ _ P w (exs (G.at k) df.body (entryS ds g.N.length so)) _
  cases hx : exs (G.at k) df.body (entryS ds g.N.length so) with
  | stuck => rw [hx] at hout; exact hout
  | exc c vs s =>
    rw [hx] at hout
    intro w' σ' H' C d l R' X'
    exact hout w' H' C d l R'.toRelC ⟨X'.1, by
      obtain ⟨ns, fs, q1, q2⟩ := X'.2
      exact ⟨ns, fs, by rw [at_xf] at q1 ⊢; exact q1, q2⟩⟩
  | ok fl s =>
    rw [hx] at hout
    cases fl with
    | nx => exact fun w' σ' H' l R' => hout w' H' .non l R'.toRelC rfl
    | ret d fr =>
      intro w' σ' H' l R' z nz
      refine hout w' H' z l R'.toRelC ?_
      cases fr with
      | false => exact nz
      | true => exact ⟨nz.1, fun a ha => ⟨(nz.2 a ha).1, (nz.2 a ha).2.1, (nz.2 a ha).2.2.1⟩⟩
    | brk => exact hout.elim
    | ct => exact hout.elim
/-- all defs, at every level -/
theorem defs_ok {Pg : Program} {wo : World} {K : PySem.W.Frag} {mg : Str → Option Value} {base : Heap} {G : PyE.Pg} {cons : List (Str × D)} {fns : List Str} (T : TextOk K mg G cons fns) : ∀ (k : Nat) (f : Str) (fa : Addr) (fd : FuncData) (ps : List Str), DefOk K mg G cons fns f fa fd ps → FnG Pg wo K mg base (2 * k) fa fd ps (spC ⟨K, mg, G.at k⟩ ps.length ((G.at k).call f))
  | 0, f, fa, fd, ps, _ => ⟨fun xs H Q E hs => hs.1, fun A above s0 H given us xs Q E _ _ _ _ _ ⟨_, P, w, st, ds, _, _, hout⟩ => hout.elim⟩
  | k + 1, f, fa, fd, ps, h => def_ok T (defs_ok T k) h
end PyE
end
section
set_option linter.all false
set_option autoImplicit false
set_option maxRecDepth 100000
set_option maxHeartbeats 1000000
/-! PyEnd: a law by its run in the small language. -/
namespace PyE
open PySem PySem.Spec PyProof.Rows L2

theorem ints_rep {K : PySem.W.Frag} {mg : Str → Option Value} {w : Wd} : ∀ ns : List Int, RepVs K mg w (ns.map D.int) (ns.map V.int)
  | [] => rfl
  | n :: ns => ⟨_, _, rfl, rfl, ints_rep ns⟩
/-- a law of a list of whole numbers -/
theorem law_end {l : PySem.W.OpenLaw} {m k : Nat} {q : Program} {loose : List Str} {XP : (Str → Option Value) → Heap → Prop} {YP : World → Heap → Prop} {d : DefRec} {K : Params → PySem.W.Frag} {G : PyE.Pg} {cons : List (Str × D)} {fns : List Str}
    (hm : l.most = some m) (hs : m ≤ sizeLine) (hdf : d.params.defaults = []) (hr : Room (2 * k) callerA) (hY : ∀ (w : World) (h : Heap), YP w h → (K w.params).In h)
    (F : ∀ (w : World) (mg : Str → Option Value) (fa : Addr) (h : Heap), (K w.params).In h → h.Ns mainGlobals mg → mg d.name = some (.ref fa) →
      ∃ fd : FuncData, (∀ (s : Shared) (u : Value), BindsTo s fd ⟨[u], []⟩ [("script", u)]) ∧ TextOk (K w.params) mg G cons fns ∧ DefOk (K w.params) mg G cons fns "law" fa fd ["script"])
    (math : ∀ ns : List Int, ns.length ≤ m → ∃ fr st, (G.at k).call "law" [.giv (ns.map D.int)] [] = .ok (.bl true) fr st) :
    PySem.W.WalkO q loose XP YP l.row.toRowW d [] (fun f vs => PySem.call f vs) := by
  refine walkG (n := 2 * k) (x := "script") (sp := fun w mg => spC ⟨K w.params, mg, G.at k⟩ 1 ((G.at k).call "law")) hm hs hdf hr hY (fun w mg fa h hin hns hfa => ?_) fun w mg H a ns hl only sq => ?_
  · obtain ⟨fd, hb, T, hd⟩ := F w mg fa h hin hns hfa
    exact ⟨fd, hb, fun base _ _ => defs_ok T k "law" fa fd ["script"] hd⟩
  · obtain ⟨fr, st, hrun⟩ := math ns hl
    refine ⟨rfl, fun _ => none, ⟨H, []⟩, [], [.giv (ns.map D.int)], ?_, ⟨_, _, rfl, ⟨a, _, rfl, sq, ints_rep ns⟩, rfl⟩, ?_⟩
    · exact {
        g := fun _ _ h => h
        p := fun _ _ h => nomatch (show (none : Option HO) = some _ from h)
        stl := rfl
        st := fun n o a h _ => by
          have h : ([] : List Ob)[n]? = some o := h
          simp at h
        nd := List.nodup_nil
        out := fun a h => absurd (show a ∈ ([] : List Addr) from h) List.not_mem_nil
        gp := fun _ _ h => nomatch (show (none : Option HO) = some _ from h) }
    · rw [hrun]
      intro w' H' z _ _ hz
      cases fr with
      | false => exact hz
      | true => obtain ⟨⟨_, o, _, _, r, _⟩, _⟩ := hz; exact r.elim
end PyE
end
section
set_option linter.all false
set_option autoImplicit false
set_option maxRecDepth 100000
set_option maxHeartbeats 1000000
/-! PyHead: a def's facts from its head. -/
namespace PyE
open PySem PySem.Spec PyProof.Rows L2
section
variable {K : PySem.W.Frag} {mg : Str → Option Value} {G : PyE.Pg} {cons : List (Str × D)} {fns : List Str} {f : Str} {fa : Addr} {ps : List Str} {fd : FuncData}
theorem bindsOk_none (h : ∀ us : List Value, us.length = ps.length → bindArgs fd ⟨us, []⟩ = pure (ps.zip us)) : BindsOk K mg fd ps [] := fun m h1 h2 =>
  ⟨[], [], fun _ => by simp; rfl, .nil, Binds.all h⟩
theorem defOk_mk {st : Stmt} {g : Ct} {n : Nat} {df : Df} {x qn : Str} {z1 z2 z3 z4 cdv z5 oc : Value} {an od : Option Addr} {osl : Array (Option Value)}
    (hG : G.defs f = some df) (hc : compF g n st = some df) (h1 : g.cons = cons) (h2 : g.fns = fns) (hp : parsOf (defArgs st) = some ps)
    (l : K.lookup fa = some ⟨oc, od, .func (PySem.W.fnOf x qn (defArgs st) (defBody st) (defScope st) z1 z2 z3 z4 an cdv z5), osl⟩) (c : PySem.W.codeIn K cdv qn = true)
    (hb : BindsOk K mg (PySem.W.fnOf x qn (defArgs st) (defBody st) (defScope st) z1 z2 z3 z4 an cdv z5) ps df.dfl) :
    DefOk K mg G cons fns f fa (PySem.W.fnOf x qn (defArgs st) (defBody st) (defScope st) z1 z2 z3 z4 an cdv z5) ps :=
  ⟨st, g, n, df, x, qn, z1, z2, z3, z4, cdv, z5, oc, an, od, osl, hG, hc, h1, h2, hp, rfl, l, c, hb⟩
/-- defaults: the values stand in a tuple -/
theorem bindsOk_dfl {x qual : Str} {params : Arguments} {body : List Stmt} {scope : Scope} {dvs : List V} {f : Addr} {dfl : List D} (F : FunD K x qual params body scope dvs [] f fd) (hne : dvs ≠ []) (hl : dvs.length = dfl.length) (hr : ∀ w, RepVs K mg w dfl dvs)
    (h : ∀ m, m ≤ ps.length → ps.length - m ≤ dfl.length → ∀ (T : Addr) (kV doc pm : Value) (an : Option Addr) (cdv ct : Value) (us its : List Value), us.length = m → its.length = dvs.length →
      ∃ k, bindArgs (PySem.W.fnOf x qual params body scope (.ref T) kV doc pm an cdv ct) ⟨us, []⟩ = seqItems? (.ref T) >>= k ∧ k (some its.toArray) = pure (ps.zip (us ++ its.drop (dfl.length - (ps.length - m))))) : BindsOk K mg fd ps dfl := fun m h1 h2 => by
  obtain ⟨ds, r, b⟩ := F.binds1 m (dfl.length - (ps.length - m)) hne (by omega) (h m h1 h2)
  exact ⟨_, ds, fun w => (hr w).drop _, r, b⟩
theorem funD_mk {x qual : Str} {st : Stmt} {f T : Addr} {oc : Value} {od an tod : Option Addr} {osl tsl : Array (Option Value)} {kV doc pm cdv ct : Value} {dvs : List V} {its : List Value} {tn : Nat}
    (l : K.lookup f = some ⟨oc, od, .func (PySem.W.fnOf x qual (defArgs st) (defBody st) (defScope st) (.ref T) kV doc pm an cdv ct), osl⟩) (c : PySem.W.codeIn K cdv qual = true) (k : PySem.W.keepIn K (.ref f) = true)
    (t : K.lookup T = some ⟨.type "tuple", tod, .seq its.toArray tn, tsl⟩) (hne : dvs ≠ []) (r : Vals dvs its) :
    FunD K x qual (defArgs st) (defBody st) (defScope st) dvs [] f (PySem.W.fnOf x qual (defArgs st) (defBody st) (defScope st) (.ref T) kV doc pm an cdv ct) :=
  ⟨⟨oc, od, _, kV, doc, pm, an, cdv, ct, osl, rfl, l, c, .inr ⟨hne, T, _, its, tn, rfl, t, rfl, r⟩, .inl rfl⟩, k⟩
theorem lookup_mem {d : D} {x : Str} : ∀ {l : List (Str × D)}, l.lookup x = some d → (x, d) ∈ l
  | [], h => by cases h
  | (y, e) :: l, h => by
    rw [List.lookup_cons] at h
    split at h
    · rename_i q
      cases h
      rw [eq_of_beq q]
      exact List.mem_cons_self
    · exact List.mem_cons_of_mem _ (lookup_mem h)
/-- a constant of the text -/
def ConOk (K : PySem.W.Frag) (mg : Str → Option Value) (x : Str) (d : D) : Prop := ∃ v u, mg x = some u ∧ RelV v u ∧ ∀ w, RepV K mg w d v
theorem con_int {h : Heap} {x : Str} {i : Int} {t : Tok} (X : K.In h) (Gm : h.Ns mainGlobals mg) (a : PySem.W.nsIn K mainGlobals x = some (some (.int i t))) : ConOk K mg x (.int i) := ⟨.int i, _, PySem.W.mg_of X Gm a, ⟨t, rfl⟩, fun _ => rfl⟩
theorem con_strs {h : Heap} {x : Str} {C : Addr} {cod : Option Addr} {its : List Value} {n : Nat} {csl : Array (Option Value)} {ys : List (List Nat)} (X : K.In h) (Gm : h.Ns mainGlobals mg) (a : PySem.W.nsIn K mainGlobals x = some (some (.ref C)))
    (l : K.lookup C = some ⟨.type "tuple", cod, .seq its.toArray n, csl⟩) (r : Vals ((ys.map fun y => (⟨y.toArray⟩ : Str)).map V.str) its) (hz : its.length ≤ 1000) (hy : (ys.all fun y => decide (y.length ≤ SL) && y.all (· < 1114112)) = true) : ConOk K mg x (.git (ys.map D.str)) :=
  ⟨.ref C, _, PySem.W.mg_of X Gm a, rfl, fun w => ⟨C, _, rfl, .inr ⟨_, its.toArray, n, l, rfl, rfl, by rw [List.size_toArray, sizeLine_eq]; omega, by simpa using r⟩, reps_of_strs fun y hy2 => by
    have := List.all_eq_true.mp hy y hy2
    rw [Bool.and_eq_true, decide_eq_true_eq] at this
    exact this⟩⟩
end
end PyE
end
section
set_option linter.all false
set_option autoImplicit false
set_option maxRecDepth 100000
/-! PyRun: small laws to run the small language by simp. -/
namespace PyE
open PySem
@[simp] theorem rb_ok {α β : Type} (a : α) (s : S) (f : α → S → R β) : (R.ok a s).bind f = f a s := rfl
@[simp] theorem rb_stuck {α β : Type} (f : α → S → R β) : (R.stuck : R α).bind f = .stuck := rfl
@[simp] theorem rof_some {α : Type} (a : α) (s : S) : R.of (some a) s = .ok a s := rfl
@[simp] theorem rof_none {α : Type} (s : S) : (R.of none s : R α) = .stuck := rfl
@[simp] theorem rof_ite {α : Type} (c : Prop) [Decidable c] (x y : Option α) (s : S) : R.of (if c then x else y) s = if c then R.of x s else R.of y s := by split <;> rfl
@[simp] theorem ite_bl (c : Prop) [Decidable c] (a b : Bool) (s : S) : (if c then R.ok (Rv.val (D.bl a) false) s else R.ok (Rv.val (D.bl b) false) s) = R.ok (Rv.val (D.bl (if c then a else b)) false) s := by split <;> rfl
@[simp] theorem ite_rf (c : Prop) [Decidable c] (a b : Bool) (st : List Ob) : (if c then RF.ok (D.bl a) false st else RF.ok (D.bl b) false st) = RF.ok (D.bl (if c then a else b)) false st := by split <;> rfl
@[simp] theorem rd_val (s : S) (d : D) (fr : Bool) : rd s (.val d fr) = some (deref s.st d) := rfl
@[simp] theorem de_non (st : List Ob) : deref st .non = .non := rfl
@[simp] theorem de_bl (st : List Ob) (b : Bool) : deref st (.bl b) = .bl b := rfl
@[simp] theorem de_str (st : List Ob) (b : List Nat) : deref st (.str b) = .str b := rfl
@[simp] theorem de_int (st : List Ob) (b : Int) : deref st (.int b) = .int b := rfl
@[simp] theorem de_tup (st : List Ob) (b : List D) : deref st (.tup b) = .tup b := rfl
@[simp] theorem de_git (st : List Ob) (b : List D) : deref st (.git b) = .git b := rfl
@[simp] theorem de_lst (st : List Ob) (b : List D) : deref st (.lst b) = .lst b := rfl
@[simp] theorem de_giv (st : List Ob) (b : List D) : deref st (.giv b) = .giv b := rfl
@[simp] theorem de_dct (st : List Ob) (b : List (D × D)) : deref st (.dct b) = .dct b := rfl
@[simp] theorem tr_bl (b : Bool) (fr : Bool) (s : S) : truthR (.val (.bl b) fr) s = .ok b s := rfl
@[simp] theorem keep_val (d : D) (fr : Bool) (s : S) : keep (.val d fr) s = .ok d s := rfl
theorem pg_call (G : Pg) (k : Nat) (f : Str) (as : List D) (st : List Ob) {d : Df} (h : G.defs f = some d) : (G.at (k + 1)).call f as st = d.run (G.at k) as st := by
  show (match G.defs f with | some d => d.run (G.at k) as st | none => .stuck) = _
  rw [h]
/-- data that is no object of the store -/
def okTop : D → Bool
  | .ref _ | .fn _ | .clo _ _ | .exc _ _ => false
  | _ => true
def isStr : D → Bool
  | .str _ => true
  | _ => false
def isInt : D → Bool
  | .int _ | .bl _ => true
  | _ => false
def isBool : D → Bool
  | .bl _ => true
  | _ => false
def isTup : D → Bool
  | .tup _ | .git _ => true
  | _ => false
theorem de_ok {d : D} (h : okTop d = true) (st : List Ob) : deref st d = d := by cases d <;> first | rfl | cases h
theorem isi_one (st : List Ob) (d : D) (t : Str) : isiAll st d [t] = isiD st d t := by
  show (isiD st d t).bind (fun b => (some false).map (b || ·)) = _
  cases isiD st d t <;> simp
theorem isi_str {d : D} (h : okTop d = true) (st : List Ob) : isiAll st d ["str"] = some (isStr d) := by
  rw [isi_one]
  cases d <;> first | (cases h; done) | (show some _ = some _; refine congrArg some ?_; decide +kernel) | (show some _ = some _; refine congrArg some ?_; rfl)
theorem isi_int {d : D} (h : okTop d = true) (st : List Ob) : isiAll st d ["int"] = some (isInt d) := by
  rw [isi_one]
  cases d <;> first | (cases h; done) | (show some _ = some _; refine congrArg some ?_; decide +kernel) | (show some _ = some _; refine congrArg some ?_; rfl)
theorem isi_bool {d : D} (h : okTop d = true) (st : List Ob) : isiAll st d ["bool"] = some (isBool d) := by
  rw [isi_one]
  cases d <;> first | (cases h; done) | (show some _ = some _; refine congrArg some ?_; decide +kernel) | (show some _ = some _; refine congrArg some ?_; rfl)
theorem isi_tup {d : D} (h : okTop d = true) (st : List Ob) : isiAll st d ["tuple"] = some (isTup d) := by
  rw [isi_one]
  cases d <;> first | (cases h; done) | (show some _ = some _; refine congrArg some ?_; decide +kernel) | (show some _ = some _; refine congrArg some ?_; rfl)
theorem atD_pos {α : Type} (xs : List α) (n : Nat) (h : n < xs.length) : atD xs (n : Int) = xs[n]? := by
  unfold atD ixD
  rw [if_pos (Int.natCast_nonneg n), if_pos (Int.ofNat_lt.mpr h)]
  rfl
@[simp] theorem at0 {α : Type} (x : α) (r : List α) : atD (x :: r) 0 = some x := atD_pos (x :: r) 0 (by simp)
@[simp] theorem at1 {α : Type} (x y : α) (r : List α) : atD (x :: y :: r) 1 = some y := atD_pos (x :: y :: r) 1 (by simp)
@[simp] theorem at2 {α : Type} (x y z : α) (r : List α) : atD (x :: y :: z :: r) 2 = some z := atD_pos (x :: y :: z :: r) 2 (by simp)
end PyE
end
section
set_option linter.all false
set_option maxRecDepth 10000
/-! TaskDef: tasks as plain data: the program's look and the law's look at them, and that they are one. -/
namespace Tk
open PySem PyE
def nameP (s : List Nat) : Bool := decide (1 ≤ s.length) && decide (s.length ≤ 12) && asciiS s && ((!s.isEmpty && s.all fun c => isDig c || isLow c || isUpp c) && (s.any isLow && !s.any isUpp) && ((s.head?.map fun c => isLow c || isUpp c).getD false))
def nameD : D → Bool
  | .str s => nameP s
  | _ => false
def kindsL : List (List Nat) := [[97, 108, 108], [97, 110, 121], [114, 111, 119], [116, 105, 109, 101, 115], [117, 110, 108, 101, 115, 115]]
def callNameD : D → Bool
  | .str s => nameP s && !kindsL.contains s
  | _ => false
theorem nameP_len {s : List Nat} (h : nameP s = true) : s.length ≤ 12 ∧ s.all (· < 128) = true := by
  unfold nameP at h
  simp only [Bool.and_eq_true, decide_eq_true_eq] at h
  exact ⟨h.1.1.2, h.1.2⟩
/-- a name by the law's look -/
def nameL (s : List Nat) : Bool := match s with
  | [] => false
  | c :: r => decide (r.length + 1 ≤ 12) && isLow c && (c :: r).all fun x => isLow x || isDig x
theorem name_same (s : List Nat) : nameP s = nameL s := by
  cases s with
  | nil => rfl
  | cons c r =>
    have hA : ∀ x, isLow x = true → isUpp x = false := fun x h => by
      simp only [isLow, isUpp, Bool.and_eq_true, decide_eq_true_eq, Bool.and_eq_false_iff, decide_eq_false_iff_not] at *; omega
    have hD : ∀ x, isDig x = true → isUpp x = false := fun x h => by
      simp only [isDig, isUpp, Bool.and_eq_true, decide_eq_true_eq, Bool.and_eq_false_iff, decide_eq_false_iff_not] at *; omega
    have hS : ∀ x, isLow x = true ∨ isDig x = true → x < 128 := fun x h => by
      simp only [isDig, isLow, Bool.and_eq_true, decide_eq_true_eq] at *; omega
    rw [Bool.eq_iff_iff]
    simp only [nameP, nameL, asciiS, Bool.and_eq_true, decide_eq_true_eq, List.all_eq_true, List.any_eq_true, Bool.not_eq_true', Bool.or_eq_true, List.head?_cons, Option.map_some, Option.getD_some, List.any_eq_false, List.length_cons]
    constructor
    · rintro ⟨⟨⟨h1, h2⟩, h3⟩, ⟨h4, h5, h6⟩, h7⟩
      refine ⟨⟨h2, ?_⟩, fun x hx => ?_⟩
      · rcases h7 with h7 | h7
        · exact h7
        · exact absurd h7 (h6 c List.mem_cons_self)
      · rcases h4.2 x hx with (h | h) | h
        · exact .inr h
        · exact .inl h
        · exact absurd h (h6 x hx)
    · rintro ⟨⟨h1, h2⟩, h3⟩
      refine ⟨⟨⟨by omega, h1⟩, fun x hx => hS x (h3 x hx)⟩, ⟨⟨rfl, fun x hx => ?_⟩, ⟨c, List.mem_cons_self, h2⟩, fun x hx e => ?_⟩, .inl h2⟩
      · rcases h3 x hx with h | h
        · exact .inl (.inr h)
        · exact .inl (.inl h)
      · rcases h3 x hx with h | h
        · rw [hA x h] at e; cases e
        · rw [hD x h] at e; cases e
def wholeD (d : D) (a b : Int) : Bool := match d with
  | .int i => decide (a ≤ i) && decide (i ≤ b)
  | _ => false
def kDo : List Nat := [100, 111]
def kTimes : List Nat := [116, 105, 109, 101, 115]
def kUnless : List Nat := [117, 110, 108, 101, 115, 115]
def joints : List (List Nat) := [[97, 108, 108], [97, 110, 121], [114, 111, 119]]
def strIn (d : D) (tk : List (List Nat)) : Bool := match d with
  | .str s => tk.contains s
  | _ => false
mutual
def doIn (v : D) (o l : Int) (tk : List (List Nat)) : Option Int := match v with
  | .tup vs => match vs with
    | [.str k, x] =>
      if k = kDo then if callNameD x && !strIn x tk && decide (0 < l) then some 1 else none
      else if o = 8 then none
      else if joints.contains k then match x with
        | .tup ps => if 2 ≤ ps.length ∧ (ps.length : Int) ≤ min 6 l then doAmong ps (o + 1) l tk 0 else none
        | _ => none
      else none
    | [.str k, x, t] =>
      if k = kDo then none
      else if o = 8 then none
      else if joints.contains k then none
      else if k = kTimes then if wholeD x 2 5 then doIn t (o + 1) l tk else none
      else if k = kUnless then match x with
        | .str s => if callNameD x && !tk.contains s then doIn t (o + 1) l (tk ++ [s]) else none
        | _ => none
      else none
    | _ => none
  | _ => none
termination_by sizeOf v
def doAmong (vs : List D) (o l : Int) (tk : List (List Nat)) (many : Int) : Option Int := match vs with
  | [] => some many
  | v :: r => match doIn v o (l - many - r.length) tk with
    | none => none
    | some f => doAmong r o l tk (many + f)
termination_by sizeOf vs
end
theorem doIn2 (k : List Nat) (x : D) (o l : Int) (tk : List (List Nat)) : doIn (.tup [.str k, x]) o l tk =
    if k = kDo then if callNameD x && !strIn x tk && decide (0 < l) then some 1 else none
    else if o = 8 then none
    else if joints.contains k then match x with
      | .tup ps => if 2 ≤ ps.length ∧ (ps.length : Int) ≤ min 6 l then doAmong ps (o + 1) l tk 0 else none
      | _ => none
    else none := by
  conv => lhs; unfold doIn
theorem doIn3 (k : List Nat) (x t : D) (o l : Int) (tk : List (List Nat)) : doIn (.tup [.str k, x, t]) o l tk =
    if k = kDo then none
    else if o = 8 then none
    else if joints.contains k then none
    else if k = kTimes then if wholeD x 2 5 then doIn t (o + 1) l tk else none
    else if k = kUnless then match x with
      | .str s => if callNameD x && !tk.contains s then doIn t (o + 1) l (tk ++ [s]) else none
      | _ => none
    else none := by
  conv => lhs; unfold doIn
theorem doIn_no {v : D} (h : ∀ k x, v ≠ .tup [.str k, x]) (h' : ∀ k x t, v ≠ .tup [.str k, x, t]) (o l : Int) (tk : List (List Nat)) : doIn v o l tk = none := by
  unfold doIn
  split
  · split
    · exact absurd rfl (h _ _)
    · exact absurd rfl (h' _ _ _)
    · rfl
  · rfl
/-! the law's look -/
def formed : Nat → D → List (List Nat) → Bool
  | 0, _, _ => false
  | n + 1, .tup [.str k, x], tk =>
    if k = kDo then callNameD x && !strIn x tk
    else if joints.contains k then match x with
      | .tup ps => decide (2 ≤ ps.length) && decide (ps.length ≤ 6) && ps.all fun p => formed n p tk
      | _ => false
    else false
  | n + 1, .tup [.str k, x, t], tk =>
    if k = kDo then false
    else if joints.contains k then false
    else if k = kTimes then wholeD x 2 5 && formed n t tk
    else if k = kUnless then match x with
      | .str s => callNameD x && !tk.contains s && formed n t (tk ++ [s])
      | _ => false
    else false
  | _ + 1, _, _ => false
def manyT : Nat → D → Nat
  | 0, _ => 0
  | n + 1, .tup [.str k, x] => if k = kDo then 1 else match x with
    | .tup ps => (ps.map (manyT n)).sum
    | _ => 0
  | n + 1, .tup [.str k, x, t] => manyT n t
  | _ + 1, _ => 0
theorem sum_ge {α : Type} (f : α → Nat) : ∀ l : List α, (∀ x ∈ l, 1 ≤ f x) → l.length ≤ (l.map f).sum
  | [], _ => Nat.le_refl 0
  | x :: r, h => by
    have := sum_ge f r fun y hy => h y (List.mem_cons_of_mem _ hy)
    have := h x List.mem_cons_self
    simp; omega
theorem formed_cases {n : Nat} {v : D} {tk : List (List Nat)} (h : formed n v tk = true) : ∃ m, n = m + 1 ∧ (
    (∃ x, v = .tup [.str kDo, x] ∧ callNameD x = true ∧ strIn x tk = false) ∨
    (∃ k ps, v = .tup [.str k, .tup ps] ∧ k ≠ kDo ∧ joints.contains k = true ∧ 2 ≤ ps.length ∧ ps.length ≤ 6 ∧ ∀ p ∈ ps, formed m p tk = true) ∨
    (∃ x t, v = .tup [.str kTimes, x, t] ∧ wholeD x 2 5 = true ∧ formed m t tk = true) ∨
    (∃ s t, v = .tup [.str kUnless, .str s, t] ∧ callNameD (.str s) = true ∧ tk.contains s = false ∧ formed m t (tk ++ [s]) = true)) := by
  cases n with
  | zero => cases h
  | succ m =>
    refine ⟨m, rfl, ?_⟩
    match v, h with
    | .tup [.str k, x], h =>
      simp only [formed] at h
      split at h
      · rename_i e; subst e
        rw [Bool.and_eq_true, Bool.not_eq_true'] at h
        exact .inl ⟨x, rfl, h⟩
      · rename_i e
        split at h
        · rename_i j
          split at h
          · rename_i ps
            simp only [Bool.and_eq_true, decide_eq_true_eq, List.all_eq_true] at h
            exact .inr (.inl ⟨k, ps, rfl, e, j, h.1.1, h.1.2, h.2⟩)
          · cases h
        · cases h
    | .tup [.str k, x, t], h =>
      simp only [formed] at h
      split at h
      · cases h
      · split at h
        · cases h
        · split at h
          · rename_i e; subst e
            rw [Bool.and_eq_true] at h
            exact .inr (.inr (.inl ⟨x, t, rfl, h⟩))
          · split at h
            · rename_i e; subst e
              split at h
              · rw [Bool.and_eq_true, Bool.and_eq_true, Bool.not_eq_true'] at h
                exact .inr (.inr (.inr ⟨_, t, rfl, h.1.1, h.1.2, h.2⟩))
              · cases h
            · cases h
theorem kd_j : joints.contains kDo = false := by decide
theorem kt_j : joints.contains kTimes = false := by decide
theorem ku_j : joints.contains kUnless = false := by decide
theorem many_pos : ∀ (n : Nat) (v : D) (tk : List (List Nat)), formed n v tk = true → 1 ≤ manyT n v := by
  intro n
  induction n with
  | zero => intro v tk h; cases h
  | succ n ih =>
    intro v tk h
    obtain ⟨m, e, h⟩ := formed_cases h
    cases e
    rcases h with ⟨x, rfl, _⟩ | ⟨k, ps, rfl, hk, _, h2, _, h⟩ | ⟨x, t, rfl, _, h⟩ | ⟨s, t, rfl, _, _, h⟩
    · simp [manyT]
    · simp only [manyT, hk, if_false]
      have := sum_ge (manyT n) ps fun p hp => ih p tk (h p hp)
      omega
    · exact ih t _ h
    · exact ih t _ h
/-- what the program's count is -/
def DoIs (n : Nat) : Prop := ∀ (v : D) (o l : Int) (tk : List (List Nat)), 0 ≤ o → o + n = 8 → doIn v o l tk = if formed (n + 1) v tk = true ∧ (manyT (n + 1) v : Int) ≤ l then some (manyT (n + 1) v : Int) else none
theorem among_is {n : Nat} (ih : DoIs n) (o l : Int) (tk : List (List Nat)) (h0 : 0 ≤ o) (ho : o + n = 8) : ∀ (ps : List D) (m : Int),
    doAmong ps o l tk m = if (ps.all fun p => formed (n + 1) p tk) = true ∧ (ps = [] ∨ m + ((ps.map (manyT (n + 1))).sum : Nat) ≤ l) then some (m + ((ps.map (manyT (n + 1))).sum : Nat)) else none
  | [], m => by rw [doAmong]; simp
  | v :: r, m => by
    rw [doAmong, ih v o _ tk h0 ho]
    have ge : (r.all fun p => formed (n + 1) p tk) = true → r.length ≤ (r.map (manyT (n + 1))).sum := fun h => sum_ge _ r fun p hp => many_pos (n + 1) p tk (List.all_eq_true.mp h p hp)
    by_cases h1 : formed (n + 1) v tk = true
    · by_cases h2 : (manyT (n + 1) v : Int) ≤ l - m - r.length
      · rw [if_pos ⟨h1, h2⟩]
        simp only
        rw [among_is ih o l tk h0 ho r]
        by_cases h3 : (r.all fun p => formed (n + 1) p tk) = true
        · have ge := ge h3
          by_cases hr : r = []
          · subst hr
            simp [h1]
            simp at h2
            omega
          · simp only [List.all_cons, h1, h3, Bool.and_self, true_and, hr, false_or, List.map_cons, List.sum_cons, reduceCtorEq]
            have e : m + (manyT (n + 1) v : Int) + ((r.map (manyT (n + 1))).sum : Nat) = m + ((manyT (n + 1) v + (r.map (manyT (n + 1))).sum : Nat) : Int) := by omega
            rw [e]
        · rw [if_neg fun z => h3 z.1, if_neg fun z => h3 (by have := z.1; rw [List.all_cons, Bool.and_eq_true] at this; exact this.2)]
      · rw [if_neg fun z => h2 z.2]
        simp only
        rw [if_neg]
        rintro ⟨z1, z2⟩
        rw [List.all_cons, Bool.and_eq_true] at z1
        have ge := ge z1.2
        simp at z2
        omega
    · rw [if_neg fun z => h1 z.1]
      simp only
      rw [if_neg]
      rintro ⟨z1, z2⟩
      rw [List.all_cons, Bool.and_eq_true] at z1
      exact h1 z1.1
theorem formed_no {v : D} (h : ∀ k x, v ≠ .tup [.str k, x]) (h' : ∀ k x t, v ≠ .tup [.str k, x, t]) (n : Nat) (tk : List (List Nat)) : formed n v tk = false := by
  cases hf : formed n v tk with
  | false => rfl
  | true =>
    obtain ⟨m, e, z⟩ := formed_cases hf
    rcases z with ⟨x, rfl, _⟩ | ⟨k, ps, rfl, _⟩ | ⟨x, t, rfl, _⟩ | ⟨s, t, rfl, _⟩
    · exact absurd rfl (h _ _)
    · exact absurd rfl (h _ _)
    · exact absurd rfl (h' _ _ _)
    · exact absurd rfl (h' _ _ _)
theorem shape2 (v : D) : (∃ k x, v = .tup [.str k, x]) ∨ (∃ k x t, v = .tup [.str k, x, t]) ∨ ((∀ k x, v ≠ .tup [.str k, x]) ∧ ∀ k x t, v ≠ .tup [.str k, x, t]) := by
  by_cases h : ∃ k x, v = .tup [.str k, x]
  · exact .inl h
  · by_cases h' : ∃ k x t, v = .tup [.str k, x, t]
    · exact .inr (.inl h')
    · exact .inr (.inr ⟨fun k x e => h ⟨k, x, e⟩, fun k x t e => h' ⟨k, x, t, e⟩⟩)
theorem formed0_all {ps : List D} {tk : List (List Nat)} (h : 2 ≤ ps.length) : (ps.all fun p => formed 0 p tk) = false := by
  match ps, h with
  | a :: r, _ => simp [formed]
theorem formed2 (n : Nat) (k : List Nat) (x : D) (tk : List (List Nat)) : formed (n + 1) (.tup [.str k, x]) tk =
    if k = kDo then callNameD x && !strIn x tk
    else if joints.contains k then match x with
      | .tup ps => decide (2 ≤ ps.length) && decide (ps.length ≤ 6) && ps.all fun p => formed n p tk
      | _ => false
    else false := rfl
theorem formed3 (n : Nat) (k : List Nat) (x t : D) (tk : List (List Nat)) : formed (n + 1) (.tup [.str k, x, t]) tk =
    if k = kDo then false
    else if joints.contains k then false
    else if k = kTimes then wholeD x 2 5 && formed n t tk
    else if k = kUnless then match x with
      | .str s => callNameD x && !tk.contains s && formed n t (tk ++ [s])
      | _ => false
    else false := rfl
theorem many2 (n : Nat) (k : List Nat) (ps : List D) (hk : k ≠ kDo) : manyT (n + 1) (.tup [.str k, .tup ps]) = (ps.map (manyT n)).sum := by
  simp only [manyT, hk, if_false]
theorem do_is : ∀ n, DoIs n := by
  intro n
  induction n with
  | zero =>
    intro v o l tk h0 ho
    have ho : o = 8 := by simpa using ho
    subst ho
    rcases shape2 v with ⟨k, x, rfl⟩ | ⟨k, x, t, rfl⟩ | ⟨h, h'⟩
    · rw [doIn2]
      simp only [formed, manyT]
      by_cases hk : k = kDo
      · simp only [hk, if_true]
        by_cases c : (callNameD x && !strIn x tk) = true
        · simp [c]; rfl
        · simp [c]
      · simp only [hk, if_false, if_true]
        rw [if_neg]
        rintro ⟨z, _⟩
        split at z
        · split at z
          · rw [Bool.and_eq_true, Bool.and_eq_true, decide_eq_true_eq] at z
            have y := formed0_all (tk := tk) z.1.1
            simp only [formed] at y
            rw [y] at z
            cases z.2
          · cases z
        · cases z
    · rw [doIn3]
      have : formed 1 (.tup [.str k, x, t]) tk = false := by
        simp only [formed]
        split <;> try rfl
        split <;> try rfl
        split
        · simp
        · split
          · split <;> simp
          · rfl
      simp [this]
    · rw [doIn_no h h', formed_no h h']; rfl
  | succ n ih =>
    intro v o l tk h0 ho
    have ho8 : o ≠ 8 := by omega
    rcases shape2 v with ⟨k, x, rfl⟩ | ⟨k, x, t, rfl⟩ | ⟨h, h'⟩
    · rw [doIn2]
      rw [formed2]
      by_cases hk : k = kDo
      · simp only [hk, if_true, manyT]
        by_cases c : (callNameD x && !strIn x tk) = true
        · simp [c]; rfl
        · simp [c]
      · simp only [hk, if_false, ho8]
        by_cases hj : joints.contains k = true
        · rw [if_pos hj, if_pos hj]
          cases x with
          | tup ps =>
            rw [many2 _ _ _ hk]
            simp only
            have ha := among_is ih (o + 1) l tk (by omega) (by omega) ps 0
            rw [ha]
            have ge : (ps.all fun p => formed (n + 1) p tk) = true → ps.length ≤ (ps.map (manyT (n + 1))).sum := fun h => sum_ge _ ps fun p hp => many_pos (n + 1) p tk (List.all_eq_true.mp h p hp)
            by_cases h2 : 2 ≤ ps.length
            · have hne : ps ≠ [] := fun e => by rw [e] at h2; simp at h2
              by_cases h6 : ps.length ≤ 6
              · by_cases hf : (ps.all fun p => formed (n + 1) p tk) = true
                · have ge := ge hf
                  by_cases hm : ((ps.map (manyT (n + 1))).sum : Int) ≤ l
                  · rw [if_pos ⟨h2, by omega⟩, if_pos ⟨hf, .inr (by omega)⟩, if_pos ⟨by simp only [h2, h6, hf]; rfl, hm⟩]; simp
                  · rw [if_neg (c := _ ∧ _ ≤ l) fun z => hm z.2]
                    split
                    · rw [if_neg]
                      rintro ⟨_, z | z⟩
                      · exact hne z
                      · omega
                    · rfl
                · rw [if_neg (c := (ps.all fun p => formed (n + 1) p tk) = true ∧ _) fun z => hf z.1, if_neg (c := _ ∧ _ ≤ l)]
                  · split <;> rfl
                  · rintro ⟨z, _⟩
                    rw [Bool.and_eq_true] at z
                    exact hf z.2
              · rw [if_neg (c := 2 ≤ ps.length ∧ _) (by omega), if_neg]
                rintro ⟨z, _⟩
                simp [h6] at z
            · rw [if_neg (c := 2 ≤ ps.length ∧ _) (by omega), if_neg]
              rintro ⟨z, _⟩
              simp [h2] at z
          | _ => rfl
        · rw [if_neg hj, if_neg hj]; simp
    · rw [doIn3, formed3, manyT]
      by_cases hk : k = kDo
      · simp [hk]
      · simp only [hk, if_false, ho8]
        by_cases hj : joints.contains k = true
        · rw [if_pos hj, if_pos hj]; simp
        · rw [if_neg hj, if_neg hj]
          by_cases ht : k = kTimes
          · rw [if_pos ht, if_pos ht, ih t (o + 1) l tk (by omega) (by omega)]
            cases wholeD x 2 5 <;> simp
          · rw [if_neg ht, if_neg ht]
            by_cases hu : k = kUnless
            · rw [if_pos hu, if_pos hu]
              cases x with
              | str s =>
                simp only
                rw [ih t (o + 1) l (tk ++ [s]) (by omega) (by omega)]
                by_cases c : (callNameD (.str s) && !tk.contains s) = true
                · simp only [c, if_true, Bool.true_and]
                · rw [Bool.not_eq_true] at c
                  simp only [c, Bool.false_and, Bool.false_eq_true, if_false, false_and]
              | _ => simp
            · rw [if_neg hu, if_neg hu]; simp
    · rw [doIn_no h h', formed_no h h']; simp
/-- the program's judgement -/
def taskP (v : D) : Bool := (doIn v 0 10 []).isSome
/-- the law's judgement -/
def taskL (v : D) : Bool := formed 9 v [] && decide (manyT 9 v ≤ 10)
theorem task_same (v : D) : taskP v = taskL v := by
  unfold taskP taskL
  rw [do_is 8 v 0 10 [] (by omega) (by omega), show 8 + 1 = 9 from rfl]
  by_cases h : formed 9 v [] = true
  · by_cases h2 : manyT 9 v ≤ 10
    · rw [if_pos ⟨h, by omega⟩]; simp [h, h2]
    · rw [if_neg fun z => h2 (by omega)]; simp [h2]
  · rw [if_neg fun z => h z.1]; simp [h]
end Tk
end
section
set_option linter.all false
set_option maxRecDepth 10000
/-! DoneDef: when tasks are done: the program's steps and the law's look, and that they are one. -/
namespace Dn
open PySem PyE
abbrev Call := List Nat
inductive Tsk where
  | one (c : Call) | all (ps : List Tsk) | any (ps : List Tsk) | row (ps : List Tsk) | times (n : Nat) (t : Tsk) | unl (c : Call) (t : Tsk)
mutual
def Tsk.d (t : Tsk) : D := match t with
  | .one c => .tup [.str Tk.kDo, .str c]
  | .all ps => .tup [.str [97, 108, 108], .tup (ds ps)]
  | .any ps => .tup [.str [97, 110, 121], .tup (ds ps)]
  | .row ps => .tup [.str [114, 111, 119], .tup (ds ps)]
  | .times n t => .tup [.str Tk.kTimes, .int n, t.d]
  | .unl c t => .tup [.str Tk.kUnless, .str c, t.d]
def ds (ps : List Tsk) : List D := match ps with
  | [] => []
  | p :: r => p.d :: ds r
end
theorem ds_map (ps : List Tsk) : ds ps = ps.map Tsk.d := by
  induction ps with
  | nil => rfl
  | cons p r ih => rw [ds, ih]; rfl
mutual
/-- rows have parts -/
def Tsk.ok (t : Tsk) : Bool := match t with
  | .one _ => true
  | .all ps => (!ps.isEmpty && decide (ps.length ≤ 6)) && oks ps
  | .any ps => (!ps.isEmpty && decide (ps.length ≤ 6)) && oks ps
  | .row ps => (!ps.isEmpty && decide (ps.length ≤ 6)) && oks ps
  | .times n t => decide (2 ≤ n ∧ n ≤ 5) && t.ok
  | .unl _ t => t.ok
def oks (ps : List Tsk) : Bool := match ps with
  | [] => true
  | p :: r => p.ok && oks r
end
theorem oks_iff (ps : List Tsk) : oks ps = true ↔ ∀ p ∈ ps, p.ok = true := by
  induction ps with
  | nil => simp [oks]
  | cons p r ih => rw [oks, Bool.and_eq_true, ih]; simp
mutual
/-- how a task begins -/
def begun (t : Tsk) : D := match t with
  | .one _ => .int 0
  | .all ps => .tup (beguns ps)
  | .any ps => .tup (beguns ps)
  | .row ps => .tup [.int 0, begun1 ps]
  | .times _ t => .tup [.int 0, begun t]
  | .unl _ t => begun t
def beguns (ps : List Tsk) : List D := match ps with
  | [] => []
  | p :: r => begun p :: beguns r
def begun1 (ps : List Tsk) : D := match ps with
  | [] => .non
  | p :: _ => begun p
end
mutual
/-- one call more; None: it is done -/
def stp (t : Tsk) (s : D) (c : Call) : D := match t with
  | .one k => if c = k then .non else .int 0
  | .all ps => match s with
    | .tup os => if (stepZ ps os c).all D.isNon then .non else .tup (stepZ ps os c)
    | _ => .non
  | .any ps => match s with
    | .tup os => if (stepZ ps os c).any D.isNon then .non else .tup (stepZ ps os c)
    | _ => .non
  | .row ps => match s with
    | .tup [.int i, now] => if (stepR ps i.toNat now c).isNon then (match ps[i.toNat + 1]? with | some p => .tup [.int (i + 1), begun p] | none => .non) else .tup [.int i, stepR ps i.toNat now c]
    | _ => .non
  | .times n t => match s with
    | .tup [.int i, now] => if (stp t now c).isNon then (if i + 1 < n then .tup [.int (i + 1), begun t] else .non) else .tup [.int i, stp t now c]
    | _ => .non
  | .unl k t => if c = k then begun t else stp t s c
def stepZ (ps : List Tsk) (os : List D) (c : Call) : List D := match ps, os with
  | p :: ps, o :: os => (if o.isNon then .non else stp p o c) :: stepZ ps os c
  | _, _ => []
def stepR (ps : List Tsk) (i : Nat) (now : D) (c : Call) : D := match ps with
  | [] => .non
  | p :: ps => match i with
    | 0 => stp p now c
    | i + 1 => stepR ps i now c
end
theorem stepR_get : ∀ (ps : List Tsk) (i : Nat) (now : D) (c : Call) (p : Tsk), ps[i]? = some p → stepR ps i now c = stp p now c
  | [], i, now, c, p, h => by simp at h
  | q :: ps, 0, now, c, p, h => by simp at h; subst h; rfl
  | q :: ps, i + 1, now, c, p, h => by simp at h; exact stepR_get ps i now c p h
/-- behind how many calls it is done -/
def runT (t : Tsk) : D → List Call → Option Nat
  | _, [] => none
  | s, c :: r => if (stp t s c).isNon then some 1 else (runT t (stp t s c) r).map (· + 1)
theorem run_pos {t : Tsk} : ∀ {s : D} {w : List Call} {k : Nat}, runT t s w = some k → 1 ≤ k ∧ k ≤ w.length
  | s, [], k, h => by cases h
  | s, c :: r, k, h => by
    rw [runT] at h
    split at h
    · cases h; simp
    · obtain ⟨j, h1, rfl⟩ := Option.map_eq_some_iff.mp h
      have := run_pos h1
      simp; omega
/-! the law's look -/
def maxO : List (Option Nat) → Option Nat
  | [] => some 0
  | none :: _ => none
  | some a :: r => (maxO r).map (max a)
def minO : List (Option Nat) → Option Nat
  | [] => none
  | none :: r => minO r
  | some a :: r => match minO r with
    | some b => some (min a b)
    | none => some a
def seqL : List (List Call → Option Nat) → List Call → Option Nat
  | [], _ => some 0
  | f :: fs, w => match f w with
    | none => none
    | some k => (seqL fs (w.drop k)).map (· + k)
def unlL (f : List Call → Option Nat) (k : Call) : List Call → List Call → Option Nat
  | pre, [] => f pre
  | pre, c :: r => if c = k then (match f pre with | some m => some m | none => (unlL f k [] r).map (· + (pre.length + 1))) else unlL f k (pre ++ [c]) r
mutual
def L (t : Tsk) : List Call → Option Nat := match t with
  | .one k => fun w => (w.findIdx? fun c => decide (c = k)).map (· + 1)
  | .all ps => fun w => maxO ((Lfs ps).map fun f => f w)
  | .any ps => fun w => minO ((Lfs ps).map fun f => f w)
  | .row ps => fun w => seqL (Lfs ps) w
  | .times n t => fun w => seqL (List.replicate n (L t)) w
  | .unl k t => fun w => unlL (L t) k [] w
def Lfs (ps : List Tsk) : List (List Call → Option Nat) := match ps with
  | [] => []
  | p :: r => L p :: Lfs r
end
theorem Lfs_map (ps : List Tsk) : Lfs ps = ps.map L := by
  induction ps with
  | nil => rfl
  | cons p r ih => rw [Lfs, ih]; rfl
/-! both are one -/
theorem begun_not : ∀ t : Tsk, t.ok = true → (begun t).isNon = false
  | .one _, _ => rfl
  | .all _, _ => rfl
  | .any _, _ => rfl
  | .row _, _ => rfl
  | .times _ _, _ => rfl
  | .unl _ t, h => by rw [begun]; exact begun_not t (by rw [Tsk.ok] at h; exact h)
theorem one_run (k : Call) : ∀ (s : D) (w : List Call), runT (.one k) s w = (w.findIdx? fun c => decide (c = k)).map (· + 1)
  | s, [] => rfl
  | s, c :: r => by
    rw [runT, List.findIdx?_cons]
    by_cases h : c = k
    · simp [stp, h, D.isNon]
    · simp only [stp, h, if_false, D.isNon, decide_false, one_run k (.int 0) r, Option.map_map, Bool.false_eq_true]
/-- the parts' values: those that are done have none to come -/
def vals : List Tsk → List D → List Call → List (Option Nat)
  | p :: ps, o :: os, w => (if o.isNon then some 0 else runT p o w) :: vals ps os w
  | _, _, _ => []
def mx (l : List (Option Nat)) : Nat := l.foldr (fun o m => max (o.getD 0) m) 0
def asom (l : List (Option Nat)) : Bool := l.all Option.isSome
theorem maxO_cons (a : Nat) (r : List (Option Nat)) : maxO (some a :: r) = (maxO r).map (max a) := rfl
theorem maxO_is (l : List (Option Nat)) : maxO l = if asom l then some (mx l) else none := by
  induction l with
  | nil => rfl
  | cons o r ih =>
    cases o with
    | none => simp [asom, maxO]
    | some a =>
      rw [maxO_cons, ih]
      have e : asom (some a :: r) = asom r := by simp [asom]
      rw [e]
      cases asom r <;> rfl
theorem vals_step (c : Call) (r : List Call) : ∀ (ps : List Tsk) (os : List D),
    asom (vals ps os (c :: r)) = asom (vals ps (stepZ ps os c) r) ∧
    (asom (vals ps (stepZ ps os c) r) = true → mx (vals ps os (c :: r)) ≤ mx (vals ps (stepZ ps os c) r) + 1 ∧ (1 ≤ mx (vals ps (stepZ ps os c) r) → mx (vals ps os (c :: r)) = mx (vals ps (stepZ ps os c) r) + 1))
  | [], os => by simp [vals, stepZ, asom, mx]
  | p :: ps, [] => by simp [vals, stepZ, asom, mx]
  | p :: ps, o :: os => by
    obtain ⟨i1, i2⟩ := vals_step c r ps os
    rw [stepZ, vals, vals]
    by_cases ho : o.isNon = true
    · simp only [ho, if_true, show D.isNon .non = true from rfl]
      refine ⟨by simp only [asom, List.all_cons] at i1 ⊢; rw [i1]; try rfl, fun h => ?_⟩
      have h' : asom (vals ps (stepZ ps os c) r) = true := by simp only [asom, List.all_cons, Bool.and_eq_true] at h; exact h.2
      have := i2 h'
      simp only [mx, List.foldr_cons, Option.getD_some] at this ⊢
      omega
    · rw [Bool.not_eq_true] at ho
      simp only [ho, if_false, Bool.false_eq_true, runT]
      by_cases hs : (stp p o c).isNon = true
      · simp only [hs, if_true]
        refine ⟨by simp only [asom, List.all_cons] at i1 ⊢; rw [i1]; try rfl, fun h => ?_⟩
        have h' : asom (vals ps (stepZ ps os c) r) = true := by simp only [asom, List.all_cons, Bool.and_eq_true] at h; exact h.2
        have := i2 h'
        simp only [mx, List.foldr_cons, Option.getD_some] at this ⊢
        omega
      · rw [Bool.not_eq_true] at hs
        simp only [hs, if_false, Bool.false_eq_true]
        cases hr : runT p (stp p o c) r with
        | none => simp [asom]
        | some k =>
          have hk := run_pos hr
          refine ⟨by simp only [asom, List.all_cons] at i1 ⊢; rw [i1]; try rfl, fun h => ?_⟩
          have h' : asom (vals ps (stepZ ps os c) r) = true := by simp only [asom, List.all_cons, Bool.and_eq_true] at h; exact h.2
          have := i2 h'
          simp only [mx, List.foldr_cons, Option.getD_some, Option.map_some] at this ⊢
          omega
theorem stepZ_len (c : Call) : ∀ (ps : List Tsk) (os : List D), os.length = ps.length → (stepZ ps os c).length = ps.length
  | [], os, h => by cases os <;> simp_all [stepZ]
  | p :: ps, [], h => by simp at h
  | p :: ps, o :: os, h => by rw [stepZ, List.length_cons, stepZ_len c ps os (by simpa using h)]; rfl
theorem vals_nil : ∀ (ps : List Tsk) (os : List D), os.length = ps.length → os.all D.isNon = false → asom (vals ps os []) = false
  | [], os, h, h2 => by cases os <;> simp_all
  | p :: ps, [], h, h2 => by simp at h
  | p :: ps, o :: os, h, h2 => by
    rw [vals]
    by_cases ho : o.isNon = true
    · have := vals_nil ps os (by simpa using h) (by simpa [ho] using h2)
      simp only [asom, List.all_cons] at this ⊢
      rw [this]; simp
    · rw [Bool.not_eq_true] at ho
      simp [ho, runT, asom]
theorem vals_done : ∀ (ps : List Tsk) (os : List D) (w : List Call), os.length = ps.length → os.all D.isNon = true → asom (vals ps os w) = true ∧ mx (vals ps os w) = 0
  | [], os, w, h, h2 => by cases os <;> simp_all [vals, asom, mx]
  | p :: ps, [], w, h, h2 => by simp at h
  | p :: ps, o :: os, w, h, h2 => by
    simp only [List.all_cons, Bool.and_eq_true] at h2
    have := vals_done ps os w (by simpa using h) h2.2
    rw [vals]
    simp only [h2.1, if_true, asom, mx, List.all_cons, List.foldr_cons, Option.getD_some] at this ⊢
    simp [this]
theorem mx_pos : ∀ (ps : List Tsk) (os : List D) (w : List Call), os.length = ps.length → os.all D.isNon = false → asom (vals ps os w) = true → 1 ≤ mx (vals ps os w)
  | [], os, w, h, h2, h3 => by cases os <;> simp_all
  | p :: ps, [], w, h, h2, h3 => by simp at h
  | p :: ps, o :: os, w, h, h2, h3 => by
    rw [vals] at h3 ⊢
    by_cases ho : o.isNon = true
    · simp only [ho, if_true, asom, mx, List.all_cons, List.foldr_cons, Option.getD_some, Bool.and_eq_true, Bool.true_and] at h2 h3 ⊢
      have := mx_pos ps os w (by simpa using h) h2 h3.2
      simp only [mx] at this
      omega
    · rw [Bool.not_eq_true] at ho
      simp only [ho, if_false, Bool.false_eq_true] at h3 ⊢
      cases hr : runT p o w with
      | none => rw [hr] at h3; simp [asom] at h3
      | some k =>
        have := run_pos hr
        simp only [mx, List.foldr_cons, Option.getD_some]
        omega
theorem all_run (ps : List Tsk) : ∀ (w : List Call) (os : List D), os.length = ps.length → os.all D.isNon = false → runT (.all ps) (.tup os) w = maxO (vals ps os w)
  | [], os, h, h2 => by rw [maxO_is, vals_nil ps os h h2]; rfl
  | c :: r, os, h, h2 => by
    rw [runT]
    simp only [stp]
    have hl := stepZ_len c ps os h
    obtain ⟨i1, i2⟩ := vals_step c r ps os
    by_cases ha : (stepZ ps os c).all D.isNon = true
    · obtain ⟨d1, d2⟩ := vals_done ps _ r hl ha
      rw [maxO_is, i1, d1]
      have hb := (i2 d1).1
      have hp := mx_pos ps os (c :: r) h h2 (by rw [i1, d1])
      simp only [ha, if_true, D.isNon]
      congr 1
      omega
    · simp only [ha, if_false, D.isNon, Bool.false_eq_true]
      rw [Bool.not_eq_true] at ha
      rw [all_run ps r _ hl ha, maxO_is, maxO_is, i1]
      cases hs : asom (vals ps (stepZ ps os c) r) with
      | false => rfl
      | true =>
        have := (i2 hs).2 (mx_pos ps _ r hl ha hs)
        simp [this]
theorem all_begun (ps : List Tsk) (h : ps ≠ []) (hok : ∀ p ∈ ps, p.ok = true) (ih : ∀ p ∈ ps, ∀ w, runT p (begun p) w = L p w) (w : List Call) : runT (.all ps) (begun (.all ps)) w = L (.all ps) w := by
  have hb : ∀ l : List Tsk, beguns l = l.map begun := fun l => by
    induction l with
    | nil => rfl
    | cons p r ih => rw [beguns, ih]; rfl
  have hv : ∀ l : List Tsk, (∀ p ∈ l, p.ok = true) → (∀ p ∈ l, ∀ w, runT p (begun p) w = L p w) → vals l (beguns l) w = (Lfs l).map fun f => f w := fun l => by
    induction l with
    | nil => intros; rfl
    | cons p r ih2 =>
      intro h1 h2
      rw [beguns, vals, Lfs, begun_not p (h1 p (by simp)), h2 p (by simp), ih2 (fun q hq => h1 q (List.mem_cons_of_mem _ hq)) fun q hq => h2 q (List.mem_cons_of_mem _ hq)]
      rfl
  rw [begun, all_run ps w _ (by rw [hb, List.length_map]), hv ps hok ih]
  · rfl
  · match ps, h with
    | p :: r, _ => rw [beguns, List.all_cons, begun_not p (hok p (by simp))]; rfl
/-- any -/
def valsA : List Tsk → List D → List Call → List (Option Nat)
  | p :: ps, o :: os, w => runT p o w :: valsA ps os w
  | _, _, _ => []
theorem isNon_tup (l : List D) : D.isNon (.tup l) = false := rfl
theorem isNon_non : D.isNon .non = true := rfl
theorem minO_map : ∀ l : List (Option Nat), minO (l.map (Option.map (· + 1))) = (minO l).map (· + 1)
  | [] => rfl
  | none :: r => by simp [minO, minO_map r]
  | some a :: r => by
    simp only [List.map_cons, Option.map_some, minO, minO_map r]
    cases minO r with
    | none => rfl
    | some b => simp only [Option.map_some]; congr 1; omega
theorem minO_ge : ∀ l : List (Option Nat), (∀ o ∈ l, ∀ a, o = some a → 1 ≤ a) → ∀ b, minO l = some b → 1 ≤ b
  | [], _, b, h => by cases h
  | none :: r, h1, b, h => minO_ge r (fun o ho => h1 o (List.mem_cons_of_mem _ ho)) b h
  | some a :: r, h1, b, h => by
    have ha := h1 (some a) List.mem_cons_self a rfl
    rw [minO] at h
    cases hr : minO r with
    | none => rw [hr] at h; cases h; exact ha
    | some c =>
      rw [hr] at h
      cases h
      have := minO_ge r (fun o ho => h1 o (List.mem_cons_of_mem _ ho)) c hr
      omega
theorem minO_one : ∀ l : List (Option Nat), (∀ o ∈ l, ∀ a, o = some a → 1 ≤ a) → some 1 ∈ l → minO l = some 1
  | [], _, h => by cases h
  | none :: r, h1, h => by
    rw [minO]
    rcases List.mem_cons.mp h with h | h
    · cases h
    · exact minO_one r (fun o ho => h1 o (List.mem_cons_of_mem _ ho)) h
  | some a :: r, h1, h => by
    have ha := h1 (some a) List.mem_cons_self a rfl
    rw [minO]
    rcases List.mem_cons.mp h with h | h
    · cases h
      cases hr : minO r with
      | none => rfl
      | some b =>
        by_cases hb : 1 ≤ b
        · show some (min 1 b) = some 1
          rw [Nat.min_eq_left hb]
        · exact absurd hb (by
            have := minO_ge r (fun o ho => h1 o (List.mem_cons_of_mem _ ho)) b hr
            omega)
    · rw [minO_one r (fun o ho => h1 o (List.mem_cons_of_mem _ ho)) h]
      show some (min a 1) = some 1
      rw [Nat.min_eq_right ha]
theorem minO_none : ∀ l : List (Option Nat), (∀ o ∈ l, o = none) → minO l = none
  | [], _ => rfl
  | o :: r, h => by
    have := h o List.mem_cons_self
    subst this
    exact minO_none r fun x hx => h x (List.mem_cons_of_mem _ hx)
theorem valsA_nil : ∀ (ps : List Tsk) (os : List D), ∀ o ∈ valsA ps os [], o = none
  | [], os, o, h => by simp [valsA] at h
  | p :: ps, [], o, h => by simp [valsA] at h
  | p :: ps, q :: os, o, h => by
    rw [valsA] at h
    rcases List.mem_cons.mp h with h | h
    · exact h
    · exact valsA_nil ps os o h
theorem valsA_pos : ∀ (ps : List Tsk) (os : List D) (w : List Call), ∀ o ∈ valsA ps os w, ∀ a, o = some a → 1 ≤ a
  | [], os, w, o, h, a, e => by simp [valsA] at h
  | p :: ps, [], w, o, h, a, e => by simp [valsA] at h
  | p :: ps, q :: os, w, o, h, a, e => by
    rw [valsA] at h
    rcases List.mem_cons.mp h with h | h
    · exact (run_pos (h.symm.trans e)).1
    · exact valsA_pos ps os w o h a e
theorem valsA_hit (c : Call) (r : List Call) : ∀ (ps : List Tsk) (os : List D), os.length = ps.length → os.any D.isNon = false → (stepZ ps os c).any D.isNon = true → some 1 ∈ valsA ps os (c :: r)
  | [], os, h, _, h2 => by simp [stepZ] at h2
  | p :: ps, [], h, _, h2 => by simp at h
  | p :: ps, o :: os, h, h1, h2 => by
    rw [List.any_cons, Bool.or_eq_false_iff] at h1
    rw [stepZ, List.any_cons, Bool.or_eq_true, h1.1] at h2
    rw [valsA, runT]
    rcases h2 with h2 | h2
    · simp only [Bool.false_eq_true, if_false] at h2
      simp [h2]
    · exact List.mem_cons_of_mem _ (valsA_hit c r ps os (by simpa using h) h1.2 h2)
theorem valsA_on (c : Call) (r : List Call) : ∀ (ps : List Tsk) (os : List D), os.length = ps.length → os.any D.isNon = false → (stepZ ps os c).any D.isNon = false → valsA ps os (c :: r) = (valsA ps (stepZ ps os c) r).map (Option.map (· + 1))
  | [], os, h, _, h2 => rfl
  | p :: ps, [], h, _, h2 => by simp at h
  | p :: ps, o :: os, h, h1, h2 => by
    rw [List.any_cons, Bool.or_eq_false_iff] at h1
    rw [stepZ, List.any_cons, Bool.or_eq_false_iff, h1.1] at h2
    simp only [Bool.false_eq_true, if_false] at h2
    rw [stepZ, h1.1]
    simp only [Bool.false_eq_true, if_false]
    rw [valsA, runT, valsA, List.map_cons, h2.1, valsA_on c r ps os (by simpa using h) h1.2 h2.2]
    rfl
theorem any_run (ps : List Tsk) : ∀ (w : List Call) (os : List D), os.length = ps.length → os.any D.isNon = false → runT (.any ps) (.tup os) w = minO (valsA ps os w)
  | [], os, h, h2 => by rw [minO_none _ (valsA_nil ps os)]; rfl
  | c :: r, os, h, h2 => by
    rw [runT]
    simp only [stp]
    by_cases ha : (stepZ ps os c).any D.isNon = true
    · simp only [ha, if_true, isNon_non]
      exact (minO_one _ (valsA_pos ps os _) (valsA_hit c r ps os h h2 ha)).symm
    · simp only [ha, if_false, isNon_tup, Bool.false_eq_true]
      rw [Bool.not_eq_true] at ha
      rw [any_run ps r _ (stepZ_len c ps os h) ha, valsA_on c r ps os h h2 ha, minO_map]
theorem any_begun (ps : List Tsk) (hok : ∀ p ∈ ps, p.ok = true) (ih : ∀ p ∈ ps, ∀ w, runT p (begun p) w = L p w) (w : List Call) : runT (.any ps) (begun (.any ps)) w = L (.any ps) w := by
  have hb : ∀ l : List Tsk, (beguns l).length = l.length := fun l => by
    induction l with
    | nil => rfl
    | cons p r ih => rw [beguns, List.length_cons, ih]; rfl
  have hv : ∀ l : List Tsk, (∀ p ∈ l, ∀ w, runT p (begun p) w = L p w) → valsA l (beguns l) w = (Lfs l).map fun f => f w := fun l => by
    induction l with
    | nil => intros; rfl
    | cons p r ih2 =>
      intro h2
      rw [beguns, valsA, Lfs, h2 p (by simp), ih2 fun q hq => h2 q (List.mem_cons_of_mem _ hq)]
      rfl
  have hn : ∀ l : List Tsk, (∀ p ∈ l, p.ok = true) → (beguns l).any D.isNon = false := fun l => by
    induction l with
    | nil => intros; rfl
    | cons p r ih2 =>
      intro h2
      rw [beguns, List.any_cons, begun_not p (h2 p (by simp)), ih2 fun q hq => h2 q (List.mem_cons_of_mem _ hq)]; rfl
  rw [begun, any_run ps w _ (hb ps) (hn ps hok), hv ps ih]
  rfl
/-- rows -/
theorem row_run (ps : List Tsk) (hok : ∀ p ∈ ps, p.ok = true) (ih : ∀ p ∈ ps, ∀ w, runT p (begun p) w = L p w) : ∀ (w : List Call) (i : Nat) (p : Tsk) (s : D), ps[i]? = some p →
    runT (.row ps) (.tup [.int i, s]) w = match runT p s w with | none => none | some k => (seqL (Lfs (ps.drop (i + 1))) (w.drop k)).map (· + k)
  | [], i, p, s, h => rfl
  | c :: r, i, p, s, h => by
    rw [runT, runT]
    simp only [stp, Int.toNat_natCast, stepR_get ps i s c p h]
    by_cases hs : (stp p s c).isNon = true
    · simp only [hs, if_true]
      cases hq : ps[i + 1]? with
      | none =>
        have : ps.drop (i + 1) = [] := List.drop_eq_nil_iff.mpr (List.getElem?_eq_none_iff.mp hq)
        rw [this]
        simp [isNon_non, Lfs, seqL]
      | some q =>
        have hdrop : ps.drop (i + 1) = q :: ps.drop (i + 1 + 1) := by
          obtain ⟨hl, rfl⟩ := List.getElem?_eq_some_iff.mp hq
          rw [List.drop_eq_getElem_cons hl]
        have hmem : q ∈ ps := List.mem_of_getElem? hq
        have := row_run ps hok ih r (i + 1) q (begun q) hq
        rw [show ((i + 1 : Nat) : Int) = (i : Int) + 1 from rfl] at this
        simp only [isNon_tup, Bool.false_eq_true, if_false]
        rw [this, ih q hmem r, hdrop, Lfs, seqL, List.drop_succ_cons, List.drop_zero]
    · simp only [hs, if_false, isNon_tup, Bool.false_eq_true]
      rw [row_run ps hok ih r i p _ h]
      cases runT p (stp p s c) r with
      | none => rfl
      | some k => simp [Function.comp_def, Nat.add_assoc]
theorem row_begun (ps : List Tsk) (hne : ps ≠ []) (hok : ∀ p ∈ ps, p.ok = true) (ih : ∀ p ∈ ps, ∀ w, runT p (begun p) w = L p w) (w : List Call) : runT (.row ps) (begun (.row ps)) w = L (.row ps) w := by
  match ps, hne with
  | p :: r, _ =>
    rw [begun, begun1]
    have := row_run (p :: r) hok ih w 0 p (begun p) rfl
    rw [show ((0 : Nat) : Int) = 0 from rfl] at this
    rw [this, ih p (by simp) w]
    rfl
/-- so many times: a row -/
theorem times_step (n : Nat) (t : Tsk) (i : Nat) (s : D) (c : Call) (hi : i < n) : stp (.times n t) (.tup [.int i, s]) c = stp (.row (List.replicate n t)) (.tup [.int i, s]) c := by
  have h : (List.replicate n t)[i]? = some t := by rw [List.getElem?_replicate, if_pos hi]
  simp only [stp, Int.toNat_natCast, stepR_get _ i s c t h, List.getElem?_replicate]
  by_cases hs : (stp t s c).isNon = true
  · simp only [hs, if_true]
    by_cases hn : i + 1 < n
    · have : (i : Int) + 1 < n := by omega
      simp [hn, this]
    · have : ¬ (i : Int) + 1 < n := by omega
      simp [hn, this]
  · simp only [hs, if_false, Bool.false_eq_true]
theorem times_run (n : Nat) (t : Tsk) : ∀ (w : List Call) (i : Nat) (s : D), i < n → runT (.times n t) (.tup [.int i, s]) w = runT (.row (List.replicate n t)) (.tup [.int i, s]) w
  | [], i, s, hi => rfl
  | c :: r, i, s, hi => by
    rw [runT, runT, times_step n t i s c hi]
    have h : (List.replicate n t)[i]? = some t := by rw [List.getElem?_replicate, if_pos hi]
    simp only [stp, Int.toNat_natCast, stepR_get _ i s c t h]
    by_cases hs : (stp t s c).isNon = true
    · simp only [hs, if_true, List.getElem?_replicate]
      by_cases hn : i + 1 < n
      · simp only [hn, if_true, isNon_tup, Bool.false_eq_true, if_false]
        have := times_run n t r (i + 1) (begun t) hn
        rw [show ((i + 1 : Nat) : Int) = (i : Int) + 1 from rfl] at this
        rw [this]
      · simp [hn, isNon_non]
    · simp only [hs, if_false, isNon_tup, Bool.false_eq_true]
      rw [times_run n t r i _ hi]
theorem times_begun (n : Nat) (t : Tsk) (hn : 1 ≤ n) (hok : t.ok = true) (ih : ∀ w, runT t (begun t) w = L t w) (w : List Call) : runT (.times n t) (begun (.times n t)) w = L (.times n t) w := by
  have hmem : ∀ p ∈ List.replicate n t, p = t := fun p hp => List.eq_of_mem_replicate hp
  have h1 := row_begun (List.replicate n t) (by intro e; have := congrArg List.length e; simp at this; omega) (fun p hp => by rw [hmem p hp]; exact hok) (fun p hp => by rw [hmem p hp]; exact ih) w
  have h2 : begun (.row (List.replicate n t)) = .tup [.int 0, begun t] := by
    cases n with
    | zero => omega
    | succ n => rw [List.replicate_succ]; rfl
  rw [h2] at h1
  have h3 := times_run n t w 0 (begun t) (by omega)
  rw [show ((0 : Nat) : Int) = 0 from rfl] at h3
  rw [show begun (.times n t) = .tup [.int 0, begun t] from rfl, h3, h1]
  show seqL (Lfs (List.replicate n t)) w = seqL (List.replicate n (L t)) w
  rw [Lfs_map, List.map_replicate]
/-- unless -/
def stepsN (t : Tsk) (s : D) (w : List Call) : D := w.foldl (stp t) s
theorem run_app (t : Tsk) : ∀ (pre : List Call) (s : D) (w : List Call), runT t s (pre ++ w) = match runT t s pre with | some k => some k | none => (runT t (stepsN t s pre) w).map (· + pre.length)
  | [], s, w => by simp [runT, stepsN]
  | c :: pre, s, w => by
    rw [List.cons_append, runT, runT]
    by_cases hs : (stp t s c).isNon = true
    · simp [hs]
    · simp only [hs, if_false, Bool.false_eq_true]
      rw [run_app t pre]
      cases runT t (stp t s c) pre with
      | some k => rfl
      | none =>
        simp only [Option.map_map, Option.map_none, stepsN, List.foldl_cons, List.length_cons]
        congr 1
theorem unlL_hit (t : Tsk) (k : Call) (ih : ∀ w, runT t (begun t) w = L t w) (m : Nat) : ∀ (w pre : List Call), runT t (begun t) pre = some m → unlL (L t) k pre w = some m
  | [], pre, h => by rw [unlL, ← ih]; exact h
  | c :: r, pre, h => by
    rw [unlL]
    split
    · rw [← ih, h]
    · refine unlL_hit t k ih m r (pre ++ [c]) ?_
      rw [run_app, h]
theorem unl_run (t : Tsk) (k : Call) (hok : t.ok = true) (ih : ∀ w, runT t (begun t) w = L t w) : ∀ (w pre : List Call), runT t (begun t) pre = none →
    unlL (L t) k pre w = (runT (.unl k t) (stepsN t (begun t) pre) w).map (· + pre.length)
  | [], pre, h => by rw [unlL, ← ih, h]; rfl
  | c :: r, pre, h => by
    rw [unlL, runT]
    by_cases hc : c = k
    · simp only [hc, if_true, stp, begun_not t hok, Bool.false_eq_true, if_false]
      rw [← ih, h]
      simp only
      have := unl_run t k hok ih r [] rfl
      rw [this]
      simp only [Option.map_map, stepsN, List.foldl_nil, List.length_nil, Nat.add_zero]
      congr 1
      funext x
      simp only [Function.comp_apply]; omega
    · simp only [hc, if_false, stp]
      by_cases hs : (stp t (stepsN t (begun t) pre) c).isNon = true
      · simp only [hs, if_true, Option.map_some]
        refine unlL_hit t k ih _ r (pre ++ [c]) ?_
        rw [run_app, h]
        simp [runT, hs]
      · simp only [hs, if_false, Bool.false_eq_true]
        have hrun : runT t (begun t) (pre ++ [c]) = none := by rw [run_app, h]; simp [runT, hs]
        rw [unl_run t k hok ih r (pre ++ [c]) hrun]
        have e : stepsN t (begun t) (pre ++ [c]) = stp t (stepsN t (begun t) pre) c := by simp [stepsN]
        rw [e, Option.map_map]
        congr 1
        funext x
        simp only [Function.comp_apply, List.length_append, List.length_singleton]; omega
mutual
theorem run_is (t : Tsk) (h : t.ok = true) : ∀ w, runT t (begun t) w = L t w := by
  match t with
  | .one k => intro w; rw [one_run]; rfl
  | .all ps =>
    rw [Tsk.ok, Bool.and_eq_true, oks_iff] at h
    exact all_begun ps (by intro e; rw [e] at h; exact absurd h.1 (by simp)) h.2 (run_are ps h.2)
  | .any ps =>
    rw [Tsk.ok, Bool.and_eq_true, oks_iff] at h
    exact any_begun ps h.2 (run_are ps h.2)
  | .row ps =>
    rw [Tsk.ok, Bool.and_eq_true, oks_iff] at h
    exact row_begun ps (by intro e; rw [e] at h; exact absurd h.1 (by simp)) h.2 (run_are ps h.2)
  | .times n t =>
    rw [Tsk.ok, Bool.and_eq_true, decide_eq_true_eq] at h
    exact times_begun n t (by omega) h.2 (run_is t h.2)
  | .unl k t =>
    rw [Tsk.ok] at h
    intro w
    have := unl_run t k h (run_is t h) w [] rfl
    show runT (.unl k t) (begun t) w = unlL (L t) k [] w
    rw [this]
    simp [stepsN]
theorem run_are (ps : List Tsk) (h : ∀ p ∈ ps, p.ok = true) : ∀ p ∈ ps, ∀ w, runT p (begun p) w = L p w := by
  match ps with
  | [] => intro p hp; cases hp
  | q :: r =>
    intro p hp
    rcases List.mem_cons.mp hp with e | hp
    · rw [e]; exact run_is q (h q List.mem_cons_self)
    · exact run_are r (fun x hx => h x (List.mem_cons_of_mem _ hx)) p hp
end
end Dn
end
section
set_option linter.all false
set_option autoImplicit false
set_option maxRecDepth 100000
/-! PyWp: loops by invariants; the store. -/
namespace PyE
open PySem
@[simp] theorem locked_nil (s : S) : locked [] s = true := rfl
theorem forL_cons (tg : D → S → R Unit) (body : S → R Fl) (lk : List (Rv × D)) (d : D) (r : List D) (s : S) : forL tg body lk (d :: r) s = ((tg d s).bind fun _ s => body s).bind fun f s => match f with
    | .brk => .ok .nx s
    | .ret d fr => .ok (.ret d fr) s
    | _ => if locked lk s then forL tg body lk r s else .stuck := by
  rw [forL]
  cases tg d s <;> rfl
/-- a loop that goes on to its end -/
theorem forL_ok {tg : D → S → R Unit} {body : S → R Fl} {lk : List (Rv × D)} (I : List D → S → Prop)
    (step : ∀ d r s, I (d :: r) s → ∃ s', (tg d s).bind (fun _ s => body s) = .ok .nx s' ∧ I r s' ∧ locked lk s' = true) :
    ∀ ds s, I ds s → ∃ s', forL tg body lk ds s = .ok .nx s' ∧ I [] s'
  | [], s, h => ⟨s, rfl, h⟩
  | d :: r, s, h => by
    obtain ⟨s1, e, h1, l⟩ := step d r s h
    obtain ⟨s2, e2, h2⟩ := forL_ok I step r s1 h1
    exact ⟨s2, by rw [forL_cons, e]; simp [l, e2], h2⟩
/-- a loop that may return -/
theorem forL_ret {tg : D → S → R Unit} {body : S → R Fl} {lk : List (Rv × D)} (I : List D → S → Prop) (Q : D → Bool → S → Prop)
    (step : ∀ d r s, I (d :: r) s → (∃ s', (tg d s).bind (fun _ s => body s) = .ok .nx s' ∧ I r s' ∧ locked lk s' = true) ∨ ∃ v fr s', (tg d s).bind (fun _ s => body s) = .ok (.ret v fr) s' ∧ Q v fr s') :
    ∀ ds s, I ds s → (∃ s', forL tg body lk ds s = .ok .nx s' ∧ I [] s') ∨ ∃ v fr s', forL tg body lk ds s = .ok (.ret v fr) s' ∧ Q v fr s'
  | [], s, h => .inl ⟨s, rfl, h⟩
  | d :: r, s, h => by
    rcases step d r s h with ⟨s1, e, h1, l⟩ | ⟨v, fr, s1, e, q⟩
    · rcases forL_ret I Q step r s1 h1 with ⟨s2, e2, h2⟩ | ⟨v, fr, s2, e2, h2⟩
      · exact .inl ⟨s2, by rw [forL_cons, e]; simp [l, e2], h2⟩
      · exact .inr ⟨v, fr, s2, by rw [forL_cons, e]; simp [l, e2], h2⟩
    · exact .inr ⟨v, fr, s1, by rw [forL_cons, e]; rfl, q⟩
/-- a while by a measure -/
theorem whl_ok {c : S → R Bool} {body : S → R Fl} (I : Nat → S → Prop) (Q : S → Prop)
    (step : ∀ n s, I n s → (∃ s', c s = .ok false s' ∧ Q s') ∨ ∃ s1 s' m, c s = .ok true s1 ∧ body s1 = .ok .nx s' ∧ m < n ∧ I m s') :
    ∀ fuel n s, I n s → n < fuel → ∃ s', whlN c body fuel s = .ok .nx s' ∧ Q s'
  | 0, n, s, h, hf => by omega
  | fuel + 1, n, s, h, hf => by
    rcases step n s h with ⟨s1, e, q⟩ | ⟨s1, s2, m, e, e2, hm, h2⟩
    · exact ⟨s1, by unfold whlN; rw [e]; rfl, q⟩
    · obtain ⟨s3, e3, q⟩ := whl_ok I Q step fuel m s2 h2 (by omega)
      exact ⟨s3, by unfold whlN; rw [e]; simp [e2, e3], q⟩
/-- one turn of a comprehension -/
def turnL {β : Type} (own : List Nat) (tg : D → S → R Unit) (test : S → R Bool) (elt : β → S → R β) (d : D) (acc : β) (s : S) : R β :=
  (tg d (wipeL own s)).bind fun _ s => (test s).bind fun b s => if b then elt acc s else .ok acc s
theorem compL_cons {β : Type} (own : List Nat) (tg : D → S → R Unit) (test : S → R Bool) (elt : β → S → R β) (lk : List (Rv × D)) (d : D) (r : List D) (acc : β) (s : S) :
    compL own tg test elt lk (d :: r) acc s = (turnL own tg test elt d acc s).bind fun acc s => if locked lk s then compL own tg test elt lk r acc s else .stuck := by
  unfold turnL
  rw [compL]
  cases tg d (wipeL own s) with
  | ok a s1 =>
    simp only [rb_ok]
    cases test s1 with
    | ok b s2 =>
      simp only [rb_ok]
      cases b <;> rfl
    | exc c vs s2 => rfl
    | stuck => rfl
  | exc c vs s2 => rfl
  | stuck => rfl
theorem compL_ok {β : Type} {own : List Nat} {tg : D → S → R Unit} {test : S → R Bool} {elt : β → S → R β} {lk : List (Rv × D)} (I : List D → β → S → Prop)
    (step : ∀ d r acc s, I (d :: r) acc s → ∃ acc' s', turnL own tg test elt d acc s = .ok acc' s' ∧ I r acc' s' ∧ locked lk s' = true) :
    ∀ ds acc s, I ds acc s → ∃ acc' s', compL own tg test elt lk ds acc s = .ok acc' s' ∧ I [] acc' s'
  | [], acc, s, h => ⟨acc, s, rfl, h⟩
  | d :: r, acc, s, h => by
    obtain ⟨a1, s1, e, h1, l⟩ := step d r acc s h
    obtain ⟨a2, s2, e2, h2⟩ := compL_ok I step r a1 s1 h1
    exact ⟨a2, s2, by rw [compL_cons, e]; simp [l, e2], h2⟩
@[simp] theorem rd_loc (s : S) (i : Nat) : rd s (.loc i) = match s.loc[i]? with
    | some (.own d) => some d
    | some (.fz d) => some d
    | _ => none := rfl
theorem two62 : (2 : Int) ^ 62 = 4611686018427387904 := by decide +kernel
theorem rng_if {α : Type} {n : Int} (h : 0 ≤ n ∧ n < 1000000) (a b : α) : (if -(2 ^ 62) ≤ n ∧ n < 2 ^ 62 then a else b) = a := by
  rw [two62]; exact if_pos ⟨by omega, by omega⟩
/-- what range() gives -/
def rngK (ds : List D) (s : S) : R (List D × List (Rv × D)) := match ds with
  | [.int n] => if -(2 ^ 62) ≤ n ∧ n < 2 ^ 62 then .ok ((List.range n.toNat).map fun (k : Nat) => D.int k, []) s else .stuck
  | [.int a, .int b] => if -(2 ^ 62) ≤ a ∧ a < 2 ^ 62 ∧ -(2 ^ 62) ≤ b ∧ b < 2 ^ 62 then .ok ((List.range (b - a).toNat).map fun (k : Nat) => D.int (a + k), []) s else .stuck
  | _ => .stuck
theorem it_rng (P : Pr) (es : List E) (s : S) : evIt P (.rng es) s = (evs P es s).bind rngK := by rw [evIt]; rfl
theorem it_seq (P : Pr) (e : E) (s : S) : evIt P (.seq e) s = (ev P e s).bind fun v s => R.of (walkD v s) s := by rw [evIt]
theorem rng_one {n : Int} (h : 0 ≤ n ∧ n < 1000000) (s : S) : rngK [.int n] s = .ok ((List.range n.toNat).map fun (k : Nat) => D.int k, []) s := by
  unfold rngK; exact rng_if h _ _
theorem rng_two {a b : Int} (h : 0 ≤ a ∧ a < 1000000) (h' : 0 ≤ b ∧ b < 1000000) (s : S) : rngK [.int a, .int b] s = .ok ((List.range (b - a).toNat).map fun (k : Nat) => D.int (a + k), []) s := by
  unfold rngK; simp only
  rw [two62]; exact if_pos ⟨by omega, by omega, by omega, by omega⟩
/-- what a def gives at its end -/
def endF (r : R Fl) : RF := match r with
  | .ok .nx s => .ok .non false s.st
  | .ok (.ret d fr) s => .ok d fr s.st
  | .exc c vs s => .exc c vs s.st
  | _ => .stuck
@[simp] theorem end_nx (s : S) : endF (.ok .nx s) = .ok .non false s.st := rfl
@[simp] theorem end_ret (d : D) (fr : Bool) (s : S) : endF (.ok (.ret d fr) s) = .ok d fr s.st := rfl
@[simp] theorem end_exc (c : Str) (vs : List D) (s : S) : endF (.exc c vs s) = .exc c vs s.st := rfl
theorem df_run (P : Pr) (d : Df) (as : List D) (st : List Ob) (h : as.length = d.pars) : d.run P as st = endF (exs P d.body ⟨as.map Slot.fz ++ List.replicate (d.names - d.pars) .emp, st⟩) := by
  unfold Df.run
  rw [h, Nat.sub_self, if_pos ⟨Nat.le_refl _, Nat.zero_le _⟩, Nat.sub_zero, List.drop_length, List.append_nil]
  rfl
/-- a call of a def -/
theorem pg_run (G : Pg) (k : Nat) (f : Str) (as : List D) (st : List Ob) {d : Df} (h : G.defs f = some d) (hl : as.length = d.pars) :
    (G.at (k + 1)).call f as st = endF (exs (G.at k) d.body ⟨as.map Slot.fz ++ List.replicate (d.names - d.pars) .emp, st⟩) := by
  rw [pg_call G k f as st h, df_run _ _ _ _ hl]
@[simp] theorem noExc_w {α : Type} (a : α) (s : S) : noExc (.ok a s : R α) = .ok a s := rfl
@[simp] theorem into_ok (d : D) (fr : Bool) (st : List Ob) (s : S) : (RF.ok d fr st).into s = .ok (.val d fr) { s with st := st } := rfl
@[simp] theorem set_at {α : Type} {l : List α} {p : Nat} {o o' : α} (h : l[p]? = some o) : (l.set p o')[p]? = some o' := by
  have := (List.getElem?_eq_some_iff.mp h).1
  simp [List.getElem?_set, this]
theorem de_ref_d {st : List Ob} {p : Nat} {kvs : List (D × D)} (h : st[p]? = some (.dct kvs)) : deref st (.ref p) = .dct kvs := by
  unfold deref; simp [h]
theorem de_ref_l {st : List Ob} {p : Nat} {xs : List D} (h : st[p]? = some (.lst xs)) : deref st (.ref p) = .lst xs := by
  unfold deref; simp [h]
end PyE
end
section
set_option linter.all false
set_option autoImplicit false
/-! PyEq: the evaluator's equations, for simp. -/
namespace PyE
open PySem
@[simp] theorem ev_e1 : type_of% @ev.eq_1 := by intros; first | (rw [ev.eq_1]; done) | (apply ev.eq_1 <;> assumption)
@[simp] theorem ev_e2 : type_of% @ev.eq_2 := by intros; first | (rw [ev.eq_2]; done) | (apply ev.eq_2 <;> assumption)
@[simp] theorem ev_e3 : type_of% @ev.eq_3 := by intros; first | (rw [ev.eq_3]; done) | (apply ev.eq_3 <;> assumption)
@[simp] theorem ev_e4 : type_of% @ev.eq_4 := by intros; first | (rw [ev.eq_4]; done) | (apply ev.eq_4 <;> assumption)
@[simp] theorem ev_e5 : type_of% @ev.eq_5 := by intros; first | (rw [ev.eq_5]; done) | (apply ev.eq_5 <;> assumption)
@[simp] theorem ev_e6 : type_of% @ev.eq_6 := by intros; first | (rw [ev.eq_6]; done) | (apply ev.eq_6 <;> assumption)
@[simp] theorem ev_e7 : type_of% @ev.eq_7 := by intros; first | (rw [ev.eq_7]; done) | (apply ev.eq_7 <;> assumption)
@[simp] theorem ev_e8 : type_of% @ev.eq_8 := by intros; first | (rw [ev.eq_8]; done) | (apply ev.eq_8 <;> assumption)
@[simp] theorem ev_e9 : type_of% @ev.eq_9 := by intros; first | (rw [ev.eq_9]; done) | (apply ev.eq_9 <;> assumption)
@[simp] theorem ev_e10 : type_of% @ev.eq_10 := by intros; first | (rw [ev.eq_10]; done) | (apply ev.eq_10 <;> assumption)
@[simp] theorem ev_e11 : type_of% @ev.eq_11 := by intros; first | (rw [ev.eq_11]; done) | (apply ev.eq_11 <;> assumption)
@[simp] theorem ev_e12 : type_of% @ev.eq_12 := by intros; first | (rw [ev.eq_12]; done) | (apply ev.eq_12 <;> assumption)
@[simp] theorem ev_e13 : type_of% @ev.eq_13 := by intros; first | (rw [ev.eq_13]; done) | (apply ev.eq_13 <;> assumption)
@[simp] theorem ev_e14 : type_of% @ev.eq_14 := by intros; first | (rw [ev.eq_14]; done) | (apply ev.eq_14 <;> assumption)
@[simp] theorem ev_e15 : type_of% @ev.eq_15 := by intros; first | (rw [ev.eq_15]; done) | (apply ev.eq_15 <;> assumption)
@[simp] theorem ev_e16 : type_of% @ev.eq_16 := by intros; first | (rw [ev.eq_16]; done) | (apply ev.eq_16 <;> assumption)
@[simp] theorem ev_e17 : type_of% @ev.eq_17 := by intros; first | (rw [ev.eq_17]; done) | (apply ev.eq_17 <;> assumption)
@[simp] theorem ev_e18 : type_of% @ev.eq_18 := by intros; first | (rw [ev.eq_18]; done) | (apply ev.eq_18 <;> assumption)
@[simp] theorem ev_e19 : type_of% @ev.eq_19 := by intros; first | (rw [ev.eq_19]; done) | (apply ev.eq_19 <;> assumption)
@[simp] theorem ev_e20 : type_of% @ev.eq_20 := by intros; first | (rw [ev.eq_20]; done) | (apply ev.eq_20 <;> assumption)
@[simp] theorem ev_e21 : type_of% @ev.eq_21 := by intros; first | (rw [ev.eq_21]; done) | (apply ev.eq_21 <;> assumption)
@[simp] theorem ev_e22 : type_of% @ev.eq_22 := by intros; first | (rw [ev.eq_22]; done) | (apply ev.eq_22 <;> assumption)
@[simp] theorem ev_e23 : type_of% @ev.eq_23 := by intros; first | (rw [ev.eq_23]; done) | (apply ev.eq_23 <;> assumption)
@[simp] theorem ev_e24 : type_of% @ev.eq_24 := by intros; first | (rw [ev.eq_24]; done) | (apply ev.eq_24 <;> assumption)
@[simp] theorem ev_e25 : type_of% @ev.eq_25 := by intros; first | (rw [ev.eq_25]; done) | (apply ev.eq_25 <;> assumption)
@[simp] theorem ev_e26 : type_of% @ev.eq_26 := by intros; first | (rw [ev.eq_26]; done) | (apply ev.eq_26 <;> assumption)
@[simp] theorem ev_e27 : type_of% @ev.eq_27 := by intros; first | (rw [ev.eq_27]; done) | (apply ev.eq_27 <;> assumption)
@[simp] theorem ev_e28 : type_of% @ev.eq_28 := by intros; first | (rw [ev.eq_28]; done) | (apply ev.eq_28 <;> assumption)
@[simp] theorem ev_e29 : type_of% @ev.eq_29 := by intros; first | (rw [ev.eq_29]; done) | (apply ev.eq_29 <;> assumption)
@[simp] theorem ev_e30 : type_of% @ev.eq_30 := by intros; first | (rw [ev.eq_30]; done) | (apply ev.eq_30 <;> assumption)
@[simp] theorem ev_e31 : type_of% @ev.eq_31 := by intros; first | (rw [ev.eq_31]; done) | (apply ev.eq_31 <;> assumption)
@[simp] theorem evs_e1 : type_of% @evs.eq_1 := by intros; first | (rw [evs.eq_1]; done) | (apply evs.eq_1 <;> assumption)
@[simp] theorem evs_e2 : type_of% @evs.eq_2 := by intros; first | (rw [evs.eq_2]; done) | (apply evs.eq_2 <;> assumption)
@[simp] theorem evr_e1 : type_of% @evr.eq_1 := by intros; first | (rw [evr.eq_1]; done) | (apply evr.eq_1 <;> assumption)
@[simp] theorem evr_e2 : type_of% @evr.eq_2 := by intros; first | (rw [evr.eq_2]; done) | (apply evr.eq_2 <;> assumption)
@[simp] theorem evAnd_e1 : type_of% @evAnd.eq_1 := by intros; first | (rw [evAnd.eq_1]; done) | (apply evAnd.eq_1 <;> assumption)
@[simp] theorem evAnd_e2 : type_of% @evAnd.eq_2 := by intros; first | (rw [evAnd.eq_2]; done) | (apply evAnd.eq_2 <;> assumption)
@[simp] theorem evAnd_e3 : type_of% @evAnd.eq_3 := by intros; first | (rw [evAnd.eq_3]; done) | (apply evAnd.eq_3 <;> assumption)
@[simp] theorem evOr_e1 : type_of% @evOr.eq_1 := by intros; first | (rw [evOr.eq_1]; done) | (apply evOr.eq_1 <;> assumption)
@[simp] theorem evOr_e2 : type_of% @evOr.eq_2 := by intros; first | (rw [evOr.eq_2]; done) | (apply evOr.eq_2 <;> assumption)
@[simp] theorem evOr_e3 : type_of% @evOr.eq_3 := by intros; first | (rw [evOr.eq_3]; done) | (apply evOr.eq_3 <;> assumption)
@[simp] theorem evIfs_e1 : type_of% @evIfs.eq_1 := by intros; first | (rw [evIfs.eq_1]; done) | (apply evIfs.eq_1 <;> assumption)
@[simp] theorem evIfs_e2 : type_of% @evIfs.eq_2 := by intros; first | (rw [evIfs.eq_2]; done) | (apply evIfs.eq_2 <;> assumption)
@[simp] theorem evo_e1 : type_of% @evo.eq_1 := by intros; first | (rw [evo.eq_1]; done) | (apply evo.eq_1 <;> assumption)
@[simp] theorem evo_e2 : type_of% @evo.eq_2 := by intros; first | (rw [evo.eq_2]; done) | (apply evo.eq_2 <;> assumption)
@[simp] theorem evIt_e1 : type_of% @evIt.eq_1 := by intros; first | (rw [evIt.eq_1]; done) | (apply evIt.eq_1 <;> assumption)
@[simp] theorem evIt_e3 : type_of% @evIt.eq_3 := by intros; first | (rw [evIt.eq_3]; done) | (apply evIt.eq_3 <;> assumption)
@[simp] theorem evIt_e4 : type_of% @evIt.eq_4 := by intros; first | (rw [evIt.eq_4]; done) | (apply evIt.eq_4 <;> assumption)
@[simp] theorem evIt_e5 : type_of% @evIt.eq_5 := by intros; first | (rw [evIt.eq_5]; done) | (apply evIt.eq_5 <;> assumption)
@[simp] theorem tset_e1 : type_of% @tset.eq_1 := by intros; first | (rw [tset.eq_1]; done) | (apply tset.eq_1 <;> assumption)
@[simp] theorem tset_e2 : type_of% @tset.eq_2 := by intros; first | (rw [tset.eq_2]; done) | (apply tset.eq_2 <;> assumption)
@[simp] theorem tset_e3 : type_of% @tset.eq_3 := by intros; first | (rw [tset.eq_3]; done) | (apply tset.eq_3 <;> assumption)
@[simp] theorem tset_e4 : type_of% @tset.eq_4 := by intros; first | (rw [tset.eq_4]; done) | (apply tset.eq_4 <;> assumption)
@[simp] theorem tset_e5 : type_of% @tset.eq_5 := by intros; first | (rw [tset.eq_5]; done) | (apply tset.eq_5 <;> assumption)
@[simp] theorem tsets_e1 : type_of% @tsets.eq_1 := by intros; first | (rw [tsets.eq_1]; done) | (apply tsets.eq_1 <;> assumption)
@[simp] theorem tsets_e2 : type_of% @tsets.eq_2 := by intros; first | (rw [tsets.eq_2]; done) | (apply tsets.eq_2 <;> assumption)
@[simp] theorem tsets_e3 : type_of% @tsets.eq_3 := by intros; first | (rw [tsets.eq_3]; done) | (apply tsets.eq_3 <;> assumption)
@[simp] theorem ex_e1 : type_of% @ex.eq_1 := by intros; first | (rw [ex.eq_1]; done) | (apply ex.eq_1 <;> assumption)
@[simp] theorem ex_e2 : type_of% @ex.eq_2 := by intros; first | (rw [ex.eq_2]; done) | (apply ex.eq_2 <;> assumption)
@[simp] theorem ex_e3 : type_of% @ex.eq_3 := by intros; first | (rw [ex.eq_3]; done) | (apply ex.eq_3 <;> assumption)
@[simp] theorem ex_e4 : type_of% @ex.eq_4 := by intros; first | (rw [ex.eq_4]; done) | (apply ex.eq_4 <;> assumption)
@[simp] theorem ex_e5 : type_of% @ex.eq_5 := by intros; first | (rw [ex.eq_5]; done) | (apply ex.eq_5 <;> assumption)
@[simp] theorem ex_e6 : type_of% @ex.eq_6 := by intros; first | (rw [ex.eq_6]; done) | (apply ex.eq_6 <;> assumption)
@[simp] theorem ex_e7 : type_of% @ex.eq_7 := by intros; first | (rw [ex.eq_7]; done) | (apply ex.eq_7 <;> assumption)
@[simp] theorem ex_e8 : type_of% @ex.eq_8 := by intros; first | (rw [ex.eq_8]; done) | (apply ex.eq_8 <;> assumption)
@[simp] theorem ex_e9 : type_of% @ex.eq_9 := by intros; first | (rw [ex.eq_9]; done) | (apply ex.eq_9 <;> assumption)
@[simp] theorem ex_e10 : type_of% @ex.eq_10 := by intros; first | (rw [ex.eq_10]; done) | (apply ex.eq_10 <;> assumption)
@[simp] theorem ex_e11 : type_of% @ex.eq_11 := by intros; first | (rw [ex.eq_11]; done) | (apply ex.eq_11 <;> assumption)
@[simp] theorem ex_e12 : type_of% @ex.eq_12 := by intros; first | (rw [ex.eq_12]; done) | (apply ex.eq_12 <;> assumption)
@[simp] theorem ex_e13 : type_of% @ex.eq_13 := by intros; first | (rw [ex.eq_13]; done) | (apply ex.eq_13 <;> assumption)
@[simp] theorem ex_e14 : type_of% @ex.eq_14 := by intros; first | (rw [ex.eq_14]; done) | (apply ex.eq_14 <;> assumption)
@[simp] theorem ex_e15 : type_of% @ex.eq_15 := by intros; first | (rw [ex.eq_15]; done) | (apply ex.eq_15 <;> assumption)
@[simp] theorem ex_e16 : type_of% @ex.eq_16 := by intros; first | (rw [ex.eq_16]; done) | (apply ex.eq_16 <;> assumption)
@[simp] theorem exs_e1 : type_of% @exs.eq_1 := by intros; first | (rw [exs.eq_1]; done) | (apply exs.eq_1 <;> assumption)
@[simp] theorem exs_e2 : type_of% @exs.eq_2 := by intros; first | (rw [exs.eq_2]; done) | (apply exs.eq_2 <;> assumption)
@[simp] theorem exh_e1 : type_of% @exh.eq_1 := by intros; first | (rw [exh.eq_1]; done) | (apply exh.eq_1 <;> assumption)
@[simp] theorem exh_e2 : type_of% @exh.eq_2 := by intros; first | (rw [exh.eq_2]; done) | (apply exh.eq_2 <;> assumption)
@[simp] theorem exh1_e1 : type_of% @exh1.eq_1 := by intros; first | (rw [exh1.eq_1]; done) | (apply exh1.eq_1 <;> assumption)
@[simp] theorem exh2_e1 : type_of% @exh2.eq_1 := by intros; first | (rw [exh2.eq_1]; done) | (apply exh2.eq_1 <;> assumption)
@[simp] theorem exh2_e2 : type_of% @exh2.eq_2 := by intros; first | (rw [exh2.eq_2]; done) | (apply exh2.eq_2 <;> assumption)
@[simp] theorem subD_e1 : type_of% @subD.eq_1 := by intros; first | (rw [subD.eq_1]; done) | (apply subD.eq_1 <;> assumption)
@[simp] theorem subD_e2 : type_of% @subD.eq_2 := by intros; first | (rw [subD.eq_2]; done) | (apply subD.eq_2 <;> assumption)
@[simp] theorem subD_e3 : type_of% @subD.eq_3 := by intros; first | (rw [subD.eq_3]; done) | (apply subD.eq_3 <;> assumption)
@[simp] theorem subD_e4 : type_of% @subD.eq_4 := by intros; first | (rw [subD.eq_4]; done) | (apply subD.eq_4 <;> assumption)
@[simp] theorem subD_e5 : type_of% @subD.eq_5 := by intros; first | (rw [subD.eq_5]; done) | (apply subD.eq_5 <;> assumption)
@[simp] theorem subD_e6 : type_of% @subD.eq_6 := by intros; first | (rw [subD.eq_6]; done) | (apply subD.eq_6 <;> assumption)
@[simp] theorem cmpD_e1 : type_of% @cmpD.eq_1 := by intros; first | (rw [cmpD.eq_1]; done) | (apply cmpD.eq_1 <;> assumption)
@[simp] theorem cmpD_e2 : type_of% @cmpD.eq_2 := by intros; first | (rw [cmpD.eq_2]; done) | (apply cmpD.eq_2 <;> assumption)
@[simp] theorem cmpD_e3 : type_of% @cmpD.eq_3 := by intros; first | (rw [cmpD.eq_3]; done) | (apply cmpD.eq_3 <;> assumption)
@[simp] theorem cmpD_e4 : type_of% @cmpD.eq_4 := by intros; first | (rw [cmpD.eq_4]; done) | (apply cmpD.eq_4 <;> assumption)
@[simp] theorem cmpD_e5 : type_of% @cmpD.eq_5 := by intros; first | (rw [cmpD.eq_5]; done) | (apply cmpD.eq_5 <;> assumption)
@[simp] theorem cmpD_e6 : type_of% @cmpD.eq_6 := by intros; first | (rw [cmpD.eq_6]; done) | (apply cmpD.eq_6 <;> assumption)
@[simp] theorem cmpD_e7 : type_of% @cmpD.eq_7 := by intros; first | (rw [cmpD.eq_7]; done) | (apply cmpD.eq_7 <;> assumption)
@[simp] theorem cmpD_e8 : type_of% @cmpD.eq_8 := by intros; first | (rw [cmpD.eq_8]; done) | (apply cmpD.eq_8 <;> assumption)
@[simp] theorem cmpD_e9 : type_of% @cmpD.eq_9 := by intros; first | (rw [cmpD.eq_9]; done) | (apply cmpD.eq_9 <;> assumption)
@[simp] theorem cmpD_e10 : type_of% @cmpD.eq_10 := by intros; first | (rw [cmpD.eq_10]; done) | (apply cmpD.eq_10 <;> assumption)
@[simp] theorem cmpD_e11 : type_of% @cmpD.eq_11 := by intros; first | (rw [cmpD.eq_11]; done) | (apply cmpD.eq_11 <;> assumption)
@[simp] theorem cmpD_e12 : type_of% @cmpD.eq_12 := by intros; first | (rw [cmpD.eq_12]; done) | (apply cmpD.eq_12 <;> assumption)
@[simp] theorem cmpD_e13 : type_of% @cmpD.eq_13 := by intros; first | (rw [cmpD.eq_13]; done) | (apply cmpD.eq_13 <;> assumption)
@[simp] theorem cmpD_e14 : type_of% @cmpD.eq_14 := by intros; first | (rw [cmpD.eq_14]; done) | (apply cmpD.eq_14 <;> assumption)
@[simp] theorem cmpD_e15 : type_of% @cmpD.eq_15 := by intros; first | (rw [cmpD.eq_15]; done) | (apply cmpD.eq_15 <;> assumption)
@[simp] theorem cmpD_e16 : type_of% @cmpD.eq_16 := by intros; first | (rw [cmpD.eq_16]; done) | (apply cmpD.eq_16 <;> assumption)
@[simp] theorem cmpLt_e1 : type_of% @cmpLt.eq_1 := by intros; first | (rw [cmpLt.eq_1]; done) | (apply cmpLt.eq_1 <;> assumption)
@[simp] theorem cmpLt_e2 : type_of% @cmpLt.eq_2 := by intros; first | (rw [cmpLt.eq_2]; done) | (apply cmpLt.eq_2 <;> assumption)
@[simp] theorem cmpLt_e3 : type_of% @cmpLt.eq_3 := by intros; first | (rw [cmpLt.eq_3]; done) | (apply cmpLt.eq_3 <;> assumption)
@[simp] theorem cmpLt_e4 : type_of% @cmpLt.eq_4 := by intros; first | (rw [cmpLt.eq_4]; done) | (apply cmpLt.eq_4 <;> assumption)
@[simp] theorem calmM_e1 : type_of% @calmM.eq_1 := by intros; first | (rw [calmM.eq_1]; done) | (apply calmM.eq_1 <;> assumption)
@[simp] theorem calmM_e2 : type_of% @calmM.eq_2 := by intros; first | (rw [calmM.eq_2]; done) | (apply calmM.eq_2 <;> assumption)
@[simp] theorem calmM_e3 : type_of% @calmM.eq_3 := by intros; first | (rw [calmM.eq_3]; done) | (apply calmM.eq_3 <;> assumption)
@[simp] theorem calmM_e4 : type_of% @calmM.eq_4 := by intros; first | (rw [calmM.eq_4]; done) | (apply calmM.eq_4 <;> assumption)
@[simp] theorem calmM_e5 : type_of% @calmM.eq_5 := by intros; first | (rw [calmM.eq_5]; done) | (apply calmM.eq_5 <;> assumption)
@[simp] theorem calmM_e6 : type_of% @calmM.eq_6 := by intros; first | (rw [calmM.eq_6]; done) | (apply calmM.eq_6 <;> assumption)
@[simp] theorem calmM_e7 : type_of% @calmM.eq_7 := by intros; first | (rw [calmM.eq_7]; done) | (apply calmM.eq_7 <;> assumption)
@[simp] theorem calmM_e8 : type_of% @calmM.eq_8 := by intros; first | (rw [calmM.eq_8]; done) | (apply calmM.eq_8 <;> assumption)
@[simp] theorem calmM_e9 : type_of% @calmM.eq_9 := by intros; first | (rw [calmM.eq_9]; done) | (apply calmM.eq_9 <;> assumption)
@[simp] theorem calmM_e10 : type_of% @calmM.eq_10 := by intros; first | (rw [calmM.eq_10]; done) | (apply calmM.eq_10 <;> assumption)
@[simp] theorem calmM_e11 : type_of% @calmM.eq_11 := by intros; first | (rw [calmM.eq_11]; done) | (apply calmM.eq_11 <;> assumption)
@[simp] theorem mutM_e1 : type_of% @mutM.eq_1 := by intros; first | (rw [mutM.eq_1]; done) | (apply mutM.eq_1 <;> assumption)
@[simp] theorem mutM_e2 : type_of% @mutM.eq_2 := by intros; first | (rw [mutM.eq_2]; done) | (apply mutM.eq_2 <;> assumption)
@[simp] theorem mutM_e3 : type_of% @mutM.eq_3 := by intros; first | (rw [mutM.eq_3]; done) | (apply mutM.eq_3 <;> assumption)
@[simp] theorem mutM_e4 : type_of% @mutM.eq_4 := by intros; first | (rw [mutM.eq_4]; done) | (apply mutM.eq_4 <;> assumption)
@[simp] theorem mutM_e5 : type_of% @mutM.eq_5 := by intros; first | (rw [mutM.eq_5]; done) | (apply mutM.eq_5 <;> assumption)
@[simp] theorem mutM_e6 : type_of% @mutM.eq_6 := by intros; first | (rw [mutM.eq_6]; done) | (apply mutM.eq_6 <;> assumption)
@[simp] theorem mutM_e7 : type_of% @mutM.eq_7 := by intros; first | (rw [mutM.eq_7]; done) | (apply mutM.eq_7 <;> assumption)
@[simp] theorem isD_e1 : type_of% @isD.eq_1 := by intros; first | (rw [isD.eq_1]; done) | (apply isD.eq_1 <;> assumption)
@[simp] theorem isD_e2 : type_of% @isD.eq_2 := by intros; first | (rw [isD.eq_2]; done) | (apply isD.eq_2 <;> assumption)
@[simp] theorem isD_e3 : type_of% @isD.eq_3 := by intros; first | (rw [isD.eq_3]; done) | (apply isD.eq_3 <;> assumption)
@[simp] theorem setD_e1 : type_of% @setD.eq_1 := by intros; first | (rw [setD.eq_1]; done) | (apply setD.eq_1 <;> assumption)
@[simp] theorem setD_e2 : type_of% @setD.eq_2 := by intros; first | (rw [setD.eq_2]; done) | (apply setD.eq_2 <;> assumption)
@[simp] theorem setD_e3 : type_of% @setD.eq_3 := by intros; first | (rw [setD.eq_3]; done) | (apply setD.eq_3 <;> assumption)
@[simp] theorem walkD_e1 : type_of% @walkD.eq_1 := by intros; first | (rw [walkD.eq_1]; done) | (apply walkD.eq_1 <;> assumption)
@[simp] theorem walkD_e2 : type_of% @walkD.eq_2 := by intros; first | (rw [walkD.eq_2]; done) | (apply walkD.eq_2 <;> assumption)
@[simp] theorem walkD_e3 : type_of% @walkD.eq_3 := by intros; first | (rw [walkD.eq_3]; done) | (apply walkD.eq_3 <;> assumption)
@[simp] theorem itemsW_e1 : type_of% @itemsW.eq_1 := by intros; first | (rw [itemsW.eq_1]; done) | (apply itemsW.eq_1 <;> assumption)
@[simp] theorem itemsW_e2 : type_of% @itemsW.eq_2 := by intros; first | (rw [itemsW.eq_2]; done) | (apply itemsW.eq_2 <;> assumption)
@[simp] theorem itemsW_e3 : type_of% @itemsW.eq_3 := by intros; first | (rw [itemsW.eq_3]; done) | (apply itemsW.eq_3 <;> assumption)
@[simp] theorem itemsW_e4 : type_of% @itemsW.eq_4 := by intros; first | (rw [itemsW.eq_4]; done) | (apply itemsW.eq_4 <;> assumption)
@[simp] theorem itemsW_e5 : type_of% @itemsW.eq_5 := by intros; first | (rw [itemsW.eq_5]; done) | (apply itemsW.eq_5 <;> assumption)
@[simp] theorem itemsW_e6 : type_of% @itemsW.eq_6 := by intros; first | (rw [itemsW.eq_6]; done) | (apply itemsW.eq_6 <;> assumption)
@[simp] theorem rds_e1 : type_of% @rds.eq_1 := by intros; first | (rw [rds.eq_1]; done) | (apply rds.eq_1 <;> assumption)
@[simp] theorem rds_e2 : type_of% @rds.eq_2 := by intros; first | (rw [rds.eq_2]; done) | (apply rds.eq_2 <;> assumption)
@[simp] theorem bifD_e1 : type_of% @bifD.eq_1 := by intros; first | (rw [bifD.eq_1]; done) | (apply bifD.eq_1 <;> assumption)
@[simp] theorem bifD_e2 : type_of% @bifD.eq_2 := by intros; first | (rw [bifD.eq_2]; done) | (apply bifD.eq_2 <;> assumption)
@[simp] theorem bifD_e3 : type_of% @bifD.eq_3 := by intros; first | (rw [bifD.eq_3]; done) | (apply bifD.eq_3 <;> assumption)
@[simp] theorem bifD_e4 : type_of% @bifD.eq_4 := by intros; first | (rw [bifD.eq_4]; done) | (apply bifD.eq_4 <;> assumption)
@[simp] theorem bifD_e5 : type_of% @bifD.eq_5 := by intros; first | (rw [bifD.eq_5]; done) | (apply bifD.eq_5 <;> assumption)
@[simp] theorem bifD_e6 : type_of% @bifD.eq_6 := by intros; first | (rw [bifD.eq_6]; done) | (apply bifD.eq_6 <;> assumption)
@[simp] theorem bifD_e7 : type_of% @bifD.eq_7 := by intros; first | (rw [bifD.eq_7]; done) | (apply bifD.eq_7 <;> assumption)
@[simp] theorem bifD_e8 : type_of% @bifD.eq_8 := by intros; first | (rw [bifD.eq_8]; done) | (apply bifD.eq_8 <;> assumption)
@[simp] theorem bifD_e9 : type_of% @bifD.eq_9 := by intros; first | (rw [bifD.eq_9]; done) | (apply bifD.eq_9 <;> assumption)
@[simp] theorem bifD_e11 : type_of% @bifD.eq_11 := by intros; first | (rw [bifD.eq_11]; done) | (apply bifD.eq_11 <;> assumption)
@[simp] theorem bifD_e12 : type_of% @bifD.eq_12 := by intros; first | (rw [bifD.eq_12]; done) | (apply bifD.eq_12 <;> assumption)
@[simp] theorem bifD_e13 : type_of% @bifD.eq_13 := by intros; first | (rw [bifD.eq_13]; done) | (apply bifD.eq_13 <;> assumption)
@[simp] theorem bifD_e14 : type_of% @bifD.eq_14 := by intros; first | (rw [bifD.eq_14]; done) | (apply bifD.eq_14 <;> assumption)
@[simp] theorem bifD_e15 : type_of% @bifD.eq_15 := by intros; first | (rw [bifD.eq_15]; done) | (apply bifD.eq_15 <;> assumption)
@[simp] theorem bifD_e16 : type_of% @bifD.eq_16 := by intros; first | (rw [bifD.eq_16]; done) | (apply bifD.eq_16 <;> assumption)
@[simp] theorem bifD_e17 : type_of% @bifD.eq_17 := by intros; first | (rw [bifD.eq_17]; done) | (apply bifD.eq_17 <;> assumption)
@[simp] theorem bifD_e18 : type_of% @bifD.eq_18 := by intros; first | (rw [bifD.eq_18]; done) | (apply bifD.eq_18 <;> assumption)
@[simp] theorem bifD_e19 : type_of% @bifD.eq_19 := by intros; first | (rw [bifD.eq_19]; done) | (apply bifD.eq_19 <;> assumption)
@[simp] theorem bifD_e20 : type_of% @bifD.eq_20 := by intros; first | (rw [bifD.eq_20]; done) | (apply bifD.eq_20 <;> assumption)
@[simp] theorem bifD_e21 : type_of% @bifD.eq_21 := by intros; first | (rw [bifD.eq_21]; done) | (apply bifD.eq_21 <;> assumption)
@[simp] theorem bifD_e22 : type_of% @bifD.eq_22 := by intros; first | (rw [bifD.eq_22]; done) | (apply bifD.eq_22 <;> assumption)
theorem setLoc_e (s : S) (i : Nat) (x : Slot) : setLoc s i x = { s with loc := s.loc.set i x } := by rw [setLoc]
@[simp] theorem set_loc (l : List Slot) (st : List Ob) (i : Nat) (x : Slot) : setLoc ⟨l, st⟩ i x = ⟨l.set i x, st⟩ := by rw [setLoc]
theorem evt_e (P : Pr) (e : E) (s : S) : evt P e s = (ev P e s).bind truthR := by rw [evt]
@[simp] theorem b_add (x y : Int) : binD .Add (.int x) (.int y) = some (.int (x + y), false) := rfl
@[simp] theorem b_sub (x y : Int) : binD .Sub (.int x) (.int y) = some (.int (x - y), false) := rfl
theorem b_mul {x y : Int} (h : y.natAbs < 2 ^ 64) : binD .Mult (.int x) (.int y) = some (.int (x * y), false) := if_pos (.inr h)
theorem b_mod {x y : Int} (h : 0 < y) : binD .Mod (.int x) (.int y) = some (.int (x % y), false) := if_pos h
theorem b_div {x y : Int} (h : 0 < y) (h' : y < 1073741824) : binD .FloorDiv (.int x) (.int y) = some (.int (x / y), false) := if_pos ⟨h, h'⟩
theorem b_pow {x y : Int} (h : 0 ≤ y) (h' : y ≤ 1000000) (hx : x.natAbs < 2 ^ 64) : binD .Pow (.int x) (.int y) = some (.int (x ^ y.toNat), false) := if_pos ⟨h, h', hx⟩
theorem b_pow18 : binD .Pow (.int 10) (.int 18) = some (.int 1000000000000000000, false) := by rw [b_pow (by omega) (by omega) (by decide)]; rfl
@[simp] theorem bif_len_l (xs : List D) : bifD .len [.lst xs] = some (.int xs.length, false) := rfl
@[simp] theorem bif_len_t (xs : List D) : bifD .len [.tup xs] = some (.int xs.length, false) := rfl
@[simp] theorem bif_len_s (xs : List Nat) : bifD .len [.str xs] = some (.int xs.length, false) := rfl
@[simp] theorem bif_len_g (xs : List D) : bifD .len [.git xs] = some (.int xs.length, false) := rfl
@[simp] theorem bif_intw (x : Int) : bifD .int [.int x] = some (.int x, false) := rfl
@[simp] theorem de_ref_set {st : List Ob} {p : Nat} {kvs : List (D × D)} (h : p < st.length) : deref (st.set p (.dct kvs)) (.ref p) = .dct kvs := de_ref_d (by simp [List.getElem?_set, h])
/-- a comprehension that picks and maps -/
theorem compL_fm {own : List Nat} {tg : D → S → R Unit} {test : S → R Bool} {elt : List D → S → R (List D)} {lk : List (Rv × D)} (Inv : S → Prop) (p : D → Bool) (g : D → D) (ds0 : List D)
    (step : ∀ d ∈ ds0, ∀ (acc : List D) (s : S), Inv s → acc.length < SL → ∃ s', turnL own tg test elt d acc s = .ok (if p d then acc ++ [g d] else acc) s' ∧ Inv s' ∧ locked lk s' = true) :
    ∀ (ds acc : List D) (s : S), (∀ d ∈ ds, d ∈ ds0) → Inv s → acc.length + ds.length ≤ SL → ∃ s', compL own tg test elt lk ds acc s = .ok (acc ++ (ds.filter p).map g) s' ∧ Inv s'
  | [], acc, s, _, hi, _ => ⟨s, by simp [compL], hi⟩
  | d :: r, acc, s, hd, hi, hl => by
    rw [List.length_cons] at hl
    obtain ⟨s1, e, h1, l⟩ := step d (hd d List.mem_cons_self) acc s hi (by omega)
    obtain ⟨s2, e2, h2⟩ := compL_fm Inv p g ds0 step r (if p d then acc ++ [g d] else acc) s1 (fun x hx => hd x (List.mem_cons_of_mem _ hx)) h1 (by split <;> (try simp only [List.length_append, List.length_cons, List.length_nil]) <;> omega)
    refine ⟨s2, ?_, h2⟩
    rw [compL_cons, e]
    simp only [rb_ok, l, if_true, e2, List.filter_cons]
    split <;> simp
mutual
theorem plain_mono : ∀ (v : D) (n m : Nat), n ≤ m → v.plain n = true → v.plain m = true
  | .non, n, m, _, _ => by simp [D.plain]
  | .bl _, n, m, _, _ => by simp [D.plain]
  | .int _, n, m, _, _ => by simp [D.plain]
  | .str _, n, m, _, _ => by simp [D.plain]
  | .tup x, n, m, h, p => by
    cases n with
    | zero => simp [D.plain] at p
    | succ n =>
      cases m with
      | zero => omega
      | succ m => simp only [D.plain] at p ⊢; exact plains_mono x n m (by omega) p
  | .lst x, n, m, h, p => by
    cases n with
    | zero => simp [D.plain] at p
    | succ n =>
      cases m with
      | zero => omega
      | succ m => simp only [D.plain] at p ⊢; exact plains_mono x n m (by omega) p
  | .dct _, _, _, _, p => by simp [D.plain] at p
  | .ref _, _, _, _, p => by simp [D.plain] at p
  | .fn _, _, _, _, p => by simp [D.plain] at p
  | .clo _ _, _, _, _, p => by simp [D.plain] at p
  | .exc _ _, _, _, _, p => by simp [D.plain] at p
  | .giv _, _, _, _, p => by simp [D.plain] at p
  | .git _, _, _, _, p => by simp [D.plain] at p
theorem plains_mono : ∀ (vs : List D) (n m : Nat), n ≤ m → D.plains n vs = true → D.plains m vs = true
  | [], n, m, _, _ => rfl
  | v :: r, n, m, h, p => by
    rw [D.plains, Bool.and_eq_true] at p ⊢
    exact ⟨plain_mono v n m h p.1, plains_mono r n m h p.2⟩
end
theorem plains_iff (n : Nat) : ∀ vs : List D, D.plains n vs = true ↔ ∀ v ∈ vs, v.plain n = true
  | [] => by simp [D.plains]
  | v :: r => by rw [D.plains, Bool.and_eq_true, plains_iff n r]; simp
@[simp] theorem plains_strs (n : Nat) (l : List (List Nat)) : D.plains n (l.map .str) = true := (plains_iff n _).mpr fun v hv => by
  obtain ⟨s, _, rfl⟩ := List.mem_map.mp hv
  simp [D.plain]
@[simp] theorem eq_ii (a b : Int) : D.eq? (.int a) (.int b) = some (a == b) := by simp [D.eq?, D.plain, D.eqv]
@[simp] theorem eq_ss (a b : List Nat) : D.eq? (.str a) (.str b) = some (a == b) := by simp [D.eq?, D.plain, D.eqv]
@[simp] theorem eq_bb (a b : Bool) : D.eq? (.bl a) (.bl b) = some (a == b) := by simp [D.eq?, D.plain, D.eqv]
theorem eq_nil {l : List D} (h : D.plains 39 l = true) : D.eq? (.lst l) (.lst []) = some l.isEmpty := by
  unfold D.eq?
  rw [show DEEP = 39 + 1 from rfl]
  simp only [D.plain, D.plains, h, Bool.and_self, if_true, D.eqv]
  cases l <;> simp [D.eqvs]
theorem eq_nil_t {l : List D} (h : D.plains 39 l = true) : D.eq? (.tup l) (.tup []) = some l.isEmpty := by
  unfold D.eq?
  rw [show DEEP = 39 + 1 from rfl]
  simp only [D.plain, D.plains, h, Bool.and_self, if_true, D.eqv]
  cases l <;> simp [D.eqvs]
theorem any_strs (s : List Nat) : ∀ l : List (List Nat), ((l.map D.str).any fun y => D.eqv y (.str s)) = l.contains s
  | [] => rfl
  | a :: r => by
    rw [List.map_cons, List.any_cons, any_strs s r, List.contains_cons]
    have q : D.eqv (.str a) (.str s) = (s == a) := by
      simp only [D.eqv]
      by_cases z : s = a
      · subst z; simp
      · have z' : ¬ a = s := fun e => z e.symm
        have h1 : (a == s) = false := beq_eq_false_iff_ne.mpr z'
        have h2 : (s == a) = false := beq_eq_false_iff_ne.mpr z
        rw [h1, h2]
    rw [q]
theorem mem_strs (s : List Nat) (l : List (List Nat)) : memD (.str s) (l.map .str) = some (l.contains s) := by
  unfold memD
  rw [plains_strs, any_strs]
  simp [D.plain]
@[simp] theorem inD_lst (x : D) (xs : List D) : inD x (.lst xs) = memD x xs := by cases x <;> rfl
@[simp] theorem inD_tup (x : D) (xs : List D) : inD x (.tup xs) = memD x xs := by cases x <;> rfl
@[simp] theorem inD_git (x : D) (xs : List D) : inD x (.git xs) = memD x xs := by cases x <;> rfl
/-- a def, statement by statement -/
theorem end_step {P : Pr} {t : St} {r : List St} {s s' : S} {X : RF} (h : ex P t s = .ok .nx s') (h2 : endF (exs P r s') = X) : endF (exs P (t :: r) s) = X := by
  rw [exs_e2, h]; exact h2
theorem end_fin {P : Pr} {t : St} {r : List St} {s s' : S} {d : D} {fr : Bool} (h : ex P t s = .ok (.ret d fr) s') : endF (exs P (t :: r) s) = .ok d fr s'.st := by
  rw [exs_e2, h]; rfl
theorem st_step {P : Pr} {t : St} {r : List St} {s s' : S} {X : R Fl} (h : ex P t s = .ok .nx s') (h2 : exs P r s' = X) : exs P (t :: r) s = X := by
  rw [exs_e2, h]; exact h2
theorem st_fin {P : Pr} {t : St} {r : List St} {s s' : S} {d : D} {fr : Bool} (h : ex P t s = .ok (.ret d fr) s') : exs P (t :: r) s = .ok (.ret d fr) s' := by
  rw [exs_e2, h]; rfl
theorem cut_take {α : Type} (xs : List α) (i : Nat) : cutL xs none (some (i : Int)) = xs.take i := by
  unfold cutL cutAt
  simp only [show ¬ ((i : Int) < 0) by omega, if_false, Int.toNat_natCast]
  rw [List.drop_zero, Nat.sub_zero, List.take_eq_take_min (i := i)]
theorem cut_drop {α : Type} (xs : List α) (i : Nat) : cutL xs (some (i : Int)) none = xs.drop i := by
  unfold cutL cutAt
  simp only [show ¬ ((i : Int) < 0) by omega, if_false, Int.toNat_natCast]
  rcases Nat.lt_or_ge i xs.length with h | h
  · rw [Nat.min_eq_left (by omega)]; exact List.take_of_length_le (by rw [List.length_drop]; omega)
  · rw [Nat.min_eq_right (by omega), Nat.sub_self, List.take_zero, List.drop_of_length_le h]
@[simp] theorem isNon_nonE : D.isNon .non = true := rfl
@[simp] theorem isNon_intE (i : Int) : D.isNon (.int i) = false := rfl
@[simp] theorem isNon_blE (i : Bool) : D.isNon (.bl i) = false := rfl
@[simp] theorem isNon_strE (i : List Nat) : D.isNon (.str i) = false := rfl
@[simp] theorem isNon_tupE (i : List D) : D.isNon (.tup i) = false := rfl
@[simp] theorem isNon_lstE (i : List D) : D.isNon (.lst i) = false := rfl
@[simp] theorem isNon_refE (i : Nat) : D.isNon (.ref i) = false := rfl
end PyE
end
section
set_option linter.all false
set_option maxRecDepth 100000
namespace Lw
open PySem PyE
def ir_is_whole : Df := { names := 3, pars := 3, dfl := [D.non], body := [St.cond (E.or [E.not (E.isi (E.v 0) [(Str.ofString "int")]), E.isi (E.v 0) [(Str.ofString "bool")], E.cmp (CmpOp.Lt) (E.v 0) (E.v 1)]) [St.ret (some (E.c (D.bl false)))] [], St.ret (some (E.or [E.cmp (CmpOp.Is) (E.v 2) (E.c (D.non)), E.cmp (CmpOp.LtE) (E.v 0) (E.v 2)]))] }
def ir_ascending : Df := { names := 1, pars := 1, dfl := [], body := [St.ret (some (E.bif (Bif.tuple) [E.bif (Bif.sortedSet) [E.v 0]]))] }
def ir_is_name : Df := { names := 1, pars := 1, dfl := [], body := [St.cond (E.or [E.not (E.isi (E.v 0) [(Str.ofString "str")]), E.not (E.chain (CmpOp.LtE) (CmpOp.LtE) (E.c (D.int 1)) (E.bif (Bif.len) [E.v 0]) (E.c (D.int 12))), E.not (E.met (Met.isascii) (E.v 0) [])]) [St.ret (some (E.c (D.bl false)))] [], St.ret (some (E.and [E.met (Met.isalnum) (E.v 0) [], E.met (Met.islower) (E.v 0) [], E.met (Met.isalpha) (E.sub (E.v 0) (E.c (D.int 0))) []]))] }
def ir_is_call_name : Df := { names := 1, pars := 1, dfl := [], body := [St.ret (some (E.and [E.call (Str.ofString "is_name") [E.v 0], E.cmp (CmpOp.NotIn) (E.v 0) (E.c (D.git [D.str [97, 108, 108], D.str [97, 110, 121], D.str [114, 111, 119], D.str [116, 105, 109, 101, 115], D.str [117, 110, 108, 101, 115, 115]]))]))] }
def ir_do_among_t1 : T := T.nm 6 false
def ir_do_among_b1 : List PyE.St := [St.aug 5 (Operator.Sub) (E.c (D.int 1)), St.asg (T.nm 7 false) (E.call (Str.ofString "do_in") [E.v 6, E.v 1, E.bin (Operator.Sub) (E.bin (Operator.Sub) (E.v 2) (E.v 4)) (E.v 5), E.v 3]), St.cond (E.cmp (CmpOp.Is) (E.v 7) (E.c (D.non))) [St.ret (some (E.c (D.non)))] [], St.aug 4 (Operator.Add) (E.v 7)]
def ir_do_among : Df := { names := 8, pars := 4, dfl := [], body := [St.asg2 4 false 5 false (E.c (D.int 0)) (E.bif (Bif.len) [E.v 0]), St.loop ir_do_among_t1 (It.seq (E.v 0)) ir_do_among_b1, St.ret (some (E.v 4))] }
def ir_do_in : Df := { names := 6, pars := 4, dfl := [], body := [St.cond (E.or [E.not (E.isi (E.v 0) [(Str.ofString "tuple")]), E.cmp (CmpOp.Lt) (E.bif (Bif.len) [E.v 0]) (E.c (D.int 2)), E.not (E.isi (E.sub (E.v 0) (E.c (D.int 0))) [(Str.ofString "str")])]) [St.ret (some (E.c (D.non)))] [], St.asg (T.nm 4 false) (E.sub (E.v 0) (E.c (D.int 0))), St.cond (E.cmp (CmpOp.Eq) (E.v 4) (E.c (D.str [100, 111]))) [St.asg (T.nm 5 false) (E.and [E.cmp (CmpOp.Eq) (E.bif (Bif.len) [E.v 0]) (E.c (D.int 2)), E.call (Str.ofString "is_call_name") [E.sub (E.v 0) (E.c (D.int 1))], E.cmp (CmpOp.NotIn) (E.sub (E.v 0) (E.c (D.int 1))) (E.v 3)]), St.ret (some (E.ite (E.and [E.v 5, E.cmp (CmpOp.Gt) (E.v 2) (E.c (D.int 0))]) (E.c (D.int 1)) (E.c (D.non))))] [], St.cond (E.cmp (CmpOp.Eq) (E.v 1) (E.c (D.int 8))) [St.ret (some (E.c (D.non)))] [], St.cond (E.cmp (CmpOp.In) (E.v 4) (E.c (D.git [D.str [97, 108, 108], D.str [97, 110, 121], D.str [114, 111, 119]]))) [St.cond (E.or [E.cmp (CmpOp.NotEq) (E.bif (Bif.len) [E.v 0]) (E.c (D.int 2)), E.not (E.isi (E.sub (E.v 0) (E.c (D.int 1))) [(Str.ofString "tuple")]), E.not (E.chain (CmpOp.LtE) (CmpOp.LtE) (E.c (D.int 2)) (E.bif (Bif.len) [E.sub (E.v 0) (E.c (D.int 1))]) (E.bif (Bif.min) [E.c (D.int 6), E.v 2]))]) [St.ret (some (E.c (D.non)))] [], St.ret (some (E.call (Str.ofString "do_among") [E.sub (E.v 0) (E.c (D.int 1)), E.bin (Operator.Add) (E.v 1) (E.c (D.int 1)), E.v 2, E.v 3]))] [], St.cond (E.cmp (CmpOp.NotEq) (E.bif (Bif.len) [E.v 0]) (E.c (D.int 3))) [St.ret (some (E.c (D.non)))] [], St.cond (E.cmp (CmpOp.Eq) (E.v 4) (E.c (D.str [116, 105, 109, 101, 115]))) [St.ret (some (E.ite (E.call (Str.ofString "is_whole") [E.sub (E.v 0) (E.c (D.int 1)), E.c (D.int 2), E.c (D.int 5)]) (E.call (Str.ofString "do_in") [E.sub (E.v 0) (E.c (D.int 2)), E.bin (Operator.Add) (E.v 1) (E.c (D.int 1)), E.v 2, E.v 3]) (E.c (D.non))))] [], St.cond (E.or [E.cmp (CmpOp.NotEq) (E.v 4) (E.c (D.str [117, 110, 108, 101, 115, 115])), E.not (E.call (Str.ofString "is_call_name") [E.sub (E.v 0) (E.c (D.int 1))]), E.cmp (CmpOp.In) (E.sub (E.v 0) (E.c (D.int 1))) (E.v 3)]) [St.ret (some (E.c (D.non)))] [], St.ret (some (E.call (Str.ofString "do_in") [E.sub (E.v 0) (E.c (D.int 2)), E.bin (Operator.Add) (E.v 1) (E.c (D.int 1)), E.v 2, E.bin (Operator.Add) (E.v 3) (E.tup [E.sub (E.v 0) (E.c (D.int 1))])]))] }
def ir_is_task : Df := { names := 1, pars := 1, dfl := [], body := [St.ret (some (E.cmp (CmpOp.IsNot) (E.call (Str.ofString "do_in") [E.v 0, E.c (D.int 0), E.c (D.int 10), E.tup []]) (E.c (D.non))))] }
def ir_names_in_t1 : T := T.nm 1 false
def ir_names_in_u1 : T := T.nm 2 false
def ir_names_in_w1 : It := It.seq (E.call (Str.ofString "names_in") [E.v 1])
def ir_names_in_j1 : List E := []
def ir_names_in_e1 : E := E.v 2
def ir_names_in : Df := { names := 3, pars := 1, dfl := [], body := [St.cond (E.cmp (CmpOp.Eq) (E.sub (E.v 0) (E.c (D.int 0))) (E.c (D.str [100, 111]))) [St.ret (some (E.lst [E.sub (E.v 0) (E.c (D.int 1))]))] [], St.cond (E.cmp (CmpOp.In) (E.sub (E.v 0) (E.c (D.int 0))) (E.c (D.git [D.str [97, 108, 108], D.str [97, 110, 121], D.str [114, 111, 119]]))) [St.ret (some (E.comp2 [1, 2] [2] ir_names_in_t1 (It.seq (E.sub (E.v 0) (E.c (D.int 1)))) [] ir_names_in_u1 ir_names_in_w1 ir_names_in_j1 ir_names_in_e1))] [], St.ret (some (E.bin (Operator.Add) (E.ite (E.cmp (CmpOp.Eq) (E.sub (E.v 0) (E.c (D.int 0))) (E.c (D.str [117, 110, 108, 101, 115, 115]))) (E.lst [E.sub (E.v 0) (E.c (D.int 1))]) (E.lst [])) (E.call (Str.ofString "names_in") [E.sub (E.v 0) (E.c (D.int 2))])))] }
def ir_calls_of : Df := { names := 1, pars := 1, dfl := [], body := [St.ret (some (E.call (Str.ofString "ascending") [E.call (Str.ofString "names_in") [E.v 0]]))] }
def ir__law_pen_t1 : T := T.nm 2 false
def ir__law_pen_b1 : List PyE.St := [St.asg (T.nm 1 false) (E.bin (Operator.Mod) (E.bif (Bif.int) [E.bin (Operator.Add) (E.bin (Operator.Mult) (E.v 1) (E.c (D.int 107))) (E.v 2)]) (E.c (D.int 1000000289)))]
def ir__law_pen : Df := { names := 3, pars := 1, dfl := [], body := [St.asg (T.nm 1 false) (E.c (D.int 17)), St.loop ir__law_pen_t1 (It.seq (E.v 0)) ir__law_pen_b1, St.ret (some (E.box (E.dct [D.str [99, 101, 108, 108, 115], D.str [97, 116], D.str [100, 105, 103, 105, 116, 115], D.str [99, 111, 117, 110, 116], D.str [102, 111, 108, 100]] [E.bif (Bif.list) [E.v 0], E.c (D.int 0), E.c (D.int 0), E.c (D.int 0), E.v 1])))] }
def ir__law_draw : Df := { names := 5, pars := 2, dfl := [], body := [St.asg (T.sub (E.v 0) (E.c (D.str [99, 111, 117, 110, 116]))) (E.bin (Operator.Add) (E.sub (E.v 0) (E.c (D.str [99, 111, 117, 110, 116]))) (E.c (D.int 1))), St.cond (E.and [E.cmp (CmpOp.Eq) (E.sub (E.v 0) (E.c (D.str [100, 105, 103, 105, 116, 115]))) (E.c (D.int 0)), E.cmp (CmpOp.Lt) (E.sub (E.v 0) (E.c (D.str [97, 116]))) (E.bif (Bif.len) [E.sub (E.v 0) (E.c (D.str [99, 101, 108, 108, 115]))])]) [St.asg (T.nm 2 false) (E.sub (E.sub (E.v 0) (E.c (D.str [99, 101, 108, 108, 115]))) (E.sub (E.v 0) (E.c (D.str [97, 116])))), St.asg (T.sub (E.v 0) (E.c (D.str [97, 116]))) (E.bin (Operator.Add) (E.sub (E.v 0) (E.c (D.str [97, 116]))) (E.c (D.int 1))), St.cond (E.cmp (CmpOp.GtE) (E.v 2) (E.bin (Operator.Pow) (E.c (D.int 10)) (E.c (D.int 18)))) [St.asg (T.sub (E.v 0) (E.c (D.str [100, 105, 103, 105, 116, 115]))) (E.bin (Operator.Sub) (E.v 2) (E.bin (Operator.Pow) (E.c (D.int 10)) (E.c (D.int 18))))] [St.asg (T.sub (E.v 0) (E.c (D.str [102, 111, 108, 100]))) (E.bin (Operator.Mod) (E.bif (Bif.int) [E.bin (Operator.Add) (E.bin (Operator.Mult) (E.sub (E.v 0) (E.c (D.str [102, 111, 108, 100]))) (E.c (D.int 70031))) (E.v 2)]) (E.c (D.int 2147483399)))]] [], St.cond (E.cmp (CmpOp.Gt) (E.sub (E.v 0) (E.c (D.str [100, 105, 103, 105, 116, 115]))) (E.c (D.int 0))) [St.asg (T.nm 3 false) (E.bin (Operator.Mod) (E.bif (Bif.int) [E.sub (E.v 0) (E.c (D.str [100, 105, 103, 105, 116, 115]))]) (E.v 1)), St.asg (T.sub (E.v 0) (E.c (D.str [100, 105, 103, 105, 116, 115]))) (E.bin (Operator.FloorDiv) (E.sub (E.v 0) (E.c (D.str [100, 105, 103, 105, 116, 115]))) (E.v 1)), St.ret (some (E.v 3))] [], St.asg (T.nm 4 false) (E.bin (Operator.Add) (E.bin (Operator.Add) (E.sub (E.v 0) (E.c (D.str [102, 111, 108, 100]))) (E.bin (Operator.Mult) (E.sub (E.v 0) (E.c (D.str [99, 111, 117, 110, 116]))) (E.c (D.int 8053)))) (E.c (D.int 47))), St.ret (some (E.bin (Operator.Mod) (E.bin (Operator.FloorDiv) (E.bif (Bif.int) [E.bin (Operator.Mod) (E.bin (Operator.Pow) (E.v 4) (E.c (D.int 17))) (E.c (D.int 2305843009213693951))]) (E.c (D.int 128))) (E.v 1)))] }
def ir__law_pick : Df := { names := 2, pars := 2, dfl := [], body := [St.ret (some (E.sub (E.v 1) (E.call (Str.ofString "_law_draw") [E.v 0, E.bif (Bif.len) [E.v 1]])))] }
def ir__law_shuffled_t1 : T := T.nm 4 false
def ir__law_shuffled_b1 : List PyE.St := [St.expr (E.met (Met.append) (E.m 3) [E.met (Met.pop) (E.m 2) [E.call (Str.ofString "_law_draw") [E.v 0, E.bif (Bif.len) [E.m 2]]]])]
def ir__law_shuffled : Df := { names := 5, pars := 2, dfl := [], body := [St.asg2 2 true 3 true (E.bif (Bif.list) [E.v 1]) (E.lst []), St.loop ir__law_shuffled_t1 (It.rng [E.bif (Bif.len) [E.v 1]]) ir__law_shuffled_b1, St.ret (some (E.mv 3))] }
def ir__law_name_t1 : T := T.nm 3 false
def ir__law_name_b1 : List PyE.St := [St.asg (T.nm 2 false) (E.bin (Operator.Add) (E.v 2) (E.sub (E.c (D.str [97, 98, 99, 100, 101, 102, 103, 104, 105, 106, 107, 108, 109, 110, 111, 112, 113, 114, 115, 116, 117, 118, 119, 120, 121, 122])) (E.call (Str.ofString "_law_draw") [E.v 0, E.c (D.int 26)])))]
def ir__law_name : Df := { names := 5, pars := 2, dfl := [], body := [St.asg (T.nm 2 false) (E.c (D.str [])), St.loop ir__law_name_t1 (It.rng [E.bin (Operator.Add) (E.c (D.int 1)) (E.call (Str.ofString "_law_draw") [E.v 0, E.c (D.int 8)])]) ir__law_name_b1, St.asg (T.nm 4 false) (E.bin (Operator.Add) (E.c (D.int 1)) (E.call (Str.ofString "_law_draw") [E.v 0, E.bif (Bif.len) [E.v 2]])), St.ret (some (E.bin (Operator.Add) (E.bin (Operator.Add) (E.sli (E.v 2) none (some (E.v 4))) (E.bif (Bif.str) [E.v 1])) (E.sli (E.v 2) (some (E.v 4)) none)))] }
def ir__law_names_t1 : T := T.nm 2 false
def ir__law_names_e1 : E := E.call (Str.ofString "_law_name") [E.v 0, E.v 2]
def ir__law_names : Df := { names := 3, pars := 2, dfl := [], body := [St.ret (some (E.call (Str.ofString "_law_shuffled") [E.v 0, E.comp [2] ir__law_names_t1 (It.rng [E.v 1]) [] ir__law_names_e1]))] }
def ir__law_same_t1 : T := T.tup [T.nm 2 false, T.nm 3 false]
def ir__law_same_e1 : E := E.call (Str.ofString "_law_same") [E.v 2, E.v 3]
def ir__law_same : Df := { names := 4, pars := 2, dfl := [], body := [St.cond (E.isi (E.v 1) [(Str.ofString "tuple")]) [St.ret (some (E.and [E.isi (E.v 0) [(Str.ofString "tuple")], E.cmp (CmpOp.Eq) (E.bif (Bif.len) [E.v 0]) (E.bif (Bif.len) [E.v 1]), E.bif (Bif.all) [E.comp [2, 3] ir__law_same_t1 (It.zip (E.v 0) (E.v 1)) [] ir__law_same_e1]]))] [], St.cond (E.cmp (CmpOp.Is) (E.v 1) (E.c (D.non))) [St.ret (some (E.cmp (CmpOp.Is) (E.v 0) (E.c (D.non))))] [], St.cond (E.cmp (CmpOp.Is) (E.v 1) (E.c (D.bl true))) [St.ret (some (E.cmp (CmpOp.Is) (E.v 0) (E.c (D.bl true))))] [], St.cond (E.cmp (CmpOp.Is) (E.v 1) (E.c (D.bl false))) [St.ret (some (E.cmp (CmpOp.Is) (E.v 0) (E.c (D.bl false))))] [], St.cond (E.isi (E.v 1) [(Str.ofString "int")]) [St.ret (some (E.and [E.isi (E.v 0) [(Str.ofString "int")], E.not (E.isi (E.v 0) [(Str.ofString "bool")]), E.cmp (CmpOp.Eq) (E.v 0) (E.v 1)]))] [], St.ret (some (E.and [E.isi (E.v 0) [(Str.ofString "str")], E.cmp (CmpOp.Eq) (E.v 0) (E.v 1)]))] }
def ir__law_is_whole : Df := { names := 3, pars := 3, dfl := [], body := [St.ret (some (E.and [E.isi (E.v 0) [(Str.ofString "int")], E.not (E.isi (E.v 0) [(Str.ofString "bool")]), E.chain (CmpOp.LtE) (CmpOp.LtE) (E.v 1) (E.v 0) (E.v 2)]))] }
def ir__law_is_name_t1 : T := T.nm 1 false
def ir__law_is_name_i1 : List E := [E.cmp (CmpOp.NotIn) (E.v 1) (E.c (D.str [97, 98, 99, 100, 101, 102, 103, 104, 105, 106, 107, 108, 109, 110, 111, 112, 113, 114, 115, 116, 117, 118, 119, 120, 121, 122, 48, 49, 50, 51, 52, 53, 54, 55, 56, 57]))]
def ir__law_is_name_e1 : E := E.v 1
def ir__law_is_name : Df := { names := 2, pars := 1, dfl := [], body := [St.cond (E.or [E.not (E.isi (E.v 0) [(Str.ofString "str")]), E.not (E.chain (CmpOp.LtE) (CmpOp.LtE) (E.c (D.int 1)) (E.bif (Bif.len) [E.v 0]) (E.c (D.int 12))), E.cmp (CmpOp.NotIn) (E.sub (E.v 0) (E.c (D.int 0))) (E.c (D.str [97, 98, 99, 100, 101, 102, 103, 104, 105, 106, 107, 108, 109, 110, 111, 112, 113, 114, 115, 116, 117, 118, 119, 120, 121, 122]))]) [St.ret (some (E.c (D.bl false)))] [], St.ret (some (E.cmp (CmpOp.Eq) (E.comp [1] ir__law_is_name_t1 (It.seq (E.v 0)) ir__law_is_name_i1 ir__law_is_name_e1) (E.lst [])))] }
def ir__law_calls : Df := { names := 2, pars := 2, dfl := [], body := [St.ret (some (E.bif (Bif.tuple) [E.bif (Bif.sorted) [E.call (Str.ofString "_law_names") [E.v 0, E.v 1]]]))] }
def ir__law_some_task_t1 : T := T.nm 7 false
def ir__law_some_task_i1 : List E := [E.cmp (CmpOp.NotEq) (E.v 7) (E.v 6)]
def ir__law_some_task_e1 : E := E.v 7
def ir__law_some_task_c2 : E := E.cmp (CmpOp.Gt) (E.v 9) (E.c (D.int 0))
def ir__law_some_task_b2 : List PyE.St := [St.asg (T.nm 10 false) (E.ite (E.cmp (CmpOp.Eq) (E.bif (Bif.len) [E.m 8]) (E.c (D.int 5))) (E.v 9) (E.bin (Operator.Add) (E.c (D.int 1)) (E.call (Str.ofString "_law_draw") [E.v 0, E.ite (E.cmp (CmpOp.NotEq) (E.m 8) (E.lst [])) (E.v 9) (E.bin (Operator.Sub) (E.v 9) (E.c (D.int 1)))]))), St.expr (E.met (Met.append) (E.m 8) [E.ite (E.cmp (CmpOp.Gt) (E.v 3) (E.c (D.int 0))) (E.call (Str.ofString "_law_some_task") [E.v 0, E.v 1, E.v 10, E.bif (Bif.max) [E.c (D.int 0), E.bin (Operator.Sub) (E.v 3) (E.c (D.int 1))]]) (E.tup [E.c (D.str [100, 111]), E.call (Str.ofString "_law_pick") [E.v 0, E.v 1]])]), St.asg (T.nm 9 false) (E.bin (Operator.Sub) (E.v 9) (E.ite (E.cmp (CmpOp.Gt) (E.v 3) (E.c (D.int 0))) (E.v 10) (E.c (D.int 1))))]
def ir__law_some_task : Df := { names := 11, pars := 4, dfl := [], body := [St.asg (T.nm 4 false) (E.lst [E.c (D.str [97, 108, 108]), E.c (D.str [97, 110, 121]), E.c (D.str [114, 111, 119]), E.c (D.str [114, 111, 119])]), St.cond (E.and [E.cmp (CmpOp.Eq) (E.v 2) (E.c (D.int 1)), E.or [E.cmp (CmpOp.Eq) (E.v 3) (E.c (D.int 0)), E.cmp (CmpOp.Gt) (E.call (Str.ofString "_law_draw") [E.v 0, E.c (D.int 3)]) (E.c (D.int 0))]]) [St.ret (some (E.tup [E.c (D.str [100, 111]), E.call (Str.ofString "_law_pick") [E.v 0, E.v 1]]))] [], St.asg (T.nm 5 false) (E.call (Str.ofString "_law_draw") [E.v 0, E.c (D.int 6)]), St.cond (E.and [E.cmp (CmpOp.Gt) (E.v 3) (E.c (D.int 0)), E.cmp (CmpOp.Eq) (E.v 5) (E.c (D.int 0))]) [St.ret (some (E.tup [E.c (D.str [116, 105, 109, 101, 115]), E.bin (Operator.Add) (E.c (D.int 2)) (E.call (Str.ofString "_law_draw") [E.v 0, E.c (D.int 2)]), E.call (Str.ofString "_law_some_task") [E.v 0, E.v 1, E.v 2, E.bin (Operator.Sub) (E.v 3) (E.c (D.int 1))]]))] [], St.cond (E.and [E.cmp (CmpOp.Gt) (E.v 3) (E.c (D.int 0)), E.cmp (CmpOp.Eq) (E.v 5) (E.c (D.int 1)), E.cmp (CmpOp.Gt) (E.bif (Bif.len) [E.v 1]) (E.c (D.int 1))]) [St.asg (T.nm 6 false) (E.call (Str.ofString "_law_pick") [E.v 0, E.v 1]), St.ret (some (E.tup [E.c (D.str [117, 110, 108, 101, 115, 115]), E.v 6, E.call (Str.ofString "_law_some_task") [E.v 0, E.comp [7] ir__law_some_task_t1 (It.seq (E.v 1)) ir__law_some_task_i1 ir__law_some_task_e1, E.v 2, E.bin (Operator.Sub) (E.v 3) (E.c (D.int 1))]]))] [], St.cond (E.cmp (CmpOp.Eq) (E.v 2) (E.c (D.int 1))) [St.ret (some (E.tup [E.c (D.str [100, 111]), E.call (Str.ofString "_law_pick") [E.v 0, E.v 1]]))] [], St.asg2 8 true 9 false (E.lst []) (E.v 2), St.whl ir__law_some_task_c2 ir__law_some_task_b2, St.cond (E.cmp (CmpOp.Eq) (E.bif (Bif.len) [E.m 8]) (E.c (D.int 1))) [St.ret (some (E.sub (E.m 8) (E.c (D.int 0))))] [], St.ret (some (E.tup [E.call (Str.ofString "_law_pick") [E.v 0, E.v 4], E.bif (Bif.tuple) [E.sli (E.m 8) none (some (E.c (D.int 6)))]]))] }
def ir__law_parts : Df := { names := 1, pars := 1, dfl := [], body := [St.ret (some (E.ite (E.cmp (CmpOp.In) (E.sub (E.v 0) (E.c (D.int 0))) (E.lst [E.c (D.str [97, 108, 108]), E.c (D.str [97, 110, 121]), E.c (D.str [114, 111, 119])])) (E.bif (Bif.list) [E.sub (E.v 0) (E.c (D.int 1))]) (E.ite (E.cmp (CmpOp.In) (E.sub (E.v 0) (E.c (D.int 0))) (E.lst [E.c (D.str [116, 105, 109, 101, 115]), E.c (D.str [117, 110, 108, 101, 115, 115])])) (E.lst [E.sub (E.v 0) (E.c (D.int 2))]) (E.lst []))))] }
def ir__law_many_do_t1 : T := T.nm 1 false
def ir__law_many_do_e1 : E := E.call (Str.ofString "_law_many_do") [E.v 1]
def ir__law_many_do : Df := { names := 2, pars := 1, dfl := [], body := [St.ret (some (E.ite (E.cmp (CmpOp.Eq) (E.sub (E.v 0) (E.c (D.int 0))) (E.c (D.str [100, 111]))) (E.c (D.int 1)) (E.bif (Bif.sum) [E.comp [1] ir__law_many_do_t1 (It.seq (E.call (Str.ofString "_law_parts") [E.v 0])) [] ir__law_many_do_e1])))] }
def ir__law_task_names_t1 : T := T.nm 2 false
def ir__law_task_names_b1 : List PyE.St := [St.asg (T.nm 1 false) (E.bin (Operator.Add) (E.v 1) (E.call (Str.ofString "_law_task_names") [E.v 2]))]
def ir__law_task_names : Df := { names := 3, pars := 1, dfl := [], body := [St.asg (T.nm 1 false) (E.ite (E.cmp (CmpOp.In) (E.sub (E.v 0) (E.c (D.int 0))) (E.lst [E.c (D.str [100, 111]), E.c (D.str [117, 110, 108, 101, 115, 115])])) (E.lst [E.sub (E.v 0) (E.c (D.int 1))]) (E.lst [])), St.loop ir__law_task_names_t1 (It.seq (E.call (Str.ofString "_law_parts") [E.v 0])) ir__law_task_names_b1, St.ret (some (E.bif (Bif.sortedSet) [E.v 1]))] }
def ir__law_is_task_call : Df := { names := 1, pars := 1, dfl := [], body := [St.ret (some (E.and [E.call (Str.ofString "_law_is_name") [E.v 0], E.cmp (CmpOp.NotIn) (E.v 0) (E.lst [E.c (D.str [97, 108, 108]), E.c (D.str [97, 110, 121]), E.c (D.str [114, 111, 119]), E.c (D.str [116, 105, 109, 101, 115]), E.c (D.str [117, 110, 108, 101, 115, 115])])]))] }
def ir__law_is_formed_t1 : T := T.nm 3 false
def ir__law_is_formed_i1 : List E := [E.not (E.call (Str.ofString "_law_is_formed") [E.v 3, E.v 1, E.bin (Operator.Sub) (E.v 2) (E.c (D.int 1))])]
def ir__law_is_formed_e1 : E := E.v 3
def ir__law_is_formed : Df := { names := 4, pars := 3, dfl := [], body := [St.cond (E.or [E.cmp (CmpOp.Eq) (E.v 2) (E.c (D.int 0)), E.not (E.isi (E.v 0) [(Str.ofString "tuple")]), E.cmp (CmpOp.Lt) (E.bif (Bif.len) [E.v 0]) (E.c (D.int 2)), E.not (E.isi (E.sub (E.v 0) (E.c (D.int 0))) [(Str.ofString "str")])]) [St.ret (some (E.c (D.bl false)))] [], St.cond (E.cmp (CmpOp.Eq) (E.sub (E.v 0) (E.c (D.int 0))) (E.c (D.str [100, 111]))) [St.ret (some (E.and [E.cmp (CmpOp.Eq) (E.bif (Bif.len) [E.v 0]) (E.c (D.int 2)), E.call (Str.ofString "_law_is_task_call") [E.sub (E.v 0) (E.c (D.int 1))], E.cmp (CmpOp.NotIn) (E.sub (E.v 0) (E.c (D.int 1))) (E.v 1)]))] [], St.cond (E.cmp (CmpOp.In) (E.sub (E.v 0) (E.c (D.int 0))) (E.lst [E.c (D.str [97, 108, 108]), E.c (D.str [97, 110, 121]), E.c (D.str [114, 111, 119])])) [St.cond (E.or [E.cmp (CmpOp.NotEq) (E.bif (Bif.len) [E.v 0]) (E.c (D.int 2)), E.not (E.isi (E.sub (E.v 0) (E.c (D.int 1))) [(Str.ofString "tuple")]), E.not (E.chain (CmpOp.LtE) (CmpOp.LtE) (E.c (D.int 2)) (E.bif (Bif.len) [E.sub (E.v 0) (E.c (D.int 1))]) (E.c (D.int 6)))]) [St.ret (some (E.c (D.bl false)))] [], St.ret (some (E.cmp (CmpOp.Eq) (E.comp [3] ir__law_is_formed_t1 (It.seq (E.sub (E.v 0) (E.c (D.int 1)))) ir__law_is_formed_i1 ir__law_is_formed_e1) (E.lst [])))] [], St.cond (E.cmp (CmpOp.NotEq) (E.bif (Bif.len) [E.v 0]) (E.c (D.int 3))) [St.ret (some (E.c (D.bl false)))] [], St.cond (E.cmp (CmpOp.Eq) (E.sub (E.v 0) (E.c (D.int 0))) (E.c (D.str [116, 105, 109, 101, 115]))) [St.ret (some (E.and [E.call (Str.ofString "_law_is_whole") [E.sub (E.v 0) (E.c (D.int 1)), E.c (D.int 2), E.c (D.int 5)], E.call (Str.ofString "_law_is_formed") [E.sub (E.v 0) (E.c (D.int 2)), E.v 1, E.bin (Operator.Sub) (E.v 2) (E.c (D.int 1))]]))] [], St.ret (some (E.and [E.cmp (CmpOp.Eq) (E.sub (E.v 0) (E.c (D.int 0))) (E.c (D.str [117, 110, 108, 101, 115, 115])), E.call (Str.ofString "_law_is_task_call") [E.sub (E.v 0) (E.c (D.int 1))], E.cmp (CmpOp.NotIn) (E.sub (E.v 0) (E.c (D.int 1))) (E.v 1), E.call (Str.ofString "_law_is_formed") [E.sub (E.v 0) (E.c (D.int 2)), E.bin (Operator.Add) (E.v 1) (E.lst [E.sub (E.v 0) (E.c (D.int 1))]), E.bin (Operator.Sub) (E.v 2) (E.c (D.int 1))]]))] }
def ir__law_is_task : Df := { names := 1, pars := 1, dfl := [], body := [St.ret (some (E.and [E.call (Str.ofString "_law_is_formed") [E.v 0, E.lst [], E.c (D.int 9)], E.cmp (CmpOp.LtE) (E.call (Str.ofString "_law_many_do") [E.v 0]) (E.c (D.int 10))]))] }
def ir__law_bent : Df := { names := 7, pars := 3, dfl := [], body := [St.cond (E.and [E.cmp (CmpOp.In) (E.sub (E.v 1) (E.c (D.int 0))) (E.lst [E.c (D.str [97, 108, 108]), E.c (D.str [97, 110, 121]), E.c (D.str [114, 111, 119])]), E.cmp (CmpOp.Gt) (E.call (Str.ofString "_law_draw") [E.v 0, E.c (D.int 3)]) (E.c (D.int 0))]) [St.asg (T.nm 3 false) (E.call (Str.ofString "_law_draw") [E.v 0, E.bif (Bif.len) [E.sub (E.v 1) (E.c (D.int 1))]]), St.ret (some (E.tup [E.sub (E.v 1) (E.c (D.int 0)), E.bin (Operator.Add) (E.bin (Operator.Add) (E.sli (E.sub (E.v 1) (E.c (D.int 1))) none (some (E.v 3))) (E.tup [E.call (Str.ofString "_law_bent") [E.v 0, E.sub (E.sub (E.v 1) (E.c (D.int 1))) (E.v 3), E.v 2]])) (E.sli (E.sub (E.v 1) (E.c (D.int 1))) (some (E.bin (Operator.Add) (E.v 3) (E.c (D.int 1)))) none)]))] [], St.cond (E.and [E.cmp (CmpOp.In) (E.sub (E.v 1) (E.c (D.int 0))) (E.lst [E.c (D.str [116, 105, 109, 101, 115]), E.c (D.str [117, 110, 108, 101, 115, 115])]), E.cmp (CmpOp.Eq) (E.call (Str.ofString "_law_draw") [E.v 0, E.c (D.int 2)]) (E.c (D.int 0))]) [St.ret (some (E.tup [E.sub (E.v 1) (E.c (D.int 0)), E.sub (E.v 1) (E.c (D.int 1)), E.call (Str.ofString "_law_bent") [E.v 0, E.sub (E.v 1) (E.c (D.int 2)), E.v 2]]))] [], St.asg2 4 false 5 false (E.call (Str.ofString "_law_pick") [E.v 0, E.v 2]) (E.call (Str.ofString "_law_pick") [E.v 0, E.v 2]), St.asg (T.nm 6 false) (E.lst [E.tup [E.sub (E.v 1) (E.c (D.int 0))], E.bin (Operator.Add) (E.v 1) (E.tup [E.v 1]), E.bif (Bif.list) [E.v 1], E.tup [E.c (D.str [98, 111, 116, 104]), E.tup [E.v 1, E.v 1]], E.tup [E.c (D.str [97, 108, 108]), E.tup [E.v 1]], E.tup [E.c (D.str [114, 111, 119]), E.lst [E.v 1, E.v 1]], E.tup [E.c (D.str [97, 110, 121]), E.tup [E.v 1, E.v 1]], E.tup [E.c (D.str [97, 108, 108]), E.bin (Operator.Mult) (E.tup [E.v 1]) (E.c (D.int 6))], E.tup [E.c (D.str [114, 111, 119]), E.bin (Operator.Mult) (E.tup [E.v 1]) (E.c (D.int 7))], E.tup [E.c (D.str [97, 110, 121]), E.v 1]]), St.asg (T.nm 6 false) (E.bin (Operator.Add) (E.v 6) (E.lst [E.tup [E.c (D.str [116, 105, 109, 101, 115]), E.c (D.int 1), E.v 1], E.tup [E.c (D.str [116, 105, 109, 101, 115]), E.c (D.int 2), E.v 1], E.tup [E.c (D.str [116, 105, 109, 101, 115]), E.c (D.int 5), E.v 1], E.tup [E.c (D.str [116, 105, 109, 101, 115]), E.c (D.int 6), E.v 1], E.tup [E.c (D.str [116, 105, 109, 101, 115]), E.c (D.bl true), E.v 1], E.tup [E.c (D.str [116, 105, 109, 101, 115]), E.v 1], E.tup [E.c (D.str [116, 105, 109, 101, 115]), E.c (D.int 2), E.tup [E.v 1]], E.tup [E.c (D.str [116, 105, 109, 101, 115]), E.c (D.str [50]), E.v 1]])), St.asg (T.nm 6 false) (E.bin (Operator.Add) (E.v 6) (E.lst [E.tup [E.c (D.str [117, 110, 108, 101, 115, 115]), E.v 4, E.v 1], E.tup [E.c (D.str [117, 110, 108, 101, 115, 115]), E.c (D.str [122, 122]), E.v 1], E.tup [E.c (D.str [117, 110, 108, 101, 115, 115]), E.c (D.str [97, 110, 121]), E.v 1], E.tup [E.c (D.str [117, 110, 108, 101, 115, 115]), E.c (D.non), E.v 1], E.tup [E.c (D.str [117, 110, 108, 101, 115, 115]), E.v 4, E.tup [E.c (D.str [117, 110, 108, 101, 115, 115]), E.v 4, E.tup [E.c (D.str [100, 111]), E.c (D.str [122, 122])]]], E.tup [E.c (D.str [117, 110, 108, 101, 115, 115]), E.v 4, E.tup [E.c (D.str [117, 110, 108, 101, 115, 115]), E.c (D.str [122, 122]), E.tup [E.c (D.str [100, 111]), E.v 5]]]])), St.asg (T.nm 6 false) (E.bin (Operator.Add) (E.v 6) (E.lst [E.tup [E.c (D.str [100, 111]), E.v 4], E.tup [E.c (D.str [100, 111]), E.c (D.str [97, 108, 108])], E.tup [E.c (D.str [100, 111]), E.c (D.str [117, 110, 108, 101, 115, 115])], E.tup [E.c (D.str [100, 111]), E.c (D.str [49, 97])], E.tup [E.c (D.str [100, 111]), E.c (D.non)], E.tup [E.c (D.str [100, 111])], E.tup [E.c (D.str [100, 111]), E.v 4, E.v 5], E.tup [E.c (D.non), E.v 4], E.tup [], E.c (D.non), E.c (D.int 5), E.sub (E.v 1) (E.c (D.int 0)), E.tup [E.c (D.str [100, 111]), E.tup [E.v 4]]])), St.ret (some (E.call (Str.ofString "_law_pick") [E.v 0, E.v 6]))] }
def ir__law_judged : Df := { names := 1, pars := 1, dfl := [], body := [St.ret (some (E.call (Str.ofString "_law_same") [E.call (Str.ofString "is_task") [E.v 0], E.call (Str.ofString "_law_is_task") [E.v 0]]))] }
def ir_law_k03_t1 : T := T.nm 5 false
def ir_law_k03_b1 : List PyE.St := [St.asg (T.nm 6 false) (E.call (Str.ofString "_law_bent") [E.v 1, E.v 4, E.v 3]), St.cond (E.or [E.not (E.call (Str.ofString "_law_judged") [E.v 6]), E.not (E.call (Str.ofString "_law_judged") [E.tup [E.c (D.str [117, 110, 108, 101, 115, 115]), E.sub (E.v 3) (E.c (D.int 0)), E.v 6]]), E.not (E.call (Str.ofString "_law_judged") [E.tup [E.c (D.str [114, 111, 119]), E.tup [E.v 4, E.v 6]]])]) [St.ret (some (E.c (D.bl false)))] []]
def ir_law_k03_t2 : T := T.nm 2 false
def ir_law_k03_b2 : List PyE.St := [St.asg (T.nm 3 false) (E.call (Str.ofString "_law_calls") [E.v 1, E.bin (Operator.Add) (E.c (D.int 1)) (E.call (Str.ofString "_law_draw") [E.v 1, E.c (D.int 4)])]), St.asg (T.nm 4 false) (E.call (Str.ofString "_law_some_task") [E.v 1, E.bif (Bif.list) [E.v 3], E.bin (Operator.Add) (E.c (D.int 1)) (E.call (Str.ofString "_law_draw") [E.v 1, E.c (D.int 12)]), E.c (D.int 4)]), St.cond (E.not (E.call (Str.ofString "_law_judged") [E.v 4])) [St.ret (some (E.c (D.bl false)))] [], St.cond (E.and [E.call (Str.ofString "_law_is_task") [E.v 4], E.cmp (CmpOp.NotEq) (E.bif (Bif.repr) [E.call (Str.ofString "calls_of") [E.v 4]]) (E.bif (Bif.repr) [E.bif (Bif.tuple) [E.call (Str.ofString "_law_task_names") [E.v 4]]])]) [St.ret (some (E.c (D.bl false)))] [], St.loop ir_law_k03_t1 (It.rng [E.c (D.int 6)]) ir_law_k03_b1]
def ir_law_k03_t3 : T := T.nm 2 false
def ir_law_k03_b3 : List PyE.St := [St.asg (T.nm 7 false) (E.call (Str.ofString "_law_pick") [E.v 1, E.lst [E.tup [E.c (D.str [116, 105, 109, 101, 115]), E.c (D.int 2), E.v 7], E.tup [E.c (D.str [117, 110, 108, 101, 115, 115]), E.bin (Operator.Add) (E.c (D.str [98])) (E.bin (Operator.Mult) (E.c (D.str [120])) (E.v 2)), E.v 7], E.tup [E.c (D.str [97, 110, 121]), E.ite (E.cmp (CmpOp.Lt) (E.v 2) (E.c (D.int 4))) (E.tup [E.v 7, E.tup [E.c (D.str [100, 111]), E.c (D.str [97])]]) (E.bin (Operator.Add) (E.sli (E.tup [E.v 7, E.v 7]) none (some (E.c (D.int 1)))) (E.tup [E.tup [E.c (D.str [100, 111]), E.c (D.str [99])]]))]]]), St.cond (E.not (E.call (Str.ofString "_law_judged") [E.v 7])) [St.ret (some (E.c (D.bl false)))] []]
def ir_law_k03_t4 : T := T.nm 2 false
def ir_law_k03_b4 : List PyE.St := [St.asg (T.nm 8 false) (E.tup [E.call (Str.ofString "_law_pick") [E.v 1, E.lst [E.c (D.str [97, 108, 108]), E.c (D.str [97, 110, 121]), E.c (D.str [114, 111, 119])]], E.tup [E.v 8, E.v 8]])]
def ir_law_k03_t5 : T := T.nm 2 false
def ir_law_k03_b5 : List PyE.St := [St.asg (T.nm 9 false) (E.tup [E.c (D.str [116, 105, 109, 101, 115]), E.c (D.int 2), E.v 9])]
def ir_law_k03 : Df := { names := 10, pars := 1, dfl := [], body := [St.asg (T.nm 1 false) (E.call (Str.ofString "_law_pen") [E.v 0]), St.loop ir_law_k03_t2 (It.rng [E.c (D.int 5)]) ir_law_k03_b2, St.asg (T.nm 7 false) (E.tup [E.c (D.str [100, 111]), E.c (D.str [97])]), St.loop ir_law_k03_t3 (It.rng [E.c (D.int 11)]) ir_law_k03_b3, St.asg (T.nm 8 false) (E.tup [E.c (D.str [100, 111]), E.c (D.str [97])]), St.loop ir_law_k03_t4 (It.rng [E.c (D.int 50)]) ir_law_k03_b4, St.asg (T.nm 9 false) (E.tup [E.c (D.str [100, 111]), E.c (D.str [97])]), St.loop ir_law_k03_t5 (It.rng [E.c (D.int 3000)]) ir_law_k03_b5, St.ret (some (E.and [E.cmp (CmpOp.Is) (E.call (Str.ofString "is_task") [E.v 8]) (E.c (D.bl false)), E.cmp (CmpOp.Is) (E.call (Str.ofString "is_task") [E.v 9]) (E.c (D.bl false)), E.call (Str.ofString "_law_judged") [E.call (Str.ofString "_law_pick") [E.v 1, E.lst [E.c (D.non), E.c (D.int 5), E.c (D.str [100, 111]), E.dct [] [], E.lst [E.c (D.str [100, 111]), E.c (D.str [97])], E.c (D.bl true), E.tup [E.c (D.str [100, 111])], E.tup [E.tup []], E.tup [E.c (D.int 5), E.c (D.str [97])]]]]]))] }
namespace k03
def G : Pg := { defs := fun f => if f = "is_whole" then some ir_is_whole else if f = "ascending" then some ir_ascending else if f = "is_name" then some ir_is_name else if f = "is_call_name" then some ir_is_call_name else if f = "do_among" then some ir_do_among else if f = "do_in" then some ir_do_in else if f = "is_task" then some ir_is_task else if f = "names_in" then some ir_names_in else if f = "calls_of" then some ir_calls_of else if f = "_law_pen" then some ir__law_pen else if f = "_law_draw" then some ir__law_draw else if f = "_law_pick" then some ir__law_pick else if f = "_law_shuffled" then some ir__law_shuffled else if f = "_law_name" then some ir__law_name else if f = "_law_names" then some ir__law_names else if f = "_law_same" then some ir__law_same else if f = "_law_is_whole" then some ir__law_is_whole else if f = "_law_is_name" then some ir__law_is_name else if f = "_law_calls" then some ir__law_calls else if f = "_law_some_task" then some ir__law_some_task else if f = "_law_parts" then some ir__law_parts else if f = "_law_many_do" then some ir__law_many_do else if f = "_law_task_names" then some ir__law_task_names else if f = "_law_is_task_call" then some ir__law_is_task_call else if f = "_law_is_formed" then some ir__law_is_formed else if f = "_law_is_task" then some ir__law_is_task else if f = "_law_bent" then some ir__law_bent else if f = "_law_judged" then some ir__law_judged else if f = "law" then some ir_law_k03 else none, lams := fun _ => none, xf := fun _ => none, under := fun _ _ => false }
end k03
end Lw
end
section
set_option linter.all false
set_option maxRecDepth 10000
set_option maxHeartbeats 2000000
/-! PenLib: the source of draws. -/
namespace Lw
open PySem PyE
structure PenG (G : Pg) : Prop where
  pen : G.defs "_law_pen" = some ir__law_pen
  draw : G.defs "_law_draw" = some ir__law_draw
  pick : G.defs "_law_pick" = some ir__law_pick
def penL (cells : List Int) (at' dig cnt fold : Int) : List (D × D) :=
  [(.str [99, 101, 108, 108, 115], .lst (cells.map .int)), (.str [97, 116], .int at'), (.str [100, 105, 103, 105, 116, 115], .int dig), (.str [99, 111, 117, 110, 116], .int cnt), (.str [102, 111, 108, 100], .int fold)]
def Pen (c : Nat) (o : Ob) : Prop := ∃ cells at' dig cnt fold, o = .dct (penL cells at' dig cnt fold) ∧ 0 ≤ at' ∧ 0 ≤ dig ∧ 0 ≤ cnt ∧ cnt ≤ c ∧ 0 ≤ fold ∧ fold < 4294967296
@[simp] theorem get_cells (cells : List Int) (a d c f : Int) : getK (penL cells a d c f) (.str [99, 101, 108, 108, 115]) = some (.lst (cells.map .int)) := by simp [penL, getK]
@[simp] theorem get_at (cells : List Int) (a d c f : Int) : getK (penL cells a d c f) (.str [97, 116]) = some (.int a) := by simp [penL, getK]
@[simp] theorem get_dig (cells : List Int) (a d c f : Int) : getK (penL cells a d c f) (.str [100, 105, 103, 105, 116, 115]) = some (.int d) := by simp [penL, getK]
@[simp] theorem get_cnt (cells : List Int) (a d c f : Int) : getK (penL cells a d c f) (.str [99, 111, 117, 110, 116]) = some (.int c) := by simp [penL, getK]
@[simp] theorem get_fold (cells : List Int) (a d c f : Int) : getK (penL cells a d c f) (.str [102, 111, 108, 100]) = some (.int f) := by simp [penL, getK]
@[simp] theorem put_at (cells : List Int) (a d c f x : Int) : putK (penL cells a d c f) (.str [97, 116]) (.int x) = penL cells x d c f := by simp [penL, putK]
@[simp] theorem put_dig (cells : List Int) (a d c f x : Int) : putK (penL cells a d c f) (.str [100, 105, 103, 105, 116, 115]) (.int x) = penL cells a x c f := by simp [penL, putK]
@[simp] theorem put_cnt (cells : List Int) (a d c f x : Int) : putK (penL cells a d c f) (.str [99, 111, 117, 110, 116]) (.int x) = penL cells a d x f := by simp [penL, putK]
@[simp] theorem put_fold (cells : List Int) (a d c f x : Int) : putK (penL cells a d c f) (.str [102, 111, 108, 100]) (.int x) = penL cells a d c x := by simp [penL, putK]
@[simp] theorem pen_len (cells : List Int) (a d c f : Int) : (penL cells a d c f).length < SL := by simp [penL, SL]
section
variable {G : Pg} (H : PenG G)
theorem draw_fin1 {p c : Nat} {many a d n f : Int} {cells : List Int} (st : List Ob) (ha : 0 ≤ a) (hd : 0 < d) (hn : 0 ≤ n) (hnc : n ≤ c) (hf : 0 ≤ f) (hf2 : f < 4294967296) (h0 : 0 < many) :
    ∃ (i : Nat) (o' : Ob), (i : Int) < many ∧ Pen (c + 1) o' ∧ RF.ok (.int (d % many)) false (st.set p (.dct (penL cells a (d / many) (n + 1) f))) = .ok (.int i) false (st.set p o') := by
  have h1 := Int.emod_nonneg d (show many ≠ 0 by omega)
  have h2 := Int.emod_lt_of_pos d h0
  refine ⟨(d % many).toNat, .dct (penL cells a (d / many) (n + 1) f), by omega, ⟨cells, a, d / many, n + 1, f, rfl, ha, Int.ediv_nonneg (by omega) (by omega), by omega, by omega, hf, hf2⟩, ?_⟩
  rw [Int.toNat_of_nonneg h1]
theorem draw_fin2 {p c : Nat} {many a d n f x : Int} {cells : List Int} (st : List Ob) (ha : 0 ≤ a) (hd : 0 ≤ d) (hn : 0 ≤ n) (hnc : n ≤ c) (hf : 0 ≤ f) (hf2 : f < 4294967296) (h0 : 0 < many) :
    ∃ (i : Nat) (o' : Ob), (i : Int) < many ∧ Pen (c + 1) o' ∧ RF.ok (.int (x % many)) false (st.set p (.dct (penL cells a d (n + 1) f))) = .ok (.int i) false (st.set p o') := by
  have h1 := Int.emod_nonneg x (show many ≠ 0 by omega)
  have h2 := Int.emod_lt_of_pos x h0
  refine ⟨(x % many).toNat, .dct (penL cells a d (n + 1) f), by omega, ⟨cells, a, d, n + 1, f, rfl, ha, hd, by omega, by omega, hf, hf2⟩, ?_⟩
  rw [Int.toNat_of_nonneg h1]
include H
theorem draw_run (k : Nat) (st : List Ob) (p : Nat) (o : Ob) (c : Nat) (many : Int) (hp : st[p]? = some o) (hP : Pen c o) (hc : c < 1099511627776) (h0 : 0 < many) (h1 : many < 1073741824) :
    ∃ (i : Nat) (o' : Ob), (i : Int) < many ∧ Pen (c + 1) o' ∧ (G.at (k + 1)).call "_law_draw" [.ref p, .int many] st = .ok (.int i) false (st.set p o') := by
  obtain ⟨cells, a, d, n, f, rfl, ha, hd, hn, hnc, hf, hf2⟩ := hP
  have hl : p < st.length := (List.getElem?_eq_some_iff.mp hp).1
  have hr : deref st (.ref p) = .dct (penL cells a d n f) := de_ref_d hp
  have hst : ∀ x, (st.set p x)[p]? = some x := fun x => by rw [List.getElem?_set]; simp [hl]
  have hds : ∀ kvs, deref (st.set p (.dct kvs)) (.ref p) = .dct kvs := fun kvs => de_ref_d (hst _)
  clear hl
  have pw : ∀ f : Int, 0 ≤ f → f < 4294967296 → binD .Pow (.int (f + (n + 1) * 8053 + 47)) (.int 17) = some (.int ((f + (n + 1) * 8053 + 47) ^ 17), false) := fun f g g' => b_pow (by omega) (by omega) (by omega)
  by_cases hd0 : d = 0
  · subst hd0
    by_cases hal : a < (cells.length : Int)
    · obtain ⟨cell, hcell⟩ : ∃ cell, cells[a.toNat]? = some cell := ⟨cells[a.toNat]'(by omega), List.getElem?_eq_getElem (by omega)⟩
      have hat : atD (cells.map D.int) a = some (.int cell) := by
        have := atD_pos (cells.map D.int) a.toNat (by rw [List.length_map]; omega)
        rw [Int.toNat_of_nonneg ha] at this
        rw [this, List.getElem?_map, hcell]; rfl
      by_cases hbig : 1000000000000000000 ≤ cell
      · by_cases hz : cell - 1000000000000000000 = 0
        · have e : (G.at (k + 1)).call "_law_draw" [.ref p, .int many] st = RF.ok (.int ((f + (n + 1) * 8053 + 47) ^ 17 % 2305843009213693951 / 128 % many)) false (st.set p (.dct (penL cells (a + 1) 0 (n + 1) f))) := by
            have hz' : cell = 1000000000000000000 := by omega
            subst hz'
            rw [pg_run G _ _ _ _ H.draw rfl]
            simp -implicitDefEqProofs [ir__law_draw, evt_e, put, D.ty, Met.tys, Met.calm, D.isBl, D.isT, D.isL, D.plain, D.plains, D.eqv, D.eqvs, partD, sliD, okK, D.akey, itemsL, seqD, it_rng, hp, hr, hst, hds, hal, hat, pw f hf hf2, b_mul, b_mod, b_div, h0, h1, b_pow18]
          rw [e]; exact draw_fin2 st (by omega) (by omega) hn hnc hf hf2 h0
        · have hz2 : 0 < cell - 1000000000000000000 := by omega
          have hz3 : 1000000000000000000 < cell := by omega
          have e : (G.at (k + 1)).call "_law_draw" [.ref p, .int many] st = RF.ok (.int ((cell - 1000000000000000000) % many)) false (st.set p (.dct (penL cells (a + 1) ((cell - 1000000000000000000) / many) (n + 1) f))) := by
            rw [pg_run G _ _ _ _ H.draw rfl]
            simp -implicitDefEqProofs [ir__law_draw, evt_e, put, D.ty, Met.tys, Met.calm, D.isBl, D.isT, D.isL, D.plain, D.plains, D.eqv, D.eqvs, partD, sliD, okK, D.akey, itemsL, seqD, it_rng, hp, hr, hst, hds, hal, hat, hbig, hz2, hz3, b_mul, b_mod, b_div, h0, h1, b_pow18]
          rw [e]; exact draw_fin1 st (by omega) hz2 hn hnc hf hf2 h0
      · have g1 := Int.emod_nonneg (f * 70031 + cell) (show (2147483399 : Int) ≠ 0 by omega)
        have g2 := Int.emod_lt_of_pos (f * 70031 + cell) (show (0 : Int) < 2147483399 by omega)
        have e : (G.at (k + 1)).call "_law_draw" [.ref p, .int many] st = RF.ok (.int (((f * 70031 + cell) % 2147483399 + (n + 1) * 8053 + 47) ^ 17 % 2305843009213693951 / 128 % many)) false (st.set p (.dct (penL cells (a + 1) 0 (n + 1) ((f * 70031 + cell) % 2147483399)))) := by
          rw [pg_run G _ _ _ _ H.draw rfl]
          simp -implicitDefEqProofs [ir__law_draw, evt_e, put, D.ty, Met.tys, Met.calm, D.isBl, D.isT, D.isL, D.plain, D.plains, D.eqv, D.eqvs, partD, sliD, okK, D.akey, itemsL, seqD, it_rng, hp, hr, hst, hds, hal, hat, hbig, pw _ g1 (by omega), b_mul, b_mod, b_div, h0, h1, b_pow18]
        rw [e]; exact draw_fin2 st (by omega) (by omega) hn hnc g1 (by omega) h0
    · have e : (G.at (k + 1)).call "_law_draw" [.ref p, .int many] st = RF.ok (.int ((f + (n + 1) * 8053 + 47) ^ 17 % 2305843009213693951 / 128 % many)) false (st.set p (.dct (penL cells a 0 (n + 1) f))) := by
        rw [pg_run G _ _ _ _ H.draw rfl]
        simp -implicitDefEqProofs [ir__law_draw, evt_e, put, D.ty, Met.tys, Met.calm, D.isBl, D.isT, D.isL, D.plain, D.plains, D.eqv, D.eqvs, partD, sliD, okK, D.akey, itemsL, seqD, it_rng, hp, hr, hst, hds, hal, pw f hf hf2, b_mul, b_mod, b_div, h0, h1]
      rw [e]; exact draw_fin2 st (by omega) (by omega) hn hnc hf hf2 h0
  · have hd1 : 0 < d := by omega
    have e : (G.at (k + 1)).call "_law_draw" [.ref p, .int many] st = RF.ok (.int (d % many)) false (st.set p (.dct (penL cells a (d / many) (n + 1) f))) := by
      rw [pg_run G _ _ _ _ H.draw rfl]
      simp -implicitDefEqProofs [ir__law_draw, evt_e, put, D.ty, Met.tys, Met.calm, D.isBl, D.isT, D.isL, D.plain, D.plains, D.eqv, D.eqvs, partD, sliD, okK, D.akey, itemsL, seqD, it_rng, hp, hr, hst, hds, hd0, hd1, b_mul, b_mod, b_div, h0, h1]
    rw [e]; exact draw_fin1 st ha hd1 hn hnc hf hf2 h0
end
end Lw
end
section
set_option linter.all false
set_option maxRecDepth 10000
set_option maxHeartbeats 2000000
/-! PenLib2: the pen itself, picks, shuffles, names. -/
namespace Lw
open PySem PyE
section
variable {G : Pg} (H : PenG G)
include H
theorem pen_run (k : Nat) (st : List Ob) (ns : List Int) : ∃ o, Pen 0 o ∧ (G.at (k + 1)).call "_law_pen" [.giv (ns.map .int)] st = .ok (.ref st.length) false (st ++ [o]) := by
  rw [pg_run G _ _ _ _ H.pen rfl]
  have hl := forL_ok (tg := fun d s => tset (G.at k) ir__law_pen_t1 d false s) (body := fun s => exs (G.at k) ir__law_pen_b1 s) (lk := [])
    (fun r s => (∃ ms : List Int, r = ms.map .int) ∧ ∃ f x, s = ⟨[.fz (.giv (ns.map .int)), .fz (.int f), x], st⟩ ∧ 0 ≤ f ∧ f < 4294967296)
    (fun d r s ⟨⟨ms, hms⟩, f, x, hs, h0, h1⟩ => by
      cases ms with
      | nil => cases hms
      | cons m ms =>
        simp at hms
        obtain ⟨rfl, rfl⟩ := hms
        subst hs
        have g1 := Int.emod_nonneg (f * 107 + m) (show (1000000289 : Int) ≠ 0 by omega)
        have g2 := Int.emod_lt_of_pos (f * 107 + m) (show (0 : Int) < 1000000289 by omega)
        refine ⟨⟨[.fz (.giv (ns.map .int)), .fz (.int ((f * 107 + m) % 1000000289)), .fz (.int m)], st⟩, ?_, ⟨⟨ms, rfl⟩, _, _, rfl, g1, by omega⟩, rfl⟩
        simp -implicitDefEqProofs [ir__law_pen_t1, ir__law_pen_b1, evt_e, put, D.ty, Met.tys, Met.calm, D.isBl, D.isT, D.isL, D.plain, D.plains, D.eqv, D.eqvs, partD, sliD, okK, D.akey, itemsL, seqD, it_rng, b_mul, b_mod])
    (ns.map .int) ⟨[.fz (.giv (ns.map .int)), .fz (.int 17), .emp], st⟩ ⟨⟨ns, rfl⟩, 17, _, rfl, by omega, by omega⟩
  obtain ⟨s', he, -, f, x, rfl, h0, h1⟩ := hl
  refine ⟨.dct (penL ns 0 0 0 f), ⟨ns, 0, 0, 0, f, rfl, by omega, by omega, by omega, by omega, h0, h1⟩, ?_⟩
  simp only [ir__law_pen]
  simp -implicitDefEqProofs [evt_e, put, D.ty, Met.tys, Met.calm, D.isBl, D.isT, D.isL, D.plain, D.plains, D.eqv, D.eqvs, partD, sliD, okK, D.akey, itemsL, seqD, it_rng, he, bifD, itemsL, penL]
theorem pick_run (k : Nat) (st : List Ob) (p : Nat) (o : Ob) (c : Nat) (l : D) (xs : List D) (hl : l = .lst xs ∨ l = .tup xs) (hp : st[p]? = some o) (hP : Pen c o) (hc : c < 1099511627776) (h0 : xs ≠ []) (h1 : xs.length < 1073741824) :
    ∃ d o', d ∈ xs ∧ Pen (c + 1) o' ∧ (G.at (k + 2)).call "_law_pick" [.ref p, l] st = .ok d false (st.set p o') := by
  have hlen : 0 < xs.length := List.length_pos_iff.mpr h0
  obtain ⟨i, o', hi, hP', e⟩ := draw_run H k st p o c xs.length hp hP hc (by omega) (by omega)
  have hi : i < xs.length := by omega
  refine ⟨xs[i], o', List.getElem_mem hi, hP', ?_⟩
  rw [pg_run G _ _ _ _ H.pick rfl]
  have ha : atD xs (i : Int) = some xs[i] := by rw [atD_pos _ _ hi, List.getElem?_eq_getElem hi]
  rcases hl with rfl | rfl
  · simp -implicitDefEqProofs [ir__law_pick, evt_e, put, D.ty, Met.tys, Met.calm, D.isBl, D.isT, D.isL, D.plain, D.plains, D.eqv, D.eqvs, partD, sliD, okK, D.akey, itemsL, seqD, it_rng, e, subD, ha]
  · simp -implicitDefEqProofs [ir__law_pick, evt_e, put, D.ty, Met.tys, Met.calm, D.isBl, D.isT, D.isL, D.plain, D.plains, D.eqv, D.eqvs, partD, sliD, okK, D.akey, itemsL, seqD, it_rng, e, subD, ha]
end
end Lw
end
section
set_option linter.all false
set_option maxRecDepth 10000
/-! NameSort: names sorted, each once. -/
namespace Tk
open PySem PyE
theorem lt_is : ∀ x y : List Nat, ltS x y = decide (x < y)
  | [], [] => by simp [ltS]
  | [], _ :: _ => by simp [ltS]
  | _ :: _, [] => by simp [ltS]
  | x :: r, y :: q => by
    unfold ltS
    by_cases h : x = y
    · subst h
      simp [lt_is r q, List.cons_lt_cons_iff]
    · simp [h, List.cons_lt_cons_iff]
theorem addS_mem (ks : List (List Nat)) (k x : List Nat) : x ∈ addS ks k ↔ x ∈ ks ∨ x = k := by
  unfold addS
  split
  · rename_i h
    have h := List.contains_iff_mem.mp h
    exact ⟨.inl, fun z => z.elim id fun e => e ▸ h⟩
  · simp
theorem addS_nodup {ks : List (List Nat)} (k : List Nat) (h : ks.Nodup) : (addS ks k).Nodup := by
  unfold addS
  split
  · exact h
  · rename_i c
    rw [List.nodup_append]
    refine ⟨h, by simp, fun a ha b hb e => ?_⟩
    simp at hb
    subst hb; subst e
    exact c (List.contains_iff_mem.mpr ha)
theorem met_mem : ∀ (l acc : List (List Nat)) (x : List Nat), x ∈ l.foldl addS acc ↔ x ∈ acc ∨ x ∈ l
  | [], acc, x => by simp
  | k :: l, acc, x => by
    rw [List.foldl_cons, met_mem l, addS_mem, List.mem_cons, or_assoc]
theorem met_nodup : ∀ (l acc : List (List Nat)), acc.Nodup → (l.foldl addS acc).Nodup
  | [], acc, h => h
  | k :: l, acc, h => met_nodup l _ (addS_nodup k h)
theorem met_len : ∀ (l acc : List (List Nat)), (l.foldl addS acc).length ≤ acc.length + l.length
  | [], acc => by simp
  | k :: l, acc => by
    have := met_len l (addS acc k)
    have : (addS acc k).length ≤ acc.length + 1 := by unfold addS; split <;> simp
    rw [List.foldl_cons, List.length_cons]; omega
/-- names, ascending, each once -/
def sortSet (l : List (List Nat)) : List (List Nat) := (metS l).mergeSort fun a b => !ltS b a
theorem sortSet_mem (l : List (List Nat)) (x : List Nat) : x ∈ sortSet l ↔ x ∈ l := by
  unfold sortSet
  rw [(List.mergeSort_perm _ _).mem_iff]
  unfold metS
  rw [met_mem]; simp
theorem sortSet_len (l : List (List Nat)) : (sortSet l).length ≤ l.length := by
  unfold sortSet
  rw [(List.mergeSort_perm _ _).length_eq]
  have := met_len l []
  simpa [metS] using this
theorem le_trans' (a b c : List Nat) : (!ltS b a) = true → (!ltS c b) = true → (!ltS c a) = true := by
  simp only [lt_is, Bool.not_eq_true', decide_eq_false_iff_not, List.not_lt]
  exact fun h h' => List.le_trans h h'
theorem le_total' (a b : List Nat) : ((!ltS b a) || (!ltS a b)) = true := by
  simp only [lt_is, Bool.or_eq_true, Bool.not_eq_true', decide_eq_false_iff_not, List.not_lt]
  exact List.le_total a b
theorem sortSet_congr {l l' : List (List Nat)} (h : ∀ x, x ∈ l ↔ x ∈ l') : sortSet l = sortSet l' := by
  unfold sortSet
  refine List.Perm.eq_of_pairwise (le := fun a b => (!ltS b a) = true) (fun a b _ _ h1 h2 => ?_) (List.pairwise_mergeSort le_trans' le_total' _) (List.pairwise_mergeSort le_trans' le_total' _) ?_
  · simp only [lt_is, Bool.not_eq_true', decide_eq_false_iff_not, List.not_lt] at h1 h2
    exact List.le_antisymm h1 h2
  · refine (List.mergeSort_perm _ _).trans (List.Perm.trans ?_ (List.mergeSort_perm _ _).symm)
    refine (List.perm_ext_iff_of_nodup (met_nodup l [] List.nodup_nil) (met_nodup l' [] List.nodup_nil)).mpr fun x => ?_
    rw [met_mem, met_mem]
    simpa using h x
/-- the names in a task, as the program finds them -/
def namesT : Nat → D → List (List Nat)
  | 0, _ => []
  | n + 1, .tup [.str k, x] => if k = kDo then match x with | .str s => [s] | _ => [] else match x with
    | .tup ps => ps.flatMap (namesT n)
    | _ => []
  | n + 1, .tup [.str k, x, t] => (if k = kUnless then match x with | .str s => [s] | _ => [] else []) ++ namesT n t
  | _ + 1, _ => []
/-- as the law finds them -/
def namesL : Nat → D → List (List Nat)
  | 0, _ => []
  | n + 1, .tup [.str k, x] => if k = kDo then match x with | .str s => sortSet [s] | _ => [] else match x with
    | .tup ps => sortSet (ps.flatMap (namesL n))
    | _ => []
  | n + 1, .tup [.str k, x, t] => sortSet ((if k = kUnless then match x with | .str s => [s] | _ => [] else []) ++ namesL n t)
  | _ + 1, _ => []
theorem flatMap_congr_mem {α : Type} {f g : α → List (List Nat)} {l : List α} (h : ∀ p ∈ l, ∀ x, x ∈ f p ↔ x ∈ g p) (x : List Nat) : x ∈ l.flatMap f ↔ x ∈ l.flatMap g := by
  simp only [List.mem_flatMap]
  exact ⟨fun ⟨p, hp, hx⟩ => ⟨p, hp, (h p hp x).mp hx⟩, fun ⟨p, hp, hx⟩ => ⟨p, hp, (h p hp x).mpr hx⟩⟩
theorem names_mem : ∀ (n : Nat) (v : D) (tk : List (List Nat)), formed n v tk = true → ∀ x, x ∈ namesL n v ↔ x ∈ namesT n v := by
  intro n
  induction n with
  | zero => intro v tk h; cases h
  | succ n ih =>
    intro v tk h y
    obtain ⟨m, e, h⟩ := formed_cases h
    cases e
    rcases h with ⟨x, rfl, hx, _⟩ | ⟨k, ps, rfl, hk, _, h2, _, h⟩ | ⟨x, t, rfl, _, h⟩ | ⟨s, t, rfl, _, _, h⟩
    · cases x with
      | str s => simp [namesL, namesT, sortSet_mem]
      | _ => cases hx
    · simp only [namesL, namesT, hk, if_false, sortSet_mem]
      exact flatMap_congr_mem (fun p hp x => ih p tk (h p hp) x) y
    · simp only [namesL, namesT, sortSet_mem, List.mem_append, ih t _ h y]
    · simp only [namesL, namesT, sortSet_mem, List.mem_append, ih t _ h y]
theorem sort_id (n : Nat) (v : D) (tk : List (List Nat)) (h : formed n v tk = true) : namesL n v = sortSet (namesT n v) := by
  have hm := names_mem n v tk h
  have e : namesL n v = sortSet (namesL n v) := by
    obtain ⟨m, e, h⟩ := formed_cases h
    rw [e]
    clear e hm
    have two : ∀ l, sortSet l = sortSet (sortSet l) := fun l => sortSet_congr fun x => (sortSet_mem l x).symm
    rcases h with ⟨x, rfl, hx, _⟩ | ⟨k, ps, rfl, hk, _, h2, _, h⟩ | ⟨x, t, rfl, _, h⟩ | ⟨s, t, rfl, _, _, h⟩
    · cases x with
      | str s => simp only [namesL, if_true]; exact two _
      | _ => cases hx
    · simp only [namesL, hk, if_false]; exact two _
    · simp only [namesL]; exact two _
    · simp only [namesL]; exact two _
  rw [e]
  exact sortSet_congr hm
theorem flat_len {α : Type} (f : α → List (List Nat)) (g : α → Nat) (b : Nat) : ∀ l : List α, (∀ x ∈ l, (f x).length ≤ g x * b) → (l.flatMap f).length ≤ (l.map g).sum * b
  | [], _ => by simp
  | x :: r, h => by
    have := flat_len f g b r fun y hy => h y (List.mem_cons_of_mem _ hy)
    have := h x List.mem_cons_self
    rw [List.flatMap_cons, List.length_append, List.map_cons, List.sum_cons, Nat.add_mul]; omega
theorem names_len : ∀ (n : Nat) (v : D) (tk : List (List Nat)), formed n v tk = true → (namesT n v).length ≤ manyT n v * n := by
  intro n
  induction n with
  | zero => intro v tk h; cases h
  | succ n ih =>
    intro v tk h
    have hp := many_pos _ _ _ h
    obtain ⟨m, e, h⟩ := formed_cases h
    cases e
    rcases h with ⟨x, rfl, hx, _⟩ | ⟨k, ps, rfl, hk, _, h2, _, h⟩ | ⟨x, t, rfl, _, h⟩ | ⟨s, t, rfl, _, _, h⟩
    · cases x with
      | str s => simp [namesT, manyT]
      | _ => cases hx
    · simp only [namesT, manyT, hk, if_false] at hp ⊢
      have := flat_len (namesT n) (manyT n) n ps fun p hp => ih p tk (h p hp)
      rw [Nat.mul_succ]; omega
    · have := ih t _ h
      have e : kTimes ≠ kUnless := by decide
      simp only [namesT, manyT, e, if_false, List.nil_append]
      rw [Nat.mul_succ]; omega
    · have := ih t _ h
      have hp : 1 ≤ manyT n t := hp
      simp only [namesT, manyT, if_true, List.length_append, List.length_cons, List.length_nil]
      rw [Nat.mul_succ]; omega
theorem namesL_len (n : Nat) (v : D) (tk : List (List Nat)) (h : formed n v tk = true) : (namesL n v).length ≤ manyT n v * n := by
  rw [sort_id n v tk h]
  exact Nat.le_trans (sortSet_len _) (names_len n v tk h)
/-- each name found is one -/
theorem names_ok : ∀ (n : Nat) (v : D) (tk : List (List Nat)), formed n v tk = true → ∀ x ∈ namesT n v, nameP x = true := by
  intro n
  induction n with
  | zero => intro v tk h; cases h
  | succ n ih =>
    intro v tk h y hy
    obtain ⟨m, e, h⟩ := formed_cases h
    cases e
    rcases h with ⟨x, rfl, hx, _⟩ | ⟨k, ps, rfl, hk, _, h2, _, h⟩ | ⟨x, t, rfl, _, h⟩ | ⟨s, t, rfl, hs, _, h⟩
    · cases x with
      | str s =>
        simp [namesT] at hy
        subst hy
        simp only [callNameD, Bool.and_eq_true] at hx
        exact hx.1
      | _ => cases hx
    · simp only [namesT, hk, if_false, List.mem_flatMap] at hy
      obtain ⟨p, hp, hy⟩ := hy
      exact ih p tk (h p hp) y hy
    · have e : kTimes ≠ kUnless := by decide
      simp only [namesT, e, if_false, List.nil_append] at hy
      exact ih t _ h y hy
    · simp only [namesT, if_true, List.mem_append, List.mem_singleton] at hy
      rcases hy with rfl | hy
      · simp only [callNameD, Bool.and_eq_true] at hs
        exact hs.1
      · exact ih t _ h y hy
end Tk
end
section
set_option linter.all false
set_option maxRecDepth 10000
set_option maxHeartbeats 2000000
/-! PenLib3: shuffles, names, calls. -/
namespace Lw
open PySem PyE Tk
structure NamesG (G : Pg) : Prop extends PenG G where
  shuffled : G.defs "_law_shuffled" = some ir__law_shuffled
  name : G.defs "_law_name" = some ir__law_name
  names : G.defs "_law_names" = some ir__law_names
theorem set_id {α : Type} {l : List α} {p : Nat} {o : α} (h : l[p]? = some o) : l.set p o = l := by
  obtain ⟨hl, rfl⟩ := List.getElem?_eq_some_iff.mp h
  exact List.set_getElem_self hl
theorem set_get {α : Type} {l : List α} {p : Nat} {o x : α} (h : l[p]? = some o) : (l.set p x)[p]? = some x := by
  have := (List.getElem?_eq_some_iff.mp h).1
  rw [List.getElem?_set]; simp [this]
theorem pen_mono {c c' : Nat} {o : Ob} (h : Pen c o) (hc : c ≤ c') : Pen c' o := by
  obtain ⟨cells, a, d, n, f, e, h1, h2, h3, h4, h5⟩ := h
  exact ⟨cells, a, d, n, f, e, h1, h2, h3, by omega, h5⟩
/-- a drawn name with an index in it -/
def NameOf (i : Nat) (s : List Nat) : Prop := ∃ a b, a ≠ [] ∧ (∀ x ∈ a, isLow x = true) ∧ (∀ x ∈ b, isLow x = true) ∧ a.length + b.length ≤ 8 ∧ s = a ++ strInt i ++ b
theorem abc_low {i : Nat} (h : i < 26) : ∃ x, atD [97, 98, 99, 100, 101, 102, 103, 104, 105, 106, 107, 108, 109, 110, 111, 112, 113, 114, 115, 116, 117, 118, 119, 120, 121, 122] (i : Int) = some x ∧ isLow x = true := by
  have : ∀ i : Fin 26, ∃ x, atD [97, 98, 99, 100, 101, 102, 103, 104, 105, 106, 107, 108, 109, 110, 111, 112, 113, 114, 115, 116, 117, 118, 119, 120, 121, 122] ((i : Nat) : Int) = some x ∧ isLow x = true := by decide
  exact this ⟨i, h⟩
theorem ten4 : (10 : Nat) ^ 4 = 10000 := by decide +kernel
theorem dig4 {i : Nat} (h : i < 10000) : (Nat.toDigits 10 i).length ≤ 4 := (Nat.length_toDigits_le_iff (by omega) (by omega)).mpr (by rw [ten4]; exact h)
theorem digits_len {i : Nat} (h : i < 10000) : (strInt i).length ≤ 4 := by
  unfold strInt
  rw [if_neg (by omega)]
  unfold digitsN
  rw [List.length_map, Int.natAbs_natCast]
  exact dig4 h
theorem log_ok {i : Nat} (hi : i < 1000) : i.log2 < 1920 := by
  rcases Nat.eq_zero_or_pos i with h | h
  · subst h; decide
  · exact (Nat.log2_lt (by omega)).mpr (Nat.lt_of_lt_of_le hi (by decide +kernel))
theorem erase_perm {α : Type} : ∀ (l : List α) (i : Nat) (x : α), l[i]? = some x → (x :: l.eraseIdx i).Perm l
  | [], i, x, h => by simp at h
  | y :: l, 0, x, h => by simp at h; subst h; exact .refl _
  | y :: l, i + 1, x, h => by
    simp at h
    exact (List.Perm.swap y x _).trans ((erase_perm l i x h).cons y)
section
variable {G : Pg} (H : NamesG G)
include H
theorem shuffled_run (k : Nat) (st : List Ob) (p : Nat) (o : Ob) (c : Nat) (xs : List D) (hp : st[p]? = some o) (hP : Pen c o) (hc : c < 1099511620000) (h1 : xs.length < 1000) :
    ∃ ys o', ys.Perm xs ∧ Pen (c + xs.length) o' ∧ (G.at (k + 2)).call "_law_shuffled" [.ref p, .lst xs] st = .ok (.lst ys) true (st.set p o') := by
  rw [pg_run G _ _ _ _ H.shuffled rfl]
  have hl := forL_ok (tg := fun d s => tset (G.at (k + 1)) ir__law_shuffled_t1 d false s) (body := fun s => exs (G.at (k + 1)) ir__law_shuffled_b1 s) (lk := [])
    (fun r s => ∃ left found o' x, s = ⟨[.fz (.ref p), .fz (.lst xs), .own (.lst left), .own (.lst found), x], st.set p o'⟩ ∧ Pen (c + found.length) o' ∧ left.length = r.length ∧ (found ++ left).Perm xs)
    (fun d r s ⟨left, found, o', x, hs, hP', hlen, hperm⟩ => by
      subst hs
      have hle := hperm.length_eq
      rw [List.length_append, hlen, List.length_cons] at hle
      rw [List.length_cons] at hlen
      obtain ⟨i, o2, hi, hP2, e⟩ := draw_run H.toPenG k (st.set p o') p o' (c + found.length) left.length (set_get hp) hP' (by omega) (by omega) (by omega)
      have hi : i < left.length := by omega
      rw [List.set_set] at e
      have hx : left[i]? = some left[i] := List.getElem?_eq_getElem hi
      have hix : ixD left.length (i : Int) = some i := by
        unfold ixD; rw [if_pos (by omega), if_pos (by omega), Int.toNat_natCast]
      have hz : found.length < SL := by unfold SL; omega
      refine ⟨⟨[.fz (.ref p), .fz (.lst xs), .own (.lst (left.eraseIdx i)), .own (.lst (found ++ [left[i]])), .fz d], st.set p o2⟩, ?_, ⟨_, _, o2, _, rfl, ?_, ?_, ?_⟩, rfl⟩
      · simp -implicitDefEqProofs [ir__law_shuffled_t1, ir__law_shuffled_b1, evt_e, put, D.ty, Met.tys, Met.calm, D.isBl, D.isT, D.isL, D.plain, D.plains, D.eqv, D.eqvs, partD, sliD, okK, D.akey, itemsL, seqD, it_rng, e, hix, hx, hz]
      · rw [List.length_append]; simpa [Nat.add_assoc] using hP2
      · rw [List.length_eraseIdx, if_pos hi]; omega
      · refine List.Perm.trans ?_ hperm
        rw [List.append_assoc]
        exact List.Perm.append_left _ (erase_perm left i _ hx))
    ((List.range xs.length).map fun (k : Nat) => D.int k) ⟨[.fz (.ref p), .fz (.lst xs), .own (.lst xs), .own (.lst []), .emp], st⟩
    ⟨xs, [], o, _, by rw [set_id hp], by simpa using hP, by simp, by simp⟩
  obtain ⟨s', he, left, found, o', x, rfl, hP', hlen, hperm⟩ := hl
  have hl0 : left = [] := List.length_eq_zero_iff.mp hlen
  subst hl0
  rw [List.append_nil] at hperm
  refine ⟨found, o', hperm, by rw [← hperm.length_eq]; exact hP', ?_⟩
  have hb : 0 ≤ (xs.length : Int) ∧ (xs.length : Int) < 1000000 := by omega
  simp only [ir__law_shuffled]
  simp -implicitDefEqProofs [evt_e, put, D.ty, Met.tys, Met.calm, D.isBl, D.isT, D.isL, D.plain, D.plains, D.eqv, D.eqvs, partD, sliD, okK, D.akey, itemsL, seqD, it_rng, he, bifD, itemsL, rng_one hb, it_rng]
theorem name_run (k : Nat) (st : List Ob) (p : Nat) (o : Ob) (c : Nat) (i : Nat) (hp : st[p]? = some o) (hP : Pen c o) (hc : c < 1099511620000) (hi : i < 1000) :
    ∃ s o', NameOf i s ∧ Pen (c + 10) o' ∧ (G.at (k + 2)).call "_law_name" [.ref p, .int i] st = .ok (.str s) false (st.set p o') := by
  rw [pg_run G _ _ _ _ H.name rfl]
  obtain ⟨n, o1, hn, hP1, e1⟩ := draw_run H.toPenG k st p o c 8 hp hP (by omega) (by omega) (by omega)
  have hl := forL_ok (tg := fun d s => tset (G.at (k + 1)) ir__law_name_t1 d false s) (body := fun s => exs (G.at (k + 1)) ir__law_name_b1 s) (lk := [])
    (fun r s => ∃ w o' x, s = ⟨[.fz (.ref p), .fz (.int i), .fz (.str w), x, .emp], st.set p o'⟩ ∧ Pen (c + 1 + w.length) o' ∧ w.length + r.length = 1 + n ∧ ∀ x ∈ w, isLow x = true)
    (fun d r s ⟨w, o', x, hs, hP', hlen, hlow⟩ => by
      subst hs
      rw [List.length_cons] at hlen
      obtain ⟨j, o2, hj, hP2, e⟩ := draw_run H.toPenG k (st.set p o') p o' (c + 1 + w.length) 26 (set_get hp) hP' (by omega) (by omega) (by omega)
      rw [List.set_set] at e
      obtain ⟨ch, hch, hlo⟩ := abc_low (i := j) (by omega)
      have hz : w.length + 1 ≤ SL := by unfold SL; omega
      refine ⟨⟨[.fz (.ref p), .fz (.int i), .fz (.str (w ++ [ch])), .fz d, .emp], st.set p o2⟩, ?_, ⟨_, o2, _, rfl, ?_, ?_, ?_⟩, rfl⟩
      · simp -implicitDefEqProofs [ir__law_name_t1, ir__law_name_b1, evt_e, put, D.ty, Met.tys, Met.calm, D.isBl, D.isT, D.isL, D.plain, D.plains, D.eqv, D.eqvs, partD, sliD, okK, D.akey, itemsL, seqD, it_rng, e, hch, binD, okS, hz]
      · rw [List.length_append]; simpa [Nat.add_assoc] using hP2
      · rw [List.length_append]; simp; omega
      · intro y hy
        rcases List.mem_append.mp hy with hy | hy
        · exact hlow y hy
        · simp at hy; subst hy; exact hlo)
    ((List.range (1 + n)).map fun (k : Nat) => D.int k) ⟨[.fz (.ref p), .fz (.int i), .fz (.str []), .emp, .emp], st.set p o1⟩
    ⟨[], o1, _, rfl, by simpa using hP1, by simp, by simp⟩
  obtain ⟨s', he, w, o2, x, rfl, hP2, hlen, hlow⟩ := hl
  have hlen : w.length = 1 + n := by simpa using hlen
  obtain ⟨j, o3, hj, hP3, e3⟩ := draw_run H.toPenG k (st.set p o2) p o2 (c + 1 + w.length) w.length (set_get hp) hP2 (by omega) (by omega) (by omega)
  rw [List.set_set] at e3
  have hd := digits_len (i := i) (by omega)
  have hj : j < w.length := by omega
  refine ⟨w.take (1 + j) ++ strInt i ++ w.drop (1 + j), o3, ⟨w.take (1 + j), w.drop (1 + j), ?_, fun x hx => hlow x (List.mem_of_mem_take hx), fun x hx => hlow x (List.mem_of_mem_drop hx), ?_, rfl⟩, pen_mono hP3 (by omega), ?_⟩
  · intro e
    have := congrArg List.length e
    rw [List.length_take, List.length_nil] at this
    omega
  · rw [List.length_take, List.length_drop]; omega
  · have hb : 0 ≤ (1 + n : Int) ∧ (1 + n : Int) < 1000000 := by omega
    have ht : (1 + (n : Int)).toNat = 1 + n := by omega
    have hlog := log_ok hi
    have hs1 : (strInt i).length ≤ SL := by unfold SL; omega
    have q2 : cutAt w.length w.length (some (1 + (j : Int))) = 1 + j := by unfold cutAt; simp only; rw [if_neg (by omega)]; omega
    have q3 : cutAt w.length 0 (some (1 + (j : Int))) = 1 + j := by unfold cutAt; simp only; rw [if_neg (by omega)]; omega
    have g1 : cutL w none (some (1 + (j : Int))) = w.take (1 + j) := by unfold cutL; rw [q2]; simp [cutAt]
    have g2 : cutL w (some (1 + (j : Int))) none = w.drop (1 + j) := by
      unfold cutL
      rw [q3, show cutAt w.length w.length none = w.length from rfl]
      exact List.take_of_length_le (by rw [List.length_drop]; omega)
    have z1 : (w.take (1 + j)).length + (strInt i).length ≤ SL := by unfold SL; rw [List.length_take]; omega
    have z2 : min (1 + j) w.length + (strInt i).length ≤ SL := by unfold SL; omega
    have z3 : min (1 + j) w.length + ((strInt i).length + (w.length - (1 + j))) ≤ SL := by unfold SL; omega
    have z4 : min (1 + j) w.length + (strInt i).length + (w.length - (1 + j)) ≤ SL := by unfold SL; omega
    simp only [ir__law_name]
    simp -implicitDefEqProofs [evt_e, put, D.ty, Met.tys, Met.calm, D.isBl, D.isT, D.isL, D.plain, D.plains, D.eqv, D.eqvs, partD, sliD, okK, D.akey, itemsL, seqD, it_rng, e1, rng_one hb, it_rng, ht, he, e3, partD, sliD, g1, g2, bifD, hlog, okS, hs1, binD, z1, z2, z3, z4]
end
end Lw
end
section
set_option linter.all false
set_option maxRecDepth 10000
set_option maxHeartbeats 4000000
/-! PenLib4: rows of names, calls. -/
namespace Lw
open PySem PyE Tk
structure CallsG (G : Pg) : Prop extends NamesG G where
  calls : G.defs "_law_calls" = some ir__law_calls
theorem perm_strs {ys : List D} {l : List (List Nat)} (h : ys.Perm (l.map .str)) : ∃ l' : List (List Nat), l'.Perm l ∧ ys = l'.map .str := by
  let un : D → List Nat := fun d => match d with | .str s => s | _ => []
  refine ⟨ys.map un, ?_, ?_⟩
  · have := h.map un
    rw [List.map_map] at this
    have e : (un ∘ D.str) = id := rfl
    rwa [e, List.map_id] at this
  · rw [List.map_map]
    have : ∀ y ∈ ys, (D.str ∘ un) y = y := fun y hy => by
      obtain ⟨s, _, rfl⟩ := List.mem_map.mp (h.mem_iff.mp hy)
      rfl
    exact (List.map_congr_left this).trans (List.map_id _) |>.symm
theorem sortD_strs (l : List (List Nat)) : sortD (l.map .str) = some ((l.mergeSort fun a b => !ltS b a).map .str) := by
  have h1 : (l.map D.str).all (·.plain DEEP) = true := by simp [D.plain]
  have h2 : alikeAll (l.map D.str) = true := by simp [alikeAll, D.alike]
  have h3 : sortable (l.map D.str) = true := by
    unfold sortable
    rw [Bool.or_eq_true]
    right
    simp
  unfold sortD
  rw [h1, h2, h3]
  simp only [Bool.and_self, if_true]
  unfold sortL
  rw [List.map_mergeSort (s := fun a b => !D.lt b a) fun a _ b _ => by simp [D.lt]]
/-- names with the indices 0, 1, .., in any order -/
def NamesOf (many : Nat) (l : List (List Nat)) : Prop := ∃ l0, l.Perm l0 ∧ l0.length = many ∧ ∀ (i : Nat) (h : i < l0.length), NameOf i l0[i]
theorem NamesOf.len {many : Nat} {l : List (List Nat)} (h : NamesOf many l) : l.length = many := by
  obtain ⟨l0, h1, h2, _⟩ := h
  rw [h1.length_eq, h2]
section
variable {G : Pg} (H : NamesG G)
include H
theorem names_draw (k : Nat) (st : List Ob) (p : Nat) (o : Ob) (c : Nat) (many : Nat) (hp : st[p]? = some o) (hP : Pen c o) (hc : c < 1099511000000) (h1 : many < 1000) :
    ∃ l o', NamesOf many l ∧ Pen (c + 11 * many) o' ∧ (G.at (k + 3)).call "_law_names" [.ref p, .int many] st = .ok (.lst (l.map .str)) true (st.set p o') := by
  have hcomp := compL_ok (own := [2]) (tg := fun d s => tset (G.at (k + 2)) ir__law_names_t1 d false s) (test := fun s => .ok true s)
    (elt := fun acc s => (ev (G.at (k + 2)) ir__law_names_e1 s).bind fun v s => (keep v s).bind fun d s => if acc.length < SL then .ok (acc ++ [d]) s else .stuck) (lk := [])
    (fun r acc s => ∃ (l : List (List Nat)) (o' : Ob) (x : Slot), s = ⟨[.fz (.ref p), .fz (.int many), x], st.set p o'⟩ ∧ Pen (c + 10 * l.length) o' ∧ acc = l.map .str ∧ l.length + r.length = many ∧
      r = (List.range' l.length r.length).map (fun (k : Nat) => D.int k) ∧ ∀ (i : Nat) (h : i < l.length), NameOf i l[i])
    (fun d r acc s ⟨l, o', x, hs, hP', hacc, hlen, hr, hn⟩ => by
      subst hs; subst hacc
      rw [List.length_cons, List.range'_succ, List.map_cons, List.cons.injEq] at hr
      obtain ⟨rfl, hr⟩ := hr
      rw [List.length_cons] at hlen
      obtain ⟨s, o2, hs, hP2, e⟩ := name_run H k (st.set p o') p o' (c + 10 * l.length) l.length (set_get hp) hP' (by omega) (by omega)
      rw [List.set_set] at e
      have hz : l.length < SL := by unfold SL; omega
      refine ⟨(l ++ [s]).map .str, ⟨[.fz (.ref p), .fz (.int many), .fz (.int l.length)], st.set p o2⟩, ?_, ⟨l ++ [s], o2, _, rfl, ?_, rfl, ?_, ?_, ?_⟩, rfl⟩
      · simp -implicitDefEqProofs [turnL, wipeL, ir__law_names_t1, ir__law_names_e1, evt_e, put, D.ty, Met.tys, Met.calm, D.isBl, D.isT, D.isL, D.plain, D.plains, D.eqv, D.eqvs, partD, sliD, okK, D.akey, itemsL, seqD, it_rng, e, hz]
      · rw [List.length_append, List.length_singleton]; exact pen_mono hP2 (by omega)
      · rw [List.length_append, List.length_singleton]; omega
      · rw [List.length_append, List.length_singleton]; exact hr
      · intro i hi
        rw [List.length_append, List.length_singleton] at hi
        by_cases h : i < l.length
        · rw [List.getElem_append_left h]; exact hn i h
        · have : i = l.length := by omega
          subst this
          simpa using hs)
    ((List.range many).map fun (k : Nat) => D.int k) [] ⟨[.fz (.ref p), .fz (.int many), .emp], st⟩
    ⟨[], o, .emp, by rw [set_id hp], by simpa using hP, rfl, by simp, by simp [List.range_eq_range'], fun i h => absurd h (by simp)⟩
  obtain ⟨acc, s', he, l, o1, x, rfl, hP1, rfl, hlen, -, hn⟩ := hcomp
  have hlen : l.length = many := by simpa using hlen
  obtain ⟨ys, o2, hperm, hP2, e2⟩ := shuffled_run H k (st.set p o1) p o1 (c + 10 * l.length) (l.map .str) (set_get hp) hP1 (by omega) (by rw [List.length_map]; omega)
  obtain ⟨l', hl', rfl⟩ := perm_strs hperm
  rw [List.set_set] at e2
  refine ⟨l', o2, ⟨l, hl', hlen, hn⟩, pen_mono hP2 (by rw [List.length_map]; omega), ?_⟩
  have hb : 0 ≤ (many : Int) ∧ (many : Int) < 1000000 := by omega
  rw [pg_run G _ _ _ _ H.names rfl]
  simp -implicitDefEqProofs [ir__law_names, evt_e, put, D.ty, Met.tys, Met.calm, D.isBl, D.isT, D.isL, D.plain, D.plains, D.eqv, D.eqvs, partD, sliD, okK, D.akey, itemsL, seqD, it_rng, rng_one hb, calmOwn, he, backL, e2]
end
section
variable {G : Pg} (H : CallsG G)
include H
theorem calls_draw (k : Nat) (st : List Ob) (p : Nat) (o : Ob) (c : Nat) (many : Nat) (hp : st[p]? = some o) (hP : Pen c o) (hc : c < 1099511000000) (h1 : many < 1000) :
    ∃ l o', NamesOf many l ∧ l.Pairwise (fun a b => (!ltS b a) = true) ∧ Pen (c + 11 * many) o' ∧ (G.at (k + 4)).call "_law_calls" [.ref p, .int many] st = .ok (.tup (l.map .str)) false (st.set p o') := by
  obtain ⟨l, o', ⟨l0, hl, h2, h3⟩, hP', e⟩ := names_draw H.toNamesG k st p o c many hp hP hc h1
  refine ⟨l.mergeSort fun a b => !ltS b a, o', ⟨l0, (List.mergeSort_perm _ _).trans hl, h2, h3⟩, List.pairwise_mergeSort le_trans' le_total' _, hP', ?_⟩
  rw [pg_run G _ _ _ _ H.calls rfl]
  have hs := sortD_strs l
  simp -implicitDefEqProofs [ir__law_calls, evt_e, put, D.ty, Met.tys, Met.calm, D.isBl, D.isT, D.isL, D.plain, D.plains, D.eqv, D.eqvs, partD, sliD, okK, D.akey, itemsL, seqD, it_rng, e, hs]
end
end Lw
end
section
set_option linter.all false
set_option maxRecDepth 10000
set_option maxHeartbeats 4000000
/-! TaskRun: the program's judgement of tasks. -/
namespace Lw
open PySem PyE Tk
structure TasksG (G : Pg) : Prop where
  is_whole : G.defs "is_whole" = some ir_is_whole
  is_name : G.defs "is_name" = some ir_is_name
  is_call_name : G.defs "is_call_name" = some ir_is_call_name
  do_among : G.defs "do_among" = some ir_do_among
  do_in : G.defs "do_in" = some ir_do_in
  is_task : G.defs "is_task" = some ir_is_task
mutual
/-- data without objects, all the way down; no shown or given rows -/
def okD (v : D) : Bool := match v with
  | .tup vs => okDs vs
  | .lst vs => okDs vs
  | .dct _ => true
  | .non | .bl _ | .int _ | .str _ => true
  | _ => false
def okDs (vs : List D) : Bool := match vs with
  | [] => true
  | v :: r => okD v && okDs r
end
theorem okD_top {d : D} (h : okD d = true) : okTop d = true := by cases d <;> first | rfl | (simp [okD] at h)
def outD : Option Int → D
  | none => .non
  | some i => .int i
theorem mem_str {x : D} {tk : List (List Nat)} (hx : callNameD x = true) : memD x (tk.map .str) = some (strIn x tk) := by
  cases x with
  | str s =>
    have hp : ∀ tk : List (List Nat), D.plains DEEP (tk.map .str) = true := fun tk => by
      induction tk with
      | nil => rfl
      | cons a r ih => simp [D.plains, D.plain, ih]
    have he : ∀ tk : List (List Nat), ((tk.map D.str).any fun y => D.eqv y (.str s)) = tk.contains s := fun tk => by
      induction tk with
      | nil => rfl
      | cons a r ih =>
        rw [List.map_cons, List.any_cons, ih, List.contains_cons]
        have q : D.eqv (.str a) (.str s) = (s == a) := by
          simp only [D.eqv]
          by_cases z : s = a
          · subst z; simp
          · have z' : ¬ a = s := fun e => z e.symm
            have h1 : (a == s) = false := beq_eq_false_iff_ne.mpr z'
            have h2 : (s == a) = false := beq_eq_false_iff_ne.mpr z
            rw [h1, h2]
        rw [q]
    unfold memD
    rw [hp tk]
    simp only [D.plain, Bool.and_self, if_true, he tk]
    rfl
  | _ => cases hx
theorem mem_joints (s : List Nat) : memD (.str s) [.str [97, 108, 108], .str [97, 110, 121], .str [114, 111, 119]] = some (joints.contains s) := by
  have q : ∀ x : List Nat, (D.str x).eqv (D.str s) = (s == x) := fun x => by
    simp only [D.eqv]
    by_cases z : s = x
    · subst z; simp
    · have z' : ¬ x = s := fun e => z e.symm
      have h1 : (x == s) = false := beq_eq_false_iff_ne.mpr z'
      have h2 : (s == x) = false := beq_eq_false_iff_ne.mpr z
      rw [h1, h2]
  unfold memD
  simp only [D.plain, D.plains, Bool.and_self, if_true, List.any_cons, List.any_nil, q]
  rfl
theorem okDs_mem {vs : List D} (h : okDs vs = true) : ∀ v ∈ vs, okD v = true := by
  induction vs with
  | nil => exact fun v hv => by cases hv
  | cons a r ih =>
    rw [okDs, Bool.and_eq_true] at h
    intro v hv
    rcases List.mem_cons.mp hv with rfl | hv
    · exact h.1
    · exact ih h.2 v hv
theorem min_eq (l : Int) : (if l < 6 then l else 6) = min 6 l := by omega
theorem no_short {vs : List D} (h : vs.length < 2) (o l : Int) (tk : List (List Nat)) : doIn (.tup vs) o l tk = none :=
  doIn_no (fun k x e => by cases e; simp at h) (fun k x t e => by cases e; simp at h) o l tk
theorem no_nostr {a b : D} {r : List D} (h : isStr a = false) (o l : Int) (tk : List (List Nat)) : doIn (.tup (a :: b :: r)) o l tk = none :=
  doIn_no (fun k x e => by cases e; cases h) (fun k x t e => by cases e; cases h) o l tk
theorem no_long {a b c d : D} {r : List D} (o l : Int) (tk : List (List Nat)) : doIn (.tup (a :: b :: c :: d :: r)) o l tk = none :=
  doIn_no (fun k x e => by cases e) (fun k x t e => by cases e) o l tk
theorem no_other {v : D} (h : isTup v = false) (o l : Int) (tk : List (List Nat)) : doIn v o l tk = none :=
  doIn_no (fun k x e => by rw [e] at h; cases h) (fun k x t e => by rw [e] at h; cases h) o l tk
theorem okD_git {vs : List D} (h : okD (.git vs) = true) : False := by simp [okD] at h
def DoInAt (G : Pg) (n : Nat) : Prop := ∀ (m : Nat) (v : D) (o l : Int) (tk : List (List Nat)) (st : List Ob), okD v = true → 0 ≤ o → o ≤ 8 → 8 - o ≤ n → (tk.length : Int) ≤ o →
  (G.at (2 * n + 4 + m)).call "do_in" [v, .int o, .int l, .tup (tk.map .str)] st = .ok (outD (doIn v o l tk)) false st
section
variable {G : Pg} (H : TasksG G)
include H
theorem is_name_str (k : Nat) (s : List Nat) (st : List Ob) : (G.at (k+1)).call "is_name" [.str s] st = .ok (.bl (nameP s)) false st := by
  rw [pg_run G _ _ _ _ H.is_name rfl]
  simp only [ir_is_name]
  by_cases h1 : 1 ≤ s.length ∧ s.length ≤ 12
  · obtain ⟨h1, h2⟩ := h1
    cases s with
    | nil => simp at h1
    | cons c r =>
      simp at h2
      have h5 : ((r.length : Int) + 1 ≤ 12) := by omega
      have h6 : ((1 : Int) ≤ (r.length : Int) + 1) := by omega
      cases h3 : asciiS (c :: r) with
      | false =>
        simp -implicitDefEqProofs [evt_e, put, D.ty, Met.tys, Met.calm, D.isBl, D.isT, D.isL, D.plain, D.plains, D.eqv, D.eqvs, partD, sliD, okK, D.akey, itemsL, seqD, it_rng, isiAll, isiD, tyOf, bifD, cmpD, calmM, D.ty, Met.tys, Met.calm, subD, h2, h3, h5, h6, nameP]
      | true =>
        have h4 : asciiS [c] = true := by simp [asciiS] at h3 ⊢; exact h3.1
        simp -implicitDefEqProofs [evt_e, put, D.ty, Met.tys, Met.calm, D.isBl, D.isT, D.isL, D.plain, D.plains, D.eqv, D.eqvs, partD, sliD, okK, D.akey, itemsL, seqD, it_rng, isiAll, isiD, tyOf, bifD, cmpD, calmM, D.ty, Met.tys, Met.calm, subD, atD, ixD, h2, h3, h4, h5, h6, nameP]
        generalize hA : (isDig c || isLow c || isUpp c) = A
        generalize hB : (r.all fun c => isDig c || isLow c || isUpp c) = B
        have e1 : (((isDig c = true ∨ isLow c = true) ∨ isUpp c = true) ∧ ∀ (x : Nat), x ∈ r → (isDig x = true ∨ isLow x = true) ∨ isUpp x = true) = ((A && B) = true) := by
          rw [← hA, ← hB]; simp
        have e2 : ((isLow c = true ∨ ∃ x, x ∈ r ∧ isLow x = true) ∧ isUpp c = false ∧ ∀ (x : Nat), x ∈ r → isUpp x = false) = (((isLow c || r.any isLow) && (!isUpp c && !r.any isUpp)) = true) := by
          simp
        simp only [e1, e2]
        generalize ((isLow c || r.any isLow) && (!isUpp c && !r.any isUpp)) = C
        cases A <;> cases B <;> cases C <;> simp
  · have h5 : ¬ ((1 : Int) ≤ s.length ∧ (s.length : Int) ≤ 12) := by omega
    have h7 : nameP s = false := by
      unfold nameP
      by_cases a : 1 ≤ s.length <;> by_cases b : s.length ≤ 12 <;> simp [a, b]
      exact absurd ⟨a, b⟩ h1
    rw [h7]
    by_cases a : (1 : Int) ≤ s.length
    · have b : ¬ (s.length : Int) ≤ 12 := fun b => h5 ⟨a, b⟩
      simp -implicitDefEqProofs [evt_e, put, D.ty, Met.tys, Met.calm, D.isBl, D.isT, D.isL, D.plain, D.plains, D.eqv, D.eqvs, partD, sliD, okK, D.akey, itemsL, seqD, it_rng, isiAll, isiD, tyOf, bifD, cmpD, calmM, D.ty, Met.tys, Met.calm, subD, a, b]
    · simp -implicitDefEqProofs [evt_e, put, D.ty, Met.tys, Met.calm, D.isBl, D.isT, D.isL, D.plain, D.plains, D.eqv, D.eqvs, partD, sliD, okK, D.akey, itemsL, seqD, it_rng, isiAll, isiD, tyOf, bifD, cmpD, calmM, D.ty, Met.tys, Met.calm, subD, a]
theorem is_name_run (k : Nat) (d : D) (h : okTop d = true) (st : List Ob) : (G.at (k+1)).call "is_name" [d] st = .ok (.bl (nameD d)) false st := by
  cases hs : isStr d with
  | true =>
    cases d with
    | str s => exact is_name_str H k s st
    | _ => cases hs
  | false =>
    have e : nameD d = false := by cases d <;> first | rfl | cases hs
    rw [e, pg_run G _ _ _ _ H.is_name rfl]
    simp only [ir_is_name]
    simp -implicitDefEqProofs [evt_e, put, D.ty, Met.tys, Met.calm, D.isBl, D.isT, D.isL, D.plain, D.plains, D.eqv, D.eqvs, partD, sliD, okK, D.akey, itemsL, seqD, it_rng, isi_str h, de_ok h, hs]
theorem is_call_name_run (k : Nat) (d : D) (h : okTop d = true) (st : List Ob) : (G.at (k+2)).call "is_call_name" [d] st = .ok (.bl (callNameD d)) false st := by
  rw [pg_run G _ _ _ _ H.is_call_name rfl]
  simp only [ir_is_call_name]
  have hn := is_name_run H k d h st
  cases hd : nameD d with
  | false =>
    rw [hd] at hn
    simp -implicitDefEqProofs [evt_e, put, D.ty, Met.tys, Met.calm, D.isBl, D.isT, D.isL, D.plain, D.plains, D.eqv, D.eqvs, partD, sliD, okK, D.akey, itemsL, seqD, it_rng, hn, RF.into]
    cases d <;> simp [callNameD, nameD] at hd ⊢
    simp [hd]
  | true =>
    rw [hd] at hn
    cases d with
    | str s =>
      have hp := nameP_len (show nameP s = true from hd)
      simp -implicitDefEqProofs [evt_e, put, D.ty, Met.tys, Met.calm, D.isBl, D.isT, D.isL, D.plain, D.plains, D.eqv, D.eqvs, partD, sliD, okK, D.akey, itemsL, seqD, it_rng, hn, RF.into, cmpD, inD, memD, D.plain, D.plains]
      have hd' : nameP s = true := hd
      have q : ∀ x : List Nat, (D.str x).eqv (D.str s) = decide (s = x) := fun x => by
        simp only [D.eqv]
        by_cases z : s = x
        · subst z; simp
        · have z' : ¬ x = s := fun e => z e.symm
          simp [z, z']
      have q2 : ∀ x : List Nat, (x == s) = decide (s = x) := fun x => by
        by_cases z : s = x
        · subst z; simp
        · have z' : ¬ x = s := fun e => z e.symm
          simp [z, z']
      simp [callNameD, hd', kindsL, List.contains_cons, q2]
    | _ => cases hd
theorem is_whole_run (k : Nat) (d : D) (h : okTop d = true) (a b : Int) (st : List Ob) : (G.at (k+1)).call "is_whole" [d, .int a, .int b] st = .ok (.bl (wholeD d a b)) false st := by
  rw [pg_run G _ _ _ _ H.is_whole rfl]
  simp only [ir_is_whole]
  cases hi : isInt d with
  | false =>
    have e : wholeD d a b = false := by cases d <;> first | rfl | cases hi
    simp -implicitDefEqProofs [evt_e, put, D.ty, Met.tys, Met.calm, D.isBl, D.isT, D.isL, D.plain, D.plains, D.eqv, D.eqvs, partD, sliD, okK, D.akey, itemsL, seqD, it_rng, isi_int h, isi_bool h, de_ok h, hi, e]
  | true =>
    cases d with
    | bl x => simp -implicitDefEqProofs [evt_e, put, D.ty, Met.tys, Met.calm, D.isBl, D.isT, D.isL, D.plain, D.plains, D.eqv, D.eqvs, partD, sliD, okK, D.akey, itemsL, seqD, it_rng, isi_int h, isi_bool h, de_ok h, hi, wholeD, isBool]
    | int i =>
      by_cases h1 : i < a
      · have e : wholeD (.int i) a b = false := by simp [wholeD]; omega
        simp -implicitDefEqProofs [evt_e, put, D.ty, Met.tys, Met.calm, D.isBl, D.isT, D.isL, D.plain, D.plains, D.eqv, D.eqvs, partD, sliD, okK, D.akey, itemsL, seqD, it_rng, isi_int h, isi_bool h, de_ok h, hi, isBool, cmpD, cmpLt, h1, e]
      · have e : wholeD (.int i) a b = decide (i ≤ b) := by simp [wholeD]; omega
        simp -implicitDefEqProofs [evt_e, put, D.ty, Met.tys, Met.calm, D.isBl, D.isT, D.isL, D.plain, D.plains, D.eqv, D.eqvs, partD, sliD, okK, D.akey, itemsL, seqD, it_rng, isi_int h, isi_bool h, de_ok h, hi, isBool, cmpD, cmpLt, h1, e, isD, D.isNon]
    | _ => cases hi
theorem do_in_other (k : Nat) (v : D) (o l : Int) (tk : D) (st : List Ob) (h : okD v = true) (hv : isTup v = false) : (G.at (k+1)).call "do_in" [v, .int o, .int l, tk] st = .ok .non false st := by
  rw [pg_run G _ _ _ _ H.do_in rfl]
  simp only [ir_do_in]
  have ht := okD_top h
  simp -implicitDefEqProofs [evt_e, put, D.ty, Met.tys, Met.calm, D.isBl, D.isT, D.isL, D.plain, D.plains, D.eqv, D.eqvs, partD, sliD, okK, D.akey, itemsL, seqD, it_rng, isi_tup ht, de_ok ht, hv]
theorem do_in_short (k : Nat) (vs : List D) (o l : Int) (tk : D) (st : List Ob) (hv : vs.length < 2) : (G.at (k+1)).call "do_in" [.tup vs, .int o, .int l, tk] st = .ok .non false st := by
  rw [pg_run G _ _ _ _ H.do_in rfl]
  simp only [ir_do_in]
  have h2 : ((vs.length : Int) < 2) := by omega
  simp -implicitDefEqProofs [evt_e, put, D.ty, Met.tys, Met.calm, D.isBl, D.isT, D.isL, D.plain, D.plains, D.eqv, D.eqvs, partD, sliD, okK, D.akey, itemsL, seqD, it_rng, isi_tup (d := .tup vs) rfl, isTup, bifD, cmpD, cmpLt, h2]
theorem do_in_nostr (k : Nat) (x y : D) (vs : List D) (o l : Int) (tk : D) (st : List Ob) (hx : okD x = true) (hv : isStr x = false) : (G.at (k+1)).call "do_in" [.tup (x :: y :: vs), .int o, .int l, tk] st = .ok .non false st := by
  rw [pg_run G _ _ _ _ H.do_in rfl]
  simp only [ir_do_in]
  have h2 : ¬ ((vs.length : Int) + 1 + 1 < 2) := by omega
  have h3 : (0 : Int) < (vs.length : Int) + 1 + 1 := by omega
  have hx := okD_top hx
  simp -implicitDefEqProofs [evt_e, put, D.ty, Met.tys, Met.calm, D.isBl, D.isT, D.isL, D.plain, D.plains, D.eqv, D.eqvs, partD, sliD, okK, D.akey, itemsL, seqD, it_rng, isi_tup (d := .tup (x :: y :: vs)) rfl, isTup, bifD, cmpD, cmpLt, h2, h3, subD, atD, ixD, isi_str hx, de_ok hx, hv]
theorem do_in_do (k : Nat) (x : D) (vs : List D) (o l : Int) (tk : List (List Nat)) (st : List Ob) (hx : okD x = true) : (G.at (k+3)).call "do_in" [.tup (.str kDo :: x :: vs), .int o, .int l, .tup (tk.map .str)] st = .ok (outD (if vs = [] ∧ (callNameD x && !strIn x tk && decide (0 < l)) = true then some 1 else none)) false st := by
  rw [pg_run G _ _ _ _ H.do_in rfl]
  simp only [ir_do_in]
  have hx := okD_top hx
  have hn := is_call_name_run H k x hx st
  cases vs with
  | cons v vs =>
    have h4 : ¬ ((vs.length : Int) + 1 + 1 + 1 = 2) := by omega
    have h2 : ¬ ((vs.length : Int) + 1 + 1 + 1 < 2) := by omega
    simp -implicitDefEqProofs [evt_e, put, D.ty, Met.tys, Met.calm, D.isBl, D.isT, D.isL, D.plain, D.plains, D.eqv, D.eqvs, partD, sliD, okK, D.akey, itemsL, seqD, it_rng, isi_tup (d := .tup _) rfl, isTup, isi_str (d := .str _) rfl, isStr, bifD, cmpD, cmpLt, h2, h4, subD, de_ok hx, kDo, D.eq?, D.plain, D.eqv, outD]
  | nil =>
    cases hc : callNameD x with
    | false =>
      rw [hc] at hn
      simp -implicitDefEqProofs [evt_e, put, D.ty, Met.tys, Met.calm, D.isBl, D.isT, D.isL, D.plain, D.plains, D.eqv, D.eqvs, partD, sliD, okK, D.akey, itemsL, seqD, it_rng, isi_tup (d := .tup _) rfl, isTup, isi_str (d := .str _) rfl, isStr, bifD, cmpD, cmpLt, subD, de_ok hx, kDo, D.eq?, D.plain, D.eqv, outD, hn, hc, RF.into]
    | true =>
      rw [hc] at hn
      have hm := mem_str (tk := tk) hc
      cases hs : strIn x tk with
      | true =>
        rw [hs] at hm
        simp -implicitDefEqProofs [evt_e, put, D.ty, Met.tys, Met.calm, D.isBl, D.isT, D.isL, D.plain, D.plains, D.eqv, D.eqvs, partD, sliD, okK, D.akey, itemsL, seqD, it_rng, isi_tup (d := .tup _) rfl, isTup, isi_str (d := .str _) rfl, isStr, bifD, cmpD, cmpLt, subD, de_ok hx, kDo, D.eq?, D.plain, D.eqv, outD, hn, hc, RF.into, inD, hm, hs]
      | false =>
        rw [hs] at hm
        by_cases h0 : 0 < l
        · simp -implicitDefEqProofs [evt_e, put, D.ty, Met.tys, Met.calm, D.isBl, D.isT, D.isL, D.plain, D.plains, D.eqv, D.eqvs, partD, sliD, okK, D.akey, itemsL, seqD, it_rng, isi_tup (d := .tup _) rfl, isTup, isi_str (d := .str _) rfl, isStr, bifD, cmpD, cmpLt, subD, de_ok hx, kDo, D.eq?, D.plain, D.eqv, outD, hn, hc, RF.into, inD, hm, hs, h0]
        · simp -implicitDefEqProofs [evt_e, put, D.ty, Met.tys, Met.calm, D.isBl, D.isT, D.isL, D.plain, D.plains, D.eqv, D.eqvs, partD, sliD, okK, D.akey, itemsL, seqD, it_rng, isi_tup (d := .tup _) rfl, isTup, isi_str (d := .str _) rfl, isStr, bifD, cmpD, cmpLt, subD, de_ok hx, kDo, D.eq?, D.plain, D.eqv, outD, hn, hc, RF.into, inD, hm, hs, h0]
theorem do_in_deep (k : Nat) (s : List Nat) (x : D) (vs : List D) (l : Int) (tk : D) (st : List Ob) (hs : s ≠ kDo) : (G.at (k+1)).call "do_in" [.tup (.str s :: x :: vs), .int 8, .int l, tk] st = .ok .non false st := by
  rw [pg_run G _ _ _ _ H.do_in rfl]
  simp only [ir_do_in]
  have h2 : ¬ ((vs.length : Int) + 1 + 1 < 2) := by omega
  have e : (s == [100, 111]) = false := beq_eq_false_iff_ne.mpr hs
  have e' : ¬ s = [100, 111] := hs
  simp -implicitDefEqProofs [evt_e, put, D.ty, Met.tys, Met.calm, D.isBl, D.isT, D.isL, D.plain, D.plains, D.eqv, D.eqvs, partD, sliD, okK, D.akey, itemsL, seqD, it_rng, isi_tup (d := .tup _) rfl, isTup, isi_str (d := .str _) rfl, isStr, bifD, cmpD, cmpLt, h2, subD, D.eq?, D.plain, D.eqv, e, e']
theorem do_in_joint_bad (k : Nat) (s : List Nat) (x : D) (vs : List D) (o l : Int) (tk : D) (st : List Ob) (hx : okD x = true) (hs : s ≠ kDo) (ho : o ≠ 8) (hj : joints.contains s = true) (hb : vs ≠ [] ∨ isTup x = false) :
    (G.at (k+1)).call "do_in" [.tup (.str s :: x :: vs), .int o, .int l, tk] st = .ok .non false st := by
  rw [pg_run G _ _ _ _ H.do_in rfl]
  simp only [ir_do_in]
  have h2 : ¬ ((vs.length : Int) + 1 + 1 < 2) := by omega
  have e : (s == [100, 111]) = false := beq_eq_false_iff_ne.mpr hs
  have e' : ¬ s = [100, 111] := hs
  have eo : (o == 8) = false := beq_eq_false_iff_ne.mpr ho
  have hm := mem_joints s
  rw [hj] at hm
  have hx := okD_top hx
  cases vs with
  | cons v vs =>
    have h4 : ¬ ((vs.length : Int) + 1 + 1 + 1 = 2) := by omega
    have h2 : ¬ ((vs.length : Int) + 1 + 1 + 1 < 2) := by omega
    simp -implicitDefEqProofs [evt_e, put, D.ty, Met.tys, Met.calm, D.isBl, D.isT, D.isL, D.plain, D.plains, D.eqv, D.eqvs, partD, sliD, okK, D.akey, itemsL, seqD, it_rng, isi_tup (d := .tup _) rfl, isTup, isi_str (d := .str _) rfl, isStr, bifD, cmpD, cmpLt, h2, h4, subD, D.eq?, D.plain, D.eqv, e, e', ho, eo, inD, hm]
  | nil =>
    have hb : isTup x = false := hb.resolve_left fun z => z rfl
    simp -implicitDefEqProofs [evt_e, put, D.ty, Met.tys, Met.calm, D.isBl, D.isT, D.isL, D.plain, D.plains, D.eqv, D.eqvs, partD, sliD, okK, D.akey, itemsL, seqD, it_rng, isi_tup (d := .tup _) rfl, show isTup (.tup [.str s, x]) = true from rfl, isi_str (d := .str _) rfl, isi_tup hx, isStr, bifD, cmpD, cmpLt, subD, D.eq?, D.plain, D.eqv, e, e', ho, eo, inD, hm, de_ok hx, hb]
theorem do_in_len (k : Nat) (s : List Nat) (x : D) (vs : List D) (o l : Int) (tk : D) (st : List Ob) (hs : s ≠ kDo) (ho : o ≠ 8) (hj : joints.contains s = false) (hb : vs.length ≠ 1) :
    (G.at (k+1)).call "do_in" [.tup (.str s :: x :: vs), .int o, .int l, tk] st = .ok .non false st := by
  rw [pg_run G _ _ _ _ H.do_in rfl]
  simp only [ir_do_in]
  have h2 : ¬ ((vs.length : Int) + 1 + 1 < 2) := by omega
  have h4 : ¬ ((vs.length : Int) + 1 + 1 = 3) := by omega
  have h5 : (((vs.length : Int) + 1 + 1) == 3) = false := beq_eq_false_iff_ne.mpr h4
  have e : (s == [100, 111]) = false := beq_eq_false_iff_ne.mpr hs
  have e' : ¬ s = [100, 111] := hs
  have eo : (o == 8) = false := beq_eq_false_iff_ne.mpr ho
  have hm := mem_joints s
  rw [hj] at hm
  simp -implicitDefEqProofs [evt_e, put, D.ty, Met.tys, Met.calm, D.isBl, D.isT, D.isL, D.plain, D.plains, D.eqv, D.eqvs, partD, sliD, okK, D.akey, itemsL, seqD, it_rng, isi_tup (d := .tup _) rfl, isTup, isi_str (d := .str _) rfl, isStr, bifD, cmpD, cmpLt, h2, h4, h5, subD, D.eq?, D.plain, D.eqv, e, e', ho, eo, inD, hm]
theorem do_in_times (k : Nat) (x t : D) (o l : Int) (tk : D) (st : List Ob) (hx : okD x = true) (ht : okD t = true) (ho : o ≠ 8) (r : D) (hr : (G.at (k+1)).call "do_in" [t, .int (o + 1), .int l, tk] st = .ok r false st) (htk : ∃ z, tk = .tup z) :
    (G.at (k+2)).call "do_in" [.tup [.str kTimes, x, t], .int o, .int l, tk] st = .ok (if wholeD x 2 5 then r else .non) false st := by
  obtain ⟨z, rfl⟩ := htk
  rw [pg_run G _ _ _ _ H.do_in rfl]
  simp only [ir_do_in]
  have eo : (o == 8) = false := beq_eq_false_iff_ne.mpr ho
  have hm := mem_joints kTimes
  have hj : joints.contains kTimes = false := by decide
  rw [hj] at hm
  have hx := okD_top hx
  have ht := okD_top ht
  have hw := is_whole_run H k x hx 2 5 st
  unfold kTimes at hm
  cases hc : wholeD x 2 5 with
  | true =>
    rw [hc] at hw
    simp -implicitDefEqProofs [binD, evt_e, put, D.ty, Met.tys, Met.calm, D.isBl, D.isT, D.isL, D.plain, D.plains, D.eqv, D.eqvs, partD, sliD, okK, D.akey, itemsL, seqD, it_rng, isi_tup (d := .tup _) rfl, isTup, isi_str (d := .str _) rfl, isStr, bifD, cmpD, cmpLt, subD, D.eq?, D.plain, D.eqv, ho, eo, inD, hm, kTimes, de_ok hx, de_ok ht, hw, hr, RF.into]
  | false =>
    rw [hc] at hw
    simp -implicitDefEqProofs [binD, evt_e, put, D.ty, Met.tys, Met.calm, D.isBl, D.isT, D.isL, D.plain, D.plains, D.eqv, D.eqvs, partD, sliD, okK, D.akey, itemsL, seqD, it_rng, isi_tup (d := .tup _) rfl, isTup, isi_str (d := .str _) rfl, isStr, bifD, cmpD, cmpLt, subD, D.eq?, D.plain, D.eqv, ho, eo, inD, hm, kTimes, de_ok hx, de_ok ht, hw, RF.into]
theorem do_in_unless (k : Nat) (x t : D) (o l : Int) (tk : List (List Nat)) (st : List Ob) (hx : okD x = true) (ht : okD t = true) (ho : o ≠ 8) (hsz : tk.length < 1000) (r : D)
    (hr : ∀ s, x = .str s → (G.at (k+2)).call "do_in" [t, .int (o + 1), .int l, .tup ((tk ++ [s]).map .str)] st = .ok r false st) :
    (G.at (k+3)).call "do_in" [.tup [.str kUnless, x, t], .int o, .int l, .tup (tk.map .str)] st = .ok (if (callNameD x && !strIn x tk) = true then r else .non) false st := by
  rw [pg_run G _ _ _ _ H.do_in rfl]
  simp only [ir_do_in]
  have eo : (o == 8) = false := beq_eq_false_iff_ne.mpr ho
  have hm := mem_joints kUnless
  have hj : joints.contains kUnless = false := by decide
  rw [hj] at hm
  have hx := okD_top hx
  have ht := okD_top ht
  have hn := is_call_name_run H k x hx st
  unfold kUnless at hm
  cases hc : callNameD x with
  | false =>
    rw [hc] at hn
    simp -implicitDefEqProofs [binD, evt_e, put, D.ty, Met.tys, Met.calm, D.isBl, D.isT, D.isL, D.plain, D.plains, D.eqv, D.eqvs, partD, sliD, okK, D.akey, itemsL, seqD, it_rng, isi_tup (d := .tup _) rfl, isTup, isi_str (d := .str _) rfl, isStr, bifD, cmpD, cmpLt, subD, D.eq?, D.plain, D.eqv, ho, eo, inD, hm, kUnless, de_ok hx, de_ok ht, hn, RF.into]
  | true =>
    rw [hc] at hn
    have hk := mem_str (tk := tk) hc
    cases hs : strIn x tk with
    | true =>
      rw [hs] at hk
      simp -implicitDefEqProofs [binD, evt_e, put, D.ty, Met.tys, Met.calm, D.isBl, D.isT, D.isL, D.plain, D.plains, D.eqv, D.eqvs, partD, sliD, okK, D.akey, itemsL, seqD, it_rng, isi_tup (d := .tup _) rfl, isTup, isi_str (d := .str _) rfl, isStr, bifD, cmpD, cmpLt, subD, D.eq?, D.plain, D.eqv, ho, eo, inD, hm, kUnless, de_ok hx, de_ok ht, hn, hk, RF.into]
    | false =>
      rw [hs] at hk
      cases x with
      | str s =>
        have hr := hr s rfl
        have hz : tk.length + 1 ≤ SL := by unfold SL; omega
        rw [List.map_append] at hr
        simp only [List.map_cons, List.map_nil] at hr
        simp -implicitDefEqProofs [binD, evt_e, put, D.ty, Met.tys, Met.calm, D.isBl, D.isT, D.isL, D.plain, D.plains, D.eqv, D.eqvs, partD, sliD, okK, D.akey, itemsL, seqD, it_rng, isi_tup (d := .tup _) rfl, isTup, isi_str (d := .str _) rfl, isStr, bifD, cmpD, cmpLt, subD, D.eq?, D.plain, D.eqv, ho, eo, inD, hm, kUnless, de_ok hx, de_ok ht, hn, hk, hr, hz, RF.into]
      | _ => cases hc
theorem do_in_joint (k : Nat) (s : List Nat) (ps : List D) (o l : Int) (tk : List D) (st : List Ob) (hs : s ≠ kDo) (ho : o ≠ 8) (hj : joints.contains s = true) (r : D)
    (hr : (G.at (k+1)).call "do_among" [.tup ps, .int (o + 1), .int l, .tup tk] st = .ok r false st) :
    (G.at (k+2)).call "do_in" [.tup [.str s, .tup ps], .int o, .int l, .tup tk] st = .ok (if 2 ≤ (ps.length : Int) ∧ (ps.length : Int) ≤ (if l < 6 then l else 6) then r else .non) false st := by
  rw [pg_run G _ _ _ _ H.do_in rfl]
  simp only [ir_do_in]
  have e : (s == [100, 111]) = false := beq_eq_false_iff_ne.mpr hs
  have e' : ¬ s = [100, 111] := hs
  have eo : (o == 8) = false := beq_eq_false_iff_ne.mpr ho
  have hm := mem_joints s
  rw [hj] at hm
  by_cases h1 : 2 ≤ (ps.length : Int)
  · by_cases h2 : (ps.length : Int) ≤ (if l < 6 then l else 6)
    · simp -implicitDefEqProofs [binD, evt_e, put, D.ty, Met.tys, Met.calm, D.isBl, D.isT, D.isL, D.plain, D.plains, D.eqv, D.eqvs, partD, sliD, okK, D.akey, itemsL, seqD, it_rng, isi_tup (d := .tup _) rfl, isTup, isi_str (d := .str _) rfl, isStr, bifD, cmpD, cmpLt, subD, D.eq?, D.plain, D.eqv, e, e', ho, eo, inD, hm, h1, h2, hr, RF.into]
    · simp -implicitDefEqProofs [binD, evt_e, put, D.ty, Met.tys, Met.calm, D.isBl, D.isT, D.isL, D.plain, D.plains, D.eqv, D.eqvs, partD, sliD, okK, D.akey, itemsL, seqD, it_rng, isi_tup (d := .tup _) rfl, isTup, isi_str (d := .str _) rfl, isStr, bifD, cmpD, cmpLt, subD, D.eq?, D.plain, D.eqv, e, e', ho, eo, inD, hm, h1, h2, RF.into]
  · simp -implicitDefEqProofs [binD, evt_e, put, D.ty, Met.tys, Met.calm, D.isBl, D.isT, D.isL, D.plain, D.plains, D.eqv, D.eqvs, partD, sliD, okK, D.akey, itemsL, seqD, it_rng, isi_tup (d := .tup _) rfl, isTup, isi_str (d := .str _) rfl, isStr, bifD, cmpD, cmpLt, subD, D.eq?, D.plain, D.eqv, e, e', ho, eo, inD, hm, h1, RF.into]
theorem do_in_kind (k : Nat) (s : List Nat) (x t : D) (o l : Int) (tk : D) (st : List Ob) (hs : s ≠ kDo) (ho : o ≠ 8) (hj : joints.contains s = false) (h1 : s ≠ kTimes) (h2 : s ≠ kUnless) :
    (G.at (k+1)).call "do_in" [.tup [.str s, x, t], .int o, .int l, tk] st = .ok .non false st := by
  rw [pg_run G _ _ _ _ H.do_in rfl]
  simp only [ir_do_in]
  have e : (s == [100, 111]) = false := beq_eq_false_iff_ne.mpr hs
  have e' : ¬ s = [100, 111] := hs
  have e1 : ¬ s = [116, 105, 109, 101, 115] := h1
  have e2 : ¬ s = [117, 110, 108, 101, 115, 115] := h2
  have e1b : (s == [116, 105, 109, 101, 115]) = false := beq_eq_false_iff_ne.mpr e1
  have e2b : (s == [117, 110, 108, 101, 115, 115]) = false := beq_eq_false_iff_ne.mpr e2
  have eo : (o == 8) = false := beq_eq_false_iff_ne.mpr ho
  have hm := mem_joints s
  rw [hj] at hm
  simp -implicitDefEqProofs [evt_e, put, D.ty, Met.tys, Met.calm, D.isBl, D.isT, D.isL, D.plain, D.plains, D.eqv, D.eqvs, partD, sliD, okK, D.akey, itemsL, seqD, it_rng, isi_tup (d := .tup _) rfl, isTup, isi_str (d := .str _) rfl, isStr, bifD, cmpD, cmpLt, subD, D.eq?, D.plain, D.eqv, e, e', e1, e2, e1b, e2b, ho, eo, inD, hm]
omit H in
theorem among_loop (k : Nat) (ps : List D) (o l : Int) (tk : List (List Nat)) (st : List Ob) : ∀ (r : List D) (many : Int) (x6 x7 : Slot),
    (∀ v ∈ r, okTop v = true) → (∀ v ∈ r, ∀ l', (G.at k).call "do_in" [v, .int o, .int l', .tup (tk.map .str)] st = .ok (outD (doIn v o l' tk)) false st) →
    ∃ y6 y7 many' due', forL (fun d s => tset (G.at k) ir_do_among_t1 d false s) (fun s => exs (G.at k) ir_do_among_b1 s) [] r ⟨[.fz (.tup ps), .fz (.int o), .fz (.int l), .fz (.tup (tk.map .str)), .fz (.int many), .fz (.int r.length), x6, x7], st⟩ =
      match doAmong r o l tk many with
      | some i => .ok .nx ⟨[.fz (.tup ps), .fz (.int o), .fz (.int l), .fz (.tup (tk.map .str)), .fz (.int i), .fz (.int due'), y6, y7], st⟩
      | none => .ok (.ret .non false) ⟨[.fz (.tup ps), .fz (.int o), .fz (.int l), .fz (.tup (tk.map .str)), .fz (.int many'), .fz (.int due'), y6, y7], st⟩
  | [], many, x6, x7, _, _ => ⟨x6, x7, many, 0, by rw [doAmong]; rfl⟩
  | v :: r, many, x6, x7, hv, h => by
    have hd := h v List.mem_cons_self (l - many - r.length)
    have hv0 := hv v List.mem_cons_self
    rw [doAmong]
    have e1 : ((r.length : Int) + 1 - 1) = (r.length : Int) := by omega
    cases hf : doIn v o (l - many - r.length) tk with
    | none =>
      rw [hf] at hd
      refine ⟨.fz v, .fz .non, many, r.length, ?_⟩
      simp -implicitDefEqProofs [forL, ir_do_among_b1, ir_do_among_t1, evt_e, put, D.ty, Met.tys, Met.calm, D.isBl, D.isT, D.isL, D.plain, D.plains, D.eqv, D.eqvs, partD, sliD, okK, D.akey, itemsL, seqD, it_rng, binD, e1, hd, outD, RF.into, cmpD, isD, D.isNon, de_ok hv0]
    | some f =>
      rw [hf] at hd
      obtain ⟨y6, y7, m', du', hl⟩ := among_loop k ps o l tk st r (many + f) (.fz v) (.fz (.int f)) (fun u hu => hv u (List.mem_cons_of_mem _ hu)) (fun u hu => h u (List.mem_cons_of_mem _ hu))
      refine ⟨y6, y7, m', du', ?_⟩
      rw [← hl]
      simp -implicitDefEqProofs [forL, ir_do_among_b1, ir_do_among_t1, evt_e, put, D.ty, Met.tys, Met.calm, D.isBl, D.isT, D.isL, D.plain, D.plains, D.eqv, D.eqvs, partD, sliD, okK, D.akey, itemsL, seqD, it_rng, binD, e1, hd, outD, RF.into, cmpD, isD, D.isNon, de_ok hv0, locked]
theorem do_among_run (k : Nat) (ps : List D) (o l : Int) (tk : List (List Nat)) (st : List Ob) (hv : ∀ v ∈ ps, okTop v = true)
    (h : ∀ v ∈ ps, ∀ l', (G.at k).call "do_in" [v, .int o, .int l', .tup (tk.map .str)] st = .ok (outD (doIn v o l' tk)) false st) :
    (G.at (k+1)).call "do_among" [.tup ps, .int o, .int l, .tup (tk.map .str)] st = .ok (outD (doAmong ps o l tk 0)) false st := by
  rw [pg_run G _ _ _ _ H.do_among rfl]
  obtain ⟨y6, y7, m', du', hl⟩ := among_loop k ps o l tk st ps 0 .emp .emp hv h
  simp only [ir_do_among]
  cases hd : doAmong ps o l tk 0 with
  | none =>
    rw [hd] at hl
    simp -implicitDefEqProofs [evt_e, put, D.ty, Met.tys, Met.calm, D.isBl, D.isT, D.isL, D.plain, D.plains, D.eqv, D.eqvs, partD, sliD, okK, D.akey, itemsL, seqD, it_rng, bifD, evIt, walkD, itemsW, locked, outD] at hl ⊢
    simp [hl]
  | some i =>
    rw [hd] at hl
    simp -implicitDefEqProofs [evt_e, put, D.ty, Met.tys, Met.calm, D.isBl, D.isT, D.isL, D.plain, D.plains, D.eqv, D.eqvs, partD, sliD, okK, D.akey, itemsL, seqD, it_rng, bifD, evIt, walkD, itemsW, locked, outD] at hl ⊢
    simp [hl]
theorem do_in_at : ∀ n, DoInAt G n := by
  intro n
  induction n with
  | zero =>
    intro m v o l tk st hv h0 h8 hn ht
    have ho : o = 8 := by omega
    subst ho
    have e : 2 * 0 + 4 + m = (m + 1) + 3 := by omega
    rw [e]
    cases hT : isTup v with
    | false => rw [do_in_other H _ _ _ _ _ _ hv hT, no_other hT]; rfl
    | true =>
      cases v with
      | git vs => exact (okD_git hv).elim
      | tup vs =>
        rw [okD] at hv
        have hm := okDs_mem hv
        match vs, hm with
        | [], _ => rw [do_in_short H _ _ _ _ _ _ (by simp), no_short (by simp)]; rfl
        | [a], _ => rw [do_in_short H _ _ _ _ _ _ (by simp), no_short (by simp)]; rfl
        | a :: b :: r, hm =>
          have ha := hm a (by simp)
          have hb := hm b (by simp)
          cases hs : isStr a with
          | false => rw [do_in_nostr H _ _ _ _ _ _ _ _ ha hs, no_nostr hs]; rfl
          | true =>
            cases a with
            | str s =>
              by_cases hk : s = kDo
              · subst hk
                rw [do_in_do H _ b r 8 l tk st hb]
                match r with
                | [] => rw [doIn2, if_pos rfl]; simp
                | [c] => rw [doIn3, if_pos rfl]; simp
                | c :: d :: r => rw [no_long]; simp
              · rw [do_in_deep H _ _ _ _ _ _ _ hk]
                match r with
                | [] => rw [doIn2, if_neg hk, if_pos rfl]; rfl
                | [c] => rw [doIn3, if_neg hk, if_pos rfl]; rfl
                | c :: d :: r => rw [no_long]; rfl
            | _ => cases hs
      | _ => cases hT
  | succ n ih =>
    intro m v o l tk st hv h0 h8 hn ht
    have e : 2 * (n + 1) + 4 + m = (2 * n + 4 + m) + 2 := by omega
    have e3 : 2 * (n + 1) + 4 + m = (2 * n + 3 + m) + 3 := by omega
    have e1 : 2 * (n + 1) + 4 + m = (2 * n + 5 + m) + 1 := by omega
    cases hT : isTup v with
    | false => rw [e1, do_in_other H _ _ _ _ _ _ hv hT, no_other hT]; rfl
    | true =>
      cases v with
      | git vs => exact (okD_git hv).elim
      | tup vs =>
        rw [okD] at hv
        have hm := okDs_mem hv
        match vs, hm with
        | [], _ => rw [e1, do_in_short H _ _ _ _ _ _ (by simp), no_short (by simp)]; rfl
        | [a], _ => rw [e1, do_in_short H _ _ _ _ _ _ (by simp), no_short (by simp)]; rfl
        | a :: b :: r, hm =>
          have ha := hm a (by simp)
          have hb := hm b (by simp)
          cases hs : isStr a with
          | false => rw [e1, do_in_nostr H _ _ _ _ _ _ _ _ ha hs, no_nostr hs]; rfl
          | true =>
            cases a with
            | str s =>
              by_cases hk : s = kDo
              · subst hk
                rw [e3, do_in_do H _ b r o l tk st hb]
                match r with
                | [] => rw [doIn2, if_pos rfl]; simp
                | [c] => rw [doIn3, if_pos rfl]; simp
                | c :: d :: r => rw [no_long]; simp
              · by_cases ho : o = 8
                · subst ho
                  rw [e1, do_in_deep H _ _ _ _ _ _ _ hk]
                  match r with
                  | [] => rw [doIn2, if_neg hk, if_pos rfl]; rfl
                  | [c] => rw [doIn3, if_neg hk, if_pos rfl]; rfl
                  | c :: d :: r => rw [no_long]; rfl
                · cases hj : joints.contains s with
                  | true =>
                    match r, hm with
                    | [], hm =>
                      cases hTb : isTup b with
                      | false =>
                        rw [e1, do_in_joint_bad H _ _ _ _ _ _ _ _ hb hk ho hj (.inr hTb), doIn2, if_neg hk, if_neg ho, if_pos hj]
                        cases b <;> first | rfl | cases hTb
                      | true =>
                        cases b with
                        | git vs => exact (okD_git hb).elim
                        | tup ps =>
                          rw [okD] at hb
                          have hp := okDs_mem hb
                          have hr := do_among_run H (2 * n + 4 + m) ps (o + 1) l tk st (fun v hv => okD_top (hp v hv)) fun v hv l' => ih m v (o + 1) l' tk st (hp v hv) (by omega) (by omega) (by omega) (by omega)
                          rw [e, do_in_joint H _ s ps o l _ st hk ho hj _ hr, doIn2, if_neg hk, if_neg ho, if_pos hj, min_eq]
                          show _ = RF.ok (outD (if 2 ≤ ps.length ∧ (ps.length : Int) ≤ min 6 l then doAmong ps (o + 1) l tk 0 else none)) false st
                          by_cases hc : 2 ≤ (ps.length : Int) ∧ (ps.length : Int) ≤ min 6 l
                          · rw [if_pos hc, if_pos ⟨by omega, hc.2⟩]
                          · rw [if_neg hc, if_neg fun z => hc ⟨by omega, z.2⟩]; rfl
                        | _ => cases hTb
                    | [c], _ => rw [e1, do_in_joint_bad H _ _ _ _ _ _ _ _ hb hk ho hj (.inl (by simp)), doIn3, if_neg hk, if_neg ho, if_pos hj]; rfl
                    | c :: d :: r, _ => rw [e1, do_in_joint_bad H _ _ _ _ _ _ _ _ hb hk ho hj (.inl (by simp)), no_long]; rfl
                  | false =>
                    have hj' : ¬ joints.contains s = true := by rw [hj]; simp
                    match r, hm with
                    | [], _ => rw [e1, do_in_len H _ _ _ _ _ _ _ _ hk ho hj (by simp), doIn2, if_neg hk, if_neg ho, if_neg hj']; rfl
                    | [t], hm =>
                      have hct := hm t (by simp)
                      rw [doIn3, if_neg hk, if_neg ho, if_neg hj']
                      by_cases ht' : s = kTimes
                      · subst ht'
                        have hr := ih (m + 1) t (o + 1) l tk st hct (by omega) (by omega) (by omega) (by omega)
                        rw [e, do_in_times H _ b t o l _ st hb hct ho _ (by rw [show 2 * n + 4 + m + 1 = 2 * n + 4 + (m + 1) by omega]; exact hr) ⟨_, rfl⟩, if_pos rfl]
                        cases wholeD b 2 5 <;> rfl
                      · by_cases hu : s = kUnless
                        · subst hu
                          rw [if_neg ht', if_pos rfl]
                          have hr : ∀ s, b = .str s → (G.at (2 * n + 3 + m + 2)).call "do_in" [t, .int (o + 1), .int l, .tup ((tk ++ [s]).map .str)] st = .ok (outD (match b with | .str s => doIn t (o + 1) l (tk ++ [s]) | _ => none)) false st := fun s hbs => by
                            subst hbs
                            rw [show 2 * n + 3 + m + 2 = 2 * n + 4 + (m + 1) by omega]
                            exact ih (m + 1) t (o + 1) l (tk ++ [s]) st hct (by omega) (by omega) (by omega) (by simp; omega)
                          rw [e3, do_in_unless H _ b t o l tk st hb hct ho (by omega) _ hr]
                          cases b with
                          | str s =>
                            show _ = RF.ok (outD (if (callNameD (.str s) && !strIn (.str s) tk) = true then doIn t (o + 1) l (tk ++ [s]) else none)) false st
                            split <;> rfl
                          | _ => rfl
                        · rw [e1, do_in_kind H _ _ _ _ _ _ _ _ hk ho hj ht' hu, if_neg ht', if_neg hu]; rfl
                    | c :: d :: r, _ => rw [e1, do_in_len H _ _ _ _ _ _ _ _ hk ho hj (by simp), no_long]; rfl
            | _ => cases hs
      | _ => cases hT
theorem is_task_run (m : Nat) (v : D) (st : List Ob) (hv : okD v = true) : (G.at (21 + m)).call "is_task" [v] st = .ok (.bl (taskP v)) false st := by
  have h := do_in_at H 8 m v 0 10 [] st hv (by omega) (by omega) (by omega) (by simp)
  rw [show 21 + m = (2 * 8 + 4 + m) + 1 by omega, pg_run G _ _ _ _ H.is_task rfl]
  simp only [ir_is_task]
  simp only [List.map_nil] at h
  unfold taskP
  cases hd : doIn v 0 10 [] with
  | none =>
    rw [hd] at h
    simp -implicitDefEqProofs [evt_e, put, D.ty, Met.tys, Met.calm, D.isBl, D.isT, D.isL, D.plain, D.plains, D.eqv, D.eqvs, partD, sliD, okK, D.akey, itemsL, seqD, it_rng, h, RF.into, outD, cmpD, isD, D.isNon]
  | some i =>
    rw [hd] at h
    simp -implicitDefEqProofs [evt_e, put, D.ty, Met.tys, Met.calm, D.isBl, D.isT, D.isL, D.plain, D.plains, D.eqv, D.eqvs, partD, sliD, okK, D.akey, itemsL, seqD, it_rng, h, RF.into, outD, cmpD, isD, D.isNon]
end
end Lw
end
section
set_option linter.all false
set_option maxRecDepth 10000
set_option maxHeartbeats 4000000
/-! SomeTask: drawn tasks. -/
namespace Lw
open PySem PyE Tk
theorem digits_dig (n : Nat) : ∀ x ∈ digitsN n, isDig x = true := fun x hx => by
  unfold digitsN at hx
  obtain ⟨ch, hc, rfl⟩ := List.mem_map.mp hx
  have := Nat.isDigit_of_mem_toDigits (b := 10) (n := n) (by omega) (by omega) hc
  simp only [Char.isDigit, Bool.and_eq_true, decide_eq_true_eq] at this
  simp only [isDig, Bool.and_eq_true, decide_eq_true_eq]
  exact ⟨this.1, this.2⟩
theorem toNat_inj {a b : List Char} (h : a.map Char.toNat = b.map Char.toNat) : a = b := by
  induction a generalizing b with
  | nil => cases b <;> simp_all
  | cons x a ih =>
    cases b with
    | nil => simp at h
    | cons y b =>
      simp only [List.map_cons, List.cons.injEq] at h
      rw [ih h.2, Char.toNat_inj.mp h.1]
theorem digits_inj {m n : Nat} (h : digitsN m = digitsN n) : m = n := by
  have h := toNat_inj h
  have a := Nat.ofDigitChars_ten_toDigits (n := m)
  have b := Nat.ofDigitChars_ten_toDigits (n := n)
  rw [h] at a
  exact a.symm.trans b
theorem low_notdig {x : Nat} (h : isLow x = true) : isDig x = false := by
  simp only [isLow, isDig, Bool.and_eq_true, decide_eq_true_eq, Bool.and_eq_false_iff, decide_eq_false_iff_not] at *; omega
theorem name_digits {i : Nat} {s : List Nat} (h : NameOf i s) : s.filter isDig = digitsN i := by
  obtain ⟨a, b, _, ha, hb, _, rfl⟩ := h
  have f0 : ∀ l : List Nat, (∀ x ∈ l, isLow x = true) → l.filter isDig = [] := fun l hl => List.filter_eq_nil_iff.mpr fun x hx => by rw [low_notdig (hl x hx)]; simp
  have e : strInt (i : Int) = digitsN i := by unfold strInt; rw [if_neg (by omega), Int.natAbs_natCast]
  rw [List.filter_append, List.filter_append, f0 a ha, f0 b hb, e, List.nil_append, List.append_nil]
  exact List.filter_eq_self.mpr (digits_dig i)
theorem name_inj {i j : Nat} {s : List Nat} (h : NameOf i s) (h' : NameOf j s) : i = j := digits_inj ((name_digits h).symm.trans (name_digits h'))
theorem NamesOf.nodup {many : Nat} {l : List (List Nat)} (h : NamesOf many l) : l.Nodup := by
  obtain ⟨l0, h1, h2, h3⟩ := h
  refine h1.nodup_iff.mpr (List.pairwise_iff_getElem.mpr fun i j hi hj hij e => ?_)
  have a := h3 i hi
  have b := h3 j hj
  rw [e] at a
  have := name_inj a b
  omega
/-- the form of a drawn task -/
inductive Shape : Nat → D → Prop where
  | do (n : Nat) (s : List Nat) : Shape n (.tup [.str kDo, .str s])
  | joint (n : Nat) (k : List Nat) (ps : List D) : joints.contains k = true → ps ≠ [] → ps.length ≤ 6 → (∀ p ∈ ps, Shape n p) → Shape (n + 1) (.tup [.str k, .tup ps])
  | times (n : Nat) (i : Nat) (t : D) : 2 ≤ i → i ≤ 5 → Shape n t → Shape (n + 1) (.tup [.str kTimes, .int i, t])
  | unl (n : Nat) (s : List Nat) (t : D) : Shape n t → Shape (n + 1) (.tup [.str kUnless, .str s, t])
theorem Shape.mono {n : Nat} {v : D} (h : Shape n v) : Shape (n + 1) v := by
  induction h with
  | «do» n s => exact .do _ s
  | joint n k ps h1 h2 h3 _ ih => exact .joint _ k ps h1 h2 h3 ih
  | times n i t h1 h2 _ ih => exact .times _ i t h1 h2 ih
  | unl n s t _ ih => exact .unl _ s t ih
theorem Shape.plain {n : Nat} {v : D} (h : Shape n v) : v.plain (2 * n + 1) = true := by
  induction h with
  | «do» n s => simp [D.plain, D.plains]
  | joint n k ps h1 h2 h3 _ ih =>
    rw [show 2 * (n + 1) + 1 = (2 * n + 1) + 1 + 1 by omega]
    simp only [D.plain, D.plains, Bool.true_and, Bool.and_true]
    exact (plains_iff _ _).mpr ih
  | times n i t _ _ _ ih =>
    rw [show 2 * (n + 1) + 1 = (2 * n + 2) + 1 by omega]
    simp only [D.plain, D.plains, Bool.true_and, Bool.and_true]
    exact plain_mono t _ _ (by omega) ih
  | unl n s t _ ih =>
    rw [show 2 * (n + 1) + 1 = (2 * n + 2) + 1 by omega]
    simp only [D.plain, D.plains, Bool.true_and, Bool.and_true]
    exact plain_mono t _ _ (by omega) ih
/-- draws for a task -/
def drawsT : Nat → Nat
  | 0 => 40
  | d + 1 => 40 + 13 * drawsT d
structure SomeG (G : Pg) : Prop extends CallsG G where
  some_task : G.defs "_law_some_task" = some ir__law_some_task
def SomeAt (G : Pg) (d : Nat) : Prop := ∀ (k : Nat) (st : List Ob) (p : Nat) (o : Ob) (c : Nat) (calls : List (List Nat)) (many : Nat), st[p]? = some o → Pen c o → c + drawsT d < 1099511000000 → calls ≠ [] → calls.Nodup → calls.length ≤ 100 →
  1 ≤ many → many ≤ 12 → ∃ t o', Shape (d + 1) t ∧ Pen (c + drawsT d) o' ∧ (G.at (d + 3 + k)).call "_law_some_task" [.ref p, .lst (calls.map .str), .int many, .int d] st = .ok t false (st.set p o')
def kindsD : List D := [.str [97, 108, 108], .str [97, 110, 121], .str [114, 111, 119], .str [114, 111, 119]]
theorem kinds_joint {d : D} (h : d ∈ kindsD) : ∃ k, d = .str k ∧ joints.contains k = true := by
  simp only [kindsD, List.mem_cons, List.not_mem_nil, or_false] at h
  rcases h with rfl | rfl | rfl | rfl <;> exact ⟨_, rfl, by decide⟩
section
variable {G : Pg} (H : SomeG G)
include H
theorem some_do (k : Nat) (st : List Ob) (p : Nat) (o : Ob) (c : Nat) (calls : List (List Nat)) (hp : st[p]? = some o) (hP : Pen c o) (hc : c < 1099511000000) (h0 : calls ≠ []) (hl : calls.length ≤ 100) :
    ∃ s o', Pen (c + 1) o' ∧ (G.at (k + 2)).call "_law_pick" [.ref p, .lst (calls.map .str)] st = .ok (.str s) false (st.set p o') := by
  obtain ⟨d, o', hd, hP', e⟩ := pick_run H.toPenG k st p o c _ (calls.map .str) (.inl rfl) hp hP (by omega) (by simpa using h0) (by rw [List.length_map]; omega)
  obtain ⟨s, _, rfl⟩ := List.mem_map.mp hd
  exact ⟨s, o', hP', e⟩
theorem some_loop0 (K : Nat) (st : List Ob) (p : Nat) (o : Ob) (hp : st[p]? = some o) (c : Nat) (l : D) (n0 cost d : Nat) (hn0 : 2 ≤ n0) (hn12 : n0 ≤ 12) (hd : d ≤ 10) (hc : c + 12 * (1 + cost) < 1099511000000) (x5 x6 x7 x10 : Slot) (deep : Int) (hdeep : deep = 0)
    (hdraw : ∀ (o : Ob) (c' : Nat) (m : Int), Pen c' o → c' < 1099511000000 → 0 < m → m ≤ 12 → ∃ (i : Nat) (o' : Ob), (i : Int) < m ∧ Pen (c' + 1) o' ∧ (G.at K).call "_law_draw" [.ref p, .int m] (st.set p o) = .ok (.int i) false (st.set p o'))
    (hpart : ∀ (o : Ob) (c' size : Nat), Pen c' o → c' < 1099511000000 - cost → 1 ≤ size → size ≤ 12 → ∃ (t : D) (o' : Ob), Shape d t ∧ Pen (c' + cost) o' ∧ ∃ s, t = .tup [.str kDo, .str s] ∧ (G.at K).call "_law_pick" [.ref p, l] (st.set p o) = .ok (.str s) false (st.set p o')) (hP : Pen c o) :
    ∃ (parts : List D) (o' : Ob) (x : Slot), Pen (c + 12 * (1 + cost)) o' ∧ parts ≠ [] ∧ (∀ t ∈ parts, Shape d t) ∧ parts.length ≤ 12 ∧
      whlN (fun s => evt (G.at K) ir__law_some_task_c2 s) (fun s => exs (G.at K) ir__law_some_task_b2 s) WF ⟨[.fz (.ref p), .fz l, .fz (.int n0), .fz (.int deep), .fz (.lst kindsD), x5, x6, x7, .own (.lst []), .fz (.int n0), x10], st.set p o⟩ =
        .ok .nx ⟨[.fz (.ref p), .fz l, .fz (.int n0), .fz (.int deep), .fz (.lst kindsD), x5, x6, x7, .own (.lst parts), .fz (.int 0), x], st.set p o'⟩ := by
  have hw := whl_ok (c := fun s => evt (G.at K) ir__law_some_task_c2 s) (body := fun s => exs (G.at K) ir__law_some_task_b2 s)
    (fun n s => ∃ (parts : List D) (o' : Ob) (x : Slot), s = ⟨[.fz (.ref p), .fz l, .fz (.int n0), .fz (.int deep), .fz (.lst kindsD), x5, x6, x7, .own (.lst parts), .fz (.int (n : Nat)), x], st.set p o'⟩ ∧
      Pen (c + parts.length * (1 + cost)) o' ∧ (∀ t ∈ parts, Shape d t) ∧ parts.length + n ≤ n0 ∧ (parts = [] → n = n0))
    (fun s => ∃ (parts : List D) (o' : Ob) (x : Slot), Pen (c + 12 * (1 + cost)) o' ∧ parts ≠ [] ∧ (∀ t ∈ parts, Shape d t) ∧ parts.length ≤ 12 ∧ s = ⟨[.fz (.ref p), .fz l, .fz (.int n0), .fz (.int deep), .fz (.lst kindsD), x5, x6, x7, .own (.lst parts), .fz (.int 0), x], st.set p o'⟩)
    (fun n s ⟨parts, o', x, hs, hP', hsh, hlen, h0⟩ => by
      subst hs
      have hcost : parts.length * (1 + cost) ≤ 12 * (1 + cost) := Nat.mul_le_mul_right _ (by omega)
      cases n with
      | zero =>
        refine .inl ⟨_, ?_, parts, o', x, pen_mono hP' (by omega), fun e => by have := h0 e; omega, hsh, by omega, rfl⟩
        simp -implicitDefEqProofs [ir__law_some_task_c2, evt_e, put, D.ty, Met.tys, Met.calm, D.isBl, D.isT, D.isL, D.plain, D.plains, D.eqv, D.eqvs, partD, sliD, okK, D.akey, itemsL, seqD, it_rng]
      | succ n =>
        right
        have hcost1 : (parts.length + 1) * (1 + cost) ≤ 12 * (1 + cost) := Nat.mul_le_mul_right _ (by omega)
        rw [Nat.add_mul, Nat.one_mul] at hcost1
        have hpos : (0 : Int) < (n : Int) + 1 := by omega
        have hc2 : evt (G.at K) ir__law_some_task_c2 ⟨[.fz (.ref p), .fz l, .fz (.int n0), .fz (.int deep), .fz (.lst kindsD), x5, x6, x7, .own (.lst parts), .fz (.int ((n + 1 : Nat) : Int)), x], st.set p o'⟩ =
            .ok true ⟨[.fz (.ref p), .fz l, .fz (.int n0), .fz (.int deep), .fz (.lst kindsD), x5, x6, x7, .own (.lst parts), .fz (.int ((n + 1 : Nat) : Int)), x], st.set p o'⟩ := by
          simp -implicitDefEqProofs [ir__law_some_task_c2, evt_e, put, D.ty, Met.tys, Met.calm, D.isBl, D.isT, D.isL, D.plain, D.plains, D.eqv, D.eqvs, partD, sliD, okK, D.akey, itemsL, seqD, it_rng, hpos]
        -- the size
        obtain ⟨size, o1, hs1, hs2, hP1, hrun⟩ : ∃ (size : Nat) (o1 : Ob), 1 ≤ size ∧ size ≤ n + 1 ∧ Pen (c + parts.length * (1 + cost) + 1) o1 ∧
            ex (G.at K) (St.asg (T.nm 10 false) (E.ite (E.cmp (CmpOp.Eq) (E.bif (Bif.len) [E.m 8]) (E.c (D.int 5))) (E.v 9) (E.bin (Operator.Add) (E.c (D.int 1)) (E.call (Str.ofString "_law_draw") [E.v 0, E.ite (E.cmp (CmpOp.NotEq) (E.m 8) (E.lst [])) (E.v 9) (E.bin (Operator.Sub) (E.v 9) (E.c (D.int 1)))])))) ⟨[.fz (.ref p), .fz l, .fz (.int n0), .fz (.int deep), .fz (.lst kindsD), x5, x6, x7, .own (.lst parts), .fz (.int ((n : Int) + 1)), x], st.set p o'⟩ =
            .ok .nx ⟨[.fz (.ref p), .fz l, .fz (.int n0), .fz (.int deep), .fz (.lst kindsD), x5, x6, x7, .own (.lst parts), .fz (.int ((n : Int) + 1)), .fz (.int (size : Nat))], st.set p o1⟩ := by
          have hpl := eq_nil (l := parts) ((plains_iff _ _).mpr fun v hv => plain_mono v _ _ (by omega) (hsh v hv).plain)
          by_cases h5 : parts.length = 5
          · refine ⟨n + 1, o', by omega, by omega, pen_mono hP' (by omega), ?_⟩
            have h5i : ((parts.length : Int) == 5) = true := by rw [h5]; rfl
            simp -implicitDefEqProofs [evt_e, put, D.ty, Met.tys, Met.calm, D.isBl, D.isT, D.isL, D.plain, D.plains, D.eqv, D.eqvs, partD, sliD, okK, D.akey, itemsL, seqD, it_rng, h5i]
          · have h5i : ((parts.length : Int) == 5) = false := beq_eq_false_iff_ne.mpr (by omega)
            cases parts with
            | nil =>
              have hn := h0 rfl
              obtain ⟨i, o1, hi, hP1, e1⟩ := hdraw o' _ (n : Int) hP' (by omega) (by omega) (by omega)
              refine ⟨1 + i, o1, by omega, by omega, hP1, ?_⟩
              simp -implicitDefEqProofs [evt_e, put, D.ty, Met.tys, Met.calm, D.isBl, D.isT, D.isL, D.plain, D.plains, D.eqv, D.eqvs, partD, sliD, okK, D.akey, itemsL, seqD, it_rng, hpl, e1]
            | cons a r =>
              obtain ⟨i, o1, hi, hP1, e1⟩ := hdraw o' _ ((n : Int) + 1) hP' (by omega) (by omega) (by omega)
              refine ⟨1 + i, o1, by omega, by omega, hP1, ?_⟩
              simp only [List.length_cons, Int.natCast_add, Int.cast_ofNat_Int] at h5i
              simp -implicitDefEqProofs [evt_e, put, D.ty, Met.tys, Met.calm, D.isBl, D.isT, D.isL, D.plain, D.plains, D.eqv, D.eqvs, partD, sliD, okK, D.akey, itemsL, seqD, it_rng, hpl, e1, h5i]
        obtain ⟨t, o2, hsht, hP2, hpart⟩ := hpart o1 _ size hP1 (by omega) hs1 (by omega)
        have hz : parts.length < SL := by unfold SL; omega
        refine ⟨_, ⟨[.fz (.ref p), .fz l, .fz (.int n0), .fz (.int deep), .fz (.lst kindsD), x5, x6, x7, .own (.lst (parts ++ [t])), .fz (.int (n : Int)), .fz (.int (size : Nat))], st.set p o2⟩, n, hc2, ?_, by omega, parts ++ [t], o2, _, rfl, ?_, ?_, ?_, ?_⟩
        · unfold ir__law_some_task_b2
          rw [exs_e2, show (((n + 1 : Nat) : Int)) = (n : Int) + 1 from rfl, hrun]
          obtain ⟨s, rfl, hpk⟩ := hpart
          subst hdeep
          simp -implicitDefEqProofs [evt_e, put, D.ty, Met.tys, Met.calm, D.isBl, D.isT, D.isL, D.plain, D.plains, D.eqv, D.eqvs, partD, sliD, okK, D.akey, itemsL, seqD, it_rng, hpk, kDo, hz]
        · rw [List.length_append, List.length_singleton, Nat.add_mul, Nat.one_mul]; exact pen_mono hP2 (by omega)
        · intro y hy
          rcases List.mem_append.mp hy with hy | hy
          · exact hsh y hy
          · rw [List.mem_singleton.mp hy]; exact hsht
        · rw [List.length_append, List.length_singleton]; omega
        · intro e; simp at e)
    WF n0 ⟨[.fz (.ref p), .fz l, .fz (.int n0), .fz (.int deep), .fz (.lst kindsD), x5, x6, x7, .own (.lst []), .fz (.int n0), x10], st.set p o⟩
    ⟨[], o, x10, rfl, by simpa using hP, fun t h => (by cases h), by simp, fun _ => rfl⟩ (by unfold WF; omega)
  obtain ⟨s', he, parts, o', x, hP', hne, hsh, hl12, rfl⟩ := hw
  exact ⟨parts, o', x, hP', hne, hsh, hl12, he⟩
theorem some_loop1 (K : Nat) (st : List Ob) (p : Nat) (o : Ob) (hp : st[p]? = some o) (c : Nat) (l : D) (n0 cost d : Nat) (hn0 : 2 ≤ n0) (hn12 : n0 ≤ 12) (hd : d ≤ 10) (hc : c + 12 * (1 + cost) < 1099511000000) (x5 x6 x7 x10 : Slot) (deep : Int) (hdeep : 1 ≤ deep)
    (hdraw : ∀ (o : Ob) (c' : Nat) (m : Int), Pen c' o → c' < 1099511000000 → 0 < m → m ≤ 12 → ∃ (i : Nat) (o' : Ob), (i : Int) < m ∧ Pen (c' + 1) o' ∧ (G.at K).call "_law_draw" [.ref p, .int m] (st.set p o) = .ok (.int i) false (st.set p o'))
    (hpart : ∀ (o : Ob) (c' size : Nat), Pen c' o → c' < 1099511000000 - cost → 1 ≤ size → size ≤ 12 → ∃ (t : D) (o' : Ob), Shape d t ∧ Pen (c' + cost) o' ∧ (G.at K).call "_law_some_task" [.ref p, l, .int size, .int (deep - 1)] (st.set p o) = .ok t false (st.set p o')) (hP : Pen c o) :
    ∃ (parts : List D) (o' : Ob) (x : Slot), Pen (c + 12 * (1 + cost)) o' ∧ parts ≠ [] ∧ (∀ t ∈ parts, Shape d t) ∧ parts.length ≤ 12 ∧
      whlN (fun s => evt (G.at K) ir__law_some_task_c2 s) (fun s => exs (G.at K) ir__law_some_task_b2 s) WF ⟨[.fz (.ref p), .fz l, .fz (.int n0), .fz (.int deep), .fz (.lst kindsD), x5, x6, x7, .own (.lst []), .fz (.int n0), x10], st.set p o⟩ =
        .ok .nx ⟨[.fz (.ref p), .fz l, .fz (.int n0), .fz (.int deep), .fz (.lst kindsD), x5, x6, x7, .own (.lst parts), .fz (.int 0), x], st.set p o'⟩ := by
  have hw := whl_ok (c := fun s => evt (G.at K) ir__law_some_task_c2 s) (body := fun s => exs (G.at K) ir__law_some_task_b2 s)
    (fun n s => ∃ (parts : List D) (o' : Ob) (x : Slot), s = ⟨[.fz (.ref p), .fz l, .fz (.int n0), .fz (.int deep), .fz (.lst kindsD), x5, x6, x7, .own (.lst parts), .fz (.int (n : Nat)), x], st.set p o'⟩ ∧
      Pen (c + parts.length * (1 + cost)) o' ∧ (∀ t ∈ parts, Shape d t) ∧ parts.length + n ≤ n0 ∧ (parts = [] → n = n0))
    (fun s => ∃ (parts : List D) (o' : Ob) (x : Slot), Pen (c + 12 * (1 + cost)) o' ∧ parts ≠ [] ∧ (∀ t ∈ parts, Shape d t) ∧ parts.length ≤ 12 ∧ s = ⟨[.fz (.ref p), .fz l, .fz (.int n0), .fz (.int deep), .fz (.lst kindsD), x5, x6, x7, .own (.lst parts), .fz (.int 0), x], st.set p o'⟩)
    (fun n s ⟨parts, o', x, hs, hP', hsh, hlen, h0⟩ => by
      subst hs
      have hcost : parts.length * (1 + cost) ≤ 12 * (1 + cost) := Nat.mul_le_mul_right _ (by omega)
      cases n with
      | zero =>
        refine .inl ⟨_, ?_, parts, o', x, pen_mono hP' (by omega), fun e => by have := h0 e; omega, hsh, by omega, rfl⟩
        simp -implicitDefEqProofs [ir__law_some_task_c2, evt_e, put, D.ty, Met.tys, Met.calm, D.isBl, D.isT, D.isL, D.plain, D.plains, D.eqv, D.eqvs, partD, sliD, okK, D.akey, itemsL, seqD, it_rng]
      | succ n =>
        right
        have hcost1 : (parts.length + 1) * (1 + cost) ≤ 12 * (1 + cost) := Nat.mul_le_mul_right _ (by omega)
        rw [Nat.add_mul, Nat.one_mul] at hcost1
        have hpos : (0 : Int) < (n : Int) + 1 := by omega
        have hc2 : evt (G.at K) ir__law_some_task_c2 ⟨[.fz (.ref p), .fz l, .fz (.int n0), .fz (.int deep), .fz (.lst kindsD), x5, x6, x7, .own (.lst parts), .fz (.int ((n + 1 : Nat) : Int)), x], st.set p o'⟩ =
            .ok true ⟨[.fz (.ref p), .fz l, .fz (.int n0), .fz (.int deep), .fz (.lst kindsD), x5, x6, x7, .own (.lst parts), .fz (.int ((n + 1 : Nat) : Int)), x], st.set p o'⟩ := by
          simp -implicitDefEqProofs [ir__law_some_task_c2, evt_e, put, D.ty, Met.tys, Met.calm, D.isBl, D.isT, D.isL, D.plain, D.plains, D.eqv, D.eqvs, partD, sliD, okK, D.akey, itemsL, seqD, it_rng, hpos]
        -- the size
        obtain ⟨size, o1, hs1, hs2, hP1, hrun⟩ : ∃ (size : Nat) (o1 : Ob), 1 ≤ size ∧ size ≤ n + 1 ∧ Pen (c + parts.length * (1 + cost) + 1) o1 ∧
            ex (G.at K) (St.asg (T.nm 10 false) (E.ite (E.cmp (CmpOp.Eq) (E.bif (Bif.len) [E.m 8]) (E.c (D.int 5))) (E.v 9) (E.bin (Operator.Add) (E.c (D.int 1)) (E.call (Str.ofString "_law_draw") [E.v 0, E.ite (E.cmp (CmpOp.NotEq) (E.m 8) (E.lst [])) (E.v 9) (E.bin (Operator.Sub) (E.v 9) (E.c (D.int 1)))])))) ⟨[.fz (.ref p), .fz l, .fz (.int n0), .fz (.int deep), .fz (.lst kindsD), x5, x6, x7, .own (.lst parts), .fz (.int ((n : Int) + 1)), x], st.set p o'⟩ =
            .ok .nx ⟨[.fz (.ref p), .fz l, .fz (.int n0), .fz (.int deep), .fz (.lst kindsD), x5, x6, x7, .own (.lst parts), .fz (.int ((n : Int) + 1)), .fz (.int (size : Nat))], st.set p o1⟩ := by
          have hpl := eq_nil (l := parts) ((plains_iff _ _).mpr fun v hv => plain_mono v _ _ (by omega) (hsh v hv).plain)
          by_cases h5 : parts.length = 5
          · refine ⟨n + 1, o', by omega, by omega, pen_mono hP' (by omega), ?_⟩
            have h5i : ((parts.length : Int) == 5) = true := by rw [h5]; rfl
            simp -implicitDefEqProofs [evt_e, put, D.ty, Met.tys, Met.calm, D.isBl, D.isT, D.isL, D.plain, D.plains, D.eqv, D.eqvs, partD, sliD, okK, D.akey, itemsL, seqD, it_rng, h5i]
          · have h5i : ((parts.length : Int) == 5) = false := beq_eq_false_iff_ne.mpr (by omega)
            cases parts with
            | nil =>
              have hn := h0 rfl
              obtain ⟨i, o1, hi, hP1, e1⟩ := hdraw o' _ (n : Int) hP' (by omega) (by omega) (by omega)
              refine ⟨1 + i, o1, by omega, by omega, hP1, ?_⟩
              simp -implicitDefEqProofs [evt_e, put, D.ty, Met.tys, Met.calm, D.isBl, D.isT, D.isL, D.plain, D.plains, D.eqv, D.eqvs, partD, sliD, okK, D.akey, itemsL, seqD, it_rng, hpl, e1]
            | cons a r =>
              obtain ⟨i, o1, hi, hP1, e1⟩ := hdraw o' _ ((n : Int) + 1) hP' (by omega) (by omega) (by omega)
              refine ⟨1 + i, o1, by omega, by omega, hP1, ?_⟩
              simp only [List.length_cons, Int.natCast_add, Int.cast_ofNat_Int] at h5i
              simp -implicitDefEqProofs [evt_e, put, D.ty, Met.tys, Met.calm, D.isBl, D.isT, D.isL, D.plain, D.plains, D.eqv, D.eqvs, partD, sliD, okK, D.akey, itemsL, seqD, it_rng, hpl, e1, h5i]
        obtain ⟨t, o2, hsht, hP2, hpart⟩ := hpart o1 _ size hP1 (by omega) hs1 (by omega)
        have hz : parts.length < SL := by unfold SL; omega
        refine ⟨_, ⟨[.fz (.ref p), .fz l, .fz (.int n0), .fz (.int deep), .fz (.lst kindsD), x5, x6, x7, .own (.lst (parts ++ [t])), .fz (.int (((n + 1 - size : Nat)) : Int)), .fz (.int (size : Nat))], st.set p o2⟩, n + 1 - size, hc2, ?_, by omega, parts ++ [t], o2, _, rfl, ?_, ?_, ?_, ?_⟩
        · unfold ir__law_some_task_b2
          rw [exs_e2, show (((n + 1 : Nat) : Int)) = (n : Int) + 1 from rfl, hrun]
          have hmax : (if 1 < deep then deep - 1 else 0) = deep - 1 := by split <;> omega
          have hd0 : 0 < deep := by omega
          have hsz : (((n + 1 - size : Nat)) : Int) = (n : Int) + 1 - size := by omega
          simp -implicitDefEqProofs [evt_e, put, D.ty, Met.tys, Met.calm, D.isBl, D.isT, D.isL, D.plain, D.plains, D.eqv, D.eqvs, partD, sliD, okK, D.akey, itemsL, seqD, it_rng, hpart, hmax, hd0, hsz, hz]
        · rw [List.length_append, List.length_singleton, Nat.add_mul, Nat.one_mul]; exact pen_mono hP2 (by omega)
        · intro y hy
          rcases List.mem_append.mp hy with hy | hy
          · exact hsh y hy
          · rw [List.mem_singleton.mp hy]; exact hsht
        · rw [List.length_append, List.length_singleton]; omega
        · intro e; simp at e)
    WF n0 ⟨[.fz (.ref p), .fz l, .fz (.int n0), .fz (.int deep), .fz (.lst kindsD), x5, x6, x7, .own (.lst []), .fz (.int n0), x10], st.set p o⟩
    ⟨[], o, x10, rfl, by simpa using hP, fun t h => (by cases h), by simp, fun _ => rfl⟩ (by unfold WF; omega)
  obtain ⟨s', he, parts, o', x, hP', hne, hsh, hl12, rfl⟩ := hw
  exact ⟨parts, o', x, hP', hne, hsh, hl12, he⟩
theorem some_end (K : Nat) (st : List Ob) (p : Nat) (o : Ob) (c : Nat) (hp : st[p]? = some o) (hP : Pen c o) (hc : c < 1099511000000) (d : Nat) (parts : List D) (hne : parts ≠ []) (hsh : ∀ t ∈ parts, Shape d t) (loc : List Slot) (a0 : loc[0]? = some (.fz (.ref p))) (a4 : loc[4]? = some (.fz (.lst kindsD))) (a8 : loc[8]? = some (.own (.lst parts))) :
    ∃ (t : D) (o' : Ob), Shape (d + 1) t ∧ Pen (c + 1) o' ∧ endF (exs (G.at (K + 2)) [St.cond (E.cmp (CmpOp.Eq) (E.bif (Bif.len) [E.m 8]) (E.c (D.int 1))) [St.ret (some (E.sub (E.m 8) (E.c (D.int 0))))] [], St.ret (some (E.tup [E.call (Str.ofString "_law_pick") [E.v 0, E.v 4], E.bif (Bif.tuple) [E.sli (E.m 8) none (some (E.c (D.int 6)))]]))] ⟨loc, st⟩) = .ok t false (st.set p o') := by
  by_cases h1 : parts.length = 1
  · match parts, h1 with
    | [t], _ =>
      refine ⟨t, o, (hsh t (by simp)).mono, pen_mono hP (by omega), ?_⟩
      rw [set_id hp]
      simp -implicitDefEqProofs [evt_e, put, D.ty, Met.tys, Met.calm, D.isBl, D.isT, D.isL, D.plain, D.plains, D.eqv, D.eqvs, partD, sliD, okK, D.akey, itemsL, seqD, it_rng, a8]
  · have h1i : ((parts.length : Int) == 1) = false := beq_eq_false_iff_ne.mpr (by omega)
    obtain ⟨kd, o', hkd, hP', e⟩ := pick_run H.toPenG K st p o c _ kindsD (.inl rfl) hp hP (by omega) (by simp [kindsD]) (by simp [kindsD])
    obtain ⟨kn, rfl, hj⟩ := kinds_joint hkd
    have hcut : cutL parts none (some 6) = parts.take 6 := by
      unfold cutL cutAt
      simp
    refine ⟨.tup [.str kn, .tup (parts.take 6)], o', .joint _ _ _ hj ?_ ?_ fun t ht => hsh t (List.mem_of_mem_take ht), hP', ?_⟩
    · intro e
      have := congrArg List.length e
      rw [List.length_take, List.length_nil] at this
      have := List.length_pos_iff.mpr hne
      omega
    · rw [List.length_take]; omega
    · simp -implicitDefEqProofs [evt_e, put, D.ty, Met.tys, Met.calm, D.isBl, D.isT, D.isL, D.plain, D.plains, D.eqv, D.eqvs, partD, sliD, okK, D.akey, itemsL, seqD, it_rng, a8, a0, a4, h1i, e, hcut]
omit H in
theorem drop_name {x : List Nat} {calls : List (List Nat)} (hn : calls.Nodup) (h : 1 < calls.length) : calls.filter (fun y => !(y == x)) ≠ [] := fun e => by
  have hall : ∀ y ∈ calls, y = x := fun y hy => by
    have := List.filter_eq_nil_iff.mp e y hy
    simpa using this
  match calls, h, hn with
  | a :: b :: r, _, hn =>
    have h1 := hall a (by simp)
    have h2 := hall b (by simp)
    rw [h1, h2] at hn
    simp at hn
theorem some_at : ∀ d, d ≤ 9 → SomeAt G d := by
  intro d
  induction d with
  | zero =>
    intro _ k st p o c calls many hp hP hc h0 hnd hl hm1 hm12
    simp only [drawsT] at hc ⊢
    rw [show 0 + 3 + k = k + 3 by omega]
    rw [pg_run G _ _ _ _ H.some_task rfl]
    have hcl : calls.map D.str ≠ [] := by simpa using h0
    by_cases hm : many = 1
    · subst hm
      obtain ⟨s, o2, hP2, e3⟩ := some_do H k st p o c calls hp hP (by omega) h0 hl
      refine ⟨.tup [.str kDo, .str s], o2, .do _ _, pen_mono hP2 (by omega), ?_⟩
      unfold ir__law_some_task
      refine end_step (s' := ⟨[.fz (.ref p), .fz (.lst (calls.map .str)), .fz (.int (1 : Nat)), .fz (.int 0), .fz (.lst kindsD), .emp, .emp, .emp, .emp, .emp, .emp], st⟩) (by simp -implicitDefEqProofs [evt_e, put, D.ty, Met.tys, Met.calm, D.isBl, D.isT, D.isL, D.plain, D.plains, D.eqv, D.eqvs, partD, sliD, okK, D.akey, itemsL, seqD, it_rng, kindsD]) ?_
      exact end_fin (s' := ⟨[.fz (.ref p), .fz (.lst (calls.map .str)), .fz (.int (1 : Nat)), .fz (.int 0), .fz (.lst kindsD), .emp, .emp, .emp, .emp, .emp, .emp], st.set p o2⟩) (by simp -implicitDefEqProofs [evt_e, put, D.ty, Met.tys, Met.calm, D.isBl, D.isT, D.isL, D.plain, D.plains, D.eqv, D.eqvs, partD, sliD, okK, D.akey, itemsL, seqD, it_rng, e3, kDo])
    · have hmi : ((many : Int) == 1) = false := beq_eq_false_iff_ne.mpr (by omega)
      have hmi' : ¬ ((many : Int) = 1) := by omega
      obtain ⟨way, o2, hway, hP2, ew⟩ := draw_run H.toPenG (k + 1) st p o c 6 hp hP (by omega) (by omega) (by omega)
      obtain ⟨parts, o3, x, hP3, hne, hsh, hl12, hwl⟩ := some_loop0 H (k + 2) (st.set p o2) p o2 (set_get hp) (c + 1) (.lst (calls.map .str)) many 1 0 (by omega) (by omega) (by omega) (by omega) (.fz (.int (way : Nat))) .emp .emp .emp 0 rfl
        (fun o c' m hP hc hm0 hm12 => by
          obtain ⟨i, o', hi, hP', e⟩ := draw_run H.toPenG (k + 1) ((st.set p o2).set p o) p o c' m (set_get (set_get hp)) hP (by omega) hm0 (by omega)
          refine ⟨i, o', hi, hP', ?_⟩
          simp only [List.set_set] at e ⊢
          exact e)
        (fun o c' size hP hc hs1 hs12 => by
          obtain ⟨s, o', hP', e3⟩ := some_do H k ((st.set p o2).set p o) p o c' calls (set_get (set_get hp)) hP (by omega) h0 hl
          refine ⟨.tup [.str kDo, .str s], o', .do _ _, hP', s, rfl, ?_⟩
          simp only [List.set_set] at e3 ⊢
          exact e3) hP2
      rw [List.set_set, List.set_set] at hwl
      obtain ⟨t, o4, hst, hP4, hend⟩ := some_end H k (st.set p o3) p o3 _ (set_get hp) hP3 (by omega) 0 parts hne hsh [.fz (.ref p), .fz (.lst (calls.map .str)), .fz (.int many), .fz (.int 0), .fz (.lst kindsD), .fz (.int (way : Nat)), .emp, .emp, .own (.lst parts), .fz (.int 0), x] rfl rfl rfl
      rw [List.set_set] at hend
      refine ⟨t, o4, hst, pen_mono hP4 (by omega), ?_⟩
      unfold ir__law_some_task
      refine end_step (s' := ⟨[.fz (.ref p), .fz (.lst (calls.map .str)), .fz (.int many), .fz (.int 0), .fz (.lst kindsD), .emp, .emp, .emp, .emp, .emp, .emp], st⟩) (by simp -implicitDefEqProofs [evt_e, put, D.ty, Met.tys, Met.calm, D.isBl, D.isT, D.isL, D.plain, D.plains, D.eqv, D.eqvs, partD, sliD, okK, D.akey, itemsL, seqD, it_rng, kindsD]) ?_
      refine end_step (s' := ⟨[.fz (.ref p), .fz (.lst (calls.map .str)), .fz (.int many), .fz (.int 0), .fz (.lst kindsD), .emp, .emp, .emp, .emp, .emp, .emp], st⟩) (by simp -implicitDefEqProofs [evt_e, put, D.ty, Met.tys, Met.calm, D.isBl, D.isT, D.isL, D.plain, D.plains, D.eqv, D.eqvs, partD, sliD, okK, D.akey, itemsL, seqD, it_rng, hmi, hmi']) ?_
      refine end_step (s' := ⟨[.fz (.ref p), .fz (.lst (calls.map .str)), .fz (.int many), .fz (.int 0), .fz (.lst kindsD), .fz (.int (way : Nat)), .emp, .emp, .emp, .emp, .emp], st.set p o2⟩) (by simp -implicitDefEqProofs [evt_e, put, D.ty, Met.tys, Met.calm, D.isBl, D.isT, D.isL, D.plain, D.plains, D.eqv, D.eqvs, partD, sliD, okK, D.akey, itemsL, seqD, it_rng, ew]) ?_
      refine end_step (s' := ⟨[.fz (.ref p), .fz (.lst (calls.map .str)), .fz (.int many), .fz (.int 0), .fz (.lst kindsD), .fz (.int (way : Nat)), .emp, .emp, .emp, .emp, .emp], st.set p o2⟩) (by simp -implicitDefEqProofs [evt_e, put, D.ty, Met.tys, Met.calm, D.isBl, D.isT, D.isL, D.plain, D.plains, D.eqv, D.eqvs, partD, sliD, okK, D.akey, itemsL, seqD, it_rng]) ?_
      refine end_step (s' := ⟨[.fz (.ref p), .fz (.lst (calls.map .str)), .fz (.int many), .fz (.int 0), .fz (.lst kindsD), .fz (.int (way : Nat)), .emp, .emp, .emp, .emp, .emp], st.set p o2⟩) (by simp -implicitDefEqProofs [evt_e, put, D.ty, Met.tys, Met.calm, D.isBl, D.isT, D.isL, D.plain, D.plains, D.eqv, D.eqvs, partD, sliD, okK, D.akey, itemsL, seqD, it_rng]) ?_
      refine end_step (s' := ⟨[.fz (.ref p), .fz (.lst (calls.map .str)), .fz (.int many), .fz (.int 0), .fz (.lst kindsD), .fz (.int (way : Nat)), .emp, .emp, .emp, .emp, .emp], st.set p o2⟩) (by simp -implicitDefEqProofs [evt_e, put, D.ty, Met.tys, Met.calm, D.isBl, D.isT, D.isL, D.plain, D.plains, D.eqv, D.eqvs, partD, sliD, okK, D.akey, itemsL, seqD, it_rng, hmi, hmi']) ?_
      refine end_step (s' := ⟨[.fz (.ref p), .fz (.lst (calls.map .str)), .fz (.int many), .fz (.int 0), .fz (.lst kindsD), .fz (.int (way : Nat)), .emp, .emp, .own (.lst []), .fz (.int many), .emp], st.set p o2⟩) (by simp -implicitDefEqProofs [evt_e, put, D.ty, Met.tys, Met.calm, D.isBl, D.isT, D.isL, D.plain, D.plains, D.eqv, D.eqvs, partD, sliD, okK, D.akey, itemsL, seqD, it_rng]) ?_
      exact end_step hwl hend
  | succ d ih =>
    intro hd9 k st p o c calls many hp hP hc h0 hnd hl hm1 hm12
    have ih := ih (by omega)
    simp only [drawsT] at hc ⊢
    have hT : drawsT d ≤ drawsT d := Nat.le_refl _
    rw [show d + 1 + 3 + k = (d + 1 + k) + 3 by omega]
    rw [pg_run G _ _ _ _ H.some_task rfl]
    have e2 : d + 1 + k + 2 = d + 3 + k := by omega
    have hcl : calls.map D.str ≠ [] := by simpa using h0
    have hdp : (0 : Int) < (d : Int) + 1 := by omega
    have hd0 : ((d : Int) + 1 == 0) = false := beq_eq_false_iff_ne.mpr (by omega)
    -- behind the first draw
    have tail : ∀ o1, Pen (c + 1) o1 → ∃ t o', Shape (d + 1 + 1) t ∧ Pen (c + (40 + 13 * drawsT d)) o' ∧
        endF (exs (G.at (d + 1 + k + 2)) (ir__law_some_task.body.drop 2) ⟨[.fz (.ref p), .fz (.lst (calls.map .str)), .fz (.int many), .fz (.int ((d : Int) + 1)), .fz (.lst kindsD), .emp, .emp, .emp, .emp, .emp, .emp], st.set p o1⟩) = .ok t false (st.set p o') := by
      intro o1 hP1
      simp only [ir__law_some_task, List.drop_succ_cons, List.drop_zero]
      obtain ⟨way, o2, hway, hP2, ew⟩ := draw_run H.toPenG (d + 1 + k + 1) (st.set p o1) p o1 (c + 1) 6 (set_get hp) hP1 (by omega) (by omega) (by omega)
      rw [List.set_set] at ew
      by_cases hw0 : way = 0
      · subst hw0
        obtain ⟨i, o3, hi, hP3, ei⟩ := draw_run H.toPenG (d + 1 + k + 1) (st.set p o2) p o2 (c + 2) 2 (set_get hp) hP2 (by omega) (by omega) (by omega)
        rw [List.set_set] at ei
        obtain ⟨t, o4, hsh, hP4, er⟩ := ih k (st.set p o3) p o3 (c + 3) calls many (set_get hp) hP3 (by omega) h0 hnd hl hm1 hm12
        rw [List.set_set, ← e2] at er
        refine ⟨.tup [.str kTimes, .int (2 + i), t], o4, .times _ (2 + i) _ (by omega) (by omega) hsh, pen_mono hP4 (by omega), ?_⟩
        refine end_step (s' := ⟨[.fz (.ref p), .fz (.lst (calls.map .str)), .fz (.int many), .fz (.int ((d : Int) + 1)), .fz (.lst kindsD), .fz (.int 0), .emp, .emp, .emp, .emp, .emp], st.set p o2⟩) (by simp -implicitDefEqProofs [evt_e, put, D.ty, Met.tys, Met.calm, D.isBl, D.isT, D.isL, D.plain, D.plains, D.eqv, D.eqvs, partD, sliD, okK, D.akey, itemsL, seqD, it_rng, ew]) ?_
        refine end_fin (s' := ⟨[.fz (.ref p), .fz (.lst (calls.map .str)), .fz (.int many), .fz (.int ((d : Int) + 1)), .fz (.lst kindsD), .fz (.int 0), .emp, .emp, .emp, .emp, .emp], st.set p o4⟩) (by simp -implicitDefEqProofs [evt_e, put, D.ty, Met.tys, Met.calm, D.isBl, D.isT, D.isL, D.plain, D.plains, D.eqv, D.eqvs, partD, sliD, okK, D.akey, itemsL, seqD, it_rng, hdp, ei, er, kTimes])
      · have hw0i : ((way : Int) == 0) = false := beq_eq_false_iff_ne.mpr (by omega)
        have hw0' : ¬ ((way : Int) = 0) := by omega
        by_cases hun : way = 1 ∧ 1 < calls.length
        · obtain ⟨rfl, h1⟩ := hun
          have h1i : (1 : Int) < calls.length := by omega
          obtain ⟨x, o3, hx, hP3, ex3⟩ := pick_run H.toPenG (d + 1 + k) (st.set p o2) p o2 (c + 2) _ (calls.map .str) (.inl rfl) (set_get hp) hP2 (by omega) hcl (by rw [List.length_map]; omega)
          obtain ⟨x, hxm, rfl⟩ := List.mem_map.mp hx
          rw [List.set_set] at ex3
          have hcomp := compL_fm (own := [7]) (tg := fun v s => tset (G.at (d + 1 + k + 2)) ir__law_some_task_t1 v false s) (test := fun s => evIfs (G.at (d + 1 + k + 2)) ir__law_some_task_i1 s)
            (elt := fun acc s => (ev (G.at (d + 1 + k + 2)) ir__law_some_task_e1 s).bind fun v s => (keep v s).bind fun d s => if acc.length < SL then .ok (acc ++ [d]) s else .stuck) (lk := [])
            (fun s => ∃ y, s = ⟨[.fz (.ref p), .fz (.lst (calls.map .str)), .fz (.int many), .fz (.int ((d : Int) + 1)), .fz (.lst kindsD), .fz (.int 1), .fz (.str x), y, .emp, .emp, .emp], st.set p o3⟩) (fun v => match v with | .str y => !(y == x) | _ => false) id (calls.map .str)
            (fun v hv acc s ⟨y, hs⟩ hacc => by
              subst hs
              obtain ⟨a, _, rfl⟩ := List.mem_map.mp hv
              refine ⟨⟨[.fz (.ref p), .fz (.lst (calls.map .str)), .fz (.int many), .fz (.int ((d : Int) + 1)), .fz (.lst kindsD), .fz (.int 1), .fz (.str x), .fz (.str a), .emp, .emp, .emp], st.set p o3⟩, ?_, ⟨_, rfl⟩, rfl⟩
              cases hax : (a == x) with
              | true => simp -implicitDefEqProofs [turnL, wipeL, ir__law_some_task_t1, ir__law_some_task_i1, ir__law_some_task_e1, evt_e, put, D.ty, Met.tys, Met.calm, D.isBl, D.isT, D.isL, D.plain, D.plains, D.eqv, D.eqvs, partD, sliD, okK, D.akey, itemsL, seqD, it_rng, hax]
              | false => simp -implicitDefEqProofs [turnL, wipeL, ir__law_some_task_t1, ir__law_some_task_i1, ir__law_some_task_e1, evt_e, put, D.ty, Met.tys, Met.calm, D.isBl, D.isT, D.isL, D.plain, D.plains, D.eqv, D.eqvs, partD, sliD, okK, D.akey, itemsL, seqD, it_rng, hax, hacc])
            (calls.map .str) [] ⟨[.fz (.ref p), .fz (.lst (calls.map .str)), .fz (.int many), .fz (.int ((d : Int) + 1)), .fz (.lst kindsD), .fz (.int 1), .fz (.str x), .emp, .emp, .emp, .emp], st.set p o3⟩ (fun d hd => hd) ⟨_, rfl⟩ (by rw [List.length_map]; simp [SL]; omega)
          obtain ⟨s', he, y, rfl⟩ := hcomp
          have hfm : ((calls.map D.str).filter (fun v => match v with | .str y => !(y == x) | _ => false)) = (calls.filter fun y => !(y == x)).map .str := by rw [List.filter_map]; rfl
          rw [List.map_id, List.nil_append, hfm] at he
          obtain ⟨t, o4, hsh, hP4, er⟩ := ih k (st.set p o3) p o3 (c + 3) (calls.filter fun y => !(y == x)) many (set_get hp) hP3 (by omega) (drop_name hnd h1) (hnd.filter _) (Nat.le_trans (List.length_filter_le _ _) hl) hm1 hm12
          rw [List.set_set, ← e2] at er
          refine ⟨.tup [.str kUnless, .str x, t], o4, .unl _ _ _ hsh, pen_mono hP4 (by omega), ?_⟩
          refine end_step (s' := ⟨[.fz (.ref p), .fz (.lst (calls.map .str)), .fz (.int many), .fz (.int ((d : Int) + 1)), .fz (.lst kindsD), .fz (.int 1), .emp, .emp, .emp, .emp, .emp], st.set p o2⟩) (by simp -implicitDefEqProofs [evt_e, put, D.ty, Met.tys, Met.calm, D.isBl, D.isT, D.isL, D.plain, D.plains, D.eqv, D.eqvs, partD, sliD, okK, D.akey, itemsL, seqD, it_rng, ew]) ?_
          refine end_step (s' := ⟨[.fz (.ref p), .fz (.lst (calls.map .str)), .fz (.int many), .fz (.int ((d : Int) + 1)), .fz (.lst kindsD), .fz (.int 1), .emp, .emp, .emp, .emp, .emp], st.set p o2⟩) (by simp -implicitDefEqProofs [evt_e, put, D.ty, Met.tys, Met.calm, D.isBl, D.isT, D.isL, D.plain, D.plains, D.eqv, D.eqvs, partD, sliD, okK, D.akey, itemsL, seqD, it_rng, hdp]) ?_
          exact end_fin (s' := ⟨[.fz (.ref p), .fz (.lst (calls.map .str)), .fz (.int many), .fz (.int ((d : Int) + 1)), .fz (.lst kindsD), .fz (.int 1), .fz (.str x), .emp, .emp, .emp, .emp], st.set p o4⟩) (by simp -implicitDefEqProofs [evt_e, put, D.ty, Met.tys, Met.calm, D.isBl, D.isT, D.isL, D.plain, D.plains, D.eqv, D.eqvs, partD, sliD, okK, D.akey, itemsL, seqD, it_rng, hdp, h1i, ex3, calmOwn, he, backL, er, kUnless])
        · have hcond : ∀ X : Slot, X = .fz (.int (way : Nat)) → ex (G.at (d + 1 + k + 2)) (St.cond (E.and [E.cmp (CmpOp.Gt) (E.v 3) (E.c (D.int 0)), E.cmp (CmpOp.Eq) (E.v 5) (E.c (D.int 1)), E.cmp (CmpOp.Gt) (E.bif (Bif.len) [E.v 1]) (E.c (D.int 1))]) [St.asg (T.nm 6 false) (E.call (Str.ofString "_law_pick") [E.v 0, E.v 1]), St.ret (some (E.tup [E.c (D.str [117, 110, 108, 101, 115, 115]), E.v 6, E.call (Str.ofString "_law_some_task") [E.v 0, E.comp [7] ir__law_some_task_t1 (It.seq (E.v 1)) ir__law_some_task_i1 ir__law_some_task_e1, E.v 2, E.bin (Operator.Sub) (E.v 3) (E.c (D.int 1))]]))] [])
              ⟨[.fz (.ref p), .fz (.lst (calls.map .str)), .fz (.int many), .fz (.int ((d : Int) + 1)), .fz (.lst kindsD), X, .emp, .emp, .emp, .emp, .emp], st.set p o2⟩ = .ok .nx ⟨[.fz (.ref p), .fz (.lst (calls.map .str)), .fz (.int many), .fz (.int ((d : Int) + 1)), .fz (.lst kindsD), X, .emp, .emp, .emp, .emp, .emp], st.set p o2⟩ := by
            rintro X rfl
            by_cases hw1 : way = 1
            · subst hw1
              have h1i : ¬ (1 : Int) < calls.length := by omega
              simp -implicitDefEqProofs [evt_e, put, D.ty, Met.tys, Met.calm, D.isBl, D.isT, D.isL, D.plain, D.plains, D.eqv, D.eqvs, partD, sliD, okK, D.akey, itemsL, seqD, it_rng, hdp, h1i]
            · have hw1i : ((way : Int) == 1) = false := beq_eq_false_iff_ne.mpr (by omega)
              simp -implicitDefEqProofs [evt_e, put, D.ty, Met.tys, Met.calm, D.isBl, D.isT, D.isL, D.plain, D.plains, D.eqv, D.eqvs, partD, sliD, okK, D.akey, itemsL, seqD, it_rng, hdp, hw1i]
          by_cases hm : many = 1
          · have hmt : ((many : Int) == 1) = true := by rw [hm]; rfl
            obtain ⟨s, o3, hP3, e3⟩ := some_do H (d + 1 + k) (st.set p o2) p o2 (c + 2) calls (set_get hp) hP2 (by omega) h0 hl
            rw [List.set_set] at e3
            refine ⟨.tup [.str kDo, .str s], o3, .do _ _, pen_mono hP3 (by omega), ?_⟩
            refine end_step (s' := ⟨[.fz (.ref p), .fz (.lst (calls.map .str)), .fz (.int many), .fz (.int ((d : Int) + 1)), .fz (.lst kindsD), .fz (.int (way : Nat)), .emp, .emp, .emp, .emp, .emp], st.set p o2⟩) (by simp -implicitDefEqProofs [evt_e, put, D.ty, Met.tys, Met.calm, D.isBl, D.isT, D.isL, D.plain, D.plains, D.eqv, D.eqvs, partD, sliD, okK, D.akey, itemsL, seqD, it_rng, ew]) ?_
            refine end_step (s' := ⟨[.fz (.ref p), .fz (.lst (calls.map .str)), .fz (.int many), .fz (.int ((d : Int) + 1)), .fz (.lst kindsD), .fz (.int (way : Nat)), .emp, .emp, .emp, .emp, .emp], st.set p o2⟩) (by simp -implicitDefEqProofs [evt_e, put, D.ty, Met.tys, Met.calm, D.isBl, D.isT, D.isL, D.plain, D.plains, D.eqv, D.eqvs, partD, sliD, okK, D.akey, itemsL, seqD, it_rng, hdp, hw0i, hw0']) ?_
            refine end_step (hcond _ rfl) ?_
            exact end_fin (s' := ⟨[.fz (.ref p), .fz (.lst (calls.map .str)), .fz (.int many), .fz (.int ((d : Int) + 1)), .fz (.lst kindsD), .fz (.int (way : Nat)), .emp, .emp, .emp, .emp, .emp], st.set p o3⟩) (by simp -implicitDefEqProofs [evt_e, put, D.ty, Met.tys, Met.calm, D.isBl, D.isT, D.isL, D.plain, D.plains, D.eqv, D.eqvs, partD, sliD, okK, D.akey, itemsL, seqD, it_rng, hmt, e3, kDo])
          · have hmi : ((many : Int) == 1) = false := beq_eq_false_iff_ne.mpr (by omega)
            have hmi' : ¬ ((many : Int) = 1) := by omega
            obtain ⟨parts, o3, x, hP3, hne, hsh, hl12, hwl⟩ := some_loop1 H (d + 1 + k + 2) (st.set p o2) p o2 (set_get hp) (c + 2) (.lst (calls.map .str)) many (drawsT d) (d + 1) (by omega) (by omega) (by omega) (by omega) (.fz (.int (way : Nat))) .emp .emp .emp ((d : Int) + 1) (by omega)
              (fun o c' m hP hc hm0 hm12 => by
                obtain ⟨i, o', hi, hP', e⟩ := draw_run H.toPenG (d + 1 + k + 1) ((st.set p o2).set p o) p o c' m (set_get (set_get hp)) hP (by omega) hm0 (by omega)
                refine ⟨i, o', hi, hP', ?_⟩
                simp only [List.set_set] at e ⊢
                exact e)
              (fun o c' size hP hc hs1 hs12 => by
                obtain ⟨t, o', hsh, hP', er⟩ := ih k ((st.set p o2).set p o) p o c' calls size (set_get (set_get hp)) hP (by omega) h0 hnd hl hs1 hs12
                rw [← e2] at er
                refine ⟨t, o', hsh, hP', ?_⟩
                rw [show ((d : Int) + 1 - 1) = d by omega]
                simp only [List.set_set] at er ⊢
                exact er) hP2
            rw [List.set_set, List.set_set] at hwl
            obtain ⟨t, o4, hst, hP4, hend⟩ := some_end H (d + 1 + k) (st.set p o3) p o3 _ (set_get hp) hP3 (by omega) (d + 1) parts hne hsh [.fz (.ref p), .fz (.lst (calls.map .str)), .fz (.int many), .fz (.int ((d : Int) + 1)), .fz (.lst kindsD), .fz (.int (way : Nat)), .emp, .emp, .own (.lst parts), .fz (.int 0), x] rfl rfl rfl
            rw [List.set_set] at hend
            refine ⟨t, o4, hst, pen_mono hP4 (by omega), ?_⟩
            refine end_step (s' := ⟨[.fz (.ref p), .fz (.lst (calls.map .str)), .fz (.int many), .fz (.int ((d : Int) + 1)), .fz (.lst kindsD), .fz (.int (way : Nat)), .emp, .emp, .emp, .emp, .emp], st.set p o2⟩) (by simp -implicitDefEqProofs [evt_e, put, D.ty, Met.tys, Met.calm, D.isBl, D.isT, D.isL, D.plain, D.plains, D.eqv, D.eqvs, partD, sliD, okK, D.akey, itemsL, seqD, it_rng, ew]) ?_
            refine end_step (s' := ⟨[.fz (.ref p), .fz (.lst (calls.map .str)), .fz (.int many), .fz (.int ((d : Int) + 1)), .fz (.lst kindsD), .fz (.int (way : Nat)), .emp, .emp, .emp, .emp, .emp], st.set p o2⟩) (by simp -implicitDefEqProofs [evt_e, put, D.ty, Met.tys, Met.calm, D.isBl, D.isT, D.isL, D.plain, D.plains, D.eqv, D.eqvs, partD, sliD, okK, D.akey, itemsL, seqD, it_rng, hdp, hw0i, hw0']) ?_
            refine end_step (hcond _ rfl) ?_
            refine end_step (s' := ⟨[.fz (.ref p), .fz (.lst (calls.map .str)), .fz (.int many), .fz (.int ((d : Int) + 1)), .fz (.lst kindsD), .fz (.int (way : Nat)), .emp, .emp, .emp, .emp, .emp], st.set p o2⟩) (by simp -implicitDefEqProofs [evt_e, put, D.ty, Met.tys, Met.calm, D.isBl, D.isT, D.isL, D.plain, D.plains, D.eqv, D.eqvs, partD, sliD, okK, D.akey, itemsL, seqD, it_rng, hmi, hmi']) ?_
            refine end_step (s' := ⟨[.fz (.ref p), .fz (.lst (calls.map .str)), .fz (.int many), .fz (.int ((d : Int) + 1)), .fz (.lst kindsD), .fz (.int (way : Nat)), .emp, .emp, .own (.lst []), .fz (.int many), .emp], st.set p o2⟩) (by simp -implicitDefEqProofs [evt_e, put, D.ty, Met.tys, Met.calm, D.isBl, D.isT, D.isL, D.plain, D.plains, D.eqv, D.eqvs, partD, sliD, okK, D.akey, itemsL, seqD, it_rng]) ?_
            exact end_step hwl hend
    have hbody : ir__law_some_task.body = St.asg (T.nm 4 false) (E.lst [E.c (D.str [97, 108, 108]), E.c (D.str [97, 110, 121]), E.c (D.str [114, 111, 119]), E.c (D.str [114, 111, 119])]) :: St.cond (E.and [E.cmp (CmpOp.Eq) (E.v 2) (E.c (D.int 1)), E.or [E.cmp (CmpOp.Eq) (E.v 3) (E.c (D.int 0)), E.cmp (CmpOp.Gt) (E.call (Str.ofString "_law_draw") [E.v 0, E.c (D.int 3)]) (E.c (D.int 0))]]) [St.ret (some (E.tup [E.c (D.str [100, 111]), E.call (Str.ofString "_law_pick") [E.v 0, E.v 1]]))] [] :: ir__law_some_task.body.drop 2 := rfl
    rw [hbody]
    by_cases hm : many = 1
    · subst hm
      obtain ⟨i, o1, hi, hP1, ei⟩ := draw_run H.toPenG (d + 1 + k + 1) st p o c 3 hp hP (by omega) (by omega) (by omega)
      by_cases hi0 : i = 0
      · subst hi0
        obtain ⟨t, o', hsh, hP', e⟩ := tail o1 hP1
        refine ⟨t, o', hsh, hP', ?_⟩
        refine end_step (s' := ⟨[.fz (.ref p), .fz (.lst (calls.map .str)), .fz (.int (1 : Nat)), .fz (.int ((d : Int) + 1)), .fz (.lst kindsD), .emp, .emp, .emp, .emp, .emp, .emp], st⟩) (by simp -implicitDefEqProofs [evt_e, put, D.ty, Met.tys, Met.calm, D.isBl, D.isT, D.isL, D.plain, D.plains, D.eqv, D.eqvs, partD, sliD, okK, D.akey, itemsL, seqD, it_rng, kindsD, ir__law_some_task]) ?_
        refine end_step (s' := ⟨[.fz (.ref p), .fz (.lst (calls.map .str)), .fz (.int (1 : Nat)), .fz (.int ((d : Int) + 1)), .fz (.lst kindsD), .emp, .emp, .emp, .emp, .emp, .emp], st.set p o1⟩) (by simp -implicitDefEqProofs [evt_e, put, D.ty, Met.tys, Met.calm, D.isBl, D.isT, D.isL, D.plain, D.plains, D.eqv, D.eqvs, partD, sliD, okK, D.akey, itemsL, seqD, it_rng, hd0, ei]) e
      · obtain ⟨s, o2, hP2, e3⟩ := some_do H (d + 1 + k) (st.set p o1) p o1 (c + 1) calls (set_get hp) hP1 (by omega) h0 hl
        rw [List.set_set] at e3
        have hipos : (0 : Int) < (i : Int) := by omega
        have hiposN : 0 < i := by omega
        refine ⟨.tup [.str kDo, .str s], o2, .do _ _, pen_mono hP2 (by omega), ?_⟩
        refine end_step (s' := ⟨[.fz (.ref p), .fz (.lst (calls.map .str)), .fz (.int (1 : Nat)), .fz (.int ((d : Int) + 1)), .fz (.lst kindsD), .emp, .emp, .emp, .emp, .emp, .emp], st⟩) (by simp -implicitDefEqProofs [evt_e, put, D.ty, Met.tys, Met.calm, D.isBl, D.isT, D.isL, D.plain, D.plains, D.eqv, D.eqvs, partD, sliD, okK, D.akey, itemsL, seqD, it_rng, kindsD, ir__law_some_task]) ?_
        exact end_fin (s' := ⟨[.fz (.ref p), .fz (.lst (calls.map .str)), .fz (.int (1 : Nat)), .fz (.int ((d : Int) + 1)), .fz (.lst kindsD), .emp, .emp, .emp, .emp, .emp, .emp], st.set p o2⟩) (by simp -implicitDefEqProofs [evt_e, put, D.ty, Met.tys, Met.calm, D.isBl, D.isT, D.isL, D.plain, D.plains, D.eqv, D.eqvs, partD, sliD, okK, D.akey, itemsL, seqD, it_rng, hd0, ei, hipos, hiposN, e3, kDo])
    · have hmi : ((many : Int) == 1) = false := beq_eq_false_iff_ne.mpr (by omega)
      have hmi' : ¬ ((many : Int) = 1) := by omega
      obtain ⟨t, o', hsh, hP', e⟩ := tail o (pen_mono hP (by omega))
      rw [set_id hp] at e
      refine ⟨t, o', hsh, hP', ?_⟩
      refine end_step (s' := ⟨[.fz (.ref p), .fz (.lst (calls.map .str)), .fz (.int many), .fz (.int ((d : Int) + 1)), .fz (.lst kindsD), .emp, .emp, .emp, .emp, .emp, .emp], st⟩) (by simp -implicitDefEqProofs [evt_e, put, D.ty, Met.tys, Met.calm, D.isBl, D.isT, D.isL, D.plain, D.plains, D.eqv, D.eqvs, partD, sliD, okK, D.akey, itemsL, seqD, it_rng, kindsD, ir__law_some_task]) ?_
      exact end_step (s' := ⟨[.fz (.ref p), .fz (.lst (calls.map .str)), .fz (.int many), .fz (.int ((d : Int) + 1)), .fz (.lst kindsD), .emp, .emp, .emp, .emp, .emp, .emp], st⟩) (by simp -implicitDefEqProofs [evt_e, put, D.ty, Met.tys, Met.calm, D.isBl, D.isT, D.isL, D.plain, D.plains, D.eqv, D.eqvs, partD, sliD, okK, D.akey, itemsL, seqD, it_rng, hmi, hmi']) e
end
end Lw
end
section
set_option linter.all false
set_option maxRecDepth 10000
set_option maxHeartbeats 4000000
/-! LawTask: the law's own judgement of tasks. -/
namespace Lw
open PySem PyE Tk
structure LawTaskG (G : Pg) : Prop extends TasksG G where
  lwhole : G.defs "_law_is_whole" = some ir__law_is_whole
  lname : G.defs "_law_is_name" = some ir__law_is_name
  lcall : G.defs "_law_is_task_call" = some ir__law_is_task_call
  formed : G.defs "_law_is_formed" = some ir__law_is_formed
  parts : G.defs "_law_parts" = some ir__law_parts
  many : G.defs "_law_many_do" = some ir__law_many_do
  ltask : G.defs "_law_is_task" = some ir__law_is_task
  same : G.defs "_law_same" = some ir__law_same
  judged : G.defs "_law_judged" = some ir__law_judged
mutual
theorem okD_plain : ∀ (v : D) (n : Nat), v.plain n = true → okD v = true
  | .non, _, _ => by simp [okD]
  | .bl _, _, _ => by simp [okD]
  | .int _, _, _ => by simp [okD]
  | .str _, _, _ => by simp [okD]
  | .tup x, n, p => by
    cases n with
    | zero => simp [D.plain] at p
    | succ n => simp only [D.plain] at p; rw [okD]; exact okDs_plain x n p
  | .lst x, n, p => by
    cases n with
    | zero => simp [D.plain] at p
    | succ n => simp only [D.plain] at p; rw [okD]; exact okDs_plain x n p
  | .dct _, _, p => by simp [D.plain] at p
  | .ref _, _, p => by simp [D.plain] at p
  | .fn _, _, p => by simp [D.plain] at p
  | .clo _ _, _, p => by simp [D.plain] at p
  | .exc _ _, _, p => by simp [D.plain] at p
  | .giv _, _, p => by simp [D.plain] at p
  | .git _, _, p => by simp [D.plain] at p
theorem okDs_plain : ∀ (vs : List D) (n : Nat), D.plains n vs = true → okDs vs = true
  | [], _, _ => by simp [okDs]
  | v :: r, n, p => by
    rw [D.plains, Bool.and_eq_true] at p
    rw [okDs, okD_plain v n p.1, okDs_plain r n p.2]; rfl
end
def abc : List Nat := [97, 98, 99, 100, 101, 102, 103, 104, 105, 106, 107, 108, 109, 110, 111, 112, 113, 114, 115, 116, 117, 118, 119, 120, 121, 122]
def abc9 : List Nat := [97, 98, 99, 100, 101, 102, 103, 104, 105, 106, 107, 108, 109, 110, 111, 112, 113, 114, 115, 116, 117, 118, 119, 120, 121, 122, 48, 49, 50, 51, 52, 53, 54, 55, 56, 57]
theorem abc_is (c : Nat) : decide (c ∈ abc) = isLow c := by
  rw [Bool.eq_iff_iff]
  simp only [abc, isLow, decide_eq_true_eq, List.mem_cons, List.not_mem_nil, or_false, Bool.and_eq_true]
  omega
theorem abc9_is (c : Nat) : decide (c ∈ abc9) = (isLow c || isDig c) := by
  rw [Bool.eq_iff_iff]
  simp only [abc9, isLow, isDig, decide_eq_true_eq, List.mem_cons, List.not_mem_nil, or_false, Bool.and_eq_true, Bool.or_eq_true]
  omega
theorem in_str (c : Nat) (l : List Nat) : inD (.str [c]) (.str l) = some (decide (c ∈ l)) := rfl
section
variable {G : Pg} (H : LawTaskG G)
include H
theorem lwhole_run (k : Nat) (d : D) (h : okTop d = true) (a b : Int) (st : List Ob) : (G.at (k + 1)).call "_law_is_whole" [d, .int a, .int b] st = .ok (.bl (wholeD d a b)) false st := by
  rw [pg_run G _ _ _ _ H.lwhole rfl]
  cases hi : isInt d with
  | false =>
    have e : wholeD d a b = false := by cases d <;> first | rfl | cases hi
    simp -implicitDefEqProofs [ir__law_is_whole, evt_e, put, D.ty, Met.tys, Met.calm, D.isBl, D.isT, D.isL, D.plain, D.plains, D.eqv, D.eqvs, partD, sliD, okK, D.akey, itemsL, seqD, it_rng, isi_int h, isi_bool h, de_ok h, hi, e]
  | true =>
    cases d with
    | bl x => simp -implicitDefEqProofs [ir__law_is_whole, evt_e, put, D.ty, Met.tys, Met.calm, D.isBl, D.isT, D.isL, D.plain, D.plains, D.eqv, D.eqvs, partD, sliD, okK, D.akey, itemsL, seqD, it_rng, isi_int h, isi_bool h, de_ok h, hi, wholeD, isBool]
    | int i =>
      by_cases h1 : a ≤ i
      · simp -implicitDefEqProofs [ir__law_is_whole, evt_e, put, D.ty, Met.tys, Met.calm, D.isBl, D.isT, D.isL, D.plain, D.plains, D.eqv, D.eqvs, partD, sliD, okK, D.akey, itemsL, seqD, it_rng, isi_int h, isi_bool h, de_ok h, hi, isBool, h1, wholeD]
      · simp -implicitDefEqProofs [ir__law_is_whole, evt_e, put, D.ty, Met.tys, Met.calm, D.isBl, D.isT, D.isL, D.plain, D.plains, D.eqv, D.eqvs, partD, sliD, okK, D.akey, itemsL, seqD, it_rng, isi_int h, isi_bool h, de_ok h, hi, isBool, h1, wholeD]
    | _ => cases hi
theorem lname_run (k : Nat) (d : D) (h : okTop d = true) (st : List Ob) : (G.at (k + 1)).call "_law_is_name" [d] st = .ok (.bl (nameD d)) false st := by
  rw [pg_run G _ _ _ _ H.lname rfl]
  cases hs : isStr d with
  | false =>
    have e : nameD d = false := by cases d <;> first | rfl | cases hs
    simp -implicitDefEqProofs [ir__law_is_name, evt_e, put, D.ty, Met.tys, Met.calm, D.isBl, D.isT, D.isL, D.plain, D.plains, D.eqv, D.eqvs, partD, sliD, okK, D.akey, itemsL, seqD, it_rng, isi_str h, de_ok h, hs, e]
  | true =>
    cases d with
    | str s =>
      rw [show nameD (.str s) = nameL s from name_same s]
      cases s with
      | nil => simp -implicitDefEqProofs [ir__law_is_name, evt_e, put, D.ty, Met.tys, Met.calm, D.isBl, D.isT, D.isL, D.plain, D.plains, D.eqv, D.eqvs, partD, sliD, okK, D.akey, itemsL, seqD, it_rng, isi_str h, hs, nameL]
      | cons c r =>
        by_cases hl : (r.length : Int) + 1 ≤ 12
        · have h1 : (1 : Int) ≤ (r.length : Int) + 1 := by omega
          have hlN : r.length + 1 ≤ 12 := by omega
          cases hc : isLow c with
          | false =>
            have hi : inD (.str [c]) (.str abc) = some false := by rw [in_str, abc_is, hc]
            unfold abc at hi
            simp -implicitDefEqProofs [ir__law_is_name, evt_e, put, D.ty, Met.tys, Met.calm, D.isBl, D.isT, D.isL, D.plain, D.plains, D.eqv, D.eqvs, partD, sliD, okK, D.akey, itemsL, seqD, it_rng, isi_str h, hs, nameL, hl, h1, hi, hc]
          | true =>
            have hi : inD (.str [c]) (.str abc) = some true := by rw [in_str, abc_is, hc]
            unfold abc at hi
            have hcomp := compL_fm (own := [1]) (tg := fun d s => tset (G.at k) ir__law_is_name_t1 d false s) (test := fun s => evIfs (G.at k) ir__law_is_name_i1 s)
              (elt := fun acc s => (ev (G.at k) ir__law_is_name_e1 s).bind fun v s => (keep v s).bind fun d s => if acc.length < SL then .ok (acc ++ [d]) s else .stuck) (lk := [])
              (fun s => ∃ x, s = ⟨[.fz (.str (c :: r)), x], st⟩) (fun d => match d with | .str [c] => !(isLow c || isDig c) | _ => false) id ((c :: r).map fun c => D.str [c])
              (fun d hd acc s ⟨x, hs⟩ hacc => by
                subst hs
                obtain ⟨a, _, rfl⟩ := List.mem_map.mp hd
                have hi : inD (.str [a]) (.str abc9) = some (isLow a || isDig a) := by rw [in_str, abc9_is]
                unfold abc9 at hi
                refine ⟨⟨[.fz (.str (c :: r)), .fz (.str [a])], st⟩, ?_, ⟨_, rfl⟩, rfl⟩
                cases hq : (isLow a || isDig a) with
                | true =>
                  rw [hq] at hi
                  simp -implicitDefEqProofs [turnL, wipeL, ir__law_is_name_t1, ir__law_is_name_i1, ir__law_is_name_e1, evt_e, put, D.ty, Met.tys, Met.calm, D.isBl, D.isT, D.isL, D.plain, D.plains, D.eqv, D.eqvs, partD, sliD, okK, D.akey, itemsL, seqD, it_rng, hi]
                  cases hA : isLow a <;> simp_all
                | false =>
                  rw [hq] at hi
                  simp -implicitDefEqProofs [turnL, wipeL, ir__law_is_name_t1, ir__law_is_name_i1, ir__law_is_name_e1, evt_e, put, D.ty, Met.tys, Met.calm, D.isBl, D.isT, D.isL, D.plain, D.plains, D.eqv, D.eqvs, partD, sliD, okK, D.akey, itemsL, seqD, it_rng, hi, hacc]
                  cases hA : isLow a <;> simp_all)
              ((c :: r).map fun c => D.str [c]) [] ⟨[.fz (.str (c :: r)), .emp], st⟩ (fun d hd => hd) ⟨_, rfl⟩ (by simp [SL]; omega)
            obtain ⟨s', he, x, rfl⟩ := hcomp
            have hpl : ∀ p, D.plains 39 (((((c :: r).map fun c => D.str [c]).filter p).map id)) = true := fun p => (plains_iff _ _).mpr fun v hv => by
              rw [List.map_id] at hv
              obtain ⟨a, _, rfl⟩ := List.mem_map.mp (List.mem_filter.mp hv).1
              simp [D.plain]
            have hq := eq_nil (hpl fun d => match d with | .str [c] => !(isLow c || isDig c) | _ => false)
            rw [List.nil_append] at he
            have hLe : (((((c :: r).map fun c => D.str [c]).filter fun d => match d with | .str [c] => !(isLow c || isDig c) | _ => false).map id)).isEmpty = (c :: r).all fun x => isLow x || isDig x := by
              rw [List.map_id]
              generalize c :: r = l
              induction l with
              | nil => rfl
              | cons a l ih => rw [List.map_cons, List.filter_cons, List.all_cons]; cases hA : isLow a <;> cases hB : isDig a <;> simp_all
            generalize (((((c :: r).map fun c => D.str [c]).filter fun d => match d with | .str [c] => !(isLow c || isDig c) | _ => false).map id)) = L at he hq hLe
            rw [List.map_cons] at he
            have hn : nameL (c :: r) = L.isEmpty := by rw [hLe]; simp [nameL, hc, hlN]
            rw [hn]
            simp -implicitDefEqProofs [ir__law_is_name, evt_e, put, D.ty, Met.tys, Met.calm, D.isBl, D.isT, D.isL, D.plain, D.plains, D.eqv, D.eqvs, partD, sliD, okK, D.akey, itemsL, seqD, it_rng, isi_str h, hs, hl, h1, hi, calmOwn, he, backL, hq]
        · simp -implicitDefEqProofs [ir__law_is_name, evt_e, put, D.ty, Met.tys, Met.calm, D.isBl, D.isT, D.isL, D.plain, D.plains, D.eqv, D.eqvs, partD, sliD, okK, D.akey, itemsL, seqD, it_rng, isi_str h, hs, nameL, hl]
          intro z
          omega
    | _ => cases hs
theorem lcall_run (k : Nat) (d : D) (h : okTop d = true) (st : List Ob) : (G.at (k + 2)).call "_law_is_task_call" [d] st = .ok (.bl (callNameD d)) false st := by
  rw [pg_run G _ _ _ _ H.lcall rfl]
  have hn := lname_run H k d h st
  cases hd : nameD d with
  | false =>
    rw [hd] at hn
    have e : callNameD d = false := by cases d <;> first | rfl | (simp [nameD] at hd; simp [callNameD, hd])
    simp -implicitDefEqProofs [ir__law_is_task_call, evt_e, put, D.ty, Met.tys, Met.calm, D.isBl, D.isT, D.isL, D.plain, D.plains, D.eqv, D.eqvs, partD, sliD, okK, D.akey, itemsL, seqD, it_rng, de_ok h, hn, e]
  | true =>
    rw [hd] at hn
    cases d with
    | str s =>
      have hm := mem_strs s kindsL
      have e : callNameD (.str s) = !kindsL.contains s := by simp only [callNameD]; rw [show nameP s = true from hd]; rfl
      simp only [kindsL, List.map_cons, List.map_nil] at hm
      rw [e]
      unfold kindsL
      simp -implicitDefEqProofs [ir__law_is_task_call, evt_e, put, D.ty, Met.tys, Met.calm, D.isBl, D.isT, D.isL, D.plain, D.plains, D.eqv, D.eqvs, partD, sliD, okK, D.akey, itemsL, seqD, it_rng, hn, hm]
    | _ => cases hd
def FormedAt (G : Pg) (n : Nat) : Prop := ∀ (k : Nat) (v : D) (tk : List (List Nat)) (st : List Ob) (m : Nat), v.plain m = true → m ≤ 38 → tk.length + n ≤ 1000 →
  (G.at (n + 3 + k)).call "_law_is_formed" [v, .lst (tk.map .str), .int n] st = .ok (.bl (formed n v tk)) false st
theorem formed0 : FormedAt G 0 := fun k v tk st m hv hm ht => by
  rw [show 0 + 3 + k = (k + 2) + 1 by omega, pg_run G _ _ _ _ H.formed rfl]
  simp -implicitDefEqProofs [ir__law_is_formed, evt_e, put, D.ty, Met.tys, Met.calm, D.isBl, D.isT, D.isL, D.plain, D.plains, D.eqv, D.eqvs, partD, sliD, okK, D.akey, itemsL, seqD, it_rng, formed]
theorem formed_other (n k : Nat) (v : D) (tk : D) (st : List Ob) (h : okD v = true) (hv : isTup v = false) : (G.at (k + 1)).call "_law_is_formed" [v, tk, .int (n + 1 : Nat)] st = .ok (.bl false) false st := by
  rw [pg_run G _ _ _ _ H.formed rfl]
  have ht := okD_top h
  have e0 : ((n : Int) + 1 == 0) = false := beq_eq_false_iff_ne.mpr (by omega)
  simp -implicitDefEqProofs [ir__law_is_formed, evt_e, put, D.ty, Met.tys, Met.calm, D.isBl, D.isT, D.isL, D.plain, D.plains, D.eqv, D.eqvs, partD, sliD, okK, D.akey, itemsL, seqD, it_rng, e0, isi_tup ht, de_ok ht, hv]
theorem formed_short (n k : Nat) (vs : List D) (tk : D) (st : List Ob) (hv : vs.length < 2) : (G.at (k + 1)).call "_law_is_formed" [.tup vs, tk, .int (n + 1 : Nat)] st = .ok (.bl false) false st := by
  rw [pg_run G _ _ _ _ H.formed rfl]
  have e0 : ((n : Int) + 1 == 0) = false := beq_eq_false_iff_ne.mpr (by omega)
  have h2 : ((vs.length : Int) < 2) := by omega
  simp -implicitDefEqProofs [ir__law_is_formed, evt_e, put, D.ty, Met.tys, Met.calm, D.isBl, D.isT, D.isL, D.plain, D.plains, D.eqv, D.eqvs, partD, sliD, okK, D.akey, itemsL, seqD, it_rng, e0, isi_tup (d := .tup vs) rfl, isTup, h2]
theorem formed_nostr (n k : Nat) (x y : D) (vs : List D) (tk : D) (st : List Ob) (hx : okD x = true) (hv : isStr x = false) : (G.at (k + 1)).call "_law_is_formed" [.tup (x :: y :: vs), tk, .int (n + 1 : Nat)] st = .ok (.bl false) false st := by
  rw [pg_run G _ _ _ _ H.formed rfl]
  have e0 : ((n : Int) + 1 == 0) = false := beq_eq_false_iff_ne.mpr (by omega)
  have h2 : ¬ ((vs.length : Int) + 1 + 1 < 2) := by omega
  have hx := okD_top hx
  simp -implicitDefEqProofs [ir__law_is_formed, evt_e, put, D.ty, Met.tys, Met.calm, D.isBl, D.isT, D.isL, D.plain, D.plains, D.eqv, D.eqvs, partD, sliD, okK, D.akey, itemsL, seqD, it_rng, e0, isi_tup (d := .tup (x :: y :: vs)) rfl, isTup, h2, isi_str hx, de_ok hx, hv]
theorem formed_do (n k : Nat) (x : D) (vs : List D) (tk : List (List Nat)) (st : List Ob) (hx : okD x = true) : (G.at (k + 3)).call "_law_is_formed" [.tup (.str kDo :: x :: vs), .lst (tk.map .str), .int (n + 1 : Nat)] st =
    .ok (.bl (decide (vs = []) && (callNameD x && !strIn x tk))) false st := by
  rw [pg_run G _ _ _ _ H.formed rfl]
  have e0 : ((n : Int) + 1 == 0) = false := beq_eq_false_iff_ne.mpr (by omega)
  have hx := okD_top hx
  have hn := lcall_run H k x hx st
  cases vs with
  | cons v vs =>
    have h4 : ¬ ((vs.length : Int) + 1 + 1 + 1 = 2) := by omega
    have h2 : ¬ ((vs.length : Int) + 1 + 1 + 1 < 2) := by omega
    simp -implicitDefEqProofs [ir__law_is_formed, evt_e, put, D.ty, Met.tys, Met.calm, D.isBl, D.isT, D.isL, D.plain, D.plains, D.eqv, D.eqvs, partD, sliD, okK, D.akey, itemsL, seqD, it_rng, e0, isi_tup (d := .tup _) rfl, isTup, isi_str (d := .str _) rfl, isStr, h2, h4, kDo]
  | nil =>
    cases hc : callNameD x with
    | false =>
      rw [hc] at hn
      simp -implicitDefEqProofs [ir__law_is_formed, evt_e, put, D.ty, Met.tys, Met.calm, D.isBl, D.isT, D.isL, D.plain, D.plains, D.eqv, D.eqvs, partD, sliD, okK, D.akey, itemsL, seqD, it_rng, e0, isi_tup (d := .tup _) rfl, isTup, isi_str (d := .str _) rfl, isStr, kDo, hn]
    | true =>
      rw [hc] at hn
      have hm := mem_str (tk := tk) hc
      simp -implicitDefEqProofs [ir__law_is_formed, evt_e, put, D.ty, Met.tys, Met.calm, D.isBl, D.isT, D.isL, D.plain, D.plains, D.eqv, D.eqvs, partD, sliD, okK, D.akey, itemsL, seqD, it_rng, e0, isi_tup (d := .tup _) rfl, isTup, isi_str (d := .str _) rfl, isStr, kDo, hn, de_ok hx, hm]
theorem formed_joint_bad (n k : Nat) (s : List Nat) (x : D) (vs : List D) (tk : D) (st : List Ob) (hx : okD x = true) (hs : s ≠ kDo) (hj : joints.contains s = true) (hb : vs ≠ [] ∨ isTup x = false) :
    (G.at (k + 1)).call "_law_is_formed" [.tup (.str s :: x :: vs), tk, .int (n + 1 : Nat)] st = .ok (.bl false) false st := by
  rw [pg_run G _ _ _ _ H.formed rfl]
  have e0 : ((n : Int) + 1 == 0) = false := beq_eq_false_iff_ne.mpr (by omega)
  have h2 : ¬ ((vs.length : Int) + 1 + 1 < 2) := by omega
  have e : (s == [100, 111]) = false := beq_eq_false_iff_ne.mpr hs
  have e' : ¬ s = [100, 111] := hs
  have hm := mem_joints s
  rw [hj] at hm
  have hx := okD_top hx
  cases vs with
  | cons v vs =>
    have h4 : ¬ ((vs.length : Int) + 1 + 1 + 1 = 2) := by omega
    have h2 : ¬ ((vs.length : Int) + 1 + 1 + 1 < 2) := by omega
    simp -implicitDefEqProofs [ir__law_is_formed, evt_e, put, D.ty, Met.tys, Met.calm, D.isBl, D.isT, D.isL, D.plain, D.plains, D.eqv, D.eqvs, partD, sliD, okK, D.akey, itemsL, seqD, it_rng, e0, isi_tup (d := .tup _) rfl, isTup, isi_str (d := .str _) rfl, isStr, h2, h4, e, e', hm]
  | nil =>
    have hb : isTup x = false := hb.resolve_left fun z => z rfl
    simp -implicitDefEqProofs [ir__law_is_formed, evt_e, put, D.ty, Met.tys, Met.calm, D.isBl, D.isT, D.isL, D.plain, D.plains, D.eqv, D.eqvs, partD, sliD, okK, D.akey, itemsL, seqD, it_rng, e0, isi_tup (d := .tup _) rfl, show isTup (.tup [.str s, x]) = true from rfl, isi_str (d := .str _) rfl, isi_tup hx, isStr, e, e', hm, de_ok hx, hb]
theorem formed_len (n k : Nat) (s : List Nat) (x : D) (vs : List D) (tk : D) (st : List Ob) (hs : s ≠ kDo) (hj : joints.contains s = false) (hb : vs.length ≠ 1) :
    (G.at (k + 1)).call "_law_is_formed" [.tup (.str s :: x :: vs), tk, .int (n + 1 : Nat)] st = .ok (.bl false) false st := by
  rw [pg_run G _ _ _ _ H.formed rfl]
  have e0 : ((n : Int) + 1 == 0) = false := beq_eq_false_iff_ne.mpr (by omega)
  have h2 : ¬ ((vs.length : Int) + 1 + 1 < 2) := by omega
  have h4 : ¬ ((vs.length : Int) + 1 + 1 = 3) := by omega
  have h5 : (((vs.length : Int) + 1 + 1) == 3) = false := beq_eq_false_iff_ne.mpr h4
  have e : (s == [100, 111]) = false := beq_eq_false_iff_ne.mpr hs
  have e' : ¬ s = [100, 111] := hs
  have hm := mem_joints s
  rw [hj] at hm
  simp -implicitDefEqProofs [ir__law_is_formed, evt_e, put, D.ty, Met.tys, Met.calm, D.isBl, D.isT, D.isL, D.plain, D.plains, D.eqv, D.eqvs, partD, sliD, okK, D.akey, itemsL, seqD, it_rng, e0, isi_tup (d := .tup _) rfl, isTup, isi_str (d := .str _) rfl, isStr, h2, h4, h5, e, e', hm]
theorem formed_times (n k : Nat) (x t : D) (tk : List D) (st : List Ob) (hx : okD x = true) (r : Bool) (hr : (G.at (k + 1)).call "_law_is_formed" [t, .lst tk, .int n] st = .ok (.bl r) false st) (ht : okD t = true) :
    (G.at (k + 2)).call "_law_is_formed" [.tup [.str kTimes, x, t], .lst tk, .int (n + 1 : Nat)] st = .ok (.bl (wholeD x 2 5 && r)) false st := by
  rw [pg_run G _ _ _ _ H.formed rfl]
  have e0 : ((n : Int) + 1 == 0) = false := beq_eq_false_iff_ne.mpr (by omega)
  have hm := mem_joints kTimes
  have hj : joints.contains kTimes = false := by decide
  rw [hj] at hm
  have hx := okD_top hx
  have ht := okD_top ht
  have hw := lwhole_run H k x hx 2 5 st
  unfold kTimes at hm
  cases hc : wholeD x 2 5 with
  | true =>
    rw [hc] at hw
    simp -implicitDefEqProofs [ir__law_is_formed, evt_e, put, D.ty, Met.tys, Met.calm, D.isBl, D.isT, D.isL, D.plain, D.plains, D.eqv, D.eqvs, partD, sliD, okK, D.akey, itemsL, seqD, it_rng, e0, isi_tup (d := .tup _) rfl, isTup, isi_str (d := .str _) rfl, isStr, hm, kTimes, de_ok hx, de_ok ht, hw, hr]
  | false =>
    rw [hc] at hw
    simp -implicitDefEqProofs [ir__law_is_formed, evt_e, put, D.ty, Met.tys, Met.calm, D.isBl, D.isT, D.isL, D.plain, D.plains, D.eqv, D.eqvs, partD, sliD, okK, D.akey, itemsL, seqD, it_rng, e0, isi_tup (d := .tup _) rfl, isTup, isi_str (d := .str _) rfl, isStr, hm, kTimes, de_ok hx, de_ok ht, hw]
theorem formed_kind (n k : Nat) (s : List Nat) (x t : D) (tk : D) (st : List Ob) (hs : s ≠ kDo) (hj : joints.contains s = false) (h1 : s ≠ kTimes) (h2 : s ≠ kUnless) :
    (G.at (k + 1)).call "_law_is_formed" [.tup [.str s, x, t], tk, .int (n + 1 : Nat)] st = .ok (.bl false) false st := by
  rw [pg_run G _ _ _ _ H.formed rfl]
  have e0 : ((n : Int) + 1 == 0) = false := beq_eq_false_iff_ne.mpr (by omega)
  have e : (s == [100, 111]) = false := beq_eq_false_iff_ne.mpr hs
  have e' : ¬ s = [100, 111] := hs
  have e1 : ¬ s = [116, 105, 109, 101, 115] := h1
  have e2 : ¬ s = [117, 110, 108, 101, 115, 115] := h2
  have e1b : (s == [116, 105, 109, 101, 115]) = false := beq_eq_false_iff_ne.mpr e1
  have e2b : (s == [117, 110, 108, 101, 115, 115]) = false := beq_eq_false_iff_ne.mpr e2
  have hm := mem_joints s
  rw [hj] at hm
  simp -implicitDefEqProofs [ir__law_is_formed, evt_e, put, D.ty, Met.tys, Met.calm, D.isBl, D.isT, D.isL, D.plain, D.plains, D.eqv, D.eqvs, partD, sliD, okK, D.akey, itemsL, seqD, it_rng, e0, isi_tup (d := .tup _) rfl, isTup, isi_str (d := .str _) rfl, isStr, e, e', e1, e2, e1b, e2b, hm]
theorem formed_unless (n k : Nat) (x t : D) (tk : List (List Nat)) (st : List Ob) (hx : okD x = true) (ht : okD t = true) (hsz : tk.length < 1000) (r : Bool)
    (hr : ∀ s, x = .str s → (G.at (k + 2)).call "_law_is_formed" [t, .lst ((tk ++ [s]).map .str), .int n] st = .ok (.bl r) false st) :
    (G.at (k + 3)).call "_law_is_formed" [.tup [.str kUnless, x, t], .lst (tk.map .str), .int (n + 1 : Nat)] st = .ok (.bl (callNameD x && !strIn x tk && r)) false st := by
  rw [pg_run G _ _ _ _ H.formed rfl]
  have e0 : ((n : Int) + 1 == 0) = false := beq_eq_false_iff_ne.mpr (by omega)
  have hm := mem_joints kUnless
  have hj : joints.contains kUnless = false := by decide
  rw [hj] at hm
  have hx := okD_top hx
  have ht := okD_top ht
  have hn := lcall_run H k x hx st
  unfold kUnless at hm
  cases hc : callNameD x with
  | false =>
    rw [hc] at hn
    simp -implicitDefEqProofs [ir__law_is_formed, evt_e, put, D.ty, Met.tys, Met.calm, D.isBl, D.isT, D.isL, D.plain, D.plains, D.eqv, D.eqvs, partD, sliD, okK, D.akey, itemsL, seqD, it_rng, e0, isi_tup (d := .tup _) rfl, isTup, isi_str (d := .str _) rfl, isStr, hm, kUnless, de_ok hx, de_ok ht, hn]
  | true =>
    rw [hc] at hn
    have hk := mem_str (tk := tk) hc
    cases hs : strIn x tk with
    | true =>
      rw [hs] at hk
      simp -implicitDefEqProofs [ir__law_is_formed, evt_e, put, D.ty, Met.tys, Met.calm, D.isBl, D.isT, D.isL, D.plain, D.plains, D.eqv, D.eqvs, partD, sliD, okK, D.akey, itemsL, seqD, it_rng, e0, isi_tup (d := .tup _) rfl, isTup, isi_str (d := .str _) rfl, isStr, hm, kUnless, de_ok hx, de_ok ht, hn, hk]
    | false =>
      rw [hs] at hk
      cases x with
      | str s =>
        have hr := hr s rfl
        have hz : tk.length + 1 ≤ SL := by unfold SL; omega
        rw [List.map_append] at hr
        simp only [List.map_cons, List.map_nil] at hr
        simp -implicitDefEqProofs [ir__law_is_formed, evt_e, put, D.ty, Met.tys, Met.calm, D.isBl, D.isT, D.isL, D.plain, D.plains, D.eqv, D.eqvs, partD, sliD, okK, D.akey, itemsL, seqD, it_rng, e0, isi_tup (d := .tup _) rfl, isTup, isi_str (d := .str _) rfl, isStr, hm, kUnless, de_ok hx, de_ok ht, hn, hk, binD, hz, hr]
      | _ => cases hc
theorem formed_joint (n k : Nat) (s : List Nat) (ps : List D) (tk : List D) (st : List Ob) (m : Nat) (hp : D.plains m ps = true) (hm38 : m ≤ 39) (hs : s ≠ kDo) (hj : joints.contains s = true) (f : D → Bool)
    (hr : ∀ p ∈ ps, (G.at k).call "_law_is_formed" [p, .lst tk, .int n] st = .ok (.bl (f p)) false st) :
    (G.at (k + 1)).call "_law_is_formed" [.tup [.str s, .tup ps], .lst tk, .int (n + 1 : Nat)] st = .ok (.bl (decide (2 ≤ ps.length) && decide (ps.length ≤ 6) && ps.all f)) false st := by
  rw [pg_run G _ _ _ _ H.formed rfl]
  have e0 : ((n : Int) + 1 == 0) = false := beq_eq_false_iff_ne.mpr (by omega)
  have e : (s == [100, 111]) = false := beq_eq_false_iff_ne.mpr hs
  have e' : ¬ s = [100, 111] := hs
  have hm := mem_joints s
  rw [hj] at hm
  by_cases h2 : 2 ≤ ps.length
  · have h2i : (2 : Int) ≤ ps.length := by omega
    by_cases h6 : ps.length ≤ 6
    · have h6i : (ps.length : Int) ≤ 6 := by omega
      have hcomp := compL_fm (own := [3]) (tg := fun d s => tset (G.at k) ir__law_is_formed_t1 d false s) (test := fun s => evIfs (G.at k) ir__law_is_formed_i1 s)
        (elt := fun acc s => (ev (G.at k) ir__law_is_formed_e1 s).bind fun v s => (keep v s).bind fun d s => if acc.length < SL then .ok (acc ++ [d]) s else .stuck) (lk := [])
        (fun s' => ∃ x, s' = ⟨[.fz (.tup [.str s, .tup ps]), .fz (.lst tk), .fz (.int ((n : Int) + 1)), x], st⟩) (fun d => !f d) id ps
        (fun d hd acc s' ⟨x, hs'⟩ hacc => by
          subst hs'
          have hr := hr d hd
          refine ⟨⟨[.fz (.tup [.str s, .tup ps]), .fz (.lst tk), .fz (.int ((n : Int) + 1)), .fz d], st⟩, ?_, ⟨_, rfl⟩, rfl⟩
          cases hq : f d with
          | true =>
            rw [hq] at hr
            simp -implicitDefEqProofs [turnL, wipeL, ir__law_is_formed_t1, ir__law_is_formed_i1, ir__law_is_formed_e1, evt_e, put, D.ty, Met.tys, Met.calm, D.isBl, D.isT, D.isL, D.plain, D.plains, D.eqv, D.eqvs, partD, sliD, okK, D.akey, itemsL, seqD, it_rng, hr]
          | false =>
            rw [hq] at hr
            simp -implicitDefEqProofs [turnL, wipeL, ir__law_is_formed_t1, ir__law_is_formed_i1, ir__law_is_formed_e1, evt_e, put, D.ty, Met.tys, Met.calm, D.isBl, D.isT, D.isL, D.plain, D.plains, D.eqv, D.eqvs, partD, sliD, okK, D.akey, itemsL, seqD, it_rng, hr, hacc])
        ps [] ⟨[.fz (.tup [.str s, .tup ps]), .fz (.lst tk), .fz (.int ((n : Int) + 1)), .emp], st⟩ (fun d hd => hd) ⟨_, rfl⟩ (by simp [SL]; omega)
      obtain ⟨s', he, x, rfl⟩ := hcomp
      have hq := eq_nil (l := (ps.filter fun d => !f d).map id) (plains_mono _ m 39 hm38 ((plains_iff _ _).mpr fun v hv => by
        rw [List.map_id] at hv
        exact (plains_iff _ _).mp hp v (List.mem_filter.mp hv).1))
      have hL : ((ps.filter fun d => !f d).map id).isEmpty = ps.all f := by
        rw [List.map_id]
        clear hr he hp hq h2 h2i h6 h6i
        induction ps with
        | nil => rfl
        | cons a l ih => rw [List.filter_cons, List.all_cons]; cases hA : f a <;> simp_all
      rw [List.nil_append] at he
      generalize (ps.filter fun d => !f d).map id = L at he hq hL
      rw [← hL, show decide (2 ≤ ps.length) = true from decide_eq_true h2, show decide (ps.length ≤ 6) = true from decide_eq_true h6]
      simp -implicitDefEqProofs [ir__law_is_formed, evt_e, put, D.ty, Met.tys, Met.calm, D.isBl, D.isT, D.isL, D.plain, D.plains, D.eqv, D.eqvs, partD, sliD, okK, D.akey, itemsL, seqD, it_rng, e0, isi_tup (d := .tup _) rfl, isTup, isi_str (d := .str _) rfl, isStr, e, e', hm, h2i, h6i, calmOwn, he, backL, hq]
    · have h6i : ¬ (ps.length : Int) ≤ 6 := by omega
      simp -implicitDefEqProofs [ir__law_is_formed, evt_e, put, D.ty, Met.tys, Met.calm, D.isBl, D.isT, D.isL, D.plain, D.plains, D.eqv, D.eqvs, partD, sliD, okK, D.akey, itemsL, seqD, it_rng, e0, isi_tup (d := .tup _) rfl, isTup, isi_str (d := .str _) rfl, isStr, e, e', hm, h2i, h6i, h6]
  · have h2i : ¬ (2 : Int) ≤ ps.length := by omega
    simp -implicitDefEqProofs [ir__law_is_formed, evt_e, put, D.ty, Met.tys, Met.calm, D.isBl, D.isT, D.isL, D.plain, D.plains, D.eqv, D.eqvs, partD, sliD, okK, D.akey, itemsL, seqD, it_rng, e0, isi_tup (d := .tup _) rfl, isTup, isi_str (d := .str _) rfl, isStr, e, e', hm, h2i, h2]
theorem formed_at : ∀ n, FormedAt G n := by
  intro n
  induction n with
  | zero => exact formed0 H
  | succ n ih =>
    intro k v tk st m hv hm ht
    have e3 : n + 1 + 3 + k = (n + 1 + k) + 3 := by omega
    have e2 : n + 1 + 3 + k = (n + 2 + k) + 2 := by omega
    have e1 : n + 1 + 3 + k = (n + 3 + k) + 1 := by omega
    have hok := okD_plain v m hv
    cases hT : isTup v with
    | false =>
      rw [e1, formed_other H n _ v _ st hok hT, formed_no (fun k x e => by rw [e] at hT; cases hT) (fun k x t e => by rw [e] at hT; cases hT)]
    | true =>
      cases v with
      | git vs => simp [D.plain] at hv
      | tup vs =>
        cases m with
        | zero => simp [D.plain] at hv
        | succ m =>
          simp only [D.plain] at hv
          have hall := (plains_iff _ _).mp hv
          match vs, hall with
          | [], _ => rw [e1, formed_short H n _ _ _ st (by simp), formed_no (fun k x e => by cases e) (fun k x t e => by cases e)]
          | [a], _ => rw [e1, formed_short H n _ _ _ st (by simp), formed_no (fun k x e => by cases e) (fun k x t e => by cases e)]
          | a :: b :: r, hall =>
            have ha := okD_plain a m (hall a (by simp))
            have hbp := hall b (by simp)
            have hb := okD_plain b m hbp
            cases hs : isStr a with
            | false =>
              rw [e1, formed_nostr H n _ a b r _ st ha hs, formed_no (fun k x e => by cases e; cases hs) (fun k x t e => by cases e; cases hs)]
            | true =>
              cases a with
              | str s =>
                by_cases hk : s = kDo
                · subst hk
                  rw [e3, formed_do H n _ b r tk st hb]
                  match r with
                  | [] => rw [formed2, if_pos rfl]; simp
                  | [c] => rw [formed3, if_pos rfl]; simp
                  | c :: d :: r => rw [formed_no (fun k x e => by cases e) (fun k x t e => by cases e)]; simp
                · cases hj : joints.contains s with
                  | true =>
                    match r with
                    | [] =>
                      cases hTb : isTup b with
                      | false =>
                        rw [e1, formed_joint_bad H n _ s b [] _ st hb hk hj (.inr hTb), formed2, if_neg hk, if_pos hj]
                        cases b <;> first | rfl | cases hTb
                      | true =>
                        cases b with
                        | git vs => cases m <;> simp [D.plain] at hbp
                        | tup ps =>
                          cases m with
                          | zero => simp [D.plain] at hbp
                          | succ m =>
                            simp only [D.plain] at hbp
                            have hps := (plains_iff _ _).mp hbp
                            rw [e1, formed_joint H n _ s ps _ st m hbp (by omega) hk hj (fun p => formed n p tk) fun p hp => ih k p tk st m (hps p hp) (by omega) (by omega), formed2, if_neg hk, if_pos hj]
                        | _ => cases hTb
                    | [c] => rw [e1, formed_joint_bad H n _ s b _ _ st hb hk hj (.inl (by simp)), formed3, if_neg hk, if_pos hj]
                    | c :: d :: r => rw [e1, formed_joint_bad H n _ s b _ _ st hb hk hj (.inl (by simp)), formed_no (fun k x e => by cases e) (fun k x t e => by cases e)]
                  | false =>
                    have hj' : ¬ joints.contains s = true := by rw [hj]; simp
                    match r, hall with
                    | [], _ => rw [e1, formed_len H n _ s b _ _ st hk hj (by simp), formed2, if_neg hk, if_neg hj']
                    | [t], hall =>
                      have htp := hall t (by simp)
                      have hto := okD_plain t m htp
                      rw [formed3, if_neg hk, if_neg hj']
                      by_cases ht' : s = kTimes
                      · subst ht'
                        rw [e2, formed_times H n _ b t _ st hb (formed n t tk) (by rw [show n + 2 + k + 1 = n + 3 + k by omega]; exact ih k t tk st m htp (by omega) (by omega)) hto, if_pos rfl]
                      · by_cases hu : s = kUnless
                        · subst hu
                          rw [if_neg ht', if_pos rfl]
                          rw [e3, formed_unless H n _ b t tk st hb hto (by omega) (match b with | .str s => formed n t (tk ++ [s]) | _ => false) fun s hbs => by
                            subst hbs
                            rw [show n + 1 + k + 2 = n + 3 + k by omega]
                            exact ih k t (tk ++ [s]) st m htp (by omega) (by rw [List.length_append, List.length_singleton]; omega)]
                          cases b <;> first | rfl | simp [callNameD]
                        · rw [e1, formed_kind H n _ s b t _ st hk hj ht' hu, if_neg ht', if_neg hu]
                    | c :: d :: r, _ => rw [e1, formed_len H n _ s b _ _ st hk hj (by simp), formed_no (fun k x e => by cases e) (fun k x t e => by cases e)]
              | _ => cases hs
      | _ => cases hT
end
end Lw
end
section
set_option linter.all false
set_option maxRecDepth 10000
set_option maxHeartbeats 4000000
/-! LawTask2: the law's count, its judgement; the names. -/
namespace Lw
open PySem PyE Tk
theorem sum_ints {α : Type} (f : α → Nat) : ∀ l : List α, sumD (l.map fun d => D.int (f d)) = some (((l.map f).sum : Nat) : Int)
  | [] => rfl
  | d :: r => by rw [List.map_cons, sumD, sum_ints f r]; simp
theorem lists_joints (s : List Nat) : memD (.str s) [.str [97, 108, 108], .str [97, 110, 121], .str [114, 111, 119]] = some (joints.contains s) := mem_strs s joints
theorem lists_two (s : List Nat) : memD (.str s) [.str [116, 105, 109, 101, 115], .str [117, 110, 108, 101, 115, 115]] = some (([kTimes, kUnless] : List (List Nat)).contains s) := mem_strs s [kTimes, kUnless]
theorem filter_all {α : Type} (l : List α) : l.filter (fun _ => true) = l := by induction l <;> simp_all
section
variable {G : Pg} (H : LawTaskG G)
include H
theorem parts_joint (k : Nat) (s : List Nat) (ps : List D) (st : List Ob) (hj : joints.contains s = true) : (G.at (k + 1)).call "_law_parts" [.tup [.str s, .tup ps]] st = .ok (.lst ps) true st := by
  rw [pg_run G _ _ _ _ H.parts rfl]
  have hm := lists_joints s
  rw [hj] at hm
  simp -implicitDefEqProofs [ir__law_parts, evt_e, put, D.ty, Met.tys, Met.calm, D.isBl, D.isT, D.isL, D.plain, D.plains, D.eqv, D.eqvs, partD, sliD, okK, D.akey, itemsL, seqD, it_rng, hm]
theorem parts_two (k : Nat) (s : List Nat) (x t : D) (st : List Ob) (hj : s = kTimes ∨ s = kUnless) (ht : okTop t = true) : (G.at (k + 1)).call "_law_parts" [.tup [.str s, x, t]] st = .ok (.lst [t]) true st := by
  rw [pg_run G _ _ _ _ H.parts rfl]
  have hm := lists_joints s
  have hm2 := lists_two s
  have e : joints.contains s = false := by rcases hj with rfl | rfl <;> decide
  have e2 : ([kTimes, kUnless] : List (List Nat)).contains s = true := by rcases hj with rfl | rfl <;> decide
  rw [e] at hm
  rw [e2] at hm2
  simp -implicitDefEqProofs [ir__law_parts, evt_e, put, D.ty, Met.tys, Met.calm, D.isBl, D.isT, D.isL, D.plain, D.plains, D.eqv, D.eqvs, partD, sliD, okK, D.akey, itemsL, seqD, it_rng, hm, hm2]
theorem many_do (k : Nat) (x : D) (st : List Ob) : (G.at (k + 1)).call "_law_many_do" [.tup [.str kDo, x]] st = .ok (.int 1) false st := by
  rw [pg_run G _ _ _ _ H.many rfl]
  simp -implicitDefEqProofs [ir__law_many_do, evt_e, put, D.ty, Met.tys, Met.calm, D.isBl, D.isT, D.isL, D.plain, D.plains, D.eqv, D.eqvs, partD, sliD, okK, D.akey, itemsL, seqD, it_rng, kDo]
theorem many_parts (k : Nat) (s : List Nat) (vs ps : List D) (st : List Ob) (hs : s ≠ kDo) (hl : ps.length ≤ 1000) (f : D → Nat)
    (hp : (G.at k).call "_law_parts" [.tup (.str s :: vs)] st = .ok (.lst ps) true st) (hr : ∀ p ∈ ps, (G.at k).call "_law_many_do" [p] st = .ok (.int (f p)) false st) :
    (G.at (k + 1)).call "_law_many_do" [.tup (.str s :: vs)] st = .ok (.int ((ps.map f).sum : Nat)) false st := by
  rw [pg_run G _ _ _ _ H.many rfl]
  have e : (s == [100, 111]) = false := beq_eq_false_iff_ne.mpr hs
  have e' : ¬ s = [100, 111] := hs
  have hcomp := compL_fm (own := [1]) (tg := fun d s => tset (G.at k) ir__law_many_do_t1 d false s) (test := fun s => .ok true s)
    (elt := fun acc s => (ev (G.at k) ir__law_many_do_e1 s).bind fun v s => (keep v s).bind fun d s => if acc.length < SL then .ok (acc ++ [d]) s else .stuck) (lk := [])
    (fun s' => ∃ x, s' = ⟨[.fz (.tup (.str s :: vs)), x], st⟩) (fun _ => true) (fun d => D.int (f d)) ps
    (fun d hd acc s' ⟨x, hs'⟩ hacc => by
      subst hs'
      refine ⟨⟨[.fz (.tup (.str s :: vs)), .fz d], st⟩, ?_, ⟨_, rfl⟩, rfl⟩
      simp -implicitDefEqProofs [turnL, wipeL, ir__law_many_do_t1, ir__law_many_do_e1, evt_e, put, D.ty, Met.tys, Met.calm, D.isBl, D.isT, D.isL, D.plain, D.plains, D.eqv, D.eqvs, partD, sliD, okK, D.akey, itemsL, seqD, it_rng, hr d hd, hacc])
    ps [] ⟨[.fz (.tup (.str s :: vs)), .emp], st⟩ (fun d hd => hd) ⟨_, rfl⟩ (by simp [SL]; omega)
  obtain ⟨s', he, x, rfl⟩ := hcomp
  rw [filter_all, List.nil_append] at he
  have hsum := sum_ints f ps
  simp -implicitDefEqProofs [ir__law_many_do, evt_e, put, D.ty, Met.tys, Met.calm, D.isBl, D.isT, D.isL, D.plain, D.plains, D.eqv, D.eqvs, partD, sliD, okK, D.akey, itemsL, seqD, it_rng, e, e', hp, calmOwn, he, backL, hsum]
theorem many_run : ∀ (n k : Nat) (v : D) (tk : List (List Nat)) (st : List Ob), formed n v tk = true → okD v = true → (G.at (n + 2 + k)).call "_law_many_do" [v] st = .ok (.int (manyT n v)) false st := by
  intro n
  induction n with
  | zero => intro k v tk st h; cases h
  | succ n ih =>
    intro k v tk st h hok
    obtain ⟨m, e, h⟩ := formed_cases h
    cases e
    rw [show n + 1 + 2 + k = (n + 2 + k) + 1 by omega]
    rcases h with ⟨x, rfl, _⟩ | ⟨s, ps, rfl, hk, hj, h2, h6, h⟩ | ⟨x, t, rfl, _, h⟩ | ⟨s, t, rfl, _, _, h⟩
    · rw [many_do H]; rfl
    · have hok2 : okDs ps = true := by simpa [okD, okDs] using hok
      rw [many_parts H _ s [.tup ps] ps st hk (by omega) (manyT n) (by rw [show n + 2 + k = (n + 1 + k) + 1 by omega]; exact parts_joint H _ s ps st hj) fun p hp => ih k p tk st (h p hp) (okDs_mem hok2 p hp)]
      simp only [manyT, hk, if_false]
    · have hok2 : okD t = true := by simp [okD, okDs] at hok; exact hok.2
      rw [many_parts H _ kTimes [x, t] [t] st (by decide) (by simp) (manyT n) (by rw [show n + 2 + k = (n + 1 + k) + 1 by omega]; exact parts_two H _ _ x t st (.inl rfl) (okD_top hok2)) fun p hp => by
        rw [List.mem_singleton.mp hp]; exact ih k t tk st h hok2]
      simp [manyT]
    · have hok2 : okD t = true := by simp [okD, okDs] at hok; exact hok
      rw [many_parts H _ kUnless [.str s, t] [t] st (by decide) (by simp) (manyT n) (by rw [show n + 2 + k = (n + 1 + k) + 1 by omega]; exact parts_two H _ _ _ t st (.inr rfl) (okD_top hok2)) fun p hp => by
        rw [List.mem_singleton.mp hp]; exact ih k t _ st h hok2]
      simp [manyT]
/-- what may be judged -/
def Fit (v : D) : Prop := okD v = true ∧ (isTup v = false ∨ v.plain 38 = true)
theorem ltask_run (k : Nat) (v : D) (st : List Ob) (hv : Fit v) : (G.at (13 + k)).call "_law_is_task" [v] st = .ok (.bl (taskL v)) false st := by
  rw [show 13 + k = (12 + k) + 1 by omega, pg_run G _ _ _ _ H.ltask rfl]
  have hf : (G.at (12 + k)).call "_law_is_formed" [v, .lst [], .int 9] st = .ok (.bl (formed 9 v [])) false st := by
    rcases hv.2 with h | h
    · rw [show 12 + k = (11 + k) + 1 by omega]
      rw [show (9 : Int) = ((8 + 1 : Nat) : Int) from rfl, formed_other H 8 _ v _ st hv.1 h, formed_no (fun k x e => by rw [e] at h; cases h) (fun k x t e => by rw [e] at h; cases h)]
    · exact formed_at H 9 k v [] st 38 h (by omega) (by simp)
  have ht := okD_top hv.1
  unfold taskL
  cases hc : formed 9 v [] with
  | false =>
    rw [hc] at hf
    simp -implicitDefEqProofs [ir__law_is_task, evt_e, put, D.ty, Met.tys, Met.calm, D.isBl, D.isT, D.isL, D.plain, D.plains, D.eqv, D.eqvs, partD, sliD, okK, D.akey, itemsL, seqD, it_rng, hf, de_ok ht]
  | true =>
    rw [hc] at hf
    have hm := many_run H 9 (1 + k) v [] st hc hv.1
    rw [show 9 + 2 + (1 + k) = 12 + k by omega] at hm
    have e : ((manyT 9 v : Nat) : Int) ≤ 10 ↔ manyT 9 v ≤ 10 := by omega
    simp -implicitDefEqProofs [ir__law_is_task, evt_e, put, D.ty, Met.tys, Met.calm, D.isBl, D.isT, D.isL, D.plain, D.plains, D.eqv, D.eqvs, partD, sliD, okK, D.akey, itemsL, seqD, it_rng, hf, de_ok ht, hm, e]
theorem same_bl (k : Nat) (a b : Bool) (st : List Ob) : (G.at (k + 1)).call "_law_same" [.bl a, .bl b] st = .ok (.bl (a == b)) false st := by
  rw [pg_run G _ _ _ _ H.same rfl]
  cases b <;> cases a <;> simp -implicitDefEqProofs [ir__law_same, evt_e, put, D.ty, Met.tys, Met.calm, D.isBl, D.isT, D.isL, D.plain, D.plains, D.eqv, D.eqvs, partD, sliD, okK, D.akey, itemsL, seqD, it_rng, isi_tup (d := .bl _) rfl, isTup]
theorem judged_run (k : Nat) (v : D) (st : List Ob) (hv : Fit v) : (G.at (22 + k)).call "_law_judged" [v] st = .ok (.bl true) false st := by
  rw [show 22 + k = (21 + k) + 1 by omega, pg_run G _ _ _ _ H.judged rfl]
  have h1 := is_task_run H.toTasksG k v st hv.1
  have h2 := ltask_run H (8 + k) v st hv
  rw [show 13 + (8 + k) = 21 + k by omega] at h2
  rw [task_same] at h1
  have h3 := same_bl H (20 + k) (taskL v) (taskL v) st
  rw [show 20 + k + 1 = 21 + k by omega] at h3
  have ht := okD_top hv.1
  simp -implicitDefEqProofs [ir__law_judged, evt_e, put, D.ty, Met.tys, Met.calm, D.isBl, D.isT, D.isL, D.plain, D.plains, D.eqv, D.eqvs, partD, sliD, okK, D.akey, itemsL, seqD, it_rng, h1, h2, h3, de_ok ht]
end
end Lw
end
section
set_option linter.all false
set_option maxRecDepth 100000
namespace Lw
open PySem PyE
def ir_begun_t1 : T := T.nm 2 false
def ir_begun_e1 : E := E.call (Str.ofString "begun") [E.v 2]
def ir_begun : Df := { names := 3, pars := 1, dfl := [], body := [St.asg (T.nm 1 false) (E.sub (E.v 0) (E.c (D.int 0))), St.cond (E.cmp (CmpOp.Eq) (E.v 1) (E.c (D.str [100, 111]))) [St.ret (some (E.c (D.int 0)))] [], St.cond (E.cmp (CmpOp.In) (E.v 1) (E.tup [E.c (D.str [97, 108, 108]), E.c (D.str [97, 110, 121])])) [St.ret (some (E.bif (Bif.tuple) [E.comp [2] ir_begun_t1 (It.seq (E.sub (E.v 0) (E.c (D.int 1)))) [] ir_begun_e1]))] [], St.cond (E.cmp (CmpOp.Eq) (E.v 1) (E.c (D.str [117, 110, 108, 101, 115, 115]))) [St.ret (some (E.call (Str.ofString "begun") [E.sub (E.v 0) (E.c (D.int 2))]))] [], St.ret (some (E.tup [E.c (D.int 0), E.call (Str.ofString "begun") [E.ite (E.cmp (CmpOp.Eq) (E.v 1) (E.c (D.str [114, 111, 119]))) (E.sub (E.sub (E.v 0) (E.c (D.int 1))) (E.c (D.int 0))) (E.sub (E.v 0) (E.c (D.int 2)))]]))] }
def ir_gone_on : Df := { names := 7, pars := 3, dfl := [], body := [St.asg (T.tup [T.nm 3 false, T.nm 4 false]) (E.v 1), St.asg (T.nm 5 false) (E.ite (E.cmp (CmpOp.Eq) (E.sub (E.v 0) (E.c (D.int 0))) (E.c (D.str [114, 111, 119]))) (E.sub (E.v 0) (E.c (D.int 1))) (E.bin (Operator.Mult) (E.tup [E.sub (E.v 0) (E.c (D.int 2))]) (E.sub (E.v 0) (E.c (D.int 1))))), St.asg (T.nm 6 false) (E.call (Str.ofString "stepped") [E.sub (E.v 5) (E.v 3), E.v 4, E.v 2]), St.cond (E.cmp (CmpOp.IsNot) (E.v 6) (E.c (D.non))) [St.ret (some (E.tup [E.v 3, E.v 6]))] [], St.ret (some (E.ite (E.cmp (CmpOp.Lt) (E.bin (Operator.Add) (E.v 3) (E.c (D.int 1))) (E.bif (Bif.len) [E.v 5])) (E.tup [E.bin (Operator.Add) (E.v 3) (E.c (D.int 1)), E.call (Str.ofString "begun") [E.sub (E.v 5) (E.bin (Operator.Add) (E.v 3) (E.c (D.int 1)))]]) (E.c (D.non))))] }
def ir_stepped_t1 : T := T.tup [T.nm 5 false, T.nm 6 false]
def ir_stepped_e1 : E := E.ite (E.cmp (CmpOp.Is) (E.v 6) (E.c (D.non))) (E.c (D.non)) (E.call (Str.ofString "stepped") [E.v 5, E.v 6, E.v 2])
def ir_stepped_t2 : T := T.nm 6 false
def ir_stepped_e2 : E := E.cmp (CmpOp.Is) (E.v 6) (E.c (D.non))
def ir_stepped : Df := { names := 8, pars := 3, dfl := [], body := [St.asg (T.nm 3 false) (E.sub (E.v 0) (E.c (D.int 0))), St.cond (E.cmp (CmpOp.Eq) (E.v 3) (E.c (D.str [100, 111]))) [St.ret (some (E.ite (E.cmp (CmpOp.Eq) (E.v 2) (E.sub (E.v 0) (E.c (D.int 1)))) (E.c (D.non)) (E.c (D.int 0))))] [], St.cond (E.cmp (CmpOp.In) (E.v 3) (E.tup [E.c (D.str [114, 111, 119]), E.c (D.str [116, 105, 109, 101, 115])])) [St.ret (some (E.call (Str.ofString "gone_on") [E.v 0, E.v 1, E.v 2]))] [], St.cond (E.cmp (CmpOp.Eq) (E.v 3) (E.c (D.str [117, 110, 108, 101, 115, 115]))) [St.ret (some (E.ite (E.cmp (CmpOp.Eq) (E.v 2) (E.sub (E.v 0) (E.c (D.int 1)))) (E.call (Str.ofString "begun") [E.sub (E.v 0) (E.c (D.int 2))]) (E.call (Str.ofString "stepped") [E.sub (E.v 0) (E.c (D.int 2)), E.v 1, E.v 2])))] [], St.asg (T.nm 4 false) (E.bif (Bif.tuple) [E.comp [5, 6] ir_stepped_t1 (It.zip (E.sub (E.v 0) (E.c (D.int 1))) (E.v 1)) [] ir_stepped_e1]), St.asg (T.nm 7 false) (E.comp [6] ir_stepped_t2 (It.seq (E.v 4)) [] ir_stepped_e2), St.ret (some (E.ite (E.ite (E.cmp (CmpOp.Eq) (E.v 3) (E.c (D.str [97, 108, 108]))) (E.bif (Bif.all) [E.v 7]) (E.bif (Bif.any) [E.v 7])) (E.c (D.non)) (E.v 4)))] }
def ir_done_at_t1 : T := T.tup [T.nm 3 false, T.nm 4 false]
def ir_done_at_b1 : List PyE.St := [St.asg (T.nm 2 false) (E.call (Str.ofString "stepped") [E.v 0, E.v 2, E.v 4]), St.cond (E.cmp (CmpOp.Is) (E.v 2) (E.c (D.non))) [St.ret (some (E.bin (Operator.Add) (E.v 3) (E.c (D.int 1))))] []]
def ir_done_at : Df := { names := 5, pars := 2, dfl := [], body := [St.asg (T.nm 2 false) (E.call (Str.ofString "begun") [E.v 0]), St.loop ir_done_at_t1 (It.enum (E.v 1)) ir_done_at_b1, St.ret (some (E.c (D.non)))] }
def ir_is_done : Df := { names := 2, pars := 2, dfl := [], body := [St.ret (some (E.cmp (CmpOp.IsNot) (E.call (Str.ofString "done_at") [E.v 0, E.v 1]) (E.c (D.non))))] }
def ir__law_some_word_t1 : T := T.nm 3 false
def ir__law_some_word_e1 : E := E.call (Str.ofString "_law_pick") [E.v 0, E.v 1]
def ir__law_some_word : Df := { names := 4, pars := 3, dfl := [], body := [St.ret (some (E.bif (Bif.tuple) [E.comp [3] ir__law_some_word_t1 (It.rng [E.call (Str.ofString "_law_draw") [E.v 0, E.bin (Operator.Add) (E.v 2) (E.c (D.int 1))]]) [] ir__law_some_word_e1]))] }
def ir__law_words_to_t1 : T := T.nm 7 false
def ir__law_words_to_e1 : E := E.bin (Operator.Add) (E.v 6) (E.tup [E.v 7])
def ir__law_words_to_t2 : T := T.nm 6 false
def ir__law_words_to_b2 : List PyE.St := [St.asg (T.nm 5 false) (E.bin (Operator.Add) (E.v 5) (E.comp [7] ir__law_words_to_t1 (It.seq (E.v 0)) [] ir__law_words_to_e1))]
def ir__law_words_to_t3 : T := T.nm 4 false
def ir__law_words_to_b3 : List PyE.St := [St.asg (T.nm 5 false) (E.lst []), St.loop ir__law_words_to_t2 (It.seq (E.v 3)) ir__law_words_to_b2, St.asg2 2 false 3 false (E.bin (Operator.Add) (E.v 2) (E.v 5)) (E.v 5)]
def ir__law_words_to : Df := { names := 8, pars := 2, dfl := [], body := [St.asg2 2 false 3 false (E.lst [E.tup []]) (E.lst [E.tup []]), St.loop ir__law_words_to_t3 (It.rng [E.v 1]) ir__law_words_to_b3, St.ret (some (E.v 2))] }
def ir__law_done_t1 : T := T.nm 5 false
def ir__law_done_i1 : List E := [E.cmp (CmpOp.Eq) (E.sub (E.v 1) (E.v 5)) (E.sub (E.v 0) (E.c (D.int 1)))]
def ir__law_done_e1 : E := E.bin (Operator.Add) (E.v 5) (E.c (D.int 1))
def ir__law_done_t2 : T := T.nm 5 false
def ir__law_done_i2 : List E := [E.cmp (CmpOp.Eq) (E.sub (E.v 1) (E.v 5)) (E.sub (E.v 0) (E.c (D.int 1)))]
def ir__law_done_e2 : E := E.bin (Operator.Add) (E.v 5) (E.c (D.int 1))
def ir__law_done_t3 : T := T.tup [T.nm 5 false, T.nm 7 false]
def ir__law_done_b3 : List PyE.St := [St.asg (T.nm 8 false) (E.ite (E.cmp (CmpOp.Lt) (E.bin (Operator.Add) (E.v 5) (E.c (D.int 1))) (E.bif (Bif.len) [E.v 6])) (E.bin (Operator.Sub) (E.sub (E.v 6) (E.bin (Operator.Add) (E.v 5) (E.c (D.int 1)))) (E.c (D.int 1))) (E.bif (Bif.len) [E.v 1])), St.asg (T.nm 9 false) (E.call (Str.ofString "_law_done") [E.sub (E.v 0) (E.c (D.int 2)), E.sli (E.v 1) none (some (E.v 8)), E.v 7]), St.cond (E.cmp (CmpOp.Lt) (E.v 9) (E.bin (Operator.Pow) (E.c (D.int 10)) (E.c (D.int 6)))) [St.ret (some (E.v 9))] []]
def ir__law_done_t4 : T := T.nm 10 false
def ir__law_done_e4 : E := E.call (Str.ofString "_law_done") [E.v 10, E.v 1, E.v 2]
def ir__law_done_t5 : T := T.nm 10 false
def ir__law_done_b5 : List PyE.St := [St.asg (T.nm 2 false) (E.ite (E.cmp (CmpOp.Lt) (E.v 2) (E.bin (Operator.Pow) (E.c (D.int 10)) (E.c (D.int 6)))) (E.call (Str.ofString "_law_done") [E.v 10, E.v 1, E.v 2]) (E.v 2))]
def ir__law_done : Df := { names := 11, pars := 3, dfl := [], body := [St.asg (T.nm 3 false) (E.sub (E.v 0) (E.c (D.int 0))), St.cond (E.cmp (CmpOp.Eq) (E.v 3) (E.c (D.str [100, 111]))) [St.asg (T.nm 4 false) (E.comp [5] ir__law_done_t1 (It.rng [E.v 2, E.bif (Bif.len) [E.v 1]]) ir__law_done_i1 ir__law_done_e1), St.ret (some (E.ite (E.cmp (CmpOp.NotEq) (E.v 4) (E.lst [])) (E.sub (E.v 4) (E.c (D.int 0))) (E.bin (Operator.Pow) (E.c (D.int 10)) (E.c (D.int 6)))))] [], St.cond (E.cmp (CmpOp.Eq) (E.v 3) (E.c (D.str [117, 110, 108, 101, 115, 115]))) [St.asg (T.nm 6 false) (E.bin (Operator.Add) (E.lst [E.v 2]) (E.comp [5] ir__law_done_t2 (It.rng [E.v 2, E.bif (Bif.len) [E.v 1]]) ir__law_done_i2 ir__law_done_e2)), St.loop ir__law_done_t3 (It.enum (E.v 6)) ir__law_done_b3, St.ret (some (E.bin (Operator.Pow) (E.c (D.int 10)) (E.c (D.int 6))))] [], St.cond (E.cmp (CmpOp.In) (E.v 3) (E.lst [E.c (D.str [97, 108, 108]), E.c (D.str [97, 110, 121])])) [St.asg (T.nm 4 false) (E.comp [10] ir__law_done_t4 (It.seq (E.sub (E.v 0) (E.c (D.int 1)))) [] ir__law_done_e4), St.ret (some (E.ite (E.cmp (CmpOp.Eq) (E.v 3) (E.c (D.str [97, 108, 108]))) (E.bif (Bif.max) [E.v 4]) (E.bif (Bif.min) [E.v 4])))] [], St.loop ir__law_done_t5 (It.seq (E.ite (E.cmp (CmpOp.Eq) (E.v 3) (E.c (D.str [114, 111, 119]))) (E.bif (Bif.list) [E.sub (E.v 0) (E.c (D.int 1))]) (E.bin (Operator.Mult) (E.lst [E.sub (E.v 0) (E.c (D.int 2))]) (E.sub (E.v 0) (E.c (D.int 1)))))) ir__law_done_b5, St.ret (some (E.v 2))] }
def ir_law_k04_t1 : T := T.nm 7 false
def ir_law_k04_e1 : E := E.call (Str.ofString "_law_some_word") [E.v 1, E.bin (Operator.Add) (E.v 3) (E.tup [E.c (D.str [122, 122])]), E.c (D.int 16)]
def ir_law_k04_t2 : T := T.nm 6 false
def ir_law_k04_b2 : List PyE.St := [St.asg (T.nm 8 false) (E.call (Str.ofString "_law_done") [E.v 4, E.v 6, E.c (D.int 0)]), St.asg (T.nm 9 false) (E.ite (E.cmp (CmpOp.Lt) (E.v 8) (E.bin (Operator.Pow) (E.c (D.int 10)) (E.c (D.int 6)))) (E.v 8) (E.c (D.non))), St.cond (E.not (E.call (Str.ofString "_law_same") [E.tup [E.call (Str.ofString "done_at") [E.v 4, E.v 6], E.call (Str.ofString "is_done") [E.v 4, E.v 6]], E.tup [E.v 9, E.cmp (CmpOp.IsNot) (E.v 9) (E.c (D.non))]])) [St.ret (some (E.c (D.bl false)))] [], St.cond (E.or [E.cmp (CmpOp.NotEq) (E.call (Str.ofString "done_at") [E.v 4, E.bif (Bif.list) [E.v 6]]) (E.v 9), E.and [E.cmp (CmpOp.IsNot) (E.v 9) (E.c (D.non)), E.cmp (CmpOp.NotEq) (E.call (Str.ofString "done_at") [E.v 4, E.bin (Operator.Add) (E.bin (Operator.Add) (E.v 6) (E.tup [E.c (D.str [122, 122])])) (E.v 3)]) (E.v 9)]]) [St.ret (some (E.c (D.bl false)))] []]
def ir_law_k04_t3 : T := T.nm 2 false
def ir_law_k04_b3 : List PyE.St := [St.asg (T.nm 3 false) (E.call (Str.ofString "_law_calls") [E.v 1, E.bin (Operator.Add) (E.c (D.int 1)) (E.call (Str.ofString "_law_draw") [E.v 1, E.c (D.int 4)])]), St.asg (T.nm 4 false) (E.call (Str.ofString "_law_some_task") [E.v 1, E.bif (Bif.list) [E.v 3], E.bin (Operator.Add) (E.c (D.int 1)) (E.call (Str.ofString "_law_draw") [E.v 1, E.c (D.int 7)]), E.c (D.int 3)]), St.asg (T.nm 5 false) (E.call (Str.ofString "_law_words_to") [E.v 3, E.ite (E.cmp (CmpOp.Lt) (E.bif (Bif.len) [E.v 3]) (E.c (D.int 4))) (E.c (D.int 3)) (E.c (D.int 2))]), St.loop ir_law_k04_t2 (It.seq (E.bin (Operator.Add) (E.v 5) (E.comp [7] ir_law_k04_t1 (It.rng [E.c (D.int 10)]) [] ir_law_k04_e1))) ir_law_k04_b2]
def ir_law_k04 : Df := { names := 12, pars := 1, dfl := [], body := [St.asg (T.nm 1 false) (E.call (Str.ofString "_law_pen") [E.v 0]), St.loop ir_law_k04_t3 (It.rng [E.c (D.int 4)]) ir_law_k04_b3, St.asg (T.nm 10 false) (E.tup [E.c (D.str [114, 111, 119]), E.tup [E.tup [E.c (D.str [100, 111]), E.c (D.str [97])], E.tup [E.c (D.str [97, 108, 108]), E.tup [E.tup [E.c (D.str [100, 111]), E.c (D.str [97])], E.tup [E.c (D.str [100, 111]), E.c (D.str [98])]]]]]), St.asg (T.nm 11 false) (E.tup [E.c (D.str [117, 110, 108, 101, 115, 115]), E.c (D.str [99]), E.tup [E.c (D.str [116, 105, 109, 101, 115]), E.c (D.int 2), E.tup [E.c (D.str [100, 111]), E.c (D.str [97])]]]), St.ret (some (E.cmp (CmpOp.Eq) (E.lst [E.call (Str.ofString "done_at") [E.v 10, E.tup [E.c (D.str [97]), E.c (D.str [98]), E.c (D.str [98]), E.c (D.str [97])]], E.call (Str.ofString "done_at") [E.v 11, E.tup [E.c (D.str [97]), E.c (D.str [99]), E.c (D.str [97]), E.c (D.str [98]), E.c (D.str [97])]], E.call (Str.ofString "done_at") [E.v 11, E.tup [E.c (D.str [97]), E.c (D.str [99]), E.c (D.str [97])]]]) (E.lst [E.c (D.int 4), E.c (D.int 5), E.c (D.non)])))] }
namespace k04
def G : Pg := { defs := fun f => if f = "begun" then some ir_begun else if f = "gone_on" then some ir_gone_on else if f = "stepped" then some ir_stepped else if f = "done_at" then some ir_done_at else if f = "is_done" then some ir_is_done else if f = "_law_pen" then some ir__law_pen else if f = "_law_draw" then some ir__law_draw else if f = "_law_pick" then some ir__law_pick else if f = "_law_shuffled" then some ir__law_shuffled else if f = "_law_name" then some ir__law_name else if f = "_law_names" then some ir__law_names else if f = "_law_same" then some ir__law_same else if f = "_law_calls" then some ir__law_calls else if f = "_law_some_word" then some ir__law_some_word else if f = "_law_words_to" then some ir__law_words_to else if f = "_law_some_task" then some ir__law_some_task else if f = "_law_done" then some ir__law_done else if f = "law" then some ir_law_k04 else none, lams := fun _ => none, xf := fun _ => none, under := fun _ _ => false }
end k04
end Lw
end
section
set_option linter.all false
set_option maxRecDepth 10000
set_option maxHeartbeats 4000000
/-! DoneRun: when tasks are done, by the program. -/
namespace Lw
open PySem PyE Tk Dn
structure DoneG (G : Pg) : Prop where
  begun : G.defs "begun" = some ir_begun
  gone_on : G.defs "gone_on" = some ir_gone_on
  stepped : G.defs "stepped" = some ir_stepped
  done_at : G.defs "done_at" = some ir_done_at
  is_done : G.defs "is_done" = some ir_is_done
mutual
/-- how deep a task is -/
def dp (t : Tsk) : Nat := match t with
  | .one _ => 1
  | .all ps => dps ps + 1
  | .any ps => dps ps + 1
  | .row ps => dps ps + 1
  | .times _ t => dp t + 1
  | .unl _ t => dp t + 1
def dps (ps : List Tsk) : Nat := match ps with
  | [] => 0
  | p :: r => max (dp p) (dps r)
end
theorem dps_le : ∀ (ps : List Tsk), ∀ p ∈ ps, dp p ≤ dps ps
  | [], p, h => by cases h
  | q :: r, p, h => by
    rw [dps]
    rcases List.mem_cons.mp h with e | h
    · rw [e]; omega
    · have := dps_le r p h; omega
mutual
/-- a state that belongs to a task -/
def fits (t : Tsk) (s : D) : Prop := match t with
  | .one _ => s = .int 0
  | .all ps => ∃ os, s = .tup os ∧ fitZ ps os
  | .any ps => ∃ os, s = .tup os ∧ fitZ ps os
  | .row ps => ∃ (i : Nat) (now : D), s = .tup [.int i, now] ∧ fitR ps i now
  | .times n t => ∃ (i : Nat) (now : D), s = .tup [.int i, now] ∧ i < n ∧ fits t now
  | .unl _ t => fits t s
def fitZ (ps : List Tsk) (os : List D) : Prop := match ps, os with
  | [], [] => True
  | p :: ps, o :: os => (o = .non ∨ fits p o) ∧ fitZ ps os
  | _, _ => False
def fitR (ps : List Tsk) (i : Nat) (now : D) : Prop := match ps with
  | [] => False
  | p :: ps => match i with
    | 0 => fits p now
    | i + 1 => fitR ps i now
end
theorem fitZ_len : ∀ {ps : List Tsk} {os : List D}, fitZ ps os → os.length = ps.length
  | [], [], _ => rfl
  | [], _ :: _, h => by simp [fitZ] at h
  | _ :: _, [], h => by simp [fitZ] at h
  | p :: ps, o :: os, h => by rw [fitZ] at h; simp [fitZ_len h.2]
theorem fitR_get : ∀ {ps : List Tsk} {i : Nat} {now : D}, fitR ps i now → ∃ p, ps[i]? = some p ∧ fits p now
  | [], _, _, h => by simp [fitR] at h
  | p :: ps, 0, _, h => ⟨p, rfl, by simpa [fitR] using h⟩
  | p :: ps, i + 1, now, h => by rw [fitR] at h; simpa using fitR_get h
theorem fitR_of : ∀ {ps : List Tsk} {i : Nat} {now : D} {p : Tsk}, ps[i]? = some p → fits p now → fitR ps i now
  | [], _, _, _, h, _ => by simp at h
  | q :: ps, 0, _, p, h, h2 => by simp at h; subst h; simpa [fitR] using h2
  | q :: ps, i + 1, now, p, h, h2 => by rw [fitR]; exact fitR_of (by simpa using h) h2
theorem fits_top : ∀ {t : Tsk} {s : D}, fits t s → okTop s = true ∧ s.isNon = false
  | .one _, _, h => by rw [fits] at h; subst h; exact ⟨rfl, rfl⟩
  | .all _, _, h => by rw [fits] at h; obtain ⟨os, rfl, _⟩ := h; exact ⟨rfl, rfl⟩
  | .any _, _, h => by rw [fits] at h; obtain ⟨os, rfl, _⟩ := h; exact ⟨rfl, rfl⟩
  | .row _, _, h => by rw [fits] at h; obtain ⟨i, n, rfl, _⟩ := h; exact ⟨rfl, rfl⟩
  | .times _ _, _, h => by rw [fits] at h; obtain ⟨i, n, rfl, _⟩ := h; exact ⟨rfl, rfl⟩
  | .unl _ t, s, h => by rw [fits] at h; exact fits_top h
mutual
theorem begun_fits (t : Tsk) (h : t.ok = true) : fits t (begun t) := by
  match t with
  | .one _ => rfl
  | .all ps => rw [Tsk.ok, Bool.and_eq_true] at h; rw [fits, Dn.begun]; exact ⟨_, rfl, beguns_fit ps h.2⟩
  | .any ps => rw [Tsk.ok, Bool.and_eq_true] at h; rw [fits, Dn.begun]; exact ⟨_, rfl, beguns_fit ps h.2⟩
  | .row [] => simp [Tsk.ok] at h
  | .row (p :: ps) =>
    simp only [Tsk.ok, oks, Bool.and_eq_true] at h
    rw [fits, Dn.begun]
    exact ⟨0, begun1 (p :: ps), rfl, by rw [fitR, begun1]; exact begun_fits p h.2.1⟩
  | .times n t =>
    rw [Tsk.ok, Bool.and_eq_true, decide_eq_true_eq] at h
    rw [fits, Dn.begun]
    exact ⟨0, begun t, rfl, by omega, begun_fits t h.2⟩
  | .unl _ t => rw [Tsk.ok] at h; rw [fits, Dn.begun]; exact begun_fits t h
theorem beguns_fit (ps : List Tsk) (h : oks ps = true) : fitZ ps (beguns ps) := by
  match ps with
  | [] => trivial
  | p :: r =>
    rw [oks, Bool.and_eq_true] at h
    rw [beguns, fitZ]
    exact ⟨.inr (begun_fits p h.1), beguns_fit r h.2⟩
end
theorem isNon_iff {d : D} : d.isNon = true ↔ d = .non := by cases d <;> simp [D.isNon]
mutual
theorem step_fits (t : Tsk) (h : t.ok = true) (s : D) (c : Call) (hs : fits t s) : stp t s c = .non ∨ fits t (stp t s c) := by
  match t with
  | .one k =>
    rw [stp]
    split
    · exact .inl rfl
    · exact .inr rfl
  | .all ps =>
    rw [Tsk.ok, Bool.and_eq_true] at h
    rw [fits] at hs
    obtain ⟨os, rfl, hz⟩ := hs
    simp only [stp]
    split
    · exact .inl rfl
    · exact .inr (by rw [fits]; exact ⟨_, rfl, stepZ_fit ps h.2 os c hz⟩)
  | .any ps =>
    rw [Tsk.ok, Bool.and_eq_true] at h
    rw [fits] at hs
    obtain ⟨os, rfl, hz⟩ := hs
    simp only [stp]
    split
    · exact .inl rfl
    · exact .inr (by rw [fits]; exact ⟨_, rfl, stepZ_fit ps h.2 os c hz⟩)
  | .row ps =>
    rw [Tsk.ok, Bool.and_eq_true] at h
    rw [fits] at hs
    obtain ⟨i, now, rfl, hr⟩ := hs
    simp only [stp, Int.toNat_natCast]
    split
    · split
      · rename_i q hq
        refine .inr ?_
        rw [fits]
        exact ⟨i + 1, _, rfl, fitR_of hq (begun_fits q ((oks_iff ps).mp h.2 q (List.mem_of_getElem? hq)))⟩
      · exact .inl rfl
    · rename_i hn
      rcases stepR_fit ps h.2 i now c hr with e | e
      · rw [e] at hn; exact absurd rfl hn
      · refine .inr ?_
        rw [fits]
        exact ⟨i, _, rfl, e⟩
  | .times n t =>
    rw [Tsk.ok, Bool.and_eq_true] at h
    rw [fits] at hs
    obtain ⟨i, now, rfl, hi, hr⟩ := hs
    simp only [stp]
    split
    · split
      · rename_i q
        refine .inr ?_
        rw [fits]
        exact ⟨i + 1, _, rfl, by omega, begun_fits t h.2⟩
      · exact .inl rfl
    · rename_i hn
      rcases step_fits t h.2 now c hr with e | e
      · rw [e] at hn; exact absurd rfl hn
      · refine .inr ?_
        rw [fits]
        exact ⟨i, _, rfl, hi, e⟩
  | .unl k t =>
    rw [Tsk.ok] at h
    rw [fits] at hs
    simp only [stp]
    split
    · exact .inr (by rw [fits]; exact begun_fits t h)
    · rcases step_fits t h s c hs with e | e
      · exact .inl e
      · exact .inr (by rw [fits]; exact e)
theorem stepZ_fit (ps : List Tsk) (h : oks ps = true) (os : List D) (c : Call) (hz : fitZ ps os) : fitZ ps (stepZ ps os c) := by
  match ps, os with
  | [], [] => trivial
  | [], _ :: _ => simp [fitZ] at hz
  | _ :: _, [] => simp [fitZ] at hz
  | p :: ps, o :: os =>
    rw [oks, Bool.and_eq_true] at h
    rw [fitZ] at hz
    rw [stepZ, fitZ]
    refine ⟨?_, stepZ_fit ps h.2 os c hz.2⟩
    rcases hz.1 with e | e
    · subst e; exact .inl rfl
    · rw [(fits_top e).2]
      exact step_fits p h.1 o c e
theorem stepR_fit (ps : List Tsk) (h : oks ps = true) (i : Nat) (now : D) (c : Call) (hr : fitR ps i now) : stepR ps i now c = .non ∨ fitR ps i (stepR ps i now c) := by
  match ps, i with
  | [], _ => simp [fitR] at hr
  | p :: ps, 0 =>
    rw [oks, Bool.and_eq_true] at h
    rw [fitR] at hr
    rw [stepR, fitR]
    exact step_fits p h.1 now c hr
  | p :: ps, i + 1 =>
    rw [oks, Bool.and_eq_true] at h
    rw [fitR] at hr
    rw [stepR, fitR]
    exact stepR_fit ps h.2 i now c hr
end
theorem fitZ_top : ∀ {ps : List Tsk} {os : List D}, fitZ ps os → ∀ o ∈ os, okTop o = true
  | [], [], _, o, h => by cases h
  | [], _ :: _, h, _, _ => by simp [fitZ] at h
  | _ :: _, [], h, _, _ => by simp [fitZ] at h
  | p :: ps, q :: os, h, o, ho => by
    rw [fitZ] at h
    rcases List.mem_cons.mp ho with e | ho
    · rw [e]
      rcases h.1 with e | e
      · rw [e]; rfl
      · exact (fits_top e).1
    · exact fitZ_top h.2 o ho
theorem d_top (t : Tsk) : okTop t.d = true := by cases t <;> rfl
theorem two_kinds (s : List Nat) : memD (.str s) [.str [97, 108, 108], .str [97, 110, 121]] = some (([[97, 108, 108], [97, 110, 121]] : List (List Nat)).contains s) := mem_strs s [[97, 108, 108], [97, 110, 121]]
theorem two_rows (s : List Nat) : memD (.str s) [.str [114, 111, 119], .str [116, 105, 109, 101, 115]] = some (([[114, 111, 119], [116, 105, 109, 101, 115]] : List (List Nat)).contains s) := mem_strs s [[114, 111, 119], [116, 105, 109, 101, 115]]
theorem bls_map (l : List D) : blsD (l.map fun d => D.bl d.isNon) = some (l.map D.isNon) := by
  induction l with
  | nil => rfl
  | cons a r ih => rw [List.map_cons, blsD, ih]; rfl
section
variable {G : Pg} (H : DoneG G)
include H
theorem begun_parts (k : Nat) (s : List Nat) (hs : s = [97, 108, 108] ∨ s = [97, 110, 121]) (ps : List Tsk) (st : List Ob) (hl : ps.length ≤ 6) (hr : ∀ p ∈ ps, (G.at k).call "begun" [p.d] st = .ok (begun p) false st) :
    (G.at (k + 1)).call "begun" [.tup [.str s, .tup (ds ps)]] st = .ok (.tup (beguns ps)) false st := by
  rw [pg_run G _ _ _ _ H.begun rfl]
  have hm := two_kinds s
  have hc : (([[97, 108, 108], [97, 110, 121]] : List (List Nat)).contains s) = true := by rcases hs with rfl | rfl <;> decide
  rw [hc] at hm
  have e : (s == [100, 111]) = false := by rcases hs with rfl | rfl <;> decide
  have e' : ¬ s = [100, 111] := by rcases hs with rfl | rfl <;> decide
  have hb : ∀ l : List Tsk, beguns l = l.map begun := fun l => by
    induction l with
    | nil => rfl
    | cons p r ih => rw [beguns, ih]; rfl
  have hcomp := compL_ok (own := [2]) (tg := fun d s => tset (G.at k) ir_begun_t1 d false s) (test := fun s => .ok true s)
    (elt := fun acc s => (ev (G.at k) ir_begun_e1 s).bind fun v s => (keep v s).bind fun d s => if acc.length < SL then .ok (acc ++ [d]) s else .stuck) (lk := [])
    (fun r acc s' => (∃ x, s' = ⟨[.fz (.tup [.str s, .tup (ds ps)]), .fz (.str s), x], st⟩) ∧ ∃ pre post, ps = pre ++ post ∧ r = ds post ∧ acc = beguns pre)
    (fun d r acc s' ⟨⟨x, hs'⟩, pre, post, hps, hrr, hacc⟩ => by
      subst hs'
      match post, hrr with
      | p :: post, hrr =>
        rw [ds, List.cons.injEq] at hrr
        obtain ⟨rfl, rfl⟩ := hrr
        have hp := hr p (by rw [hps]; simp)
        have hz : acc.length < SL := by
          rw [hacc, hb, List.length_map]
          have := congrArg List.length hps
          rw [List.length_append] at this
          unfold SL; omega
        refine ⟨acc ++ [begun p], ⟨[.fz (.tup [.str s, .tup (ds ps)]), .fz (.str s), .fz p.d], st⟩, ?_, ⟨⟨_, rfl⟩, pre ++ [p], post, by rw [hps]; simp, rfl, by rw [hacc, hb, hb]; simp⟩, rfl⟩
        simp -implicitDefEqProofs [turnL, wipeL, ir_begun_t1, ir_begun_e1, evt_e, put, D.ty, Met.tys, Met.calm, D.isBl, D.isT, D.isL, D.plain, D.plains, D.eqv, D.eqvs, partD, sliD, okK, D.akey, itemsL, seqD, it_rng, hp, hz]
      | [], hrr => rw [ds] at hrr; cases hrr)
    (ds ps) [] ⟨[.fz (.tup [.str s, .tup (ds ps)]), .fz (.str s), .emp], st⟩ ⟨⟨_, rfl⟩, [], ps, rfl, rfl, rfl⟩
  obtain ⟨acc, s', he, ⟨x, rfl⟩, pre, post, hps, hrr, rfl⟩ := hcomp
  have hpost : post = [] := by cases post with | nil => rfl | cons a b => rw [ds] at hrr; cases hrr
  subst hpost
  rw [List.append_nil] at hps
  subst hps
  simp -implicitDefEqProofs [ir_begun, evt_e, put, D.ty, Met.tys, Met.calm, D.isBl, D.isT, D.isL, D.plain, D.plains, D.eqv, D.eqvs, partD, sliD, okK, D.akey, itemsL, seqD, it_rng, e, e', hm, calmOwn, he, backL]
theorem begun_run : ∀ (n : Nat) (t : Tsk), dp t ≤ n → t.ok = true → ∀ (k : Nat) (st : List Ob), (G.at (n + k)).call "begun" [t.d] st = .ok (begun t) false st := by
  intro n
  induction n with
  | zero => intro t h; cases t <;> simp [dp] at h
  | succ n ih =>
    intro t hd hok k st
    rw [show n + 1 + k = (n + k) + 1 by omega]
    match t with
    | .one c =>
      rw [pg_run G _ _ _ _ H.begun rfl]
      simp -implicitDefEqProofs [ir_begun, evt_e, put, D.ty, Met.tys, Met.calm, D.isBl, D.isT, D.isL, D.plain, D.plains, D.eqv, D.eqvs, partD, sliD, okK, D.akey, itemsL, seqD, it_rng, Tsk.d, kDo, Dn.begun]
    | .all ps =>
      rw [Tsk.ok, Bool.and_eq_true, Bool.and_eq_true, decide_eq_true_eq] at hok
      rw [dp] at hd
      rw [Tsk.d, Dn.begun]
      exact begun_parts H (n + k) _ (.inl rfl) ps st hok.1.2 fun p hp => ih p (by have := dps_le ps p hp; omega) ((oks_iff ps).mp hok.2 p hp) k st
    | .any ps =>
      rw [Tsk.ok, Bool.and_eq_true, Bool.and_eq_true, decide_eq_true_eq] at hok
      rw [dp] at hd
      rw [Tsk.d, Dn.begun]
      exact begun_parts H (n + k) _ (.inr rfl) ps st hok.1.2 fun p hp => ih p (by have := dps_le ps p hp; omega) ((oks_iff ps).mp hok.2 p hp) k st
    | .row [] => simp [Tsk.ok] at hok
    | .row (p :: ps) =>
      simp only [Tsk.ok, oks, Bool.and_eq_true] at hok
      rw [dp, dps] at hd
      have hp := ih p (by omega) hok.2.1 k st
      have hm := two_kinds [114, 111, 119]
      rw [show (([[97, 108, 108], [97, 110, 121]] : List (List Nat)).contains [114, 111, 119]) = false by decide] at hm
      rw [pg_run G _ _ _ _ H.begun rfl]
      have ht := d_top p
      simp -implicitDefEqProofs [ir_begun, evt_e, put, D.ty, Met.tys, Met.calm, D.isBl, D.isT, D.isL, D.plain, D.plains, D.eqv, D.eqvs, partD, sliD, okK, D.akey, itemsL, seqD, it_rng, Tsk.d, ds, hm, Dn.begun, begun1, hp, de_ok ht]
    | .times m t =>
      rw [Tsk.ok, Bool.and_eq_true] at hok
      rw [dp] at hd
      have hp := ih t (by omega) hok.2 k st
      have hm := two_kinds kTimes
      rw [show (([[97, 108, 108], [97, 110, 121]] : List (List Nat)).contains kTimes) = false by decide] at hm
      unfold kTimes at hm
      rw [pg_run G _ _ _ _ H.begun rfl]
      have ht := d_top t
      simp -implicitDefEqProofs [ir_begun, evt_e, put, D.ty, Met.tys, Met.calm, D.isBl, D.isT, D.isL, D.plain, D.plains, D.eqv, D.eqvs, partD, sliD, okK, D.akey, itemsL, seqD, it_rng, Tsk.d, hm, Dn.begun, hp, kTimes, de_ok ht]
    | .unl c t =>
      rw [Tsk.ok] at hok
      rw [dp] at hd
      have hp := ih t (by omega) hok k st
      have hm := two_kinds kUnless
      rw [show (([[97, 108, 108], [97, 110, 121]] : List (List Nat)).contains kUnless) = false by decide] at hm
      unfold kUnless at hm
      rw [pg_run G _ _ _ _ H.begun rfl]
      have ht := d_top t
      simp -implicitDefEqProofs [ir_begun, evt_e, put, D.ty, Met.tys, Met.calm, D.isBl, D.isT, D.isL, D.plain, D.plains, D.eqv, D.eqvs, partD, sliD, okK, D.akey, itemsL, seqD, it_rng, Tsk.d, hm, Dn.begun, hp, kUnless, de_ok ht]
/-- all and any -/
theorem step_parts (k : Nat) (s : List Nat) (fin : Bool) (hs : s = if fin then [97, 108, 108] else [97, 110, 121]) (ps : List Tsk) (os : List D) (c : Call) (st : List Ob) (hl : ps.length ≤ 6) (hok : oks ps = true) (hf : fitZ ps os)
    (hr : ∀ p ∈ ps, ∀ o ∈ os, fits p o → (G.at k).call "stepped" [p.d, o, .str c] st = .ok (stp p o c) false st) :
    (G.at (k + 1)).call "stepped" [.tup [.str s, .tup (ds ps)], .tup os, .str c] st = .ok (if (if fin then (stepZ ps os c).all D.isNon else (stepZ ps os c).any D.isNon) then .non else .tup (stepZ ps os c)) false st := by
  rw [pg_run G _ _ _ _ H.stepped rfl]
  have hm := two_rows s
  have hc : (([[114, 111, 119], [116, 105, 109, 101, 115]] : List (List Nat)).contains s) = false := by cases fin <;> (subst hs; decide)
  rw [hc] at hm
  have e : (s == [100, 111]) = false := by cases fin <;> (subst hs; decide)
  have e2 : (s == [117, 110, 108, 101, 115, 115]) = false := by cases fin <;> (subst hs; decide)
  have e3 : (s == [97, 108, 108]) = fin := by cases fin <;> (subst hs; decide)
  have hol := fitZ_len hf
  have ez : ∀ (ps : List Tsk) (os : List D), (ds ps).zip os = (ps.zip os).map fun p => (p.1.d, p.2) := fun ps => by
    induction ps with
    | nil => intro os; rfl
    | cons p r ih => intro os; cases os with
      | nil => rfl
      | cons o os => rw [ds, List.zip_cons_cons, ih]; rfl
  have hcomp := compL_ok (own := [5, 6]) (tg := fun d s => tset (G.at k) ir_stepped_t1 d false s) (test := fun s => .ok true s)
    (elt := fun acc s => (ev (G.at k) ir_stepped_e1 s).bind fun v s => (keep v s).bind fun d s => if acc.length < SL then .ok (acc ++ [d]) s else .stuck) (lk := [])
    (fun r acc s' => (∃ x y, s' = ⟨[.fz (.tup [.str s, .tup (ds ps)]), .fz (.tup os), .fz (.str c), .fz (.str s), .emp, x, y, .emp], st⟩) ∧ acc.length + r.length ≤ 6 ∧ ∃ ps' os', (∀ p ∈ ps', p ∈ ps) ∧ (∀ o ∈ os', o ∈ os) ∧ fitZ ps' os' ∧
      r = ((ds ps').zip os').map (fun p => D.tup [p.1, p.2]) ∧ acc ++ stepZ ps' os' c = stepZ ps os c)
    (fun d r acc s' ⟨⟨x, y, hs'⟩, hlen, ps', os', hps, hos, hfit, hrr, hacc⟩ => by
      subst hs'
      rw [List.length_cons] at hlen
      match ps', os', hfit with
      | [], [], _ => cases hrr
      | p :: ps', o :: os', hfit =>
        rw [ds, List.zip_cons_cons, List.map_cons, List.cons.injEq] at hrr
        obtain ⟨rfl, hrr⟩ := hrr
        rw [fitZ] at hfit
        have hz : acc.length < SL := by unfold SL; omega
        refine ⟨acc ++ [if o.isNon then .non else stp p o c], ⟨[.fz (.tup [.str s, .tup (ds ps)]), .fz (.tup os), .fz (.str c), .fz (.str s), .emp, .fz p.d, .fz o, .emp], st⟩, ?_, ⟨⟨_, _, rfl⟩, by rw [List.length_append, List.length_singleton]; omega, ps', os', fun q hq => hps q (List.mem_cons_of_mem _ hq), fun q hq => hos q (List.mem_cons_of_mem _ hq), hfit.2, hrr, by rw [← hacc, stepZ]; simp⟩, rfl⟩
        rcases hfit.1 with rfl | hfo
        · simp -implicitDefEqProofs [turnL, wipeL, ir_stepped_t1, ir_stepped_e1, evt_e, put, D.ty, Met.tys, Met.calm, D.isBl, D.isT, D.isL, D.plain, D.plains, D.eqv, D.eqvs, partD, sliD, okK, D.akey, itemsL, seqD, it_rng, hz, isNon_non]
        · have hp := hr p (hps p (by simp)) o (hos o (by simp)) hfo
          have ht := fits_top hfo
          have htp := d_top p
          simp -implicitDefEqProofs [turnL, wipeL, ir_stepped_t1, ir_stepped_e1, evt_e, put, D.ty, Met.tys, Met.calm, D.isBl, D.isT, D.isL, D.plain, D.plains, D.eqv, D.eqvs, partD, sliD, okK, D.akey, itemsL, seqD, it_rng, hz, hp, ht.2, de_ok ht.1, de_ok htp]
          first | done | (have := ht.2; simp only [D.isNon] at this; simp [this]))
    (((ds ps).zip os).map (fun p => D.tup [p.1, p.2])) [] ⟨[.fz (.tup [.str s, .tup (ds ps)]), .fz (.tup os), .fz (.str c), .fz (.str s), .emp, .emp, .emp, .emp], st⟩
    ⟨⟨_, _, rfl⟩, by rw [List.length_map, List.length_zip, ds_map, List.length_map, hol]; simp; omega, ps, os, fun _ h => h, fun _ h => h, hf, rfl, rfl⟩
  obtain ⟨acc, s', he, ⟨x, y, rfl⟩, -, ps', os', -, -, hfit', hrr, hacc⟩ := hcomp
  have hp0 : ps' = [] := by
    match ps', os', hfit' with
    | [], [], _ => rfl
    | p :: ps', o :: os', _ => rw [ds] at hrr; cases hrr
  subst hp0
  rw [show stepZ [] os' c = [] by cases os' <;> rfl, List.append_nil] at hacc
  subst hacc
  have hZ := stepZ_fit ps hok os c hf
  have hZt : ∀ z ∈ stepZ ps os c, okTop z = true := fitZ_top hZ
  have hZl := stepZ_len c ps os hol
  generalize stepZ ps os c = Z at he hZt hZl
  have hcomp2 := compL_fm (own := [6]) (tg := fun d s => tset (G.at k) ir_stepped_t2 d false s) (test := fun s => .ok true s)
    (elt := fun acc s => (ev (G.at k) ir_stepped_e2 s).bind fun v s => (keep v s).bind fun d s => if acc.length < SL then .ok (acc ++ [d]) s else .stuck) (lk := [])
    (fun s' => ∃ y, s' = ⟨[.fz (.tup [.str s, .tup (ds ps)]), .fz (.tup os), .fz (.str c), .fz (.str s), .fz (.tup Z), .emp, y, .emp], st⟩) (fun _ => true) (fun d => .bl d.isNon) Z
    (fun d hd acc s' ⟨y, hs'⟩ hacc => by
      subst hs'
      refine ⟨⟨[.fz (.tup [.str s, .tup (ds ps)]), .fz (.tup os), .fz (.str c), .fz (.str s), .fz (.tup Z), .emp, .fz d, .emp], st⟩, ?_, ⟨_, rfl⟩, rfl⟩
      simp -implicitDefEqProofs [turnL, wipeL, ir_stepped_t2, ir_stepped_e2, evt_e, put, D.ty, Met.tys, Met.calm, D.isBl, D.isT, D.isL, D.plain, D.plains, D.eqv, D.eqvs, partD, sliD, okK, D.akey, itemsL, seqD, it_rng, hacc, de_ok (hZt d hd)])
    Z [] ⟨[.fz (.tup [.str s, .tup (ds ps)]), .fz (.tup os), .fz (.str c), .fz (.str s), .fz (.tup Z), .emp, .emp, .emp], st⟩ (fun _ h => h) ⟨_, rfl⟩ (by rw [hZl]; simp [SL]; omega)
  obtain ⟨s2, he2, y2, rfl⟩ := hcomp2
  rw [filter_all, List.nil_append] at he2
  have hbl := bls_map Z
  cases fin with
  | true =>
    have hall : ((Z.map D.isNon).all id) = Z.all D.isNon := by simp [List.all_map, Function.comp_def]
    simp -implicitDefEqProofs [ir_stepped, evt_e, put, D.ty, Met.tys, Met.calm, D.isBl, D.isT, D.isL, D.plain, D.plains, D.eqv, D.eqvs, partD, sliD, okK, D.akey, itemsL, seqD, it_rng, e, e2, e3, hm, calmOwn, he, he2, backL, hbl, hall]
    split <;> rfl
  | false =>
    have hany : ((Z.map D.isNon).any id) = Z.any D.isNon := by simp [List.any_map, Function.comp_def]
    simp -implicitDefEqProofs [ir_stepped, evt_e, put, D.ty, Met.tys, Met.calm, D.isBl, D.isT, D.isL, D.plain, D.plains, D.eqv, D.eqvs, partD, sliD, okK, D.akey, itemsL, seqD, it_rng, e, e2, e3, hm, calmOwn, he, he2, backL, hbl, hany]
    split <;> rfl
theorem step_row (k : Nat) (ps : List Tsk) (i : Nat) (now : D) (c : Call) (p : Tsk) (st : List Ob) (hl : ps.length ≤ 6) (hp : ps[i]? = some p) (hn : okTop now = true)
    (hs : (G.at k).call "stepped" [p.d, now, .str c] st = .ok (stp p now c) false st) (hst : okTop (stp p now c) = true) (hb : ∀ q, ps[i + 1]? = some q → (G.at k).call "begun" [q.d] st = .ok (begun q) false st) :
    (G.at (k + 1)).call "gone_on" [.tup [.str [114, 111, 119], .tup (ds ps)], .tup [.int i, now], .str c] st = .ok (stp (.row ps) (.tup [.int i, now]) c) false st := by
  rw [pg_run G _ _ _ _ H.gone_on rfl]
  simp only [stp, Int.toNat_natCast, stepR_get ps i now c p hp]
  have h1 : i < ps.length := (List.getElem?_eq_some_iff.mp hp).1
  have hat : atD (ds ps) (i : Int) = some p.d := by
    rw [atD_pos _ _ (by rw [ds_map, List.length_map]; exact h1), ds_map, List.getElem?_map, hp]; rfl
  have htp := d_top p
  have hlen : ((ds ps).length : Int) = ps.length := by rw [ds_map, List.length_map]
  have hlenN : (ds ps).length = ps.length := by rw [ds_map, List.length_map]
  by_cases hd : (stp p now c).isNon = true
  · have hd' := isNon_iff.mp hd
    cases hq : ps[i + 1]? with
    | none =>
      have : ps.length ≤ i + 1 := List.getElem?_eq_none_iff.mp hq
      have h2 : ¬ ((i : Int) + 1 < ps.length) := by omega
      have h2N : ¬ (i + 1 < ps.length) := by omega
      simp -implicitDefEqProofs [ir_gone_on, evt_e, put, D.ty, Met.tys, Met.calm, D.isBl, D.isT, D.isL, D.plain, D.plains, D.eqv, D.eqvs, partD, sliD, okK, D.akey, itemsL, seqD, it_rng, hat, de_ok htp, de_ok hn, hs, hd', hlen, hlenN, h2, h2N]
    | some q =>
      have : i + 1 < ps.length := (List.getElem?_eq_some_iff.mp hq).1
      have h2 : ((i : Int) + 1 < ps.length) := by omega
      have h2N : (i + 1 < ps.length) := by omega
      have hat2 : atD (ds ps) ((i : Int) + 1) = some q.d := by
        have := atD_pos (ds ps) (i + 1) (by rw [ds_map, List.length_map]; exact this)
        rw [show ((i + 1 : Nat) : Int) = (i : Int) + 1 from rfl] at this
        rw [this, ds_map, List.getElem?_map, hq]; rfl
      have htq := d_top q
      simp -implicitDefEqProofs [ir_gone_on, evt_e, put, D.ty, Met.tys, Met.calm, D.isBl, D.isT, D.isL, D.plain, D.plains, D.eqv, D.eqvs, partD, sliD, okK, D.akey, itemsL, seqD, it_rng, hat, hat2, de_ok htp, de_ok htq, de_ok hn, hs, hd', hlen, hlenN, h2, h2N, hb q hq]
  · rw [Bool.not_eq_true] at hd
    simp -implicitDefEqProofs [ir_gone_on, evt_e, put, D.ty, Met.tys, Met.calm, D.isBl, D.isT, D.isL, D.plain, D.plains, D.eqv, D.eqvs, partD, sliD, okK, D.akey, itemsL, seqD, it_rng, hat, de_ok htp, de_ok hn, hs, hd, de_ok hst]
omit H in
theorem rep_one {α : Type} (x : α) : ∀ n : Nat, (List.replicate n [x]).flatten = List.replicate n x
  | 0 => rfl
  | n + 1 => by rw [List.replicate_succ, List.flatten_cons, rep_one x n, List.replicate_succ]; rfl
theorem step_times (k : Nat) (n : Nat) (t : Tsk) (i : Nat) (now : D) (c : Call) (st : List Ob) (hn2 : 2 ≤ n) (hn5 : n ≤ 5) (hi : i < n) (hn : okTop now = true)
    (hs : (G.at k).call "stepped" [t.d, now, .str c] st = .ok (stp t now c) false st) (hst : okTop (stp t now c) = true) (hb : (G.at k).call "begun" [t.d] st = .ok (begun t) false st) :
    (G.at (k + 1)).call "gone_on" [.tup [.str kTimes, .int n, t.d], .tup [.int i, now], .str c] st = .ok (stp (.times n t) (.tup [.int i, now]) c) false st := by
  rw [pg_run G _ _ _ _ H.gone_on rfl]
  simp only [stp]
  have htp := d_top t
  have hmul : binD .Mult (.tup [t.d]) (.int n) = some (.tup (List.replicate n t.d), false) := by
    show (if [t.d] ≠ [] ∧ 2 ≤ (n : Int) ∧ (n : Int) ≤ 1000 ∧ [t.d].length ≤ 1000 then some (D.tup (List.replicate (n : Int).toNat [t.d]).flatten, false) else none) = _
    rw [if_pos ⟨by simp, by omega, by omega, by simp⟩, Int.toNat_natCast, rep_one]
  have hat : atD (List.replicate n t.d) (i : Int) = some t.d := by
    rw [atD_pos _ _ (by rw [List.length_replicate]; exact hi), List.getElem?_replicate, if_pos hi]
  by_cases hd : (stp t now c).isNon = true
  · have hd' := isNon_iff.mp hd
    by_cases h1 : i + 1 < n
    · have h2 : (i : Int) + 1 < n := by omega
      have hat2 : atD (List.replicate n t.d) ((i : Int) + 1) = some t.d := by
        have := atD_pos (List.replicate n t.d) (i + 1) (by rw [List.length_replicate]; exact h1)
        rw [show ((i + 1 : Nat) : Int) = (i : Int) + 1 from rfl] at this
        rw [this, List.getElem?_replicate, if_pos h1]
      simp -implicitDefEqProofs [ir_gone_on, evt_e, put, D.ty, Met.tys, Met.calm, D.isBl, D.isT, D.isL, D.plain, D.plains, D.eqv, D.eqvs, partD, sliD, okK, D.akey, itemsL, seqD, it_rng, kTimes, hmul, hat, hat2, de_ok htp, de_ok hn, hs, hd', h1, h2, hb]
    · have h2 : ¬ (i : Int) + 1 < n := by omega
      simp -implicitDefEqProofs [ir_gone_on, evt_e, put, D.ty, Met.tys, Met.calm, D.isBl, D.isT, D.isL, D.plain, D.plains, D.eqv, D.eqvs, partD, sliD, okK, D.akey, itemsL, seqD, it_rng, kTimes, hmul, hat, de_ok htp, de_ok hn, hs, hd', h1, h2]
  · rw [Bool.not_eq_true] at hd
    simp -implicitDefEqProofs [ir_gone_on, evt_e, put, D.ty, Met.tys, Met.calm, D.isBl, D.isT, D.isL, D.plain, D.plains, D.eqv, D.eqvs, partD, sliD, okK, D.akey, itemsL, seqD, it_rng, kTimes, hmul, hat, de_ok htp, de_ok hn, hs, hd, de_ok hst]
omit H in
theorem stp_top {t : Tsk} (hok : t.ok = true) {s : D} {c : Call} (hf : fits t s) : okTop (stp t s c) = true := by
  rcases step_fits t hok s c hf with e | e
  · rw [e]; rfl
  · exact (fits_top e).1
theorem step_run : ∀ (n : Nat) (t : Tsk), dp t ≤ n → t.ok = true → ∀ (s : D), fits t s → ∀ (k : Nat) (c : Call) (st : List Ob), (G.at (2 * n + k)).call "stepped" [t.d, s, .str c] st = .ok (stp t s c) false st := by
  intro n
  induction n with
  | zero => intro t h; cases t <;> simp [dp] at h
  | succ n ih =>
    intro t hd hok s hf k c st
    rw [show 2 * (n + 1) + k = (2 * n + 1 + k) + 1 by omega]
    have htop := fits_top hf
    match t with
    | .one x =>
      rw [fits] at hf
      subst hf
      rw [pg_run G _ _ _ _ H.stepped rfl]
      by_cases hc : c = x
      · subst hc
        simp -implicitDefEqProofs [ir_stepped, evt_e, put, D.ty, Met.tys, Met.calm, D.isBl, D.isT, D.isL, D.plain, D.plains, D.eqv, D.eqvs, partD, sliD, okK, D.akey, itemsL, seqD, it_rng, Tsk.d, kDo, stp]
      · have hc' : (c == x) = false := beq_eq_false_iff_ne.mpr hc
        simp -implicitDefEqProofs [ir_stepped, evt_e, put, D.ty, Met.tys, Met.calm, D.isBl, D.isT, D.isL, D.plain, D.plains, D.eqv, D.eqvs, partD, sliD, okK, D.akey, itemsL, seqD, it_rng, Tsk.d, kDo, stp, hc, hc']
    | .all ps =>
      rw [Tsk.ok, Bool.and_eq_true, Bool.and_eq_true, decide_eq_true_eq] at hok
      rw [dp] at hd
      rw [fits] at hf
      obtain ⟨os, rfl, hf⟩ := hf
      have := step_parts H (2 * n + 1 + k) _ true rfl ps os c st hok.1.2 hok.2 hf fun p hp o ho hpo => by
        have := ih p (by have := dps_le ps p hp; omega) ((oks_iff ps).mp hok.2 p hp) o hpo (1 + k) c st
        rwa [show 2 * n + (1 + k) = 2 * n + 1 + k by omega] at this
      simp only [if_true] at this
      rw [Tsk.d, this]
      simp only [stp]
    | .any ps =>
      rw [Tsk.ok, Bool.and_eq_true, Bool.and_eq_true, decide_eq_true_eq] at hok
      rw [dp] at hd
      rw [fits] at hf
      obtain ⟨os, rfl, hf⟩ := hf
      have := step_parts H (2 * n + 1 + k) _ false rfl ps os c st hok.1.2 hok.2 hf fun p hp o ho hpo => by
        have := ih p (by have := dps_le ps p hp; omega) ((oks_iff ps).mp hok.2 p hp) o hpo (1 + k) c st
        rwa [show 2 * n + (1 + k) = 2 * n + 1 + k by omega] at this
      simp only [Bool.false_eq_true, if_false] at this
      rw [Tsk.d, this]
      simp only [stp]
    | .row ps =>
      rw [Tsk.ok, Bool.and_eq_true, Bool.and_eq_true, decide_eq_true_eq] at hok
      rw [dp] at hd
      rw [fits] at hf
      obtain ⟨i, now, rfl, hf⟩ := hf
      obtain ⟨p, hp, hfp⟩ := fitR_get hf
      have hmem := List.mem_of_getElem? hp
      have hpok := (oks_iff ps).mp hok.2 p hmem
      have hdp := dps_le ps p hmem
      have hg := step_row H (2 * n + k) ps i now c p st hok.1.2 hp (fits_top hfp).1 (ih p (by omega) hpok now hfp k c st) (stp_top hpok hfp) fun q hq => by
        have hm := List.mem_of_getElem? hq
        have := begun_run H n q (by have := dps_le ps q hm; omega) ((oks_iff ps).mp hok.2 q hm) (n + k) st
        rwa [show n + (n + k) = 2 * n + k by omega] at this
      rw [show 2 * n + k + 1 = 2 * n + 1 + k by omega] at hg
      have hm := two_rows [114, 111, 119]
      rw [show (([[114, 111, 119], [116, 105, 109, 101, 115]] : List (List Nat)).contains [114, 111, 119]) = true by decide] at hm
      rw [pg_run G _ _ _ _ H.stepped rfl]
      generalize hX : stp (.row ps) (.tup [.int i, now]) c = X at hg
      simp -implicitDefEqProofs [ir_stepped, evt_e, put, D.ty, Met.tys, Met.calm, D.isBl, D.isT, D.isL, D.plain, D.plains, D.eqv, D.eqvs, partD, sliD, okK, D.akey, itemsL, seqD, it_rng, Tsk.d, hm, hg]
    | .times m t =>
      rw [Tsk.ok, Bool.and_eq_true, decide_eq_true_eq] at hok
      rw [dp] at hd
      rw [fits] at hf
      obtain ⟨i, now, rfl, hi, hf⟩ := hf
      have hg := step_times H (2 * n + k) m t i now c st hok.1.1 hok.1.2 hi (fits_top hf).1 (ih t (by omega) hok.2 now hf k c st) (stp_top hok.2 hf) (by
        have := begun_run H n t (by omega) hok.2 (n + k) st
        rwa [show n + (n + k) = 2 * n + k by omega] at this)
      rw [show 2 * n + k + 1 = 2 * n + 1 + k by omega] at hg
      have hm := two_rows kTimes
      rw [show (([[114, 111, 119], [116, 105, 109, 101, 115]] : List (List Nat)).contains kTimes) = true by decide] at hm
      have htp := d_top t
      rw [pg_run G _ _ _ _ H.stepped rfl]
      generalize hX : stp (.times m t) (.tup [.int i, now]) c = X at hg
      unfold kTimes at hm hg
      simp -implicitDefEqProofs [ir_stepped, evt_e, put, D.ty, Met.tys, Met.calm, D.isBl, D.isT, D.isL, D.plain, D.plains, D.eqv, D.eqvs, partD, sliD, okK, D.akey, itemsL, seqD, it_rng, Tsk.d, kTimes, hm, hg]
    | .unl x t =>
      rw [Tsk.ok] at hok
      rw [dp] at hd
      rw [fits] at hf
      have hs := ih t (by omega) hok s hf (1 + k) c st
      rw [show 2 * n + (1 + k) = 2 * n + 1 + k by omega] at hs
      have hb := begun_run H n t (by omega) hok (n + 1 + k) st
      rw [show n + (n + 1 + k) = 2 * n + 1 + k by omega] at hb
      have hm := two_rows kUnless
      rw [show (([[114, 111, 119], [116, 105, 109, 101, 115]] : List (List Nat)).contains kUnless) = false by decide] at hm
      unfold kUnless at hm
      have htp := d_top t
      rw [pg_run G _ _ _ _ H.stepped rfl]
      by_cases hc : c = x
      · subst hc
        simp -implicitDefEqProofs [ir_stepped, evt_e, put, D.ty, Met.tys, Met.calm, D.isBl, D.isT, D.isL, D.plain, D.plains, D.eqv, D.eqvs, partD, sliD, okK, D.akey, itemsL, seqD, it_rng, Tsk.d, kUnless, stp, hm, de_ok htp, hb]
      · have hc' : (c == x) = false := beq_eq_false_iff_ne.mpr hc
        simp -implicitDefEqProofs [ir_stepped, evt_e, put, D.ty, Met.tys, Met.calm, D.isBl, D.isT, D.isL, D.plain, D.plains, D.eqv, D.eqvs, partD, sliD, okK, D.akey, itemsL, seqD, it_rng, Tsk.d, kUnless, stp, hm, de_ok htp, de_ok htop.1, hs, hc, hc']
/-- what is told of a task and a word -/
def outO (o : Option Nat) : D := match o with
  | some k => .int k
  | none => .non
theorem done_loop (n k : Nat) (t : Tsk) (hd : dp t ≤ n) (hok : t.ok = true) (x0 x1 : D) (hx0 : x0 = t.d) (st : List Ob) (lk : List (Rv × D)) (hlk : lk = []) : ∀ (w : List Call) (i : Nat) (s : D) (x3 x4 : Slot), fits t s →
    ∃ y2 y3 y4, forL (fun d s => tset (G.at (2 * n + k)) ir_done_at_t1 d false s) (fun s => exs (G.at (2 * n + k)) ir_done_at_b1 s) lk (((w.map D.str).zipIdx i).map fun p => D.tup [.int p.2, p.1]) ⟨[.fz x0, .fz x1, .fz s, x3, x4], st⟩ =
      .ok (match runT t s w with | some m => .ret (.int (i + m : Nat)) false | none => .nx) ⟨[.fz x0, .fz x1, y2, y3, y4], st⟩
  | [], i, s, x3, x4, hf => ⟨_, _, _, rfl⟩
  | c :: r, i, s, x3, x4, hf => by
    subst hx0 hlk
    have hs := step_run H n t hd hok s hf k c st
    have ht := d_top t
    have hft := fits_top hf
    rw [List.map_cons, List.zipIdx_cons, List.map_cons, forL_cons]
    rcases step_fits t hok s c hf with e | e
    · rw [e] at hs
      refine ⟨.fz .non, .fz (.int i), .fz (.str c), ?_⟩
      rw [runT, e]
      simp -implicitDefEqProofs [ir_done_at_t1, ir_done_at_b1, evt_e, put, D.ty, Met.tys, Met.calm, D.isBl, D.isT, D.isL, D.plain, D.plains, D.eqv, D.eqvs, partD, sliD, okK, D.akey, itemsL, seqD, it_rng, de_ok ht, de_ok hft.1, hs]
    · obtain ⟨y2, y3, y4, ih⟩ := done_loop n k t hd hok t.d x1 rfl st [] rfl r (i + 1) (stp t s c) (.fz (.int i)) (.fz (.str c)) e
      refine ⟨y2, y3, y4, ?_⟩
      have he := fits_top e
      rw [runT, he.2]
      have h1 : ((tset (G.at (2 * n + k)) ir_done_at_t1 (D.tup [D.int ((D.str c, i).2 : Nat), (D.str c, i).1]) false ⟨[.fz t.d, .fz x1, .fz s, x3, x4], st⟩).bind fun _ s => exs (G.at (2 * n + k)) ir_done_at_b1 s) =
          .ok .nx ⟨[.fz t.d, .fz x1, .fz (stp t s c), .fz (.int i), .fz (.str c)], st⟩ := by
        simp -implicitDefEqProofs [ir_done_at_t1, ir_done_at_b1, evt_e, put, D.ty, Met.tys, Met.calm, D.isBl, D.isT, D.isL, D.plain, D.plains, D.eqv, D.eqvs, partD, sliD, okK, D.akey, itemsL, seqD, it_rng, de_ok ht, de_ok hft.1, hs, he.2, de_ok he.1]
      rw [h1]
      simp only [rb_ok, locked_nil, if_true, Bool.false_eq_true, if_false]
      rw [ih]
      cases runT t (stp t s c) r with
      | none => rfl
      | some m =>
        simp only [Option.map_some]
        rw [show i + 1 + m = i + (m + 1) by omega]
theorem done_at_run (n k : Nat) (t : Tsk) (hd : dp t ≤ n) (hok : t.ok = true) (w : List Call) (x1 : D) (hx1 : x1 = .tup (w.map .str) ∨ x1 = .lst (w.map .str)) (st : List Ob) :
    (G.at (2 * n + k + 1)).call "done_at" [t.d, x1] st = .ok (outO (L t w)) false st := by
  rw [pg_run G _ _ _ _ H.done_at rfl]
  have hb := begun_run H n t hd hok (n + k) st
  rw [show n + (n + k) = 2 * n + k by omega] at hb
  have ht := d_top t
  obtain ⟨y2, y3, y4, hl⟩ := done_loop H n k t hd hok t.d x1 rfl st [] rfl w 0 (begun t) .emp .emp (begun_fits t hok)
  rw [run_is t hok] at hl
  have hfin : ∀ (o : Option Nat) (s : S), (R.ok (match o with | some m => Fl.ret (.int (0 + m : Nat)) false | none => .nx) s : R Fl) = match o with | some m => .ok (.ret (.int m) false) s | none => .ok .nx s := fun o s => by cases o <;> simp
  rw [hfin] at hl
  cases hL : L t w with
  | none =>
    rw [hL] at hl
    rcases hx1 with rfl | rfl
    · simp -implicitDefEqProofs [ir_done_at, evt_e, put, D.ty, Met.tys, Met.calm, D.isBl, D.isT, D.isL, D.plain, D.plains, D.eqv, D.eqvs, partD, sliD, okK, D.akey, itemsL, seqD, it_rng, hb, de_ok ht, hl, outO]
    · simp -implicitDefEqProofs [ir_done_at, evt_e, put, D.ty, Met.tys, Met.calm, D.isBl, D.isT, D.isL, D.plain, D.plains, D.eqv, D.eqvs, partD, sliD, okK, D.akey, itemsL, seqD, it_rng, hb, de_ok ht, hl, outO]
  | some m =>
    rw [hL] at hl
    rcases hx1 with rfl | rfl
    · simp -implicitDefEqProofs [ir_done_at, evt_e, put, D.ty, Met.tys, Met.calm, D.isBl, D.isT, D.isL, D.plain, D.plains, D.eqv, D.eqvs, partD, sliD, okK, D.akey, itemsL, seqD, it_rng, hb, de_ok ht, hl, outO]
    · simp -implicitDefEqProofs [ir_done_at, evt_e, put, D.ty, Met.tys, Met.calm, D.isBl, D.isT, D.isL, D.plain, D.plains, D.eqv, D.eqvs, partD, sliD, okK, D.akey, itemsL, seqD, it_rng, hb, de_ok ht, hl, outO]
theorem is_done_run (n k : Nat) (t : Tsk) (hd : dp t ≤ n) (hok : t.ok = true) (w : List Call) (st : List Ob) :
    (G.at (2 * n + k + 2)).call "is_done" [t.d, .tup (w.map .str)] st = .ok (.bl (L t w).isSome) false st := by
  rw [pg_run G _ _ _ _ H.is_done rfl]
  have h := done_at_run H n k t hd hok w _ (.inl rfl) st
  have ht := d_top t
  cases hL : L t w <;> rw [hL] at h <;> simp -implicitDefEqProofs [ir_is_done, evt_e, put, D.ty, Met.tys, Met.calm, D.isBl, D.isT, D.isL, D.plain, D.plains, D.eqv, D.eqvs, partD, sliD, okK, D.akey, itemsL, seqD, it_rng, h, de_ok ht, outO]
end
end Lw
end
section
set_option linter.all false
set_option maxRecDepth 10000
set_option maxHeartbeats 4000000
/-! DoneLaw: the law's own look at done tasks. -/
namespace Lw
open PySem PyE Tk Dn
structure LawDoneG (G : Pg) : Prop where
  ldone : G.defs "_law_done" = some ir__law_done
/-- the places behind a call -/
def occs (c : Call) : Nat → List Call → List Nat
  | _, [] => []
  | b, x :: r => if x = c then (b + 1) :: occs c (b + 1) r else occs c (b + 1) r
theorem occs_head (c : Call) : ∀ (v : List Call) (b : Nat), (occs c b v).head? = (v.findIdx? fun x => decide (x = c)).map fun i => b + i + 1
  | [], b => rfl
  | x :: r, b => by
    rw [occs, List.findIdx?_cons]
    by_cases h : x = c
    · simp [h]
    · simp only [h, if_false, decide_false, Bool.false_eq_true, occs_head c r (b + 1), Option.map_map]
      congr 1
      funext i
      simp only [Function.comp_apply]; omega
theorem occs_len (c : Call) : ∀ (v : List Call) (b : Nat), (occs c b v).length ≤ v.length
  | [], b => Nat.le_refl _
  | x :: r, b => by
    rw [occs]
    have := occs_len c r (b + 1)
    split <;> simp <;> omega
/-- what the law tells -/
def val (b : Nat) (o : Option Nat) : Nat := match o with
  | some k => b + k
  | none => 1000000
/-- a place, or far away -/
def outV (o : Option Nat) : D := match o with
  | some b => .int b
  | none => .int 1000000
def wordD (w : List Call) : D := .tup (w.map .str)
theorem drop_cons {α : Type} {w : List α} {j : Nat} (h : j < w.length) : w.drop j = w[j] :: w.drop (j + 1) := List.drop_eq_getElem_cons h
section
variable {G : Pg} (H : LawDoneG G)
/-- both comprehensions -/
theorem occs_comp (k : Nat) (own : List Nat) (t1 : T) (i1 : List E) (e1 : E) (ht : t1 = ir__law_done_t1) (hi : i1 = ir__law_done_i1) (he : e1 = ir__law_done_e1) (hown : own = [5]) (kd : List Nat) (c : Call) (rest : List D) (w : List Call) (hw : w.length ≤ 100) (b : Nat) (hb : b ≤ w.length) (x2 x3 x4 x6 x7 x8 x9 x10 : Slot) (st : List Ob) :
    ∃ x5, compL own (fun d s => tset (G.at k) t1 d false s) (fun s => evIfs (G.at k) i1 s)
      (fun acc s => (ev (G.at k) e1 s).bind fun v s => (keep v s).bind fun d s => if acc.length < SL then .ok (acc ++ [d]) s else .stuck) []
      ((List.range (w.length - b)).map fun (j : Nat) => D.int ((b : Int) + j)) [] ⟨[.fz (.tup (.str kd :: .str c :: rest)), .fz (wordD w), x2, x3, x4, .emp, x6, x7, x8, x9, x10], st⟩ =
      .ok ((occs c b (w.drop b)).map fun (n : Nat) => D.int n) ⟨[.fz (.tup (.str kd :: .str c :: rest)), .fz (wordD w), x2, x3, x4, x5, x6, x7, x8, x9, x10], st⟩ := by
  subst ht hi he hown
  have hcomp := compL_ok (own := [5]) (tg := fun d s => tset (G.at k) ir__law_done_t1 d false s) (test := fun s => evIfs (G.at k) ir__law_done_i1 s)
    (elt := fun acc s => (ev (G.at k) ir__law_done_e1 s).bind fun v s => (keep v s).bind fun d s => if acc.length < SL then .ok (acc ++ [d]) s else .stuck) (lk := [])
    (fun r acc s => (∃ x5, s = ⟨[.fz (.tup (.str kd :: .str c :: rest)), .fz (wordD w), x2, x3, x4, x5, x6, x7, x8, x9, x10], st⟩) ∧ ∃ j, b + j + r.length = w.length ∧ r = (List.range' j r.length).map (fun (j : Nat) => D.int ((b : Int) + j)) ∧
      acc ++ ((occs c (b + j) (w.drop (b + j))).map fun (n : Nat) => D.int n) = (occs c b (w.drop b)).map fun (n : Nat) => D.int n)
    (fun d r acc s ⟨⟨x5, hs⟩, j, hj, hr, hacc⟩ => by
      subst hs
      rw [List.length_cons] at hj
      rw [List.length_cons, List.range'_succ, List.map_cons, List.cons.injEq] at hr
      obtain ⟨rfl, hr⟩ := hr
      have hlt : b + j < w.length := by omega
      have hat : atD (w.map D.str) ((b : Int) + j) = some (.str w[b + j]) := by
        have := atD_pos (w.map D.str) (b + j) (by rw [List.length_map]; exact hlt)
        rw [show ((b + j : Nat) : Int) = (b : Int) + j from rfl] at this
        rw [this, List.getElem?_map, List.getElem?_eq_getElem hlt]; rfl
      have hz : acc.length < SL := by
        have h1 := congrArg List.length hacc
        simp only [List.length_append, List.length_map] at h1
        have h2 := occs_len c (w.drop b) b
        rw [List.length_drop] at h2
        unfold SL; omega
      rw [drop_cons hlt, occs] at hacc
      by_cases hc : w[b + j] = c
      · rw [if_pos hc, List.map_cons] at hacc
        have hc' : (w[b + j] == c) = true := by rw [hc]; simp
        refine ⟨acc ++ [.int (b + j + 1 : Nat)], ⟨[.fz (.tup (.str kd :: .str c :: rest)), .fz (wordD w), x2, x3, x4, .fz (.int ((b : Int) + j)), x6, x7, x8, x9, x10], st⟩, ?_, ⟨⟨_, rfl⟩, j + 1, by omega, hr, by rw [← hacc]; simp [Nat.add_assoc]⟩, rfl⟩
        unfold wordD
        simp -implicitDefEqProofs [turnL, wipeL, ir__law_done_t1, ir__law_done_i1, ir__law_done_e1, evt_e, put, D.ty, Met.tys, Met.calm, D.isBl, D.isT, D.isL, D.plain, D.plains, D.eqv, D.eqvs, partD, sliD, okK, D.akey, itemsL, seqD, it_rng, hat, hc, hz]
      · rw [if_neg hc] at hacc
        have hc' : (w[b + j] == c) = false := beq_eq_false_iff_ne.mpr hc
        refine ⟨acc, ⟨[.fz (.tup (.str kd :: .str c :: rest)), .fz (wordD w), x2, x3, x4, .fz (.int ((b : Int) + j)), x6, x7, x8, x9, x10], st⟩, ?_, ⟨⟨_, rfl⟩, j + 1, by omega, hr, hacc⟩, rfl⟩
        unfold wordD
        simp -implicitDefEqProofs [turnL, wipeL, ir__law_done_t1, ir__law_done_i1, ir__law_done_e1, evt_e, put, D.ty, Met.tys, Met.calm, D.isBl, D.isT, D.isL, D.plain, D.plains, D.eqv, D.eqvs, partD, sliD, okK, D.akey, itemsL, seqD, it_rng, hat, hc, hc'])
    ((List.range (w.length - b)).map fun (j : Nat) => D.int ((b : Int) + j)) [] ⟨[.fz (.tup (.str kd :: .str c :: rest)), .fz (wordD w), x2, x3, x4, .emp, x6, x7, x8, x9, x10], st⟩
    ⟨⟨_, rfl⟩, 0, by rw [List.length_map, List.length_range]; omega, by rw [List.length_map, List.length_range, List.range_eq_range'], rfl⟩
  obtain ⟨acc, s', he, ⟨x5, rfl⟩, j, hj, -, hacc⟩ := hcomp
  rw [List.length_nil, Nat.add_zero] at hj
  have : (w.drop (b + j)) = [] := List.drop_eq_nil_iff.mpr (by omega)
  rw [this, occs, List.map_nil, List.append_nil] at hacc
  subst hacc
  exact ⟨x5, he⟩
include H
theorem law_one (k : Nat) (c : Call) (w : List Call) (hw : w.length ≤ 100) (b : Nat) (hb : b ≤ w.length) (st : List Ob) :
    (G.at (k + 1)).call "_law_done" [(Tsk.one c).d, wordD w, .int b] st = .ok (.int (val b (L (.one c) (w.drop b)))) false st := by
  rw [pg_run G _ _ _ _ H.ldone rfl]
  obtain ⟨x5, he⟩ := occs_comp (G := G) k [5] _ _ _ rfl rfl rfl rfl kDo c [] w hw b hb (.fz (.int b)) (.fz (.str kDo)) .emp .emp .emp .emp .emp .emp st
  have hhead := occs_head c (w.drop b) b
  have hr1 : 0 ≤ (b : Int) ∧ (b : Int) < 1000000 := by omega
  have hr2 : 0 ≤ (w.length : Int) ∧ (w.length : Int) < 1000000 := by omega
  have hsub : ((w.length : Int) - b).toNat = w.length - b := by omega
  unfold wordD kDo at he
  have hL : L (.one c) (w.drop b) = ((w.drop b).findIdx? fun x => decide (x = c)).map (· + 1) := rfl
  rw [hL]
  cases hf : ((w.drop b).findIdx? fun x => decide (x = c)) with
  | none =>
    rw [hf] at hhead
    have hnil : occs c b (w.drop b) = [] := by cases h : occs c b (w.drop b) with | nil => rfl | cons a r => rw [h] at hhead; cases hhead
    rw [hnil] at he
    have hpow : binD .Pow (.int 10) (.int 6) = some (.int 1000000, false) := by rw [b_pow (by omega) (by omega) (by decide)]; rfl
    have hq := eq_nil (l := []) rfl
    simp -implicitDefEqProofs [ir__law_done, evt_e, put, D.ty, Met.tys, Met.calm, D.isBl, D.isT, D.isL, D.plain, D.plains, D.eqv, D.eqvs, partD, sliD, okK, D.akey, itemsL, seqD, it_rng, Tsk.d, kDo, wordD, rng_two hr1 hr2, hsub, calmOwn, he, backL, hq, hpow, val]
  | some i =>
    rw [hf] at hhead
    obtain ⟨r, hcons⟩ : ∃ r, occs c b (w.drop b) = (b + i + 1) :: r := by
      cases h : occs c b (w.drop b) with
      | nil => rw [h] at hhead; cases hhead
      | cons a r => rw [h] at hhead; simp at hhead; exact ⟨r, by rw [hhead]⟩
    rw [hcons, List.map_cons] at he
    have hq := eq_nil (l := D.int ((b + i + 1 : Nat)) :: r.map fun (n : Nat) => D.int n) (by
      rw [D.plains, Bool.and_eq_true]
      refine ⟨by simp [D.plain], (plains_iff _ _).mpr fun v hv => ?_⟩
      obtain ⟨n, _, rfl⟩ := List.mem_map.mp hv
      simp [D.plain])
    rw [show ((b + i + 1 : Nat) : Int) = (b : Int) + i + 1 from rfl] at he hq
    simp -implicitDefEqProofs [ir__law_done, evt_e, put, D.ty, Met.tys, Met.calm, D.isBl, D.isT, D.isL, D.plain, D.plains, D.eqv, D.eqvs, partD, sliD, okK, D.akey, itemsL, seqD, it_rng, Tsk.d, kDo, wordD, rng_two hr1 hr2, hsub, calmOwn, he, backL, hq, val]
    omega
omit H in
theorem L_le {t : Tsk} (hok : t.ok = true) {v : List Call} {m : Nat} (h : L t v = some m) : 1 ≤ m ∧ m ≤ v.length := by
  rw [← run_is t hok] at h
  exact run_pos h
omit H in
theorem unlL_occs (f : List Call → Option Nat) (k : Call) : ∀ (w pre : List Call) (b : Nat), match occs k b w with
    | [] => unlL f k pre w = f (pre ++ w)
    | e :: rest => ∃ i, e = b + i + 1 ∧ i < w.length ∧ unlL f k pre w = (match f (pre ++ w.take i) with | some m => some m | none => (unlL f k [] (w.drop (i + 1))).map (· + (pre.length + i + 1))) ∧ rest = occs k e (w.drop (i + 1))
  | [], pre, b => by simp [occs, unlL]
  | x :: r, pre, b => by
    rw [occs]
    by_cases h : x = k
    · simp only [h, if_true]
      exact ⟨0, rfl, by simp, by rw [unlL, if_pos rfl]; simp only [List.take_zero, List.append_nil, List.drop_succ_cons, List.drop_zero, Nat.add_zero]; try (cases f pre <;> rfl), rfl⟩
    · simp only [h, if_false]
      have ih := unlL_occs f k r (pre ++ [x]) (b + 1)
      cases ho : occs k (b + 1) r with
      | nil =>
        rw [ho] at ih
        simp only at ih ⊢
        rw [unlL, if_neg h, ih]; simp
      | cons e rest =>
        rw [ho] at ih
        simp only at ih ⊢
        obtain ⟨i, h1, h2, h3, h4⟩ := ih
        refine ⟨i + 1, by omega, by simp; omega, ?_, by rw [h4]; rfl⟩
        rw [unlL, if_neg h, h3]
        simp only [List.take_succ_cons, List.drop_succ_cons, List.append_assoc, List.singleton_append, List.length_append, List.length_singleton]
        rw [show pre.length + 1 + i + 1 = pre.length + (i + 1) + 1 by omega]
theorem unl_loop (k : Nat) (c : Call) (t : Tsk) (hok : t.ok = true) (w : List Call) (hw : w.length ≤ 100) (all : List Nat) (hall : all.length ≤ 200) (b : Int) (st : List Ob)
    (ih : ∀ (w' : List Call) (b : Nat), w'.length ≤ 100 → b ≤ w'.length → (G.at k).call "_law_done" [t.d, wordD w', .int b] st = .ok (.int (val b (L t (w'.drop b)))) false st) (x3 x4 x5i x10 : Slot) :
    ∀ (cs : List Nat) (a cut : Nat) (x5 x7 x8 x9 : Slot), all.drop a = cut :: cs → cut ≤ w.length → cs = occs c cut (w.drop cut) →
    ∃ y5 y7 y8 y9, forL (fun d s => tset (G.at k) ir__law_done_t3 d false s) (fun s => exs (G.at k) ir__law_done_b3 s) [] ((((cut :: cs).map fun (n : Nat) => D.int n).zipIdx a).map fun p => D.tup [.int p.2, p.1])
      ⟨[.fz (Tsk.unl c t).d, .fz (wordD w), .fz (.int b), x3, x4, x5, .fz (.lst (all.map fun (n : Nat) => D.int n)), x7, x8, x9, x10], st⟩ =
      .ok (match unlL (L t) c [] (w.drop cut) with | some m => .ret (.int (cut + m : Nat)) false | none => .nx) ⟨[.fz (Tsk.unl c t).d, .fz (wordD w), .fz (.int b), x3, x4, y5, .fz (.lst (all.map fun (n : Nat) => D.int n)), y7, y8, y9, x10], st⟩ := by
  intro cs
  induction cs with
  | nil =>
    intro a cut x5 x7 x8 x9 hdrop hcut hcs
    have hoc := unlL_occs (L t) c (w.drop cut) [] cut
    rw [← hcs] at hoc
    simp only [List.nil_append] at hoc
    have hlen : all.length = a + 1 := by
      have := congrArg List.length hdrop
      rw [List.length_drop, List.length_singleton] at this
      omega
    have hcall := ih w cut hw hcut
    have hcutw : cutL (w.map D.str) none (some (w.length : Int)) = w.map .str := by rw [cut_take]; exact List.take_of_length_le (by rw [List.length_map]; exact Nat.le_refl _)
    have hpow : binD .Pow (.int 10) (.int 6) = some (.int 1000000, false) := by rw [b_pow (by omega) (by omega) (by decide)]; rfl
    have h1 : ¬ ((a : Int) + 1 < all.length) := by omega
    have h1N : ¬ (a + 1 < all.length) := by omega
    have htp := d_top t
    unfold wordD at hcall
    rw [hoc, List.map_cons, List.zipIdx_cons, List.map_cons, forL_cons]
    cases hL : L t (w.drop cut) with
    | none =>
      rw [hL] at hcall
      refine ⟨.fz (.int a), .fz (.int cut), .fz (.int w.length), .fz (.int 1000000), ?_⟩
      unfold wordD
      simp -implicitDefEqProofs [ir__law_done_t3, ir__law_done_b3, evt_e, put, D.ty, Met.tys, Met.calm, D.isBl, D.isT, D.isL, D.plain, D.plains, D.eqv, D.eqvs, partD, sliD, okK, D.akey, itemsL, seqD, it_rng, Tsk.d, de_ok htp, h1, h1N, hcutw, hcall, hpow, val]
      simp [forL]
    | some m =>
      rw [hL] at hcall
      have hm := L_le hok hL
      rw [List.length_drop] at hm
      have hlt : (cut : Int) + m < 1000000 := by omega
      have hltN : cut + m < 1000000 := by omega
      refine ⟨.fz (.int a), .fz (.int cut), .fz (.int w.length), .fz (.int (cut + m : Nat)), ?_⟩
      unfold wordD
      simp -implicitDefEqProofs [ir__law_done_t3, ir__law_done_b3, evt_e, put, D.ty, Met.tys, Met.calm, D.isBl, D.isT, D.isL, D.plain, D.plains, D.eqv, D.eqvs, partD, sliD, okK, D.akey, itemsL, seqD, it_rng, Tsk.d, de_ok htp, h1, h1N, hcutw, hcall, hpow, val, hlt, hltN]
  | cons e rest ihc =>
    intro a cut x5 x7 x8 x9 hdrop hcut hcs
    have hoc := unlL_occs (L t) c (w.drop cut) [] cut
    rw [← hcs] at hoc
    simp only [List.nil_append, List.length_nil, Nat.zero_add] at hoc
    obtain ⟨i, he, hi, hun, hrest⟩ := hoc
    rw [List.length_drop] at hi
    rw [List.drop_drop] at hun hrest
    rw [show cut + (i + 1) = e by omega] at hun hrest
    have hdrop2 : all.drop (a + 1) = e :: rest := by
      rw [← List.drop_drop, hdrop]; rfl
    have hlen : a + 1 < all.length := by
      have := congrArg List.length hdrop2
      rw [List.length_drop, List.length_cons] at this
      omega
    have hget : all[a + 1]? = some e := by
      have : (all.drop (a + 1))[0]? = some e := by rw [hdrop2]; rfl
      rw [List.getElem?_drop] at this
      simpa using this
    have hat : atD (all.map fun (n : Nat) => D.int n) ((a : Int) + 1) = some (.int e) := by
      have := atD_pos (all.map fun (n : Nat) => D.int n) (a + 1) (by rw [List.length_map]; exact hlen)
      rw [show ((a + 1 : Nat) : Int) = (a : Int) + 1 from rfl] at this
      rw [this, List.getElem?_map, hget]; rfl
    have hcall := ih (w.take (cut + i)) cut (by rw [List.length_take]; omega) (by rw [List.length_take]; omega)
    rw [List.drop_take, Nat.add_sub_cancel_left] at hcall
    have hcutw : cutL (w.map D.str) none (some ((e : Int) - 1)) = (w.map D.str).take (cut + i) := by
      rw [show (e : Int) - 1 = ((cut + i : Nat) : Int) by omega, cut_take]
    have hpow : binD .Pow (.int 10) (.int 6) = some (.int 1000000, false) := by rw [b_pow (by omega) (by omega) (by decide)]; rfl
    have h1 : ((a : Int) + 1 < all.length) := by omega
    have htp := d_top t
    unfold wordD at hcall
    rw [List.map_take] at hcall
    rw [List.map_cons, List.zipIdx_cons, List.map_cons, forL_cons]
    cases hL : L t ((w.drop cut).take i) with
    | none =>
      rw [hL] at hcall
      rw [hun, hL]
      obtain ⟨y5, y7, y8, y9, hr⟩ := ihc (a + 1) e (.fz (.int a)) (.fz (.int cut)) (.fz (.int ((e : Int) - 1))) (.fz (.int 1000000)) hdrop2 (by omega) hrest
      refine ⟨y5, y7, y8, y9, ?_⟩
      have hbody : ((tset (G.at k) ir__law_done_t3 (D.tup [D.int ((D.int (cut : Nat), a).2 : Nat), (D.int (cut : Nat), a).1]) false ⟨[.fz (Tsk.unl c t).d, .fz (wordD w), .fz (.int b), x3, x4, x5, .fz (.lst (all.map fun (n : Nat) => D.int n)), x7, x8, x9, x10], st⟩).bind fun _ s => exs (G.at k) ir__law_done_b3 s) =
          .ok .nx ⟨[.fz (Tsk.unl c t).d, .fz (wordD w), .fz (.int b), x3, x4, .fz (.int a), .fz (.lst (all.map fun (n : Nat) => D.int n)), .fz (.int cut), .fz (.int ((e : Int) - 1)), .fz (.int 1000000), x10], st⟩ := by
        unfold wordD
        simp -implicitDefEqProofs [ir__law_done_t3, ir__law_done_b3, evt_e, put, D.ty, Met.tys, Met.calm, D.isBl, D.isT, D.isL, D.plain, D.plains, D.eqv, D.eqvs, partD, sliD, okK, D.akey, itemsL, seqD, it_rng, Tsk.d, de_ok htp, h1, hlen, hat, hcutw, hcall, hpow, val]
      rw [hbody]
      simp only [rb_ok, locked_nil, if_true]
      rw [hr]
      cases unlL (L t) c [] (w.drop e) with
      | none => rfl
      | some m =>
        simp only [Option.map_some]
        rw [show cut + (m + (i + 1)) = e + m by omega]
    | some m =>
      rw [hL] at hcall
      rw [hun, hL]
      have hm := L_le hok hL
      rw [List.length_take, List.length_drop] at hm
      have hlt : (cut : Int) + m < 1000000 := by omega
      have hltN : cut + m < 1000000 := by omega
      refine ⟨.fz (.int a), .fz (.int cut), .fz (.int ((e : Int) - 1)), .fz (.int (cut + m : Nat)), ?_⟩
      unfold wordD
      simp -implicitDefEqProofs [ir__law_done_t3, ir__law_done_b3, evt_e, put, D.ty, Met.tys, Met.calm, D.isBl, D.isT, D.isL, D.plain, D.plains, D.eqv, D.eqvs, partD, sliD, okK, D.akey, itemsL, seqD, it_rng, Tsk.d, de_ok htp, h1, hlen, hat, hcutw, hcall, hpow, val, hlt, hltN]
omit H in
theorem p106 : binD .Pow (.int 10) (.int 6) = some (.int 1000000, false) := by rw [b_pow (by omega) (by omega) (by decide)]; rfl
theorem law_unl (k : Nat) (c : Call) (t : Tsk) (hok : t.ok = true) (w : List Call) (hw : w.length ≤ 100) (b : Nat) (hb : b ≤ w.length) (st : List Ob)
    (ih : ∀ (w' : List Call) (b : Nat), w'.length ≤ 100 → b ≤ w'.length → (G.at k).call "_law_done" [t.d, wordD w', .int b] st = .ok (.int (val b (L t (w'.drop b)))) false st) :
    (G.at (k + 1)).call "_law_done" [(Tsk.unl c t).d, wordD w, .int b] st = .ok (.int (val b (L (.unl c t) (w.drop b)))) false st := by
  rw [pg_run G _ _ _ _ H.ldone rfl]
  obtain ⟨x5, he⟩ := occs_comp (G := G) k [5] ir__law_done_t2 ir__law_done_i2 ir__law_done_e2 rfl rfl rfl rfl kUnless c [t.d] w hw b hb (.fz (.int b)) (.fz (.str kUnless)) .emp .emp .emp .emp .emp .emp st
  have hr1 : 0 ≤ (b : Int) ∧ (b : Int) < 1000000 := by omega
  have hr2 : 0 ≤ (w.length : Int) ∧ (w.length : Int) < 1000000 := by omega
  have hsub : ((w.length : Int) - b).toNat = w.length - b := by omega
  have hol := occs_len c (w.drop b) b
  rw [List.length_drop] at hol
  obtain ⟨y5, y7, y8, y9, hl⟩ := unl_loop H k c t hok w hw (b :: occs c b (w.drop b)) (by rw [List.length_cons]; omega) b st ih (.fz (.str kUnless)) .emp .emp .emp (occs c b (w.drop b)) 0 b .emp .emp .emp .emp rfl hb rfl
  have hz : 1 + (occs c b (w.drop b)).length ≤ SL := by unfold SL; omega
  have hz2 : (occs c b (w.drop b)).length + 1 ≤ SL := by unfold SL; omega
  rw [Tsk.d] at hl
  simp only [List.map_cons, List.zipIdx_cons, Nat.zero_add, show ((0 : Nat) : Int) = 0 from rfl] at hl
  unfold wordD kUnless at he hl
  have hL : L (.unl c t) (w.drop b) = unlL (L t) c [] (w.drop b) := rfl
  rw [hL]
  generalize occs c b (w.drop b) = O at he hl hz hz2 hol
  cases hu : unlL (L t) c [] (w.drop b) with
  | none =>
    rw [hu] at hl
    simp -implicitDefEqProofs [ir__law_done, evt_e, put, D.ty, Met.tys, Met.calm, D.isBl, D.isT, D.isL, D.plain, D.plains, D.eqv, D.eqvs, partD, sliD, okK, D.akey, itemsL, seqD, it_rng, Tsk.d, kUnless, wordD, rng_two hr1 hr2, hsub, calmOwn, he, backL, binD, hz, hz2, hl, p106, val]
  | some m =>
    rw [hu] at hl
    simp -implicitDefEqProofs [ir__law_done, evt_e, put, D.ty, Met.tys, Met.calm, D.isBl, D.isT, D.isL, D.plain, D.plains, D.eqv, D.eqvs, partD, sliD, okK, D.akey, itemsL, seqD, it_rng, Tsk.d, kUnless, wordD, rng_two hr1 hr2, hsub, calmOwn, he, backL, binD, hz, hz2, hl, p106, val]
omit H in
theorem ints_map {α : Type} (f : α → Int) : ∀ l : List α, intsD (l.map fun a => D.int (f a)) = some (l.map f)
  | [] => rfl
  | a :: r => by rw [List.map_cons, intsD, ints_map f r]; rfl
omit H in
theorem max_val (b : Nat) : ∀ (l : List (Option Nat)), l ≠ [] → (∀ o ∈ l, ∀ m, o = some m → b + m < 1000000) → maxI (l.map fun o => (val b o : Int)) = val b (maxO l)
  | [], h, _ => absurd rfl h
  | [none], _, _ => rfl
  | [some a], _, _ => by simp [maxI, maxO, val]
  | o :: p :: r, _, h => by
    have ih := max_val b (p :: r) (by simp) fun x hx => h x (List.mem_cons_of_mem _ hx)
    rw [List.map_cons, List.map_cons, maxI, ← List.map_cons (f := fun o => (val b o : Int)), ih]
    · have hbound : ∀ m, maxO (p :: r) = some m → b + m < 1000000 := by
        intro m hm
        have := max_val_lt b (p :: r) (by simp) (fun x hx => h x (List.mem_cons_of_mem _ hx)) m hm
        exact this
      cases o with
      | none =>
        cases hm : maxO (p :: r) with
        | none => rfl
        | some m => have := hbound m hm; simp only [val, maxO]; omega
      | some a =>
        have ha := h (some a) (by simp) a rfl
        rw [maxO_cons]
        cases hm : maxO (p :: r) with
        | none => simp only [val, Option.map_none]; omega
        | some m => have := hbound m hm; simp only [val, Option.map_some]; omega
    · simp
where
  max_val_lt (b : Nat) : ∀ (l : List (Option Nat)), l ≠ [] → (∀ o ∈ l, ∀ m, o = some m → b + m < 1000000) → ∀ m, maxO l = some m → b + m < 1000000
    | [], h, _, _, _ => absurd rfl h
    | none :: r, _, _, m, hm => by cases hm
    | [some a], _, h, m, hm => by
      simp only [maxO, Option.map_some, Option.some.injEq] at hm
      have := h (some a) (by simp) a rfl
      omega
    | some a :: p :: r, _, h, m, hm => by
      rw [maxO_cons] at hm
      obtain ⟨x, h1, rfl⟩ := Option.map_eq_some_iff.mp hm
      have := max_val_lt b (p :: r) (by simp) (fun x hx => h x (List.mem_cons_of_mem _ hx)) x h1
      have := h (some a) (by simp) a rfl
      omega
omit H in
theorem min_val (b : Nat) : ∀ (l : List (Option Nat)), l ≠ [] → (∀ o ∈ l, ∀ m, o = some m → b + m < 1000000) → minI (l.map fun o => (val b o : Int)) = val b (minO l)
  | [], h, _ => absurd rfl h
  | [none], _, _ => rfl
  | [some a], _, _ => rfl
  | o :: p :: r, _, h => by
    have ih := min_val b (p :: r) (by simp) fun x hx => h x (List.mem_cons_of_mem _ hx)
    rw [List.map_cons, List.map_cons, minI, ← List.map_cons (f := fun o => (val b o : Int)), ih]
    · have hbound : ∀ m, minO (p :: r) = some m → b + m < 1000000 := by
        intro m hm
        obtain ⟨o, ho, hom⟩ := minO_mem (p :: r) m hm
        exact h o (List.mem_cons_of_mem _ ho) m hom
      cases o with
      | none =>
        rw [minO]
        cases hm : minO (p :: r) with
        | none => rfl
        | some m => have := hbound m hm; simp only [val]; omega
      | some a =>
        have ha := h (some a) (by simp) a rfl
        rw [minO]
        cases hm : minO (p :: r) with
        | none => simp only [val]; omega
        | some m => have := hbound m hm; simp only [val]; omega
    · simp
where
  minO_mem : ∀ (l : List (Option Nat)) (m : Nat), minO l = some m → ∃ o ∈ l, o = some m
    | [], m, h => by cases h
    | none :: r, m, h => by
      obtain ⟨o, ho, e⟩ := minO_mem r m h
      exact ⟨o, List.mem_cons_of_mem _ ho, e⟩
    | some a :: r, m, h => by
      rw [minO] at h
      cases hr : minO r with
      | none => rw [hr] at h; exact ⟨some a, by simp, h⟩
      | some c =>
        rw [hr] at h
        simp only [Option.some.injEq] at h
        obtain ⟨o, ho, e⟩ := minO_mem r c hr
        by_cases hac : a ≤ c
        · exact ⟨some a, by simp, by congr 1; omega⟩
        · exact ⟨o, List.mem_cons_of_mem _ ho, by rw [e]; congr 1; omega⟩
omit H in
theorem law_kinds (s : List Nat) : memD (.str s) [.str [97, 108, 108], .str [97, 110, 121]] = some (([[97, 108, 108], [97, 110, 121]] : List (List Nat)).contains s) := two_kinds s
theorem law_parts (k : Nat) (s : List Nat) (fin : Bool) (hs : s = if fin then [97, 108, 108] else [97, 110, 121]) (ps : List Tsk) (hne : ps ≠ []) (hl6 : ps.length ≤ 6) (hok : oks ps = true) (w : List Call) (hw : w.length ≤ 100) (b : Nat) (hb : b ≤ w.length) (st : List Ob)
    (ih : ∀ p ∈ ps, (G.at k).call "_law_done" [p.d, wordD w, .int b] st = .ok (.int (val b (L p (w.drop b)))) false st) :
    (G.at (k + 1)).call "_law_done" [.tup [.str s, .tup (ds ps)], wordD w, .int b] st = .ok (.int (val b (if fin then maxO ((Lfs ps).map fun f => f (w.drop b)) else minO ((Lfs ps).map fun f => f (w.drop b))))) false st := by
  rw [pg_run G _ _ _ _ H.ldone rfl]
  have hm := law_kinds s
  have hc : (([[97, 108, 108], [97, 110, 121]] : List (List Nat)).contains s) = true := by cases fin <;> (subst hs; decide)
  rw [hc] at hm
  have e : (s == [100, 111]) = false := by cases fin <;> (subst hs; decide)
  have e2 : (s == [117, 110, 108, 101, 115, 115]) = false := by cases fin <;> (subst hs; decide)
  have e3 : (s == [97, 108, 108]) = fin := by cases fin <;> (subst hs; decide)
  have hcomp := compL_ok (own := [10]) (tg := fun d s => tset (G.at k) ir__law_done_t4 d false s) (test := fun s => .ok true s)
    (elt := fun acc s => (ev (G.at k) ir__law_done_e4 s).bind fun v s => (keep v s).bind fun d s => if acc.length < SL then .ok (acc ++ [d]) s else .stuck) (lk := [])
    (fun r acc s' => (∃ x, s' = ⟨[.fz (.tup [.str s, .tup (ds ps)]), .fz (wordD w), .fz (.int b), .fz (.str s), .emp, .emp, .emp, .emp, .emp, .emp, x], st⟩) ∧ ∃ pre post, ps = pre ++ post ∧ r = ds post ∧ acc = pre.map fun p => D.int (val b (L p (w.drop b))))
    (fun d r acc s' ⟨⟨x, hs'⟩, pre, post, hps, hrr, hacc⟩ => by
      subst hs'
      match post, hrr with
      | p :: post, hrr =>
        rw [ds, List.cons.injEq] at hrr
        obtain ⟨hd1, hr2⟩ := hrr
        subst hd1
        have hp := ih p (by rw [hps]; simp)
        have htp := d_top p
        have hz : acc.length < SL := by
          rw [hacc, List.length_map]
          have := congrArg List.length hps
          rw [List.length_append] at this
          unfold SL; omega
        refine ⟨acc ++ [.int (val b (L p (w.drop b)))], ⟨[.fz (.tup [.str s, .tup (ds ps)]), .fz (wordD w), .fz (.int b), .fz (.str s), .emp, .emp, .emp, .emp, .emp, .emp, .fz p.d], st⟩, ?_, ⟨⟨_, rfl⟩, pre ++ [p], post, by rw [hps]; simp, hr2, by rw [hacc]; simp⟩, rfl⟩
        unfold wordD at hp ⊢
        simp -implicitDefEqProofs [turnL, wipeL, ir__law_done_t4, ir__law_done_e4, evt_e, put, D.ty, Met.tys, Met.calm, D.isBl, D.isT, D.isL, D.plain, D.plains, D.eqv, D.eqvs, partD, sliD, okK, D.akey, itemsL, seqD, it_rng, hp, hz, de_ok htp]
      | [], hrr => rw [ds] at hrr; cases hrr)
    (ds ps) [] ⟨[.fz (.tup [.str s, .tup (ds ps)]), .fz (wordD w), .fz (.int b), .fz (.str s), .emp, .emp, .emp, .emp, .emp, .emp, .emp], st⟩ ⟨⟨_, rfl⟩, [], ps, rfl, rfl, rfl⟩
  obtain ⟨acc, s', he, ⟨x, rfl⟩, pre, post, hps, hrr, rfl⟩ := hcomp
  have hpost : post = [] := by cases post with | nil => rfl | cons a b => rw [ds] at hrr; cases hrr
  subst hpost
  rw [List.append_nil] at hps
  subst hps
  have hvals : ps.map (fun p => D.int (val b (L p (w.drop b)))) = (ps.map fun p => L p (w.drop b)).map fun o => D.int ((val b o : Nat) : Int) := by rw [List.map_map]; rfl
  have hfs : (Lfs ps).map (fun f => f (w.drop b)) = ps.map fun p => L p (w.drop b) := by rw [Lfs_map, List.map_map]; rfl
  have hbound : ∀ o ∈ ps.map (fun p => L p (w.drop b)), ∀ m, o = some m → b + m < 1000000 := by
    intro o ho m hom
    obtain ⟨p, hp, rfl⟩ := List.mem_map.mp ho
    have := L_le ((oks_iff ps).mp hok p hp) hom
    rw [List.length_drop] at this
    omega
  have hne2 : ps.map (fun p => L p (w.drop b)) ≠ [] := by simpa using hne
  have hmax := max_val b _ hne2 hbound
  have hmin := min_val b _ hne2 hbound
  have hints := ints_map (fun o => ((val b o : Nat) : Int)) (ps.map fun p => L p (w.drop b))
  rw [hfs]
  rw [hvals] at he
  generalize ps.map (fun p => L p (w.drop b)) = Os at he hmax hmin hints hne2
  match Os, hne2 with
  | o :: Os, _ =>
    rw [List.map_cons] at he hints hmax hmin
    unfold wordD at he ⊢
    cases fin with
    | true => simp -implicitDefEqProofs [ir__law_done, evt_e, put, D.ty, Met.tys, Met.calm, D.isBl, D.isT, D.isL, D.plain, D.plains, D.eqv, D.eqvs, partD, sliD, okK, D.akey, itemsL, seqD, it_rng, e, e2, e3, hm, calmOwn, he, backL, hints, hmax]
    | false => simp -implicitDefEqProofs [ir__law_done, evt_e, put, D.ty, Met.tys, Met.calm, D.isBl, D.isT, D.isL, D.plain, D.plains, D.eqv, D.eqvs, partD, sliD, okK, D.akey, itemsL, seqD, it_rng, e, e2, e3, hm, calmOwn, he, backL, hints, hmin]
omit H in
theorem outV_val (b : Nat) (o : Option Nat) : outV (o.map (b + ·)) = .int (val b o : Nat) := by cases o <;> rfl
omit H in
theorem row_loop (k : Nat) (x0 x3 : D) (w : List Call) (hw : w.length ≤ 100) (st : List Ob) (x4 x5 x6 x7 x8 x9 : Slot) : ∀ (ps : List Tsk) (ok : oks ps = true) (o : Option Nat) (x10 : Slot), (∀ b, o = some b → b ≤ w.length) →
    (∀ p ∈ ps, ∀ b, b ≤ w.length → (G.at k).call "_law_done" [p.d, wordD w, .int b] st = .ok (.int (val b (L p (w.drop b)))) false st) →
    ∃ y10, forL (fun d s => tset (G.at k) ir__law_done_t5 d false s) (fun s => exs (G.at k) ir__law_done_b5 s) [] (ds ps) ⟨[.fz x0, .fz (wordD w), .fz (outV o), .fz x3, x4, x5, x6, x7, x8, x9, x10], st⟩ =
      .ok .nx ⟨[.fz x0, .fz (wordD w), .fz (outV (o.bind fun b => (seqL (Lfs ps) (w.drop b)).map (b + ·))), .fz x3, x4, x5, x6, x7, x8, x9, y10], st⟩
  | [], ok, o, x10, hb, ih => by
    refine ⟨x10, ?_⟩
    rw [ds, forL, Lfs]
    cases o with
    | none => rfl
    | some b => rfl
  | p :: ps, ok, o, x10, hb, ih => by
    rw [oks, Bool.and_eq_true] at ok
    have htp := d_top p
    rw [ds, forL_cons, Lfs]
    cases o with
    | none =>
      obtain ⟨y10, h⟩ := row_loop k x0 x3 w hw st x4 x5 x6 x7 x8 x9 ps ok.2 none (.fz p.d) (fun b h => by cases h) fun q hq => ih q (List.mem_cons_of_mem _ hq)
      refine ⟨y10, ?_⟩
      have hbody : ((tset (G.at k) ir__law_done_t5 p.d false ⟨[.fz x0, .fz (wordD w), .fz (outV none), .fz x3, x4, x5, x6, x7, x8, x9, x10], st⟩).bind fun _ s => exs (G.at k) ir__law_done_b5 s) =
          .ok .nx ⟨[.fz x0, .fz (wordD w), .fz (outV none), .fz x3, x4, x5, x6, x7, x8, x9, .fz p.d], st⟩ := by
        simp -implicitDefEqProofs [ir__law_done_t5, ir__law_done_b5, evt_e, put, D.ty, Met.tys, Met.calm, D.isBl, D.isT, D.isL, D.plain, D.plains, D.eqv, D.eqvs, partD, sliD, okK, D.akey, itemsL, seqD, it_rng, p106, outV]
      rw [hbody]
      simp only [rb_ok, locked_nil, if_true]
      rw [h]
      rfl
    | some b =>
      have hbw := hb b rfl
      have hp := ih p (by simp) b hbw
      have hlt : (b : Int) < 1000000 := by omega
      have hltN : b < 1000000 := by omega
      have hbody : ((tset (G.at k) ir__law_done_t5 p.d false ⟨[.fz x0, .fz (wordD w), .fz (outV (some b)), .fz x3, x4, x5, x6, x7, x8, x9, x10], st⟩).bind fun _ s => exs (G.at k) ir__law_done_b5 s) =
          .ok .nx ⟨[.fz x0, .fz (wordD w), .fz (outV ((L p (w.drop b)).map (b + ·))), .fz x3, x4, x5, x6, x7, x8, x9, .fz p.d], st⟩ := by
        unfold wordD at hp ⊢
        rw [outV_val b] 
        simp -implicitDefEqProofs [ir__law_done_t5, ir__law_done_b5, evt_e, put, D.ty, Met.tys, Met.calm, D.isBl, D.isT, D.isL, D.plain, D.plains, D.eqv, D.eqvs, partD, sliD, okK, D.akey, itemsL, seqD, it_rng, p106, hlt, hltN, hp, de_ok htp, show outV (some b) = .int b from rfl]
      rw [hbody]
      simp only [rb_ok, locked_nil, if_true]
      cases hL : L p (w.drop b) with
      | none =>
        obtain ⟨y10, h⟩ := row_loop k x0 x3 w hw st x4 x5 x6 x7 x8 x9 ps ok.2 none (.fz p.d) (fun b h => by cases h) fun q hq => ih q (List.mem_cons_of_mem _ hq)
        refine ⟨y10, ?_⟩
        have e : (some b : Option Nat).bind (fun b => (seqL (L p :: Lfs ps) (w.drop b)).map (b + ·)) = none := by simp [seqL, hL]
        rw [e]
        exact h
      | some m =>
        have hm := L_le ok.1 hL
        rw [List.length_drop] at hm
        obtain ⟨y10, h⟩ := row_loop k x0 x3 w hw st x4 x5 x6 x7 x8 x9 ps ok.2 (some (b + m)) (.fz p.d) (fun c h => by cases h; omega) fun q hq => ih q (List.mem_cons_of_mem _ hq)
        refine ⟨y10, ?_⟩
        have e : (some b : Option Nat).bind (fun b => (seqL (L p :: Lfs ps) (w.drop b)).map (b + ·)) = (some (b + m)).bind fun b => (seqL (Lfs ps) (w.drop b)).map (b + ·) := by
          rw [Option.bind_some, Option.bind_some, seqL, hL]
          simp only
          rw [List.drop_drop]
          cases seqL (Lfs ps) (w.drop (b + m)) with
          | none => rfl
          | some x =>
            simp only [Option.map_some, Option.some.injEq]
            omega
        rw [e]
        exact h
theorem law_row (k : Nat) (ps : List Tsk) (hok : oks ps = true) (w : List Call) (hw : w.length ≤ 100) (b : Nat) (hb : b ≤ w.length) (st : List Ob)
    (ih : ∀ p ∈ ps, ∀ b, b ≤ w.length → (G.at k).call "_law_done" [p.d, wordD w, .int b] st = .ok (.int (val b (L p (w.drop b)))) false st) :
    (G.at (k + 1)).call "_law_done" [.tup [.str [114, 111, 119], .tup (ds ps)], wordD w, .int b] st = .ok (.int (val b (seqL (Lfs ps) (w.drop b)))) false st := by
  rw [pg_run G _ _ _ _ H.ldone rfl]
  have hm := law_kinds [114, 111, 119]
  rw [show (([[97, 108, 108], [97, 110, 121]] : List (List Nat)).contains [114, 111, 119]) = false by decide] at hm
  obtain ⟨y10, h⟩ := row_loop k (.tup [.str [114, 111, 119], .tup (ds ps)]) (.str [114, 111, 119]) w hw st .emp .emp .emp .emp .emp .emp ps hok (some b) .emp (fun c h => by cases h; exact hb) ih
  rw [Option.bind_some, outV_val, show outV (some b) = .int b from rfl] at h
  unfold wordD at h ⊢
  simp -implicitDefEqProofs [ir__law_done, evt_e, put, D.ty, Met.tys, Met.calm, D.isBl, D.isT, D.isL, D.plain, D.plains, D.eqv, D.eqvs, partD, sliD, okK, D.akey, itemsL, seqD, it_rng, hm, h]
theorem law_times (k : Nat) (n : Nat) (t : Tsk) (hn5 : n ≤ 5) (hok : t.ok = true) (w : List Call) (hw : w.length ≤ 100) (b : Nat) (hb : b ≤ w.length) (st : List Ob)
    (ih : ∀ b, b ≤ w.length → (G.at k).call "_law_done" [t.d, wordD w, .int b] st = .ok (.int (val b (L t (w.drop b)))) false st) :
    (G.at (k + 1)).call "_law_done" [.tup [.str kTimes, .int n, t.d], wordD w, .int b] st = .ok (.int (val b (seqL (List.replicate n (L t)) (w.drop b)))) false st := by
  rw [pg_run G _ _ _ _ H.ldone rfl]
  have hm := law_kinds kTimes
  rw [show (([[97, 108, 108], [97, 110, 121]] : List (List Nat)).contains kTimes) = false by decide] at hm
  have hmem : ∀ p ∈ List.replicate n t, p = t := fun p hp => List.eq_of_mem_replicate hp
  obtain ⟨y10, h⟩ := row_loop k (.tup [.str kTimes, .int n, t.d]) (.str kTimes) w hw st .emp .emp .emp .emp .emp .emp (List.replicate n t) ((oks_iff _).mpr fun p hp => by rw [hmem p hp]; exact hok) (some b) .emp (fun c h => by cases h; exact hb) fun p hp => by rw [hmem p hp]; exact ih
  have hf : Lfs (List.replicate n t) = List.replicate n (L t) := by rw [Lfs_map, List.map_replicate]
  have hd : ds (List.replicate n t) = List.replicate n t.d := by rw [ds_map, List.map_replicate]
  rw [hf, hd] at h
  rw [Option.bind_some, outV_val, show outV (some b) = .int b from rfl] at h
  have hmul : binD .Mult (.lst [t.d]) (.int n) = some (.lst (List.replicate n t.d), true) := by
    show (if [t.d].length * (n : Int).toNat ≤ SL ∧ (n : Int).natAbs < 2 ^ 62 then some (D.lst (List.replicate (n : Int).toNat [t.d]).flatten, true) else none) = _
    rw [if_pos ⟨by simp [SL]; omega, by rw [Int.natAbs_natCast]; omega⟩, Int.toNat_natCast, rep_one]
  have htp := d_top t
  unfold kTimes at hm h ⊢
  unfold wordD at h ⊢
  simp -implicitDefEqProofs [ir__law_done, evt_e, put, D.ty, Met.tys, Met.calm, D.isBl, D.isT, D.isL, D.plain, D.plains, D.eqv, D.eqvs, partD, sliD, okK, D.akey, itemsL, seqD, it_rng, hm, hmul, h, de_ok htp]
theorem law_at : ∀ (n : Nat) (t : Tsk), dp t ≤ n → t.ok = true → ∀ (k : Nat) (w : List Call) (b : Nat) (st : List Ob), w.length ≤ 100 → b ≤ w.length → (G.at (n + k)).call "_law_done" [t.d, wordD w, .int b] st = .ok (.int (val b (L t (w.drop b)))) false st := by
  intro n
  induction n with
  | zero => intro t h; cases t <;> simp [dp] at h
  | succ n ih =>
    intro t hd hok k w b st hw hb
    rw [show n + 1 + k = (n + k) + 1 by omega]
    match t with
    | .one c => exact law_one H (n + k) c w hw b hb st
    | .all ps =>
      rw [Tsk.ok, Bool.and_eq_true, Bool.and_eq_true, decide_eq_true_eq, Bool.not_eq_true'] at hok
      rw [dp] at hd
      exact law_parts H (n + k) _ true rfl ps (by intro e; rw [e] at hok; exact absurd hok.1.1 (by simp)) hok.1.2 hok.2 w hw b hb st fun p hp => ih p (by have := dps_le ps p hp; omega) ((oks_iff ps).mp hok.2 p hp) k w b st hw hb
    | .any ps =>
      rw [Tsk.ok, Bool.and_eq_true, Bool.and_eq_true, decide_eq_true_eq, Bool.not_eq_true'] at hok
      rw [dp] at hd
      exact law_parts H (n + k) _ false rfl ps (by intro e; rw [e] at hok; exact absurd hok.1.1 (by simp)) hok.1.2 hok.2 w hw b hb st fun p hp => ih p (by have := dps_le ps p hp; omega) ((oks_iff ps).mp hok.2 p hp) k w b st hw hb
    | .row ps =>
      rw [Tsk.ok, Bool.and_eq_true] at hok
      rw [dp] at hd
      exact law_row H (n + k) ps hok.2 w hw b hb st fun p hp b hb => ih p (by have := dps_le ps p hp; omega) ((oks_iff ps).mp hok.2 p hp) k w b st hw hb
    | .times m t =>
      rw [Tsk.ok, Bool.and_eq_true, decide_eq_true_eq] at hok
      rw [dp] at hd
      exact law_times H (n + k) m t hok.1.2 hok.2 w hw b hb st fun b hb => ih t (by omega) hok.2 k w b st hw hb
    | .unl c t =>
      rw [Tsk.ok] at hok
      rw [dp] at hd
      exact law_unl H (n + k) c t hok w hw b hb st fun w b hw hb => ih t (by omega) hok k w b st hw hb
end
end Lw
end
section
set_option linter.all false
set_option maxRecDepth 10000
set_option maxHeartbeats 4000000
/-! LawTask3: the names in tasks, by the program and by the law. -/
namespace Lw
open PySem PyE Tk
structure NamesInG (G : Pg) : Prop extends LawTaskG G where
  names_in : G.defs "names_in" = some ir_names_in
  calls_of : G.defs "calls_of" = some ir_calls_of
  ascending : G.defs "ascending" = some ir_ascending
  tnames : G.defs "_law_task_names" = some ir__law_task_names
theorem strsD_map : ∀ l : List (List Nat), strsD (l.map .str) = some l
  | [] => rfl
  | a :: r => by rw [List.map_cons, strsD, strsD_map r]; rfl
theorem sorted_set {l : List (List Nat)} (h : l.length < 4000) : bifD .sortedSet [.lst (l.map .str)] = some (.lst ((sortSet l).map .str), true) := by
  rw [bifD, List.length_map, if_pos h, strsD_map]; rfl
section
variable {G : Pg} (H : NamesInG G)
include H
theorem ascending_run (k : Nat) (l : List (List Nat)) (st : List Ob) (h : l.length < 4000) : (G.at (k + 1)).call "ascending" [.lst (l.map .str)] st = .ok (.tup ((sortSet l).map .str)) false st := by
  rw [pg_run G _ _ _ _ H.ascending rfl]
  have e := sorted_set h
  simp -implicitDefEqProofs [ir_ascending, evt_e, put, D.ty, Met.tys, Met.calm, D.isBl, D.isT, D.isL, D.plain, D.plains, D.eqv, D.eqvs, partD, sliD, okK, D.akey, itemsL, seqD, it_rng, e]
theorem names_joint (k : Nat) (s : List Nat) (ps : List D) (st : List Ob) (hs : s ≠ kDo) (hj : joints.contains s = true) (f : D → List (List Nat)) (hl : (ps.flatMap f).length ≤ 1000)
    (hr : ∀ p ∈ ps, (G.at k).call "names_in" [p] st = .ok (.lst ((f p).map .str)) true st) :
    (G.at (k + 1)).call "names_in" [.tup [.str s, .tup ps]] st = .ok (.lst ((ps.flatMap f).map .str)) true st := by
  rw [pg_run G _ _ _ _ H.names_in rfl]
  have e : (s == [100, 111]) = false := beq_eq_false_iff_ne.mpr hs
  have e' : ¬ s = [100, 111] := hs
  have hm := mem_joints s
  rw [hj] at hm
  have hcomp := compL_ok (own := [1, 2]) (tg := fun d s => tset (G.at k) ir_names_in_t1 d false s) (test := fun s => .ok true s)
    (elt := fun acc s => (evIt (G.at k) ir_names_in_w1 s).bind fun w2 s => if locked w2.2 s then compL [2] (fun d s => tset (G.at k) ir_names_in_u1 d false s) (fun s => evIfs (G.at k) ir_names_in_j1 s)
          (fun acc s => (ev (G.at k) ir_names_in_e1 s).bind fun v s => (keep v s).bind fun d s => if acc.length < SL then .ok (acc ++ [d]) s else .stuck) w2.2 w2.1 acc s else .stuck) (lk := [])
    (fun r acc s' => (∃ x y, s' = ⟨[.fz (.tup [.str s, .tup ps]), x, y], st⟩) ∧ ∃ pre, ps = pre ++ r ∧ acc = (pre.flatMap f).map .str)
    (fun d r acc s' ⟨⟨x, y, hs'⟩, pre, hps, hacc⟩ => by
      subst hs'
      have hd : d ∈ ps := by rw [hps]; simp
      have hrd := hr d hd
      have htot : (pre.flatMap f).length + (f d).length ≤ 1000 := by
        rw [hps] at hl; simp [List.flatMap_append] at hl ⊢; omega
      have hin := compL_fm (own := [2]) (tg := fun d s => tset (G.at k) ir_names_in_u1 d false s) (test := fun s => evIfs (G.at k) ir_names_in_j1 s)
        (elt := fun acc s => (ev (G.at k) ir_names_in_e1 s).bind fun v s => (keep v s).bind fun d s => if acc.length < SL then .ok (acc ++ [d]) s else .stuck) (lk := [])
        (fun s' => ∃ y, s' = ⟨[.fz (.tup [.str s, .tup ps]), .fz d, y], st⟩) (fun _ => true) id ((f d).map .str)
        (fun a ha acc s' ⟨y, hs'⟩ hacc => by
          subst hs'
          refine ⟨⟨[.fz (.tup [.str s, .tup ps]), .fz d, .fz a], st⟩, ?_, ⟨_, rfl⟩, rfl⟩
          simp -implicitDefEqProofs [turnL, wipeL, ir_names_in_u1, ir_names_in_j1, ir_names_in_e1, evt_e, put, D.ty, Met.tys, Met.calm, D.isBl, D.isT, D.isL, D.plain, D.plains, D.eqv, D.eqvs, partD, sliD, okK, D.akey, itemsL, seqD, it_rng, hacc])
        ((f d).map .str) acc ⟨[.fz (.tup [.str s, .tup ps]), .fz d, .emp], st⟩ (fun d hd => hd) ⟨_, rfl⟩ (by rw [hacc, List.length_map, List.length_map]; unfold SL; omega)
      obtain ⟨s2, he, y2, rfl⟩ := hin
      rw [filter_all, List.map_id] at he
      refine ⟨acc ++ (f d).map .str, ⟨[.fz (.tup [.str s, .tup ps]), .fz d, y2], st⟩, ?_, ⟨⟨_, _, rfl⟩, pre ++ [d], by rw [hps]; simp, by rw [hacc]; simp⟩, rfl⟩
      simp -implicitDefEqProofs [turnL, wipeL, ir_names_in_t1, ir_names_in_w1, evt_e, put, D.ty, Met.tys, Met.calm, D.isBl, D.isT, D.isL, D.plain, D.plains, D.eqv, D.eqvs, partD, sliD, okK, D.akey, itemsL, seqD, it_rng, hrd, he])
    ps [] ⟨[.fz (.tup [.str s, .tup ps]), .emp, .emp], st⟩ ⟨⟨_, _, rfl⟩, [], rfl, rfl⟩
  obtain ⟨acc, s', he, ⟨x, y, rfl⟩, pre, hps, rfl⟩ := hcomp
  have hpre : ps = pre := by simpa using hps
  subst hpre
  simp -implicitDefEqProofs [ir_names_in, evt_e, put, D.ty, Met.tys, Met.calm, D.isBl, D.isT, D.isL, D.plain, D.plains, D.eqv, D.eqvs, partD, sliD, okK, D.akey, itemsL, seqD, it_rng, e, e', hm, calmOwn, he, backL]
theorem names_run : ∀ (n k : Nat) (v : D) (tk : List (List Nat)) (st : List Ob), formed n v tk = true → okD v = true → (namesT n v).length ≤ 1000 →
    (G.at (n + k)).call "names_in" [v] st = .ok (.lst ((namesT n v).map .str)) true st := by
  intro n
  induction n with
  | zero => intro k v tk st h; cases h
  | succ n ih =>
    intro k v tk st h hok hl
    obtain ⟨m, e, h⟩ := formed_cases h
    cases e
    rw [show n + 1 + k = (n + k) + 1 by omega]
    rcases h with ⟨x, rfl, hx, _⟩ | ⟨s, ps, rfl, hk, hj, h2, h6, h⟩ | ⟨x, t, rfl, _, h⟩ | ⟨s, t, rfl, _, _, h⟩
    · rw [pg_run G _ _ _ _ H.names_in rfl]
      cases x with
      | str s => simp -implicitDefEqProofs [ir_names_in, evt_e, put, D.ty, Met.tys, Met.calm, D.isBl, D.isT, D.isL, D.plain, D.plains, D.eqv, D.eqvs, partD, sliD, okK, D.akey, itemsL, seqD, it_rng, namesT, kDo]
      | _ => cases hx
    · have hok2 : okDs ps = true := by simpa [okD, okDs] using hok
      simp only [namesT, hk, if_false] at hl ⊢
      refine names_joint H _ s ps st hk hj (namesT n) hl fun p hp => ih k p tk st (h p hp) (okDs_mem hok2 p hp) ?_
      refine Nat.le_trans ?_ hl
      obtain ⟨a, b, rfl⟩ := List.append_of_mem hp
      simp [List.flatMap_append]; omega
    · have hok2 : okD t = true := by simp [okD, okDs] at hok; exact hok.2
      have e : kTimes ≠ kUnless := by decide
      simp only [namesT, e, if_false, List.nil_append] at hl ⊢
      have hr := ih k t tk st h hok2 hl
      have hm := mem_joints kTimes
      rw [kt_j] at hm
      unfold kTimes at hm
      have hz : (namesT n t).length ≤ SL := by unfold SL; omega
      rw [pg_run G _ _ _ _ H.names_in rfl]
      simp -implicitDefEqProofs [ir_names_in, evt_e, put, D.ty, Met.tys, Met.calm, D.isBl, D.isT, D.isL, D.plain, D.plains, D.eqv, D.eqvs, partD, sliD, okK, D.akey, itemsL, seqD, it_rng, kTimes, hm, de_ok (okD_top hok2), hr, binD, hz]
    · have hok2 : okD t = true := by simp [okD, okDs] at hok; exact hok
      simp only [namesT, if_true, List.length_append, List.length_singleton] at hl ⊢
      have hr := ih k t _ st h hok2 (by omega)
      have hm := mem_joints kUnless
      rw [ku_j] at hm
      unfold kUnless at hm
      have hz : 1 + (namesT n t).length ≤ SL := by unfold SL; omega
      rw [pg_run G _ _ _ _ H.names_in rfl]
      simp -implicitDefEqProofs [ir_names_in, evt_e, put, D.ty, Met.tys, Met.calm, D.isBl, D.isT, D.isL, D.plain, D.plains, D.eqv, D.eqvs, partD, sliD, okK, D.akey, itemsL, seqD, it_rng, kUnless, hm, de_ok (okD_top hok2), hr, binD, hz]
theorem calls_run (k : Nat) (v : D) (tk : List (List Nat)) (n : Nat) (st : List Ob) (h : formed n v tk = true) (hok : okD v = true) (hl : (namesT n v).length ≤ 1000) :
    (G.at (n + 2 + k)).call "calls_of" [v] st = .ok (.tup ((sortSet (namesT n v)).map .str)) false st := by
  rw [show n + 2 + k = (n + 1 + k) + 1 by omega, pg_run G _ _ _ _ H.calls_of rfl]
  have h1 := names_run H n (1 + k) v tk st h hok hl
  rw [show n + (1 + k) = n + 1 + k by omega] at h1
  have h2 := ascending_run H (n + k) (namesT n v) st (by omega)
  rw [show n + k + 1 = n + 1 + k by omega] at h2
  simp -implicitDefEqProofs [ir_calls_of, evt_e, put, D.ty, Met.tys, Met.calm, D.isBl, D.isT, D.isL, D.plain, D.plains, D.eqv, D.eqvs, partD, sliD, okK, D.akey, itemsL, seqD, it_rng, h1, h2, de_ok (okD_top hok)]
theorem parts_do (k : Nat) (x : D) (st : List Ob) : (G.at (k + 1)).call "_law_parts" [.tup [.str kDo, x]] st = .ok (.lst []) true st := by
  rw [pg_run G _ _ _ _ H.parts rfl]
  have hm := lists_joints kDo
  have hm2 := lists_two kDo
  rw [show joints.contains kDo = false by decide] at hm
  rw [show ([kTimes, kUnless] : List (List Nat)).contains kDo = false by decide] at hm2
  unfold kDo at hm hm2
  simp -implicitDefEqProofs [ir__law_parts, evt_e, put, D.ty, Met.tys, Met.calm, D.isBl, D.isT, D.isL, D.plain, D.plains, D.eqv, D.eqvs, partD, sliD, okK, D.akey, itemsL, seqD, it_rng, kDo, hm, hm2]
omit H in
theorem lists_du (s : List Nat) : memD (.str s) [.str [100, 111], .str [117, 110, 108, 101, 115, 115]] = some (([kDo, kUnless] : List (List Nat)).contains s) := mem_strs s [kDo, kUnless]
theorem tnames_parts (k : Nat) (s : List Nat) (x : D) (vs ps : List D) (st : List Ob) (own : List (List Nat)) (f : D → List (List Nat)) (hl : own.length + (ps.flatMap f).length ≤ 1000)
    (ho : if ([kDo, kUnless] : List (List Nat)).contains s = true then x = .str (own.headD []) ∧ own.length = 1 else own = [])
    (hp : (G.at k).call "_law_parts" [.tup (.str s :: x :: vs)] st = .ok (.lst ps) true st) (hr : ∀ p ∈ ps, (G.at k).call "_law_task_names" [p] st = .ok (.lst ((f p).map .str)) true st) :
    (G.at (k + 1)).call "_law_task_names" [.tup (.str s :: x :: vs)] st = .ok (.lst ((sortSet (own ++ ps.flatMap f)).map .str)) true st := by
  rw [pg_run G _ _ _ _ H.tnames rfl]
  have hm := lists_du s
  have hloop := forL_ok (tg := fun d s => tset (G.at k) ir__law_task_names_t1 d false s) (body := fun s => exs (G.at k) ir__law_task_names_b1 s) (lk := [])
    (fun r s' => ∃ pre y, ps = pre ++ r ∧ s' = ⟨[.fz (.tup (.str s :: x :: vs)), .fz (.lst ((own ++ pre.flatMap f).map .str)), y], st⟩)
    (fun d r s' ⟨pre, y, hps, hs'⟩ => by
      subst hs'
      have hrd := hr d (by rw [hps]; simp)
      have htot : own.length + (pre.flatMap f).length + (f d).length ≤ SL := by
        rw [hps] at hl; simp [List.flatMap_append, SL] at hl ⊢; omega
      have htot2 : own.length + ((pre.flatMap f).length + (f d).length) ≤ SL := by omega
      refine ⟨⟨[.fz (.tup (.str s :: x :: vs)), .fz (.lst ((own ++ (pre ++ [d]).flatMap f).map .str)), .fz d], st⟩, ?_, ⟨pre ++ [d], _, by rw [hps]; simp, rfl⟩, rfl⟩
      simp only [List.length_flatMap] at htot htot2
      simp -implicitDefEqProofs [ir__law_task_names_t1, ir__law_task_names_b1, evt_e, put, D.ty, Met.tys, Met.calm, D.isBl, D.isT, D.isL, D.plain, D.plains, D.eqv, D.eqvs, partD, sliD, okK, D.akey, itemsL, seqD, it_rng, hrd, binD, htot, htot2, List.length_flatMap])
    ps ⟨[.fz (.tup (.str s :: x :: vs)), .fz (.lst (own.map .str)), .emp], st⟩ ⟨[], .emp, rfl, by simp⟩
  obtain ⟨s', he, pre, y, hps, rfl⟩ := hloop
  have hpre : ps = pre := by simpa using hps
  subst hpre
  have hss := sorted_set (l := own ++ ps.flatMap f) (by rw [List.length_append]; omega)
  cases hc : ([kDo, kUnless] : List (List Nat)).contains s with
  | true =>
    rw [hc] at hm ho
    simp only [if_true] at ho
    obtain ⟨rfl, ho⟩ := ho
    match own, ho with
    | [a], _ =>
      rw [List.map_append] at he hss
      simp only [List.headD_cons, List.map_cons, List.map_nil, List.cons_append, List.nil_append] at he hss hp
      simp -implicitDefEqProofs [ir__law_task_names, evt_e, put, D.ty, Met.tys, Met.calm, D.isBl, D.isT, D.isL, D.plain, D.plains, D.eqv, D.eqvs, partD, sliD, okK, D.akey, itemsL, seqD, it_rng, hm, hp, he, hss]
  | false =>
    rw [hc] at hm ho
    simp only [if_false, Bool.false_eq_true] at ho
    subst ho
    simp only [List.nil_append, List.map_nil] at he hss
    simp -implicitDefEqProofs [ir__law_task_names, evt_e, put, D.ty, Met.tys, Met.calm, D.isBl, D.isT, D.isL, D.plain, D.plains, D.eqv, D.eqvs, partD, sliD, okK, D.akey, itemsL, seqD, it_rng, hm, hp, he, hss]
theorem tnames_run : ∀ (n k : Nat) (v : D) (tk : List (List Nat)) (st : List Ob), formed n v tk = true → okD v = true → manyT n v * n ≤ 900 →
    (G.at (n + 1 + k)).call "_law_task_names" [v] st = .ok (.lst ((namesL n v).map .str)) true st := by
  intro n
  induction n with
  | zero => intro k v tk st h; cases h
  | succ n ih =>
    intro k v tk st h hok hl
    have hform := h
    obtain ⟨m, e, h⟩ := formed_cases h
    cases e
    rw [show n + 1 + 1 + k = (n + 1 + k) + 1 by omega]
    have hb : manyT (n + 1) v * n ≤ 900 := Nat.le_trans (Nat.mul_le_mul_left _ (by omega)) hl
    rcases h with ⟨x, rfl, hx, _⟩ | ⟨s, ps, rfl, hk, hj, h2, h6, h⟩ | ⟨x, t, rfl, _, h⟩ | ⟨s, t, rfl, _, _, h⟩
    · cases x with
      | str s =>
        have := tnames_parts H (n + 1 + k) kDo (.str s) [] [] st [s] (fun _ => []) (by simp) (by rw [if_pos (by decide)]; simp) (by rw [show n + 1 + k = (n + k) + 1 by omega]; exact parts_do H _ _ st) (by simp)
        simpa [namesL] using this
      | _ => cases hx
    · have hok2 : okDs ps = true := by simpa [okD, okDs] using hok
      have hbig : (ps.flatMap (namesL n)).length ≤ 900 := by
        rw [many2 _ _ _ hk] at hb
        exact Nat.le_trans (flat_len (namesL n) (manyT n) n ps fun p hp => namesL_len n p tk (h p hp)) hb
      have hno : ([kDo, kUnless] : List (List Nat)).contains s = false := by
        simp only [joints, List.contains_cons, List.contains_nil, Bool.or_false, Bool.or_eq_true, beq_iff_eq] at hj
        rcases hj with rfl | rfl | rfl <;> decide
      have := tnames_parts H (n + 1 + k) s (.tup ps) [] ps st [] (namesL n) (by simp at hbig ⊢; omega) (by rw [hno]; simp) (by rw [show n + 1 + k = (n + k) + 1 by omega]; exact parts_joint H.toLawTaskG _ s ps st hj)
        fun p hp => ih k p tk st (h p hp) (okDs_mem hok2 p hp) ?_
      · simpa [namesL, hk] using this
      · rw [many2 _ _ _ hk] at hb
        refine Nat.le_trans (Nat.mul_le_mul_right n ?_) hb
        obtain ⟨a, b, rfl⟩ := List.append_of_mem hp
        simp; omega
    · have hok2 : okD t = true := by simp [okD, okDs] at hok; exact hok.2
      have hb' : manyT n t * n ≤ 900 := hb
      have := tnames_parts H (n + 1 + k) kTimes x [t] [t] st [] (namesL n) (by have := namesL_len n t tk h; simp; omega) (by rw [if_neg (by decide)]) (by rw [show n + 1 + k = (n + k) + 1 by omega]; exact parts_two H.toLawTaskG _ _ x t st (.inl rfl) (okD_top hok2))
        fun p hp => by rw [List.mem_singleton.mp hp]; exact ih k t tk st h hok2 hb'
      have e : kTimes ≠ kUnless := by decide
      simpa [namesL, e] using this
    · have hok2 : okD t = true := by simp [okD, okDs] at hok; exact hok
      have hb' : manyT n t * n ≤ 900 := hb
      have := tnames_parts H (n + 1 + k) kUnless (.str s) [t] [t] st [s] (namesL n) (by have := namesL_len n t _ h; simp; omega) (by rw [if_pos (by decide)]; simp) (by rw [show n + 1 + k = (n + k) + 1 by omega]; exact parts_two H.toLawTaskG _ _ _ t st (.inr rfl) (okD_top hok2))
        fun p hp => by rw [List.mem_singleton.mp hp]; exact ih k t _ st h hok2 hb'
      simpa [namesL] using this
end
end Lw
end
section
set_option linter.all false
set_option maxRecDepth 10000
set_option maxHeartbeats 4000000
/-! Mtk04: the law k04 in the small language. -/
namespace Lw.k04
open PySem PyE Tk Lw Dn
theorem hS : SomeG G := ⟨⟨⟨⟨rfl, rfl, rfl⟩, rfl, rfl, rfl⟩, rfl⟩, rfl⟩
theorem hD : DoneG G := ⟨rfl, rfl, rfl, rfl, rfl⟩
theorem hL : LawDoneG G := ⟨rfl⟩
theorem list_tsk (n : Nat) : ∀ ps : List D, (∀ p ∈ ps, ∃ t : Tsk, p = t.d ∧ t.ok = true ∧ dp t ≤ n) → ∃ ts : List Tsk, ps = ds ts ∧ oks ts = true ∧ dps ts ≤ n ∧ ts.length = ps.length
  | [], _ => ⟨[], rfl, rfl, Nat.zero_le _, rfl⟩
  | p :: ps, h => by
    obtain ⟨t, h1, h2, h3⟩ := h p (by simp)
    obtain ⟨ts, k1, k2, k3, k4⟩ := list_tsk n ps fun q hq => h q (List.mem_cons_of_mem _ hq)
    exact ⟨t :: ts, by rw [ds, h1, k1], by rw [oks, h2, k2]; rfl, by rw [dps]; omega, by simp [k4]⟩
theorem shape_tsk {n : Nat} {v : D} (h : Shape n v) : ∃ t : Tsk, v = t.d ∧ t.ok = true ∧ dp t ≤ n + 1 := by
  induction h with
  | «do» n s => exact ⟨.one s, rfl, rfl, by simp [dp]⟩
  | joint n k ps hj hne h6 _ ih =>
    obtain ⟨ts, h1, h2, h3, h4⟩ := list_tsk (n + 1) ps ih
    have hok : ((!ts.isEmpty && decide (ts.length ≤ 6)) && oks ts) = true := by
      rw [h2]
      have : ts ≠ [] := by intro e; rw [e] at h4; exact hne (List.length_eq_zero_iff.mp h4.symm)
      cases ts with
      | nil => exact absurd rfl this
      | cons a r => simp at h4 ⊢; omega
    simp only [joints, List.contains_cons, List.contains_nil, Bool.or_false, Bool.or_eq_true, beq_iff_eq] at hj
    rcases hj with rfl | rfl | rfl
    · exact ⟨.all ts, by rw [h1]; rfl, hok, by rw [dp]; omega⟩
    · exact ⟨.any ts, by rw [h1]; rfl, hok, by rw [dp]; omega⟩
    · exact ⟨.row ts, by rw [h1]; rfl, hok, by rw [dp]; omega⟩
  | times n i t h2 h5 _ ih =>
    obtain ⟨t, rfl, ho, hd⟩ := ih
    exact ⟨.times i t, rfl, by rw [Tsk.ok, ho]; simp; omega, by rw [dp]; omega⟩
  | unl n s t _ ih =>
    obtain ⟨t, rfl, ho, hd⟩ := ih
    exact ⟨.unl s t, rfl, by rw [Tsk.ok, ho], by rw [dp]; omega⟩
theorem L_app {t : Tsk} (hok : t.ok = true) {w w' : List Call} {m : Nat} (h : L t w = some m) : L t (w ++ w') = some m := by
  rw [← run_is t hok] at h ⊢
  rw [run_app, h]
/-- words of so many calls at most -/
def Words (n : Nat) (l : List D) : Prop := ∀ d ∈ l, ∃ w : List Call, d = wordD w ∧ w.length ≤ n
theorem Words.mono {n m : Nat} {l : List D} (h : Words n l) (hm : n ≤ m) : Words m l := fun d hd => by
  obtain ⟨w, e, hw⟩ := h d hd
  exact ⟨w, e, by omega⟩
theorem Words.app {n : Nat} {l l' : List D} (h : Words n l) (h' : Words n l') : Words n (l ++ l') := fun d hd => by
  rcases List.mem_append.mp hd with hd | hd
  · exact h d hd
  · exact h' d hd
theorem words_inner (k : Nat) (calls : List Call) (hc : calls.length ≤ 4) (st : List Ob) (x1 x2 x4 x5 x6 : Slot) (last : D) (w : List Call) (j : Nat) (hw : w.length ≤ 100) :
    ∃ x7, compL [7] (fun d s => tset (G.at k) ir__law_words_to_t1 d false s) (fun s => .ok true s) (fun acc s => (ev (G.at k) ir__law_words_to_e1 s).bind fun v s => (keep v s).bind fun d s => if acc.length < SL then .ok (acc ++ [d]) s else .stuck) []
      (calls.map .str) [] ⟨[.fz (.tup (calls.map .str)), x1, x2, .fz last, x4, x5, .fz (wordD w), .emp], st⟩ = .ok (calls.map fun c => wordD (w ++ [c])) ⟨[.fz (.tup (calls.map .str)), x1, x2, .fz last, x4, x5, .fz (wordD w), x7], st⟩ := by
  have h := compL_fm (own := [7]) (tg := fun d s => tset (G.at k) ir__law_words_to_t1 d false s) (test := fun s => .ok true s)
    (elt := fun acc s => (ev (G.at k) ir__law_words_to_e1 s).bind fun v s => (keep v s).bind fun d s => if acc.length < SL then .ok (acc ++ [d]) s else .stuck) (lk := [])
    (fun s => ∃ x7, s = ⟨[.fz (.tup (calls.map .str)), x1, x2, .fz last, x4, x5, .fz (wordD w), x7], st⟩) (fun _ => true) (fun d => match d with | .str c => wordD (w ++ [c]) | _ => .non) (calls.map .str)
    (fun d hd acc s ⟨x7, hs⟩ hacc => by
      subst hs
      obtain ⟨c, _, rfl⟩ := List.mem_map.mp hd
      refine ⟨⟨[.fz (.tup (calls.map .str)), x1, x2, .fz last, x4, x5, .fz (wordD w), .fz (.str c)], st⟩, ?_, ⟨_, rfl⟩, rfl⟩
      have hz : w.length + 1 ≤ SL := by unfold SL; omega
      unfold wordD
      simp -implicitDefEqProofs [turnL, wipeL, ir__law_words_to_t1, ir__law_words_to_e1, evt_e, put, D.ty, Met.tys, Met.calm, D.isBl, D.isT, D.isL, D.plain, D.plains, D.eqv, D.eqvs, partD, sliD, okK, D.akey, itemsL, seqD, it_rng, binD, hz, hacc])
    (calls.map .str) [] ⟨[.fz (.tup (calls.map .str)), x1, x2, .fz last, x4, x5, .fz (wordD w), .emp], st⟩ (fun _ h => h) ⟨_, rfl⟩ (by rw [List.length_map]; simp [SL]; omega)
  obtain ⟨s', he, x7, rfl⟩ := h
  rw [filter_all, List.nil_append, List.map_map] at he
  exact ⟨x7, he⟩
theorem words_mid (k : Nat) (calls : List Call) (hc : calls.length ≤ 4) (st : List Ob) (x1 x2 x4 : Slot) (last : List D) (n : Nat) (hn : n ≤ 50) (hl : Words n last) (hlen : last.length ≤ 1000) (x6 : Slot) :
    ∃ longer y6, Words (n + 1) longer ∧ longer.length ≤ 4 * last.length ∧ forL (fun d s => tset (G.at k) ir__law_words_to_t2 d false s) (fun s => exs (G.at k) ir__law_words_to_b2 s) [] last
      ⟨[.fz (.tup (calls.map .str)), x1, x2, .fz (.lst last), x4, .fz (.lst []), x6, .emp], st⟩ = .ok .nx ⟨[.fz (.tup (calls.map .str)), x1, x2, .fz (.lst last), x4, .fz (.lst longer), y6, .emp], st⟩ := by
  have h := forL_ok (tg := fun d s => tset (G.at k) ir__law_words_to_t2 d false s) (body := fun s => exs (G.at k) ir__law_words_to_b2 s) (lk := [])
    (fun r s => ∃ longer x6, s = ⟨[.fz (.tup (calls.map .str)), x1, x2, .fz (.lst last), x4, .fz (.lst longer), x6, .emp], st⟩ ∧ Words (n + 1) longer ∧ longer.length + 4 * r.length ≤ 4 * last.length ∧ Words n r)
    (fun d r s ⟨longer, x6, hs, hw, hlr, hr⟩ => by
      subst hs
      obtain ⟨w, rfl, hwl⟩ := hr d (by simp)
      rw [List.length_cons] at hlr
      obtain ⟨x7, he⟩ := words_inner k calls hc st x1 x2 x4 (.fz (.lst longer)) (.fz (wordD w)) (.lst last) w 0 (by omega)
      have hz : longer.length + calls.length ≤ SL := by unfold SL; omega
      refine ⟨⟨[.fz (.tup (calls.map .str)), x1, x2, .fz (.lst last), x4, .fz (.lst (longer ++ calls.map fun c => wordD (w ++ [c]))), .fz (wordD w), .emp], st⟩, ?_, ⟨_, _, rfl, hw.app fun d hd => ?_, ?_, fun d hd => hr d (List.mem_cons_of_mem _ hd)⟩, rfl⟩
      · unfold wordD at he ⊢
        simp -implicitDefEqProofs [ir__law_words_to_t2, ir__law_words_to_b2, evt_e, put, D.ty, Met.tys, Met.calm, D.isBl, D.isT, D.isL, D.plain, D.plains, D.eqv, D.eqvs, partD, sliD, okK, D.akey, itemsL, seqD, it_rng, calmOwn, he, backL, binD, hz]
      · obtain ⟨c, _, rfl⟩ := List.mem_map.mp hd
        exact ⟨w ++ [c], rfl, by rw [List.length_append, List.length_singleton]; omega⟩
      · rw [List.length_append, List.length_map]; omega)
    last ⟨[.fz (.tup (calls.map .str)), x1, x2, .fz (.lst last), x4, .fz (.lst []), x6, .emp], st⟩ ⟨[], x6, rfl, (show Words (n + 1) [] from fun d h => absurd h (by simp)), by simp, hl⟩
  obtain ⟨s', he, longer, y6, rfl, hw, hlr, -⟩ := h
  exact ⟨longer, y6, hw, by simpa using hlr, he⟩
theorem words_run (k : Nat) (calls : List Call) (hc : calls.length ≤ 4) (most : Nat) (hm : most ≤ 3) (st : List Ob) :
    ∃ ws, Words 3 ws ∧ ws.length ≤ 1000 ∧ (G.at (k + 1)).call "_law_words_to" [.tup (calls.map .str), .int most] st = .ok (.lst ws) false st := by
  have h := forL_ok (tg := fun d s => tset (G.at k) ir__law_words_to_t3 d false s) (body := fun s => exs (G.at k) ir__law_words_to_b3 s) (lk := [])
    (fun r s => ∃ found last j x4 x5 x6, s = ⟨[.fz (.tup (calls.map .str)), .fz (.int most), .fz (.lst found), .fz (.lst last), x4, x5, x6, .emp], st⟩ ∧ j + r.length = most ∧ Words j last ∧ Words j found ∧ last.length ≤ 4 ^ j ∧ found.length ≤ 4 ^ (j + 1))
    (fun d r s ⟨found, last, j, x4, x5, x6, hs, hj, hw1, hw2, hl1, hl2⟩ => by
      subst hs
      rw [List.length_cons] at hj
      have h4 : 4 ^ j ≤ 4 ^ 2 := Nat.pow_le_pow_right (by omega) (by omega)
      have h4b : 4 ^ (j + 1) = 4 * 4 ^ j := by rw [Nat.pow_succ]; omega
      have h4c : 4 ^ (j + 1 + 1) = 4 * 4 ^ (j + 1) := by rw [Nat.pow_succ]; omega
      obtain ⟨longer, y6, hw3, hl3, he⟩ := words_mid k calls hc st (.fz (.int most)) (.fz (.lst found)) (.fz d) last j (by omega) hw1 (by omega) x6
      have hz : found.length + longer.length ≤ SL := by unfold SL; omega
      refine ⟨⟨[.fz (.tup (calls.map .str)), .fz (.int most), .fz (.lst (found ++ longer)), .fz (.lst longer), .fz d, .fz (.lst longer), y6, .emp], st⟩, ?_, ⟨_, _, j + 1, _, _, _, rfl, by omega, hw3, (hw2.mono (by omega)).app hw3, by omega, by rw [List.length_append]; omega⟩, rfl⟩
      simp -implicitDefEqProofs [ir__law_words_to_t3, ir__law_words_to_b3, evt_e, put, D.ty, Met.tys, Met.calm, D.isBl, D.isT, D.isL, D.plain, D.plains, D.eqv, D.eqvs, partD, sliD, okK, D.akey, itemsL, seqD, it_rng, he, binD, hz])
    ((List.range most).map fun (k : Nat) => D.int k) ⟨[.fz (.tup (calls.map .str)), .fz (.int most), .fz (.lst [.tup []]), .fz (.lst [.tup []]), .emp, .emp, .emp, .emp], st⟩
    ⟨_, _, 0, _, _, _, rfl, by simp, fun d h => ⟨[], by simpa [wordD] using h, by simp⟩, fun d h => ⟨[], by simpa [wordD] using h, by simp⟩, by simp, by simp⟩
  obtain ⟨s', he, found, last, j, x4, x5, x6, rfl, hj, -, hw, -, hl⟩ := h
  have hj : j = most := by simpa using hj
  subst hj
  have h4 : 4 ^ (j + 1) ≤ 4 ^ 4 := Nat.pow_le_pow_right (by omega) (by omega)
  have hb : 0 ≤ (j : Int) ∧ (j : Int) < 1000000 := by omega
  refine ⟨found, hw.mono hm, by omega, ?_⟩
  rw [pg_run G _ _ _ _ (show G.defs "_law_words_to" = some ir__law_words_to from rfl) rfl]
  simp -implicitDefEqProofs [ir__law_words_to, evt_e, put, D.ty, Met.tys, Met.calm, D.isBl, D.isT, D.isL, D.plain, D.plains, D.eqv, D.eqvs, partD, sliD, okK, D.akey, itemsL, seqD, it_rng, rng_one hb, he]
theorem same_d (k : Nat) (d : D) (h : d = .non ∨ (∃ i, d = .int i) ∨ ∃ b, d = .bl b) (st : List Ob) : (G.at (k + 1)).call "_law_same" [d, d] st = .ok (.bl true) false st := by
  rw [pg_run G _ _ _ _ (show G.defs "_law_same" = some ir__law_same from rfl) rfl]
  rcases h with rfl | ⟨i, rfl⟩ | ⟨b, rfl⟩
  · simp -implicitDefEqProofs [ir__law_same, evt_e, put, D.ty, Met.tys, Met.calm, D.isBl, D.isT, D.isL, D.plain, D.plains, D.eqv, D.eqvs, partD, sliD, okK, D.akey, itemsL, seqD, it_rng, isi_tup (d := .non) rfl, isTup]
  · simp -implicitDefEqProofs [ir__law_same, evt_e, put, D.ty, Met.tys, Met.calm, D.isBl, D.isT, D.isL, D.plain, D.plains, D.eqv, D.eqvs, partD, sliD, okK, D.akey, itemsL, seqD, it_rng, isi_tup (d := .int _) rfl, isTup, isi_int (d := .int _) rfl, isInt, isi_bool (d := .int _) rfl, isBool]
  · cases b <;> simp -implicitDefEqProofs [ir__law_same, evt_e, put, D.ty, Met.tys, Met.calm, D.isBl, D.isT, D.isL, D.plain, D.plains, D.eqv, D.eqvs, partD, sliD, okK, D.akey, itemsL, seqD, it_rng, isi_tup (d := .bl _) rfl, isTup]
theorem same_two (k : Nat) (a b : D) (ha : okTop a = true) (hb : okTop b = true) (st : List Ob) (h1 : (G.at k).call "_law_same" [a, a] st = .ok (.bl true) false st) (h2 : (G.at k).call "_law_same" [b, b] st = .ok (.bl true) false st) :
    (G.at (k + 1)).call "_law_same" [.tup [a, b], .tup [a, b]] st = .ok (.bl true) false st := by
  rw [pg_run G _ _ _ _ (show G.defs "_law_same" = some ir__law_same from rfl) rfl]
  have hz : 0 < SL ∧ 1 < SL := by unfold SL; omega
  simp -implicitDefEqProofs [ir__law_same, evt_e, put, D.ty, Met.tys, Met.calm, D.isBl, D.isT, D.isL, D.plain, D.plains, D.eqv, D.eqvs, partD, sliD, okK, D.akey, itemsL, seqD, it_rng, isi_tup (d := .tup _) rfl, isTup, calmOwn, compL, wipeL, ir__law_same_t1, ir__law_same_e1, h1, h2, backL, blsD, de_ok ha, de_ok hb, hz.1, hz.2]
theorem outO_top (o : Option Nat) : okTop (outO o) = true := by cases o <;> rfl
@[simp] theorem eq_nn : D.eq? .non .non = some true := rfl
/-- the look at one word -/
theorem look (x0 : D) (calls : List Call) (t : Tsk) (hok : t.ok = true) (hd : dp t ≤ 6) (w : List Call) (hw : w.length ≤ 50) (hcl : calls.length ≤ 100) (st : List Ob) (x2 x5 x6 x7 x8 x9 x10 x11 : Slot) :
    ∃ y8 y9, ((tset (G.at 39) ir_law_k04_t2 (wordD w) false ⟨[.fz x0, .fz (.ref 0), x2, .fz (.tup (calls.map .str)), .fz t.d, x5, x6, x7, x8, x9, x10, x11], st⟩).bind fun _ s => exs (G.at 39) ir_law_k04_b2 s) =
      .ok .nx ⟨[.fz x0, .fz (.ref 0), x2, .fz (.tup (calls.map .str)), .fz t.d, x5, .fz (wordD w), x7, y8, y9, x10, x11], st⟩ := by
  have hlaw := law_at hL 6 t hd hok 33 w 0 st (by omega) (by omega)
  rw [List.drop_zero, show ((0 : Nat) : Int) = 0 from rfl, show 6 + 33 = 39 from rfl] at hlaw
  have h1 := done_at_run hD 6 26 t hd hok w _ (.inl rfl) st
  have h2 := done_at_run hD 6 26 t hd hok w _ (.inr rfl) st
  have h3 := is_done_run hD 6 25 t hd hok w st
  have h4 := done_at_run hD 6 26 t hd hok (w ++ [[122, 122]] ++ calls) _ (.inl rfl) st
  rw [show 2 * 6 + 26 + 1 = 39 from rfl] at h1 h2 h4
  rw [show 2 * 6 + 25 + 2 = 39 from rfl] at h3
  have htp := d_top t
  have hs := same_two 38 (outO (L t w)) (.bl (L t w).isSome) (outO_top _) rfl st (same_d 37 _ (by cases L t w <;> simp [outO]) st) (same_d 37 _ (.inr (.inr ⟨_, rfl⟩)) st)
  rw [show 38 + 1 = 39 from rfl] at hs
  have hz1 : w.length + 1 ≤ SL := by unfold SL; omega
  have hz2 : w.length + 1 + calls.length ≤ SL := by unfold SL; omega
  have hz3 : w.length + (calls.length + 1) ≤ SL := by unfold SL; omega
  simp only [List.map_append, List.map_cons, List.map_nil, List.append_assoc, List.cons_append, List.nil_append] at h4
  cases hL' : L t w with
  | none =>
    rw [hL'] at hlaw h1 h2 h3 hs
    refine ⟨.fz (.int 1000000), .fz .non, ?_⟩
    unfold wordD at hlaw ⊢
    simp -implicitDefEqProofs [outO] at hs h1 h2 h3 h4
    simp -implicitDefEqProofs [ir_law_k04_t2, ir_law_k04_b2, evt_e, put, D.ty, Met.tys, Met.calm, D.isBl, D.isT, D.isL, D.plain, D.plains, D.eqv, D.eqvs, partD, sliD, okK, D.akey, itemsL, seqD, it_rng, de_ok htp, hlaw, p106, val, h1, h2, h3, hs]
  | some m =>
    have hm := L_le hok hL'
    have happ : L t (w ++ ([122, 122] :: calls)) = some m := L_app hok hL'
    rw [hL'] at hlaw h1 h2 h3 hs
    have h5 : L t (w ++ [[122, 122]] ++ calls) = some m := by rw [List.append_assoc]; exact happ
    rw [List.append_assoc, show [[122, 122]] ++ calls = [122, 122] :: calls from rfl] at h5
    rw [h5] at h4
    have hlt : (m : Int) < 1000000 := by omega
    have hltN : m < 1000000 := by omega
    refine ⟨.fz (.int m), .fz (.int m), ?_⟩
    unfold wordD at hlaw ⊢
    simp -implicitDefEqProofs [outO] at hs h1 h2 h3 h4
    simp -implicitDefEqProofs [ir_law_k04_t2, ir_law_k04_b2, evt_e, put, D.ty, Met.tys, Met.calm, D.isBl, D.isT, D.isL, D.plain, D.plains, D.eqv, D.eqvs, partD, sliD, okK, D.akey, itemsL, seqD, it_rng, de_ok htp, hlaw, p106, val, hlt, hltN, h1, h2, h3, h4, hs, binD, hz1, hz2, hz3]
theorem look_loop (x0 : D) (calls : List Call) (t : Tsk) (hok : t.ok = true) (hd : dp t ≤ 6) (hcl : calls.length ≤ 100) (st : List Ob) (x2 x5 x7 x10 x11 : Slot) (ws : List D) (hw : Words 50 ws) (x6 x8 x9 : Slot) :
    ∃ y6 y8 y9, forL (fun d s => tset (G.at 39) ir_law_k04_t2 d false s) (fun s => exs (G.at 39) ir_law_k04_b2 s) [] ws ⟨[.fz x0, .fz (.ref 0), x2, .fz (.tup (calls.map .str)), .fz t.d, x5, x6, x7, x8, x9, x10, x11], st⟩ =
      .ok .nx ⟨[.fz x0, .fz (.ref 0), x2, .fz (.tup (calls.map .str)), .fz t.d, x5, y6, x7, y8, y9, x10, x11], st⟩ := by
  have h := forL_ok (tg := fun d s => tset (G.at 39) ir_law_k04_t2 d false s) (body := fun s => exs (G.at 39) ir_law_k04_b2 s) (lk := [])
    (fun r s => ∃ x6 x8 x9, s = ⟨[.fz x0, .fz (.ref 0), x2, .fz (.tup (calls.map .str)), .fz t.d, x5, x6, x7, x8, x9, x10, x11], st⟩ ∧ Words 50 r)
    (fun d r s ⟨x6, x8, x9, hs, hr⟩ => by
      subst hs
      obtain ⟨w, rfl, hwl⟩ := hr d (by simp)
      obtain ⟨y8, y9, e⟩ := look x0 calls t hok hd w hwl hcl st x2 x5 x6 x7 x8 x9 x10 x11
      exact ⟨_, e, ⟨_, _, _, rfl, fun d hd => hr d (List.mem_cons_of_mem _ hd)⟩, rfl⟩)
    ws ⟨[.fz x0, .fz (.ref 0), x2, .fz (.tup (calls.map .str)), .fz t.d, x5, x6, x7, x8, x9, x10, x11], st⟩ ⟨_, _, _, rfl, hw⟩
  obtain ⟨s', he, y6, y8, y9, rfl, -⟩ := h
  exact ⟨y6, y8, y9, he⟩
theorem word_draw (k : Nat) (o : Ob) (c : Nat) (calls : List Call) (hP : Pen c o) (hc : c < 1099511000000) (h0 : calls ≠ []) (hl : calls.length ≤ 100) :
    ∃ w o', w.length ≤ 16 ∧ Pen (c + 17) o' ∧ (G.at (k + 3)).call "_law_some_word" [.ref 0, .tup (calls.map .str), .int 16] [o] = .ok (wordD w) false [o'] := by
  obtain ⟨n, o1, hn, hP1, e1⟩ := draw_run hS.toPenG (k + 1) [o] 0 o c 17 rfl hP (by omega) (by omega) (by omega)
  rw [List.set_cons_zero] at e1
  have hcomp := compL_ok (own := [3]) (tg := fun d s => tset (G.at (k + 2)) ir__law_some_word_t1 d false s) (test := fun s => .ok true s)
    (elt := fun acc s => (ev (G.at (k + 2)) ir__law_some_word_e1 s).bind fun v s => (keep v s).bind fun d s => if acc.length < SL then .ok (acc ++ [d]) s else .stuck) (lk := [])
    (fun r acc s => ∃ (w : List Call) (o' : Ob) (x : Slot), s = ⟨[.fz (.ref 0), .fz (.tup (calls.map .str)), .fz (.int 16), x], [o']⟩ ∧ Pen (c + 1 + w.length) o' ∧ acc = w.map .str ∧ w.length + r.length = n)
    (fun d r acc s ⟨w, o', x, hs, hP', hacc, hlen⟩ => by
      subst hs; subst hacc
      rw [List.length_cons] at hlen
      obtain ⟨b, o2, hb, hP2, e⟩ := pick_run hS.toPenG k [o'] 0 o' _ _ (calls.map .str) (.inr rfl) rfl hP' (by omega) (by simpa using h0) (by rw [List.length_map]; omega)
      rw [List.set_cons_zero] at e
      obtain ⟨b, _, rfl⟩ := List.mem_map.mp hb
      have hz : w.length < SL := by unfold SL; omega
      refine ⟨(w ++ [b]).map .str, ⟨[.fz (.ref 0), .fz (.tup (calls.map .str)), .fz (.int 16), .fz d], [o2]⟩, ?_, ⟨w ++ [b], o2, _, rfl, ?_, rfl, ?_⟩, rfl⟩
      · simp -implicitDefEqProofs [turnL, wipeL, ir__law_some_word_t1, ir__law_some_word_e1, evt_e, put, D.ty, Met.tys, Met.calm, D.isBl, D.isT, D.isL, D.plain, D.plains, D.eqv, D.eqvs, partD, sliD, okK, D.akey, itemsL, seqD, it_rng, e, hz]
      · rw [List.length_append, List.length_singleton]; exact hP2
      · rw [List.length_append, List.length_singleton]; omega)
    ((List.range n).map fun (k : Nat) => D.int k) [] ⟨[.fz (.ref 0), .fz (.tup (calls.map .str)), .fz (.int 16), .emp], [o1]⟩
    ⟨[], o1, .emp, rfl, by simpa using hP1, rfl, by simp⟩
  obtain ⟨acc, s', he, w, o2, x, rfl, hP2, rfl, hlen⟩ := hcomp
  have hlen : w.length = n := by simpa using hlen
  refine ⟨w, o2, by omega, pen_mono hP2 (by omega), ?_⟩
  have hb : 0 ≤ (n : Int) ∧ (n : Int) < 1000000 := by omega
  rw [pg_run G _ _ _ _ (show G.defs "_law_some_word" = some ir__law_some_word from rfl) rfl]
  unfold wordD
  simp -implicitDefEqProofs [ir__law_some_word, evt_e, put, D.ty, Met.tys, Met.calm, D.isBl, D.isT, D.isL, D.plain, D.plains, D.eqv, D.eqvs, partD, sliD, okK, D.akey, itemsL, seqD, it_rng, e1, rng_one hb, calmOwn, he, backL]
theorem T3 : drawsT 3 = 95200 := rfl
theorem ten_words (x0 : D) (calls : List Call) (task : D) (hl : calls.length ≤ 99) (o : Ob) (c : Nat) (hP : Pen c o) (hc : c + 200 < 1099511000000) (x2 x5 x6 x8 x9 x10 x11 : Slot) :
    ∃ ws o' x7, Words 16 ws ∧ ws.length = 10 ∧ Pen (c + 170) o' ∧ compL [7] (fun d s => tset (G.at 39) ir_law_k04_t1 d false s) (fun s => .ok true s) (fun acc s => (ev (G.at 39) ir_law_k04_e1 s).bind fun v s => (keep v s).bind fun d s => if acc.length < SL then .ok (acc ++ [d]) s else .stuck) []
      ((List.range 10).map fun (k : Nat) => D.int k) [] ⟨[.fz x0, .fz (.ref 0), x2, .fz (.tup (calls.map .str)), .fz task, x5, x6, .emp, x8, x9, x10, x11], [o]⟩ =
      .ok ws ⟨[.fz x0, .fz (.ref 0), x2, .fz (.tup (calls.map .str)), .fz task, x5, x6, x7, x8, x9, x10, x11], [o']⟩ := by
  have hcomp := compL_ok (own := [7]) (tg := fun d s => tset (G.at 39) ir_law_k04_t1 d false s) (test := fun s => .ok true s)
    (elt := fun acc s => (ev (G.at 39) ir_law_k04_e1 s).bind fun v s => (keep v s).bind fun d s => if acc.length < SL then .ok (acc ++ [d]) s else .stuck) (lk := [])
    (fun r acc s => ∃ (o' : Ob) (x : Slot), s = ⟨[.fz x0, .fz (.ref 0), x2, .fz (.tup (calls.map .str)), .fz task, x5, x6, x, x8, x9, x10, x11], [o']⟩ ∧ Pen (c + 17 * acc.length) o' ∧ Words 16 acc ∧ acc.length + r.length = 10)
    (fun d r acc s ⟨o', x, hs, hP', hw, hlen⟩ => by
      subst hs
      rw [List.length_cons] at hlen
      obtain ⟨w, o2, hw16, hP2, e⟩ := word_draw 36 o' _ (calls ++ [[122, 122]]) hP' (by omega) (by simp) (by rw [List.length_append, List.length_singleton]; omega)
      have hz : acc.length < SL := by unfold SL; omega
      have hz2 : calls.length + 1 ≤ SL := by unfold SL; omega
      rw [List.map_append, List.map_cons, List.map_nil] at e
      refine ⟨acc ++ [wordD w], ⟨[.fz x0, .fz (.ref 0), x2, .fz (.tup (calls.map .str)), .fz task, x5, x6, .fz d, x8, x9, x10, x11], [o2]⟩, ?_, ⟨o2, _, rfl, ?_, hw.app fun d hd => ?_, ?_⟩, rfl⟩
      · simp -implicitDefEqProofs [turnL, wipeL, ir_law_k04_t1, ir_law_k04_e1, evt_e, put, D.ty, Met.tys, Met.calm, D.isBl, D.isT, D.isL, D.plain, D.plains, D.eqv, D.eqvs, partD, sliD, okK, D.akey, itemsL, seqD, it_rng, binD, hz2, e, hz]
      · rw [List.length_append, List.length_singleton]; exact pen_mono hP2 (by omega)
      · rw [List.mem_singleton.mp hd]; exact ⟨w, rfl, hw16⟩
      · rw [List.length_append, List.length_singleton]; omega)
    ((List.range 10).map fun (k : Nat) => D.int k) [] ⟨[.fz x0, .fz (.ref 0), x2, .fz (.tup (calls.map .str)), .fz task, x5, x6, .emp, x8, x9, x10, x11], [o]⟩
    ⟨o, .emp, rfl, by simpa using hP, (show Words 16 [] from fun d h => absurd h (by simp)), by simp⟩
  obtain ⟨ws, s', he, o', x, rfl, hP', hw, hlen⟩ := hcomp
  have hlen : ws.length = 10 := by simpa using hlen
  exact ⟨ws, o', x, hw, hlen, pen_mono hP' (by omega), he⟩
/-- the laps -/
theorem laps (x0 : D) (o : Ob) (c : Nat) (hP : Pen c o) (hc : c + 500000 < 1099511000000) :
    ∃ o' y2 y3 y4 y5 y6 y8 y9, forL (fun d s => tset (G.at 39) ir_law_k04_t3 d false s) (fun s => exs (G.at 39) ir_law_k04_b3 s) [] ((List.range 4).map fun (k : Nat) => D.int k)
      ⟨[.fz x0, .fz (.ref 0), .emp, .emp, .emp, .emp, .emp, .emp, .emp, .emp, .emp, .emp], [o]⟩ = .ok .nx ⟨[.fz x0, .fz (.ref 0), y2, y3, y4, y5, y6, .emp, y8, y9, .emp, .emp], [o']⟩ := by
  have hloop := forL_ok (tg := fun d s => tset (G.at 39) ir_law_k04_t3 d false s) (body := fun s => exs (G.at 39) ir_law_k04_b3 s) (lk := [])
    (fun r s => ∃ o' x2 x3 x4 x5 x6 x8 x9 k, s = ⟨[.fz x0, .fz (.ref 0), x2, x3, x4, x5, x6, .emp, x8, x9, .emp, .emp], [o']⟩ ∧ Pen (c + 100000 * k) o' ∧ k + r.length = 4)
    (fun d r s ⟨o', x2, x3, x4, x5, x6, x8, x9, k, hs', hP', hk⟩ => by
      subst hs'
      rw [List.length_cons] at hk
      obtain ⟨i1, o1, hi1, hP1, e1⟩ := draw_run hS.toPenG 38 [o'] 0 o' _ 4 rfl hP' (by omega) (by omega) (by omega)
      rw [List.set_cons_zero] at e1
      obtain ⟨calls, o2, hnames, _, hP2, e2⟩ := calls_draw hS.toCallsG 35 [o1] 0 o1 _ (1 + i1) rfl hP1 (by omega) (by omega)
      rw [List.set_cons_zero] at e2
      have hclen := hnames.len
      have hcne : calls ≠ [] := fun e => by rw [e] at hclen; simp at hclen; omega
      obtain ⟨i3, o3, hi3, hP3, e3⟩ := draw_run hS.toPenG 38 [o2] 0 o2 _ 7 rfl hP2 (by omega) (by omega) (by omega)
      rw [List.set_cons_zero] at e3
      obtain ⟨task, o4, hsh, hP4, e4⟩ := some_at hS 3 (by omega) 33 [o3] 0 o3 _ calls (1 + i3) rfl hP3 (by rw [T3]; omega) hcne hnames.nodup (by omega) (by omega) (by omega)
      rw [List.set_cons_zero] at e4
      rw [T3] at hP4
      obtain ⟨t, rfl, hok, hdp⟩ := shape_tsk hsh
      obtain ⟨ws, hws, hwl, e5⟩ := words_run 38 calls (by omega) (if calls.length < 4 then 3 else 2) (by split <;> omega) [o4]
      obtain ⟨ws2, o5, x7, hws2, hwl2, hP5, e6⟩ := ten_words x0 calls t.d (by omega) o4 _ hP4 (by omega) (.fz d) (.fz (.lst ws)) x6 x8 x9 .emp .emp
      obtain ⟨y6, y8, y9, e7⟩ := look_loop x0 calls t hok (by omega) (by omega) [o5] (.fz d) (.fz (.lst ws)) .emp .emp .emp (ws ++ ws2) ((hws.mono (by omega)).app (hws2.mono (by omega))) x6 x8 x9
      refine ⟨⟨[.fz x0, .fz (.ref 0), .fz d, .fz (.tup (calls.map .str)), .fz t.d, .fz (.lst ws), y6, .emp, y8, y9, .emp, .emp], [o5]⟩, ?_, ⟨o5, _, _, _, _, _, _, _, k + 1, rfl, pen_mono hP5 (by omega), by omega⟩, rfl⟩
      have n1 : ((1 + i1 : Nat) : Int) = 1 + (i1 : Int) := rfl
      have n3 : ((1 + i3 : Nat) : Int) = 1 + (i3 : Int) := rfl
      rw [n1] at e2
      rw [n3, show ((3 : Nat) : Int) = 3 from rfl] at e4
      have htp := d_top t
      have target : tset (G.at 39) ir_law_k04_t3 d false ⟨[.fz x0, .fz (.ref 0), x2, x3, x4, x5, x6, .emp, x8, x9, .emp, .emp], [o']⟩ = .ok () ⟨[.fz x0, .fz (.ref 0), .fz d, x3, x4, x5, x6, .emp, x8, x9, .emp, .emp], [o']⟩ := by simp -implicitDefEqProofs [ir_law_k04_t3, evt_e, put, D.ty, Met.tys, Met.calm, D.isBl, D.isT, D.isL, D.plain, D.plains, D.eqv, D.eqvs, partD, sliD, okK, D.akey, itemsL, seqD, it_rng]
      rw [target]
      show exs (G.at 39) ir_law_k04_b3 _ = _
      unfold ir_law_k04_b3
      refine st_step (s' := ⟨[.fz x0, .fz (.ref 0), .fz d, .fz (.tup (calls.map .str)), x4, x5, x6, .emp, x8, x9, .emp, .emp], [o2]⟩) (by simp -implicitDefEqProofs [evt_e, put, D.ty, Met.tys, Met.calm, D.isBl, D.isT, D.isL, D.plain, D.plains, D.eqv, D.eqvs, partD, sliD, okK, D.akey, itemsL, seqD, it_rng, e1, e2]) ?_
      refine st_step (s' := ⟨[.fz x0, .fz (.ref 0), .fz d, .fz (.tup (calls.map .str)), .fz t.d, x5, x6, .emp, x8, x9, .emp, .emp], [o4]⟩) (by simp -implicitDefEqProofs [evt_e, put, D.ty, Met.tys, Met.calm, D.isBl, D.isT, D.isL, D.plain, D.plains, D.eqv, D.eqvs, partD, sliD, okK, D.akey, itemsL, seqD, it_rng, e3, e4]) ?_
      refine st_step (s' := ⟨[.fz x0, .fz (.ref 0), .fz d, .fz (.tup (calls.map .str)), .fz t.d, .fz (.lst ws), x6, .emp, x8, x9, .emp, .emp], [o4]⟩) ?_ ?_
      · by_cases h4 : calls.length < 4
        · have h4i : (calls.length : Int) < 4 := by omega
          rw [if_pos h4, show ((3 : Nat) : Int) = 3 from rfl] at e5
          simp -implicitDefEqProofs [evt_e, put, D.ty, Met.tys, Met.calm, D.isBl, D.isT, D.isL, D.plain, D.plains, D.eqv, D.eqvs, partD, sliD, okK, D.akey, itemsL, seqD, it_rng, h4, h4i, e5]
        · have h4i : ¬ (calls.length : Int) < 4 := by omega
          rw [if_neg h4, show ((2 : Nat) : Int) = 2 from rfl] at e5
          simp -implicitDefEqProofs [evt_e, put, D.ty, Met.tys, Met.calm, D.isBl, D.isT, D.isL, D.plain, D.plains, D.eqv, D.eqvs, partD, sliD, okK, D.akey, itemsL, seqD, it_rng, h4, h4i, e5]
      · have hz : ws.length + ws2.length ≤ SL := by unfold SL; omega
        exact st_step (s' := ⟨[.fz x0, .fz (.ref 0), .fz d, .fz (.tup (calls.map .str)), .fz t.d, .fz (.lst ws), y6, .emp, y8, y9, .emp, .emp], [o5]⟩) (by simp -implicitDefEqProofs [evt_e, put, D.ty, Met.tys, Met.calm, D.isBl, D.isT, D.isL, D.plain, D.plains, D.eqv, D.eqvs, partD, sliD, okK, D.akey, itemsL, seqD, it_rng, rng_one, calmOwn, e6, backL, binD, hz, e7]) rfl)
    ((List.range 4).map fun (k : Nat) => D.int k) ⟨[.fz x0, .fz (.ref 0), .emp, .emp, .emp, .emp, .emp, .emp, .emp, .emp, .emp, .emp], [o]⟩
    ⟨o, _, _, _, _, _, _, _, 0, rfl, by simpa using hP, by simp⟩
  obtain ⟨s', he, o', y2, y3, y4, y5, y6, y8, y9, k, rfl, hP', hk⟩ := hloop
  exact ⟨o', y2, y3, y4, y5, y6, y8, y9, he⟩
def tellA : Tsk := .row [.one [97], .all [.one [97], .one [98]]]
def tellB : Tsk := .unl [99] (.times 2 (.one [97]))
/-- THE MATHEMATICS -/
theorem math (ns : List Int) : ∃ fr st, (G.at 40).call "law" [.giv (ns.map D.int)] [] = .ok (.bl true) fr st := by
  obtain ⟨o, hP, e0⟩ := pen_run hS.toPenG 38 [] ns
  simp only [List.length_nil, List.nil_append] at e0
  obtain ⟨o1, y2, y3, y4, y5, y6, y8, y9, e1⟩ := laps (.giv (ns.map .int)) o 0 hP (by omega)
  have d1 := done_at_run hD 6 26 tellA (by decide) (by decide) [[97], [98], [98], [97]] _ (.inl rfl) [o1]
  have d2 := done_at_run hD 6 26 tellB (by decide) (by decide) [[97], [99], [97], [98], [97]] _ (.inl rfl) [o1]
  have d3 := done_at_run hD 6 26 tellB (by decide) (by decide) [[97], [99], [97]] _ (.inl rfl) [o1]
  rw [show L tellA [[97], [98], [98], [97]] = some 4 by decide] at d1
  rw [show L tellB [[97], [99], [97], [98], [97]] = some 5 by decide] at d2
  rw [show L tellB [[97], [99], [97]] = none by decide] at d3
  rw [show 2 * 6 + 26 + 1 = 39 from rfl] at d1 d2 d3
  have heq : D.eq? (.lst [.int 4, .int 5, .non]) (.lst [.int 4, .int 5, .non]) = some true := by decide
  refine ⟨false, [o1], ?_⟩
  rw [pg_run G 39 _ _ _ (show G.defs "law" = some ir_law_k04 from rfl) rfl]
  unfold ir_law_k04
  refine end_step (s' := ⟨[.fz (.giv (ns.map .int)), .fz (.ref 0), .emp, .emp, .emp, .emp, .emp, .emp, .emp, .emp, .emp, .emp], [o]⟩) (by simp -implicitDefEqProofs [evt_e, put, D.ty, Met.tys, Met.calm, D.isBl, D.isT, D.isL, D.plain, D.plains, D.eqv, D.eqvs, partD, sliD, okK, D.akey, itemsL, seqD, it_rng, e0]) ?_
  refine end_step (s' := ⟨[.fz (.giv (ns.map .int)), .fz (.ref 0), y2, y3, y4, y5, y6, .emp, y8, y9, .emp, .emp], [o1]⟩) (by simp -implicitDefEqProofs [evt_e, put, D.ty, Met.tys, Met.calm, D.isBl, D.isT, D.isL, D.plain, D.plains, D.eqv, D.eqvs, partD, sliD, okK, D.akey, itemsL, seqD, it_rng, rng_one, e1]) ?_
  refine end_step (s' := ⟨[.fz (.giv (ns.map .int)), .fz (.ref 0), y2, y3, y4, y5, y6, .emp, y8, y9, .fz tellA.d, .emp], [o1]⟩) (by simp -implicitDefEqProofs [evt_e, put, D.ty, Met.tys, Met.calm, D.isBl, D.isT, D.isL, D.plain, D.plains, D.eqv, D.eqvs, partD, sliD, okK, D.akey, itemsL, seqD, it_rng, tellA, Tsk.d, ds, kDo]) ?_
  refine end_step (s' := ⟨[.fz (.giv (ns.map .int)), .fz (.ref 0), y2, y3, y4, y5, y6, .emp, y8, y9, .fz tellA.d, .fz tellB.d], [o1]⟩) (by simp -implicitDefEqProofs [evt_e, put, D.ty, Met.tys, Met.calm, D.isBl, D.isT, D.isL, D.plain, D.plains, D.eqv, D.eqvs, partD, sliD, okK, D.akey, itemsL, seqD, it_rng, tellB, Tsk.d, ds, kDo, kTimes, kUnless]) ?_
  have ta := d_top tellA
  have tb := d_top tellB
  simp only [List.map_cons, List.map_nil] at d1 d2 d3
  simp only [outO] at d1 d2 d3
  exact end_fin (s' := ⟨[.fz (.giv (ns.map .int)), .fz (.ref 0), y2, y3, y4, y5, y6, .emp, y8, y9, .fz tellA.d, .fz tellB.d], [o1]⟩) (by simp -implicitDefEqProofs [evt_e, put, D.ty, Met.tys, Met.calm, D.isBl, D.isT, D.isL, D.plain, D.plains, D.eqv, D.eqvs, partD, sliD, okK, D.akey, itemsL, seqD, it_rng, d1, d2, d3, de_ok ta, de_ok tb, heq])
end Lw.k04
end
section
set_option linter.all false
set_option maxRecDepth 100000
set_option maxHeartbeats 0
open PySem PyE L2
namespace Lw.k04
def top (i : Nat) : Stmt := PySem.Challenge.pw_othershands_k04_whole_done_tasks.main.body.getD i (.Pass ⟨0, 0, 0, 0⟩)
def fns : List Str := ["begun", "gone_on", "stepped", "done_at", "is_done", "_law_pen", "_law_draw", "_law_pick", "_law_shuffled", "_law_name", "_law_names", "_law_same", "_law_calls", "_law_some_word", "_law_words_to", "_law_some_task", "_law_done", "law"]
def clss : List Str := []
def xcls : List Str := []
def cons : List (Str × D) := []
instance : Inhabited Scope := ⟨⟨.function, [], false, false, []⟩⟩
/-- begun -/
def c0 : Ct := { N := ["task", "kind", "part"], sc := default, bsc := default, muts := [], cons := cons, fns := fns, clss := clss, xcls := xcls, boxRet := false, boxAt := [], boxNm := [] }
theorem h0 : compF c0 60 (top 1) = some Lw.ir_begun := by kernel_rfl
/-- gone_on -/
def c1 : Ct := { N := ["task", "done", "call", "at", "now", "parts", "later"], sc := default, bsc := default, muts := [], cons := cons, fns := fns, clss := clss, xcls := xcls, boxRet := false, boxAt := [], boxNm := [] }
theorem h1 : compF c1 60 (top 2) = some Lw.ir_gone_on := by kernel_rfl
/-- stepped -/
def c2 : Ct := { N := ["task", "done", "call", "kind", "later", "part", "now", "ends"], sc := default, bsc := default, muts := [], cons := cons, fns := fns, clss := clss, xcls := xcls, boxRet := false, boxAt := [], boxNm := [] }
theorem h2 : compF c2 60 (top 3) = some Lw.ir_stepped := by kernel_rfl
/-- done_at -/
def c3 : Ct := { N := ["task", "word", "done", "at", "call"], sc := default, bsc := default, muts := [], cons := cons, fns := fns, clss := clss, xcls := xcls, boxRet := false, boxAt := [], boxNm := [] }
theorem h3 : compF c3 60 (top 4) = some Lw.ir_done_at := by kernel_rfl
/-- is_done -/
def c4 : Ct := { N := ["task", "word"], sc := default, bsc := default, muts := [], cons := cons, fns := fns, clss := clss, xcls := xcls, boxRet := false, boxAt := [], boxNm := [] }
theorem h4 : compF c4 60 (top 5) = some Lw.ir_is_done := by kernel_rfl
/-- _law_pen -/
def c5 : Ct := { N := ["script", "fold", "cell"], sc := default, bsc := default, muts := [], cons := cons, fns := fns, clss := clss, xcls := xcls, boxRet := true, boxAt := [], boxNm := [] }
theorem h5 : compF c5 60 (top 7) = some Lw.ir__law_pen := by kernel_rfl
/-- _law_draw -/
def c6 : Ct := { N := ["pen", "many", "cell", "digit", "blend"], sc := default, bsc := default, muts := [], cons := cons, fns := fns, clss := clss, xcls := xcls, boxRet := false, boxAt := [], boxNm := [] }
theorem h6 : compF c6 60 (top 8) = some Lw.ir__law_draw := by kernel_rfl
/-- _law_pick -/
def c7 : Ct := { N := ["pen", "some"], sc := default, bsc := default, muts := [], cons := cons, fns := fns, clss := clss, xcls := xcls, boxRet := false, boxAt := [], boxNm := [] }
theorem h7 : compF c7 60 (top 9) = some Lw.ir__law_pick := by kernel_rfl
/-- _law_shuffled -/
def c8 : Ct := { N := ["pen", "some", "left", "found", "lap"], sc := default, bsc := default, muts := ["found", "left"], cons := cons, fns := fns, clss := clss, xcls := xcls, boxRet := false, boxAt := [], boxNm := [] }
theorem h8 : compF c8 60 (top 10) = some Lw.ir__law_shuffled := by kernel_rfl
/-- _law_name -/
def c9 : Ct := { N := ["pen", "index", "word", "spot", "place"], sc := default, bsc := default, muts := [], cons := cons, fns := fns, clss := clss, xcls := xcls, boxRet := false, boxAt := [], boxNm := [] }
theorem h9 : compF c9 60 (top 11) = some Lw.ir__law_name := by kernel_rfl
/-- _law_names -/
def c10 : Ct := { N := ["pen", "many", "index"], sc := default, bsc := default, muts := [], cons := cons, fns := fns, clss := clss, xcls := xcls, boxRet := false, boxAt := [], boxNm := [] }
theorem h10 : compF c10 60 (top 12) = some Lw.ir__law_names := by kernel_rfl
/-- _law_same -/
def c11 : Ct := { N := ["told", "due", "one", "two"], sc := default, bsc := default, muts := [], cons := cons, fns := fns, clss := clss, xcls := xcls, boxRet := false, boxAt := [], boxNm := [] }
theorem h11 : compF c11 60 (top 13) = some Lw.ir__law_same := by kernel_rfl
/-- _law_calls -/
def c12 : Ct := { N := ["pen", "many"], sc := default, bsc := default, muts := [], cons := cons, fns := fns, clss := clss, xcls := xcls, boxRet := false, boxAt := [], boxNm := [] }
theorem h12 : compF c12 60 (top 14) = some Lw.ir__law_calls := by kernel_rfl
/-- _law_some_word -/
def c13 : Ct := { N := ["pen", "calls", "most", "spot"], sc := default, bsc := default, muts := [], cons := cons, fns := fns, clss := clss, xcls := xcls, boxRet := false, boxAt := [], boxNm := [] }
theorem h13 : compF c13 60 (top 15) = some Lw.ir__law_some_word := by kernel_rfl
/-- _law_words_to -/
def c14 : Ct := { N := ["calls", "most", "found", "last", "length", "longer", "word", "call"], sc := default, bsc := default, muts := [], cons := cons, fns := fns, clss := clss, xcls := xcls, boxRet := false, boxAt := [], boxNm := [] }
theorem h14 : compF c14 60 (top 16) = some Lw.ir__law_words_to := by kernel_rfl
/-- _law_some_task -/
def c15 : Ct := { N := ["pen", "calls", "many", "deep", "kinds", "way", "call", "one", "parts", "left", "size"], sc := default, bsc := default, muts := ["parts"], cons := cons, fns := fns, clss := clss, xcls := xcls, boxRet := false, boxAt := [], boxNm := [] }
theorem h15 : compF c15 60 (top 17) = some Lw.ir__law_some_task := by kernel_rfl
/-- _law_done -/
def c16 : Ct := { N := ["task", "word", "begin", "kind", "found", "at", "cuts", "cut", "end", "done", "part"], sc := default, bsc := default, muts := [], cons := cons, fns := fns, clss := clss, xcls := xcls, boxRet := false, boxAt := [], boxNm := [] }
theorem h16 : compF c16 60 (top 18) = some Lw.ir__law_done := by kernel_rfl
/-- law -/
def c17 : Ct := { N := ["script", "pen", "lap", "calls", "task", "some", "word", "turn", "at", "due", "told", "back"], sc := default, bsc := default, muts := [], cons := cons, fns := fns, clss := clss, xcls := xcls, boxRet := false, boxAt := [], boxNm := [] }
theorem h17 : compF c17 60 (top 19) = some Lw.ir_law_k04 := by kernel_rfl
section
variable {K : PySem.W.Frag} {mg : Str → Option Value} {h : Heap}
theorem heads {f0 f1 f2 f3 f4 f5 f6 f7 f8 f9 f10 f11 f12 f13 f14 f15 f16 f17 : Addr} {od0 an0 od1 an1 od2 an2 od3 an3 od4 an4 od5 an5 od6 an6 od7 an7 od8 an8 od9 an9 od10 an10 od11 an11 od12 an12 od13 an13 od14 an14 od15 an15 od16 an16 od17 an17 : Option Addr} {sl0 sl1 sl2 sl3 sl4 sl5 sl6 sl7 sl8 sl9 sl10 sl11 sl12 sl13 sl14 sl15 sl16 sl17 : Array (Option Value)} {oc0 kV0 dc0 pm0 cd0 ct0 oc1 kV1 dc1 pm1 cd1 ct1 oc2 kV2 dc2 pm2 cd2 ct2 oc3 kV3 dc3 pm3 cd3 ct3 oc4 kV4 dc4 pm4 cd4 ct4 oc5 kV5 dc5 pm5 cd5 ct5 oc6 kV6 dc6 pm6 cd6 ct6 oc7 kV7 dc7 pm7 cd7 ct7 oc8 kV8 dc8 pm8 cd8 ct8 oc9 kV9 dc9 pm9 cd9 ct9 oc10 kV10 dc10 pm10 cd10 ct10 oc11 kV11 dc11 pm11 cd11 ct11 oc12 kV12 dc12 pm12 cd12 ct12 oc13 kV13 dc13 pm13 cd13 ct13 oc14 kV14 dc14 pm14 cd14 ct14 oc15 kV15 dc15 pm15 cd15 ct15 oc16 kV16 dc16 pm16 cd16 ct16 oc17 kV17 dc17 pm17 cd17 ct17 : Value} (X : K.In h) (Gm : h.Ns mainGlobals mg) {fa : Addr} (hfa : mg "law" = some (.ref fa))
    (a0 : PySem.W.nsIn K mainGlobals "begun" = some (some (.ref f0))) (l0 : K.lookup f0 = some ⟨oc0, od0, .func (PySem.W.fnOf "begun" "begun" (defArgs (top 1)) (defBody (top 1)) (defScope (top 1)) .none kV0 dc0 pm0 an0 cd0 ct0), sl0⟩) (e0 : PySem.W.codeIn K cd0 "begun" = true) (k0 : PySem.W.keepIn K (.ref f0) = true)
    (a1 : PySem.W.nsIn K mainGlobals "gone_on" = some (some (.ref f1))) (l1 : K.lookup f1 = some ⟨oc1, od1, .func (PySem.W.fnOf "gone_on" "gone_on" (defArgs (top 2)) (defBody (top 2)) (defScope (top 2)) .none kV1 dc1 pm1 an1 cd1 ct1), sl1⟩) (e1 : PySem.W.codeIn K cd1 "gone_on" = true) (k1 : PySem.W.keepIn K (.ref f1) = true)
    (a2 : PySem.W.nsIn K mainGlobals "stepped" = some (some (.ref f2))) (l2 : K.lookup f2 = some ⟨oc2, od2, .func (PySem.W.fnOf "stepped" "stepped" (defArgs (top 3)) (defBody (top 3)) (defScope (top 3)) .none kV2 dc2 pm2 an2 cd2 ct2), sl2⟩) (e2 : PySem.W.codeIn K cd2 "stepped" = true) (k2 : PySem.W.keepIn K (.ref f2) = true)
    (a3 : PySem.W.nsIn K mainGlobals "done_at" = some (some (.ref f3))) (l3 : K.lookup f3 = some ⟨oc3, od3, .func (PySem.W.fnOf "done_at" "done_at" (defArgs (top 4)) (defBody (top 4)) (defScope (top 4)) .none kV3 dc3 pm3 an3 cd3 ct3), sl3⟩) (e3 : PySem.W.codeIn K cd3 "done_at" = true) (k3 : PySem.W.keepIn K (.ref f3) = true)
    (a4 : PySem.W.nsIn K mainGlobals "is_done" = some (some (.ref f4))) (l4 : K.lookup f4 = some ⟨oc4, od4, .func (PySem.W.fnOf "is_done" "is_done" (defArgs (top 5)) (defBody (top 5)) (defScope (top 5)) .none kV4 dc4 pm4 an4 cd4 ct4), sl4⟩) (e4 : PySem.W.codeIn K cd4 "is_done" = true) (k4 : PySem.W.keepIn K (.ref f4) = true)
    (a5 : PySem.W.nsIn K mainGlobals "_law_pen" = some (some (.ref f5))) (l5 : K.lookup f5 = some ⟨oc5, od5, .func (PySem.W.fnOf "_law_pen" "_law_pen" (defArgs (top 7)) (defBody (top 7)) (defScope (top 7)) .none kV5 dc5 pm5 an5 cd5 ct5), sl5⟩) (e5 : PySem.W.codeIn K cd5 "_law_pen" = true) (k5 : PySem.W.keepIn K (.ref f5) = true)
    (a6 : PySem.W.nsIn K mainGlobals "_law_draw" = some (some (.ref f6))) (l6 : K.lookup f6 = some ⟨oc6, od6, .func (PySem.W.fnOf "_law_draw" "_law_draw" (defArgs (top 8)) (defBody (top 8)) (defScope (top 8)) .none kV6 dc6 pm6 an6 cd6 ct6), sl6⟩) (e6 : PySem.W.codeIn K cd6 "_law_draw" = true) (k6 : PySem.W.keepIn K (.ref f6) = true)
    (a7 : PySem.W.nsIn K mainGlobals "_law_pick" = some (some (.ref f7))) (l7 : K.lookup f7 = some ⟨oc7, od7, .func (PySem.W.fnOf "_law_pick" "_law_pick" (defArgs (top 9)) (defBody (top 9)) (defScope (top 9)) .none kV7 dc7 pm7 an7 cd7 ct7), sl7⟩) (e7 : PySem.W.codeIn K cd7 "_law_pick" = true) (k7 : PySem.W.keepIn K (.ref f7) = true)
    (a8 : PySem.W.nsIn K mainGlobals "_law_shuffled" = some (some (.ref f8))) (l8 : K.lookup f8 = some ⟨oc8, od8, .func (PySem.W.fnOf "_law_shuffled" "_law_shuffled" (defArgs (top 10)) (defBody (top 10)) (defScope (top 10)) .none kV8 dc8 pm8 an8 cd8 ct8), sl8⟩) (e8 : PySem.W.codeIn K cd8 "_law_shuffled" = true) (k8 : PySem.W.keepIn K (.ref f8) = true)
    (a9 : PySem.W.nsIn K mainGlobals "_law_name" = some (some (.ref f9))) (l9 : K.lookup f9 = some ⟨oc9, od9, .func (PySem.W.fnOf "_law_name" "_law_name" (defArgs (top 11)) (defBody (top 11)) (defScope (top 11)) .none kV9 dc9 pm9 an9 cd9 ct9), sl9⟩) (e9 : PySem.W.codeIn K cd9 "_law_name" = true) (k9 : PySem.W.keepIn K (.ref f9) = true)
    (a10 : PySem.W.nsIn K mainGlobals "_law_names" = some (some (.ref f10))) (l10 : K.lookup f10 = some ⟨oc10, od10, .func (PySem.W.fnOf "_law_names" "_law_names" (defArgs (top 12)) (defBody (top 12)) (defScope (top 12)) .none kV10 dc10 pm10 an10 cd10 ct10), sl10⟩) (e10 : PySem.W.codeIn K cd10 "_law_names" = true) (k10 : PySem.W.keepIn K (.ref f10) = true)
    (a11 : PySem.W.nsIn K mainGlobals "_law_same" = some (some (.ref f11))) (l11 : K.lookup f11 = some ⟨oc11, od11, .func (PySem.W.fnOf "_law_same" "_law_same" (defArgs (top 13)) (defBody (top 13)) (defScope (top 13)) .none kV11 dc11 pm11 an11 cd11 ct11), sl11⟩) (e11 : PySem.W.codeIn K cd11 "_law_same" = true) (k11 : PySem.W.keepIn K (.ref f11) = true)
    (a12 : PySem.W.nsIn K mainGlobals "_law_calls" = some (some (.ref f12))) (l12 : K.lookup f12 = some ⟨oc12, od12, .func (PySem.W.fnOf "_law_calls" "_law_calls" (defArgs (top 14)) (defBody (top 14)) (defScope (top 14)) .none kV12 dc12 pm12 an12 cd12 ct12), sl12⟩) (e12 : PySem.W.codeIn K cd12 "_law_calls" = true) (k12 : PySem.W.keepIn K (.ref f12) = true)
    (a13 : PySem.W.nsIn K mainGlobals "_law_some_word" = some (some (.ref f13))) (l13 : K.lookup f13 = some ⟨oc13, od13, .func (PySem.W.fnOf "_law_some_word" "_law_some_word" (defArgs (top 15)) (defBody (top 15)) (defScope (top 15)) .none kV13 dc13 pm13 an13 cd13 ct13), sl13⟩) (e13 : PySem.W.codeIn K cd13 "_law_some_word" = true) (k13 : PySem.W.keepIn K (.ref f13) = true)
    (a14 : PySem.W.nsIn K mainGlobals "_law_words_to" = some (some (.ref f14))) (l14 : K.lookup f14 = some ⟨oc14, od14, .func (PySem.W.fnOf "_law_words_to" "_law_words_to" (defArgs (top 16)) (defBody (top 16)) (defScope (top 16)) .none kV14 dc14 pm14 an14 cd14 ct14), sl14⟩) (e14 : PySem.W.codeIn K cd14 "_law_words_to" = true) (k14 : PySem.W.keepIn K (.ref f14) = true)
    (a15 : PySem.W.nsIn K mainGlobals "_law_some_task" = some (some (.ref f15))) (l15 : K.lookup f15 = some ⟨oc15, od15, .func (PySem.W.fnOf "_law_some_task" "_law_some_task" (defArgs (top 17)) (defBody (top 17)) (defScope (top 17)) .none kV15 dc15 pm15 an15 cd15 ct15), sl15⟩) (e15 : PySem.W.codeIn K cd15 "_law_some_task" = true) (k15 : PySem.W.keepIn K (.ref f15) = true)
    (a16 : PySem.W.nsIn K mainGlobals "_law_done" = some (some (.ref f16))) (l16 : K.lookup f16 = some ⟨oc16, od16, .func (PySem.W.fnOf "_law_done" "_law_done" (defArgs (top 18)) (defBody (top 18)) (defScope (top 18)) .none kV16 dc16 pm16 an16 cd16 ct16), sl16⟩) (e16 : PySem.W.codeIn K cd16 "_law_done" = true) (k16 : PySem.W.keepIn K (.ref f16) = true)
    (a17 : PySem.W.nsIn K mainGlobals "law" = some (some (.ref f17))) (l17 : K.lookup f17 = some ⟨oc17, od17, .func (PySem.W.fnOf "law" "law" (defArgs (top 19)) (defBody (top 19)) (defScope (top 19)) .none kV17 dc17 pm17 an17 cd17 ct17), sl17⟩) (e17 : PySem.W.codeIn K cd17 "law" = true) (k17 : PySem.W.keepIn K (.ref f17) = true)
    (z_len : PySem.W.nsIn K mainGlobals "len" = some none) (z_int : PySem.W.nsIn K mainGlobals "int" = some none) (z_list : PySem.W.nsIn K mainGlobals "list" = some none) (z_tuple : PySem.W.nsIn K mainGlobals "tuple" = some none) (z_sorted : PySem.W.nsIn K mainGlobals "sorted" = some none) (z_str : PySem.W.nsIn K mainGlobals "str" = some none) (z_repr : PySem.W.nsIn K mainGlobals "repr" = some none) (z_all : PySem.W.nsIn K mainGlobals "all" = some none) (z_any : PySem.W.nsIn K mainGlobals "any" = some none) (z_sum : PySem.W.nsIn K mainGlobals "sum" = some none) (z_max : PySem.W.nsIn K mainGlobals "max" = some none) (z_min : PySem.W.nsIn K mainGlobals "min" = some none) (z_dict : PySem.W.nsIn K mainGlobals "dict" = some none) (z_range : PySem.W.nsIn K mainGlobals "range" = some none) (z_zip : PySem.W.nsIn K mainGlobals "zip" = some none) (z_enumerate : PySem.W.nsIn K mainGlobals "enumerate" = some none) (z_reversed : PySem.W.nsIn K mainGlobals "reversed" = some none) (z_isinstance : PySem.W.nsIn K mainGlobals "isinstance" = some none) (z_set : PySem.W.nsIn K mainGlobals "set" = some none) (z_bool : PySem.W.nsIn K mainGlobals "bool" = some none) :
    ∃ fd : FuncData, (∀ (s : Shared) (u : Value), BindsTo s fd ⟨[u], []⟩ [("script", u)]) ∧ TextOk K mg G cons fns ∧ DefOk K mg G cons fns "law" fa fd ["script"] := by
  have e := hfa.symm.trans (PySem.W.mg_of X Gm a17)
  cases e
  have D0 : DefOk K mg G cons fns "begun" f0 _ ["task"] := defOk_mk (g := c0) (n := 60) (st := top 1) (df := Lw.ir_begun) (by rfl) h0 rfl rfl (by rfl) l0 e0 (bindsOk_none (fun us hl => match us, hl with | [_], _ => rfl))
  have D1 : DefOk K mg G cons fns "gone_on" f1 _ ["task", "done", "call"] := defOk_mk (g := c1) (n := 60) (st := top 2) (df := Lw.ir_gone_on) (by rfl) h1 rfl rfl (by rfl) l1 e1 (bindsOk_none (fun us hl => match us, hl with | [_, _, _], _ => rfl))
  have D2 : DefOk K mg G cons fns "stepped" f2 _ ["task", "done", "call"] := defOk_mk (g := c2) (n := 60) (st := top 3) (df := Lw.ir_stepped) (by rfl) h2 rfl rfl (by rfl) l2 e2 (bindsOk_none (fun us hl => match us, hl with | [_, _, _], _ => rfl))
  have D3 : DefOk K mg G cons fns "done_at" f3 _ ["task", "word"] := defOk_mk (g := c3) (n := 60) (st := top 4) (df := Lw.ir_done_at) (by rfl) h3 rfl rfl (by rfl) l3 e3 (bindsOk_none (fun us hl => match us, hl with | [_, _], _ => rfl))
  have D4 : DefOk K mg G cons fns "is_done" f4 _ ["task", "word"] := defOk_mk (g := c4) (n := 60) (st := top 5) (df := Lw.ir_is_done) (by rfl) h4 rfl rfl (by rfl) l4 e4 (bindsOk_none (fun us hl => match us, hl with | [_, _], _ => rfl))
  have D5 : DefOk K mg G cons fns "_law_pen" f5 _ ["script"] := defOk_mk (g := c5) (n := 60) (st := top 7) (df := Lw.ir__law_pen) (by rfl) h5 rfl rfl (by rfl) l5 e5 (bindsOk_none (fun us hl => match us, hl with | [_], _ => rfl))
  have D6 : DefOk K mg G cons fns "_law_draw" f6 _ ["pen", "many"] := defOk_mk (g := c6) (n := 60) (st := top 8) (df := Lw.ir__law_draw) (by rfl) h6 rfl rfl (by rfl) l6 e6 (bindsOk_none (fun us hl => match us, hl with | [_, _], _ => rfl))
  have D7 : DefOk K mg G cons fns "_law_pick" f7 _ ["pen", "some"] := defOk_mk (g := c7) (n := 60) (st := top 9) (df := Lw.ir__law_pick) (by rfl) h7 rfl rfl (by rfl) l7 e7 (bindsOk_none (fun us hl => match us, hl with | [_, _], _ => rfl))
  have D8 : DefOk K mg G cons fns "_law_shuffled" f8 _ ["pen", "some"] := defOk_mk (g := c8) (n := 60) (st := top 10) (df := Lw.ir__law_shuffled) (by rfl) h8 rfl rfl (by rfl) l8 e8 (bindsOk_none (fun us hl => match us, hl with | [_, _], _ => rfl))
  have D9 : DefOk K mg G cons fns "_law_name" f9 _ ["pen", "index"] := defOk_mk (g := c9) (n := 60) (st := top 11) (df := Lw.ir__law_name) (by rfl) h9 rfl rfl (by rfl) l9 e9 (bindsOk_none (fun us hl => match us, hl with | [_, _], _ => rfl))
  have D10 : DefOk K mg G cons fns "_law_names" f10 _ ["pen", "many"] := defOk_mk (g := c10) (n := 60) (st := top 12) (df := Lw.ir__law_names) (by rfl) h10 rfl rfl (by rfl) l10 e10 (bindsOk_none (fun us hl => match us, hl with | [_, _], _ => rfl))
  have D11 : DefOk K mg G cons fns "_law_same" f11 _ ["told", "due"] := defOk_mk (g := c11) (n := 60) (st := top 13) (df := Lw.ir__law_same) (by rfl) h11 rfl rfl (by rfl) l11 e11 (bindsOk_none (fun us hl => match us, hl with | [_, _], _ => rfl))
  have D12 : DefOk K mg G cons fns "_law_calls" f12 _ ["pen", "many"] := defOk_mk (g := c12) (n := 60) (st := top 14) (df := Lw.ir__law_calls) (by rfl) h12 rfl rfl (by rfl) l12 e12 (bindsOk_none (fun us hl => match us, hl with | [_, _], _ => rfl))
  have D13 : DefOk K mg G cons fns "_law_some_word" f13 _ ["pen", "calls", "most"] := defOk_mk (g := c13) (n := 60) (st := top 15) (df := Lw.ir__law_some_word) (by rfl) h13 rfl rfl (by rfl) l13 e13 (bindsOk_none (fun us hl => match us, hl with | [_, _, _], _ => rfl))
  have D14 : DefOk K mg G cons fns "_law_words_to" f14 _ ["calls", "most"] := defOk_mk (g := c14) (n := 60) (st := top 16) (df := Lw.ir__law_words_to) (by rfl) h14 rfl rfl (by rfl) l14 e14 (bindsOk_none (fun us hl => match us, hl with | [_, _], _ => rfl))
  have D15 : DefOk K mg G cons fns "_law_some_task" f15 _ ["pen", "calls", "many", "deep"] := defOk_mk (g := c15) (n := 60) (st := top 17) (df := Lw.ir__law_some_task) (by rfl) h15 rfl rfl (by rfl) l15 e15 (bindsOk_none (fun us hl => match us, hl with | [_, _, _, _], _ => rfl))
  have D16 : DefOk K mg G cons fns "_law_done" f16 _ ["task", "word", "begin"] := defOk_mk (g := c16) (n := 60) (st := top 18) (df := Lw.ir__law_done) (by rfl) h16 rfl rfl (by rfl) l16 e16 (bindsOk_none (fun us hl => match us, hl with | [_, _, _], _ => rfl))
  have D17 : DefOk K mg G cons fns "law" f17 _ ["script"] := defOk_mk (g := c17) (n := 60) (st := top 19) (df := Lw.ir_law_k04) (by rfl) h17 rfl rfl (by rfl) l17 e17 (bindsOk_none (fun us hl => match us, hl with | [_], _ => rfl))
  refine ⟨_, fun s u => .of_eq rfl, ⟨?_, ?_, ?_⟩, D17⟩
  · intro x d hx
    cases hx
  · intro x hx
    simp only [bltAll, List.mem_cons, List.not_mem_nil, or_false] at hx
    rcases hx with rfl | rfl | rfl | rfl | rfl | rfl | rfl | rfl | rfl | rfl | rfl | rfl | rfl | rfl | rfl | rfl | rfl | rfl | rfl | rfl
    · exact PySem.W.mg_none_of X Gm z_len
    · exact PySem.W.mg_none_of X Gm z_int
    · exact PySem.W.mg_none_of X Gm z_list
    · exact PySem.W.mg_none_of X Gm z_tuple
    · exact PySem.W.mg_none_of X Gm z_sorted
    · exact PySem.W.mg_none_of X Gm z_str
    · exact PySem.W.mg_none_of X Gm z_repr
    · exact PySem.W.mg_none_of X Gm z_all
    · exact PySem.W.mg_none_of X Gm z_any
    · exact PySem.W.mg_none_of X Gm z_sum
    · exact PySem.W.mg_none_of X Gm z_max
    · exact PySem.W.mg_none_of X Gm z_min
    · exact PySem.W.mg_none_of X Gm z_dict
    · exact PySem.W.mg_none_of X Gm z_range
    · exact PySem.W.mg_none_of X Gm z_zip
    · exact PySem.W.mg_none_of X Gm z_enumerate
    · exact PySem.W.mg_none_of X Gm z_reversed
    · exact PySem.W.mg_none_of X Gm z_isinstance
    · exact PySem.W.mg_none_of X Gm z_set
    · exact PySem.W.mg_none_of X Gm z_bool
  · intro f hf
    simp only [fns, List.mem_cons, List.not_mem_nil, or_false] at hf
    rcases hf with rfl | rfl | rfl | rfl | rfl | rfl | rfl | rfl | rfl | rfl | rfl | rfl | rfl | rfl | rfl | rfl | rfl | rfl
    · exact ⟨f0, _, _, PySem.W.mg_of X Gm a0, k0, D0⟩
    · exact ⟨f1, _, _, PySem.W.mg_of X Gm a1, k1, D1⟩
    · exact ⟨f2, _, _, PySem.W.mg_of X Gm a2, k2, D2⟩
    · exact ⟨f3, _, _, PySem.W.mg_of X Gm a3, k3, D3⟩
    · exact ⟨f4, _, _, PySem.W.mg_of X Gm a4, k4, D4⟩
    · exact ⟨f5, _, _, PySem.W.mg_of X Gm a5, k5, D5⟩
    · exact ⟨f6, _, _, PySem.W.mg_of X Gm a6, k6, D6⟩
    · exact ⟨f7, _, _, PySem.W.mg_of X Gm a7, k7, D7⟩
    · exact ⟨f8, _, _, PySem.W.mg_of X Gm a8, k8, D8⟩
    · exact ⟨f9, _, _, PySem.W.mg_of X Gm a9, k9, D9⟩
    · exact ⟨f10, _, _, PySem.W.mg_of X Gm a10, k10, D10⟩
    · exact ⟨f11, _, _, PySem.W.mg_of X Gm a11, k11, D11⟩
    · exact ⟨f12, _, _, PySem.W.mg_of X Gm a12, k12, D12⟩
    · exact ⟨f13, _, _, PySem.W.mg_of X Gm a13, k13, D13⟩
    · exact ⟨f14, _, _, PySem.W.mg_of X Gm a14, k14, D14⟩
    · exact ⟨f15, _, _, PySem.W.mg_of X Gm a15, k15, D15⟩
    · exact ⟨f16, _, _, PySem.W.mg_of X Gm a16, k16, D16⟩
    · exact ⟨f17, _, _, PySem.W.mg_of X Gm a17, k17, D17⟩
end
end Lw.k04
theorem Lw.k04.room : Room (2 * 40) callerA := ⟨rfl, by decide, by decide⟩
open PySem PySem.W PyProof.Rows
set_option maxRecDepth 100000 in
set_option maxHeartbeats 0 in
theorem PySem.Challenge.cw_othershands_k04_whole_done_tasks_holds : PySem.Challenge.rw_othershands_k04_whole_done_tasks.Holds := by
  w_on; o_law; k_head; (case hw => w_witness2)
  k_fill
  refine PyE.law_end (l := PySem.Challenge.rw_othershands_k04_whole_done_tasks) (m := 63) (k := 40) (G := Lw.k04.G) (cons := Lw.k04.cons) (fns := Lw.k04.fns) rfl (by decide) rfl Lw.k04.room (fun w h Y => PySem.W.kIn_of Y) ?F (fun ns _ => Lw.k04.math ns)
  case F =>
    intro w mg fa h KX Gm hmg
    refine' Lw.k04.heads KX Gm hmg ?a0 ?l0 ?e0 ?k0 ?a1 ?l1 ?e1 ?k1 ?a2 ?l2 ?e2 ?k2 ?a3 ?l3 ?e3 ?k3 ?a4 ?l4 ?e4 ?k4 ?a5 ?l5 ?e5 ?k5 ?a6 ?l6 ?e6 ?k6 ?a7 ?l7 ?e7 ?k7 ?a8 ?l8 ?e8 ?k8 ?a9 ?l9 ?e9 ?k9 ?a10 ?l10 ?e10 ?k10 ?a11 ?l11 ?e11 ?k11 ?a12 ?l12 ?e12 ?k12 ?a13 ?l13 ?e13 ?k13 ?a14 ?l14 ?e14 ?k14 ?a15 ?l15 ?e15 ?k15 ?a16 ?l16 ?e16 ?k16 ?a17 ?l17 ?e17 ?k17 ?z_len ?z_int ?z_list ?z_tuple ?z_sorted ?z_str ?z_repr ?z_all ?z_any ?z_sum ?z_max ?z_min ?z_dict ?z_range ?z_zip ?z_enumerate ?z_reversed ?z_isinstance ?z_set ?z_bool
    (case a0 => k_is)
    (case l0 => k_is)
    (case e0 => k_is)
    (case k0 => k_is)
    (case a1 => k_is)
    (case l1 => k_is)
    (case e1 => k_is)
    (case k1 => k_is)
    (case a2 => k_is)
    (case l2 => k_is)
    (case e2 => k_is)
    (case k2 => k_is)
    (case a3 => k_is)
    (case l3 => k_is)
    (case e3 => k_is)
    (case k3 => k_is)
    (case a4 => k_is)
    (case l4 => k_is)
    (case e4 => k_is)
    (case k4 => k_is)
    (case a5 => k_is)
    (case l5 => k_is)
    (case e5 => k_is)
    (case k5 => k_is)
    (case a6 => k_is)
    (case l6 => k_is)
    (case e6 => k_is)
    (case k6 => k_is)
    (case a7 => k_is)
    (case l7 => k_is)
    (case e7 => k_is)
    (case k7 => k_is)
    (case a8 => k_is)
    (case l8 => k_is)
    (case e8 => k_is)
    (case k8 => k_is)
    (case a9 => k_is)
    (case l9 => k_is)
    (case e9 => k_is)
    (case k9 => k_is)
    (case a10 => k_is)
    (case l10 => k_is)
    (case e10 => k_is)
    (case k10 => k_is)
    (case a11 => k_is)
    (case l11 => k_is)
    (case e11 => k_is)
    (case k11 => k_is)
    (case a12 => k_is)
    (case l12 => k_is)
    (case e12 => k_is)
    (case k12 => k_is)
    (case a13 => k_is)
    (case l13 => k_is)
    (case e13 => k_is)
    (case k13 => k_is)
    (case a14 => k_is)
    (case l14 => k_is)
    (case e14 => k_is)
    (case k14 => k_is)
    (case a15 => k_is)
    (case l15 => k_is)
    (case e15 => k_is)
    (case k15 => k_is)
    (case a16 => k_is)
    (case l16 => k_is)
    (case e16 => k_is)
    (case k16 => k_is)
    (case a17 => k_is)
    (case l17 => k_is)
    (case e17 => k_is)
    (case k17 => k_is)
    (case z_len => k_is)
    (case z_int => k_is)
    (case z_list => k_is)
    (case z_tuple => k_is)
    (case z_sorted => k_is)
    (case z_str => k_is)
    (case z_repr => k_is)
    (case z_all => k_is)
    (case z_any => k_is)
    (case z_sum => k_is)
    (case z_max => k_is)
    (case z_min => k_is)
    (case z_dict => k_is)
    (case z_range => k_is)
    (case z_zip => k_is)
    (case z_enumerate => k_is)
    (case z_reversed => k_is)
    (case z_isinstance => k_is)
    (case z_set => k_is)
    (case z_bool => k_is)
end
