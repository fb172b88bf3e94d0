import PyProof.Rows.All
import Wide.All
import OpenK.AllK
import Wide.FinOn
import HandS.ForMost
import HandS.ForSpec
import HandS.TryMany
import HandS.WideBits
import HandS.Flow
import HandS.Style
import HandS.NoneIn
import HandS.FStr
import HandS.IsInst
import HandS.SortKw
import HandS.SortOrd
import HandS.Zip
import HandS.Rev
import HandS.Small
import HandS.Remove
import HandS.SetKeys
import HandS.Conv
import HandS.Lambda
import HandS.ExcInit
import HandS.HeadWalk
import HandS.TupAny
import KE.KEqNest
import PyProof.NeKinds
import PyProof.StrLawsIn
import HandS.TupLe
import HandS.TupLen
import PyProof.NoPylong
import HandS.Comp
import HandS.Codes
import HandS.WordsExc
import KE.KStateDown
import Lean
import HandS.Ends
import HandS.More
import HandS.Words
import HandS.Defaults
import HandS.Head0
import HandS.Head1
import HandS.Head2
import HandS.HeadEnd
import HandS.HeadHook1
import HandS.HeadHook2
import PySem.Challenge.RW_threeroofs_k12_whole_two_plots
set_option Elab.async false
set_option linter.all false
set_option maxRecDepth 100000
set_option maxHeartbeats 0
set_option exponentiation.threshold 10000
/-! The little language: values, cells, expressions, statements, and what they do. -/
namespace MP

inductive W where
  | non | bl (b : Bool) | int (i : Int) | str (s : List Nat) | tup (xs : List W) | ref (a : Nat)
  deriving Inhabited, Repr

inductive O where
  | lst (xs : List W)
  | dct (kvs : List (W × W))
  | ins (c : String) (fs : List (String × W))
  deriving Inhabited, Repr

abbrev Hp := List O
abbrev Env := List (Option W)

structure Exn where
  c : String
  fs : List (String × W)
  deriving Inhabited, Repr

inductive R (α : Type) where
  | bad | ok (a : α) (h : Hp) | exc (x : Exn) (h : Hp)
  deriving Inhabited, Repr

def R.bind {α β : Type} (r : R α) (f : α → Hp → R β) : R β :=
  match r with
  | .ok a h => f a h
  | .exc x h => .exc x h
  | .bad => .bad
/-- a pure part that may fail -/
def R.of {α : Type} (o : Option α) (h : Hp) : R α :=
  match o with
  | some a => .ok a h
  | none => .bad
theorem R.bind_congr {α β : Type} {r r' : R α} {f : α → Hp → R β} (e : r = r') : r.bind f = r'.bind f := by rw [e]
@[simp] theorem R.bind_ok {α β : Type} {a : α} {h : Hp} {f : α → Hp → R β} : (R.ok a h).bind f = f a h := rfl
@[simp] theorem R.bind_exc {α β : Type} {x : Exn} {h : Hp} {f : α → Hp → R β} : (R.exc x h).bind f = .exc x h := rfl
@[simp] theorem R.bind_bad {α β : Type} {f : α → Hp → R β} : (R.bad : R α).bind f = .bad := rfl
@[simp] theorem R.of_some {α : Type} {a : α} {h : Hp} : R.of (some a) h = .ok a h := rfl
@[simp] theorem R.of_none {α : Type} {h : Hp} : R.of (none : Option α) h = .bad := rfl
/-- a part of the answer decides -/
def thenO {α β : Type} (o : Option α) (f : α → R β) : R β :=
  match o with
  | some a => f a
  | none => .bad
theorem thenO_congr {α β : Type} {r r' : Option α} {f : α → R β} (e : r = r') : thenO r f = thenO r' f := by rw [e]
@[simp] theorem thenO_some {α β : Type} {a : α} {f : α → R β} : thenO (some a) f = f a := rfl
@[simp] theorem thenO_none {α β : Type} {f : α → R β} : thenO (none : Option α) f = .bad := rfl
/-- if it is so -/
def guardR {β : Type} (b : Bool) (r : R β) : R β := if b then r else .bad
theorem guardR_congr {β : Type} {b b' : Bool} {r : R β} (e : b = b') : guardR b r = guardR b' r := by rw [e]
@[simp] theorem guardR_true {β : Type} {r : R β} : guardR true r = r := rfl
@[simp] theorem guardR_false {β : Type} {r : R β} : guardR false r = .bad := rfl

/-! ### the heap -/
def rd (h : Hp) (a : Nat) : Option O := h[a]?
def mk (o : O) (h : Hp) : R W := .ok (.ref h.length) (h ++ [o])
/-- a cell changes: it is there, and not walked (lk) -/
def put (lk : List Nat) (a : Nat) (o : O) (h : Hp) : R Unit := if a < h.length ∧ a ∉ lk then .ok () (h.set a o) else .bad

/-! ### operators -/
inductive BinOp where
  | add | sub | mul | fdiv | mod | pow | shl | shr | band | bor
  deriving DecidableEq, Repr
inductive CmpOp where
  | eq | ne | lt | le | gt | ge | isin | notin | is | isnot
  deriving DecidableEq, Repr

/-! ### equality -/
def eqs (f : W → W → Option Bool) : List W → List W → Option Bool
  | x :: xs, y :: ys => (f x y).bind fun a => (eqs f xs ys).map fun b => a && b
  | _, _ => some true
/-- of two that are not both tuples, not both cells -/
def eqS : W → W → Option Bool
  | .non, .non => some true
  | .bl a, .bl b => some (a == b)
  | .int a, .int b => some (a == b)
  | .bl a, .int b => some ((if a then 1 else 0) == b)
  | .int a, .bl b => some (a == (if b then 1 else 0))
  | .str a, .str b => some (a == b)
  | .tup _, .tup _ => none
  | .ref _, _ => none
  | _, .ref _ => none
  | _, _ => some false
/-! ### keys: an int, a text, a tuple of these; the keys of a dict are of one kind -/
def isFlat : W → Bool
  | .int _ => true
  | .str _ => true
  | _ => false
def kind : W → Nat
  | .int _ => 1
  | .str _ => 1
  | .tup xs => if xs.all isFlat then 2 else 0
  | _ => 0
def isKey (k : W) : Bool := kind k != 0
def keyIn (k : W) (kvs : List (W × W)) : Bool := isKey k && kvs.all fun p => kind p.1 == kind k
mutual
@[simp] def keq : W → W → Bool
  | .int a, .int b => a == b
  | .str a, .str b => a == b
  | .tup xs, .tup ys => keqs xs ys
  | _, _ => false
@[simp] def keqs : List W → List W → Bool
  | [], [] => true
  | x :: xs, y :: ys => keq x y && keqs xs ys
  | _, _ => false
end
def dget (k : W) : List (W × W) → Option W
  | [] => none
  | (k', v) :: r => if keq k' k then some v else dget k r
def dput (k v : W) : List (W × W) → List (W × W)
  | [] => [(k, v)]
  | (k', u) :: r => if keq k' k then (k', v) :: r else (k', u) :: dput k v r
def ddel (k : W) : List (W × W) → List (W × W)
  | [] => []
  | (k', u) :: r => if keq k' k then r else (k', u) :: ddel k r
def dmerge (xs : List (W × W)) : List (W × W) → List (W × W)
  | [] => xs
  | (k, v) :: r => dmerge (dput k v xs) r

/-- the pairs of the one, each with the other's -/
def eqD (f : W → W → Option Bool) (ys : List (W × W)) : List (W × W) → Option Bool
  | [] => some true
  | (k, v) :: r =>
    match dget k ys with
    | none => (eqD f ys r).map fun _ => false
    | some u => (f v u).bind fun a => (eqD f ys r).map fun b => a && b
def eqO (f : W → W → Option Bool) : Option O → Option O → Option Bool
  | some (.lst xs), some (.lst ys) => if xs.length = ys.length then eqs f xs ys else some false
  | some (.dct xs), some (.dct ys) => if xs.all (fun p => isFlat p.1) && ys.all (fun p => isFlat p.1) then (eqD f ys xs).map fun b => decide (xs.length = ys.length) && b else none
  | _, _ => none
def eqW : Nat → Hp → W → W → Option Bool
  | n + 1, h, .tup xs, .tup ys => (eqs (eqW n h) xs ys).map fun b => b && decide (xs.length = ys.length)
  | n + 1, h, .ref a, .ref b => if a = b ∧ a < h.length then some true else eqO (eqW n h) (rd h a) (rd h b)
  | _, _, x, y => eqS x y
/-- two values as they stand -/
def weq (h : Hp) : W → W → Option Bool
  | .tup xs, .tup ys => (eqs (eqW 19 h) xs ys).map fun b => b && decide (xs.length = ys.length)
  | .ref a, .ref b => eqO (eqW 19 h) (rd h a) (rd h b)
  | x, y => eqS x y
/-- of data without cells, of no great depth -/
def plain : Nat → W → Bool
  | n + 1, .tup xs => xs.all (plain n)
  | _, .tup _ => false
  | _, .ref _ => false
  | _, _ => true
/-- a display of pairs: few, their keys of one kind -/
def dictOk (ps : List (W × W)) : Bool := ps.all fun p => isFlat p.1
/-- texts in order -/
def slt : List Nat → List Nat → Bool
  | _, [] => false
  | [], _ :: _ => true
  | x :: xs, y :: ys => if x = y then slt xs ys else decide (x < y)
-- less, of intsV, truths, texts, tuples of these
mutual
def keqb : W → W → Bool
  | .int a, .int b => a == b
  | .bl a, .bl b => a == b
  | .str a, .str b => a == b
  | .tup xs, .tup ys => keqbs xs ys
  | _, _ => false
def keqbs : List W → List W → Bool
  | [], [] => true
  | x :: xs, y :: ys => keqb x y && keqbs xs ys
  | _, _ => false
end
mutual
def wlt : W → W → Option Bool
  | .int a, .int b => some (decide (a < b))
  | .bl a, .bl b => some (!a && b)
  | .str a, .str b => some (slt a b)
  | .tup xs, .tup ys => wlts xs ys
  | _, _ => none
def wlts : List W → List W → Option Bool
  | _, [] => some false
  | [], _ :: _ => some true
  | x :: xs, y :: ys => if keqb x y then wlts xs ys else wlt x y
end
def wle (x y : W) : Bool := match wlt y x with
  | some b => !b
  | none => false
def wltOk (xs : List W) : Bool := xs.all fun x => xs.all fun y => (wlt x y).isSome
def sortW (xs : List W) : Option (List W) := if wltOk xs then some (xs.mergeSort wle) else none

/-- numbers that may be multiplied, texts and lists that may be joined -/
def LINE : Nat := 1000000
def mulOk (i j : Int) : Bool := decide (i.natAbs < 2 ^ 64) || decide (j.natAbs < 2 ^ 64) || (decide (i.natAbs < 2 ^ 4096) && decide (j.natAbs < 2 ^ 4096))
def divOk (j : Int) : Bool := decide (0 < j) && decide (j < 2 ^ 1000)
def powOk (i j : Int) : Bool := decide (0 ≤ j) && decide (j ≤ 1000000) && decide (i.natAbs < 2 ^ 64)
def addO : Option O → Option O → Hp → R W
  | some (.lst xs), some (.lst ys), h => guardR (decide (xs.length + ys.length ≤ LINE)) (mk (.lst (xs ++ ys)) h)
  | _, _, _ => .bad
def bin : BinOp → W → W → Hp → R W
  | .add, .int i, .int j, h => .ok (.int (i + j)) h
  | .sub, .int i, .int j, h => .ok (.int (i - j)) h
  | .mul, .int i, .int j, h => guardR (mulOk i j) (.ok (.int (i * j)) h)
  | .fdiv, .int i, .int j, h => guardR (divOk j) (.ok (.int (i / j)) h)
  | .mod, .int i, .int j, h => guardR (decide (0 < j)) (.ok (.int (i % j)) h)
  | .pow, .int i, .int j, h => guardR (powOk i j) (.ok (.int (i ^ j.toNat)) h)
  | .shl, .int i, .int j, h => guardR (powOk i j) (.ok (.int (i * 2 ^ j.toNat)) h)
  | .shr, .int i, .int j, h => guardR (decide (0 ≤ j)) (.ok (.int (i / 2 ^ j.toNat)) h)
  | .band, .int i, .int j, h => guardR (decide (0 ≤ i) && decide (0 ≤ j)) (.ok (.int ((i.toNat &&& j.toNat : Nat) : Int)) h)
  | .bor, .int i, .int j, h => guardR (decide (0 ≤ i) && decide (0 ≤ j)) (.ok (.int ((i.toNat ||| j.toNat : Nat) : Int)) h)
  | .add, .str a, .str b, h => guardR (decide (a.length + b.length ≤ LINE)) (.ok (.str (a ++ b)) h)
  | .add, .tup a, .tup b, h => guardR (decide (a.length + b.length ≤ LINE)) (.ok (.tup (a ++ b)) h)
  | .mul, .str a, .int j, h => guardR (decide (a.length * j.toNat ≤ LINE) && decide (j.natAbs < 2 ^ 62)) (.ok (.str (List.replicate j.toNat a).flatten) h)
  | .add, .ref a, .ref b, h => addO (rd h a) (rd h b) h
  | _, _, _, _ => .bad

/-- in place -/
def ibin : BinOp → W → W → Hp → R W
  | .add, .int i, .int j, h => .ok (.int (i + j)) h
  | _, _, _, _ => .bad
/-- a text within a text -/
def sIn (a : List Nat) : List Nat → Bool
  | [] => a.isEmpty
  | c :: r => a.isPrefixOf (c :: r) || sIn a r
def memW (x : W) (ys : List W) : Option Bool := if plain 20 x && ys.all (plain 20) then some (ys.any fun y => eqW 20 [] y x == some true) else none
def inO (x : W) : Option O → Option Bool
  | some (.lst ys) => memW x ys
  | some (.dct kvs) => if keyIn x kvs then some (dget x kvs).isSome else none
  | _ => none
def isIn : W → W → Hp → Option Bool
  | .str a, .str b, _ => some (sIn a b)
  | x, .tup ys, _ => memW x ys
  | x, .ref b, h => inO x (rd h b)
  | _, _, _ => none
def isNon : W → Bool
  | .non => true
  | _ => false
def cmp : CmpOp → W → W → Hp → Option Bool
  | .eq, x, y, h => weq h x y
  | .ne, x, y, h => (weq h x y).map (!·)
  | .lt, .int i, .int j, _ => some (decide (i < j))
  | .le, .int i, .int j, _ => some (decide (i ≤ j))
  | .gt, .int i, .int j, _ => some (decide (j < i))
  | .ge, .int i, .int j, _ => some (decide (j ≤ i))
  | .lt, .str a, .str b, _ => some (slt a b)
  | .le, .str a, .str b, _ => some (!slt b a)
  | .gt, .str a, .str b, _ => some (slt b a)
  | .ge, .str a, .str b, _ => some (!slt a b)
  | .isin, x, y, h => isIn x y h
  | .notin, x, y, h => (isIn x y h).map (!·)
  | .is, x, .non, _ => some (isNon x)
  | .isnot, x, .non, _ => some (!isNon x)
  | .is, .bl a, .bl b, _ => some (a == b)
  | .isnot, .bl a, .bl b, _ => some (a != b)
  | _, _, _, _ => none

/-! ### places -/
def ixN (n : Nat) (i : Int) : Option Nat :=
  if 0 ≤ i then (if i < n then some i.toNat else none) else if -(n : Int) ≤ i then some (i + n).toNat else none
def atI {α : Type} (xs : List α) (i : Int) : Option α := (ixN xs.length i).bind fun j => xs[j]?
def clampI (n : Nat) (d : Nat) : Option Int → Nat
  | none => d
  | some i => if i < 0 then (i + n).toNat else min i.toNat n
def cutL {α : Type} (xs : List α) (lo hi : Option Int) : List α :=
  (xs.take (clampI xs.length xs.length hi)).drop (clampI xs.length 0 lo)
def itemO (y : W) : Option O → Option W
  | some (.lst xs) => match y with
    | .int i => atI xs i
    | _ => none
  | some (.dct kvs) => if keyIn y kvs then dget y kvs else none
  | _ => none
def item : W → W → Hp → Option W
  | .str s, .int i, _ => (atI s i).map fun c => .str [c]
  | .tup xs, .int i, _ => atI xs i
  | .ref a, y, h => itemO y (rd h a)
  | _, _, _ => none
def sliceO (lo hi : Option Int) (h : Hp) : Option O → R W
  | some (.lst xs) => mk (.lst (cutL xs lo hi)) h
  | _ => .bad
def slice : W → Option Int → Option Int → Hp → R W
  | .str s, lo, hi, h => .ok (.str (cutL s lo hi)) h
  | .tup xs, lo, hi, h => .ok (.tup (cutL xs lo hi)) h
  | .ref a, lo, hi, h => sliceO lo hi h (rd h a)
  | _, _, _, _ => .bad
def fldO (f : String) : Option O → Option W
  | some (.ins _ fs) => fs.lookup f
  | _ => none
def fldOf : W → String → Hp → Option W
  | .ref a, f, h => fldO f (rd h a)
  | _, _, _ => none

/-! ### texts -/
def splitOn (c : Nat) : List Nat → List (List Nat)
  | [] => [[]]
  | x :: r => if x = c then [] :: splitOn c r else
    match splitOn c r with
    | [] => [[x]]
    | w :: ws => (x :: w) :: ws
def joinS (sep : List Nat) : List (List Nat) → List Nat
  | [] => []
  | [x] => x
  | x :: y :: r => x ++ sep ++ joinS sep (y :: r)
/-- ahead of the first c; whether there is one; behind it -/
def cutAt (c : Nat) : List Nat → List Nat × Bool × List Nat
  | [] => ([], false, [])
  | x :: r => if x = c then ([], true, r) else let p := cutAt c r; (x :: p.1, p.2.1, p.2.2)
def partitionS (c : Nat) (s : List Nat) : W :=
  let p := cutAt c s
  if p.2.1 then .tup [.str p.1, .str [c], .str p.2.2] else .tup [.str s, .str [], .str []]
def rpartitionS (c : Nat) (s : List Nat) : W :=
  let p := cutAt c s.reverse
  if p.2.1 then .tup [.str p.2.2.reverse, .str [c], .str p.1.reverse] else .tup [.str [], .str [], .str s]
def natDigits (n : Nat) : List Nat := (Nat.toDigits 10 n).map Char.toNat
def intText (i : Int) : List Nat := if i < 0 then 45 :: natDigits i.natAbs else natDigits i.natAbs
def strsV : List W → Option (List (List Nat))
  | [] => some []
  | .str s :: r => (strsV r).map (s :: ·)
  | _ => none
def intsV : List W → Option (List Int)
  | [] => some []
  | .int s :: r => (intsV r).map (s :: ·)
  | _ => none

/-! ### the language -/
inductive Blt where
  | len | int | str | list | tuple | dict | sorted | min | max | min2 | max2 | sum | divmod | any | lenset | repr
  deriving DecidableEq, Repr
/-- kinds for isinstance -/
inductive Ty where
  | int | bool | str | list | tuple | dict | own (c : String)
  deriving Repr
inductive Tg where
  | name (i : Nat) | tup (is : List Nat)

mutual
inductive Ex where
  | non | bl (b : Bool) | int (i : Int) | str (s : List Nat)
  | var (i : Nat)
  | bin (op : BinOp) (a b : Ex)
  | neg (a : Ex)
  | cmp (op : CmpOp) (a b : Ex)
  | chain (op op' : CmpOp) (a b c : Ex)
  | and (a b : Ex) | or (a b : Ex) | not (a : Ex)
  | ife (c a b : Ex)
  | fld (o : Ex) (f : String)
  | ix (o i : Ex)
  | sl (o : Ex) (lo hi : Option Ex)
  | tup (es : List Ex) | lst (es : List Ex) | dct (kvs : List (Ex × Ex))
  | call (f : String) (es : List Ex)
  | new (c : String) (es : List Ex)
  | meth (o : Ex) (m : String) (es : List Ex)
  | sup (c m : String) (es : List Ex)
  | blt (b : Blt) (es : List Ex)
  | isi (e : Ex) (t : Ty)
  | comp (own : List Nat) (elt : Ex) (tg : Tg) (it : It) (cond : Option Ex)
  | listOf (it : It) | tupOf (it : It)
  | sortK (src : Ex) (i : Nat) (key : Ex)
  | minK (src : Ex) (i : Nat) (key : Ex)
  | fstr (es : List Ex)
  | curFld (f : String) | curIs (c : String)
inductive It where
  | val (e : Ex)
  | rng (a : Ex) | rng2 (a b : Ex) | rng3 (a b c : Ex)
  | items (e : Ex) | vals (e : Ex)
  | enum (e : Ex) | zip (a b : Ex) | zip3 (a b c : Ex) | rev (e : Ex)
end
inductive Lv where
  | tg (t : Tg) | fld (o : Ex) (f : String) | ix (o i : Ex)
inductive St where
  | expr (e : Ex)
  | set (l : Lv) (e : Ex)
  | aug (i : Nat) (op : BinOp) (e : Ex)
  | augF (o : Ex) (f : String) (op : BinOp) (e : Ex)
  | ite (c : Ex) (a b : List St)
  | while (c : Ex) (b : List St)
  | for (tg : Tg) (it : It) (b : List St)
  | ret (e : Ex)
  | brk | cont | pass
  | raise (c : String) (es : List Ex)
  | try (b : List St) (hs : List (String × List St))

structure Fd where
  np : Nat
  ns : Nat
  body : List St
  deriving Inhabited
/-- a text of defs and classes: the def of a name ("C.m" of a method); which def a class has for a name; which classes stand above; the fields that an exception's class stores, in the order of its parameters -/
structure Prog where
  fd : String → Option Fd
  mt : String → String → Option String
  sub : String → String → Bool
  exc : String → Option (List String)

def asBool : W → Option Bool
  | .bl b => some b
  | _ => none

/-- what is walked: its items, and the cells that stand still meanwhile -/
def walkO (a : Nat) : Option O → Option (List W × List Nat)
  | some (.lst xs) => some (xs, [a])
  | _ => none
def walkV : W → Hp → Option (List W × List Nat)
  | .str s, _ => some (s.map fun c => .str [c], [])
  | .tup xs, _ => some (xs, [])
  | .ref a, h => walkO a (rd h a)
  | _, _ => none
def rangeW (lo hi : Int) : List W := (List.range (hi - lo).toNat).map fun (k : Nat) => W.int (lo + (k : Int))
def rangeS (lo hi st : Int) : List W := (List.range ((hi - lo + st - 1) / st).toNat).map fun (k : Nat) => W.int (lo + st * (k : Int))
def small62 (i : Int) : Bool := decide (-(2 ^ 62) ≤ i) && decide (i < 2 ^ 62)

/-! ### built-in functions and methods -/
def minI : List Int → Option Int
  | [] => none
  | [x] => some x
  | x :: r => (minI r).map fun m => if m < x then m else x
def maxI : List Int → Option Int
  | [] => none
  | [x] => some x
  | x :: r => (maxI r).map fun m => if x < m then m else x
def intOfText (s : List Nat) : Option Int :=
  if s.isEmpty ∨ 600 < s.length ∨ s.any (fun c => c < 48 || 57 < c) then none else some ((s.foldl (fun n c => n * 10 + (c - 48)) 0 : Nat) : Int)
def lenO : Option O → Option Nat
  | some (.lst s) => some s.length
  | some (.dct s) => some s.length
  | _ => none
def lenW : W → Hp → Option Nat
  | .str s, _ => some s.length
  | .tup s, _ => some s.length
  | .ref a, h => lenO (rd h a)
  | _, _ => none
def bls : List W → Option (List Bool)
  | [] => some []
  | .bl s :: r => (bls r).map (s :: ·)
  | _ => none
/-- each once -/
def once : List W → List W
  | [] => []
  | x :: r => if r.any (fun y => keqb x y) then once r else x :: once r
def dictO (h : Hp) : Option O → R W
  | some (.dct kvs) => mk (.dct kvs) h
  | _ => .bad
/-- the items of a list, a tuple; the keys of a dict -/
def seqO : Option O → Option (List W)
  | some (.lst xs) => some xs
  | some (.dct kvs) => some (kvs.map (·.1))
  | _ => none
def seqV : W → Hp → Option (List W)
  | .tup xs, _ => some xs
  | .ref a, h => seqO (rd h a)
  | _, _ => none
/-- the items of a list, a tuple -/
def lotV : W → Hp → Option (List W)
  | .tup xs, _ => some xs
  | .ref a, h => match rd h a with
    | some (.lst xs) => some xs
    | _ => none
  | _, _ => none
/-- the items of a list -/
def lstV : W → Hp → Option (List W)
  | .ref a, h => match rd h a with
    | some (.lst xs) => some xs
    | _ => none
  | _, _ => none
def blt : Blt → List W → Hp → R W
  | .len, [x], h => .of ((lenW x h).map fun n => .int (n : Int)) h
  | .int, [.int i], h => .ok (.int i) h
  | .int, [.bl b], h => .ok (.int (if b then 1 else 0)) h
  | .str, [.int i], h => guardR (decide (i.natAbs < 2 ^ 1900)) (.ok (.str (intText i)) h)
  | .str, [.str s], h => .ok (.str s) h
  | .list, [x], h => thenO (seqV x h) fun p => mk (.lst p) h
  | .tuple, [x], h => thenO (seqV x h) fun p => .ok (.tup p) h
  | .dict, [.ref a], h => dictO h (rd h a)
  | .sorted, [x], h => thenO (walkV x h) fun p => thenO (sortW p.1) fun zs => mk (.lst zs) h
  | .min2, [.int i, .int j], h => .ok (.int (if j < i then j else i)) h
  | .max2, [.int i, .int j], h => .ok (.int (if i < j then j else i)) h
  | .min, [x], h => thenO (walkV x h) fun p => .of (((intsV p.1).bind minI).map .int) h
  | .max, [x], h => thenO (walkV x h) fun p => .of (((intsV p.1).bind maxI).map .int) h
  | .sum, [x], h => thenO (lstV x h) fun p => .of ((intsV p).map fun l => .int l.sum) h
  | .any, [x], h => thenO (walkV x h) fun p => .of ((bls p.1).map fun l => .bl (l.any id)) h
  | .lenset, [x], h => thenO (walkV x h) fun p => .ok (.int ((once p.1).length : Nat)) h
  | .divmod, [.int i, .int j], h => guardR (divOk j) (.ok (.tup [.int (i / j), .int (i % j)]) h)
  | _, _, _ => .bad

def bmS : String → List Nat → List W → Hp → R W
  | "join", s, [y], h => thenO (lotV y h) fun p => thenO (strsV p) fun zs => guardR (decide ((zs.map List.length).sum + zs.length * s.length ≤ LINE)) (.ok (.str (joinS s zs)) h)
  | "split", s, [.str [c]], h => mk (.lst ((splitOn c s).map .str)) h
  | "partition", s, [.str [c]], h => .ok (partitionS c s) h
  | "rpartition", s, [.str [c]], h => .ok (rpartitionS c s) h
  | "index", s, [.str [c]], h => .of ((s.findIdx? (· == c)).map fun n => .int (n : Int)) h
  | _, _, _, _ => .bad
/-- a change that hands back v -/
def putV (lk : List Nat) (a : Nat) (o : O) (v : W) (h : Hp) : R W := (put lk a o h).bind fun _ h => .ok v h
def extO (lk : List Nat) (a : Nat) (ys : List W) (h : Hp) : Option O → R W
  | some (.lst zs) => guardR (decide (ys.length + zs.length ≤ LINE)) (putV lk a (.lst (ys ++ zs)) .non h)
  | _ => .bad
def bmL (lk : List Nat) (a : Nat) (ys : List W) : String → List W → Hp → R W
  | "append", [y], h => guardR (decide (ys.length < LINE)) (putV lk a (.lst (ys ++ [y])) .non h)
  | "extend", [.ref b], h => extO lk a ys h (rd h b)
  | "extend", [.tup zs], h => guardR (decide (ys.length + zs.length ≤ LINE)) (putV lk a (.lst (ys ++ zs)) .non h)
  | "clear", [], h => putV lk a (.lst []) .non h
  | "copy", [], h => mk (.lst ys) h
  | "pop", [], h => thenO ys.getLast? fun y => putV lk a (.lst ys.dropLast) y h
  | "pop", [.int i], h => thenO (ixN ys.length i) fun j => thenO ys[j]? fun y => putV lk a (.lst (ys.eraseIdx j)) y h
  | "remove", [y], h => thenO (ys.findIdx? (fun z => keqb z y)) fun j => putV lk a (.lst (ys.eraseIdx j)) .non h
  | _, _, _ => .bad
def updO (lk : List Nat) (a : Nat) (kvs : List (W × W)) (h : Hp) : Option O → R W
  | some (.dct zs) => guardR (zs.all (fun p => keyIn p.1 kvs && keyIn p.1 zs) && decide (kvs.length + zs.length < LINE)) (putV lk a (.dct (dmerge kvs zs)) .non h)
  | _ => .bad
def popD (lk : List Nat) (a : Nat) (kvs : List (W × W)) (k : W) (h : Hp) (d : R W) : Option W → R W
  | some v => putV lk a (.dct (ddel k kvs)) v h
  | none => d
def setD (lk : List Nat) (a : Nat) (kvs : List (W × W)) (k d : W) (h : Hp) : Option W → R W
  | some v => .ok v h
  | none => putV lk a (.dct (dput k d kvs)) d h
def bmD (lk : List Nat) (a : Nat) (kvs : List (W × W)) : String → List W → Hp → R W
  | "get", [k], h => guardR (keyIn k kvs) (.ok ((dget k kvs).getD .non) h)
  | "get", [k, d], h => guardR (keyIn k kvs) (.ok ((dget k kvs).getD d) h)
  | "pop", [k], h => guardR (keyIn k kvs) (popD lk a kvs k h .bad (dget k kvs))
  | "pop", [k, d], h => guardR (keyIn k kvs) (popD lk a kvs k h (.ok d h) (dget k kvs))
  | "setdefault", [k, d], h => guardR (keyIn k kvs && decide (kvs.length < LINE)) (setD lk a kvs k d h (dget k kvs))
  | "copy", [], h => mk (.dct kvs) h
  | "clear", [], h => putV lk a (.dct []) .non h
  | "update", [.ref b], h => updO lk a kvs h (rd h b)
  | _, _, _ => .bad
def bmI (i : Int) : String → List W → Hp → R W
  | "bit_length", [], h => .ok (.int (if i = 0 then 0 else (i.natAbs.log2 + 1 : Nat))) h
  | _, _, _ => .bad
def bmO (lk : List Nat) (a : Nat) (m : String) (xs : List W) (h : Hp) : Option O → R W
  | some (.lst ys) => bmL lk a ys m xs h
  | some (.dct kvs) => bmD lk a kvs m xs h
  | _ => .bad
def bm (lk : List Nat) : W → String → List W → Hp → R W
  | .str s, m, xs, h => bmS m s xs h
  | .int i, m, xs, h => bmI i m xs h
  | .ref a, m, xs, h => bmO lk a m xs h (rd h a)
  | _, _, _, _ => .bad

def isLst : Option O → Option Bool
  | some (.lst _) => some true
  | some _ => some false
  | none => none
def isDct : Option O → Option Bool
  | some (.dct _) => some true
  | some _ => some false
  | none => none
def isOwn (T : Prog) (c : String) : Option O → Option Bool
  | some (.ins d _) => some (T.sub d c)
  | some _ => some false
  | none => none
def isTy (T : Prog) : W → Ty → Hp → Option Bool
  | .int _, .int, _ => some true
  | .bl _, .int, _ => some true
  | .bl _, .bool, _ => some true
  | .str _, .str, _ => some true
  | .tup _, .tuple, _ => some true
  | .ref a, .list, h => isLst (rd h a)
  | .ref a, .dict, h => isDct (rd h a)
  | .ref a, .own c, h => isOwn T c (rd h a)
  | _, _, _ => some false

/-! ### targets -/
def itemsV : W → Hp → Option (List W)
  | .tup vs, _ => some vs
  | _, _ => none
@[simp] def setAll : Env → List Nat → List W → Option Env
  | env, [], [] => some env
  | env, i :: is, v :: vs => setAll (env.set i (some v)) is vs
  | _, _, _ => none
def bindTg : Tg → W → Env → Hp → Option Env
  | .name i, v, env, _ => some (env.set i (some v))
  | .tup is, v, env, h => (itemsV v h).bind fun vs => setAll env is vs
@[simp] def wipe (env : Env) : List Nat → Env
  | [] => env
  | i :: is => (wipe env is).set i none

/-! ### loops over what has been evaluated -/
/-- nothing may be raised here -/
def R.calm {α : Type} (r : R α) : R α :=
  match r with
  | .ok a h => .ok a h
  | _ => .bad
theorem R.calm_congr {α : Type} {r r' : R α} (e : r = r') : r.calm = r'.calm := by rw [e]
@[simp] theorem R.calm_ok {α : Type} {a : α} {h : Hp} : (R.ok a h).calm = .ok a h := rfl
@[simp] theorem R.calm_exc {α : Type} {x : Exn} {h : Hp} : (R.exc x h : R α).calm = .bad := rfl
@[simp] theorem R.calm_bad {α : Type} : (R.bad : R α).calm = .bad := rfl
/-- a comprehension's turns: f answers whether there is an item -/
def compL (f : W → Hp → R (Option W)) : List W → List W → Hp → R (List W)
  | [], acc, h => .ok acc h
  | x :: r, acc, h => (f x h).calm.bind fun o h => guardR (decide (acc.length < LINE)) (compL f r (acc ++ o.toList) h)
theorem compL_congr {f : W → Hp → R (Option W)} {xs xs' acc acc' : List W} {h h' : Hp} (e1 : xs = xs') (e2 : acc = acc') (e3 : h = h') : compL f xs acc h = compL f xs' acc' h' := by rw [e1, e2, e3]
/-- an element where its test is met -/
@[simp] def eltOf (elt : Env → Hp → R W) (env : Env) (h : Hp) : R (Option W) := (elt env h).bind fun y h => .ok (some y) h
@[simp] def condOf (c : Env → Hp → R W) (elt : Env → Hp → R W) (env : Env) (h : Hp) : R (Option W) :=
  (c env h).bind fun b h => thenO (asBool b) fun b => if b then eltOf elt env h else .ok none h
@[simp] def turnC (tg : Tg) (env : Env) (g : Env → Hp → R (Option W)) (x : W) (h : Hp) : R (Option W) := thenO (bindTg tg x env h) fun e => g e h
def mapKeys (f : W → Hp → R W) : List W → Hp → R (List (W × W))
  | [], h => .ok [] h
  | x :: r, h => (f x h).calm.bind fun k h => (mapKeys f r h).bind fun l h => .ok ((k, x) :: l) h
theorem mapKeys_congr {f : W → Hp → R W} {xs xs' : List W} {h h' : Hp} (e1 : xs = xs') (e3 : h = h') : mapKeys f xs h = mapKeys f xs' h' := by rw [e1, e3]
@[simp] def keyOf (i : Nat) (env : Env) (key : Env → Hp → R W) (y : W) (h : Hp) : R W := key (env.set i (some y)) h
def sortP (ps : List (W × W)) : Option (List W) :=
  if wltOk (ps.map (·.1)) then some ((ps.mergeSort fun p q => wle p.1 q.1).map (·.2)) else none
def minP : List (W × W) → Option (W × W)
  | [] => none
  | p :: r => r.foldl (fun m q => m.bind fun m => (wlt q.1 m.1).map fun b => if b then q else m) (some p)

structure Cx where
  T : Prog
  call : List Nat → String → List W → Hp → R W
  lk : List Nat := []
  cur : Option Exn := none
@[simp] def Cx.lock (X : Cx) (as : List Nat) : Cx := { X with lk := as ++ X.lk }

def slot (env : Env) (i : Nat) (h : Hp) : R W := .of (env[i]?.join) h
def neg : W → Hp → R W
  | .int i, h => .ok (.int (-i)) h
  | _, _ => .bad
def part : W → Hp → R (Option Int)
  | .int i, h => .ok (some i) h
  | _, _ => .bad
/-- a method of the value x, ahead of its arguments -/
inductive Mth where
  | own (f : String) | blt
def strM : List String := ["join", "split", "partition", "rpartition", "index"]
def lstM : List String := ["append", "extend", "clear", "copy", "pop", "remove"]
def dctM : List String := ["get", "pop", "setdefault", "copy", "clear", "update"]
def mthO (T : Prog) (m : String) : Option O → Option Mth
  | some (.ins c fs) => if (fs.lookup m).isNone then (T.mt c m).map .own else none
  | some (.lst _) => if m ∈ lstM then some .blt else none
  | some (.dct _) => if m ∈ dctM then some .blt else none
  | none => none
def mthOf (T : Prog) : W → String → Hp → Option Mth
  | .ref a, m, h => mthO T m (rd h a)
  | .str _, m, _ => if m ∈ strM then some .blt else none
  | .int _, m, _ => if m = "bit_length" then some .blt else none
  | _, _, _ => none
def fmtW : W → W
  | .int i => .str (intText i)
  | y => y
def rng1 : W → Option (List W)
  | .int n => if small62 n then some (rangeW 0 n) else none
  | _ => none
def rng2 : W → W → Option (List W)
  | .int i, .int j => if small62 i && small62 j then some (rangeW i j) else none
  | _, _ => none
def rng3 : W → W → W → Option (List W)
  | .int i, .int j, .int s => if small62 i && small62 j && decide (0 < s) && decide (s < 2 ^ 20) then some (rangeS i j s) else none
  | _, _, _ => none
def dItems (a : Nat) : Option O → Option (List W × List Nat)
  | some (.dct kvs) => some (kvs.map fun p => .tup [p.1, p.2], [a])
  | _ => none
def dVals (a : Nat) : Option O → Option (List W × List Nat)
  | some (.dct kvs) => some (kvs.map (·.2), [a])
  | _ => none
def itemsD : W → Hp → Option (List W × List Nat)
  | .ref a, h => dItems a (rd h a)
  | _, _ => none
def valsD : W → Hp → Option (List W × List Nat)
  | .ref a, h => dVals a (rd h a)
  | _, _ => none
def enumW (ys : List W) : List W := ys.zipIdx.map fun p => .tup [.int ((p.2 : Nat) : Int), p.1]

mutual
@[simp] def ev (X : Cx) : Ex → Env → Hp → R W
  | .non, _, h => .ok .non h
  | .bl b, _, h => .ok (.bl b) h
  | .int i, _, h => .ok (.int i) h
  | .str s, _, h => .ok (.str s) h
  | .var i, env, h => slot env i h
  | .bin op a b, env, h => (ev X a env h).bind fun x h => (ev X b env h).bind fun y h => bin op x y h
  | .neg a, env, h => (ev X a env h).bind neg
  | .cmp op a b, env, h => (ev X a env h).bind fun x h => (ev X b env h).bind fun y h => .of ((cmp op x y h).map .bl) h
  | .chain op op' a b c, env, h => (ev X a env h).bind fun x h => (ev X b env h).bind fun y h => thenO (cmp op x y h) fun k =>
      if k then (ev X c env h).bind fun z h => .of ((cmp op' y z h).map .bl) h else .ok (.bl false) h
  | .and a b, env, h => (ev X a env h).bind fun x h => thenO (asBool x) fun k => if k then ev X b env h else .ok (.bl false) h
  | .or a b, env, h => (ev X a env h).bind fun x h => thenO (asBool x) fun k => if k then .ok (.bl true) h else ev X b env h
  | .not a, env, h => (ev X a env h).bind fun x h => .of ((asBool x).map fun b => .bl (!b)) h
  | .ife c a b, env, h => (ev X c env h).bind fun x h => thenO (asBool x) fun k => if k then ev X a env h else ev X b env h
  | .fld o f, env, h => (ev X o env h).bind fun x h => .of (fldOf x f h) h
  | .ix o i, env, h => (ev X o env h).bind fun x h => (ev X i env h).bind fun y h => .of (item x y h) h
  | .sl o lo hi, env, h => (ev X o env h).bind fun x h => (evO X lo env h).bind fun l h => (evO X hi env h).bind fun u h => slice x l u h
  | .tup es, env, h => (evs X es env h).bind fun xs h => .ok (.tup xs) h
  | .lst es, env, h => (evs X es env h).bind fun xs h => mk (.lst xs) h
  | .dct kvs, env, h => (evp X kvs env h).bind fun ps h => guardR (dictOk ps) (mk (.dct (dmerge [] ps)) h)
  | .call f es, env, h => (evs X es env h).bind fun xs h => X.call X.lk f xs h
  | .new c es, env, h => thenO (X.T.mt c "__init__") fun f => (evs X es env h).bind fun xs h =>
      (mk (.ins c []) h).bind fun s h => (X.call X.lk f (s :: xs) h).bind fun _ h => .ok s h
  | .meth o m es, env, h => (ev X o env h).bind fun x h => thenO (mthOf X.T x m h) fun t => (evs X es env h).bind fun xs h =>
      match t with
      | .own f => X.call X.lk f (x :: xs) h
      | .blt => bm X.lk x m xs h
  | .sup c m es, env, h => thenO (X.T.mt c m) fun f => (evs X es env h).bind fun xs h => X.call X.lk f xs h
  | .blt b es, env, h => (evs X es env h).bind fun xs h => blt b xs h
  | .isi e t, env, h => (ev X e env h).bind fun x h => .of ((isTy X.T x t h).map .bl) h
  | .comp own elt tg it none, env, h => (walk X it env h).bind fun p h =>
      (compL (turnC tg (wipe env own) (eltOf fun env h => ev (X.lock p.2) elt env h)) p.1 [] h).bind fun ys h => mk (.lst ys) h
  | .comp own elt tg it (some c), env, h => (walk X it env h).bind fun p h =>
      (compL (turnC tg (wipe env own) (condOf (fun env h => ev (X.lock p.2) c env h) fun env h => ev (X.lock p.2) elt env h)) p.1 [] h).bind fun ys h => mk (.lst ys) h
  | .listOf it, env, h => (walk X it env h).bind fun p h => mk (.lst p.1) h
  | .tupOf it, env, h => (walk X it env h).bind fun p h => .ok (.tup p.1) h
  | .sortK src i key, env, h => (ev X src env h).bind fun x h => thenO (walkV x h) fun p =>
      (mapKeys (keyOf i env fun env h => ev (X.lock p.2) key env h) p.1 h).bind fun ps h => thenO (sortP ps) fun zs => mk (.lst zs) h
  | .minK src i key, env, h => (ev X src env h).bind fun x h => thenO (walkV x h) fun p =>
      (mapKeys (keyOf i env fun env h => ev (X.lock p.2) key env h) p.1 h).bind fun ps h => .of ((minP ps).map (·.2)) h
  | .fstr es, env, h => (evs X es env h).bind fun xs h => thenO (strsV (xs.map fmtW)) fun ys => guardR (decide ((ys.map List.length).sum ≤ LINE)) (.ok (.str ys.flatten) h)
  | .curFld f, _, h => .of (X.cur.bind fun x => x.fs.lookup f) h
  | .curIs c, _, h => .of (X.cur.map fun x => .bl (X.T.sub x.c c)) h
@[simp] def evO (X : Cx) : Option Ex → Env → Hp → R (Option Int)
  | none, _, h => .ok none h
  | some e, env, h => (ev X e env h).bind part
@[simp] def evs (X : Cx) : List Ex → Env → Hp → R (List W)
  | [], _, h => .ok [] h
  | e :: es, env, h => (ev X e env h).bind fun x h => (evs X es env h).bind fun xs h => .ok (x :: xs) h
@[simp] def evp (X : Cx) : List (Ex × Ex) → Env → Hp → R (List (W × W))
  | [], _, h => .ok [] h
  | (a, b) :: r, env, h => (ev X a env h).bind fun x h => (ev X b env h).bind fun y h => (evp X r env h).bind fun ps h => .ok ((x, y) :: ps) h
@[simp] def walk (X : Cx) : It → Env → Hp → R (List W × List Nat)
  | .val e, env, h => (ev X e env h).bind fun x h => .of (walkV x h) h
  | .rng a, env, h => (ev X a env h).bind fun x h => .of ((rng1 x).map fun l => (l, [])) h
  | .rng2 a b, env, h => (ev X a env h).bind fun x h => (ev X b env h).bind fun y h => .of ((rng2 x y).map fun l => (l, [])) h
  | .rng3 a b c, env, h => (ev X a env h).bind fun x h => (ev X b env h).bind fun y h => (ev X c env h).bind fun z h => .of ((rng3 x y z).map fun l => (l, [])) h
  | .items e, env, h => (ev X e env h).bind fun x h => .of (itemsD x h) h
  | .vals e, env, h => (ev X e env h).bind fun x h => .of (valsD x h) h
  | .enum e, env, h => (ev X e env h).bind fun x h => .of ((walkV x h).map fun p => (enumW p.1, p.2)) h
  | .zip a b, env, h => (ev X a env h).bind fun x h => (ev X b env h).bind fun y h => .of ((walkV x h).bind fun p => (walkV y h).map fun q => ((p.1.zip q.1).map fun z => .tup [z.1, z.2], p.2 ++ q.2)) h
  | .zip3 a b c, env, h => (ev X a env h).bind fun x h => (ev X b env h).bind fun y h => (ev X c env h).bind fun z h =>
      .of ((walkV x h).bind fun p => (walkV y h).bind fun q => (walkV z h).map fun r => ((p.1.zip (q.1.zip r.1)).map fun z => .tup [z.1, z.2.1, z.2.2], p.2 ++ q.2 ++ r.2)) h
  | .rev e, env, h => (ev X e env h).bind fun x h => .of ((walkV x h).map fun p => (p.1.reverse, p.2)) h
end

/-! ### statements -/
inductive Fl where
  | nx (env : Env) | bk (env : Env) | ct (env : Env) | rt (w : W)
  deriving Inhabited, Repr
inductive S where
  | bad | ok (f : Fl) (h : Hp) | exc (x : Exn) (env : Env) (h : Hp)
  deriving Inhabited, Repr
/-- an expression in a statement -/
def R.on {α : Type} (r : R α) (env : Env) (f : α → Hp → S) : S :=
  match r with
  | .ok a h => f a h
  | .exc x h => .exc x env h
  | .bad => .bad
theorem R.on_congr {α : Type} {r r' : R α} {env env' : Env} {f : α → Hp → S} (e : r = r') (e' : env = env') : r.on env f = r'.on env' f := by rw [e, e']
@[simp] theorem R.on_ok {α : Type} {a : α} {h : Hp} {env : Env} {f : α → Hp → S} : (R.ok a h).on env f = f a h := rfl
@[simp] theorem R.on_exc {α : Type} {x : Exn} {h : Hp} {env : Env} {f : α → Hp → S} : (R.exc x h : R α).on env f = .exc x env h := rfl
@[simp] theorem R.on_bad {α : Type} {env : Env} {f : α → Hp → S} : (R.bad : R α).on env f = .bad := rfl
/-- behind a statement -/
def S.then (r : S) (f : Env → Hp → S) : S :=
  match r with
  | .ok (.nx env) h => f env h
  | r => r
theorem S.then_congr {r r' : S} {f : Env → Hp → S} (e : r = r') : r.then f = r'.then f := by rw [e]
@[simp] theorem S.then_nx {env : Env} {h : Hp} {f : Env → Hp → S} : (S.ok (.nx env) h).then f = f env h := rfl
@[simp] theorem S.then_rt {w : W} {h : Hp} {f : Env → Hp → S} : (S.ok (.rt w) h).then f = .ok (.rt w) h := rfl
@[simp] theorem S.then_bk {env : Env} {h : Hp} {f : Env → Hp → S} : (S.ok (.bk env) h).then f = .ok (.bk env) h := rfl
@[simp] theorem S.then_ct {env : Env} {h : Hp} {f : Env → Hp → S} : (S.ok (.ct env) h).then f = .ok (.ct env) h := rfl
@[simp] theorem S.then_exc {x : Exn} {env : Env} {h : Hp} {f : Env → Hp → S} : (S.exc x env h).then f = .exc x env h := rfl
@[simp] theorem S.then_bad {f : Env → Hp → S} : S.bad.then f = .bad := rfl
/-- behind a loop's turn -/
def S.turn (r : S) (f : Env → Hp → S) : S :=
  match r with
  | .ok (.nx env) h => f env h
  | .ok (.ct env) h => f env h
  | .ok (.bk env) h => .ok (.nx env) h
  | r => r
theorem S.turn_congr {r r' : S} {f : Env → Hp → S} (e : r = r') : r.turn f = r'.turn f := by rw [e]
@[simp] theorem S.turn_nx {env : Env} {h : Hp} {f : Env → Hp → S} : (S.ok (.nx env) h).turn f = f env h := rfl
@[simp] theorem S.turn_ct {env : Env} {h : Hp} {f : Env → Hp → S} : (S.ok (.ct env) h).turn f = f env h := rfl
@[simp] theorem S.turn_bk {env : Env} {h : Hp} {f : Env → Hp → S} : (S.ok (.bk env) h).turn f = .ok (.nx env) h := rfl
@[simp] theorem S.turn_rt {w : W} {h : Hp} {f : Env → Hp → S} : (S.ok (.rt w) h).turn f = .ok (.rt w) h := rfl
@[simp] theorem S.turn_exc {x : Exn} {env : Env} {h : Hp} {f : Env → Hp → S} : (S.exc x env h).turn f = .exc x env h := rfl
@[simp] theorem S.turn_bad {f : Env → Hp → S} : S.bad.turn f = .bad := rfl
/-- what is known decides -/
def thenS {α : Type} (o : Option α) (f : α → S) : S :=
  match o with
  | some a => f a
  | none => .bad
theorem thenS_congr {α : Type} {r r' : Option α} {f : α → S} (e : r = r') : thenS r f = thenS r' f := by rw [e]
@[simp] theorem thenS_some {α : Type} {a : α} {f : α → S} : thenS (some a) f = f a := rfl
@[simp] theorem thenS_none {α : Type} {f : α → S} : thenS (none : Option α) f = .bad := rfl

def forL (f : W → Env → Hp → S) : List W → Env → Hp → S
  | [], env, h => .ok (.nx env) h
  | x :: r, env, h => (f x env h).turn fun env h => forL f r env h
theorem forL_congr {f : W → Env → Hp → S} {xs xs' : List W} {env env' : Env} {h h' : Hp} (e1 : xs = xs') (e2 : env = env') (e3 : h = h') : forL f xs env h = forL f xs' env' h' := by rw [e1, e2, e3]
@[simp] def turnOf (tg : Tg) (g : Env → Hp → S) (x : W) (env : Env) (h : Hp) : S := thenS (bindTg tg x env h) fun env => g env h
def whileL (c : Env → Hp → R W) (f : Env → Hp → S) : Nat → Env → Hp → S
  | 0, _, _ => .bad
  | n + 1, env, h => (c env h).on env fun x h => thenS (asBool x) fun b => if b then (f env h).turn fun env h => whileL c f n env h else .ok (.nx env) h
theorem whileL_congr {c : Env → Hp → R W} {f : Env → Hp → S} {n n' : Nat} {env env' : Env} {h h' : Hp} (e1 : n = n') (e2 : env = env') (e3 : h = h') : whileL c f n env h = whileL c f n' env' h' := by rw [e1, e2, e3]
def TURNS : Nat := 1000000

@[simp] def excFs (T : Prog) (c : String) (xs : List W) : Option (List (String × W)) := (T.exc c).map fun fs => fs.zip xs

def setIxO (lk : List Nat) (a : Nat) (y v : W) (h : Hp) : Option O → R Unit
  | some (.lst xs) => match y with
    | .int i => thenO (ixN xs.length i) fun j => put lk a (.lst (xs.set j v)) h
    | _ => .bad
  | some (.dct kvs) => guardR (keyIn y kvs && decide (kvs.length < LINE)) (put lk a (.dct (dput y v kvs)) h)
  | _ => .bad
def setIx (lk : List Nat) : W → W → W → Hp → R Unit
  | .ref a, y, v, h => setIxO lk a y v h (rd h a)
  | _, _, _, _ => .bad
@[simp] def putF (f : String) (v : W) : List (String × W) → List (String × W)
  | [] => [(f, v)]
  | (g, u) :: r => if f = g then (g, v) :: r else (g, u) :: putF f v r
def setFldO (lk : List Nat) (a : Nat) (f : String) (v : W) (h : Hp) : Option O → R Unit
  | some (.ins c fs) => put lk a (.ins c (putF f v fs)) h
  | _ => .bad
def setFld (lk : List Nat) : W → String → W → Hp → R Unit
  | .ref a, f, v, h => setFldO lk a f v h (rd h a)
  | _, _, _, _ => .bad

mutual
@[simp] def ex (X : Cx) : St → Env → Hp → S
  | .expr e, env, h => (ev X e env h).on env fun _ h => .ok (.nx env) h
  | .set (.tg t) e, env, h => (ev X e env h).on env fun v h => thenS (bindTg t v env h) fun env => .ok (.nx env) h
  | .set (.fld o f) e, env, h => (ev X e env h).on env fun v h => (ev X o env h).on env fun x h => (setFld X.lk x f v h).on env fun _ h => .ok (.nx env) h
  | .set (.ix o i) e, env, h => (ev X e env h).on env fun v h => (ev X o env h).on env fun x h => (ev X i env h).on env fun y h => (setIx X.lk x y v h).on env fun _ h => .ok (.nx env) h
  | .aug i op e, env, h => (slot env i h).on env fun x h => (ev X e env h).on env fun y h => (ibin op x y h).on env fun v h => .ok (.nx (env.set i (some v))) h
  | .augF o f op e, env, h => (ev X o env h).on env fun x h => (R.of (fldOf x f h) h).on env fun v h => (ev X e env h).on env fun y h => (ibin op v y h).on env fun z h => (setFld X.lk x f z h).on env fun _ h => .ok (.nx env) h
  | .ite c a b, env, h => (ev X c env h).on env fun x h => thenS (asBool x) fun k => if k then exs X a env h else exs X b env h
  | .while c b, env, h => whileL (fun env h => ev X c env h) (fun env h => exs X b env h) TURNS env h
  | .for tg it b, env, h => (walk X it env h).on env fun p h => forL (turnOf tg fun env h => exs (X.lock p.2) b env h) p.1 env h
  | .ret e, env, h => (ev X e env h).on env fun v h => .ok (.rt v) h
  | .brk, env, h => .ok (.bk env) h
  | .cont, env, h => .ok (.ct env) h
  | .pass, env, h => .ok (.nx env) h
  | .raise c es, env, h => (evs X es env h).on env fun xs h => thenS (excFs X.T c xs) fun fs => .exc ⟨c, fs⟩ env h
  | .try b hs, env, h => match exs X b env h with
    | .exc x env h => hnd X x hs env h
    | r => r
@[simp] def exs (X : Cx) : List St → Env → Hp → S
  | [], env, h => .ok (.nx env) h
  | s :: r, env, h => (ex X s env h).then fun env h => exs X r env h
def hnd (X : Cx) (x : Exn) : List (String × List St) → Env → Hp → S
  | [], env, h => .exc x env h
  | (c, b) :: r, env, h => if X.T.sub x.c c then exs { X with cur := some x } b env h else hnd X x r env h
end

/-- what a body comes to for its caller -/
def out : S → R W
  | .ok (.nx _) h => .ok .non h
  | .ok (.rt w) h => .ok w h
  | .exc x _ h => .exc x h
  | _ => .bad
/-- a def called: n calls within one another at most -/
def run (T : Prog) : Nat → List Nat → String → List W → Hp → R W
  | 0, _, _, _, _ => .bad
  | n + 1, lk, f, xs, h => thenO (T.fd f) fun fd => guardR (decide (xs.length = fd.np))
      (out (exs ⟨T, run T n, lk, none⟩ fd.body (xs.map some ++ List.replicate (fd.ns - fd.np) none) h))
end MP

namespace MP
/-! ### locked cells keep what they hold -/
structure Kp (lk : List Nat) (h h' : Hp) : Prop where
  len : h.length ≤ h'.length
  at_ : ∀ n ∈ lk, n < h.length → h'[n]? = h[n]?
theorem Kp.refl {lk : List Nat} {h : Hp} : Kp lk h h := ⟨Nat.le_refl _, fun _ _ _ => rfl⟩
theorem Kp.trans {lk : List Nat} {h h1 h2 : Hp} (a : Kp lk h h1) (b : Kp lk h1 h2) : Kp lk h h2 :=
  ⟨Nat.le_trans a.len b.len, fun n hn hl => (b.at_ n hn (Nat.lt_of_lt_of_le hl a.len)).trans (a.at_ n hn hl)⟩
theorem Kp.less {lk lk' : List Nat} {h h' : Hp} (a : Kp lk h h') (s : ∀ n ∈ lk', n ∈ lk) : Kp lk' h h' := ⟨a.len, fun n hn => a.at_ n (s n hn)⟩
def RK {α : Type} (lk : List Nat) (h : Hp) : R α → Prop
  | .ok _ h' => Kp lk h h'
  | .exc _ h' => Kp lk h h'
  | .bad => True
def SK (lk : List Nat) (h : Hp) : S → Prop
  | .ok _ h' => Kp lk h h'
  | .exc _ _ h' => Kp lk h h'
  | .bad => True
section
variable {α β : Type} {lk : List Nat} {h h1 : Hp}
theorem RK.bind {r : R α} {f : α → Hp → R β} (a : RK lk h r) (b : ∀ x h', RK lk h' (f x h')) : RK lk h (r.bind f) := by
  cases r with
  | bad => trivial
  | exc x h' => exact a
  | ok x h' =>
    have := b x h'
    show RK lk h (f x h')
    generalize f x h' = r2 at this
    cases r2 with
    | bad => trivial
    | ok y h2 => exact Kp.trans a this
    | exc y h2 => exact Kp.trans a this
theorem RK.calm {r : R α} (a : RK lk h r) : RK lk h r.calm := by cases r <;> first | trivial | exact a
theorem RK.ok {x : α} : RK lk h (.ok x h) := Kp.refl
theorem RK.bad : RK lk h (.bad : R α) := trivial
theorem RK.of {o : Option α} : RK lk h (.of o h) := by cases o <;> first | trivial | exact Kp.refl
theorem RK.thenO {o : Option α} {f : α → R β} (b : ∀ x, RK lk h (f x)) : RK lk h (thenO o f) := by cases o <;> first | trivial | exact b _
theorem RK.guardR {b : Bool} {r : R β} (a : RK lk h r) : RK lk h (guardR b r) := by cases b <;> first | trivial | exact a
theorem RK.mk {o : O} : RK lk h (mk o h) := ⟨by simp, fun n _ hl => List.getElem?_append_left hl⟩
theorem RK.put {a : Nat} {o : O} : RK lk h (put lk a o h) := by
  unfold MP.put
  split
  · rename_i hc
    exact ⟨by simp, fun n hn _ => List.getElem?_set_ne fun e => hc.2 (by rw [e]; exact hn)⟩
  · trivial
theorem RK.less {lk' : List Nat} {r : R α} (a : RK lk h r) (s : ∀ n ∈ lk', n ∈ lk) : RK lk' h r := by cases r <;> first | trivial | exact Kp.less a s
theorem RK.ite {c : Prop} [Decidable c] {r s : R α} (a : RK lk h r) (b : RK lk h s) : RK lk h (if c then r else s) := by split <;> assumption
theorem SK.on {r : R α} {env : Env} {f : α → Hp → S} (a : RK lk h r) (b : ∀ x h', SK lk h' (f x h')) : SK lk h (r.on env f) := by
  cases r with
  | bad => trivial
  | exc x h' => exact a
  | ok x h' =>
    have := b x h'
    show SK lk h (f x h')
    generalize f x h' = r2 at this
    cases r2 with
    | bad => trivial
    | ok y h2 => exact Kp.trans a this
    | exc y _ h2 => exact Kp.trans a this
theorem SK.next {r : S} {h2 : Hp} (a : Kp lk h h2) (b : SK lk h2 r) : SK lk h r := by cases r <;> first | trivial | exact Kp.trans a b
theorem SK.then {r : S} {f : Env → Hp → S} (a : SK lk h r) (b : ∀ x h', SK lk h' (f x h')) : SK lk h (r.then f) := by
  cases r with
  | bad => trivial
  | exc x e h' => exact a
  | ok x h' =>
    cases x with
    | nx e => exact SK.next a (b e h')
    | _ => exact a
theorem SK.turn {r : S} {f : Env → Hp → S} (a : SK lk h r) (b : ∀ x h', SK lk h' (f x h')) : SK lk h (r.turn f) := by
  cases r with
  | bad => trivial
  | exc x e h' => exact a
  | ok x h' =>
    cases x with
    | nx e => exact SK.next a (b e h')
    | ct e => exact SK.next a (b e h')
    | bk e => exact a
    | rt e => exact a
theorem SK.thenS {o : Option α} {f : α → S} (b : ∀ x, SK lk h (f x)) : SK lk h (thenS o f) := by cases o <;> first | trivial | exact b _
theorem SK.ok {f : Fl} : SK lk h (.ok f h) := Kp.refl
theorem SK.exc {x : Exn} {env : Env} : SK lk h (.exc x env h) := Kp.refl
theorem SK.less {lk' : List Nat} {r : S} (a : SK lk h r) (s : ∀ n ∈ lk', n ∈ lk) : SK lk' h r := by cases r <;> first | trivial | exact Kp.less a s
theorem SK.ite {c : Prop} [Decidable c] {r s : S} (a : SK lk h r) (b : SK lk h s) : SK lk h (if c then r else s) := by split <;> assumption
end
theorem rk_bin {lk : List Nat} (op : BinOp) (x y : W) (h : Hp) : RK lk h (bin op x y h) := by
  unfold bin
  split
  all_goals first | exact RK.ok | exact RK.guardR RK.ok | exact RK.bad | (unfold addO; split <;> first | exact RK.guardR RK.mk | exact RK.bad)
theorem rk_ibin {lk : List Nat} (op : BinOp) (x y : W) (h : Hp) : RK lk h (ibin op x y h) := by
  unfold ibin
  split <;> first | exact RK.ok | exact RK.bad
theorem rk_slice {lk : List Nat} (x : W) (lo hi : Option Int) (h : Hp) : RK lk h (slice x lo hi h) := by
  unfold slice
  split
  all_goals first | exact RK.ok | exact RK.bad | (unfold sliceO; split <;> first | exact RK.mk | exact RK.bad)
theorem rk_blt {lk : List Nat} (b : Blt) (xs : List W) (h : Hp) : RK lk h (blt b xs h) := by
  unfold blt
  split
  all_goals first | exact RK.ok | exact RK.bad | exact RK.of | exact RK.guardR RK.ok | exact RK.thenO fun _ => RK.mk | exact RK.thenO fun _ => RK.ok | exact RK.thenO fun _ => RK.of | exact RK.thenO fun _ => RK.thenO fun _ => RK.mk | (unfold dictO; split <;> first | exact RK.mk | exact RK.bad)
theorem rk_putV {lk : List Nat} {a : Nat} {o : O} {v : W} {h : Hp} : RK lk h (putV lk a o v h) := RK.bind RK.put fun _ _ => RK.ok
theorem rk_bm {lk : List Nat} (x : W) (m : String) (xs : List W) (h : Hp) : RK lk h (bm lk x m xs h) := by
  unfold bm
  split
  · unfold bmS
    split
    all_goals first | exact RK.ok | exact RK.bad | exact RK.of | exact RK.mk | exact RK.thenO fun _ => RK.thenO fun _ => RK.guardR RK.ok
  · unfold bmI
    split <;> first | exact RK.ok | exact RK.bad
  · unfold bmO
    split
    · unfold bmL
      split
      all_goals first | exact RK.guardR rk_putV | exact rk_putV | exact RK.mk | exact RK.bad | exact RK.thenO fun _ => rk_putV | exact RK.thenO fun _ => RK.thenO fun _ => rk_putV | (unfold extO; split <;> first | exact RK.guardR rk_putV | exact RK.bad)
    · unfold bmD
      split
      all_goals first | exact RK.guardR RK.ok | exact rk_putV | exact RK.mk | exact RK.bad | (refine RK.guardR ?_; unfold popD; split <;> first | exact rk_putV | exact RK.ok | exact RK.bad) | (refine RK.guardR ?_; unfold setD; split <;> first | exact rk_putV | exact RK.ok) | (unfold updO; split <;> first | exact RK.guardR rk_putV | exact RK.bad)
    · exact RK.bad
  · exact RK.bad
theorem rk_compL {lk : List Nat} {f : W → Hp → R (Option W)} (hf : ∀ x h, RK lk h (f x h)) : ∀ (xs acc : List W) (h : Hp), RK lk h (compL f xs acc h)
  | [], _, _ => RK.ok
  | x :: r, acc, h => RK.bind (hf x h).calm fun _ _ => RK.guardR (rk_compL hf r _ _)
theorem rk_mapKeys {lk : List Nat} {f : W → Hp → R W} (hf : ∀ x h, RK lk h (f x h)) : ∀ (xs : List W) (h : Hp), RK lk h (mapKeys f xs h)
  | [], _ => RK.ok
  | x :: r, h => RK.bind (hf x h).calm fun _ _ => RK.bind (rk_mapKeys hf r _) fun _ _ => RK.ok
theorem sk_forL {lk : List Nat} {f : W → Env → Hp → S} (hf : ∀ x e h, SK lk h (f x e h)) : ∀ (xs : List W) (e : Env) (h : Hp), SK lk h (forL f xs e h)
  | [], _, _ => SK.ok
  | x :: r, e, h => SK.turn (hf x e h) fun _ _ => sk_forL hf r _ _
theorem sk_whileL {lk : List Nat} {c : Env → Hp → R W} {f : Env → Hp → S} (hc : ∀ e h, RK lk h (c e h)) (hf : ∀ e h, SK lk h (f e h)) : ∀ (n : Nat) (e : Env) (h : Hp), SK lk h (whileL c f n e h)
  | 0, _, _ => trivial
  | n + 1, e, h => SK.on (hc e h) fun _ _ => SK.thenS fun _ => SK.ite (SK.turn (hf _ _) fun _ _ => sk_whileL hc hf n _ _) SK.ok
theorem memr {lk as : List Nat} : ∀ n ∈ lk, n ∈ as ++ lk := fun n hn => List.mem_append_right _ hn
/-- calls keep -/
def CK (X : Cx) : Prop := ∀ lk f xs h, RK lk h (X.call lk f xs h)
mutual
theorem rk_ev : ∀ (m : Ex) (X : Cx) (k : CK X) (env : Env) (h : Hp), RK X.lk h (ev X m env h)
  | .non, _, _, _, _ => by simp only [ev]; exact RK.ok
  | .bl _, _, _, _, _ => by simp only [ev]; exact RK.ok
  | .int _, _, _, _, _ => by simp only [ev]; exact RK.ok
  | .str _, _, _, _, _ => by simp only [ev]; exact RK.ok
  | .var _, _, _, _, _ => by simp only [ev]; exact RK.of
  | .bin op a b, X, k, env, h => by simp only [ev]; exact RK.bind (rk_ev a X k env h) fun _ _ => RK.bind (rk_ev b X k env _) fun _ _ => rk_bin ..
  | .neg a, X, k, env, h => by
    simp only [ev]
    refine RK.bind (rk_ev a X k env h) fun x _ => ?_
    unfold neg
    split <;> first | exact RK.ok | exact RK.bad
  | .cmp op a b, X, k, env, h => by simp only [ev]; exact RK.bind (rk_ev a X k env h) fun _ _ => RK.bind (rk_ev b X k env _) fun _ _ => RK.of
  | .chain op op' a b c, X, k, env, h => by
    simp only [ev]
    exact RK.bind (rk_ev a X k env h) fun _ _ => RK.bind (rk_ev b X k env _) fun _ _ => RK.thenO fun _ => RK.ite (RK.bind (rk_ev c X k env _) fun _ _ => RK.of) RK.ok
  | .and a b, X, k, env, h => by simp only [ev]; exact RK.bind (rk_ev a X k env h) fun _ _ => RK.thenO fun _ => RK.ite (rk_ev b X k env _) RK.ok
  | .or a b, X, k, env, h => by simp only [ev]; exact RK.bind (rk_ev a X k env h) fun _ _ => RK.thenO fun _ => RK.ite RK.ok (rk_ev b X k env _)
  | .not a, X, k, env, h => by simp only [ev]; exact RK.bind (rk_ev a X k env h) fun _ _ => RK.of
  | .ife c a b, X, k, env, h => by simp only [ev]; exact RK.bind (rk_ev c X k env h) fun _ _ => RK.thenO fun _ => RK.ite (rk_ev a X k env _) (rk_ev b X k env _)
  | .fld o f, X, k, env, h => by simp only [ev]; exact RK.bind (rk_ev o X k env h) fun _ _ => RK.of
  | .ix o i, X, k, env, h => by simp only [ev]; exact RK.bind (rk_ev o X k env h) fun _ _ => RK.bind (rk_ev i X k env _) fun _ _ => RK.of
  | .sl o lo hi, X, k, env, h => by simp only [ev]; exact RK.bind (rk_ev o X k env h) fun _ _ => RK.bind (rk_evO lo X k env _) fun _ _ => RK.bind (rk_evO hi X k env _) fun _ _ => rk_slice ..
  | .tup es, X, k, env, h => by simp only [ev]; exact RK.bind (rk_evs es X k env h) fun _ _ => RK.ok
  | .lst es, X, k, env, h => by simp only [ev]; exact RK.bind (rk_evs es X k env h) fun _ _ => RK.mk
  | .dct kvs, X, k, env, h => by simp only [ev]; exact RK.bind (rk_evp kvs X k env h) fun _ _ => RK.guardR RK.mk
  | .call f es, X, k, env, h => by simp only [ev]; exact RK.bind (rk_evs es X k env h) fun _ _ => k _ _ _ _
  | .new c es, X, k, env, h => by
    simp only [ev]
    exact RK.thenO fun _ => RK.bind (rk_evs es X k env h) fun _ _ => RK.bind RK.mk fun _ _ => RK.bind (k _ _ _ _) fun _ _ => RK.ok
  | .meth o m es, X, k, env, h => by
    simp only [ev]
    refine RK.bind (rk_ev o X k env h) fun _ _ => RK.thenO fun t => RK.bind (rk_evs es X k env _) fun _ _ => ?_
    cases t with
    | own f => exact k _ _ _ _
    | blt => exact rk_bm ..
  | .sup c m es, X, k, env, h => by simp only [ev]; exact RK.thenO fun _ => RK.bind (rk_evs es X k env h) fun _ _ => k _ _ _ _
  | .blt b es, X, k, env, h => by simp only [ev]; exact RK.bind (rk_evs es X k env h) fun _ _ => rk_blt ..
  | .isi e t, X, k, env, h => by simp only [ev]; exact RK.bind (rk_ev e X k env h) fun _ _ => RK.of
  | .comp own elt tg it none, X, k, env, h => by
    simp only [ev]
    refine RK.bind (rk_walk it X k env h) fun p _ => RK.bind (rk_compL (fun x h => ?_) _ _ _) fun _ _ => RK.mk
    simp only [turnC]
    exact RK.thenO fun e => RK.bind ((rk_ev elt (X.lock p.2) k e h).less memr) fun _ _ => RK.ok
  | .comp own elt tg it (some c), X, k, env, h => by
    simp only [ev]
    refine RK.bind (rk_walk it X k env h) fun p _ => RK.bind (rk_compL (fun x h => ?_) _ _ _) fun _ _ => RK.mk
    simp only [turnC]
    exact RK.thenO fun e => RK.bind ((rk_ev c (X.lock p.2) k e h).less memr) fun _ _ => RK.thenO fun _ => RK.ite (RK.bind ((rk_ev elt (X.lock p.2) k e _).less memr) fun _ _ => RK.ok) RK.ok
  | .listOf it, X, k, env, h => by simp only [ev]; exact RK.bind (rk_walk it X k env h) fun _ _ => RK.mk
  | .tupOf it, X, k, env, h => by simp only [ev]; exact RK.bind (rk_walk it X k env h) fun _ _ => RK.ok
  | .sortK src i key, X, k, env, h => by
    simp only [ev]
    exact RK.bind (rk_ev src X k env h) fun _ _ => RK.thenO fun p => RK.bind (rk_mapKeys (fun x h => (rk_ev key (X.lock p.2) k _ h).less memr) _ _) fun _ _ => RK.thenO fun _ => RK.mk
  | .minK src i key, X, k, env, h => by
    simp only [ev]
    exact RK.bind (rk_ev src X k env h) fun _ _ => RK.thenO fun p => RK.bind (rk_mapKeys (fun x h => (rk_ev key (X.lock p.2) k _ h).less memr) _ _) fun _ _ => RK.of
  | .fstr es, X, k, env, h => by simp only [ev]; exact RK.bind (rk_evs es X k env h) fun _ _ => RK.thenO fun _ => RK.guardR RK.ok
  | .curFld f, X, k, env, h => by simp only [ev]; exact RK.of
  | .curIs c, X, k, env, h => by simp only [ev]; exact RK.of
theorem rk_evO : ∀ (m : Option Ex) (X : Cx) (k : CK X) (env : Env) (h : Hp), RK X.lk h (evO X m env h)
  | none, _, _, _, _ => by simp only [evO]; exact RK.ok
  | some e, X, k, env, h => by
    simp only [evO]
    refine RK.bind (rk_ev e X k env h) fun x _ => ?_
    unfold part
    split <;> first | exact RK.ok | exact RK.bad
theorem rk_evs : ∀ (m : List Ex) (X : Cx) (k : CK X) (env : Env) (h : Hp), RK X.lk h (evs X m env h)
  | [], _, _, _, _ => by simp only [evs]; exact RK.ok
  | e :: es, X, k, env, h => by simp only [evs]; exact RK.bind (rk_ev e X k env h) fun _ _ => RK.bind (rk_evs es X k env _) fun _ _ => RK.ok
theorem rk_evp : ∀ (m : List (Ex × Ex)) (X : Cx) (k : CK X) (env : Env) (h : Hp), RK X.lk h (evp X m env h)
  | [], _, _, _, _ => by simp only [evp]; exact RK.ok
  | (a, b) :: es, X, k, env, h => by simp only [evp]; exact RK.bind (rk_ev a X k env h) fun _ _ => RK.bind (rk_ev b X k env _) fun _ _ => RK.bind (rk_evp es X k env _) fun _ _ => RK.ok
theorem rk_walk : ∀ (m : It) (X : Cx) (k : CK X) (env : Env) (h : Hp), RK X.lk h (walk X m env h)
  | .val e, X, k, env, h => by simp only [walk]; exact RK.bind (rk_ev e X k env h) fun _ _ => RK.of
  | .rng a, X, k, env, h => by simp only [walk]; exact RK.bind (rk_ev a X k env h) fun _ _ => RK.of
  | .rng2 a b, X, k, env, h => by simp only [walk]; exact RK.bind (rk_ev a X k env h) fun _ _ => RK.bind (rk_ev b X k env _) fun _ _ => RK.of
  | .rng3 a b c, X, k, env, h => by simp only [walk]; exact RK.bind (rk_ev a X k env h) fun _ _ => RK.bind (rk_ev b X k env _) fun _ _ => RK.bind (rk_ev c X k env _) fun _ _ => RK.of
  | .items e, X, k, env, h => by simp only [walk]; exact RK.bind (rk_ev e X k env h) fun _ _ => RK.of
  | .vals e, X, k, env, h => by simp only [walk]; exact RK.bind (rk_ev e X k env h) fun _ _ => RK.of
  | .enum e, X, k, env, h => by simp only [walk]; exact RK.bind (rk_ev e X k env h) fun _ _ => RK.of
  | .zip a b, X, k, env, h => by simp only [walk]; exact RK.bind (rk_ev a X k env h) fun _ _ => RK.bind (rk_ev b X k env _) fun _ _ => RK.of
  | .zip3 a b c, X, k, env, h => by simp only [walk]; exact RK.bind (rk_ev a X k env h) fun _ _ => RK.bind (rk_ev b X k env _) fun _ _ => RK.bind (rk_ev c X k env _) fun _ _ => RK.of
  | .rev e, X, k, env, h => by simp only [walk]; exact RK.bind (rk_ev e X k env h) fun _ _ => RK.of
end
theorem rk_setIx {lk : List Nat} {x y v : W} {h : Hp} : RK lk h (setIx lk x y v h) := by
  unfold setIx
  split
  · unfold setIxO
    split
    · split
      · exact RK.thenO fun _ => RK.put
      · exact RK.bad
    · exact RK.guardR RK.put
    · exact RK.bad
  · exact RK.bad
theorem rk_setFld {lk : List Nat} {x v : W} {f : String} {h : Hp} : RK lk h (setFld lk x f v h) := by
  unfold setFld
  split
  · unfold setFldO
    split <;> first | exact RK.put | exact RK.bad
  · exact RK.bad
mutual
theorem sk_ex : ∀ (m : St) (X : Cx) (k : CK X) (env : Env) (h : Hp), SK X.lk h (ex X m env h)
  | .expr e, X, k, env, h => by simp only [ex]; exact SK.on (rk_ev e X k env h) fun _ _ => SK.ok
  | .set (.tg t) e, X, k, env, h => by simp only [ex]; exact SK.on (rk_ev e X k env h) fun _ _ => SK.thenS fun _ => SK.ok
  | .set (.fld o f) e, X, k, env, h => by simp only [ex]; exact SK.on (rk_ev e X k env h) fun _ _ => SK.on (rk_ev o X k env _) fun _ _ => SK.on rk_setFld fun _ _ => SK.ok
  | .set (.ix o i) e, X, k, env, h => by simp only [ex]; exact SK.on (rk_ev e X k env h) fun _ _ => SK.on (rk_ev o X k env _) fun _ _ => SK.on (rk_ev i X k env _) fun _ _ => SK.on rk_setIx fun _ _ => SK.ok
  | .aug i op e, X, k, env, h => by simp only [ex]; exact SK.on RK.of fun _ _ => SK.on (rk_ev e X k env _) fun _ _ => SK.on (rk_ibin ..) fun _ _ => SK.ok
  | .augF o f op e, X, k, env, h => by simp only [ex]; exact SK.on (rk_ev o X k env h) fun _ _ => SK.on RK.of fun _ _ => SK.on (rk_ev e X k env _) fun _ _ => SK.on (rk_ibin ..) fun _ _ => SK.on rk_setFld fun _ _ => SK.ok
  | .ite c a b, X, k, env, h => by simp only [ex]; exact SK.on (rk_ev c X k env h) fun _ _ => SK.thenS fun _ => SK.ite (sk_exs a X k env _) (sk_exs b X k env _)
  | .while c b, X, k, env, h => by simp only [ex]; exact sk_whileL (fun e h => rk_ev c X k e h) (fun e h => sk_exs b X k e h) _ _ _
  | .for tg it b, X, k, env, h => by
    simp only [ex]
    refine SK.on (rk_walk it X k env h) fun p _ => sk_forL (fun x e h => ?_) _ _ _
    simp only [turnOf]
    exact SK.thenS fun _ => (sk_exs b (X.lock p.2) k _ h).less memr
  | .ret e, X, k, env, h => by simp only [ex]; exact SK.on (rk_ev e X k env h) fun _ _ => SK.ok
  | .brk, X, k, env, h => by simp only [ex]; exact SK.ok
  | .cont, X, k, env, h => by simp only [ex]; exact SK.ok
  | .pass, X, k, env, h => by simp only [ex]; exact SK.ok
  | .raise c es, X, k, env, h => by simp only [ex]; exact SK.on (rk_evs es X k env h) fun _ _ => SK.thenS fun _ => SK.exc
  | .try b hs, X, k, env, h => by
    simp only [ex]
    have := sk_exs b X k env h
    cases hr : exs X b env h with
    | bad => exact trivial
    | ok f h' => rw [hr] at this; exact this
    | exc x e h' => rw [hr] at this; exact SK.next this (sk_hnd hs x X k e h')
theorem sk_exs : ∀ (m : List St) (X : Cx) (k : CK X) (env : Env) (h : Hp), SK X.lk h (exs X m env h)
  | [], X, k, env, h => by simp only [exs]; exact SK.ok
  | s :: r, X, k, env, h => by simp only [exs]; exact SK.then (sk_ex s X k env h) fun _ _ => sk_exs r X k _ _
theorem sk_hnd : ∀ (m : List (String × List St)) (x : Exn) (X : Cx) (k : CK X) (env : Env) (h : Hp), SK X.lk h (hnd X x m env h)
  | [], x, X, k, env, h => by unfold hnd; exact SK.exc
  | (c, b) :: r, x, X, k, env, h => by
    unfold hnd
    exact SK.ite (sk_exs b { X with cur := some x } k env h) (sk_hnd r x X k env h)
end
theorem rk_run (T : Prog) : ∀ (n : Nat) (lk : List Nat) (f : String) (xs : List W) (h : Hp), RK lk h (run T n lk f xs h)
  | 0, _, _, _, _ => trivial
  | n + 1, lk, f, xs, h => by
    unfold run
    refine RK.thenO fun fd => RK.guardR ?_
    have := sk_exs fd.body ⟨T, run T n, lk, none⟩ (fun lk f xs h => rk_run T n lk f xs h) (xs.map some ++ List.replicate (fd.ns - fd.np) none) h
    unfold out
    split <;> rename_i hr <;> first | (rw [hr] at this; exact this) | trivial
end MP

namespace MP
open PySem PySem.Spec PyProof.Rows
abbrev HH := L2.Hp
abbrev HO := L2.HO
abbrev Vv := L2.V
abbrev KEY := L2.Key
/-- a text of codes -/
def sv (cs : List Nat) : Str := ⟨cs.toArray⟩
theorem sv_tl (cs : List Nat) : (sv cs).cps.toList = cs := rfl
theorem sv_inj {a b : List Nat} : sv a = sv b ↔ a = b := by
  constructor
  · intro h
    have := congrArg (fun s : Str => s.cps.toList) h
    exact this
  · intro h; rw [h]
theorem sv_len (cs : List Nat) : (sv cs).length = cs.length := rfl
/-! ### how the little language's data stand in the abstract heap -/
mutual
def RW (ρ : List Addr) (H : HH) : W → Vv → Prop
  | .non, v => v = .non
  | .bl b, v => v = .bl b
  | .int i, v => v = .int i
  | .str s, v => s.length ≤ LINE ∧ v = .str (sv s)
  | .tup xs, v => ∃ a vs, v = .ref a ∧ H a = some (.tup vs) ∧ RWs ρ H xs vs
  | .ref n, v => ∃ a, v = .ref a ∧ ρ[n]? = some a
def RWs (ρ : List Addr) (H : HH) : List W → List Vv → Prop
  | [], vs => vs = []
  | x :: xs, vs => ∃ v r, vs = v :: r ∧ RW ρ H x v ∧ RWs ρ H xs r
end
/-- a flat key -/
def flatK : W → Option KEY
  | .int i => some (.inl i)
  | .str s => if s.length ≤ LINE then some (.inr (sv s)) else none
  | _ => none
def flatKs : List W → Option (List KEY)
  | [] => some []
  | x :: xs => (flatK x).bind fun k => (flatKs xs).map (k :: ·)
def tupK : W → Option (List KEY)
  | .tup xs => flatKs xs
  | _ => none
/-- the pairs of a dict -/
def RP {κ : Type} (f : W → Option κ) (ρ : List Addr) (H : HH) (p : W × W) (q : κ × Vv) : Prop := f p.1 = some q.1 ∧ RW ρ H p.2 q.2
abbrev RPs {κ : Type} (f : W → Option κ) (ρ : List Addr) (H : HH) : List (W × W) → List (κ × Vv) → Prop := Paired (RP f ρ H)
/-- what stands at an address: maybe locked (L) -/
def At (H : HH) (L : Prop) (a : Addr) (u : HO) : Prop := H a = some u ∨ (L ∧ ∃ od, H a = some (.frz od u))
/-- an instance's attributes -/
def RF (ρ : List Addr) (H : HH) (fs : List (String × W)) (gs : List (Str × Vv)) : Prop :=
  fs.length = gs.length ∧ ∀ f, match fs.lookup f with
    | some w => ∃ v, gs.lookup (Str.ofString f) = some v ∧ RW ρ H w v
    | none => gs.lookup (Str.ofString f) = none
/-- where the classes of instances stand, which there are -/
structure CA where
  ad : String → Addr
  cls : List String
def RO (cA : CA) (ρ : List Addr) (H : HH) (L : Prop) (a : Addr) : O → Prop
  | .lst xs => ∃ vs, RWs ρ H xs vs ∧ At H L a (.lst vs)
  | .dct kvs => (∃ ks, RPs flatK ρ H kvs ks ∧ (ks.map (·.1)).Nodup ∧ At H L a (.dK ks)) ∨ (∃ ks, RPs tupK ρ H kvs ks ∧ (ks.map (·.1)).Nodup ∧ At H L a (.dT ks))
  | .ins c fs => ∃ dx gs, c ∈ cA.cls ∧ H a = some (.ins (cA.ad c) dx gs) ∧ RF ρ H fs gs
/-- the heaps agree; L: what may be locked -/
structure RH (cA : CA) (ρ : List Addr) (L : Nat → Prop) (h : Hp) (H : HH) : Prop where
  len : ρ.length = h.length
  nd : ρ.Nodup
  at_ : ∀ n o a, h[n]? = some o → ρ[n]? = some a → RO cA ρ H (L n) a o
/-- the slots agree -/
def RE (ρ : List Addr) (H : HH) (env : Env) (σ : L2.St) : Prop :=
  env.length = σ.length ∧ ∀ (i : Nat) (w : W), env[i]? = some (some w) → ∃ v, σ[i]? = some (some v) ∧ RW ρ H w v
/-- what values need to stay -/
structure Ex0 (ρ ρ' : List Addr) (H H' : HH) : Prop where
  pre : ρ <+: ρ'
  tup : ∀ t vs, H t = some (.tup vs) → H' t = some (.tup vs)
/-- what stays -/
structure Ext (ρ ρ' : List Addr) (H H' : HH) : Prop where
  pre : ρ <+: ρ'
  tup : ∀ t vs, H t = some (.tup vs) → H' t = some (.tup vs)
  frz : ∀ d o u, H d = some (.frz o u) → H' d = some (.frz o u)
  dom : ∀ a, H' a = none → H a = none
  new : ∀ a ∈ ρ', a ∈ ρ ∨ H a = none
  keep : ∀ a u, a ∉ ρ → H a = some u → H' a = some u
theorem Ext.refl {ρ : List Addr} {H : HH} : Ext ρ ρ H H := ⟨List.prefix_refl _, fun _ _ e => e, fun _ _ _ e => e, fun _ e => e, fun _ e => .inl e, fun _ _ _ e => e⟩
theorem Ext.trans {ρ ρ1 ρ2 : List Addr} {H H1 H2 : HH} (a : Ext ρ ρ1 H H1) (b : Ext ρ1 ρ2 H1 H2) : Ext ρ ρ2 H H2 :=
  ⟨a.pre.trans b.pre, fun t vs e => b.tup _ _ (a.tup _ _ e), fun t o u e => b.frz _ _ _ (a.frz _ _ _ e), fun t e => a.dom t (b.dom t e), fun t h => (b.new t h).elim (a.new t) fun e => .inr (a.dom t e), fun t u h e =>
    b.keep t u (fun h1 => (a.new t h1).elim h fun e' => by rw [e'] at e; cases e) (a.keep t u h e)⟩
theorem Ext.e0 {ρ ρ' : List Addr} {H H' : HH} (x : Ext ρ ρ' H H') : Ex0 ρ ρ' H H' := ⟨x.pre, x.tup⟩
theorem Ex0.ix {ρ ρ' : List Addr} {H H' : HH} (x : Ex0 ρ ρ' H H') {n : Nat} {a : Addr} (e : ρ[n]? = some a) : ρ'[n]? = some a := by
  obtain ⟨t, rfl⟩ := x.pre
  rw [List.getElem?_append_left (List.getElem?_eq_some_iff.mp e).1]; exact e
mutual
theorem RW.ext0 {ρ ρ' : List Addr} {H H' : HH} (x : Ex0 ρ ρ' H H') : ∀ {w : W} {v : Vv}, RW ρ H w v → RW ρ' H' w v
  | .non, _, h => h
  | .bl _, _, h => h
  | .int _, _, h => h
  | .str _, _, h => h
  | .tup xs, _, h => by
    obtain ⟨a, vs, e, e2, r⟩ := h
    exact ⟨a, vs, e, x.tup _ _ e2, RWs.ext0 x r⟩
  | .ref n, _, h => by
    obtain ⟨a, e, e2⟩ := h
    exact ⟨a, e, x.ix e2⟩
theorem RWs.ext0 {ρ ρ' : List Addr} {H H' : HH} (x : Ex0 ρ ρ' H H') : ∀ {ws : List W} {vs : List Vv}, RWs ρ H ws vs → RWs ρ' H' ws vs
  | [], _, h => h
  | w :: ws, _, h => by
    obtain ⟨v, r, e, h1, h2⟩ := h
    exact ⟨v, r, e, RW.ext0 x h1, RWs.ext0 x h2⟩
end
theorem RPs.ext0 {κ : Type} {f : W → Option κ} {ρ ρ' : List Addr} {H H' : HH} (x : Ex0 ρ ρ' H H') {ps : List (W × W)} {qs : List (κ × Vv)} (r : RPs f ρ H ps qs) : RPs f ρ' H' ps qs :=
  L2.Paired.mapP r fun _ _ h => ⟨h.1, h.2.ext0 x⟩
theorem RF.ext0 {ρ ρ' : List Addr} {H H' : HH} (x : Ex0 ρ ρ' H H') {fs : List (String × W)} {gs : List (Str × Vv)} (r : RF ρ H fs gs) : RF ρ' H' fs gs := by
  refine ⟨r.1, fun f => ?_⟩
  have := r.2 f
  cases e : fs.lookup f with
  | some w =>
    rw [e] at this
    obtain ⟨v, h1, h2⟩ := this
    exact ⟨v, h1, h2.ext0 x⟩
  | none =>
    rw [e] at this
    exact this
theorem RE.ext0 {ρ ρ' : List Addr} {H H' : HH} (x : Ex0 ρ ρ' H H') {env : Env} {σ : L2.St} (r : RE ρ H env σ) : RE ρ' H' env σ :=
  ⟨r.1, fun i w e => let ⟨v, h1, h2⟩ := r.2 i w e; ⟨v, h1, h2.ext0 x⟩⟩
section
variable {ρ ρ' : List Addr} {H H' : HH} (x : Ext ρ ρ' H H')
include x
theorem Ext.ix {n : Nat} {a : Addr} (e : ρ[n]? = some a) : ρ'[n]? = some a := x.e0.ix e
theorem RW.ext {w : W} {v : Vv} (r : RW ρ H w v) : RW ρ' H' w v := r.ext0 x.e0
theorem RWs.ext {ws : List W} {vs : List Vv} (r : RWs ρ H ws vs) : RWs ρ' H' ws vs := r.ext0 x.e0
theorem RPs.ext {κ : Type} {f : W → Option κ} {ps : List (W × W)} {qs : List (κ × Vv)} (r : RPs f ρ H ps qs) : RPs f ρ' H' ps qs := RPs.ext0 x.e0 r
theorem RF.ext {fs : List (String × W)} {gs : List (Str × Vv)} (r : RF ρ H fs gs) : RF ρ' H' fs gs := r.ext0 x.e0
theorem RE.ext {env : Env} {σ : L2.St} (r : RE ρ H env σ) : RE ρ' H' env σ := r.ext0 x.e0
end
theorem RWs.length {ρ : List Addr} {H : HH} : ∀ {ws : List W} {vs : List Vv}, RWs ρ H ws vs → ws.length = vs.length
  | [], _, h => by cases h; rfl
  | w :: ws, _, h => by obtain ⟨v, r, rfl, _, h2⟩ := h; rw [List.length_cons, List.length_cons, RWs.length h2]
theorem RWs.get {ρ : List Addr} {H : HH} : ∀ {ws : List W} {vs : List Vv} {i : Nat} {w : W}, RWs ρ H ws vs → ws[i]? = some w → ∃ v, vs[i]? = some v ∧ RW ρ H w v
  | [], _, _, _, _, e => by simp at e
  | x :: ws, _, 0, w, h, e => by obtain ⟨v, r, rfl, h1, _⟩ := h; simp at e; subst e; exact ⟨v, rfl, h1⟩
  | x :: ws, _, i + 1, w, h, e => by obtain ⟨v, r, rfl, _, h2⟩ := h; exact RWs.get (i := i) h2 (by simpa using e)
theorem RWs.append {ρ : List Addr} {H : HH} : ∀ {xs ys : List W} {vs us : List Vv}, RWs ρ H xs vs → RWs ρ H ys us → RWs ρ H (xs ++ ys) (vs ++ us)
  | [], _, _, _, h, g => by cases h; exact g
  | x :: xs, _, _, _, h, g => by obtain ⟨v, r, rfl, h1, h2⟩ := h; exact ⟨v, _, rfl, h1, RWs.append h2 g⟩
theorem RWs.take {ρ : List Addr} {H : HH} : ∀ {xs : List W} {vs : List Vv} (n : Nat), RWs ρ H xs vs → RWs ρ H (xs.take n) (vs.take n)
  | _, _, 0, _ => rfl
  | [], _, n + 1, h => by cases h; rfl
  | x :: xs, _, n + 1, h => by obtain ⟨v, r, rfl, h1, h2⟩ := h; exact ⟨v, _, rfl, h1, RWs.take n h2⟩
theorem RWs.drop {ρ : List Addr} {H : HH} : ∀ {xs : List W} {vs : List Vv} (n : Nat), RWs ρ H xs vs → RWs ρ H (xs.drop n) (vs.drop n)
  | _, _, 0, h => h
  | [], _, n + 1, h => by cases h; rfl
  | x :: xs, _, n + 1, h => by obtain ⟨v, r, rfl, h1, h2⟩ := h; exact RWs.drop n h2
theorem RWs.set {ρ : List Addr} {H : HH} {w : W} {v : Vv} (r : RW ρ H w v) : ∀ {xs : List W} {vs : List Vv} (n : Nat), RWs ρ H xs vs → RWs ρ H (xs.set n w) (vs.set n v)
  | [], _, _, h => by cases h; rfl
  | x :: xs, _, 0, h => by obtain ⟨u, t, rfl, h1, h2⟩ := h; exact ⟨v, t, rfl, r, h2⟩
  | x :: xs, _, n + 1, h => by obtain ⟨u, t, rfl, h1, h2⟩ := h; exact ⟨u, _, rfl, h1, RWs.set r n h2⟩
theorem RWs.eraseIdx {ρ : List Addr} {H : HH} : ∀ {xs : List W} {vs : List Vv} (n : Nat), RWs ρ H xs vs → RWs ρ H (xs.eraseIdx n) (vs.eraseIdx n)
  | [], _, _, h => by cases h; rfl
  | x :: xs, _, 0, h => by obtain ⟨u, t, rfl, h1, h2⟩ := h; exact h2
  | x :: xs, _, n + 1, h => by obtain ⟨u, t, rfl, h1, h2⟩ := h; exact ⟨u, _, rfl, h1, RWs.eraseIdx n h2⟩
theorem RWs.reverse {ρ : List Addr} {H : HH} : ∀ {xs : List W} {vs : List Vv}, RWs ρ H xs vs → RWs ρ H xs.reverse vs.reverse
  | [], _, h => by cases h; rfl
  | x :: xs, _, h => by
    obtain ⟨u, t, rfl, h1, h2⟩ := h
    rw [List.reverse_cons, List.reverse_cons]
    exact RWs.append (RWs.reverse h2) ⟨u, [], rfl, h1, rfl⟩
theorem RWs.dropLast {ρ : List Addr} {H : HH} {xs : List W} {vs : List Vv} (h : RWs ρ H xs vs) : RWs ρ H xs.dropLast vs.dropLast := by
  rw [List.dropLast_eq_take, List.dropLast_eq_take, h.length]
  exact RWs.take _ h
theorem RE.set {ρ : List Addr} {H : HH} {env : Env} {σ : L2.St} (r : RE ρ H env σ) {w : W} {v : Vv} (rv : RW ρ H w v) (i : Nat) : RE ρ H (env.set i (some w)) (σ.set i (some v)) := by
  refine ⟨by rw [List.length_set, List.length_set, r.1], fun j u e => ?_⟩
  by_cases h : i = j
  · subst h
    by_cases hi : i < env.length
    · rw [List.getElem?_set_self hi] at e
      cases e
      exact ⟨v, by rw [List.getElem?_set_self (by rw [← r.1]; exact hi)], rv⟩
    · rw [List.getElem?_eq_none (by rw [List.length_set]; omega)] at e; cases e
  · rw [List.getElem?_set_ne h] at e
    obtain ⟨v', h1, h2⟩ := r.2 j u e
    exact ⟨v', by rw [List.getElem?_set_ne h]; exact h1, h2⟩
theorem RE.unset {ρ : List Addr} {H : HH} {env : Env} {σ : L2.St} (r : RE ρ H env σ) (i : Nat) (o : Option Vv) : RE ρ H (env.set i none) (σ.set i o) := by
  refine ⟨by rw [List.length_set, List.length_set, r.1], fun j u e => ?_⟩
  by_cases h : i = j
  · subst h
    by_cases hi : i < env.length
    · rw [List.getElem?_set_self hi] at e; cases e
    · rw [List.getElem?_eq_none (by rw [List.length_set]; omega)] at e; cases e
  · rw [List.getElem?_set_ne h] at e
    obtain ⟨v', h1, h2⟩ := r.2 j u e
    exact ⟨v', by rw [List.getElem?_set_ne h]; exact h1, h2⟩
theorem RE.wipe {ρ : List Addr} {H : HH} {env : Env} {σ : L2.St} (r : RE ρ H env σ) : ∀ own : List Nat, RE ρ H (wipe env own) (L2.wipe σ own)
  | [] => r
  | i :: is => by
    show RE ρ H ((MP.wipe env is).set i none) ((L2.wipe σ is).set i none)
    exact (RE.wipe r is).unset i none
theorem dom_upd {H : HH} {a : Addr} {u : HO} : ∀ t, L2.upd H a u t = none → H t = none := fun t e => by
  by_cases h : t = a
  · subst h; rw [L2.upd_same] at e; cases e
  · rw [L2.upd_ne h] at e; exact e
/-! ### the heaps change together -/
section
variable {cA : CA} {ρ : List Addr} {L L' : Nat → Prop} {h : Hp} {H H' : HH}
theorem RO.ext0 {ρ' : List Addr} {P P' : Prop} {a : Addr} (x : Ex0 ρ ρ' H H') (e : H' a = H a) (hL : P → P') : ∀ {o : O}, RO cA ρ H P a o → RO cA ρ' H' P' a o
  | .lst xs, ⟨vs, r, k⟩ => ⟨vs, r.ext0 x, k.elim (fun z => .inl (e.trans z)) fun ⟨p, od, z⟩ => .inr ⟨hL p, od, e.trans z⟩⟩
  | .dct kvs, k => k.elim
      (fun ⟨ks, r, n, k⟩ => .inl ⟨ks, RPs.ext0 x r, n, k.elim (fun z => .inl (e.trans z)) fun ⟨p, od, z⟩ => .inr ⟨hL p, od, e.trans z⟩⟩)
      (fun ⟨ks, r, n, k⟩ => .inr ⟨ks, RPs.ext0 x r, n, k.elim (fun z => .inl (e.trans z)) fun ⟨p, od, z⟩ => .inr ⟨hL p, od, e.trans z⟩⟩)
  | .ins c fs, ⟨dx, gs, m, z, r⟩ => ⟨dx, gs, m, e.trans z, r.ext0 x⟩
theorem RO.ext {ρ' : List Addr} {P P' : Prop} {a : Addr} (x : Ext ρ ρ' H H') (e : H' a = H a) (hL : P → P') {o : O} (r : RO cA ρ H P a o) : RO cA ρ' H' P' a o := r.ext0 x.e0 e hL
theorem RH.weaken (r : RH cA ρ L h H) (hL : ∀ n, L n → L' n) : RH cA ρ L' h H :=
  ⟨r.len, r.nd, fun n o a e1 e2 => (r.at_ n o a e1 e2).ext .refl rfl (hL n)⟩
/-- an untracked or other thing changes: nothing of ours -/
theorem RH.keep0 (r : RH cA ρ L h H) (x : Ex0 ρ ρ H H') (k : ∀ a ∈ ρ, H' a = H a) : RH cA ρ L h H' :=
  ⟨r.len, r.nd, fun n o a e1 e2 => (r.at_ n o a e1 e2).ext0 x (k a (List.mem_of_getElem? e2)) id⟩
theorem RH.keep (r : RH cA ρ L h H) (x : Ext ρ ρ H H') (k : ∀ a ∈ ρ, H' a = H a) : RH cA ρ L h H' := r.keep0 x.e0 k
theorem ix_lt {α : Type} {l : List α} {n : Nat} {a : α} (e : l[n]? = some a) : n < l.length := (List.getElem?_eq_some_iff.mp e).1
theorem RH.get (r : RH cA ρ L h H) {n : Nat} {o : O} (e : rd h n = some o) : ∃ a, ρ[n]? = some a ∧ RO cA ρ H (L n) a o := by
  have hn : n < ρ.length := by rw [r.len]; exact ix_lt e
  exact ⟨ρ[n], List.getElem?_eq_getElem hn, r.at_ n o _ e (List.getElem?_eq_getElem hn)⟩
theorem RO.some {P : Prop} {a : Addr} : ∀ {o : O}, RO cA ρ H P a o → ∃ u, H a = some u
  | .lst _, ⟨_, _, k⟩ => k.elim (fun z => ⟨_, z⟩) fun ⟨_, _, z⟩ => ⟨_, z⟩
  | .dct _, k => k.elim (fun ⟨_, _, _, k⟩ => k.elim (fun z => ⟨_, z⟩) fun ⟨_, _, z⟩ => ⟨_, z⟩) (fun ⟨_, _, _, k⟩ => k.elim (fun z => ⟨_, z⟩) fun ⟨_, _, z⟩ => ⟨_, z⟩)
  | .ins _ _, ⟨_, _, _, z, _⟩ => ⟨_, z⟩
theorem RH.fresh (r : RH cA ρ L h H) {a : Addr} (e : H a = none) : a ∉ ρ := fun hm => by
  obtain ⟨n, hn⟩ := List.getElem?_of_mem hm
  have hl : n < h.length := by rw [← r.len]; exact ix_lt hn
  obtain ⟨u, hu⟩ := (r.at_ n h[n] a (List.getElem?_eq_getElem hl) hn).some
  rw [e] at hu; cases hu
/-- a new cell -/
theorem RH.laid (r : RH cA ρ L h H) {a : Addr} {u : HO} {o : O} (e : H a = none) (new : ∀ x : Ext ρ (ρ ++ [a]) H (L2.upd H a u), RO cA (ρ ++ [a]) (L2.upd H a u) (L h.length) a o) :
    Ext ρ (ρ ++ [a]) H (L2.upd H a u) ∧ RH cA (ρ ++ [a]) L (h ++ [o]) (L2.upd H a u) ∧ (ρ ++ [a])[h.length]? = some a := by
  have x : Ext ρ (ρ ++ [a]) H (L2.upd H a u) := ⟨List.prefix_append _ _, fun t vs z => by rw [L2.upd_ne (L2.ne_of_none z e)]; exact z, fun t o u z => by rw [L2.upd_ne (L2.ne_of_none z e)]; exact z, dom_upd, fun t h => (List.mem_append.mp h).imp id fun h => by rw [List.mem_singleton.mp h]; exact e, fun t u _ z => by rw [L2.upd_ne (L2.ne_of_none z e)]; exact z⟩
  have na := r.fresh e
  have hl : (ρ ++ [a])[h.length]? = some a := by rw [← r.len]; simp
  refine ⟨x, ⟨by simp [r.len], ?_, fun n o' b e1 e2 => ?_⟩, hl⟩
  · rw [List.nodup_append]
    exact ⟨r.nd, by simp, fun b hb c hc => by simp at hc; subst hc; exact fun z => na (z ▸ hb)⟩
  · by_cases hn : n < h.length
    · rw [List.getElem?_append_left hn] at e1
      rw [List.getElem?_append_left (by rw [r.len]; exact hn)] at e2
      refine (r.at_ n o' b e1 e2).ext x ?_ id
      rw [L2.upd_ne fun z => na (by rw [← z]; exact List.mem_of_getElem? e2)]
    · have hn' : n = h.length := by
        have := ix_lt e1
        rw [List.length_append] at this
        simp at this
        omega
      subst hn'
      rw [hl] at e2
      cases e2
      simp at e1
      subst e1
      exact new x
/-- a thing is laid that is no cell of ours -/
theorem RH.side (r : RH cA ρ L h H) {a : Addr} {u : HO} (e : H a = none) : Ext ρ ρ H (L2.upd H a u) ∧ RH cA ρ L h (L2.upd H a u) := by
  have x : Ext ρ ρ H (L2.upd H a u) := ⟨List.prefix_refl _, fun t vs z => by rw [L2.upd_ne (L2.ne_of_none z e)]; exact z, fun t o u z => by rw [L2.upd_ne (L2.ne_of_none z e)]; exact z, dom_upd, fun t h => .inl h, fun t u _ z => by rw [L2.upd_ne (L2.ne_of_none z e)]; exact z⟩
  exact ⟨x, r.keep x fun b hb => L2.upd_ne fun z => r.fresh e (by rw [← z]; exact hb)⟩
/-- a cell is written -/
theorem RH.write (r : RH cA ρ L h H) {n : Nat} {a : Addr} {u : HO} {o : O} (ha : ρ[n]? = some a) (mu : L2.Mut (H a)) (new : ∀ x : Ext ρ ρ H (L2.upd H a u), RO cA ρ (L2.upd H a u) (L n) a o) :
    Ext ρ ρ H (L2.upd H a u) ∧ RH cA ρ L (h.set n o) (L2.upd H a u) := by
  have x : Ext ρ ρ H (L2.upd H a u) := ⟨List.prefix_refl _, fun t vs z => by rw [L2.upd_ne fun q => by rw [q] at z; rw [z] at mu; exact mu]; exact z, fun t o u z => by rw [L2.upd_ne fun q => by rw [q] at z; rw [z] at mu; exact mu]; exact z, dom_upd, fun t h => .inl h, fun t u h z => by rw [L2.upd_ne fun q => h (by rw [q]; exact List.mem_of_getElem? ha)]; exact z⟩
  refine ⟨x, ⟨by simp [r.len], r.nd, fun m o' b e1 e2 => ?_⟩⟩
  by_cases hm : n = m
  · subst hm
    have hl : n < h.length := by have := ix_lt e1; simpa using this
    rw [List.getElem?_set_self hl] at e1
    cases e1
    rw [ha] at e2
    cases e2
    exact new x
  · rw [List.getElem?_set_ne hm] at e1
    refine (r.at_ m o' b e1 e2).ext x ?_ id
    rw [L2.upd_ne]
    rintro rfl
    exact hm ((List.getElem?_inj (ix_lt ha) r.nd).mp (ha.trans e2.symm))
end
end MP

namespace MP
open PySem PySem.Spec PyProof.Rows
/-! ### what an answer of the little language asks of what is wanted -/
def RX (cA : CA) (ρ : List Addr) (H : HH) (x : Exn) (cls : Value) (d : Option Addr) : Prop :=
  cls = .ref (cA.ad x.c) ∧ ∀ f w, x.fs.lookup f = some w → ∃ dd fs v, d = some dd ∧ H dd = some (.xd fs) ∧ fs.lookup (Str.ofString f) = some v ∧ RW ρ H w v
def Good {α β : Type} (cA : CA) (lk : List Nat) (Rel : List Addr → HH → α → β → Prop) (r : R α) (ρ : List Addr) (H : HH) (Q : β → HH → Prop) (E : L2.XK) : Prop :=
  match r with
  | .ok w h' => ∀ ρ' v H', Ext ρ ρ' H H' → RH cA ρ' (· ∈ lk) h' H' → Rel ρ' H' w v → Q v H'
  | .exc x h' => ∀ ρ' cls d H', Ext ρ ρ' H H' → RH cA ρ' (fun _ => True) h' H' → RX cA ρ' H' x cls d → E cls d H'
  | .bad => False
section
variable {α β γ δ : Type} {cA : CA} {lk : List Nat} {Rel : List Addr → HH → α → β → Prop} {Rel2 : List Addr → HH → γ → δ → Prop} {r : R α} {ρ ρ1 : List Addr} {H H1 : HH} {Q Q' : β → HH → Prop} {E : L2.XK} {h : Hp}
theorem Good.ext (g : Good cA lk Rel r ρ H Q E) (x : Ext ρ ρ1 H H1) : Good cA lk Rel r ρ1 H1 Q E := by
  cases r with
  | bad => exact g
  | ok w h => exact fun ρ' v H' e => g ρ' v H' (x.trans e)
  | exc y h => exact fun ρ' c d H' e => g ρ' c d H' (x.trans e)
theorem Good.bind {f : α → Hp → R γ} {Q2 : δ → HH → Prop} (g : Good cA lk Rel2 (r.bind f) ρ H Q2 E)
    (k : ∀ w h1 ρ1 v H1, r = .ok w h1 → Ext ρ ρ1 H H1 → RH cA ρ1 (· ∈ lk) h1 H1 → Rel ρ1 H1 w v → Good cA lk Rel2 (f w h1) ρ1 H1 Q2 E → Q v H1) : Good cA lk Rel r ρ H Q E := by
  cases r with
  | bad => exact g
  | ok w h => exact fun ρ1 v H1 e rh rel => k w h ρ1 v H1 rfl e rh rel (Good.ext (r := f w h) g e)
  | exc y h => exact g
theorem Good.of {o : Option α} (g : Good cA lk Rel (.of o h) ρ H Q E) : ∃ w, o = some w ∧ Good cA lk Rel (.ok w h) ρ H Q E := by
  cases o with
  | none => exact g.elim
  | some w => exact ⟨w, rfl, g⟩
theorem Good.thenO {o : Option γ} {f : γ → R α} (g : Good cA lk Rel (thenO o f) ρ H Q E) : ∃ w, o = some w ∧ Good cA lk Rel (f w) ρ H Q E := by
  cases o with
  | none => exact g.elim
  | some w => exact ⟨w, rfl, g⟩
theorem Good.guardR {b : Bool} (g : Good cA lk Rel (guardR b r) ρ H Q E) : b = true ∧ Good cA lk Rel r ρ H Q E := by
  cases b with
  | false => exact g.elim
  | true => exact ⟨rfl, g⟩
theorem Good.here {w : α} {v : β} (g : Good cA lk Rel (.ok w h) ρ H Q E) (rh : RH cA ρ (· ∈ lk) h H) (rel : Rel ρ H w v) : Q v H := g ρ v H .refl rh rel
end
/-! ### operators by values -/
section
variable {cA : CA} {Y : L2.Cx} {lk : List Nat} {ρ : List Addr} {H : HH} {h : Hp} {E : L2.XK}
/-- a new list -/
theorem mk_lst {xs : List W} {vs : List Vv} {Q : Vv → HH → Prop} (g : Good cA lk RW (mk (.lst xs) h) ρ H Q E) (rh : RH cA ρ (· ∈ lk) h H) (r : RWs ρ H xs vs) : ∀ p, H p = none → Q (.ref p) (L2.upd H p (.lst vs)) := fun p e => by
  obtain ⟨x, rh', hl⟩ := rh.laid (u := .lst vs) (o := .lst xs) e fun x => ⟨vs, r.ext x, .inl L2.upd_same⟩
  exact g _ _ _ x rh' ⟨p, rfl, hl⟩
/-- a new tuple -/
theorem mk_tup {xs : List W} {vs : List Vv} {Q : Vv → HH → Prop} (g : Good cA lk RW (.ok (.tup xs) h) ρ H Q E) (rh : RH cA ρ (· ∈ lk) h H) (r : RWs ρ H xs vs) : ∀ p, H p = none → Q (.ref p) (L2.upd H p (.tup vs)) := fun p e => by
  obtain ⟨x, rh'⟩ := rh.side (u := .tup vs) e
  exact g _ _ _ x rh' ⟨p, vs, rfl, L2.upd_same, r.ext x⟩
/-- a new dict -/
theorem mk_dK {kvs : List (W × W)} {ks : List (KEY × Vv)} {Q : Vv → HH → Prop} (g : Good cA lk RW (mk (.dct kvs) h) ρ H Q E) (rh : RH cA ρ (· ∈ lk) h H) (r : RPs flatK ρ H kvs ks) (n : (ks.map (·.1)).Nodup) : ∀ p, H p = none → Q (.ref p) (L2.upd H p (.dK ks)) := fun p e => by
  obtain ⟨x, rh', hl⟩ := rh.laid (u := .dK ks) (o := .dct kvs) e fun x => .inl ⟨ks, r.ext x, n, .inl L2.upd_same⟩
  exact g _ _ _ x rh' ⟨p, rfl, hl⟩
theorem line_le : LINE ≤ sizeLine := by rw [sizeLine_eq]; decide
theorem At.rd {L : Prop} {a : Addr} {u : HO} (z : At H L a u) : L2.Rd H a u := z.elim .inl fun ⟨_, od, e⟩ => .inr ⟨od, e⟩
theorem At.plain {L : Prop} {a : Addr} {u : HO} (z : At H L a u) (n : ¬ L) : H a = some u := z.elim id fun ⟨p, _⟩ => (n p).elim
theorem At.seqL {L : Prop} {K : PySem.W.Frag} {a : Addr} {vs : List Vv} (z : At H L a (.lst vs)) : L2.SqL K H a vs := .inl z.rd
theorem sv_add (a b : List Nat) : sv a ++ sv b = sv (a ++ b) := L2Ext a b where
  L2Ext (a b : List Nat) : sv a ++ sv b = sv (a ++ b) := by
    apply TL.ext_tl
    rw [TL.tl_append]
    rfl
theorem natAbs_lt {i : Int} {n : Nat} : i.natAbs < n ↔ -(n : Int) < i ∧ i < n := by omega
theorem mulOk_ok {i j : Int} (e : mulOk i j = true) : L2.CMulW i j ∨ L2.CMul i j := by
  unfold mulOk at e
  simp only [Bool.or_eq_true, Bool.and_eq_true, decide_eq_true_eq] at e
  have e64 : ((2 ^ 64 : Nat) : Int) = 2 ^ 64 := by norm_cast
  rcases e with (e | e) | ⟨e1, e2⟩
  · have := natAbs_lt.mp e
    rw [e64] at this
    exact .inr (.inl this)
  · have := natAbs_lt.mp e
    rw [e64] at this
    exact .inr (.inr this)
  · exact .inl (L2.wide_mul e1 e2 (by decide) (by decide) (by decide))
theorem divOk_ok {i j : Int} (e : divOk j = true) : L2.CDivW i j := by
  unfold divOk at e
  simp only [Bool.and_eq_true, decide_eq_true_eq] at e
  refine L2.wide_div (b := 1000) e.1 ?_ (by decide) (by decide)
  have h0 := e.1
  have h1 := e.2
  have e2 : ((2 ^ 1000 : Nat) : Int) = 2 ^ 1000 := by norm_cast
  rw [natAbs_lt, e2]
  exact ⟨by have : (0 : Int) < 2 ^ 1000 := by rw [← e2]; exact Int.natCast_pos.mpr (Nat.two_pow_pos _)
            omega, h1⟩
theorem powOk_ok {i j : Int} (e : powOk i j = true) : L2.CPow i j := by
  unfold powOk at e
  simp only [Bool.and_eq_true, decide_eq_true_eq] at e
  exact ⟨e.1.1, e.1.2, e.2⟩
def pyOp : BinOp → Operator
  | .add => .Add | .sub => .Sub | .mul => .Mult | .fdiv => .FloorDiv | .mod => .Mod | .pow => .Pow | .shl => .LShift | .shr => .RShift | .band => .BitAnd | .bor => .BitOr
/-- the reading of an operator -/
def rBin (cA : CA) (lk : List Nat) (op : BinOp) : L2.R2 := fun x y H Q => ∃ ρ h w u E, RH cA ρ (· ∈ lk) h H ∧ RW ρ H w x ∧ RW ρ H u y ∧ Good cA lk RW (bin op w u h) ρ H Q E
theorem OpR.imp {f : Value → Value → Sem Value} {r r' : L2.R2} (k : L2.OpR Y f r) (h : ∀ x y H Q, r' x y H Q → r x y H Q) : L2.OpR Y f r' :=
  fun pins s σ H x y v u Q I rx ry q => k pins s σ H x y v u Q I rx ry (h _ _ _ _ q)
end
end MP

namespace MP
open PySem PySem.Spec PyProof.Rows
section
variable {cA : CA} {Y : L2.Cx} {lk : List Nat} {ρ : List Addr} {H : HH} {h : Hp} {E : L2.XK}
theorem RWs.nil_iff {ρ : List Addr} {H : HH} {xs : List W} {vs : List Vv} (r : RWs ρ H xs vs) : xs = [] ↔ vs = [] := by
  have := r.length
  constructor
  · rintro rfl; exact List.length_eq_zero_iff.mp this.symm
  · rintro rfl; exact List.length_eq_zero_iff.mp this
/-- text times a number -/
theorem mul_strI {s : Shared} {x : Str} {n : Int} {t u : Tok} {prog : Program} {w : World} {A : Around} {E : Value → Shared → Prop} {Q : Value → Shared → Prop} (hn : n.natAbs < 2 ^ 62) (hl : x.length * n.toNat ≤ 1000000)
    (h : ∀ tk tk', Q (.str (sv (List.replicate n.toNat x.cps.toList).flatten) tk) { s with toks := tk' }) : wpAny (model prog w) A (binaryOp .Mult (.str x t) (.int n u)) Q E s := by
  have e62 : ((2 ^ 62 : Nat) : Int) = 2 ^ 62 := by norm_cast
  have b := natAbs_lt.mp hn
  rw [e62] at b
  refine PySem.P.mul_str (by rw [decide_eq_false (by omega), decide_eq_false (by omega)]; rfl) (fun h1 _ => ?_) (fun h1 _ => ?_) ?_
  · have h2 : (0 : Int) < n := by omega
    have h3 : (x.length : Int) * n ≤ 1000000 := by
      have : ((x.length * n.toNat : Nat) : Int) ≤ ((1000000 : Nat) : Int) := Int.ofNat_le.mpr hl
      rw [Int.natCast_mul, Int.toNat_of_nonneg (by omega)] at this
      have e6 : ((1000000 : Nat) : Int) = 1000000 := rfl
      omega
    have h4 : (x.length : Int) ≤ (2 ^ 63 - 1) / n := by
      rw [Int.le_ediv_iff_mul_le h2]; omega
    omega
  · unfold Builtin.Str.tooLong
    rw [sizeLine_eq]
    exact decide_eq_false (by omega)
  · by_cases h1 : n < 1
    · rw [if_pos h1]
      have e : n.toNat = 0 := by omega
      have := h s.toks (s.toks + 1)
      rw [e] at this
      exact ⟨by decide, this⟩
    · rw [if_neg h1]
      by_cases h2 : (n == 1 || x.length == 0) = true
      · rw [if_pos h2]
        have e : sv (List.replicate n.toNat x.cps.toList).flatten = x := by
          apply TL.ext_tl
          show (List.replicate n.toNat x.cps.toList).flatten = x.cps.toList
          simp only [Bool.or_eq_true, beq_iff_eq] at h2
          rcases h2 with h2 | h2
          · subst h2; simp
          · have : x.cps.toList = [] := by
              apply List.length_eq_zero_iff.mp
              rw [Array.length_toList]; exact h2
            rw [this]; simp
        have := h t s.toks
        rw [e] at this
        exact this
      · rw [if_neg h2]
        have e : (⟨(List.replicate n.toNat x.cps).foldl (· ++ ·) #[]⟩ : Str) = sv (List.replicate n.toNat x.cps.toList).flatten := by
          apply TL.ext_tl
          show ((List.replicate n.toNat x.cps).foldl (· ++ ·) #[]).toList = (List.replicate n.toNat x.cps.toList).flatten
          have gen : ∀ (k : Nat) (a : Array Nat), ((List.replicate k x.cps).foldl (· ++ ·) a).toList = a.toList ++ (List.replicate k x.cps.toList).flatten := by
            intro k
            induction k with
            | zero => intro a; simp
            | succ k ih => intro a; rw [List.replicate_succ, List.foldl_cons, ih, List.replicate_succ, List.flatten_cons, Array.toList_append, List.append_assoc]
          rw [gen]; rfl
        rw [e]
        refine ⟨?_, h _ _⟩
        have el : (sv (List.replicate n.toNat x.cps.toList).flatten).length = n.toNat * x.length := by
          rw [sv_len, List.length_flatten, List.map_replicate, List.sum_replicate_nat, Array.length_toList]
          rfl
        rw [el, sizeLine_eq, Nat.mul_comm]
        omega
theorem lstR {pins : List (Addr × Obj)} {s : Shared} {σ : L2.St} {l : Addr} {xs : List Vv} (I : L2.Inv Y pins σ H s) (hH : L2.Rd H l (.lst xs)) : xs.length ≤ sizeLine ∧ ∃ (its : List Value) (n : Nat), L2.Vals xs its ∧ xs.length = its.length ∧ s.heap.get? l = some { cls := .type "list", data := .seq its.toArray n } := by
  obtain ⟨z, its, n, r, e⟩ := hH.ok I.hok
  exact ⟨z, its, n, r, r.length, e⟩
theorem op_catR : L2.OpR Y (binaryOp .Add) (fun x y H Q => ∃ l b xs zs, x = .ref l ∧ y = .ref b ∧ L2.Rd H l (.lst xs) ∧ L2.Rd H b (.lst zs) ∧ xs.length + zs.length ≤ sizeLine ∧ ∀ p, H p = none → Q (.ref p) (L2.upd H p (.lst (xs ++ zs)))) := by
  intro pins s σ H x y v u Q I rx ry h
  obtain ⟨l, b, xs, zs, rfl, rfl, hH, hB, hz, q⟩ := h
  cases rx
  cases ry
  obtain ⟨z, its, n, r, hl, e⟩ := lstR I hH
  obtain ⟨z2, its2, n2, r2, hl2, e2⟩ := lstR I hB
  refine PySem.P.add_list e e2 ?_ (by rw [List.size_toArray, List.size_toArray]; omega)
  have ea : its.toArray ++ its2.toArray = (its ++ its2).toArray := by simp
  rw [ea]
  exact ⟨.ref _, _, I.lnew (t' := s.toks) (r.append r2) (by rw [List.length_append]; omega), rfl, q _ I.fresh⟩
theorem bin_ok (op : BinOp) : L2.OpR Y (binaryOp (pyOp op)) (rBin cA lk op) := by
  intro pins s σ H x y v u Q I rx ry ⟨ρ, h, a, b, E, rh, ra, rb, g⟩
  unfold bin at g
  split at g
  · cases ra; cases rb
    exact L2.op_add pins s σ H _ _ v u Q I rx ry ⟨_, _, rfl, rfl, g.here rh rfl⟩
  · cases ra; cases rb
    exact L2.op_sub pins s σ H _ _ v u Q I rx ry ⟨_, _, rfl, rfl, g.here rh rfl⟩
  · cases ra; cases rb
    obtain ⟨e, g⟩ := g.guardR
    rcases mulOk_ok e with e | e
    · exact L2.op_mulW pins s σ H _ _ v u Q I rx ry ⟨_, _, rfl, rfl, e, g.here rh rfl⟩
    · exact L2.op_mul pins s σ H _ _ v u Q I rx ry ⟨_, _, rfl, rfl, e, g.here rh rfl⟩
  · cases ra; cases rb
    obtain ⟨e, g⟩ := g.guardR
    exact L2.op_fdivW pins s σ H _ _ v u Q I rx ry ⟨_, _, rfl, rfl, divOk_ok e, g.here rh rfl⟩
  · cases ra; cases rb
    obtain ⟨e, g⟩ := g.guardR
    exact L2.op_mod pins s σ H _ _ v u Q I rx ry ⟨_, _, rfl, rfl, of_decide_eq_true e, g.here rh rfl⟩
  · cases ra; cases rb
    obtain ⟨e, g⟩ := g.guardR
    exact L2.op_pow pins s σ H _ _ v u Q I rx ry ⟨_, _, rfl, rfl, powOk_ok e, g.here rh rfl⟩
  · cases ra; cases rb
    obtain ⟨e, g⟩ := g.guardR
    exact L2.op_shl pins s σ H _ _ v u Q I rx ry ⟨_, _, rfl, rfl, powOk_ok e, g.here rh rfl⟩
  · cases ra; cases rb
    obtain ⟨e, g⟩ := g.guardR
    exact L2.op_shr pins s σ H _ _ v u Q I rx ry ⟨_, _, rfl, rfl, of_decide_eq_true e, g.here rh rfl⟩
  · cases ra; cases rb
    obtain ⟨e, g⟩ := g.guardR
    simp only [Bool.and_eq_true, decide_eq_true_eq] at e
    exact L2.op_and pins s σ H _ _ v u Q I rx ry ⟨_, _, rfl, rfl, by
      show Q (.int (Builtin.bitAnd _ _)) H
      rw [bitAnd_pp e.1 e.2]; exact g.here rh rfl⟩
  · cases ra; cases rb
    obtain ⟨e, g⟩ := g.guardR
    simp only [Bool.and_eq_true, decide_eq_true_eq] at e
    exact L2.op_or pins s σ H _ _ v u Q I rx ry ⟨_, _, rfl, rfl, by
      show Q (.int (Builtin.bitOr _ _)) H
      rw [Bits.bitOr_pp e.1 e.2]; exact g.here rh rfl⟩
  · obtain ⟨_, rfl⟩ := ra
    obtain ⟨_, rfl⟩ := rb
    obtain ⟨e, g⟩ := g.guardR
    have el := of_decide_eq_true e
    have e := Nat.le_trans el line_le
    exact L2.op_add_str pins s σ H _ _ v u Q I rx ry ⟨_, _, rfl, rfl, e, by rw [sv_add]; exact g.here rh ⟨by rw [List.length_append]; exact el, rfl⟩⟩
  · obtain ⟨e, g⟩ := g.guardR
    obtain ⟨p, vs, rfl, hp, hr⟩ := ra
    obtain ⟨q, us, rfl, hq, hr'⟩ := rb
    have e := Nat.le_trans (of_decide_eq_true e) line_le
    have hrr := hr.append hr'
    refine L2.op_catA pins s σ H _ _ v u Q I rx ry ⟨p, q, vs, us, rfl, rfl, .of hp, .of hq, by rw [← hr.length, ← hr'.length]; exact e, fun z => ?_, fun _ z => ?_, fun _ _ => mk_tup g rh hrr⟩
    · subst z
      exact g.here rh ⟨q, us, rfl, hq, by simpa using hrr⟩
    · subst z
      exact g.here rh ⟨p, vs, rfl, hp, by simpa using hrr⟩
  · obtain ⟨_, rfl⟩ := ra
    cases rb
    obtain ⟨e, g⟩ := g.guardR
    simp only [Bool.and_eq_true, decide_eq_true_eq] at e
    obtain ⟨t, rfl⟩ := rx
    obtain ⟨t', rfl⟩ := ry
    refine mul_strI e.2 (Nat.le_trans e.1 (by decide)) fun tk tk' => ?_
    exact ⟨.str _, H, I.tok _, ⟨tk, rfl⟩, g.here rh ⟨by rw [List.length_flatten, List.map_replicate, List.sum_replicate_nat, Nat.mul_comm]; exact e.1, rfl⟩⟩
  · obtain ⟨p, rfl, hp⟩ := ra
    obtain ⟨q, rfl, hq⟩ := rb
    unfold addO at g
    split at g
    · rename_i xs ys e1 e2
      obtain ⟨e, g⟩ := g.guardR
      obtain ⟨p', hp', vs, hr, at1⟩ := rh.get e1
      obtain ⟨q', hq', us, hr', at2⟩ := rh.get e2
      rw [hp] at hp'; cases hp'
      rw [hq] at hq'; cases hq'
      have e := Nat.le_trans (of_decide_eq_true e) line_le
      exact op_catR pins s σ H _ _ v u Q I rx ry ⟨_, _, vs, us, rfl, rfl, at1.rd, at2.rd, by rw [← hr.length, ← hr'.length]; exact e, mk_lst g rh (hr.append hr')⟩
    · exact g.elim
  · exact g.elim
end
end MP

namespace MP
open PySem PySem.Spec PyProof.Rows
open PySem.SeqAt (EqIn EqAt RcAt RcNeAt)
/-! ### equality -/
/-- two of the machine's values answer b, in room n -/
def EqN (P : Program) (w : World) (s : Shared) (n : Nat) (v u : Value) (b : Bool) : Prop := ∀ A : Around, A.units + n < cLine → EqIn P w A s v u b
def CmpN (P : Program) (w : World) (s : Shared) (n : Nat) (v u : Value) (b : Bool) : Prop := ∀ (A : Around) (E Q : Value → Shared → Prop), A.units + n < cLine →
  (Q (.bool b) s → wpAny (model P w) A (compareOp .Eq v u) Q E s) ∧ (Q (.bool (!b)) s → wpAny (model P w) A (compareOp .NotEq v u) Q E s)
theorem eqs_pts {f : W → W → Option Bool} : ∀ {xs ys : List W} {b : Bool}, eqs f xs ys = some b → ∃ e : Nat → Bool, (∀ j x y, xs[j]? = some x → ys[j]? = some y → f x y = some (e j)) ∧ b = (List.range (min xs.length ys.length)).all e
  | [], ys, b, h => by
    refine ⟨fun _ => true, fun j x y hx _ => by simp at hx, ?_⟩
    simp [eqs] at h
    simp [h]
  | x :: xs, [], b, h => by
    refine ⟨fun _ => true, fun j x y _ hy => by simp at hy, ?_⟩
    simp [eqs] at h
    simp [h]
  | x :: xs, y :: ys, b, h => by
    unfold eqs at h
    cases hf : f x y with
    | none => rw [hf] at h; simp at h
    | some a =>
      rw [hf] at h
      cases hr : eqs f xs ys with
      | none => rw [hr] at h; simp at h
      | some c =>
        rw [hr] at h
        simp at h
        obtain ⟨e, he, hc⟩ := eqs_pts hr
        refine ⟨fun j => match j with | 0 => a | j + 1 => e j, fun j x' y' hx hy => ?_, ?_⟩
        · cases j with
          | zero => simp at hx hy; subst hx hy; exact hf
          | succ j => exact he j x' y' (by simpa using hx) (by simpa using hy)
        · rw [← h, hc]
          have : min (x :: xs).length (y :: ys).length = min xs.length ys.length + 1 := by simp only [List.length_cons]; omega
          rw [this, List.range_succ_eq_map, List.all_cons, List.all_map]
          rfl
section
variable {cA : CA} {Y : L2.Cx} {L : Nat → Prop} {ρ : List Addr} {H : HH} {h : Hp} {pins : List (Addr × Obj)} {s : Shared} {σ : L2.St}
theorem sv_beq {a b : List Nat} : (sv a == sv b) = (a == b) := by
  rw [Bool.eq_iff_iff, beq_iff_eq, beq_iff_eq, sv_inj]
theorem tupIs {hp : Heap} {a : Addr} {its : Array Value} (t : IsTup hp a its) : hp.IsTuple a its := t
theorem tri {v u : Value} {P : Program} {w : World} (b : Bool) (h1 : ∀ A : Around, A.units < cLine → EqAt A s v u b) (h2 : ∀ A : Around, A.units < cLine → RcAt A s v u b) (h3 : ∀ A : Around, A.units < cLine → RcNeAt A s v u (!b)) : EqN P w s 0 v u b ∧ CmpN P w s 0 v u b :=
  ⟨fun A hA => (h1 A hA).inModel P w, fun A E Q hA => ⟨fun q => h2 A hA P w E Q q, fun q => h3 A hA P w E Q q⟩⟩
theorem eqS_run (I : L2.Inv Y pins σ H s) {x y : W} {b : Bool} {vx vy : Vv} {v u : Value} (h : eqS x y = some b) (rx : RW ρ H x vx) (ry : RW ρ H y vy) (qx : L2.RelV vx v) (qy : L2.RelV vy u) (P : Program) (w : World) :
    EqN P w s 0 v u b ∧ CmpN P w s 0 v u b := by
  cases x with
  | non =>
    cases y with
    | non => cases rx; cases qx; cases ry; cases qy; cases h; exact tri _ (fun _ _ => .same _) (fun _ _ => .none_none) (fun _ _ => .none_none)
    | bl j => cases rx; cases qx; cases ry; cases qy; cases h; exact tri _ (fun A hA => .none_bool j) (fun A hA => .none_bool j) (fun A hA => .none_bool j)
    | int j => cases rx; cases qx; cases ry; obtain ⟨t2, rfl⟩ := qy; cases h; exact tri _ (fun A hA => .none_int j t2) (fun A hA => .none_int j t2) (fun A hA => .none_int j t2)
    | str j => cases rx; cases qx; obtain ⟨_, rfl⟩ := ry; obtain ⟨t2, rfl⟩ := qy; cases h; exact tri _ (fun A hA => .none_str _ t2) (fun A hA => .none_str _ t2) (fun A hA => .none_str _ t2)
    | tup j => cases rx; cases qx; obtain ⟨a2, vs2, rfl, hp2, _⟩ := ry; cases qy; obtain ⟨its2, _, p2, _⟩ := I.tuple (.of hp2); have p2 := tupIs p2; cases h; exact tri _ (fun A hA => .none_tuple p2 hA) (fun A hA => .none_tuple p2 hA) (fun A hA => .none_tuple p2 hA)
    | ref j => simp [eqS] at h
  | bl i =>
    cases y with
    | non => cases rx; cases qx; cases ry; cases qy; cases h; exact tri _ (fun A hA => .bool_none i) (fun A hA => .bool_none i) (fun A hA => .bool_none i)
    | bl j => cases rx; cases qx; cases ry; cases qy; cases h; exact tri _ (fun A hA => .bool_bool i j) (fun A hA => .bool_bool i j) (fun A hA => .bool_bool i j)
    | int j => cases rx; cases qx; cases ry; obtain ⟨t2, rfl⟩ := qy; cases h; exact tri _ (fun A hA => .bool_int i j t2) (fun A hA => .bool_int i j t2) (fun A hA => .bool_int i j t2)
    | str j => cases rx; cases qx; obtain ⟨_, rfl⟩ := ry; obtain ⟨t2, rfl⟩ := qy; cases h; exact tri _ (fun A hA => .bool_str i _ t2) (fun A hA => .bool_str i _ t2) (fun A hA => .bool_str i _ t2)
    | tup j => cases rx; cases qx; obtain ⟨a2, vs2, rfl, hp2, _⟩ := ry; cases qy; obtain ⟨its2, _, p2, _⟩ := I.tuple (.of hp2); have p2 := tupIs p2; cases h; exact tri _ (fun A hA => .bool_tuple i p2 hA) (fun A hA => .bool_tuple i p2 hA) (fun A hA => .bool_tuple i p2 hA)
    | ref j => simp [eqS] at h
  | int i =>
    cases y with
    | non => cases rx; obtain ⟨t1, rfl⟩ := qx; cases ry; cases qy; cases h; exact tri _ (fun A hA => .int_none i t1) (fun A hA => .int_none i t1) (fun A hA => .int_none i t1)
    | bl j => cases rx; obtain ⟨t1, rfl⟩ := qx; cases ry; cases qy; cases h; exact tri _ (fun A hA => .int_bool i t1 j) (fun A hA => .int_bool i t1 j) (fun A hA => .int_bool i t1 j)
    | int j => cases rx; obtain ⟨t1, rfl⟩ := qx; cases ry; obtain ⟨t2, rfl⟩ := qy; cases h; exact tri _ (fun A hA => .int_int i t1 j t2) (fun A hA => .int_int i t1 j t2) (fun A hA => .int_int i t1 j t2)
    | str j => cases rx; obtain ⟨t1, rfl⟩ := qx; obtain ⟨_, rfl⟩ := ry; obtain ⟨t2, rfl⟩ := qy; cases h; exact tri _ (fun A hA => .int_str i t1 _ t2) (fun A hA => .int_str i t1 _ t2) (fun A hA => .int_str i t1 _ t2)
    | tup j => cases rx; obtain ⟨t1, rfl⟩ := qx; obtain ⟨a2, vs2, rfl, hp2, _⟩ := ry; cases qy; obtain ⟨its2, _, p2, _⟩ := I.tuple (.of hp2); have p2 := tupIs p2; cases h; exact tri _ (fun A hA => .int_tuple i t1 p2 hA) (fun A hA => .int_tuple i t1 p2 hA) (fun A hA => .int_tuple i t1 p2 hA)
    | ref j => simp [eqS] at h
  | str i =>
    cases y with
    | non => obtain ⟨_, rfl⟩ := rx; obtain ⟨t1, rfl⟩ := qx; cases ry; cases qy; cases h; exact tri _ (fun A hA => .str_none _ t1) (fun A hA => .str_none _ t1) (fun A hA => .str_none _ t1)
    | bl j => obtain ⟨_, rfl⟩ := rx; obtain ⟨t1, rfl⟩ := qx; cases ry; cases qy; cases h; exact tri _ (fun A hA => .str_bool _ t1 j) (fun A hA => .str_bool _ t1 j) (fun A hA => .str_bool _ t1 j)
    | int j => obtain ⟨_, rfl⟩ := rx; obtain ⟨t1, rfl⟩ := qx; cases ry; obtain ⟨t2, rfl⟩ := qy; cases h; exact tri _ (fun A hA => .str_int _ t1 j t2) (fun A hA => .str_int _ t1 j t2) (fun A hA => .str_int _ t1 j t2)
    | str j => obtain ⟨_, rfl⟩ := rx; obtain ⟨t1, rfl⟩ := qx; obtain ⟨_, rfl⟩ := ry; obtain ⟨t2, rfl⟩ := qy; cases h; rw [← sv_beq]; exact tri _ (fun A hA => .str_str _ t1 _ t2) (fun A hA => .str_str _ t1 _ t2) (fun A hA => .str_str _ t1 _ t2)
    | tup j => obtain ⟨_, rfl⟩ := rx; obtain ⟨t1, rfl⟩ := qx; obtain ⟨a2, vs2, rfl, hp2, _⟩ := ry; cases qy; obtain ⟨its2, _, p2, _⟩ := I.tuple (.of hp2); have p2 := tupIs p2; cases h; exact tri _ (fun A hA => .str_tuple _ t1 p2 hA) (fun A hA => .str_tuple _ t1 p2 hA) (fun A hA => .str_tuple _ t1 p2 hA)
    | ref j => simp [eqS] at h
  | tup i =>
    cases y with
    | non => obtain ⟨a1, vs1, rfl, hp1, _⟩ := rx; cases qx; obtain ⟨its1, _, p1, _⟩ := I.tuple (.of hp1); have p1 := tupIs p1; cases ry; cases qy; cases h; exact tri _ (fun A hA => .tuple_none p1 hA) (fun A hA => .tuple_none p1 hA) (fun A hA => .tuple_none p1 hA)
    | bl j => obtain ⟨a1, vs1, rfl, hp1, _⟩ := rx; cases qx; obtain ⟨its1, _, p1, _⟩ := I.tuple (.of hp1); have p1 := tupIs p1; cases ry; cases qy; cases h; exact tri _ (fun A hA => .tuple_bool j p1 hA) (fun A hA => .tuple_bool j p1 hA) (fun A hA => .tuple_bool j p1 hA)
    | int j => obtain ⟨a1, vs1, rfl, hp1, _⟩ := rx; cases qx; obtain ⟨its1, _, p1, _⟩ := I.tuple (.of hp1); have p1 := tupIs p1; cases ry; obtain ⟨t2, rfl⟩ := qy; cases h; exact tri _ (fun A hA => .tuple_int j t2 p1 hA) (fun A hA => .tuple_int j t2 p1 hA) (fun A hA => .tuple_int j t2 p1 hA)
    | str j => obtain ⟨a1, vs1, rfl, hp1, _⟩ := rx; cases qx; obtain ⟨its1, _, p1, _⟩ := I.tuple (.of hp1); have p1 := tupIs p1; obtain ⟨_, rfl⟩ := ry; obtain ⟨t2, rfl⟩ := qy; cases h; exact tri _ (fun A hA => .tuple_str _ t2 p1 hA) (fun A hA => .tuple_str _ t2 p1 hA) (fun A hA => .tuple_str _ t2 p1 hA)
    | tup j => simp [eqS] at h
    | ref j => simp [eqS] at h
  | ref i =>
    cases y with
    | non => simp [eqS] at h
    | bl j => simp [eqS] at h
    | int j => simp [eqS] at h
    | str j => simp [eqS] at h
    | tup j => simp [eqS] at h
    | ref j => simp [eqS] at h
end
end MP

namespace MP
open PySem PySem.Spec PyProof.Rows
open PySem.SeqAt (EqIn EqAt RcAt RcNeAt)
/-! ### unequal: lists, tuples, dicts whose items are compared in this program -/
section
open AutoSeq1 (wpAny_loadPart')
open MeetsSeq MeetsSeq2 MeetsSeq3 SeqRoads2 PySem.SeqAt
variable {prog : Program} {w : World}
theorem neLoop (l b : Addr) (xs ys : Array Value) (n m : Nat) (dx dy : Option Addr) (sx sy : Array (Option Value)) (same : xs.size = ys.size) (e : Nat → Bool) (k : Nat) :
    ∀ i : Nat, xs.size - i = k → MeetsIn prog w (Builtin.«list.__eq__.loop» ⟨[.ref l, .ref b, rawInt i, rawInt 3], []⟩)
      (fun A R s => s.heap.get? l = some { cls := .type "list", dict := dx, data := .seq xs n, slots := sx } ∧ s.heap.get? b = some { cls := .type "list", dict := dy, data := .seq ys m, slots := sy } ∧
        (∀ j (h1 : j < xs.size) (h2 : j < ys.size), EqIn prog w A.in1 s xs[j] ys[j] (e j)) ∧ R (.ok (.ret (.bool (!((List.range xs.size).drop i).all e)))) s) := by
  induction k with
  | zero =>
    intro i hk A R s q
    obtain ⟨hp, g, d, tk, os⟩ := s; obtain ⟨gl, gb, _, q⟩ := q
    wp_walk using wpAny_loadPart' gl, wpAny_loadPart' gb
    have c1 : xs[((i : Nat) : Int).toNat]? = none := by simp; omega
    have c2 : ys[((i : Nat) : Int).toNat]? = none := by simp; omega
    have c3 : (List.range xs.size).drop i = [] := by simp; omega
    rw [c3] at q
    rw [c1, c2]
    wp_walk using wpAny_loadPart' gl, wpAny_loadPart' gb
    show R (.ok (.ret (.bool (xs.size != ys.size)))) _
    rw [same]
    simpa using q
  | succ k ih =>
    intro i hk A R s q
    obtain ⟨hp, g, d, tk, os⟩ := s; obtain ⟨gl, gb, it, q⟩ := q
    wp_walk using wpAny_loadPart' gl, wpAny_loadPart' gb
    have b1 : i < xs.size := by omega
    have b2 : i < ys.size := by omega
    have c1 : xs[((i : Nat) : Int).toNat]? = some xs[i] := by simp [b1]
    have c2 : ys[((i : Nat) : Int).toNat]? = some ys[i] := by simp [b2]
    have c3 : (List.range xs.size).drop i = i :: (List.range xs.size).drop (i + 1) := by simp [List.drop_eq_getElem_cons, b1]
    have c4 : ((i : Int) + 1) = ((i + 1 : Nat) : Int) := by push_cast; rfl
    rw [c3, List.all_cons] at q
    rw [c1, c2]
    refine wpAny_bind (it i b1 b2 _ _ ?_)
    cases q2 : e i with
    | true =>
      rw [q2] at q
      wp_walk
      rw [c4]
      exact ⟨plainId_quiet plain_eq_loop _, codeAny_builtin entry_eq_loop (by rw [Around.under_plainId plain_eq_loop _]; exact ih (i + 1) (by omega) A R _ ⟨gl, gb, it, by simpa using q⟩)⟩
    | false =>
      rw [q2] at q
      wp_walk using wpAny_loadPart' gl, wpAny_loadPart' gb
      rw [c1, c2]
      wp_walk
      simpa using q
theorem neList (l b : Addr) (xs ys : Array Value) (n m : Nat) (dx dy : Option Addr) (sx sy : Array (Option Value)) (same : xs.size = ys.size) (e : Nat → Bool) :
    MeetsIn prog w (Builtin.«list.__ne__» ⟨[.ref l, .ref b], []⟩)
      (fun A R s => s.heap.get? l = some { cls := .type "list", dict := dx, data := .seq xs n, slots := sx } ∧ s.heap.get? b = some { cls := .type "list", dict := dy, data := .seq ys m, slots := sy } ∧
        (∀ j (h1 : j < xs.size) (h2 : j < ys.size), EqIn prog w A.in1 s xs[j] ys[j] (e j)) ∧ R (.ok (.ret (.bool (!(List.range xs.size).all e)))) s) := by
  intro A R s q
  obtain ⟨hp, g, d, tk, os⟩ := s; obtain ⟨gl, gb, it, q⟩ := q
  have z1 := AutoSeq1.sub_list_list
  have z2 : ¬ (xs.size != ys.size) = true := by simp [same]
  wp_walk using wpAny_loadPart' gl, wpAny_loadPart' gb
  exact ⟨plainId_quiet plain_eq_loop _, codeAny_builtin entry_eq_loop (by rw [Around.under_plainId plain_eq_loop _]; exact neLoop l b xs ys n m dx dy sx sy same e _ 0 rfl A R _ ⟨gl, gb, it, by simpa using q⟩)⟩
theorem neTup (l b : Addr) (xs ys : Array Value) (n m : Nat) (dx dy : Option Addr) (sx sy : Array (Option Value)) (e : Nat → Bool) :
    MeetsIn prog w (Builtin.«tuple.__ne__» ⟨[.ref l, .ref b], []⟩)
      (fun A R s => s.heap.get? l = some { cls := .type "tuple", dict := dx, data := .seq xs n, slots := sx } ∧ s.heap.get? b = some { cls := .type "tuple", dict := dy, data := .seq ys m, slots := sy } ∧
        (∀ j (h1 : j < xs.size) (h2 : j < ys.size), EqIn prog w A.in1 s xs[j] ys[j] (e j)) ∧ R (.ok (.ret (.bool (!((List.range (min xs.size ys.size)).all e && xs.size == ys.size))))) s) :=
  .of_wp fun A R s q => by
    obtain ⟨hp, g, d, tk, os⟩ := s; obtain ⟨gl, gb, it, q⟩ := q
    have z1 := AutoSeq1.sub_tuple_tuple
    generalize hN : min xs.size ys.size = N at q
    have zl : (xs.toList.zip ys.toList).length = N := by simp [hN]
    wp_walk using wpAny_loadPart' gl, wpAny_loadPart' gb, wpAny_forIn_list _ (fun more b s' => b.1 = none ∧ s' = ⟨hp, g, d, tk, os⟩ ∧ ∃ i, more = (xs.toList.zip ys.toList).drop i ∧
      R (.ok (.ret (.bool (!(((List.range N).drop i).all e && xs.size == ys.size))))) ⟨hp, g, d, tk, os⟩) _
    case turn =>
      rintro ⟨y, x⟩ more b s' ⟨_, rfl, i, hz, hR⟩
      have b0 : i < (xs.toList.zip ys.toList).length := Nat.lt_of_not_le fun h' => by rw [List.drop_of_length_le h'] at hz; cases hz
      have bm : i < N := zl ▸ b0
      have b1 : i < xs.size := by omega
      have b2 : i < ys.size := by omega
      rw [List.drop_eq_getElem_cons b0] at hz
      injection hz with hyx hmore
      obtain rfl : y = xs[i] := by have := congrArg Prod.fst hyx; simpa using this
      obtain rfl : x = ys[i] := by have := congrArg Prod.snd hyx; simpa using this
      rw [show (List.range N).drop i = i :: (List.range N).drop (i + 1) by simp [List.drop_eq_getElem_cons, bm], List.all_cons] at hR
      refine wpAny_bind (it i b1 b2 _ _ ?_)
      cases q2 : e i with
      | true =>
        rw [q2] at hR
        wp_walk
        exact ⟨rfl, rfl, i + 1, hmore, by simpa using hR⟩
      | false =>
        rw [q2] at hR
        wp_walk
        exact ⟨_, rfl, by simpa using hR⟩
    case fin =>
      rintro ⟨b1, b2⟩ s' ⟨hb', rfl, i, hz, hR⟩
      obtain rfl : b1 = none := hb'
      have hge : N ≤ i := Nat.le_of_not_lt fun h' => by rw [List.drop_eq_getElem_cons (zl.symm ▸ h')] at hz; cases hz
      rw [List.drop_of_length_le (by simpa using hge)] at hR
      wp_walk
      exact ⟨_, rfl, by simpa [Builtin.Tuple.tupleCompareSizes, bne] using hR⟩
    case h => exact ⟨rfl, rfl, 0, rfl, by simpa using q⟩
variable {A : Around} {s : Shared} {E Q : Value → Shared → Prop}
theorem ne_lists {l b : Addr} {xs ys : Array Value} {e : Nat → Bool} (hl : s.heap.IsList l xs) (hb : s.heap.IsList b ys) (same : xs.size = ys.size) (hu : A.units < cLine)
    (it : ∀ j (h1 : j < xs.size) (h2 : j < ys.size), EqIn prog w A.in1 s xs[j] ys[j] (e j)) (q : Q (.bool (!(List.range xs.size).all e)) s) : wpAny (model prog w) A (compareOp .NotEq (.ref l) (.ref b)) Q E s := by
  obtain ⟨⟨c1, dx, d1, sx⟩, g1, r1, n, t1⟩ := id hl
  obtain ⟨⟨c2, dy, d2, sy⟩, g2, r2, m, t2⟩ := id hb
  simp only at r1 t1 r2 t2
  subst r1 t1 r2 t2
  have ty1 : s.TypeIs (.ref l) "list" := ⟨_, g1, rfl⟩
  have ty2 : s.TypeIs (.ref b) "list" := ⟨_, g2, rfl⟩
  refine wpAny_richCompare_same_room (op := .NotEq) ty1 ty2 F.slot_list_ne (call_meetsIn F.slot_list_ne ty1 F.entry_list_ne (F.args_list_ne_2 _ _) (neList l b xs ys n m dx dy sx sy same e) ⟨g1, g2, it, ?_⟩) hu
  exact ⟨(fun x => nomatch x), q⟩
theorem ne_tups {l b : Addr} {xs ys : Array Value} {e : Nat → Bool} (hl : s.heap.IsTuple l xs) (hb : s.heap.IsTuple b ys) (hu : A.units < cLine)
    (it : ∀ j (h1 : j < xs.size) (h2 : j < ys.size), EqIn prog w A.in1 s xs[j] ys[j] (e j)) (q : Q (.bool (!((List.range (min xs.size ys.size)).all e && xs.size == ys.size))) s) : wpAny (model prog w) A (compareOp .NotEq (.ref l) (.ref b)) Q E s := by
  obtain ⟨⟨c1, dx, d1, sx⟩, g1, r1, n, t1⟩ := id hl
  obtain ⟨⟨c2, dy, d2, sy⟩, g2, r2, m, t2⟩ := id hb
  simp only at r1 t1 r2 t2
  subst r1 t1 r2 t2
  have ty1 : s.TypeIs (.ref l) "tuple" := ⟨_, g1, rfl⟩
  have ty2 : s.TypeIs (.ref b) "tuple" := ⟨_, g2, rfl⟩
  refine wpAny_richCompare_same_room (op := .NotEq) ty1 ty2 F.slot_tuple_ne (call_meetsIn F.slot_tuple_ne ty1 F.entry_tuple_ne (F.args_tuple_ne_2 _ _) (neTup l b xs ys n m dx dy sx sy e) ⟨g1, g2, it, ?_⟩) hu
  exact ⟨(fun x => nomatch x), q⟩
theorem ne_dicts {K : Type} [DecidableEq K] {knd : KeyKind prog w K} {a b : Addr} {ka kb : List (K × Value)} {r : Bool} (ha : (a == sysModules) = false) (hb : (b == sysModules) = false)
    (da : s.heap.DictOf knd a ka) (db : s.heap.DictOf knd b kb) (hu : A.units < cLine) (hits : ka.length = kb.length → PySem.W.KeqHitsIn prog w A.in1 s kb ka r) (q : Q (.bool (!(ka.length == kb.length && r))) s) :
    wpAny (model prog w) A (compareOp .NotEq (.ref a) (.ref b)) Q E s := by
  refine wpAny_richCompare_same_room (op := .NotEq) da.typeIs db.typeIs F.slot_dict_ne (wpAny_call_entry F.slot_dict_ne da.typeIs F.entry_dict_ne ?_ (F.args_dict_ne_2 _ _)) hu
  show wpAny _ _ (Builtin.Dict.dictSlotArgs "__ne__" ⟨[.ref a, .ref b], []⟩ >>= _) _ _ s
  refine wpAny_bind ?_
  unfold Builtin.Dict.dictSlotArgs
  refine wpAny_bind (wpAny_notOrdered_dict da.typeIs ?_)
  show wpAny _ _ (pure (Value.ref a, Value.ref b)) _ _ s
  refine wpAny_pure ?_
  refine wpAny_bind (wpAny_isInstance (T := "dict") db.typeIs F.sub_dict_dict ?_)
  simp only [Bool.not_true, Bool.false_eq_true, if_false]
  refine wpAny_bind (wpAny_pure (wpAny_bind (wpAny_pure ?_)))
  refine wpAny_bind (PySem.W.keq_samePairsIn ha hb da db hits ?_)
  exact wpAny_pure ⟨_, rfl, (fun x => nomatch x), by simpa using q⟩
end
end MP

namespace MP
open PySem PySem.Spec PyProof.Rows
open PySem.SeqAt (EqIn EqAt RcAt RcNeAt)
theorem RWs.at2 {ρ : List Addr} {H : HH} : ∀ {xs : List W} {vs : List Vv} {us : List Value}, RWs ρ H xs vs → L2.Vals vs us → ∀ {j : Nat} (hj : j < us.length), ∃ x v, xs[j]? = some x ∧ RW ρ H x v ∧ L2.RelV v us[j]
  | [], _, _, r, q, j, hj => by cases r; cases q; simp at hj
  | x :: xs, _, _, r, q, j, hj => by
    obtain ⟨v, t, rfl, r1, r2⟩ := r
    cases q with
    | cons q1 q2 =>
      cases j with
      | zero => exact ⟨x, v, rfl, r1, q1⟩
      | succ j =>
        obtain ⟨x', v', e, r3, q3⟩ := RWs.at2 r2 q2 (j := j) (by simpa using hj)
        exact ⟨x', v', by simpa using e, r3, by simpa using q3⟩
theorem flat_str {x : List Nat} {k : KEY} (e : flatK (.str x) = some k) : x.length ≤ LINE ∧ k = .inr (sv x) := by
  have e : (if x.length ≤ LINE then some (Sum.inr (sv x)) else none : Option KEY) = some k := e
  split at e
  · rename_i h; cases e; exact ⟨h, rfl⟩
  · cases e
/-- keys that are equal -/
theorem flat_keq {a b : W} {i j : KEY} (e1 : flatK a = some i) (e2 : flatK b = some j) : keq a b = decide (i = j) := by
  have str : ∀ {x : List Nat} {k : KEY}, flatK (.str x) = some k → k = .inr (sv x) := fun e => (flat_str e).2
  cases a with
  | int x =>
    cases e1
    cases b with
    | int y => cases e2; rw [Bool.eq_iff_iff]; simp
    | str y => cases str e2; simp
    | _ => cases e2
  | str x =>
    cases str e1
    cases b with
    | int y => cases e2; simp
    | str y => cases str e2; rw [Bool.eq_iff_iff]; simp [sv_inj]
    | _ => cases e2
  | _ => cases e1
theorem flats_keqs : ∀ {xs ys : List W} {is js : List KEY}, flatKs xs = some is → flatKs ys = some js → keqs xs ys = decide (is = js)
  | [], [], _, _, e1, e2 => by cases e1; cases e2; simp
  | [], y :: ys, _, js, e1, e2 => by
    cases e1
    simp only [flatKs] at e2
    cases h1 : flatK y with
    | none => rw [h1] at e2; cases e2
    | some k =>
      rw [h1] at e2
      cases h2 : flatKs ys with
      | none => rw [h2] at e2; cases e2
      | some t => rw [h2] at e2; cases e2; simp
  | x :: xs, [], is, _, e1, e2 => by
    cases e2
    simp only [flatKs] at e1
    cases h1 : flatK x with
    | none => rw [h1] at e1; cases e1
    | some k =>
      rw [h1] at e1
      cases h2 : flatKs xs with
      | none => rw [h2] at e1; cases e1
      | some t => rw [h2] at e1; cases e1; simp
  | x :: xs, y :: ys, is, js, e1, e2 => by
    simp only [flatKs] at e1 e2
    cases h1 : flatK x with
    | none => rw [h1] at e1; cases e1
    | some k =>
      rw [h1] at e1
      cases h2 : flatKs xs with
      | none => rw [h2] at e1; cases e1
      | some t =>
        rw [h2] at e1; cases e1
        cases h3 : flatK y with
        | none => rw [h3] at e2; cases e2
        | some k' =>
          rw [h3] at e2
          cases h4 : flatKs ys with
          | none => rw [h4] at e2; cases e2
          | some t' =>
            rw [h4] at e2; cases e2
            simp only [keqs, flat_keq h1 h3, flats_keqs h2 h4, List.cons.injEq]
            rw [Bool.eq_iff_iff]; simp
theorem tup_keq {a b : W} {i j : List KEY} (e1 : tupK a = some i) (e2 : tupK b = some j) : keq a b = decide (i = j) := by
  cases a with
  | tup xs =>
    cases b with
    | tup ys => exact (by simp only [keq]; exact flats_keqs e1 e2)
    | _ => cases e2
  | _ => cases e1
section
variable {κ : Type} [DecidableEq κ] {f : W → Option κ} {ρ : List Addr} {H : HH}
/-- what a dict holds for a key -/
theorem RPs.val (hf : ∀ {a b i j}, f a = some i → f b = some j → keq a b = decide (i = j)) {k : W} {κ0 : κ} (ek : f k = some κ0) : ∀ {ps : List (W × W)} {qs : List (κ × Vv)}, RPs f ρ H ps qs →
    (∀ w, dget k ps = some w → ∃ v, L2.valV qs κ0 = some v ∧ RW ρ H w v) ∧ (dget k ps = none → L2.valV qs κ0 = none) := by
  intro ps qs r
  unfold RPs at r
  induction r with
  | nil => exact ⟨fun w e => (by cases e), fun _ => rfl⟩
  | @cons p q ps qs r1 r2 ih =>
    obtain ⟨k', u⟩ := p
    have e := hf r1.1 ek
    unfold dget
    rw [e]
    by_cases hk : q.1 = κ0
    · rw [if_pos (by simpa using hk), L2.valV_pos hk]
      exact ⟨fun w e => by cases e; exact ⟨_, rfl, r1.2⟩, fun e => by cases e⟩
    · rw [if_neg (by simpa using hk), L2.valV_neg hk]
      exact ih
end
mutual
theorem eqW_refl {h : Hp} : ∀ (n : Nat) (x : W) (b : Bool), eqW n h x x = some b → b = true
  | 0, x, b, e => by
    have e : eqS x x = some b := by cases x <;> exact e
    cases x <;> simp [eqS] at e <;> simp [← e]
  | n + 1, .tup xs, b, e => by
    unfold eqW at e
    cases hr : eqs (eqW n h) xs xs with
    | none => rw [hr] at e; cases e
    | some c => rw [hr] at e; cases e; rw [eqs_refl n xs c hr]; simp
  | n + 1, .ref a, b, e => by
    unfold eqW at e
    split at e
    · cases e; rfl
    · rename_i hn
      have : rd h a = none := by
        unfold rd
        rw [List.getElem?_eq_none]
        simp at hn; exact hn
      rw [this] at e
      cases e
  | n + 1, .non, b, e => by cases e; rfl
  | n + 1, .bl _, b, e => by simp [eqW, eqS] at e; simp [← e]
  | n + 1, .int _, b, e => by simp [eqW, eqS] at e; simp [← e]
  | n + 1, .str _, b, e => by simp [eqW, eqS] at e; simp [← e]
theorem eqs_refl {h : Hp} : ∀ (n : Nat) (xs : List W) (b : Bool), eqs (eqW n h) xs xs = some b → b = true
  | n, [], b, e => by cases e; rfl
  | n, x :: xs, b, e => by
    unfold eqs at e
    cases hf : eqW n h x x with
    | none => rw [hf] at e; cases e
    | some a =>
      cases hr : eqs (eqW n h) xs xs with
      | none => rw [hf, hr] at e; cases e
      | some c => rw [hf, hr] at e; cases e; rw [eqW_refl n x a hf, eqs_refl n xs c hr]; rfl
end
section
variable {cA : CA} {L : Nat → Prop} {ρ : List Addr} {H : HH} {h : Hp}
theorem RH.no_tup (rh : RH cA ρ L h H) {n : Nat} {a : Addr} {vs : List Vv} (e : ρ[n]? = some a) (z : H a = some (.tup vs)) : False := by
  have hl : n < h.length := by rw [← rh.len]; exact ix_lt e
  have := rh.at_ n h[n] a (List.getElem?_eq_getElem hl) e
  have at2 : ∀ {P : Prop} {u : HO}, At H P a u → (∀ vs, u ≠ .tup vs) → False := fun q nt => by
    rcases q with q | ⟨_, _, q⟩
    · rw [z] at q; cases q; exact nt _ rfl
    · rw [z] at q; cases q
  cases ho : h[n] with
  | lst xs => rw [ho] at this; obtain ⟨_, _, q⟩ := this; exact at2 q fun _ => HO_lst
  | dct xs =>
    rw [ho] at this
    rcases this with ⟨_, _, _, q⟩ | ⟨_, _, _, q⟩
    · exact at2 q fun _ e => by cases e
    · exact at2 q fun _ e => by cases e
  | ins c fs => rw [ho] at this; obtain ⟨_, _, _, q, _⟩ := this; rw [z] at q; cases q
where
  HO_lst {xs vs : List Vv} : L2.HO.lst xs ≠ .tup vs := fun e => by cases e
mutual
theorem RW.inj (rh : RH cA ρ L h H) : ∀ {x y : W} {v : Vv}, RW ρ H x v → RW ρ H y v → x = y
  | .non, y, _, r1, r2 => by cases r1; cases y <;> first | rfl | (obtain ⟨_, e⟩ := r2; cases e; done) | (obtain ⟨_, _, e, _⟩ := r2; cases e; done) | (obtain ⟨_, e, _⟩ := r2; cases e; done) | (cases r2; done)
  | .bl b, y, _, r1, r2 => by cases r1; cases y <;> first | (obtain ⟨_, _, e, _⟩ := r2; cases e; done) | (obtain ⟨_, e, _⟩ := r2; cases e; done) | (cases r2; rfl) | (obtain ⟨_, e⟩ := r2; cases e; done) | (cases r2; done)
  | .int b, y, _, r1, r2 => by cases r1; cases y <;> first | (obtain ⟨_, _, e, _⟩ := r2; cases e; done) | (obtain ⟨_, e, _⟩ := r2; cases e; done) | (cases r2; rfl) | (obtain ⟨_, e⟩ := r2; cases e; done) | (cases r2; done)
  | .str b, y, _, r1, r2 => by obtain ⟨_, rfl⟩ := r1; cases y <;> first | (obtain ⟨_, _, e, _⟩ := r2; cases e; done) | (obtain ⟨_, e, _⟩ := r2; cases e; done) | (obtain ⟨_, r2⟩ := r2; injection r2 with e; rw [sv_inj] at e; rw [e]; done) | (cases r2; done)
  | .tup xs, y, _, r1, r2 => by
    obtain ⟨a, vs, rfl, hv, r1⟩ := r1
    cases y with
    | tup ys =>
      obtain ⟨b, us, e, hu, r2⟩ := r2
      cases e
      rw [hv] at hu
      cases hu
      rw [RWs.inj rh r1 r2]
    | ref n =>
      obtain ⟨b, e, hb⟩ := r2
      cases e
      exact (rh.no_tup hb hv).elim
    | str _ => cases r2.2
    | _ => cases r2
  | .ref n, y, _, r1, r2 => by
    obtain ⟨a, rfl, ha⟩ := r1
    cases y with
    | tup ys =>
      obtain ⟨b, us, e, hu, r2⟩ := r2
      cases e
      exact (rh.no_tup ha hu).elim
    | ref m =>
      obtain ⟨b, e, hb⟩ := r2
      cases e
      have := (List.getElem?_inj (ix_lt ha) rh.nd).mp (ha.trans hb.symm)
      rw [this]
    | str _ => cases r2.2
    | _ => cases r2
theorem RWs.inj (rh : RH cA ρ L h H) : ∀ {xs ys : List W} {vs : List Vv}, RWs ρ H xs vs → RWs ρ H ys vs → xs = ys
  | [], [], _, _, _ => rfl
  | [], _ :: _, _, r1, r2 => by cases r1; obtain ⟨_, _, e, _⟩ := r2; cases e
  | _ :: _, [], _, r1, r2 => by cases r2; obtain ⟨_, _, e, _⟩ := r1; cases e
  | x :: xs, y :: ys, _, r1, r2 => by
    obtain ⟨v, t, rfl, p1, p2⟩ := r1
    obtain ⟨v', t', e, q1, q2⟩ := r2
    cases e
    rw [RW.inj rh p1 q1, RWs.inj rh p2 q2]
end
end
section
variable {cA : CA} {Y : L2.Cx} {L : Nat → Prop} {ρ : List Addr} {H : HH} {h : Hp} {pins : List (Addr × Obj)} {s : Shared} {σ : L2.St}
/-- what f answers stands so in the machine, n deep -/
def EqF (Y : L2.Cx) (ρ : List Addr) (H : HH) (s : Shared) (n : Nat) (f : W → W → Option Bool) : Prop :=
  ∀ x y b vx vy v u, f x y = some b → RW ρ H x vx → RW ρ H y vy → L2.RelV vx v → L2.RelV vy u → EqN Y.prog Y.w s n v u b
theorem seqs_run {n : Nat} {f : W → W → Option Bool} (F : EqF Y ρ H s n f) {xs ys : List W} {e : Nat → Bool} (he : ∀ j x y, xs[j]? = some x → ys[j]? = some y → f x y = some (e j)) {vs us : List Vv} {i1 i2 : List Value}
    (r1 : RWs ρ H xs vs) (r2 : RWs ρ H ys us) (q1 : L2.Vals vs i1) (q2 : L2.Vals us i2) {A : Around} (hA : A.units + n < cLine) :
    ∀ j (h1 : j < i1.toArray.size) (h2 : j < i2.toArray.size), EqIn Y.prog Y.w A s i1.toArray[j] i2.toArray[j] (e j) := fun j h1 h2 => by
  obtain ⟨x, v, ex, rx, qx⟩ := r1.at2 q1 (j := j) (by simpa using h1)
  obtain ⟨y, u, ey, ry, qy⟩ := r2.at2 q2 (j := j) (by simpa using h2)
  have := F x y _ _ _ _ _ (he j x y ex ey) rx ry qx qy A hA
  simpa using this
theorem seqs_all {xs ys : List W} {e : Nat → Bool} {b : Bool} {vs us : List Vv} {i1 i2 : List Value} (r1 : RWs ρ H xs vs) (r2 : RWs ρ H ys us) (q1 : L2.Vals vs i1) (q2 : L2.Vals us i2) (hb : b = (List.range (min xs.length ys.length)).all e) :
    ((List.range (min i1.toArray.size i2.toArray.size)).all e && i1.toArray.size == i2.toArray.size) = (b && decide (xs.length = ys.length)) := by
  have l1 : i1.toArray.size = xs.length := by rw [List.size_toArray, ← q1.length, ← r1.length]
  have l2 : i2.toArray.size = ys.length := by rw [List.size_toArray, ← q2.length, ← r2.length]
  rw [l1, l2, hb]
  congr 1
/-- the values of two dicts -/
theorem hits_ok {n : Nat} {f : W → W → Option Bool} (F : EqF Y ρ H s n f) {A : Around} (hA : A.units + n < cLine) {ys : List (W × W)} {ls : List (KEY × Vv)} {vb : List (KEY × Value)} (rb : RPs flatK ρ H ys ls) (qb : L2.KV ls vb) :
    ∀ {xs : List (W × W)} {ks : List (KEY × Vv)} {va : List (KEY × Value)} {b : Bool}, RPs flatK ρ H xs ks → L2.KV ks va → eqD f ys xs = some b → PySem.W.KeqHitsIn Y.prog Y.w A s vb va b := by
  intro xs ks va b ra
  unfold RPs at ra
  induction ra generalizing va b with
  | nil =>
    intro qa e
    cases qa
    cases e
    exact .nil
  | @cons p q xs ks r1 r2 ih =>
    intro qa e
    obtain ⟨k, w⟩ := p
    obtain ⟨κ0, v⟩ := q
    cases qa with
    | @cons _ q' _ va q1 q2 =>
      obtain ⟨key, u⟩ := q'
      obtain ⟨z1, z2⟩ := q1
      obtain rfl : κ0 = key := z1
      have hv := RPs.val flat_keq r1.1 rb
      have hx := qb.val κ0
      unfold eqD at e
      cases hd : dget k ys with
      | none =>
        rw [hd] at e
        rw [hv.2 hd] at hx
        have hn : valueAt vb κ0 = none := by
          cases hz : valueAt vb κ0 with
          | none => rfl
          | some z => rw [hz] at hx; exact hx.elim
        cases hr : eqD f ys xs with
        | none => rw [hr] at e; cases e
        | some c => rw [hr] at e; cases e; exact .miss hn
      | some t =>
        rw [hd] at e
        obtain ⟨v', ev, rv'⟩ := hv.1 t hd
        rw [ev] at hx
        obtain ⟨y, hy, ry⟩ := L2.RelO.some_of hx
        cases hf : f w t with
        | none => simp [hf] at e
        | some a =>
          cases hr : eqD f ys xs with
          | none => simp [hf, hr] at e
          | some c =>
            simp [hf, hr] at e
            subst e
            exact .hit hy (F w t a _ _ _ _ hf r1.2 rv' z2 ry A hA) (ih q2 hr)
/-- a dict, as the machine keeps it: its keys ints and texts -/
theorem dct_flat {a : Addr} {kvs : List (W × W)} {P : Prop} (I : L2.Inv Y pins σ H s) (r : RO cA ρ H P a (.dct kvs)) (fl : kvs.all (fun p => isFlat p.1) = true) :
    ∃ ks va, RPs flatK ρ H kvs ks ∧ L2.KV ks va ∧ (a == sysModules) = false ∧ s.heap.DictOf (L2.mixKind Y.prog Y.w) a va := by
  rcases r with ⟨ks, r, n, z⟩ | ⟨ks, r, n, z⟩
  · obtain ⟨_, ya, va, ra, da⟩ := z.rd.ok I.hok
    exact ⟨ks, va, r, ra, ya, da⟩
  · cases r with
    | nil =>
      obtain ⟨_, ya, xs, ra, o, es, ep, ho, hx, hd, he, hn⟩ := z.rd.ok I.hok
      cases ra
      refine ⟨[], [], .nil, .nil, ya, o, es, ep, ho, hx, hd, ?_, ?_, List.nodup_nil⟩
      · intro e he'
        have : e ∈ es.toList := Array.mem_toList_iff.mpr he'
        rw [he] at this
        simp at this
      · rw [he]; exact .nil
    | @cons p q ps qs r1 r2 =>
      simp only [List.all_cons, Bool.and_eq_true] at fl
      obtain ⟨k, u⟩ := p
      have h1 := fl.1
      have h2 := r1.1
      cases k <;> simp [isFlat] at h1 <;> cases h2
theorem addr_ne {rh : RH cA ρ L h H} {a b : Nat} {x y : Addr} (hx : ρ[a]? = some x) (hy : ρ[b]? = some y) (hab : a ≠ b) : x ≠ y := fun e => by
  subst e
  exact hab (by
    have h1 := ix_lt hx
    have h2 := ix_lt hy
    have := (List.getElem?_inj h1 rh.nd).mp (hx.trans hy.symm)
    exact this)
theorem eqO_run (I : L2.Inv Y pins σ H s) (rh : RH cA ρ L h H) {n : Nat} {f : W → W → Option Bool} (F : EqF Y ρ H s n f) {a b : Nat} {x y : Addr} {r : Bool} (hx : ρ[a]? = some x) (hy : ρ[b]? = some y) (e : eqO f (rd h a) (rd h b) = some r) :
    CmpN Y.prog Y.w s (n + 1) (.ref x) (.ref y) r := by
  unfold eqO at e
  split at e
  · rename_i xs ys e1 e2
    obtain ⟨x', hx', vs, r1, z1⟩ := rh.get e1
    obtain ⟨y', hy', us, r2, z2⟩ := rh.get e2
    rw [hx] at hx'; cases hx'
    rw [hy] at hy'; cases hy'
    obtain ⟨i1, q1, p1, _⟩ := I.list z1.seqL
    obtain ⟨i2, q2, p2, _⟩ := I.list z2.seqL
    have l1 : i1.toArray.size = xs.length := by rw [List.size_toArray, ← q1.length, ← r1.length]
    have l2 : i2.toArray.size = ys.length := by rw [List.size_toArray, ← q2.length, ← r2.length]
    by_cases hl : xs.length = ys.length
    · rw [if_pos hl] at e
      obtain ⟨g, hg, hb⟩ := eqs_pts e
      have hs : i1.toArray.size = i2.toArray.size := by rw [l1, l2, hl]
      have hb' : r = (List.range i1.toArray.size).all g := by rw [hb, l1, ← hl, Nat.min_self]
      intro A E Q hA
      have it := seqs_run F hg r1 r2 q1 q2 (A := A.in1) (by show A.units + 1 + n < cLine; omega)
      refine ⟨fun q => PySem.SeqAt.rcIn_lists p1.isList p2.isList hs (by omega) it (hb' ▸ q), fun q => ne_lists p1.isList p2.isList hs (by omega) it (hb' ▸ q)⟩
    · rw [if_neg hl] at e
      cases e
      have hs : (i1.toArray.size != i2.toArray.size) = true := by rw [l1, l2]; simpa using hl
      intro A E Q hA
      exact ⟨fun q => PySem.SeqAt.RcAt.lists_lengths p1.isList p2.isList hs (by omega) _ _ E Q q, fun q => PySem.SeqAt.RcNeAt.lists_lengths p1.isList p2.isList hs (by omega) _ _ E Q q⟩
  · rename_i xs ys e1 e2
    split at e
    · rename_i hfl
      simp only [Bool.and_eq_true] at hfl
      obtain ⟨x', hx', z1⟩ := rh.get e1
      obtain ⟨y', hy', z2⟩ := rh.get e2
      rw [hx] at hx'; cases hx'
      rw [hy] at hy'; cases hy'
      obtain ⟨ks, va, r1, q1, s1, d1⟩ := dct_flat I z1 hfl.1
      obtain ⟨ls, vb, r2, q2, s2, d2⟩ := dct_flat I z2 hfl.2
      cases hr : eqD f ys xs with
      | none => rw [hr] at e; cases e
      | some c =>
        rw [hr] at e
        cases e
        have hl : (va.length == vb.length) = decide (xs.length = ys.length) := by
          rw [← q1.length, ← q2.length, ← Paired.length r1, ← Paired.length r2]
          rfl
        intro A E Q hA
        have it := hits_ok F (A := A.in1) (by show A.units + 1 + n < cLine; omega) r2 q2 r1 q1 hr
        exact ⟨fun q => PySem.W.keq_eqIn s1 s2 d1 d2 (by omega) (fun _ => it) (by rw [hl]; exact q), fun q => ne_dicts s1 s2 d1 d2 (by omega) (fun _ => it) (by rw [hl]; exact q)⟩
    · cases e
  · cases e
theorem tups_run (I : L2.Inv Y pins σ H s) {n : Nat} {f : W → W → Option Bool} (F : EqF Y ρ H s n f) {xs ys : List W} {x y : Addr} {vs us : List Vv} {c : Bool} (hx : H x = some (.tup vs)) (hy : H y = some (.tup us)) (r1 : RWs ρ H xs vs) (r2 : RWs ρ H ys us)
    (e : eqs f xs ys = some c) : CmpN Y.prog Y.w s (n + 1) (.ref x) (.ref y) (c && decide (xs.length = ys.length)) := by
  obtain ⟨i1, q1, p1, _⟩ := I.tuple (.of hx)
  obtain ⟨i2, q2, p2, _⟩ := I.tuple (.of hy)
  obtain ⟨g, hg, hb⟩ := eqs_pts e
  have hb' := seqs_all r1 r2 q1 q2 hb
  intro A E Q hA
  have it := seqs_run F hg r1 r2 q1 q2 (A := A.in1) (by show A.units + 1 + n < cLine; omega)
  exact ⟨fun q => PySem.SeqAt.rcIn_tuples (tupIs p1) (tupIs p2) (by omega) it (by rw [hb']; exact q), fun q => ne_tups (tupIs p1) (tupIs p2) (by omega) it (by rw [hb']; exact q)⟩
theorem EqN.mono {P : Program} {w : World} {n m : Nat} {v u : Value} {b : Bool} (e : EqN P w s n v u b) (hn : n ≤ m) : EqN P w s m v u b := fun A hA => e A (by omega)
theorem CmpN.mono {P : Program} {w : World} {n m : Nat} {v u : Value} {b : Bool} (e : CmpN P w s n v u b) (hn : n ≤ m) : CmpN P w s m v u b := fun A E Q hA => e A E Q (by omega)
/-- of things at unlike addresses -/
theorem CmpN.eqN {P : Program} {w : World} {n : Nat} {x y : Addr} {b : Bool} (e : CmpN P w s n (.ref x) (.ref y) b) (hne : x ≠ y) : EqN P w s n (.ref x) (.ref y) b := fun A hA =>
  SeqAt.EqIn.of_refs hne fun E Q q => (e A E Q hA).1 q
/-- items of one tuple are equal to themselves, as far as they are compared -/
theorem eqW_run (I : L2.Inv Y pins σ H s) (rh : RH cA ρ L h H) : ∀ n : Nat, EqF Y ρ H s n (eqW n h)
  | 0, x, y, b, vx, vy, v, u, e, rx, ry, qx, qy => by
    have e : eqS x y = some b := by cases x <;> cases y <;> exact e
    exact (eqS_run I e rx ry qx qy _ _).1
  | n + 1, x, y, b, vx, vy, v, u, e, rx, ry, qx, qy => by
    have F := eqW_run I rh n
    have flat : eqS x y = some b → EqN Y.prog Y.w s (n + 1) v u b := fun e => EqN.mono (eqS_run I e rx ry qx qy _ _).1 (by omega)
    cases x with
    | tup xs =>
      cases y with
      | tup ys =>
        obtain ⟨x, vs, rfl, hx, r1⟩ := rx
        obtain ⟨y, us, rfl, hy, r2⟩ := ry
        cases (show v = Value.ref x from qx)
        cases (show u = Value.ref y from qy)
        unfold eqW at e
        cases hr : eqs (eqW n h) xs ys with
        | none => rw [hr] at e; cases e
        | some c =>
          rw [hr] at e
          cases e
          by_cases hxy : x = y
          · subst hxy
            rw [hx] at hy
            cases hy
            cases RWs.inj rh r1 r2
            rw [eqs_refl n _ c hr]
            simp only [decide_true, Bool.and_self]
            exact fun A hA => (SeqAt.EqAt.same _).inModel _ _
          · exact (tups_run I F hx hy r1 r2 hr).eqN hxy
      | _ => exact flat (by simpa [eqW] using e)
    | ref a =>
      cases y with
      | ref b' =>
        obtain ⟨x, rfl, hx⟩ := rx
        obtain ⟨y, rfl, hy⟩ := ry
        cases (show v = Value.ref x from qx)
        cases (show u = Value.ref y from qy)
        unfold eqW at e
        split at e
        · rename_i hab
          cases e
          rw [hab.1, hy] at hx
          cases hx
          exact fun A hA => (SeqAt.EqAt.same _).inModel _ _
        · rename_i hab
          by_cases hab' : a = b'
          · subst hab'
            exact (hab ⟨rfl, by rw [← rh.len]; exact ix_lt hx⟩).elim
          · exact (eqO_run I rh F hx hy e).eqN (addr_ne (rh := rh) hx hy hab')
      | _ => exact flat (by simpa [eqW] using e)
    | _ => exact flat (by cases y <;> simpa [eqW] using e)
theorem weq_run (I : L2.Inv Y pins σ H s) (rh : RH cA ρ L h H) {x y : W} {b : Bool} {vx vy : Vv} {v u : Value} (e : weq h x y = some b) (rx : RW ρ H x vx) (ry : RW ρ H y vy) (qx : L2.RelV vx v) (qy : L2.RelV vy u) : CmpN Y.prog Y.w s 20 v u b := by
  have F := eqW_run I rh 19
  unfold weq at e
  split at e
  · rename_i xs ys
    obtain ⟨x, vs, rfl, hx, r1⟩ := rx
    obtain ⟨y, us, rfl, hy, r2⟩ := ry
    cases (show v = Value.ref x from qx)
    cases (show u = Value.ref y from qy)
    cases hr : eqs (eqW 19 h) xs ys with
    | none => rw [hr] at e; cases e
    | some c => rw [hr] at e; cases e; exact tups_run I F hx hy r1 r2 hr
  · obtain ⟨x, rfl, hx⟩ := rx
    obtain ⟨y, rfl, hy⟩ := ry
    cases (show v = Value.ref x from qx)
    cases (show u = Value.ref y from qy)
    exact eqO_run I rh F hx hy e
  · exact CmpN.mono (eqS_run I e rx ry qx qy _ _).2 (by omega)
end
end MP

namespace MP
open PySem PySem.Spec PyProof.Rows
open PySem.SeqAt (EqIn EqAt RcAt RcNeAt)
/-! ### the order of texts; a text in a text -/
theorem slt_lt : ∀ a b : List Nat, slt a b = decide (a < b)
  | a, [] => by cases a <;> simp [slt]
  | [], _ :: _ => by simp [slt]
  | x :: xs, y :: ys => by
    unfold slt
    split
    · rename_i e
      subst e
      rw [slt_lt xs ys, Bool.eq_iff_iff]
      simp [List.cons_lt_cons_iff]
    · rename_i e
      rw [Bool.eq_iff_iff]
      simp [List.cons_lt_cons_iff, e]
theorem sIn_iff (a : List Nat) : ∀ b : List Nat, sIn a b = true ↔ ∃ i, i + a.length ≤ b.length ∧ (b.drop i).take a.length = a
  | [] => by
    unfold sIn
    cases a with
    | nil => simp
    | cons c r => simp
  | c :: r => by
    unfold sIn
    rw [Bool.or_eq_true, sIn_iff a r, List.isPrefixOf_iff_prefix]
    constructor
    · rintro (h | ⟨i, h1, h2⟩)
      · exact ⟨0, by simpa using h.length_le, by simpa using (List.prefix_iff_eq_take.mp h).symm⟩
      · exact ⟨i + 1, by rw [List.length_cons]; omega, by simpa using h2⟩
    · rintro ⟨i, h1, h2⟩
      cases i with
      | zero => exact .inl (List.prefix_iff_eq_take.mpr (by simpa using h2.symm))
      | succ i => exact .inr ⟨i, by rw [List.length_cons] at h1; omega, by simpa using h2⟩
theorem sIn_occ (a b : List Nat) : (!(Builtin.Str.occurrences (sv b) (sv a) 0 (sv b).length 1).isEmpty) = sIn a b := by
  rw [Bool.eq_iff_iff, StrLaws.found_iff, sIn_iff]
  constructor
  · rintro ⟨i, h1, h2⟩
    refine ⟨i, h1, ?_⟩
    rw [StrLaws.subAt_eq] at h2
    exact eq_of_beq h2
  · rintro ⟨i, h1, h2⟩
    refine ⟨i, h1, ?_⟩
    rw [StrLaws.subAt_eq]
    exact beq_iff_eq.mpr h2
section
variable {cA : CA} {Y : L2.Cx} {L : Nat → Prop} {lk : List Nat} {ρ : List Addr} {H : HH} {h : Hp} {pins : List (Addr × Obj)} {s : Shared} {σ : L2.St}
theorem tri2 {v u : Value} (b : Bool) (h1 : ∀ A : Around, A.units < cLine → EqAt A s v u b) {P : Program} {w : World} (k : EqN P w s 0 v u b ∧ CmpN P w s 0 v u b) : ∀ A : Around, A.units < cLine → EqAt A s v u b := h1
/-- plain data compare so in every program -/
theorem eqP_run (I : L2.Inv Y pins σ H s) (rh : RH cA ρ L h H) : ∀ (n : Nat) (x y : W) (b : Bool) (vx vy : Vv) (v u : Value), plain n x = true → plain n y = true → eqW n [] x y = some b → RW ρ H x vx → RW ρ H y vy → L2.RelV vx v → L2.RelV vy u →
    ∀ A : Around, A.units + n < cLine → EqAt A s v u b
  | 0, x, y, b, vx, vy, v, u, px, py, e, rx, ry, qx, qy, A, hA => by
    have e : eqS x y = some b := by cases x <;> cases y <;> exact e
    exact fun P w E Q q => (eqS_run I e rx ry qx qy P w).1 A (by omega) E Q q
  | n + 1, x, y, b, vx, vy, v, u, px, py, e, rx, ry, qx, qy, A, hA => by
    have flat : eqS x y = some b → EqAt A s v u b := fun e P w E Q q => (eqS_run I e rx ry qx qy P w).1 A (by omega) E Q q
    cases x with
    | tup xs =>
      cases y with
      | tup ys =>
        obtain ⟨x, vs, rfl, hx, r1⟩ := rx
        obtain ⟨y, us, rfl, hy, r2⟩ := ry
        cases (show v = Value.ref x from qx)
        cases (show u = Value.ref y from qy)
        unfold eqW at e
        unfold plain at px py
        cases hr : eqs (eqW n []) xs ys with
        | none => rw [hr] at e; cases e
        | some c =>
          rw [hr] at e
          cases e
          by_cases hxy : x = y
          · subst hxy
            rw [hx] at hy
            cases hy
            cases RWs.inj rh r1 r2
            rw [eqs_refl n _ c hr]
            simp only [decide_true, Bool.and_self]
            exact .same _
          · obtain ⟨i1, q1, p1, _⟩ := I.tuple (.of hx)
            obtain ⟨i2, q2, p2, _⟩ := I.tuple (.of hy)
            obtain ⟨g, hg, hb⟩ := eqs_pts hr
            show EqAt A s (.ref x) (.ref y) (c && decide (xs.length = ys.length))
            rw [← seqs_all r1 r2 q1 q2 hb]
            refine .of_refs hxy (.tuples (tupIs p1) (tupIs p2) (by omega) fun j h1 h2 => ?_)
            obtain ⟨x', v', ex, rx', qx'⟩ := r1.at2 q1 (j := j) (by simpa using h1)
            obtain ⟨y', u', ey, ry', qy'⟩ := r2.at2 q2 (j := j) (by simpa using h2)
            have := eqP_run I rh n x' y' (g j) v' u' _ _ (List.all_eq_true.mp px x' (List.mem_of_getElem? ex)) (List.all_eq_true.mp py y' (List.mem_of_getElem? ey)) (hg j x' y' ex ey) rx' ry' qx' qy' A.in1 (by show A.units + 1 + n < cLine; omega)
            simpa using this
      | _ => exact flat (by simpa [eqW] using e)
    | ref a => simp [plain] at px
    | _ => exact flat (by cases y <;> simpa [eqW] using e)
theorem eqs_some {f : W → W → Option Bool} : ∀ {xs ys : List W}, (∀ x ∈ xs, ∀ y ∈ ys, (f x y).isSome = true) → (eqs f xs ys).isSome = true
  | [], _, _ => rfl
  | _ :: _, [], _ => rfl
  | x :: xs, y :: ys, h => by
    obtain ⟨a, ha⟩ := Option.isSome_iff_exists.mp (h x List.mem_cons_self y List.mem_cons_self)
    obtain ⟨b, hb⟩ := Option.isSome_iff_exists.mp (eqs_some (xs := xs) (ys := ys) (f := f) fun x hx y hy => h x (List.mem_cons_of_mem _ hx) y (List.mem_cons_of_mem _ hy))
    simp [eqs, ha, hb]
theorem eqP_some : ∀ (n : Nat) (x y : W), plain n x = true → plain n y = true → (eqW n [] x y).isSome = true
  | 0, x, y, px, py => by cases x <;> cases y <;> simp [plain] at px py <;> rfl
  | n + 1, x, y, px, py => by
    cases x with
    | tup xs =>
      cases y with
      | tup ys =>
        unfold eqW
        rw [Option.isSome_map]
        unfold plain at px py
        exact eqs_some fun x hx y hy => eqP_some n x y (List.all_eq_true.mp px x hx) (List.all_eq_true.mp py y hy)
      | _ => simp [plain] at py <;> rfl
    | ref a => simp [plain] at px
    | _ => cases y <;> simp [plain] at py <;> rfl
/-- x in items -/
theorem memW_run (I : L2.Inv Y pins σ H s) (rh : RH cA ρ L h H) {x : W} {ys : List W} {b : Bool} {vx : Vv} {us : List Vv} {v : Value} {its : List Value} (e : memW x ys = some b) (rx : RW ρ H x vx) (qx : L2.RelV vx v) (r : RWs ρ H ys us) (q : L2.Vals us its) :
    ∃ g : Value → Bool, (∀ A : Around, A.units + 20 < cLine → ∀ y, y ∈ its.toArray → EqAt A s y v (g y)) ∧ its.toArray.any g = b := by
  unfold memW at e
  split at e
  · rename_i hp
    simp only [Bool.and_eq_true] at hp
    cases e
    classical
    refine ⟨fun u => decide (∃ y ∈ ys, ∃ vy, RW ρ H y vy ∧ L2.RelV vy u ∧ eqW 20 [] y x = some true), fun A hA u hu => ?_, ?_⟩
    · obtain ⟨j, hj, rfl⟩ := List.getElem_of_mem (Array.mem_toList_iff.mpr hu)
      obtain ⟨y, vy, ey, ry, qy⟩ := r.at2 q (j := j) (by simpa using hj)
      have hy := List.mem_of_getElem? ey
      obtain ⟨c, hc⟩ := Option.isSome_iff_exists.mp (eqP_some 20 y x (List.all_eq_true.mp hp.2 y hy) hp.1)
      have key := eqP_run I rh 20 y x c vy vx _ v (List.all_eq_true.mp hp.2 y hy) hp.1 hc ry rx qy qx A hA
      have eg : decide (∃ y ∈ ys, ∃ vy, RW ρ H y vy ∧ L2.RelV vy (its.toArray.toList[j]) ∧ eqW 20 [] y x = some true) = c := by
        cases c with
        | true => exact decide_eq_true ⟨y, hy, vy, ry, by simpa using qy, hc⟩
        | false =>
          refine decide_eq_false fun ⟨y', hy', vy', ry', qy', hc'⟩ => ?_
          have qy2 : L2.RelV vy (its.toArray.toList[j]) := by simpa using qy
          have := qy2.inj qy'
          subst this
          have := ry.inj rh ry'
          subst this
          rw [hc] at hc'
          cases hc'
      show EqAt A s _ v (decide _)
      rw [eg]
      simpa using key
    · rw [Bool.eq_iff_iff, List.any_toArray, List.any_eq_true, List.any_eq_true]
      constructor
      · rintro ⟨u, _, hu⟩
        obtain ⟨y, hy, _, _, _, e⟩ := of_decide_eq_true hu
        exact ⟨y, hy, by rw [e]; rfl⟩
      · rintro ⟨y, hy, e⟩
        obtain ⟨j, hj⟩ := List.getElem?_of_mem hy
        have hj' : j < its.length := by rw [← q.length, ← r.length]; exact ix_lt hj
        obtain ⟨y', vy, ey, ry, qy⟩ := r.at2 q hj'
        rw [hj] at ey
        cases ey
        exact ⟨its[j], List.getElem_mem hj', decide_eq_true ⟨y, hy, vy, ry, qy, by simpa using e⟩⟩
  · cases e
end
end MP

namespace MP
open PySem PySem.Spec PyProof.Rows
/-! ### keys -/
theorem kV_of {x : W} {k : KEY} (e : flatK x = some k) {ρ : List Addr} {H : HH} {v : Vv} (r : RW ρ H x v) : v = L2.kV k := by
  cases x with
  | int i => cases e; exact r
  | str x => obtain ⟨_, rfl⟩ := flat_str e; exact r.2
  | _ => cases e
theorem kVs_of : ∀ {xs : List W} {ks : List KEY}, flatKs xs = some ks → ∀ {ρ : List Addr} {H : HH} {vs : List Vv}, RWs ρ H xs vs → vs = ks.map L2.kV
  | [], _, e, _, _, _, r => by cases e; cases r; rfl
  | x :: xs, _, e, _, _, _, r => by
    obtain ⟨v, t, rfl, r1, r2⟩ := r
    simp only [flatKs] at e
    cases h1 : flatK x with
    | none => rw [h1] at e; cases e
    | some k =>
      rw [h1] at e
      cases h2 : flatKs xs with
      | none => rw [h2] at e; cases e
      | some ks =>
        rw [h2] at e
        cases e
        rw [kV_of h1 r1, kVs_of h2 r2]
        rfl
theorem flatK_some {ρ : List Addr} {H : HH} {x : W} {v : Vv} (e : isFlat x = true) (r : RW ρ H x v) : ∃ k, flatK x = some k := by
  cases x with
  | int i => exact ⟨_, rfl⟩
  | str x => exact ⟨_, if_pos r.1⟩
  | _ => cases e
theorem flatKs_some {ρ : List Addr} {H : HH} : ∀ {xs : List W} {vs : List Vv}, xs.all isFlat = true → RWs ρ H xs vs → ∃ k, flatKs xs = some k
  | [], _, _, _ => ⟨_, rfl⟩
  | x :: xs, _, e, r => by
    obtain ⟨v, t, rfl, r1, r2⟩ := r
    simp only [List.all_cons, Bool.and_eq_true] at e
    obtain ⟨k, h1⟩ := flatK_some e.1 r1
    obtain ⟨ks, h2⟩ := flatKs_some e.2 r2
    exact ⟨k :: ks, by simp [flatKs, h1, h2]⟩
/-- a key is flat, or a tuple of flat ones -/
theorem key_cases {ρ : List Addr} {H : HH} {x : W} {v : Vv} (e : isKey x = true) (r : RW ρ H x v) : (kind x = 1 ∧ ∃ k, flatK x = some k) ∨ (kind x = 2 ∧ ∃ k, tupK x = some k) := by
  unfold isKey at e
  cases x with
  | int i => exact .inl ⟨rfl, _, rfl⟩
  | str i => exact .inl ⟨rfl, flatK_some rfl r⟩
  | tup xs =>
    by_cases h : xs.all isFlat = true
    · obtain ⟨_, _, _, _, r⟩ := r
      exact .inr ⟨by show (if xs.all isFlat = true then 2 else 0) = 2; rw [if_pos h], flatKs_some h r⟩
    · have e : ((if xs.all isFlat = true then 2 else 0) != 0) = true := e
      rw [if_neg h] at e
      cases e
  | _ => simp [kind] at e
theorem kind_flat {x : W} {k : KEY} (e : flatK x = some k) : kind x = 1 := by cases x <;> first | rfl | cases e
theorem flatKs_all : ∀ {xs : List W} {ks : List KEY}, flatKs xs = some ks → xs.all isFlat = true
  | [], _, _ => rfl
  | x :: xs, _, e => by
    simp only [flatKs] at e
    cases h1 : flatK x with
    | none => rw [h1] at e; cases e
    | some k =>
      rw [h1] at e
      cases h2 : flatKs xs with
      | none => rw [h2] at e; cases e
      | some ks =>
        rw [List.all_cons, flatKs_all h2]
        cases x <;> first | rfl | cases h1
theorem kind_tup {x : W} {k : List KEY} (e : tupK x = some k) : kind x = 2 := by
  cases x with
  | tup xs => show (if xs.all isFlat = true then 2 else 0) = 2; rw [if_pos (flatKs_all e)]
  | _ => cases e
section
variable {cA : CA} {Y : L2.Cx} {L : Nat → Prop} {lk : List Nat} {ρ : List Addr} {H : HH} {h : Hp} {pins : List (Addr × Obj)} {s : Shared} {σ : L2.St}
/-- a dict and a key of its kind: as it stands, or an empty dict and any key -/
inductive DK (ρ : List Addr) (H : HH) (P : Prop) (a : Addr) (kvs : List (W × W)) (y : Vv) (k : W) : Prop
  | flat (ks : List (KEY × Vv)) (k0 : KEY) : RPs flatK ρ H kvs ks → (ks.map (·.1)).Nodup → At H P a (.dK ks) → flatK k = some k0 → y = L2.kV k0 → DK ρ H P a kvs y k
  | tup (ks : List (List KEY × Vv)) (k0 : List KEY) (b : Addr) : RPs tupK ρ H kvs ks → (ks.map (·.1)).Nodup → At H P a (.dT ks) → tupK k = some k0 → y = .ref b → H b = some (.tup (k0.map L2.kV)) → DK ρ H P a kvs y k
  | flat0 (k0 : KEY) : kvs = [] → At H P a (.dT []) → flatK k = some k0 → y = L2.kV k0 → DK ρ H P a kvs y k
  | tup0 (k0 : List KEY) (b : Addr) : kvs = [] → At H P a (.dK []) → tupK k = some k0 → y = .ref b → H b = some (.tup (k0.map L2.kV)) → DK ρ H P a kvs y k
theorem keyIn_cases {P : Prop} {a : Addr} {kvs : List (W × W)} {k : W} {y : Vv} (e : keyIn k kvs = true) (r : RO cA ρ H P a (.dct kvs)) (rk : RW ρ H k y) : DK ρ H P a kvs y k := by
  unfold keyIn at e
  rw [Bool.and_eq_true, List.all_eq_true] at e
  rcases key_cases e.1 rk with ⟨hk, k0, ek⟩ | ⟨hk, k0, ek⟩
  · have ey := kV_of ek rk
    rcases r with ⟨ks, r, n, z⟩ | ⟨ks, r, n, z⟩
    · exact .flat ks k0 r n z ek ey
    · cases r with
      | nil => exact .flat0 k0 rfl z ek ey
      | @cons p q ps qs r1 r2 =>
        have := e.2 p List.mem_cons_self
        rw [beq_iff_eq, hk, kind_tup r1.1] at this
        cases this
  · have : ∃ b, y = .ref b ∧ H b = some (.tup (k0.map L2.kV)) := by
      cases k with
      | tup xs =>
        obtain ⟨b, vs, e1, e2, r2⟩ := rk
        rw [kVs_of ek r2] at e2
        exact ⟨b, e1, e2⟩
      | _ => cases ek
    obtain ⟨b, ey, eb⟩ := this
    rcases r with ⟨ks, r, n, z⟩ | ⟨ks, r, n, z⟩
    · cases r with
      | nil => exact .tup0 k0 b rfl z ek ey eb
      | @cons p q ps qs r1 r2 =>
        have := e.2 p List.mem_cons_self
        rw [beq_iff_eq, hk, kind_flat r1.1] at this
        cases this
    · exact .tup ks k0 b r n z ek ey eb
/-- an empty dict, for any kind of keys -/
theorem dk0 (I : L2.Inv Y pins σ H s) {a : Addr} (e : L2.Rd H a (.dK []) ∨ L2.Rd H a (.dT [])) :
    (a == sysModules) = false ∧ s.heap.DictOf (L2.mixKind Y.prog Y.w) a ([] : List (KEY × Value)) ∧ s.heap.DictOfH (tupleKind (L2.mixKind Y.prog Y.w)) a [] := by
  rcases e with e | e
  · obtain ⟨_, y, vs, r, o, es, ep, h1, h2, h3, h4, h5, h6⟩ := e.ok I.hok
    cases r
    have he : es.toList = [] := List.length_eq_zero_iff.mp h5.length
    refine ⟨y, ⟨o, es, ep, h1, h2, h3, h4, h5, h6⟩, o, es, ep, h1, h2, h3, by rw [he]; rfl, (fun x hx => by simp at hx), List.nodup_nil⟩
  · obtain ⟨_, y, xs, ra, o, es, ep, h1, h2, h3, he, hn⟩ := e.ok I.hok
    cases ra
    have he : es.toList = [] := he
    refine ⟨y, ⟨o, es, ep, h1, h2, h3, fun e he' => ?_, by rw [he]; exact .nil, List.nodup_nil⟩, o, es, ep, h1, h2, h3, by rw [he]; rfl, (fun x hx => by simp at hx), List.nodup_nil⟩
    have : e ∈ es.toList := Array.mem_toList_iff.mpr he'
    rw [he] at this
    cases this
/-- what the dict holds for the key -/
def holdsO (ρ : List Addr) (H : HH) (o : Option W) (v : Option Vv) : Prop := match o, v with
  | some w, some v => RW ρ H w v
  | none, none => True
  | _, _ => False
theorem holds_of {o : Option W} {v : Option Vv} (h : (∀ w, o = some w → ∃ u, v = some u ∧ RW ρ H w u) ∧ (o = none → v = none)) : holdsO ρ H o v := by
  cases o with
  | none => rw [h.2 rfl]; trivial
  | some w => obtain ⟨u, rfl, r⟩ := h.1 w rfl; exact r
theorem holdsO.isSome {o : Option W} {v : Option Vv} (h : holdsO ρ H o v) : v.isSome = o.isSome := by
  cases o <;> cases v <;> first | rfl | exact h.elim
/-- the key met: DGet, or none there -/
theorem DK.get {P : Prop} {a : Addr} {kvs : List (W × W)} {k : W} {y : Vv} (d : DK ρ H P a kvs y k) : (∃ o, L2.DGet H a y o ∧ holdsO ρ H (dget k kvs) o) ∨ (dget k kvs = none ∧ (L2.Rd H a (.dK []) ∨ L2.Rd H a (.dT []))) := by
  cases d with
  | flat ks k0 r n z ek ey => exact .inl ⟨_, .inl ⟨ks, k0, z.rd, ey, rfl⟩, holds_of (RPs.val flat_keq ek r)⟩
  | tup ks k0 b r n z ek ey eb => exact .inl ⟨_, .inr ⟨ks, k0, b, z.rd, ey, eb, rfl⟩, holds_of (RPs.val tup_keq ek r)⟩
  | flat0 k0 e z ek ey => subst e; exact .inr ⟨rfl, .inr z.rd⟩
  | tup0 k0 b e z ek ey eb => subst e; exact .inr ⟨rfl, .inl z.rd⟩
end
end MP

namespace MP
open PySem PySem.Spec PyProof.Rows
/-! ### comparisons -/
def pyCmp : CmpOp → PySem.CmpOp
  | .eq => .Eq | .ne => .NotEq | .lt => .Lt | .le => .LtE | .gt => .Gt | .ge => .GtE | .isin => .In | .notin => .NotIn | .is => .Is | .isnot => .IsNot
def rCmp (cA : CA) (op : CmpOp) : L2.R2 := fun x y H Q => ∃ ρ L h w u b, RH cA ρ L h H ∧ RW ρ H w x ∧ RW ρ H u y ∧ cmp op w u h = some b ∧ Q (.bl b) H
section
variable {cA : CA} {Y : L2.Cx} {L : Nat → Prop} {lk : List Nat} {ρ : List Addr} {H : HH} {h : Hp} {pins : List (Addr × Obj)} {s : Shared} {σ : L2.St}
theorem fin_b (I : L2.Inv Y pins σ H s) {b : Bool} {Q : L2.VK} (q : Q (.bl b) H) : L2.EP Y pins σ Q (.bool b) s := ⟨.bl b, H, I, rfl, q⟩
/-- x in y -/
theorem in_ok (hu : Y.A.units + 64 < cLine) (I : L2.Inv Y pins σ H s) (rh : RH cA ρ L h H) {w u : W} {x y : Vv} {v t : Value} {b : Bool} (rx : L2.RelV x v) (ry : L2.RelV y t) (ra : RW ρ H w x) (rb : RW ρ H u y) (e : isIn w u h = some b) {E Q : Value → Shared → Prop} :
    ((∀ s', L2.Inv Y pins σ H s' → Q (.bool b) s') → wpAny (model Y.prog Y.w) Y.A (compareOp .In v t) Q E s) ∧ ((∀ s', L2.Inv Y pins σ H s' → Q (.bool (!b)) s') → wpAny (model Y.prog Y.w) Y.A (compareOp .NotIn v t) Q E s) := by
  unfold isIn at e
  split at e
  · obtain ⟨_, rfl⟩ := ra
    obtain ⟨_, rfl⟩ := rb
    obtain ⟨_, rfl⟩ := rx
    obtain ⟨_, rfl⟩ := ry
    cases e
    refine ⟨fun q => in_str ?_, fun q => notIn_str ?_⟩
    · rw [sIn_occ]; exact q _ I
    · rw [sIn_occ]; exact q _ I
  · obtain ⟨p, vs, rfl, hp, r⟩ := rb
    cases (show t = Value.ref p from ry)
    obtain ⟨its, q, z, _⟩ := I.tuple (.of hp)
    obtain ⟨g, hg, hb⟩ := memW_run I rh e ra rx r q
    refine ⟨fun q => SeqAt.in_tupleAt g (tupIs z) (fun y hy => hg Y.A.in1 (by show Y.A.units + 1 + 20 < cLine; omega) y hy) ?_, fun q => SeqAt.notIn_tupleAt g (tupIs z) (fun y hy => hg Y.A.in1 (by show Y.A.units + 1 + 20 < cLine; omega) y hy) ?_⟩
    · rw [hb]; exact q _ I
    · rw [hb]; exact q _ I
  · obtain ⟨p, rfl, hp⟩ := rb
    cases (show t = Value.ref p from ry)
    unfold inO at e
    split at e
    · rename_i ys e1
      obtain ⟨p', hp', vs, r, z⟩ := rh.get e1
      rw [hp] at hp'; cases hp'
      obtain ⟨its, q, z, _⟩ := I.list z.seqL
      obtain ⟨g, hg, hb⟩ := memW_run I rh e ra rx r q
      refine ⟨fun q => SeqAt.in_listAt g z.isList (fun y hy => hg Y.A.in1 (by show Y.A.units + 1 + 20 < cLine; omega) y hy) ?_, fun q => SeqAt.notIn_listAt g z.isList (fun y hy => hg Y.A.in1 (by show Y.A.units + 1 + 20 < cLine; omega) y hy) ?_⟩
      · rw [hb]; exact q _ I
      · rw [hb]; exact q _ I
    · rename_i kvs e1
      split at e
      · rename_i ki
        cases e
        obtain ⟨p', hp', r⟩ := rh.get e1
        rw [hp] at hp'; cases hp'
        have hu1 : Y.A.units + 1 < cLine := by omega
        have d := keyIn_cases ki r ra
        cases d with
        | flat ks k0 r n z ek ey =>
          have o := (holds_of (RPs.val flat_keq ek r)).isSome
          have g : L2.DGet H p x _ := .inl ⟨ks, k0, z.rd, ey, rfl⟩
          rw [← o]
          exact ⟨fun q => L2.d_in hu1 I g rx q, fun q => L2.d_notIn hu1 I g rx q⟩
        | tup ks k0 b r n z ek ey eb =>
          have o := (holds_of (RPs.val tup_keq ek r)).isSome
          have g : L2.DGet H p x _ := .inr ⟨ks, k0, b, z.rd, ey, eb, rfl⟩
          rw [← o]
          exact ⟨fun q => L2.d_in hu1 I g rx q, fun q => L2.d_notIn hu1 I g rx q⟩
        | flat0 k0 e z ek ey =>
          subst e ey
          obtain ⟨hd, d1, d2⟩ := dk0 I (.inr z.rd)
          exact ⟨fun q => wpAny_in_of (L2.kV_is rx) hd d1.mapOf (q _ (I.tok _)), fun q => wpAny_notIn_of (L2.kV_is rx) hd d1.mapOf (q _ (I.tok _))⟩
        | tup0 k0 b e z ek ey eb =>
          subst e ey
          cases (show v = Value.ref b from rx)
          obtain ⟨hd, d1, d2⟩ := dk0 I (.inl z.rd)
          exact ⟨fun q => wpAny_in_heap (tupleKind_room_in1 hu1) (L2.key_of I.hok eb) hd d2 (q _ (I.tok _)), fun q => wpAny_notIn_heap (tupleKind_room_in1 hu1) (L2.key_of I.hok eb) hd d2 (q _ (I.tok _))⟩
      · cases e
    · cases e
  · cases e
theorem cmp_ok (hu : Y.A.units + 64 < cLine) (op : CmpOp) : L2.OpR Y (compareOp (pyCmp op)) (rCmp cA op) := by
  intro pins s σ H x y v t Q I rx ry ⟨ρ, L, h, w, u, b, rh, ra, rb, e, q⟩
  unfold cmp at e
  split at e
  · exact ((weq_run I rh e ra rb rx ry) Y.A _ _ (by omega)).1 (fin_b I q)
  · cases hw : weq h w u with
    | none => rw [hw] at e; cases e
    | some c => rw [hw] at e; cases e; exact ((weq_run I rh hw ra rb rx ry) Y.A _ _ (by omega)).2 (fin_b I q)
  · cases ra; cases rb; cases e
    exact L2.op_lt pins s σ H _ _ v t Q I rx ry ⟨_, _, rfl, rfl, q⟩
  · cases ra; cases rb; cases e
    exact L2.op_le pins s σ H _ _ v t Q I rx ry ⟨_, _, rfl, rfl, q⟩
  · cases ra; cases rb; cases e
    exact L2.op_gt pins s σ H _ _ v t Q I rx ry ⟨_, _, rfl, rfl, q⟩
  · cases ra; cases rb; cases e
    exact L2.op_ge pins s σ H _ _ v t Q I rx ry ⟨_, _, rfl, rfl, q⟩
  · obtain ⟨_, rfl⟩ := ra; obtain ⟨_, rfl⟩ := rb; cases e
    exact L2.op_lt_str pins s σ H _ _ v t Q I rx ry ⟨_, _, rfl, rfl, by rw [slt_lt] at q; exact q⟩
  · obtain ⟨_, rfl⟩ := ra; obtain ⟨_, rfl⟩ := rb; cases e
    exact L2.op_le_str pins s σ H _ _ v t Q I rx ry ⟨_, _, rfl, rfl, by rw [slt_lt] at q; exact q⟩
  · obtain ⟨_, rfl⟩ := ra; obtain ⟨_, rfl⟩ := rb; cases e
    exact L2.op_gt_str pins s σ H _ _ v t Q I rx ry ⟨_, _, rfl, rfl, by rw [slt_lt] at q; exact q⟩
  · obtain ⟨_, rfl⟩ := ra; obtain ⟨_, rfl⟩ := rb; cases e
    exact L2.op_ge_str pins s σ H _ _ v t Q I rx ry ⟨_, _, rfl, rfl, by rw [slt_lt] at q; exact q⟩
  · exact (in_ok hu I rh rx ry ra rb e).1 fun s' I' => fin_b I' q
  · cases hw : isIn w u h with
    | none => rw [hw] at e; cases e
    | some c => rw [hw] at e; cases e; exact (in_ok hu I rh rx ry ra rb hw).2 fun s' I' => fin_b I' q
  · cases rb; cases e
    refine L2.op_isN pins s σ H _ _ v t Q I rx ry ⟨rfl, ?_⟩
    rw [non_eq ra]; exact q
  · cases rb; cases e
    refine L2.op_notN pins s σ H _ _ v t Q I rx ry ⟨rfl, ?_⟩
    rw [non_eq ra]; exact q
  · cases ra; cases rb; cases e
    exact L2.op_is_bl pins s σ H _ _ v t Q I rx ry ⟨_, _, rfl, rfl, q⟩
  · cases ra; cases rb; cases e
    exact L2.op_isnot_bl pins s σ H _ _ v t Q I rx ry ⟨_, _, rfl, rfl, q⟩
  · cases e
where
  non_eq {ρ : List Addr} {H : HH} {w : W} {x : Vv} (r : RW ρ H w x) : decide (x = .non) = isNon w := by
    cases w with
    | tup _ => obtain ⟨a, _, rfl, _⟩ := r; rfl
    | ref _ => obtain ⟨a, rfl, _⟩ := r; rfl
    | str _ => obtain ⟨_, rfl⟩ := r; rfl
    | _ => cases r; rfl
end
end MP

namespace MP
open PySem PySem.Spec PyProof.Rows
/-! ### items, slices -/
theorem atI_eq {α : Type} (xs : List α) (i : Int) : atI xs i = L2.atI xs i := rfl
theorem RWs.atI {ρ : List Addr} {H : HH} {xs : List W} {vs : List Vv} (r : RWs ρ H xs vs) {i : Int} {w : W} (e : MP.atI xs i = some w) : ∃ v, L2.atI vs i = some v ∧ RW ρ H w v := by
  unfold MP.atI at e
  unfold L2.atI
  have l := r.length
  rw [show L2.ixN vs.length i = MP.ixN xs.length i by rw [l]; rfl]
  cases h : MP.ixN xs.length i with
  | none => rw [h] at e; cases e
  | some j =>
    rw [h] at e
    exact r.get e
theorem clamp_eq (n d : Nat) (o : Option Int) : clampI n d o = HT.sIx n d o := by cases o <;> rfl
theorem cut_eq {α : Type} (xs : List α) (lo hi : Option Int) : cutL xs lo hi = (xs.drop (HT.sIx xs.length 0 lo)).take (HT.sIx xs.length xs.length hi - HT.sIx xs.length 0 lo) := by
  unfold cutL
  rw [clamp_eq, clamp_eq, List.drop_take]
theorem RWs.cut {ρ : List Addr} {H : HH} {xs : List W} {vs : List Vv} (r : RWs ρ H xs vs) (lo hi : Option Int) : RWs ρ H (cutL xs lo hi) (L2.cutV vs lo hi) := by
  rw [cut_eq]
  unfold L2.cutV
  rw [r.length]
  exact (r.drop _).take _
theorem cut_len {α : Type} (xs : List α) (lo hi : Option Int) : (cutL xs lo hi).length ≤ xs.length := by
  rw [cut_eq, List.length_take, List.length_drop]; omega
theorem cutS_eq (s : List Nat) (lo hi : Option Int) : L2.cutS (sv s) lo hi = sv (cutL s lo hi) := by
  apply TL.ext_tl
  rw [cut_eq]
  first | rfl | (unfold L2.cutS; simp [sv])
def rItem (cA : CA) : L2.R2 := fun x y H Q => ∃ ρ L h w u z, RH cA ρ L h H ∧ RW ρ H w x ∧ RW ρ H u y ∧ item w u h = some z ∧ ∀ v, RW ρ H z v → Q v H
def rSlice (cA : CA) (lk : List Nat) : Vv → Option Int → Option Int → HH → L2.VK → Prop := fun x lo hi H Q => ∃ ρ h w E, RH cA ρ (· ∈ lk) h H ∧ RW ρ H w x ∧ Good cA lk RW (slice w lo hi h) ρ H Q E
section
variable {cA : CA} {Y : L2.Cx} {L : Nat → Prop} {lk : List Nat} {ρ : List Addr} {H : HH} {h : Hp} {pins : List (Addr × Obj)} {s : Shared} {σ : L2.St}
theorem item_ok (hu : Y.A.units + 64 < cLine) : L2.IxR Y (rItem cA) := by
  intro va sl pins s σ H x y v t Q I rx ry ⟨ρ, L, h, w, u, z, rh, ra, rb, e, q⟩ hs
  unfold item at e
  split at e
  · obtain ⟨hl, rfl⟩ := ra
    cases rb
    rename_i cs i
    cases hc : atI cs i with
    | none => rw [hc] at e; cases e
    | some c =>
      rw [hc] at e
      cases e
      exact L2.ix_str va sl pins s σ H _ _ v t Q I rx ry ⟨sv cs, i, c, rfl, rfl, Nat.le_trans hl line_le, hc, q _ ⟨by simp [LINE], rfl⟩⟩ hs
  · obtain ⟨p, vs, rfl, hp, r⟩ := ra
    cases rb
    obtain ⟨v', hv, rv⟩ := r.atI e
    exact L2.ix_tup va sl pins s σ H _ _ v t Q I rx ry ⟨p, vs, _, v', rfl, rfl, .of hp, hv, q _ rv⟩ hs
  · obtain ⟨p, rfl, hp⟩ := ra
    unfold itemO at e
    split at e
    · rename_i e1
      obtain ⟨p', hp', vs, r, at1⟩ := rh.get e1
      rw [hp] at hp'; cases hp'
      split at e
      · cases rb
        obtain ⟨v', hv, rv⟩ := r.atI e
        exact L2.ix_list va sl pins s σ H _ _ v t Q I rx ry ⟨p, vs, _, v', rfl, rfl, at1.seqL, hv, q _ rv⟩ hs
      · cases e
    · rename_i kvs e1
      split at e
      · rename_i ki
        obtain ⟨p', hp', r⟩ := rh.get e1
        rw [hp] at hp'; cases hp'
        rcases (keyIn_cases ki r rb).get with ⟨o, g, ho⟩ | ⟨hn, _⟩
        · rw [e] at ho
          cases o with
          | none => exact ho.elim
          | some v' =>
            cases (show v = Value.ref p from rx)
            exact tail_any (L2.dict_typeIs I g) PySem.F.slot_dict_getitem.lookup (L2.d_getItem (by omega) I g ry fun w' s3 I3 rw' => ⟨v', H, I3, rw', q _ ho⟩) hs
        · rw [hn] at e; cases e
      · cases e
    · cases e
  · cases e
theorem slice_ok : L2.SlR Y (rSlice cA lk) := by
  intro pins s σ H x v vl vu lo hi sl Q I rx hs pl pu ⟨ρ, h, w, E, rh, ra, g⟩
  unfold slice at g
  split at g
  · obtain ⟨hl, rfl⟩ := ra
    exact L2.sl_str pins s σ H _ v vl vu lo hi sl Q I rx hs pl pu ⟨_, rfl, Nat.le_trans hl line_le, by rw [cutS_eq]; exact g.here rh ⟨Nat.le_trans (cut_len _ _ _) hl, rfl⟩⟩
  · obtain ⟨p, vs, rfl, hp, r⟩ := ra
    have rc := r.cut lo hi
    refine L2.sl_tupA pins s σ H _ v vl vu lo hi sl Q I rx hs pl pu ⟨p, vs, rfl, .of hp, fun hw => ?_, fun _ => mk_tup g rh rc⟩
    refine g.here rh ⟨p, vs, rfl, hp, ?_⟩
    have e : L2.cutV vs lo hi = vs := by
      unfold L2.cutV
      rw [hw.1, hw.2]
      simp
    rw [e] at rc
    exact rc
  · obtain ⟨p, rfl, hp⟩ := ra
    unfold sliceO at g
    split at g
    · rename_i e1
      obtain ⟨p', hp', vs, r, at1⟩ := rh.get e1
      rw [hp] at hp'; cases hp'
      exact L2.sl_list pins s σ H _ v vl vu lo hi sl Q I rx hs pl pu ⟨p, vs, rfl, at1.seqL, mk_lst g rh (r.cut lo hi)⟩
    · exact g.elim
  · exact g.elim
end
end MP

namespace MP
open PySem PySem.Spec PyProof.Rows
/-! ### what the little language answers, as a reading -/
abbrev Rel (α β : Type) := List Addr → HH → α → β → Prop
/-- a part of an expression, at the slots σ -/
def tG {α β : Type} (cA : CA) (lk : List Nat) (W : L2.WX) (R : Rel α β) (f : Env → Hp → MP.R α) : L2.St → HH → (β → HH → Prop) → Prop := fun σ H Q =>
  ∃ ρ env h, RH cA ρ (· ∈ lk) h H ∧ RE ρ H env σ ∧ Good cA lk R (f env h) ρ H Q (L2.WE W σ)
def RO' : Rel (Option Int) (Option Int) := fun _ _ w b => w = b
abbrev tE (cA : CA) (fz : List Nat) (M : Cx) (W : L2.WX) (m : Ex) : L2.TE := tG cA fz W RW (ev M m)
abbrev tT (cA : CA) (fz : List Nat) (M : Cx) (W : L2.WX) (m : Ex) : L2.TT := L2.tTest (tE cA fz M W m)
abbrev tA (cA : CA) (fz : List Nat) (M : Cx) (W : L2.WX) (ms : List Ex) : L2.TA := tG cA fz W RWs (evs M ms)
abbrev tO (cA : CA) (fz : List Nat) (M : Cx) (W : L2.WX) (m : Option Ex) : L2.TO := tG cA fz W RO' (evO M m)
theorem PE.imp {X : L2.Cx} {e : Expr} {t t' : L2.TE} (h : L2.PE X e t) (k : ∀ σ H Q, t' σ H Q → t σ H Q) : L2.PE X e t' := ⟨fun pins s σ H Q I q => h.run pins s σ H Q I (k _ _ _ q)⟩
theorem PT.imp {X : L2.Cx} {e : Expr} {t t' : L2.TT} (h : L2.PT X e t) (k : ∀ σ H Q, t' σ H Q → t σ H Q) : L2.PT X e t' := ⟨fun pins s σ H Q I q => h.run pins s σ H Q I (k _ _ _ q)⟩
theorem PW.imp {X : L2.Cx} {e : Expr} {t t' : L2.TT} (h : L2.PW X e t) (k : ∀ σ H Q, t' σ H Q → t σ H Q) : L2.PW X e t' := ⟨fun wh pins s σ H Q I q => h.run wh pins s σ H Q I (k _ _ _ q)⟩
theorem PA.imp {X : L2.Cx} {e : List Expr} {t t' : L2.TA} (h : L2.PA X e t) (k : ∀ σ H Q, t' σ H Q → t σ H Q) : L2.PA X e t' := ⟨fun pos pins s σ H Q I q => h.run pos pins s σ H Q I (k _ _ _ q)⟩
theorem PO.imp {X : L2.Cx} {e : Option Expr} {t t' : L2.TO} (h : L2.PO X e t) (k : ∀ σ H Q, t' σ H Q → t σ H Q) : L2.PO X e t' := ⟨fun pins s σ H Q I q => h.run pins s σ H Q I (k _ _ _ q)⟩
section
variable {α β γ δ : Type} {cA : CA} {lk : List Nat} {W : L2.WX} {R1 : Rel α β} {R2 : Rel γ δ} {f : Env → Hp → MP.R α} {σ : L2.St} {H : HH}
/-- first f, then k of what it answers -/
theorem tG.bind {k : α → Env → Hp → MP.R γ} {Q : δ → HH → Prop} {P : β → HH → Prop} (h : tG cA lk W R2 (fun env h => (f env h).bind fun x h => k x env h) σ H Q)
    (c : ∀ ρ env h w v H1, RH cA ρ (· ∈ lk) h H1 → RE ρ H1 env σ → R1 ρ H1 w v → Good cA lk R2 (k w env h) ρ H1 Q (L2.WE W σ) → P v H1) : tG cA lk W R1 f σ H P := by
  obtain ⟨ρ, env, h, rh, re, g⟩ := h
  exact ⟨ρ, env, h, rh, re, g.bind fun w h1 ρ1 v H1 _ x rh1 rv g1 => c ρ1 env h1 w v H1 rh1 (re.ext x) rv g1⟩
end
theorem tG.bindE {α β γ δ : Type} {cA : CA} {lk : List Nat} {W : L2.WX} {R1 : Rel α β} {R2 : Rel γ δ} {f : Env → Hp → MP.R α} {σ : L2.St} {H : HH} {k : α → Env → Hp → MP.R γ} {Q : δ → HH → Prop} {P : β → HH → Prop} (h : tG cA lk W R2 (fun env h => (f env h).bind fun x h => k x env h) σ H Q)
    (c : ∀ ρ env h h0 w v H1, f env h0 = .ok w h → RH cA ρ (· ∈ lk) h H1 → RE ρ H1 env σ → R1 ρ H1 w v → Good cA lk R2 (k w env h) ρ H1 Q (L2.WE W σ) → P v H1) : tG cA lk W R1 f σ H P := by
  obtain ⟨ρ, env, h, rh, re, g⟩ := h
  exact ⟨ρ, env, h, rh, re, g.bind fun w h1 ρ1 v H1 e x rh1 rv g1 => c ρ1 env h1 h w v H1 e rh1 (re.ext x) rv g1⟩
theorem evs_len {M : Cx} : ∀ {ms : List Ex} {env : Env} {h h' : Hp} {ws : List MP.W}, evs M ms env h = .ok ws h' → ws.length = ms.length
  | [], _, _, _, _, e => by simp only [evs] at e; cases e; rfl
  | m :: ms, env, h, h', ws, e => by
    simp only [evs] at e
    cases e1 : ev M m env h with
    | bad => rw [e1] at e; cases e
    | exc x h => rw [e1] at e; cases e
    | ok w h1 =>
      rw [e1] at e
      simp only [R.bind_ok] at e
      cases e2 : evs M ms env h1 with
      | bad => rw [e2] at e; cases e
      | exc x h => rw [e2] at e; cases e
      | ok ws' h2 =>
        rw [e2] at e
        cases e
        rw [List.length_cons, List.length_cons, evs_len e2]
section
variable {cA : CA} {fz : List Nat} {M : Cx} {W : L2.WX} {X : L2.Cx} {pos p2 : Pos}
/-! ### constants, names -/
theorem k_non {j : Nat} : L2.PE X (.Constant .none j pos) (tE cA fz M W .non) := PE.imp L2.pe_non fun σ H Q ⟨ρ, env, h, rh, re, g⟩ => g.here rh rfl
theorem k_bl {j : Nat} {b : Bool} : L2.PE X (.Constant (.bool b) j pos) (tE cA fz M W (.bl b)) := PE.imp L2.pe_bl fun σ H Q ⟨ρ, env, h, rh, re, g⟩ => g.here rh rfl
theorem k_int {j : Nat} {i : Int} : L2.PE X (.Constant (.int i) j pos) (tE cA fz M W (.int i)) := PE.imp L2.pe_int fun σ H Q ⟨ρ, env, h, rh, re, g⟩ => g.here rh rfl
theorem k_str {j : Nat} {s : List Nat} (hl : s.length ≤ LINE) : L2.PE X (.Constant (.str (sv s)) j pos) (tE cA fz M W (.str s)) := PE.imp L2.pe_str fun σ H Q ⟨ρ, env, h, rh, re, g⟩ => g.here rh ⟨hl, rfl⟩
theorem k_gint {x : Str} {i : Int} {u : Value} (hg : L2.Gl X x) (hm : X.mg x = some u) (r : L2.RelV (.int i) u) (hd : (x == ("__debug__" : Str)) = false) : L2.PE X (.Name x pos) (tE cA fz M W (.int i)) :=
  PE.imp (L2.pe_glob hg hm r hd) fun σ H Q ⟨ρ, env, h, rh, re, g⟩ => g.here rh rfl
theorem k_gstr {x : Str} {s : List Nat} {u : Value} (hl : s.length ≤ LINE) (hg : L2.Gl X x) (hm : X.mg x = some u) (r : L2.RelV (.str (sv s)) u) (hd : (x == ("__debug__" : Str)) = false) : L2.PE X (.Name x pos) (tE cA fz M W (.str s)) :=
  PE.imp (L2.pe_glob hg hm r hd) fun σ H Q ⟨ρ, env, h, rh, re, g⟩ => g.here rh ⟨hl, rfl⟩
theorem k_var {i : Nat} {x : Str} (hN : X.N[i]? = some x) (hv : L2.Vis X.env.scope x) (hd : (x == ("__debug__" : Str)) = false) (hcd : (x == ("__classdict__" : Str)) = false) : L2.PE X (.Name x pos) (tE cA fz M W (.var i)) :=
  PE.imp (L2.pe_var hN hv hd hcd) fun σ H Q ⟨ρ, env, h, rh, re, g⟩ => by
    obtain ⟨w, e, g⟩ := Good.of (show Good cA fz RW (R.of (env[i]?.join) h) ρ H Q _ from g)
    have e' : env[i]? = some (some w) := by
      cases hx : env[i]? with
      | none => rw [hx] at e; cases e
      | some o =>
        rw [hx] at e
        have e : o = some w := e
        rw [e]
    obtain ⟨v, hv, rv⟩ := re.2 i w e'
    exact ⟨v, hv, g.here rh rv⟩
/-! ### operators -/
variable {a b c : Expr} {ma mb mc : Ex}
theorem k_bin {op : BinOp} (ha : L2.PE X a (tE cA fz M W ma)) (hb : L2.PE X b (tE cA fz M W mb)) : L2.PE X (.BinOp a (pyOp op) b pos) (tE cA fz M W (.bin op ma mb)) :=
  PE.imp (L2.pe_op (bin_ok (cA := cA) (lk := fz) op) ha hb) fun σ H Q h => tG.bind h fun ρ env h w v H1 rh re rv g =>
    ⟨ρ, env, h, rh, re, g.bind fun u h2 ρ2 v2 H2 _ x rh2 ru g2 => ⟨ρ2, h2, w, u, _, rh2, rv.ext x, ru, g2⟩⟩
theorem k_neg (ha : L2.PE X a (tE cA fz M W ma)) : L2.PE X (.UnaryOp .USub a pos) (tE cA fz M W (.neg ma)) :=
  PE.imp (L2.pe_un L2.un_neg ha) fun σ H Q h => tG.bind (k := fun x _ h => neg x h) h fun ρ env h w v H1 rh re rv g => by
    unfold neg at g
    split at g
    · cases rv
      exact ⟨_, rfl, g.here rh rfl⟩
    · exact g.elim
theorem k_cmp {op : CmpOp} (hu : X.A.units + 64 < cLine) (ha : L2.PE X a (tE cA fz M W ma)) (hb : L2.PE X b (tE cA fz M W mb)) (hm : behindInMarks (pyCmp op) b = false) :
    L2.PE X (.Compare a [pyCmp op] [b] pos) (tE cA fz M W (.cmp op ma mb)) ∧ L2.PT X (.Compare a [pyCmp op] [b] pos) (tT cA fz M W (.cmp op ma mb)) := by
  have key : ∀ {σ : L2.St} {H : HH} {Q : Vv → HH → Prop}, tE cA fz M W (.cmp op ma mb) σ H Q → L2.tOp (rCmp cA op) (tE cA fz M W ma) (tE cA fz M W mb) σ H Q := fun h =>
    tG.bind h fun ρ env h w v H1 rh re rv g => ⟨ρ, env, h, rh, re, g.bind fun u h2 ρ2 v2 H2 _ x rh2 ru g2 => by
      obtain ⟨z, e, g2⟩ := g2.of
      cases hc : cmp op w u h2 with
      | none => rw [hc] at e; cases e
      | some k => rw [hc] at e; cases e; exact ⟨ρ2, _, h2, w, u, k, rh2, rv.ext x, ru, hc, g2.here rh2 rfl⟩⟩
  exact ⟨PE.imp (L2.pe_cmpR (cmp_ok (cA := cA) hu op) ha hb hm) fun σ H Q h => key h, PT.imp (L2.pt_cmpR (cmp_ok (cA := cA) hu op) ha hb hm) fun σ H Q h => key h⟩
theorem k_chain {op op' : CmpOp} (hu : X.A.units + 64 < cLine) (ha : L2.PE X a (tE cA fz M W ma)) (hb : L2.PE X b (tE cA fz M W mb)) (hc : L2.PE X c (tE cA fz M W mc)) (hm : lastMarks [pyCmp op, pyCmp op'] [b, c] = false) :
    L2.PE X (.Compare a [pyCmp op, pyCmp op'] [b, c] pos) (tE cA fz M W (.chain op op' ma mb mc)) ∧ L2.PT X (.Compare a [pyCmp op, pyCmp op'] [b, c] pos) (tT cA fz M W (.chain op op' ma mb mc)) := by
  have key : ∀ {σ : L2.St} {H : HH} {Q : Vv → HH → Prop}, tE cA fz M W (.chain op op' ma mb mc) σ H Q → L2.tChain (rCmp cA op) (rCmp cA op') (tE cA fz M W ma) (tE cA fz M W mb) (tE cA fz M W mc) σ H Q := fun h =>
    tG.bind h fun ρ env h w v H1 rh re rv g => ⟨ρ, env, h, rh, re, g.bind fun u h2 ρ2 v2 H2 _ x rh2 ru g2 => by
      obtain ⟨k, e, g2⟩ := g2.thenO
      refine ⟨ρ2, _, h2, w, u, k, rh2, rv.ext x, ru, e, k, rfl, ?_⟩
      cases k with
      | false => exact g2.here rh2 rfl
      | true =>
        refine ⟨ρ2, env, h2, rh2, re.ext x, Good.bind (r := ev M mc env h2) g2 fun t h3 ρ3 v3 H3 _ x3 rh3 rt g3 => ?_⟩
        obtain ⟨z, e, g3⟩ := g3.of
        cases hc : cmp op' u t h3 with
        | none => rw [hc] at e; cases e
        | some k => rw [hc] at e; cases e; exact ⟨ρ3, _, h3, u, t, k, rh3, ru.ext x3, rt, hc, g3.here rh3 rfl⟩⟩
  exact ⟨PE.imp (L2.pe_chain (cmp_ok (cA := cA) hu op) (cmp_ok (cA := cA) hu op') ha hb hc hm) fun σ H Q h => key h, PT.imp (L2.pt_chain (cmp_ok (cA := cA) hu op) (cmp_ok (cA := cA) hu op') ha hb hc hm) fun σ H Q h => key h⟩
/-! ### truth -/
theorem asBool_ok {w : MP.W} {k : Bool} (e : asBool w = some k) {ρ : List Addr} {H : HH} {v : Vv} (r : RW ρ H w v) : v = .bl k := by
  cases w <;> cases e <;> exact r
variable {rest : List Expr}
/-- how a test reads its first part -/
theorem tT.first {σ : L2.St} {H : HH} {Q : Bool → HH → Prop} {k : Bool → Env → Hp → MP.R MP.W} (h : tG cA fz W RW (fun env h => (ev M ma env h).bind fun x h => thenO (asBool x) fun b => k b env h) σ H fun v H' => ∃ b, v = .bl b ∧ Q b H')
    {P : Bool → HH → Prop} (c : ∀ ρ env h b H1, RH cA ρ (· ∈ fz) h H1 → RE ρ H1 env σ → Good cA fz RW (k b env h) ρ H1 (fun v H' => ∃ b, v = .bl b ∧ Q b H') (L2.WE W σ) → P b H1) : tT cA fz M W ma σ H P :=
  tG.bind h fun ρ env h w v H1 rh re rv g => by
    obtain ⟨b, e, g⟩ := g.thenO
    exact ⟨b, asBool_ok e rv, c ρ env h b H1 rh re g⟩
theorem k_and (ha : L2.PE X a (tE cA fz M W ma)) (hb : L2.PE X (.BoolOp .And (b :: rest) pos) (tE cA fz M W mb)) : L2.PE X (.BoolOp .And (a :: b :: rest) pos) (tE cA fz M W (.and ma mb)) :=
  PE.imp (L2.pe_and ha hb) fun σ H Q h => tG.bind h fun ρ env h w v H1 rh re rv g => by
    obtain ⟨k, e, g⟩ := g.thenO
    refine ⟨k, asBool_ok e rv, ?_⟩
    cases k with
    | true => exact ⟨ρ, env, h, rh, re, g⟩
    | false => exact g.here rh rfl
theorem k_or (ha : L2.PE X a (tE cA fz M W ma)) (hb : L2.PE X (.BoolOp .Or (b :: rest) pos) (tE cA fz M W mb)) : L2.PE X (.BoolOp .Or (a :: b :: rest) pos) (tE cA fz M W (.or ma mb)) :=
  PE.imp (L2.pe_or ha hb) fun σ H Q h => tG.bind h fun ρ env h w v H1 rh re rv g => by
    obtain ⟨k, e, g⟩ := g.thenO
    refine ⟨k, asBool_ok e rv, ?_⟩
    cases k with
    | false => exact ⟨ρ, env, h, rh, re, g⟩
    | true => exact g.here rh rfl
theorem k_andT (ha : L2.PT X a (tT cA fz M W ma)) (hb : L2.PW X (.BoolOp .And (b :: rest) pos) (tT cA fz M W mb)) : L2.PW X (.BoolOp .And (a :: b :: rest) pos) (tT cA fz M W (.and ma mb)) :=
  PW.imp (L2.pw_and ha hb) fun σ H Q h => tT.first (k := fun k env h => if k then ev M mb env h else .ok (.bl false) h) h fun ρ env h k H1 rh re g => by
    cases k with
    | true => exact ⟨ρ, env, h, rh, re, g⟩
    | false => obtain ⟨b, e, q⟩ := g.here rh (show RW ρ H1 (.bl false) (.bl false) from rfl); cases e; exact q
theorem k_orT (ha : L2.PT X a (tT cA fz M W ma)) (hb : L2.PW X (.BoolOp .Or (b :: rest) pos) (tT cA fz M W mb)) : L2.PW X (.BoolOp .Or (a :: b :: rest) pos) (tT cA fz M W (.or ma mb)) :=
  PW.imp (L2.pw_or ha hb) fun σ H Q h => tT.first (k := fun k env h => if k then .ok (.bl true) h else ev M mb env h) h fun ρ env h k H1 rh re g => by
    cases k with
    | false => exact ⟨ρ, env, h, rh, re, g⟩
    | true => obtain ⟨b, e, q⟩ := g.here rh (show RW ρ H1 (.bl true) (.bl true) from rfl); cases e; exact q
theorem k_not (ha : L2.PE X a (tE cA fz M W ma)) : L2.PE X (.UnaryOp .Not a pos) (tE cA fz M W (.not ma)) :=
  PE.imp (L2.pe_not ha) fun σ H Q h => tG.bind h fun ρ env h w v H1 rh re rv g => by
    obtain ⟨z, e, g⟩ := g.of
    cases hk : asBool w with
    | none => rw [hk] at e; cases e
    | some k => rw [hk] at e; cases e; exact ⟨k, asBool_ok hk rv, g.here rh rfl⟩
theorem k_notT (ha : L2.PT X a (tT cA fz M W ma)) : L2.PT X (.UnaryOp .Not a pos) (tT cA fz M W (.not ma)) :=
  PT.imp (L2.pt_not ha) fun σ H Q h => show tT cA fz M W ma σ H _ from tG.bind h fun ρ env h w v H1 rh re rv g => by
    obtain ⟨z, e, g⟩ := g.of
    cases hk : asBool w with
    | none => rw [hk] at e; cases e
    | some k => rw [hk] at e; cases e; obtain ⟨b, e, q⟩ := g.here rh (show RW ρ H1 (.bl (!k)) (.bl (!k)) from rfl); cases e; exact ⟨k, asBool_ok hk rv, q⟩
theorem k_ife (hc : L2.PT X c (tT cA fz M W mc)) (ha : L2.PE X a (tE cA fz M W ma)) (hb : L2.PE X b (tE cA fz M W mb)) : L2.PE X (.IfExp c a b pos) (tE cA fz M W (.ife mc ma mb)) :=
  PE.imp (L2.pe_ifExp hc ha hb) fun σ H Q h => show tT cA fz M W mc σ H _ from tG.bind h fun ρ env h w v H1 rh re rv g => by
    obtain ⟨k, e, g⟩ := g.thenO
    refine ⟨k, asBool_ok e rv, ?_⟩
    cases k with
    | true => exact ⟨ρ, env, h, rh, re, g⟩
    | false => exact ⟨ρ, env, h, rh, re, g⟩
/-! ### items, slices, lists of expressions -/
theorem k_ix (hu : X.A.units + 64 < cLine) (ha : L2.PE X a (tE cA fz M W ma)) (hb : L2.PE X b (tE cA fz M W mb)) (hs : L2.PlainIx b) : L2.PE X (.Subscript a b pos) (tE cA fz M W (.ix ma mb)) :=
  PE.imp (L2.pe_ix (item_ok (cA := cA) hu) ha hb hs) fun σ H Q h => tG.bind h fun ρ env h w v H1 rh re rv g =>
    ⟨ρ, env, h, rh, re, g.bind fun u h2 ρ2 v2 H2 _ x rh2 ru g2 => by
      obtain ⟨z, e, g2⟩ := g2.of
      exact ⟨ρ2, _, h2, w, u, z, rh2, rv.ext x, ru, e, fun v r => g2.here rh2 r⟩⟩
theorem k_po (ha : ∀ e m, a = e → ma = m → L2.PE X e (tE cA fz M W m)) : L2.PO X (some a) (tO cA fz M W (some ma)) :=
  PO.imp (L2.po_some (ha a ma rfl rfl)) fun σ H Q h => tG.bind (k := fun x _ h => part x h) h fun ρ env h w v H1 rh re rv g => by
    unfold part at g
    split at g
    · cases rv; exact ⟨_, rfl, g.here rh rfl⟩
    · exact g.elim
theorem k_po0 : L2.PO X none (tO cA fz M W none) := PO.imp L2.po_none fun σ H Q ⟨ρ, env, h, rh, re, g⟩ => g.here rh rfl
theorem k_sl {lo hi : Option Expr} {ml mh : Option Ex} (ha : L2.PE X a (tE cA fz M W ma)) (hl : L2.PO X lo (tO cA fz M W ml)) (hh : L2.PO X hi (tO cA fz M W mh)) : L2.PE X (.Subscript a (.Slice lo hi none p2) pos) (tE cA fz M W (.sl ma ml mh)) :=
  PE.imp (L2.pe_slice (slice_ok (cA := cA) (lk := fz)) ha hl hh) fun σ H Q h => tG.bind h fun ρ env h w v H1 rh re rv g =>
    ⟨ρ, env, h, rh, re, g.bind fun u h2 ρ2 v2 H2 _ x rh2 ru g2 => ⟨ρ2, env, h2, rh2, re.ext x, g2.bind fun t h3 ρ3 v3 H3 _ x3 rh3 rt g3 => by
      cases ru; cases rt
      exact ⟨ρ3, h3, w, _, rh3, (rv.ext x).ext x3, g3⟩⟩⟩
theorem k_nil : L2.PA X [] (tA cA fz M W []) := PA.imp L2.pa_nil fun σ H Q ⟨ρ, env, h, rh, re, g⟩ => g.here rh rfl
theorem k_cons {es : List Expr} {ms : List Ex} (ha : L2.PE X a (tE cA fz M W ma)) (hr : L2.PA X es (tA cA fz M W ms)) (hs : starEach (a :: es) X.env = (false, eval a X.env) :: starEach es X.env) : L2.PA X (a :: es) (tA cA fz M W (ma :: ms)) :=
  PA.imp (L2.pa_cons ha hr hs) fun σ H Q h => tG.bind h fun ρ env h w v H1 rh re rv g =>
    ⟨ρ, env, h, rh, re, g.bind fun u h2 ρ2 v2 H2 _ x rh2 ru g2 => g2.here rh2 ⟨v, v2, rfl, rv.ext x, ru⟩⟩
theorem k_tup {es : List Expr} {ms : List Ex} {x1 : Nat} (h : L2.PA X es (tA cA fz M W ms)) (hl : ms.length ≤ 1000) : L2.PE X (.Tuple es x1 pos) (tE cA fz M W (.tup ms)) :=
  PE.imp (L2.pe_tup h) fun σ H Q h => tG.bindE h fun ρ env h h0 w v H1 e rh re rv g => ⟨by rw [← rv.length, evs_len e]; exact Nat.le_trans hl (by rw [sizeLine_eq]; decide), mk_tup g rh rv⟩
theorem k_lst {es : List Expr} {ms : List Ex} (h : L2.PA X es (tA cA fz M W ms)) (hl : ms.length ≤ 1000) : L2.PE X (.List es pos) (tE cA fz M W (.lst ms)) :=
  PE.imp (L2.pe_lst h) fun σ H Q h => tG.bindE h fun ρ env h h0 w v H1 e rh re rv g => ⟨by rw [← rv.length, evs_len e]; exact Nat.le_trans hl (by rw [sizeLine_eq]; decide), mk_lst g rh rv⟩
end
end MP

namespace MP
open PySem PySem.Spec PyProof.Rows
/-! ### built-in functions by values -/
def rBlt (cA : CA) (lk : List Nat) (b : Blt) : List Vv → HH → L2.VK → Prop := fun vs H Q => ∃ ρ h ws E, RH cA ρ (· ∈ lk) h H ∧ RWs ρ H ws vs ∧ Good cA lk RW (blt b ws h) ρ H Q E
section
variable {cA : CA} {Y : L2.Cx} {L : Nat → Prop} {lk : List Nat} {ρ : List Addr} {H : HH} {h : Hp} {pins : List (Addr × Obj)} {s : Shared} {σ : L2.St} {f : Value}
theorem rws1 {w : MP.W} {vs : List Vv} (r : RWs ρ H [w] vs) : ∃ v, vs = [v] ∧ RW ρ H w v := by
  obtain ⟨v, t, rfl, r1, r2⟩ := r
  cases r2
  exact ⟨v, rfl, r1⟩
theorem rws2 {w u : MP.W} {vs : List Vv} (r : RWs ρ H [w, u] vs) : ∃ v t, vs = [v, t] ∧ RW ρ H w v ∧ RW ρ H u t := by
  obtain ⟨v, _, rfl, r1, r2⟩ := r
  obtain ⟨t, rfl, r3⟩ := rws1 r2
  exact ⟨v, t, rfl, r1, r3⟩
theorem RWs.intsOf {ws : List MP.W} {ns : List Int} (e : intsV ws = some ns) {vs : List Vv} (r : RWs ρ H ws vs) : vs = ns.map .int := by
  induction ws generalizing ns vs with
  | nil => cases e; cases r; rfl
  | cons w ws ih =>
    obtain ⟨v, t, rfl, r1, r2⟩ := r
    cases w with
    | int i =>
      unfold intsV at e
      cases h : intsV ws with
      | none => rw [h] at e; cases e
      | some l => rw [h] at e; cases e; cases r1; rw [ih h r2]; rfl
    | _ => simp [intsV] at e
theorem blt_len : L2.CallR Y (.builtin "len") (rBlt cA lk .len) := by
  intro pins s σ H xs us Q I r ⟨ρ, h, ws, E, rh, rw', g⟩
  match ws, rw', g with
  | [], _, g => exact g.elim
  | _ :: _ :: _, _, g => exact g.elim
  | [x], rw', g =>
    have g : Good cA lk RW (.of ((lenW x h).map fun n => MP.W.int (n : Int)) h) ρ H Q E := g
    obtain ⟨v, rfl, rv⟩ := rws1 rw'
    obtain ⟨z, e, g⟩ := g.of
    cases hn : lenW x h with
    | none => rw [hn] at e; cases e
    | some n =>
      rw [hn] at e
      cases e
      cases x with
      | str cs =>
        cases hn
        obtain ⟨hl, rfl⟩ := rv
        exact L2.call_len_str pins s σ H _ us Q I r ⟨_, rfl, Nat.le_trans hl line_le, g.here rh rfl⟩
      | tup xs =>
        cases hn
        obtain ⟨p, vs, rfl, hp, rr⟩ := rv
        have gq := g.here rh (show RW ρ H (.int _) _ from rfl)
        rw [rr.length] at gq
        exact L2.call_len_seq pins s σ H _ us Q I r ⟨p, vs, rfl, .inr (.of hp), gq⟩
      | ref n0 =>
        obtain ⟨p, rfl, hp⟩ := rv
        have hn : lenO (rd h n0) = some n := hn
        unfold lenO at hn
        split at hn
        · rename_i e1
          cases hn
          obtain ⟨p', hp', vs, rr, at1⟩ := rh.get e1
          rw [hp] at hp'; cases hp'
          have gq := g.here rh (show RW ρ H (.int _) _ from rfl)
          rw [rr.length] at gq
          exact L2.call_len_seq pins s σ H _ us Q I r ⟨p, vs, rfl, .inl at1.seqL, gq⟩
        · rename_i kvs e1
          cases hn
          obtain ⟨p', hp', rr⟩ := rh.get e1
          rw [hp] at hp'; cases hp'
          obtain ⟨u, rfl, rx⟩ := L2.vals1 r
          obtain rfl : u = Value.ref p := rx
          have gq := g.here rh (show RW ρ H (.int _) _ from rfl)
          rcases rr with ⟨ks, rr, nd, at1⟩ | ⟨ks, rr, nd, at1⟩
          · refine L2.d_len I at1.rd fun t s' I' => ⟨.int ks.length, H, I', ⟨t, rfl⟩, ?_⟩
            rw [← Paired.length rr]; exact gq
          · obtain ⟨z, hd, ys, rel, dd⟩ := L2.dt_rd I.hok at1.rd
            have hl : ks.length = ys.length := Paired.length rel
            refine call_len_dictH hd dd (by rw [← hl]; rw [sizeLine_eq] at z; omega) ?_
            rw [← hl, ← Paired.length rr]
            exact ⟨.int _, H, I.tok _, ⟨_, rfl⟩, gq⟩
        · cases hn
      | _ => cases hn
theorem blt_divmod : L2.CallR Y (.builtin "divmod") (rBlt cA lk .divmod) := by
  intro pins s σ H xs us Q I r ⟨ρ, h, ws, E, rh, rw', g⟩
  match ws, rw', g with
  | [], _, g => exact g.elim
  | [.non], _, g => exact g.elim
  | [x], rw', g => cases x <;> exact g.elim
  | x :: y :: _ :: _, _, g => cases x <;> cases y <;> exact g.elim
  | [x, y], rw', g =>
    cases x with
    | int i =>
      cases y with
      | int j =>
        obtain ⟨v, t, rfl, rv, rt⟩ := rws2 rw'
        have g : Good cA lk RW (guardR (divOk j) (.ok (.tup [.int (i / j), .int (i % j)]) h)) ρ H Q E := g
        cases rv; cases rt
        obtain ⟨e, g⟩ := g.guardR
        have c := divOk_ok (i := i) e
        refine L2.call_divmodW pins s σ H _ us Q I r ⟨_, _, rfl, ⟨c.1, PyProof.noPylong_of_log2 c.2⟩, mk_tup g rh ⟨_, _, rfl, rfl, _, _, rfl, rfl, rfl⟩⟩
      | _ => exact g.elim
    | _ => cases y <;> exact g.elim
theorem blt_int : L2.CallR Y (.type "int") (rBlt cA lk .int) := by
  intro pins s σ H xs us Q I r ⟨ρ, h, ws, E, rh, rw', g⟩
  match ws, rw', g with
  | [], _, g => exact g.elim
  | x :: _ :: _, _, g => cases x <;> exact g.elim
  | [x], rw', g =>
    obtain ⟨v, rfl, rv⟩ := rws1 rw'
    cases x with
    | int i =>
      cases rv
      exact L2.call_int1 pins s σ H _ us Q I r (.inl ⟨_, rfl, Good.here (w := MP.W.int i) g rh rfl⟩)
    | bl b =>
      cases rv
      exact L2.call_int1 pins s σ H _ us Q I r (.inr ⟨_, rfl, Good.here (w := MP.W.int (if b then 1 else 0)) g rh rfl⟩)
    | _ => exact g.elim
theorem blt_min2 (hc : Y.calm = true) : L2.CallR Y (.builtin "min") (rBlt cA lk .min2) := by
  intro pins s σ H xs us Q I r ⟨ρ, h, ws, E, rh, rw', g⟩
  match ws, rw', g with
  | [], _, g => exact g.elim
  | [x], _, g => cases x <;> exact g.elim
  | x :: y :: _ :: _, _, g => cases x <;> first | exact g.elim | (cases y <;> exact g.elim)
  | [x, y], rw', g =>
    cases x with
    | int i =>
      cases y with
      | int j =>
        obtain ⟨v, t, rfl, rv, rt⟩ := rws2 rw'
        cases rv; cases rt
        exact L2.call_min2 hc pins s σ H _ us Q I r ⟨_, _, rfl, Good.here (w := MP.W.int (if j < i then j else i)) g rh rfl⟩
      | _ => exact g.elim
    | _ => cases y <;> exact g.elim
theorem blt_max2 (hc : Y.calm = true) : L2.CallR Y (.builtin "max") (rBlt cA lk .max2) := by
  intro pins s σ H xs us Q I r ⟨ρ, h, ws, E, rh, rw', g⟩
  match ws, rw', g with
  | [], _, g => exact g.elim
  | [x], _, g => cases x <;> exact g.elim
  | x :: y :: _ :: _, _, g => cases x <;> first | exact g.elim | (cases y <;> exact g.elim)
  | [x, y], rw', g =>
    cases x with
    | int i =>
      cases y with
      | int j =>
        obtain ⟨v, t, rfl, rv, rt⟩ := rws2 rw'
        cases rv; cases rt
        exact L2.call_max2 hc pins s σ H _ us Q I r ⟨_, _, rfl, Good.here (w := MP.W.int (if i < j then j else i)) g rh rfl⟩
      | _ => exact g.elim
    | _ => cases y <;> exact g.elim
end
end MP

namespace MP
open PySem PySem.Spec PyProof.Rows
/-! ### classes; isinstance -/
def tyNames : List String := ["int", "bool", "str", "list", "tuple", "dict"]
/-- what the text's classes must have -/
structure CF (cA : CA) (T : Prog) (K : PySem.W.Frag) : Prop where
  cls : ∀ c ∈ cA.cls, L2.Cls K (cA.ad c)
  ins : ∀ c ∈ cA.cls, PySem.W.findIn K (.ref (cA.ad c)) "__class__" = some (some (.builtin "object.__class__")) ∧ PySem.W.specialIn K (.builtin "object.__class__") "__get__" = some (some (.builtin "getset_descriptor.__get__")) ∧
    PySem.W.takesIn K (.builtin "object.__class__") = some true ∧ PySem.W.mroIn K (cA.ad c) (.type "object") = some true
  isB : ∀ c ∈ cA.cls, ∀ n ∈ tyNames, PySem.W.kitOne K (.ref (cA.ad c)) (.type n) = some false
  isV : ∀ n ∈ "NoneType" :: tyNames, ∀ c ∈ cA.cls, PySem.W.kitOne K (.type n) (.ref (cA.ad c)) = some false
  isO : ∀ d ∈ cA.cls, ∀ c ∈ cA.cls, PySem.W.kitOne K (.ref (cA.ad d)) (.ref (cA.ad c)) = some (T.sub d c)
def tyC (cA : CA) : Ty → Value
  | .int => .type "int" | .bool => .type "bool" | .str => .type "str" | .list => .type "list" | .tuple => .type "tuple" | .dict => .type "dict"
  | .own c => .ref (cA.ad c)
def tyV (cA : CA) : Ty → Vv
  | .int => .ty "int" | .bool => .ty "bool" | .str => .ty "str" | .list => .ty "list" | .tuple => .ty "tuple" | .dict => .ty "dict"
  | .own c => .ref (cA.ad c)
def tyOk (cA : CA) : Ty → Bool
  | .own c => decide (c ∈ cA.cls)
  | _ => true
theorem tyC_rel (cA : CA) (t : Ty) : L2.RelV (tyV cA t) (tyC cA t) := by cases t <;> rfl
theorem tyC_inj (cA : CA) (t : Ty) {u : Value} (r : L2.RelV (tyV cA t) u) : u = tyC cA t := by cases t <;> exact r
theorem kit_b {K : PySem.W.Frag} {a b : String} {r : Bool} (h : L2.kitB a b = some r) : PySem.W.kitOne K (.type a) (.type b) = some r := L2.kit_ty h
section
variable {cA : CA} {T : Prog} {Y : L2.Cx} {L : Nat → Prop} {lk : List Nat} {ρ : List Addr} {H : HH} {h : Hp} {pins : List (Addr × Obj)} {s : Shared} {σ : L2.St}
/-- a value's type, as the machine sees it -/
theorem kit_of (F : CF cA T Y.K) (I : L2.Inv Y pins σ H s) (rh : RH cA ρ L h H) {w : MP.W} {v : Vv} {u : Value} (r : RW ρ H w v) (q : L2.RelV v u) {t : Ty} {b : Bool} (ht : tyOk cA t = true) (e : isTy T w t h = some b) :
    ∃ (tv : Value) (P : Heap → Prop), PySem.W.KitX Y.K u tv P ∧ P s.heap ∧ u ≠ .builtin "__main__.__loader__#opaque" ∧ PySem.W.kitOne Y.K tv (tyC cA t) = some b := by
  have own : ∀ {c : String}, tyOk cA (.own c) = true → c ∈ cA.cls := fun h => of_decide_eq_true h
  cases w with
  | non =>
    cases r; cases q
    refine ⟨_, _, PySem.W.kitx_none, True.intro, (fun z => nomatch z), ?_⟩
    cases t <;> cases e <;> first | exact kit_b (by decide +kernel) | exact F.isV _ (by decide) _ (own ht)
  | bl x =>
    cases r; cases q
    refine ⟨_, _, PySem.W.kitx_bool, True.intro, (fun z => nomatch z), ?_⟩
    cases t <;> cases e <;> first | exact kit_b (by decide +kernel) | exact F.isV _ (by decide) _ (own ht)
  | int x =>
    cases r; obtain ⟨tk, rfl⟩ := q
    refine ⟨_, _, PySem.W.kitx_int, True.intro, (fun z => nomatch z), ?_⟩
    cases t <;> cases e <;> first | exact kit_b (by decide +kernel) | exact F.isV _ (by decide) _ (own ht)
  | str x =>
    obtain ⟨_, rfl⟩ := r; obtain ⟨tk, rfl⟩ := q
    refine ⟨_, _, PySem.W.kitx_str, True.intro, (fun z => nomatch z), ?_⟩
    cases t <;> cases e <;> first | exact kit_b (by decide +kernel) | exact F.isV _ (by decide) _ (own ht)
  | tup xs =>
    obtain ⟨a, vs, rfl, ha, _⟩ := r
    cases (show u = Value.ref a from q)
    obtain ⟨_, _, _, o, h1, h2, _⟩ := I.hok a _ ha
    refine ⟨_, _, PySem.W.kitx_tuple, ⟨o, h1, h2⟩, (fun z => nomatch z), ?_⟩
    cases t <;> cases e <;> first | exact kit_b (by decide +kernel) | exact F.isV _ (by decide) _ (own ht)
  | ref n =>
    obtain ⟨a, rfl, ha⟩ := r
    cases (show u = Value.ref a from q)
    have hl : n < h.length := by rw [← rh.len]; exact ix_lt ha
    have hr : rd h n = some h[n] := List.getElem?_eq_getElem hl
    obtain ⟨a', ha', ro⟩ := rh.get hr
    rw [ha] at ha'; cases ha'
    cases ho : h[n] with
    | lst xs =>
      rw [ho] at ro hr
      obtain ⟨vs, rr, at1⟩ := ro
      obtain ⟨_, _, _, _, h1⟩ := at1.rd.ok I.hok
      refine ⟨_, _, PySem.W.kitx_list, ⟨_, h1, rfl⟩, (fun z => nomatch z), ?_⟩
      cases t <;> simp only [isTy, hr, isLst, isDct, isOwn] at e <;> cases e <;> first | exact kit_b (by decide +kernel) | exact F.isV _ (by decide) _ (own ht)
    | dct kvs =>
      rw [ho] at ro hr
      have : ∃ o, s.heap.get? a = some o ∧ o.cls = .type "dict" := by
        rcases ro with ⟨ks, _, _, at1⟩ | ⟨ks, _, _, at1⟩
        · obtain ⟨_, _, _, _, o, _, _, h1, h2, _⟩ := at1.rd.ok I.hok
          exact ⟨o, h1, h2.1⟩
        · obtain ⟨_, _, _, _, o, _, _, h1, h2, _⟩ := at1.rd.ok I.hok
          exact ⟨o, h1, h2.1⟩
      refine ⟨_, _, PySem.W.kitx_dict, this, (fun z => nomatch z), ?_⟩
      cases t <;> simp only [isTy, hr, isLst, isDct, isOwn] at e <;> cases e <;> first | exact kit_b (by decide +kernel) | exact F.isV _ (by decide) _ (own ht)
    | ins c fs =>
      rw [ho] at ro hr
      obtain ⟨dx, gs, hc, hi, rf⟩ := ro
      obtain ⟨mA, O, _⟩ := L2.ins_get I.hok hi
      obtain ⟨od, J, _⟩ := O.look
      obtain ⟨i1, i2, i3, i4⟩ := F.ins c hc
      refine ⟨_, _, PySem.W.kitx_own ((F.cls c hc).get _) (F.cls c hc).hd i1 i2 i3 i4, J, (fun z => nomatch z), ?_⟩
      cases t <;> simp only [isTy, hr, isLst, isDct, isOwn] at e <;> cases e <;> first | exact F.isB c hc _ (by decide) | exact F.isO c hc _ (own ht)
/-- isinstance by values -/
def rIsi (cA : CA) (T : Prog) (t : Ty) : List Vv → HH → L2.VK → Prop := fun vs H Q => ∃ ρ L h w v b, RH cA ρ L h H ∧ RW ρ H w v ∧ vs = [v, tyV cA t] ∧ isTy T w t h = some b ∧ Q (.bl b) H
theorem call_isi (F : CF cA T Y.K) {t : Ty} (ht : tyOk cA t = true) : L2.CallR Y (.builtin "isinstance") (rIsi cA T t) := by
  intro pins s σ H xs us Q I r ⟨ρ, L, h, w, v, b, rh, rv, e1, e, q⟩
  subst e1
  obtain ⟨u1, u2, rfl, r1, r2⟩ := L2.vals2 r
  cases tyC_inj cA t r2
  obtain ⟨tv, P, Z, p, hx, k⟩ := kit_of F I rh rv r1 ht e
  exact PySem.W.kia_one Z I.kIn p k hx fun tk => ⟨.bl b, H, I.tok tk, rfl, q⟩
end
section
variable {cA : CA} {fz : List Nat} {M : Cx} {W : L2.WX} {X : L2.Cx} {pos p2 p : Pos} {a : Expr} {ma : Ex}
theorem k_isi {t : Ty} {x : Str} {c : Expr} (F : CF cA M.T X.K) (ht : tyOk cA t = true) (hg : L2.Gl X x) (hm : X.mg x = none) (hv : bootBuiltins x = some (.builtin "isinstance")) (hn : x ≠ "__name__") (hdb : (x == ("__debug__" : Str)) = false)
    (ha : L2.PE X a (tE cA fz M W ma)) (hc : L2.PE X c (L2.tC (tyV cA t))) (he : starEach [a, c] X.env = (false, eval a X.env) :: starEach [c] X.env) (he2 : starEach [c] X.env = (false, eval c X.env) :: starEach [] X.env) (hpl : (backTo pos (starEach [c] X.env)).any (·.1) = false) :
    L2.PE X (.Call (.Name x p) [a, c] [] pos) (tE cA fz M W (.isi ma t)) :=
  PE.imp (L2.pe_callB (call_isi F ht) hg hm hv (L2.pa_cons ha (L2.pa_cons hc L2.pa_nil he2) he) hn hdb he hpl) fun σ H Q h => tG.bind h fun ρ env h w v H1 rh re rv g => by
    obtain ⟨z, e, g⟩ := g.of
    cases hk : isTy M.T w t h with
    | none => rw [hk] at e; cases e
    | some k => rw [hk] at e; cases e; exact ⟨ρ, _, h, w, v, k, rh, rv, rfl, hk, g.here rh rfl⟩
theorem k_bltn {b : Blt} {id : String} {x : Str} {es : List Expr} {ms : List Ex} (hc : L2.CallR X (.builtin id) (rBlt cA fz b)) (hg : L2.Gl X x) (hm : X.mg x = none) (hv : bootBuiltins x = some (.builtin id)) (hn : x ≠ "__name__") (hdb : (x == ("__debug__" : Str)) = false)
    (ha : L2.PA X (a :: es) (tA cA fz M W ms)) (he : starEach (a :: es) X.env = (false, eval a X.env) :: starEach es X.env) (hpl : (backTo pos (starEach es X.env)).any (·.1) = false) : L2.PE X (.Call (.Name x p) (a :: es) [] pos) (tE cA fz M W (.blt b ms)) :=
  PE.imp (L2.pe_callB hc hg hm hv ha hn hdb he hpl) fun σ H Q h => tG.bind h fun ρ env h w v H1 rh re rv g => ⟨ρ, h, w, _, rh, rv, g⟩
theorem k_bltt {b : Blt} {id : String} {x : Str} {es : List Expr} {ms : List Ex} (hc : L2.CallR X (.type id) (rBlt cA fz b)) (hg : L2.Gl X x) (hm : X.mg x = none) (hv : bootBuiltins x = some (.type id)) (hn : x ≠ "__name__") (hdb : (x == ("__debug__" : Str)) = false)
    (ha : L2.PA X (a :: es) (tA cA fz M W ms)) (he : starEach (a :: es) X.env = (false, eval a X.env) :: starEach es X.env) (hpl : (backTo pos (starEach es X.env)).any (·.1) = false) : L2.PE X (.Call (.Name x p) (a :: es) [] pos) (tE cA fz M W (.blt b ms)) :=
  PE.imp (L2.pe_callTy hc hg hm hv ha hn hdb he hpl) fun σ H Q h => tG.bind h fun ρ env h w v H1 rh re rv g => ⟨ρ, h, w, _, rh, rv, g⟩
/-! ### calls of the text's own defs -/
/-- what a def of the text promises: n calls within one another -/
def spI (cA : CA) (T : Prog) (n : Nat) (f : String) : L2.Sp := fun vs H Q E => ∃ ρ fz lk h ws, (∀ n ∈ fz, n ∈ lk) ∧ RH cA ρ (· ∈ fz) h H ∧ RWs ρ H ws vs ∧ Good cA fz RW (run T n lk f ws h) ρ H Q E
/-- the def f of the text stands at a -/
structure FnAt (cA : CA) (T : Prog) (P : Program) (w : World) (K : PySem.W.Frag) (mg : Str → Option Value) (base : Heap) (n : Nat) (f : String) (a : Addr) (fd : FuncData) (ps : List Str) : Prop where
  ok : L2.FnOk P w K mg base (L2.CX P w) (2 * n) a fd ps (spI cA T n f) ∧ L2.Binds K fd ps []
  kp : PySem.W.keepIn K (.ref a) = true
theorem k_call {f : String} {n : Nat} {fa : Addr} {fd : FuncData} {ps : List Str} {x : Str} {es : List Expr} {ms : List Ex} (hz : ∀ n ∈ fz, n ∈ M.lk) (hM : M.call = run M.T n) (F : FnAt cA M.T X.prog X.w X.K X.mg X.base n f fa fd ps) (hr : L2.Room (2 * n) X.A) (tk : L2.Takes X W) (hg : L2.Gl X x) (hm : X.mg x = some (.ref fa)) (hdb : (x == ("__debug__" : Str)) = false)
    (ha : L2.PA X (a :: es) (tA cA fz M W ms)) (he : starEach (a :: es) X.env = (false, eval a X.env) :: starEach es X.env) (hpl : (backTo pos (starEach es X.env)).any (·.1) = false) : L2.PE X (.Call (.Name x p) (a :: es) [] pos) (tE cA fz M W (.call f ms)) := by
  obtain ⟨F1, B⟩ := F.ok
  exact PE.imp (L2.pe_callS (E := L2.WE W) F1 hr hg hm F.kp B (fun σ => L2.passAt tk σ) ha hdb he hpl) fun σ H Q h => tG.bind h fun ρ env h w v H1 rh re rv g => by
    rw [hM] at g
    exact ⟨ρ, fz, M.lk, h, w, hz, rh, rv, g⟩
/-- a call of nothing -/
theorem k_call0 {f : String} {n : Nat} {fa : Addr} {fd : FuncData} {ps : List Str} {x : Str} (hz : ∀ n ∈ fz, n ∈ M.lk) (hM : M.call = run M.T n) (F : FnAt cA M.T X.prog X.w X.K X.mg X.base n f fa fd ps) (hr : L2.Room (2 * n) X.A) (tk : L2.Takes X W) (hg : L2.Gl X x) (hm : X.mg x = some (.ref fa)) (hdb : (x == ("__debug__" : Str)) = false) :
    L2.PE X (.Call (.Name x p) [] [] pos) (tE cA fz M W (.call f [])) := by
  obtain ⟨F1, B⟩ := F.ok
  have k : L2.PE X (.Call (.Name x p) [] [] pos) (L2.tCallS (spI cA M.T n f) (L2.WE W) L2.tNil) :=
    ⟨fun pins s σ H Q I h => wpAny_Call_Name_kw (L2.ld_glob I hg hm (PySem.W.callWith_K0 I.kIn F.kp (L2.run_fnS (us := []) F1 hr B (L2.passAt tk σ) I .nil h)) hdb)⟩
  exact PE.imp k fun σ H Q ⟨ρ, env, h, rh, re, g⟩ => by
    have g : Good cA fz RW (M.call M.lk f [] h) ρ H Q (L2.WE W σ) := g
    rw [hM] at g
    exact ⟨ρ, fz, M.lk, h, [], hz, rh, rfl, g⟩
end
end MP

namespace MP
open PySem PySem.Spec PyProof.Rows
/-! ### statements as readings -/
def GoodF (cA : CA) (lk : List Nat) (f : Fl) (h' : Hp) (ρ : List Addr) (H : HH) (D : L2.Ends) : Prop :=
  ∀ ρ' σ' H', Ext ρ ρ' H H' → RH cA ρ' (· ∈ lk) h' H' → match f with
    | .nx env' => RE ρ' H' env' σ' → D.nx σ' H'
    | .bk env' => RE ρ' H' env' σ' → D.bk σ' H'
    | .ct env' => RE ρ' H' env' σ' → D.ct σ' H'
    | .rt w => ∀ v, RW ρ' H' w v → D.rt v H'
def GoodS (cA : CA) (lk : List Nat) (r : S) (ρ : List Addr) (H : HH) (D : L2.Ends) (W : L2.WX) : Prop :=
  match r with
  | .ok f h' => GoodF cA lk f h' ρ H D
  | .exc x env' h' => ∀ ρ' cls d σ' H', Ext ρ ρ' H H' → RH cA ρ' (fun _ => True) h' H' → RX cA ρ' H' x cls d → RE ρ' H' env' σ' → W cls d σ' H'
  | .bad => False
def tS (cA : CA) (fz : List Nat) (W : L2.WX) (f : Env → Hp → S) : L2.TS := fun D σ H => ∃ ρ env h, RH cA ρ (· ∈ fz) h H ∧ RE ρ H env σ ∧ GoodS cA fz (f env h) ρ H D W
theorem PS.imp {X : L2.Cx} {e : Stmt} {t t' : L2.TS} (h : L2.PS X e t) (k : ∀ D σ H, t' D σ H → t D σ H) : L2.PS X e t' := ⟨fun pins s σ H D I q => h.run pins s σ H D I (k _ _ _ q)⟩
theorem PSs.imp {X : L2.Cx} {e : List Stmt} {t t' : L2.TS} (h : L2.PSs X e t) (k : ∀ D σ H, t' D σ H → t D σ H) : L2.PSs X e t' := ⟨fun pins s σ H D I q => h.run pins s σ H D I (k _ _ _ q)⟩
section
variable {α β : Type} {cA : CA} {fz : List Nat} {W : L2.WX} {ρ ρ1 : List Addr} {H H1 : HH} {D : L2.Ends} {R1 : Rel α β} {σ : L2.St}
theorem GoodS.ext {r : S} (g : GoodS cA fz r ρ H D W) (x : Ext ρ ρ1 H H1) : GoodS cA fz r ρ1 H1 D W := by
  cases r with
  | bad => exact g
  | ok f h => exact fun ρ' σ' H' e => g ρ' σ' H' (x.trans e)
  | exc y env h => exact fun ρ' c d σ' H' e => g ρ' c d σ' H' (x.trans e)
theorem GoodS.on {r : MP.R α} {env : Env} {f : α → Hp → S} {Q : β → HH → Prop} (g : GoodS cA fz (r.on env f) ρ H D W) (re : RE ρ H env σ)
    (k : ∀ w h1 ρ1 v H1, r = .ok w h1 → Ext ρ ρ1 H H1 → RH cA ρ1 (· ∈ fz) h1 H1 → R1 ρ1 H1 w v → RE ρ1 H1 env σ → GoodS cA fz (f w h1) ρ1 H1 D W → Q v H1) : Good cA fz R1 r ρ H Q (L2.WE W σ) := by
  cases r with
  | bad => exact g
  | ok w h => exact fun ρ1 v H1 e rh rel => k w h ρ1 v H1 rfl e rh rel (re.ext e) (GoodS.ext (r := f w h) g e)
  | exc y h => exact fun ρ' c d H' e rh rx => g ρ' c d σ H' e rh rx (re.ext e)
theorem tS.on {f : Env → Hp → MP.R α} {k : α → Env → Hp → S} {Q : β → HH → Prop} {H : HH} (h : tS cA fz W (fun env h => (f env h).on env fun w h => k w env h) D σ H)
    (c : ∀ ρ env h w v H1, RH cA ρ (· ∈ fz) h H1 → RE ρ H1 env σ → R1 ρ H1 w v → GoodS cA fz (k w env h) ρ H1 D W → Q v H1) : tG cA fz W R1 f σ H Q := by
  obtain ⟨ρ, env, h, rh, re, g⟩ := h
  exact ⟨ρ, env, h, rh, re, g.on re fun w h1 ρ1 v H1 _ x rh1 rv re1 g1 => c ρ1 env h1 w v H1 rh1 re1 rv g1⟩
theorem GoodS.thenS {o : Option α} {f : α → S} (g : GoodS cA fz (thenS o f) ρ H D W) : ∃ w, o = some w ∧ GoodS cA fz (f w) ρ H D W := by
  cases o with
  | none => exact g.elim
  | some w => exact ⟨w, rfl, g⟩
theorem GoodS.nx {env : Env} {h : Hp} (g : GoodS cA fz (.ok (.nx env) h) ρ H D W) (rh : RH cA ρ (· ∈ fz) h H) (re : RE ρ H env σ) : D.nx σ H := g ρ σ H .refl rh re
/-- behind a statement: the rest, wherever it went -/
theorem GoodS.then {r : S} {f : Env → Hp → S} (g : GoodS cA fz (r.then f) ρ H D W) : GoodS cA fz r ρ H { D with nx := tS cA fz W f D } W := by
  cases r with
  | bad => exact g
  | exc y env h => exact g
  | ok fl h =>
    cases fl with
    | nx env => exact fun ρ' σ' H' x rh re => ⟨ρ', env, h, rh, re, GoodS.ext (r := f env h) g x⟩
    | bk env => exact g
    | ct env => exact g
    | rt w => exact g
/-- behind a turn -/
theorem GoodS.turn {r : S} {f : Env → Hp → S} {lk : List Nat} {h0 : Hp} (g : GoodS cA fz (r.turn f) ρ H D W) (kp : SK lk h0 r) :
    GoodS cA fz r ρ H ⟨fun σ' H' => ∃ ρ' env h, Ext ρ ρ' H H' ∧ Kp lk h0 h ∧ RH cA ρ' (· ∈ fz) h H' ∧ RE ρ' H' env σ' ∧ GoodS cA fz (f env h) ρ' H' D W, D.rt, D.nx, fun σ' H' => ∃ ρ' env h, Ext ρ ρ' H H' ∧ Kp lk h0 h ∧ RH cA ρ' (· ∈ fz) h H' ∧ RE ρ' H' env σ' ∧ GoodS cA fz (f env h) ρ' H' D W⟩ W := by
  cases r with
  | bad => exact g
  | exc y env h => exact g
  | ok fl h =>
    cases fl with
    | nx env => exact fun ρ' σ' H' x rh re => ⟨ρ', env, h, x, kp, rh, re, GoodS.ext (r := f env h) g x⟩
    | ct env => exact fun ρ' σ' H' x rh re => ⟨ρ', env, h, x, kp, rh, re, GoodS.ext (r := f env h) g x⟩
    | bk env => exact g
    | rt w => exact g
end
section
variable {cA : CA} {fz : List Nat} {M : Cx} {W : L2.WX} {X : L2.Cx} {pos p2 : Pos} {a b c : Expr} {ma mb mc : Ex}
abbrev tX (cA : CA) (fz : List Nat) (M : Cx) (W : L2.WX) (m : St) : L2.TS := tS cA fz W (ex M m)
abbrev tXs (cA : CA) (fz : List Nat) (M : Cx) (W : L2.WX) (m : List St) : L2.TS := tS cA fz W (exs M m)
theorem s_nil : L2.PSs X [] (tXs cA fz M W []) := PSs.imp L2.pss_nil fun D σ H ⟨ρ, env, h, rh, re, g⟩ => GoodS.nx (D := D) (W := W) g rh re
theorem s_cons {st : Stmt} {rest : List Stmt} {m : St} {ms : List St} (h1 : L2.PS X st (tX cA fz M W m)) (h2 : L2.PSs X rest (tXs cA fz M W ms)) : L2.PSs X (st :: rest) (tXs cA fz M W (m :: ms)) :=
  PSs.imp (L2.pss_cons h1 h2) fun D σ H ⟨ρ, env, h, rh, re, g⟩ => ⟨ρ, env, h, rh, re, GoodS.then (f := exs M ms) g⟩
theorem s_pass : L2.PS X (.Pass pos) (tX cA fz M W .pass) := PS.imp L2.ps_pass fun D σ H ⟨ρ, env, h, rh, re, g⟩ => GoodS.nx (D := D) (W := W) g rh re
theorem s_brk : L2.PS X (.Break pos) (tX cA fz M W .brk) := PS.imp L2.ps_break fun D σ H ⟨ρ, env, h, rh, re, g⟩ => g ρ σ H .refl rh re
theorem s_cont : L2.PS X (.Continue pos) (tX cA fz M W .cont) := PS.imp L2.ps_continue fun D σ H ⟨ρ, env, h, rh, re, g⟩ => g ρ σ H .refl rh re
theorem s_expr (ha : L2.PE X a (tE cA fz M W ma)) (hs : swapsWith a none pos.line X.env = pure false) : L2.PS X (.Expr a pos) (tX cA fz M W (.expr ma)) :=
  PS.imp (L2.ps_expr ha hs) fun D σ H h => tS.on h fun ρ env h w v H1 rh re rv g => g.nx rh re
theorem s_ret (ha : L2.PE X a (tE cA fz M W ma)) : L2.PS X (.Return (some a) pos) (tX cA fz M W (.ret ma)) :=
  PS.imp (L2.ps_ret ha) fun D σ H h => tS.on h fun ρ env h w v H1 rh re rv g => g ρ σ H1 .refl rh v rv
theorem s_if {p q : List Stmt} {mp mq : List St} (hc : L2.PT X c (tT cA fz M W mc)) (hp : L2.PSs X p (tXs cA fz M W mp)) (hq : L2.PSs X q (tXs cA fz M W mq)) : L2.PS X (.If c p q pos) (tX cA fz M W (.ite mc mp mq)) :=
  PS.imp (L2.ps_if hc hp hq) fun D σ H h => show tT cA fz M W mc σ H _ from tS.on h fun ρ env h w v H1 rh re rv g => by
    obtain ⟨k, e, g⟩ := g.thenS
    refine ⟨k, asBool_ok e rv, ?_⟩
    cases k with
    | true => exact ⟨ρ, env, h, rh, re, g⟩
    | false => exact ⟨ρ, env, h, rh, re, g⟩
/-! ### targets -/
def tgIx : Tg → List Nat
  | .name i => [i]
  | .tup is => is
/-- but for the slots is -/
def SameB (is : List Nat) (σ σ' : L2.St) : Prop := ∀ vs : List Nat, (∀ i ∈ is, i ∈ vs) → L2.wipe σ' vs = L2.wipe σ vs
theorem SameB.set {is : List Nat} {σ : L2.St} {i : Nat} (h : i ∈ is) (o : Option Vv) : SameB is σ (σ.set i o) := fun vs hv => by
  have hi := hv i h
  clear hv
  induction vs with
  | nil => cases hi
  | cons v vs ih =>
    unfold L2.wipe
    by_cases e : i = v
    · subst e
      by_cases hm : i ∈ vs
      · rw [ih hm]
      · have : ∀ (vs : List Nat), i ∉ vs → L2.wipe (σ.set i o) vs = (L2.wipe σ vs).set i o := by
          intro vs
          induction vs with
          | nil => intro _; rfl
          | cons u us ih2 =>
            intro hn
            unfold L2.wipe
            rw [ih2 fun z => hn (List.mem_cons_of_mem _ z), List.set_comm _ _ fun z => hn (by rw [z]; exact List.mem_cons_self)]
        rw [this vs hm, List.set_set]
    · rw [ih ((List.mem_cons.mp hi).resolve_left e)]
theorem SameB.trans {is : List Nat} {σ σ1 σ2 : L2.St} (a : SameB is σ σ1) (b : SameB is σ1 σ2) : SameB is σ σ2 := fun vs hv => (b vs hv).trans (a vs hv)
theorem SameB.mono {is js : List Nat} {σ σ1 : L2.St} (a : SameB is σ σ1) (h : ∀ i ∈ is, i ∈ js) : SameB js σ σ1 := fun vs hv => a vs fun i hi => hv i (h i hi)
def gT (cA : CA) (fz : List Nat) (tg : Tg) : L2.TG := fun v σ H Q => ∃ ρ env h w env', RH cA ρ (· ∈ fz) h H ∧ RE ρ H env σ ∧ RW ρ H w v ∧ bindTg tg w env h = some env' ∧ ∀ σ', RE ρ H env' σ' → SameB (tgIx tg) σ σ' → Q σ' H
theorem PG.imp {X : L2.Cx} {e : Expr} {t t' : L2.TG} (h : L2.PG X e t) (k : ∀ v σ H Q, t' v σ H Q → t v σ H Q) : L2.PG X e t' := ⟨fun pins s σ H v u Q I r q => h.run pins s σ H v u Q I r (k _ _ _ _ q)⟩
theorem g_name {i : Nat} {x : Str} (hN : X.N.Nodup) (hi : X.N[i]? = some x) (hx : L2.Loc X.env.scope x) (hf : X.fn x = true ∨ X.env.scope.names.lookup x = some .local) : L2.PG X (.Name x pos) (gT cA fz (.name i)) :=
  PG.imp (L2.pg_name hN hi hx hf) fun v σ H Q ⟨ρ, env, h, w, env', rh, re, rv, e, q⟩ => by
    cases e
    exact q _ (re.set rv i) (.set (by simp [tgIx]) _)
/-- several names -/
def gTs (cA : CA) (is : List Nat) : L2.TGs := fun vs σ H Q => ∃ ρ env ws env', RE ρ H env σ ∧ RWs ρ H ws vs ∧ setAll env is ws = some env' ∧ ∀ σ', RE ρ H env' σ' → SameB is σ σ' → Q σ' H
theorem PGs.imp {X : L2.Cx} {e : List Expr} {t t' : L2.TGs} (h : L2.PGs X e t) (k : ∀ v σ H Q, t' v σ H Q → t v σ H Q) : L2.PGs X e t' := ⟨fun pins s σ H v u Q I r q => h.run pins s σ H v u Q I r (k _ _ _ _ q)⟩
theorem gs_nil : L2.PGs X [] (gTs cA []) := PGs.imp L2.pgs_nil fun vs σ H Q ⟨ρ, env, ws, env', re, rv, e, q⟩ => by
  cases ws with
  | nil => cases rv; cases e; exact ⟨rfl, q _ re fun _ _ => rfl⟩
  | cons w ws => cases e
theorem gs_cons {i : Nat} {is : List Nat} {x : Str} {es : List Expr} (hN : X.N.Nodup) (hi : X.N[i]? = some x) (hx : L2.Loc X.env.scope x) (hf : X.fn x = true ∨ X.env.scope.names.lookup x = some .local) (h : L2.PGs X es (gTs cA is)) : L2.PGs X (.Name x pos :: es) (gTs cA (i :: is)) :=
  PGs.imp (L2.pgs_cons (L2.pg_name hN hi hx hf) h) fun vs σ H Q ⟨ρ, env, ws, env', re, rv, e, q⟩ => by
    cases ws with
    | nil => cases e
    | cons w ws =>
      obtain ⟨v, r, rfl, r1, r2⟩ := rv
      exact ⟨v, r, rfl, ρ, _, ws, env', re.set r1 i, r2, e, fun σ' re' sb => q σ' re' (SameB.trans (.set List.mem_cons_self _) (sb.mono fun j hj => List.mem_cons_of_mem _ hj))⟩
theorem g_tup {is : List Nat} {es : List Expr} {k : Nat} (hc : X.calm = true) (h : L2.PGs X es (gTs cA is)) (hn : (assignEach es X.env).length = is.length) (hst : (assignEach es X.env).findIdx? (·.1) = none) : L2.PG X (.Tuple es k pos) (gT cA fz (.tup is)) :=
  PG.imp (L2.pg_tup hc h hn hst) fun v σ H Q ⟨ρ, env, h, w, env', rh, re, rv, e, q⟩ => by
    unfold bindTg at e
    unfold itemsV at e
    cases w with
    | tup ws =>
      obtain ⟨a, vs, rfl, ha, rr⟩ := rv
      have e : setAll env is ws = some env' := e
      have hl : ∀ {is : List Nat} {ws : List MP.W} {env : Env}, setAll env is ws = some env' → ws.length = is.length := by
        intro is
        induction is with
        | nil => intro ws env e; cases ws with
          | nil => rfl
          | cons w ws => cases e
        | cons i is ih => intro ws env e; cases ws with
          | nil => cases e
          | cons w ws => rw [List.length_cons, List.length_cons, ih e]
      exact ⟨a, vs, rfl, .of ha, by rw [← rr.length]; exact hl e, ρ, env, ws, env', re, rr, e, q⟩
    | _ => cases e
theorem s_set {tg : Tg} {t : Expr} (ha : L2.PE X a (tE cA fz M W ma)) (hg : L2.PG X t (gT cA fz tg)) (hs : swapsWithSole [t] a pos.line X.env = pure false) (hw : swappedStores [t] a X.env = pure none) (h1 : (assignEach [t] X.env).map (·.2) = [assign t X.env]) :
    L2.PS X (.Assign [t] a pos) (tX cA fz M W (.set (.tg tg) ma)) :=
  PS.imp (L2.ps_asg ha hg hs hw h1) fun D σ H h => tS.on h fun ρ env h w v H1 rh re rv g => by
    obtain ⟨env', e, g⟩ := g.thenS
    exact ⟨ρ, env, h, w, env', rh, re, rv, e, fun σ' re' _ => g.nx rh re'⟩
theorem s_setN {i : Nat} {x : Str} {p' : Pos} (hN : X.N.Nodup) (hi : X.N[i]? = some x) (hx : L2.Loc X.env.scope x) (hf : X.fn x = true ∨ X.env.scope.names.lookup x = some .local) (ha : L2.PE X a (tE cA fz M W ma)) (hs : swapsWith a (some (.Name x p')) pos.line X.env = pure false) :
    L2.PS X (.Assign [.Name x p'] a pos) (tX cA fz M W (.set (.tg (.name i)) ma)) :=
  PS.imp (L2.ps_set hN hi hx ha hs hf) fun D σ H h => tS.on h fun ρ env h w v H1 rh re rv g => by
    obtain ⟨env', e, g⟩ := g.thenS
    cases e
    exact g.nx rh (re.set rv i)
theorem s_aug {i : Nat} {x : Str} {p' : Pos} (hN : X.N.Nodup) (hi : X.N[i]? = some x) (hx : L2.Loc X.env.scope x) (hf : X.fn x = true ∨ X.env.scope.names.lookup x = some .local) (ha : L2.PE X a (tE cA fz M W ma)) :
    L2.PS X (.AugAssign (.Name x p') .Add a pos) (tX cA fz M W (.aug i .add ma)) :=
  PS.imp (L2.ps_aug (ti := L2.rI0 fun i j => .int (i + j)) hN hi hx ha (fun pins s σ H x y v u Q I rx ry q => L2.iop_add pins s σ H x y v u Q I rx ry q) hf) fun D σ H ⟨ρ, env, h, rh, re, g⟩ => by
    simp only [ex] at g
    unfold slot at g
    cases hx : env[i]?.join with
    | none => rw [hx] at g; exact g.elim
    | some w =>
      rw [hx] at g
      simp only [R.of_some, R.on_ok] at g
      have e' : env[i]? = some (some w) := by
        cases hx2 : env[i]? with
        | none => rw [hx2] at hx; cases hx
        | some o => rw [hx2] at hx; have hx : o = some w := hx; rw [hx]
      obtain ⟨v, hv, rv⟩ := re.2 i w e'
      refine ⟨v, hv, ρ, env, h, rh, re, g.on re fun u h1 ρ1 v1 H1 _ x rh1 rv1 re1 g1 => ?_⟩
      unfold ibin at g1
      split at g1
      · cases rv; cases rv1
        refine ⟨_, _, rfl, rfl, ?_⟩
        simp only [R.on_ok] at g1
        exact g1.nx rh1 (re1.set (show RW ρ1 H1 (.int _) _ from rfl) i)
      · exact g1.elim
/-! ### while -/
theorem GoodS.imp {D D' : L2.Ends} {ρ : List Addr} {H : HH} {r : S} (g : GoodS cA fz r ρ H D W) (h1 : ∀ σ H, D.nx σ H → D'.nx σ H) (h2 : ∀ v H, D.rt v H → D'.rt v H) (h3 : ∀ σ H, D.bk σ H → D'.bk σ H) (h4 : ∀ σ H, D.ct σ H → D'.ct σ H) : GoodS cA fz r ρ H D' W := by
  cases r with
  | bad => exact g
  | exc y env h => exact g
  | ok fl h =>
    cases fl with
    | nx env => exact fun ρ' σ' H' x rh re => h1 _ _ (g ρ' σ' H' x rh re)
    | ct env => exact fun ρ' σ' H' x rh re => h4 _ _ (g ρ' σ' H' x rh re)
    | bk env => exact fun ρ' σ' H' x rh re => h3 _ _ (g ρ' σ' H' x rh re)
    | rt w => exact fun ρ' σ' H' x rh v rv => h2 _ _ (g ρ' σ' H' x rh v rv)
theorem GoodS.turn0 {D : L2.Ends} {ρ : List Addr} {H : HH} {r : S} {f : Env → Hp → S} (g : GoodS cA fz (r.turn f) ρ H D W) : GoodS cA fz r ρ H ⟨tS cA fz W f D, D.rt, D.nx, tS cA fz W f D⟩ W := by
  cases r with
  | bad => exact g
  | exc y env h => exact g
  | ok fl h =>
    cases fl with
    | nx env => exact fun ρ' σ' H' x rh re => ⟨ρ', env, h, rh, re, GoodS.ext (r := f env h) g x⟩
    | ct env => exact fun ρ' σ' H' x rh re => ⟨ρ', env, h, rh, re, GoodS.ext (r := f env h) g x⟩
    | bk env => exact g
    | rt w => exact g
theorem s_while {body : List Stmt} {mb : List St} (hp : PassesOwn (model X.prog X.w) X.A X.env X.xe) (hc : L2.PT X c (tT cA fz M W mc)) (hb : L2.PSs X body (tXs cA fz M W mb)) : L2.PS X (.While c body [] pos) (tX cA fz M W (.while mc mb)) :=
  PS.imp (L2.ps_while hp hc hb) fun D σ H ⟨ρ, env, h, rh, re, g⟩ => by
    have e : ex M (.while mc mb) env h = whileL (fun env h => ev M mc env h) (fun env h => exs M mb env h) TURNS env h := by simp only [ex]
    rw [e] at g
    generalize TURNS = n at g
    refine ⟨fun n σ H => tS cA fz W (whileL (fun env h => ev M mc env h) (fun env h => exs M mb env h) n) D σ H, ⟨n, ρ, env, h, rh, re, g⟩, fun n σ H h => ?_⟩
    cases n with
    | zero => obtain ⟨ρ, env, h, rh, re, g⟩ := h; exact g.elim
    | succ n =>
      refine show tT cA fz M W mc σ H _ from tS.on h fun ρ env h w v H1 rh re rv g => ?_
      obtain ⟨k, e, g⟩ := g.thenS
      refine ⟨k, asBool_ok e rv, ?_⟩
      cases k with
      | true => exact ⟨_, fun σ' H' hn => ⟨n, Nat.lt_succ_self n, hn⟩, ρ, env, h, rh, re, GoodS.turn0 g⟩
      | false => exact g.nx rh re
/-! ### for -/
/-- the iterator J yields ws, from the state (ρ0, H0) on, while the cells as hold what they hold in h0 -/
def Wk (cA : CA) (fz as : List Nat) (ρ0 : List Addr) (H0 : HH) (h0 : Hp) (ws : List MP.W) (J : L2.It) : Prop :=
  ∀ i ρ h H, Ext ρ0 ρ H0 H → Kp as h0 h → RH cA ρ (· ∈ fz) h H → (ws.length ≤ i → J.stop i H) ∧ (∀ w, ws[i]? = some w → J.go i H ∧ ∀ x H', J.yld i H x H' → Ext ρ ρ H H' ∧ RH cA ρ (· ∈ fz) h H' ∧ RW ρ H' w x)
/-- the walk of it -/
def tI (cA : CA) (fz : List Nat) (M : Cx) (W : L2.WX) (it : It) : L2.TI := fun σ H R => ∃ ρ env h, RH cA ρ (· ∈ fz) h H ∧ RE ρ H env σ ∧
  match walk M it env h with
  | .bad => False
  | .exc x h' => ∀ ρ' cls d H', Ext ρ ρ' H H' → RH cA ρ' (fun _ => True) h' H' → RX cA ρ' H' x cls d → W cls d σ H'
  | .ok p h' => ∀ ρ' J H', Ext ρ ρ' H H' → RH cA ρ' (· ∈ fz) h' H' → Wk cA fz p.2 ρ' H' h' p.1 J → (∀ n ∈ p.2, n < h'.length) → R J H'
theorem PI.imp {X : L2.Cx} {tg e : Expr} {t t' : L2.TI} (h : L2.PI X tg e t) (k : ∀ σ H Q, t' σ H Q → t σ H Q) : L2.PI X tg e t' := ⟨fun pins s σ H Q I q => h.run pins s σ H Q I (k _ _ _ q)⟩
theorem s_for {tg iter : Expr} {body : List Stmt} {mt : Tg} {mi : It} {mb : List St} (hk : CK M) (hp : PassesOwn (model X.prog X.w) X.A X.env X.xe) (hc : X.calm = true) (hi : L2.PI X tg iter (tI cA fz M W mi)) (hg : L2.PG X tg (gT cA fz mt))
    (hb : ∀ as, L2.PSs X body (tXs cA fz (M.lock as) W mb)) (hs : ∀ x, foldedSetIterable iter X.env x = pure x) : L2.PS X (.For tg iter body [] pos) (tX cA fz M W (.for mt mi mb)) := by
  refine PS.imp (t := fun D σ H => tX cA fz M W (.for mt mi mb) D σ H) ⟨fun pins s σ H D I ⟨ρ, env, h, rh, re, g⟩ => ?_⟩ fun _ _ _ h => h
  have e : ex M (.for mt mi mb) env h = (walk M mi env h).on env fun p h => forL (turnOf mt fun env h => exs (M.lock p.2) mb env h) p.1 env h := by simp only [ex]
  rw [e] at g
  cases hw : walk M mi env h with
  | bad => rw [hw] at g; exact g.elim
  | exc x h' =>
    rw [hw] at g
    -- the reading never comes to a turn
    refine (L2.ps_for (tb := L2.tNever) (g := fun _ _ _ _ => False) hp hc hi ⟨fun _ _ _ _ _ _ _ _ _ h => h.elim⟩ L2.pss_never hs).run pins s σ H D I ?_
    refine ⟨ρ, env, h, rh, re, ?_⟩
    rw [hw]
    exact fun ρ' cls d H' x rh rx => g ρ' cls d σ H' x rh rx (re.ext x)
  | ok p h' =>
    rw [hw] at g
    have g : GoodS cA fz (forL (turnOf mt fun env h => exs (M.lock p.2) mb env h) p.1 env h') ρ H D W := g
    refine (L2.ps_for hp hc hi hg (hb p.2) hs).run pins s σ H D I ⟨ρ, env, h, rh, re, ?_⟩
    rw [hw]
    intro ρ' J H' x0 rh0 wk hn
    refine ⟨fun i m σ H => m = p.1.length - i ∧ i ≤ p.1.length ∧ ∃ ρ1 env h1, Ext ρ' ρ1 H' H ∧ Kp p.2 h' h1 ∧ RH cA ρ1 (· ∈ fz) h1 H ∧ RE ρ1 H env σ ∧ GoodS cA fz (forL (turnOf mt fun env h => exs (M.lock p.2) mb env h) (p.1.drop i) env h1) ρ1 H D W,
      ⟨_, rfl, Nat.zero_le _, ρ', env, h', .refl, .refl, rh0, re.ext x0, GoodS.ext g x0⟩, fun i m σ H ⟨em, hi', ρ1, env, h1, x1, kp1, rh1, re1, g1⟩ => ?_⟩
    obtain ⟨w1, w2⟩ := wk i ρ1 h1 H x1 kp1 rh1
    by_cases hl : p.1.length ≤ i
    · rw [List.drop_of_length_le hl] at g1
      exact .inl ⟨w1 hl, g1.nx rh1 re1⟩
    · have hlt : i < p.1.length := Nat.lt_of_not_le hl
      rw [List.drop_eq_getElem_cons hlt] at g1
      obtain ⟨go, yl⟩ := w2 p.1[i] (List.getElem?_eq_getElem hlt)
      refine .inr ⟨go, fun σ' H2 => ∃ ρ2 env h2, Ext ρ' ρ2 H' H2 ∧ Kp p.2 h' h2 ∧ RH cA ρ2 (· ∈ fz) h2 H2 ∧ RE ρ2 H2 env σ' ∧ GoodS cA fz (forL (turnOf mt fun env h => exs (M.lock p.2) mb env h) (p.1.drop (i + 1)) env h2) ρ2 H2 D W,
        fun σ' H2 q => ⟨_, by omega, rfl, by omega, q⟩, fun v H2 y => ?_⟩
      obtain ⟨x2, rh2, rv⟩ := yl v H2 y
      have g1 : GoodS cA fz ((thenS (bindTg mt p.1[i] env h1) fun env => exs (M.lock p.2) mb env h1).turn fun env h => forL (turnOf mt fun env h => exs (M.lock p.2) mb env h) (p.1.drop (i + 1)) env h) ρ1 H D W := g1
      cases hbt : bindTg mt p.1[i] env h1 with
      | none => rw [hbt] at g1; exact g1.elim
      | some env' =>
        rw [hbt] at g1
        refine ⟨ρ1, env, h1, _, env', rh2, re1.ext x2, rv, hbt, fun σ2 re2 _ => ⟨ρ1, env', h1, rh2, re2, ?_⟩⟩
        have kk : SK p.2 h1 (exs (M.lock p.2) mb env' h1) := (sk_exs mb (M.lock p.2) hk env' h1).less fun n hn => List.mem_append_left _ hn
        have g2 := (GoodS.turn (r := exs (M.lock p.2) mb env' h1) g1 kk).ext x2
        have go2 : ∀ σ' H', (∃ ρ2 env h, Ext ρ1 ρ2 H H' ∧ Kp p.2 h1 h ∧ RH cA ρ2 (· ∈ fz) h H' ∧ RE ρ2 H' env σ' ∧ GoodS cA fz (forL (turnOf mt fun env h => exs (M.lock p.2) mb env h) (p.1.drop (i + 1)) env h) ρ2 H' D W) → _ := fun σ' H' ⟨ρ2, env, h, xx, kk2, q⟩ => (⟨ρ2, env, h, x1.trans xx, kp1.trans kk2, q⟩ : ∃ ρ2 env h2, Ext ρ' ρ2 _ H' ∧ Kp p.2 h' h2 ∧ RH cA ρ2 (· ∈ fz) h2 H' ∧ RE ρ2 H' env σ' ∧ GoodS cA fz (forL (turnOf mt fun env h => exs (M.lock p.2) mb env h) (p.1.drop (i + 1)) env h2) ρ2 H' D W)
        exact GoodS.imp g2 go2 (fun _ _ q => q) (fun _ _ q => q) go2
end
end MP

namespace MP
open PySem PySem.Spec PyProof.Rows
/-! ### what is walked -/
def GoodI (cA : CA) (fz : List Nat) (r : MP.R (List MP.W × List Nat)) (ρ : List Addr) (H : HH) (R : L2.It → HH → Prop) (E : L2.XK) : Prop :=
  match r with
  | .bad => False
  | .exc x h' => ∀ ρ' cls d H', Ext ρ ρ' H H' → RH cA ρ' (fun _ => True) h' H' → RX cA ρ' H' x cls d → E cls d H'
  | .ok p h' => ∀ ρ' J H', Ext ρ ρ' H H' → RH cA ρ' (· ∈ fz) h' H' → Wk cA fz p.2 ρ' H' h' p.1 J → (∀ n ∈ p.2, n < h'.length) → R J H'
section
variable {α β : Type} {cA : CA} {fz : List Nat} {W : L2.WX} {ρ ρ1 : List Addr} {H H1 : HH} {R1 : Rel α β} {E : L2.XK} {RR : L2.It → HH → Prop}
theorem GoodI.ext {r : MP.R (List MP.W × List Nat)} (g : GoodI cA fz r ρ H RR E) (x : Ext ρ ρ1 H H1) : GoodI cA fz r ρ1 H1 RR E := by
  cases r with
  | bad => exact g
  | ok f h => exact fun ρ' σ' H' e => g ρ' σ' H' (x.trans e)
  | exc y h => exact fun ρ' c d H' e => g ρ' c d H' (x.trans e)
theorem GoodI.bind {r : MP.R α} {f : α → Hp → MP.R (List MP.W × List Nat)} {Q : β → HH → Prop} (g : GoodI cA fz (r.bind f) ρ H RR E)
    (k : ∀ w h1 ρ1 v H1, r = .ok w h1 → Ext ρ ρ1 H H1 → RH cA ρ1 (· ∈ fz) h1 H1 → R1 ρ1 H1 w v → GoodI cA fz (f w h1) ρ1 H1 RR E → Q v H1) : Good cA fz R1 r ρ H Q E := by
  cases r with
  | bad => exact g
  | ok w h => exact fun ρ1 v H1 e rh rel => k w h ρ1 v H1 rfl e rh rel (GoodI.ext (r := f w h) g e)
  | exc y h => exact g
theorem GoodI.of {o : Option (List MP.W × List Nat)} {h : Hp} (g : GoodI cA fz (.of o h) ρ H RR E) : ∃ p, o = some p ∧ GoodI cA fz (.ok p h) ρ H RR E := by
  cases o with
  | none => exact g.elim
  | some w => exact ⟨w, rfl, g⟩
theorem tI.out {M : Cx} {it : It} {σ : L2.St} {H : HH} {R : L2.It → HH → Prop} (h : tI cA fz M W it σ H R) : ∃ ρ env h, RH cA ρ (· ∈ fz) h H ∧ RE ρ H env σ ∧ GoodI cA fz (walk M it env h) ρ H R (L2.WE W σ) := by
  obtain ⟨ρ, env, h, rh, re, g⟩ := h
  refine ⟨ρ, env, h, rh, re, ?_⟩
  cases hw : walk M it env h with
  | bad => rw [hw] at g; exact g
  | ok p h' => rw [hw] at g; exact g
  | exc x h' => rw [hw] at g; exact g
end
/-! ### ranges -/
section
variable {cA : CA} {fz : List Nat} {M : Cx} {W : L2.WX} {X : L2.Cx} {pos p2 p : Pos} {a b c tg : Expr} {ma mb mc : Ex} {ρ ρ1 : List Addr} {H H1 : HH} {h : Hp}
theorem wk_rng (lo : Int) (n : Nat) : Wk cA fz [] ρ H h ((List.range n).map fun (k : Nat) => MP.W.int (lo + (k : Int))) (L2.Itr lo n) := fun i ρ1 h1 H1 x kp rh => by
  refine ⟨fun hl => show n ≤ i by simpa using hl, fun w e => ?_⟩
  have hi : i < n := by have := ix_lt e; simpa using this
  refine ⟨hi, fun x H' y => ?_⟩
  obtain ⟨rfl, rfl⟩ := y
  refine ⟨.refl, rh, ?_⟩
  rw [List.getElem?_map, List.getElem?_range hi] at e
  cases e
  rfl
theorem small_ok {i : Int} (e : small62 i = true) : -(2 ^ 62) ≤ i ∧ i < 2 ^ 62 := by
  unfold small62 at e
  simpa using e
theorem i_rng (hg : L2.Gl X "range") (hm : X.mg "range" = none) (ha : L2.PE X a (tE cA fz M W ma)) (hs : starEach [a] X.env = [(false, eval a X.env)]) : L2.PI X tg (.Call (.Name "range" p) [a] [] pos) (tI cA fz M W (.rng ma)) :=
  PI.imp (L2.pi_range1 hg hm (L2.pa_cons ha L2.pa_nil hs) hs) fun σ H R h => by
    obtain ⟨ρ, env, h, rh, re, g⟩ := tI.out h
    refine ⟨ρ, env, h, rh, re, GoodI.bind (f := fun x h => MP.R.of ((rng1 x).map fun l => (l, [])) h) (by simp only [walk] at g; exact g) fun w h1 ρ1 v H1 e x rh1 rv g1 => ?_⟩
    obtain ⟨q, e, g1⟩ := g1.of
    cases w with
    | int n =>
      cases rv
      have e : (if small62 n = true then some (rangeW 0 n) else none : Option (List MP.W)).map (fun l => (l, ([] : List Nat))) = some q := e
      by_cases hn : small62 n = true
      · rw [if_pos hn] at e
        cases e
        obtain ⟨b1, b2⟩ := small_ok hn
        refine ⟨n, rfl, b1, b2, g1 ρ1 _ H1 .refl rh1 ?_ (fun n hn => by cases hn)⟩
        have := wk_rng (cA := cA) (fz := fz) (ρ := ρ1) (H := H1) (h := h1) 0 n.toNat
        rw [show rangeW 0 n = (List.range n.toNat).map fun (k : Nat) => MP.W.int (0 + (k : Int)) by unfold rangeW; rw [Int.sub_zero]]
        exact this
      · rw [if_neg hn] at e; cases e
    | _ => cases e
theorem i_rng2 (hg : L2.Gl X "range") (hm : X.mg "range" = none) (ha : L2.PE X a (tE cA fz M W ma)) (hb : L2.PE X b (tE cA fz M W mb)) (hs : starEach [a, b] X.env = [(false, eval a X.env), (false, eval b X.env)]) (hs2 : starEach [b] X.env = [(false, eval b X.env)]) :
    L2.PI X tg (.Call (.Name "range" p) [a, b] [] pos) (tI cA fz M W (.rng2 ma mb)) :=
  PI.imp (L2.pi_range2 hg hm (L2.pa_cons ha (L2.pa_cons hb L2.pa_nil hs2) (by rw [hs, hs2])) hs hs2) fun σ H R h => by
    obtain ⟨ρ, env, h, rh, re, g⟩ := tI.out h
    refine ⟨ρ, env, h, rh, re, GoodI.bind (f := fun x h => (ev M mb env h).bind fun y h => MP.R.of ((rng2 x y).map fun l => (l, [])) h) (by simp only [walk] at g; exact g) fun w h1 ρ1 v H1 e x rh1 rv g1 => ?_⟩
    refine ⟨ρ1, env, h1, rh1, re.ext x, GoodI.bind g1 fun u h2 ρ2 t H2 e x2 rh2 rt g2 => ?_⟩
    obtain ⟨q, e, g2⟩ := g2.of
    have rv := rv.ext x2
    cases w with
    | int i =>
      cases u with
      | int j =>
        cases rv; cases rt
        have e : (if (small62 i && small62 j) = true then some (rangeW i j) else none : Option (List MP.W)).map (fun l => (l, ([] : List Nat))) = some q := e
        by_cases hn : (small62 i && small62 j) = true
        · rw [if_pos hn] at e
          cases e
          rw [Bool.and_eq_true] at hn
          obtain ⟨b1, b2⟩ := small_ok hn.1
          obtain ⟨b3, b4⟩ := small_ok hn.2
          exact ⟨i, j, rfl, ⟨b1, b2, b3, b4⟩, g2 ρ2 _ H2 .refl rh2 (wk_rng i (j - i).toNat) (fun n hn => by cases hn)⟩
        · rw [if_neg hn] at e; cases e
      | _ => cases e
    | _ => cases e
theorem rws3 {ρ : List Addr} {H : HH} {w u t : MP.W} {vs : List Vv} (r : RWs ρ H [w, u, t] vs) : ∃ a b c, vs = [a, b, c] ∧ RW ρ H w a ∧ RW ρ H u b ∧ RW ρ H t c := by
  obtain ⟨a, _, rfl, ra, r2⟩ := r
  obtain ⟨b, c, rfl, rb, rc⟩ := rws2 r2
  exact ⟨a, b, c, rfl, ra, rb, rc⟩
theorem rgc_ok {i j s : Int} (hi : small62 i = true) (hj : small62 j = true) (h0 : 0 < s) (h1 : s < 2 ^ 20) : L2.RgC i j s ((j - i + s - 1) / s).toNat := by
  obtain ⟨b1, b2⟩ := small_ok hi
  obtain ⟨b3, b4⟩ := small_ok hj
  have e : Builtin.Range.rangeSize i j s = (((j - i + s - 1) / s).toNat : Int) := by
    unfold Builtin.Range.rangeSize
    rw [if_pos h0]
    by_cases hl : i < j
    · rw [if_pos hl]
      have e1 : j - i + s - 1 = (j - i - 1) + 1 * s := by omega
      rw [e1, Int.add_mul_ediv_right _ _ (by omega)]
      have := Int.ediv_nonneg (a := j - i - 1) (b := s) (by omega) (by omega)
      omega
    · rw [if_neg hl]
      have : (j - i + s - 1) / s ≤ 0 := by
        have : (j - i + s - 1) / s < 1 := Int.ediv_lt_of_lt_mul h0 (by omega)
        omega
      omega
  refine ⟨by omega, by omega, ?_, e⟩
  unfold Builtin.Range.small
  have hp := Int.toNat_of_nonneg (a := Builtin.Range.rangeSize i j s) (by rw [e]; omega)
  have hb : Builtin.Range.rangeSize i j s ≤ 2 ^ 63 - 1 := by
    unfold Builtin.Range.rangeSize
    rw [if_pos h0]
    by_cases hl : i < j
    · rw [if_pos hl]
      have := Int.ediv_le_self s (show (0 : Int) ≤ j - i - 1 by omega)
      omega
    · rw [if_neg hl]; omega
  have hb2 : 0 ≤ Builtin.Range.rangeSize i j s := by rw [e]; omega
  simp only [Builtin.Range.rangeFitsLong, Bool.and_eq_true, Bool.or_eq_true, decide_eq_true_eq, beq_iff_eq, h0, if_true]
  omega
theorem wk_rgs (lo st : Int) (n : Nat) : Wk cA fz [] ρ H h ((List.range n).map fun (k : Nat) => MP.W.int (lo + st * (k : Int))) (L2.Itc lo st n) := fun i ρ1 h1 H1 x kp rh => by
  refine ⟨fun hl => show n ≤ i by simpa using hl, fun w e => ?_⟩
  have hi : i < n := by have := ix_lt e; simpa using this
  refine ⟨hi, fun x H' y => ?_⟩
  obtain ⟨rfl, rfl⟩ := y
  refine ⟨.refl, rh, ?_⟩
  rw [List.getElem?_map, List.getElem?_range hi] at e
  cases e
  show (_ : Vv) = _
  rw [Int.mul_comm]
theorem i_rng3 (hg : L2.Gl X "range") (hm : X.mg "range" = none) (ha : L2.PE X a (tE cA fz M W ma)) (hb : L2.PE X b (tE cA fz M W mb)) (hc : L2.PE X c (tE cA fz M W mc)) (hs : starEach [a, b, c] X.env = (false, eval a X.env) :: starEach [b, c] X.env) (hs2 : starEach [b, c] X.env = (false, eval b X.env) :: starEach [c] X.env) (hs3 : starEach [c] X.env = (false, eval c X.env) :: starEach [] X.env) :
    L2.PI X tg (.Call (.Name "range" p) [a, b, c] [] pos) (tI cA fz M W (.rng3 ma mb mc)) :=
  PI.imp (L2.pi_range3 hg hm (L2.pa_cons ha (L2.pa_cons hb (L2.pa_cons hc L2.pa_nil hs3) hs2) hs) hs (by rw [hs2, hs3]; rfl)) fun σ H R h => by
    obtain ⟨ρ, env, h, rh, re, g⟩ := tI.out h
    refine ⟨ρ, env, h, rh, re, GoodI.bind (f := fun x h => (ev M mb env h).bind fun y h => (ev M mc env h).bind fun z h => MP.R.of ((rng3 x y z).map fun l => (l, [])) h) (by simp only [walk] at g; exact g) fun w h1 ρ1 v H1 e x rh1 rv g1 => ?_⟩
    refine ⟨ρ1, env, h1, rh1, re.ext x, GoodI.bind (f := fun y h => (ev M mc env h).bind fun z h => MP.R.of ((rng3 w y z).map fun l => (l, [])) h) g1 fun u h2 ρ2 t H2 e x2 rh2 rt g2 => ?_⟩
    refine ⟨ρ2, env, h2, rh2, (re.ext x).ext x2, GoodI.bind g2 fun u3 h3 ρ3 t3 H3 e x3 rh3 rt3 g3 => ?_⟩
    obtain ⟨q, e, g3⟩ := g3.of
    have rv := (rv.ext x2).ext x3
    have rt := rt.ext x3
    cases w with
    | int i =>
      cases u with
      | int j =>
        cases u3 with
        | int s =>
          cases rv; cases rt; cases rt3
          have e : (if (small62 i && small62 j && decide (0 < s) && decide (s < 2 ^ 20)) = true then some (rangeS i j s) else none : Option (List MP.W)).map (fun l => (l, ([] : List Nat))) = some q := e
          by_cases hn : (small62 i && small62 j && decide (0 < s) && decide (s < 2 ^ 20)) = true
          · rw [if_pos hn] at e
            cases e
            simp only [Bool.and_eq_true, decide_eq_true_eq] at hn
            obtain ⟨⟨⟨n1, n2⟩, n3⟩, n4⟩ := hn
            exact ⟨i, j, s, _, rfl, rgc_ok n1 n2 n3 n4, g3 ρ3 _ H3 .refl rh3 (wk_rgs i s _) (fun n hn => by cases hn)⟩
          · rw [if_neg hn] at e; cases e
        | _ => cases e
      | _ => cases e
    | _ => cases e
/-! ### a list, a tuple, a text -/
theorem PI.or {X : L2.Cx} {tg e : Expr} {t t' : L2.TI} (h : L2.PI X tg e t) (h' : L2.PI X tg e t') : L2.PI X tg e (fun σ H R => t σ H R ∨ t' σ H R) := ⟨fun pins s σ H R I q => q.elim (h.run pins s σ H R I) (h'.run pins s σ H R I)⟩
theorem wk_lst {n : Nat} {a : Addr} {xs : List MP.W} (hn : ρ[n]? = some a) (e : rd h n = some (.lst xs)) (K : PySem.W.Frag) : Wk cA fz [n] ρ H h xs (L2.Itl K a) := fun i ρ1 h1 H1 x kp rh => by
  have e1 : rd h1 n = some (.lst xs) := (kp.at_ n (by simp) (ix_lt e)).trans e
  obtain ⟨a', ha', vs, r, z⟩ := rh.get e1
  rw [x.ix hn] at ha'; cases ha'
  refine ⟨fun hl => ⟨vs, z.seqL, by rw [← r.length]; exact hl⟩, fun w ew => ?_⟩
  obtain ⟨v, hv, rv⟩ := r.get ew
  refine ⟨⟨vs, v, z.seqL, hv⟩, fun y H' q => ?_⟩
  obtain ⟨rfl, q⟩ := q
  have := q vs z.seqL
  rw [hv] at this
  cases this
  exact ⟨.refl, rh, rv⟩
theorem wk_tup {a : Addr} {xs : List MP.W} {vs : List Vv} (ha : H a = some (.tup vs)) (r : RWs ρ H xs vs) (K : PySem.W.Frag) : Wk cA fz [] ρ H h xs (L2.Itt K a) := fun i ρ1 h1 H1 x kp rh => by
  have h1' := x.tup a vs ha
  have r := r.ext x
  refine ⟨fun hl => ⟨vs, .of h1', by rw [← r.length]; exact hl⟩, fun w ew => ?_⟩
  obtain ⟨v, hv, rv⟩ := r.get ew
  refine ⟨⟨vs, v, .of h1', hv⟩, fun y H' q => ?_⟩
  obtain ⟨rfl, q⟩ := q
  have := q vs (.of h1')
  rw [hv] at this
  cases this
  exact ⟨.refl, rh, rv⟩
theorem wk_str {s : List Nat} : Wk cA fz [] ρ H h (s.map fun c => .str [c]) (L2.Its (sv s)) := fun i ρ1 h1 H1 x kp rh => by
  have hl : (sv s).cps.size = s.length := by show s.toArray.size = _; simp
  refine ⟨fun h => by show (sv s).cps.size ≤ i; rw [hl]; simpa using h, fun w ew => ?_⟩
  have hi : i < s.length := by have := ix_lt ew; simpa using this
  refine ⟨by show i < (sv s).cps.size; rw [hl]; exact hi, fun y H' q => ?_⟩
  obtain ⟨rfl, c, hc, rfl⟩ := q
  refine ⟨.refl, rh, ?_⟩
  rw [List.getElem?_map] at ew
  have hc : s[i]? = some c := by simpa [sv] using hc
  rw [hc] at ew
  cases ew
  exact ⟨by simp [LINE], rfl⟩
theorem i_val (ha : L2.PE X a (tE cA fz M W ma)) : L2.PI X tg a (tI cA fz M W (.val ma)) :=
  PI.imp (PI.or (L2.pi_list ha) (PI.or (L2.pi_tup ha) (L2.pi_str ha))) fun σ H R h => by
    obtain ⟨ρ, env, h, rh, re, g⟩ := tI.out h
    have g : GoodI cA fz ((ev M ma env h).bind fun x h => .of (walkV x h) h) ρ H R (L2.WE W σ) := by simp only [walk] at g; exact g
    cases hr : ev M ma env h with
    | bad => rw [hr] at g; exact g.elim
    | exc x h' =>
      rw [hr] at g
      refine .inl ⟨ρ, env, h, rh, re, ?_⟩
      rw [hr]
      exact g
    | ok w h' =>
      rw [hr] at g
      obtain ⟨p, e, g⟩ := GoodI.of (show GoodI cA fz (.of (walkV w h') h') ρ H R _ from g)
      cases w with
      | str s =>
        cases e
        refine .inr (.inr ⟨ρ, env, h, rh, re, ?_⟩)
        rw [hr]
        exact fun ρ' v H' x rh' rv => ⟨sv s, rv.2, g ρ' _ H' x rh' wk_str (fun n hn => by cases hn)⟩
      | tup xs =>
        cases e
        refine .inr (.inl ⟨ρ, env, h, rh, re, ?_⟩)
        rw [hr]
        intro ρ' v H' x rh' rv
        obtain ⟨a, vs, rfl, hv, rr⟩ := rv
        exact ⟨a, rfl, ⟨vs, .of hv⟩, g ρ' _ H' x rh' (wk_tup hv rr X.K) (fun n hn => by cases hn)⟩
      | ref n =>
        have e : walkO n (rd h' n) = some p := e
        unfold walkO at e
        split at e
        · rename_i xs e1
          cases e
          refine .inl ⟨ρ, env, h, rh, re, ?_⟩
          rw [hr]
          intro ρ' v H' x rh' rv
          obtain ⟨a, rfl, ha⟩ := rv
          obtain ⟨a', ha', vs, rr, z⟩ := rh'.get e1
          rw [ha] at ha'; cases ha'
          exact ⟨a, rfl, ⟨vs, z.seqL⟩, g ρ' _ H' x rh' (wk_lst ha e1 X.K) (fun m hm => by rw [List.mem_singleton.mp hm]; exact ix_lt e1)⟩
        · cases e
      | _ => cases e
end
end MP

namespace MP
open PySem PySem.Spec PyProof.Rows
/-! ### comprehensions -/
section
variable {cA : CA} {L : Nat → Prop} {ρ : List Addr} {H : HH} {h : Hp}
/-- an object that nobody of ours wrote becomes a cell -/
theorem RH.adopt (r : RH cA ρ L h H) {a : Addr} {o : O} (na : a ∉ ρ) (new : RO cA (ρ ++ [a]) H (L h.length) a o) : RH cA (ρ ++ [a]) L (h ++ [o]) H ∧ (ρ ++ [a])[h.length]? = some a := by
  have hl : (ρ ++ [a])[h.length]? = some a := by rw [← r.len]; simp
  refine ⟨⟨by simp [r.len], ?_, fun n o' b e1 e2 => ?_⟩, hl⟩
  · rw [List.nodup_append]
    exact ⟨r.nd, by simp, fun b hb c hc => by simp at hc; subst hc; exact fun z => na (z ▸ hb)⟩
  · by_cases hn : n < h.length
    · rw [List.getElem?_append_left hn] at e1
      rw [List.getElem?_append_left (by rw [r.len]; exact hn)] at e2
      exact (r.at_ n o' b e1 e2).ext0 ⟨List.prefix_append _ _, fun _ _ e => e⟩ rfl id
    · have hn' : n = h.length := by
        have := ix_lt e1
        rw [List.length_append] at this
        simp at this
        omega
      subst hn'
      rw [hl] at e2
      cases e2
      simp at e1
      subst e1
      exact new
end
abbrev W0 : L2.WX := fun _ _ _ _ => False
section
variable {cA : CA} {fz : List Nat} {M : Cx} {W : L2.WX} {X : L2.Cx} {pos p2 p : Pos} {a b c tg : Expr} {ma mb mc : Ex}
/-- the tests of a clause -/
def tC (cA : CA) (fz : List Nat) (M : Cx) : Option Ex → L2.TT
  | none => L2.tYes
  | some c => tT cA fz M W0 c
theorem tC_none {σ : L2.St} {H : HH} {Q : Bool → HH → Prop} : tC cA fz M none σ H Q ↔ Q true H := Iff.rfl
def turnOfC (M : Cx) (env : Env) (mt : Tg) (me : Ex) : Option Ex → MP.W → Hp → MP.R (Option MP.W)
  | none => turnC mt env (eltOf fun env h => ev M me env h)
  | some c => turnC mt env (condOf (fun env h => ev M c env h) fun env h => ev M me env h)
theorem comp_eq (own : List Nat) (me : Ex) (mt : Tg) (mi : It) (mo : Option Ex) (env : Env) (h : Hp) : ev M (.comp own me mt mi mo) env h = (walk M mi env h).bind fun p h => (compL (turnOfC (M.lock p.2) (wipe env own) mt me mo) p.1 [] h).bind fun ys h => mk (.lst ys) h := by
  cases mo <;> simp only [ev] <;> rfl
/-- what may not raise -/
theorem Good.calm {α β : Type} {R1 : Rel α β} {r : MP.R α} {ρ : List Addr} {H : HH} {Q : β → HH → Prop} {E E' : L2.XK} (g : Good cA fz R1 r.calm ρ H Q E) : Good cA fz R1 r ρ H Q E' := by
  cases r with
  | bad => exact g
  | ok w h => exact g
  | exc y h => exact g.elim
theorem Good.guardB {α β γ : Type} {R1 : Rel α β} {b : Bool} {r : MP.R γ} {k : γ → Hp → MP.R α} {ρ : List Addr} {H : HH} {Q : β → HH → Prop} {E : L2.XK} (g : Good cA fz R1 ((MP.guardR b r).bind k) ρ H Q E) : b = true ∧ Good cA fz R1 (r.bind k) ρ H Q E := by
  cases b with
  | false => exact g.elim
  | true => exact ⟨rfl, g⟩
/-- the turns of a comprehension -/
theorem comp_core {own : List Nat} {me : Ex} {mt : Tg} {mi : It} {mo : Option Ex} (hk : CK M) (htg : ∀ i ∈ tgIx mt, i ∈ own) {σ : L2.St} {H : HH} {Q : L2.VK} (h : tE cA fz M W (.comp own me mt mi mo) σ H Q) :
    ∃ as, L2.tLc (tI cA fz M W mi) (gT cA fz mt) (tC cA fz (M.lock as) mo) (tE cA fz (M.lock as) W0 me) own σ H Q := by
  obtain ⟨ρ, env, h, rh, re, g⟩ := h
  rw [comp_eq] at g
  cases hw : walk M mi env h with
  | bad => rw [hw] at g; exact g.elim
  | exc x h' =>
    rw [hw] at g
    refine ⟨[], ρ, env, h, rh, re, ?_⟩
    rw [hw]
    exact g
  | ok p h' =>
    rw [hw] at g
    have g : Good cA fz RW ((compL (turnOfC (M.lock p.2) (wipe env own) mt me mo) p.1 [] h').bind fun ys h => mk (.lst ys) h) ρ H Q (L2.WE W σ) := g
    refine ⟨p.2, ρ, env, h, rh, re, ?_⟩
    rw [hw]
    intro ρ' J H' x0 rh0 wk hn D hD
    have g := g.ext x0
    have re := re.ext x0
    have nD := rh0.fresh hD
    generalize hf : turnOfC (M.lock p.2) (wipe env own) mt me mo = f at g
    have kf : ∀ x h, RK p.2 h (f x h) := fun x h => by
      subst hf
      cases mo with
      | none =>
        simp only [turnOfC, turnC]
        exact RK.thenO fun e => RK.bind ((rk_ev me (M.lock p.2) hk e h).less fun n hn => List.mem_append_left _ hn) fun _ _ => RK.ok
      | some c =>
        simp only [turnOfC, turnC]
        exact RK.thenO fun e => RK.bind ((rk_ev c (M.lock p.2) hk e h).less fun n hn => List.mem_append_left _ hn) fun _ _ => RK.thenO fun _ => RK.ite (RK.bind ((rk_ev me (M.lock p.2) hk e _).less fun n hn => List.mem_append_left _ hn) fun _ _ => RK.ok) RK.ok
    refine ⟨fun i m H1 => m = p.1.length - i ∧ i ≤ p.1.length ∧ ∃ ρ1 h1 acc vs, D ∉ ρ1 ∧ H1 D = some (.lst vs) ∧ RWs ρ1 H1 acc vs ∧ Ext ρ' ρ1 H' H1 ∧ Kp p.2 h' h1 ∧ RH cA ρ1 (· ∈ fz) h1 H1 ∧
      Good cA fz RW ((compL f (p.1.drop i) acc h1).bind fun ys h => mk (.lst ys) h) ρ' H' Q (L2.WE W σ), ⟨_, rfl, Nat.zero_le _, ρ', h', [], [], nD, L2.upd_same, rfl, (rh0.side hD).1, .refl, (rh0.side hD).2, g⟩,
      fun i m H1 ⟨em, hi', ρ1, h1, acc, vs, nD1, hD1, ra, x1, kp1, rh1, g1⟩ => ?_⟩
    obtain ⟨w1, w2⟩ := wk i ρ1 h1 H1 x1 kp1 rh1
    by_cases hl : p.1.length ≤ i
    · rw [List.drop_of_length_le hl] at g1
      refine .inl ⟨w1 hl, ?_⟩
      obtain ⟨rh2, hl2⟩ := rh1.adopt (o := .lst acc) nD1 ⟨vs, ra.ext0 ⟨List.prefix_append _ _, fun _ _ e => e⟩, .inl hD1⟩
      refine g1 (ρ1 ++ [D]) _ H1 ⟨x1.pre.trans (List.prefix_append _ _), x1.tup, x1.frz, x1.dom, fun t ht => ?_, x1.keep⟩ rh2 ⟨D, rfl, hl2⟩
      rcases List.mem_append.mp ht with ht | ht
      · exact x1.new t ht
      · rw [List.mem_singleton.mp ht]; exact .inr hD
    · have hlt : i < p.1.length := Nat.lt_of_not_le hl
      rw [List.drop_eq_getElem_cons hlt] at g1
      obtain ⟨go, yl⟩ := w2 p.1[i] (List.getElem?_eq_getElem hlt)
      have g1 : Good cA fz RW (((f p.1[i] h1).calm.bind fun o h => guardR (decide (acc.length < LINE)) (compL f (p.1.drop (i + 1)) (acc ++ o.toList) h)).bind fun ys h => mk (.lst ys) h) ρ' H' Q (L2.WE W σ) := g1
      -- what a turn is to reach
      refine .inr ⟨go, fun H2 => ∃ ρ2 h2 acc vs, D ∉ ρ2 ∧ H2 D = some (.lst vs) ∧ RWs ρ2 H2 acc vs ∧ Ext ρ' ρ2 H' H2 ∧ Kp p.2 h' h2 ∧ RH cA ρ2 (· ∈ fz) h2 H2 ∧
        Good cA fz RW ((compL f (p.1.drop (i + 1)) acc h2).bind fun ys h => mk (.lst ys) h) ρ' H' Q (L2.WE W σ), fun H2 q => ⟨_, by omega, rfl, by omega, q⟩, fun v H2 y => ?_⟩
      obtain ⟨x2, rh2, rv⟩ := yl v H2 y
      have hD2 : H2 D = some (.lst vs) := x2.keep D _ nD1 hD1
      -- behind the item's evaluation
      have item : ∀ {w : MP.W} {h3 : Hp} {ρ3 : List Addr} {H3 : HH} {u : Vv}, Ext ρ1 ρ3 H2 H3 → Kp p.2 h1 h3 → RH cA ρ3 (· ∈ fz) h3 H3 → RW ρ3 H3 w u → f p.1[i] h1 = .ok (some w) h3 → ∃ acc', H3 D = some (.lst acc') ∧ acc'.length < sizeLine ∧
          ∃ ρ2 h2 acc vs, D ∉ ρ2 ∧ L2.upd H3 D (.lst (acc' ++ [u])) D = some (.lst vs) ∧ RWs ρ2 (L2.upd H3 D (.lst (acc' ++ [u]))) acc vs ∧ Ext ρ' ρ2 H' (L2.upd H3 D (.lst (acc' ++ [u]))) ∧ Kp p.2 h' h2 ∧ RH cA ρ2 (· ∈ fz) h2 (L2.upd H3 D (.lst (acc' ++ [u]))) ∧
            Good cA fz RW ((compL f (p.1.drop (i + 1)) acc h2).bind fun ys h => mk (.lst ys) h) ρ' H' Q (L2.WE W σ) := fun {w h3 ρ3 H3 u} x3 k3 rh3 ru ef => by
        rw [ef] at g1
        obtain ⟨el, g2⟩ := Good.guardB (r := compL f (p.1.drop (i + 1)) (acc ++ [w]) h3) (b := decide (acc.length < LINE)) g1
        have hD3 : H3 D = some (.lst vs) := x3.keep D _ nD1 hD2
        have nD3 : D ∉ ρ3 := fun hm => (x3.new D hm).elim nD1 fun z => by rw [hD2] at z; cases z
        have e0 : Ex0 ρ3 ρ3 H3 (L2.upd H3 D (.lst (vs ++ [u]))) := ⟨List.prefix_refl _, fun t us z => by rw [L2.upd_ne fun q => by rw [q, hD3] at z; cases z]; exact z⟩
        have xx := (x1.trans x2).trans x3
        refine ⟨vs, hD3, ?_, ρ3, h3, acc ++ [w], vs ++ [u], nD3, L2.upd_same, ((ra.ext (x2.trans x3)).ext0 e0).append ⟨u, [], rfl, ru.ext0 e0, rfl⟩, ⟨xx.pre, fun t us z => e0.tup t us (xx.tup t us z), fun t o us z => ?_, fun t z => xx.dom t (dom_upd t z), xx.new, fun t us nt z => ?_⟩, kp1.trans k3,
          rh3.keep0 e0 fun t ht => L2.upd_ne fun q => nD3 (q ▸ ht), g2⟩
        · rw [← ra.length]; exact Nat.lt_of_lt_of_le (of_decide_eq_true el) line_le
        · have q := xx.frz t o us z
          rw [L2.upd_ne fun q2 => by rw [q2, hD3] at q; cases q]; exact q
        · rw [L2.upd_ne fun q2 => by rw [q2, hD] at z; cases z]; exact xx.keep t us nt z
      have none' : ∀ {h3 : Hp} {ρ3 : List Addr} {H3 : HH}, Ext ρ1 ρ3 H2 H3 → Kp p.2 h1 h3 → RH cA ρ3 (· ∈ fz) h3 H3 → f p.1[i] h1 = .ok none h3 → ∃ ρ2 h2 acc vs, D ∉ ρ2 ∧ H3 D = some (.lst vs) ∧ RWs ρ2 H3 acc vs ∧ Ext ρ' ρ2 H' H3 ∧ Kp p.2 h' h2 ∧ RH cA ρ2 (· ∈ fz) h2 H3 ∧
            Good cA fz RW ((compL f (p.1.drop (i + 1)) acc h2).bind fun ys h => mk (.lst ys) h) ρ' H' Q (L2.WE W σ) := fun {h3 ρ3 H3} x3 k3 rh3 ef => by
        rw [ef] at g1
        obtain ⟨el, g2⟩ := Good.guardB (r := compL f (p.1.drop (i + 1)) (acc ++ []) h3) (b := decide (acc.length < LINE)) g1
        rw [List.append_nil] at g2
        exact ⟨ρ3, h3, acc, vs, (fun hm => (x3.new D hm).elim nD1 fun z => by rw [hD2] at z; cases z), x3.keep D _ nD1 hD2, ra.ext (x2.trans x3), (x1.trans x2).trans x3, kp1.trans k3, rh3, g2⟩
      have kk := kf p.1[i] h1
      have re1 : RE ρ1 H2 (wipe env own) (L2.wipe σ own) := ((re.ext x1).ext x2).wipe _
      subst hf
      cases hbt : bindTg mt p.1[i] (wipe env own) h1 with
      | none => cases mo <;> (simp only [turnOfC, turnC, hbt] at g1; exact g1.elim)
      | some env' =>
        refine ⟨ρ1, _, h1, _, env', rh2, re1, rv, hbt, fun σ2 re2 sb => ⟨(sb _ htg).trans (wipe_wipe σ _), ?_⟩⟩
        cases mo with
        | none =>
          have ef : turnOfC (M.lock p.2) (wipe env own) mt me none p.1[i] h1 = (ev (M.lock p.2) me env' h1).bind fun y h => .ok (some y) h := by
            simp only [turnOfC, turnC, hbt]; rfl
          refine tC_none.mpr ?_
          simp only [if_true]
          refine ⟨ρ1, env', h1, rh2, re2, ?_⟩
          rw [ef] at g1 kk item
          cases hr : ev (M.lock p.2) me env' h1 with
          | bad => rw [hr] at g1; exact g1.elim
          | exc z h3 => rw [hr] at g1; exact g1.elim
          | ok w h3 =>
            rw [hr] at item kk
            exact fun ρ3 u H3 x3 rh3 ru => item x3 kk rh3 ru rfl
        | some c0 =>
          have ef : turnOfC (M.lock p.2) (wipe env own) mt me (some c0) p.1[i] h1 = (ev (M.lock p.2) c0 env' h1).bind fun b h => thenO (asBool b) fun b => if b then (ev (M.lock p.2) me env' h).bind fun y h => .ok (some y) h else .ok none h := by
            simp only [turnOfC, turnC, hbt]; rfl
          rw [ef] at g1 item none'
          have kc : RK p.2 h1 (ev (M.lock p.2) c0 env' h1) := (rk_ev c0 (M.lock p.2) hk env' h1).less fun n hn => List.mem_append_left _ hn
          refine ⟨ρ1, env', h1, rh2, re2, ?_⟩
          cases hr : ev (M.lock p.2) c0 env' h1 with
          | bad => rw [hr] at g1; exact g1.elim
          | exc z h3 => rw [hr] at g1; exact g1.elim
          | ok w h3 =>
            rw [hr] at item none' kc g1
            intro ρ3 u H3 x3 rh3 ru
            simp only [R.bind_ok] at item none' g1
            cases hb : asBool w with
            | none => rw [hb] at g1; exact g1.elim
            | some k =>
              rw [hb] at item none' g1
              refine ⟨k, asBool_ok hb ru, ?_⟩
              simp only [thenO_some] at item none' g1
              cases k with
              | false => exact none' x3 kc rh3 rfl
              | true =>
                simp only [if_true] at item g1
                have ke : RK p.2 h3 (ev (M.lock p.2) me env' h3) := (rk_ev me (M.lock p.2) hk env' h3).less fun n hn => List.mem_append_left _ hn
                refine ⟨ρ3, env', h3, rh3, re2.ext x3, ?_⟩
                cases hr2 : ev (M.lock p.2) me env' h3 with
                | bad => rw [hr2] at g1; exact g1.elim
                | exc z h4 => rw [hr2] at g1; exact g1.elim
                | ok w2 h4 =>
                  rw [hr2] at item ke
                  exact fun ρ4 u2 H4 x4 rh4 ru2 => item (x3.trans x4) (kc.trans ke) rh4 ru2 rfl
where
  wipe_wipe (σ : L2.St) (vs : List Nat) : L2.wipe (L2.wipe σ vs) vs = L2.wipe σ vs := by
    have one : ∀ (us : List Nat) (τ : L2.St), (∀ i ∈ us, τ.set i none = τ) → L2.wipe τ us = τ := by
      intro us
      induction us with
      | nil => intro τ _; rfl
      | cons u us ih => intro τ h; unfold L2.wipe; rw [ih τ fun i hi => h i (List.mem_cons_of_mem _ hi)]; exact h u List.mem_cons_self
    refine one vs _ ?_
    induction vs with
    | nil => intro i hi; cases hi
    | cons v vs ih =>
      intro i hi
      unfold L2.wipe
      by_cases e : i = v
      · rw [e, List.set_set]
      · rw [List.set_comm _ _ (Ne.symm e), ih i ((List.mem_cons.mp hi).resolve_left e)]
theorem k_comp {elt iter : Expr} {ifs : List Expr} {scope : Scope} {own : List (Str × Nat)} {me : Ex} {mt : Tg} {mi : It} {mo : Option Ex} (hk : CK M) (hc : X.calm = true) (hN : X.N.Nodup) (hi : L2.PI X tg iter (tI cA fz M W mi)) (ok : L2.BlkOk X.N X.env.scope scope own)
    (hg : ∀ (s : Shared) (H : HH) (C : Addr) (cl : List (Str × Addr)) (fp : List Addr), L2.PG (X.blk s H scope (compEnvC scope cl C X.env) fp) tg (gT cA fz mt)) (ht : ∀ (as : List Nat) (s : Shared) (H : HH) (C : Addr) (cl : List (Str × Addr)) (fp : List Addr), L2.PTs (X.blk s H scope (compEnvC scope cl C X.env) fp) ifs (tC cA fz (M.lock as) mo))
    (he : ∀ (as : List Nat) (s : Shared) (H : HH) (C : Addr) (cl : List (Str × Addr)) (fp : List Addr), L2.PE (X.blk s H scope (compEnvC scope cl C X.env) fp) elt (tE cA fz (M.lock as) W0 me)) (hs : ∀ x, foldedSetIterable iter X.env x = pure x)
    (htg : ∀ i ∈ tgIx mt, i ∈ own.map (·.2)) : L2.PE X (.ListComp elt [⟨tg, iter, ifs, 0⟩] scope pos) (tE cA fz M W (.comp (own.map (·.2)) me mt mi mo)) := by
  refine ⟨fun pins s σ H Q I h => ?_⟩
  obtain ⟨as, q⟩ := comp_core hk htg h
  exact (L2.pe_lc hc hN hi ok hg (ht as) (he as) hs).run pins s σ H Q I q
theorem s_comp {i : Nat} {y : Str} {py spos : Pos} {elt iter : Expr} {ifs : List Expr} {scope : Scope} {own : List (Str × Nat)} {me : Ex} {mt : Tg} {mi : It} {mo : Option Ex} (hk : CK M) (hc : X.calm = true) (hN : X.N.Nodup) (hy : X.N[i]? = some y) (hyl : X.env.scope.names.lookup y = some .local)
    (hsw : swapsWith (.ListComp elt [⟨tg, iter, ifs, 0⟩] scope pos) (some (.Name y py)) spos.line X.env = pure true) (hi : L2.PI X tg iter (tI cA fz M W mi)) (ok : L2.BlkOk X.N X.env.scope scope own)
    (hg : ∀ (s : Shared) (H : HH) (C : Addr) (cl : List (Str × Addr)) (fp : List Addr), L2.PG (X.blk s H scope (compEnvC scope cl C X.env) fp) tg (gT cA fz mt)) (ht : ∀ (as : List Nat) (s : Shared) (H : HH) (C : Addr) (cl : List (Str × Addr)) (fp : List Addr), L2.PTs (X.blk s H scope (compEnvC scope cl C X.env) fp) ifs (tC cA fz (M.lock as) mo))
    (he : ∀ (as : List Nat) (s : Shared) (H : HH) (C : Addr) (cl : List (Str × Addr)) (fp : List Addr), L2.PE (X.blk s H scope (compEnvC scope cl C X.env) fp) elt (tE cA fz (M.lock as) W0 me)) (hs : ∀ x, foldedSetIterable iter X.env x = pure x)
    (htg : ∀ i ∈ tgIx mt, i ∈ own.map (·.2)) : L2.PS X (.Assign [.Name y py] (.ListComp elt [⟨tg, iter, ifs, 0⟩] scope pos) spos) (tX cA fz M W (.set (.tg (.name i)) (.comp (own.map (·.2)) me mt mi mo))) := by
  refine ⟨fun pins s σ H D I h => ?_⟩
  have h2 : tE cA fz M W (.comp (own.map (·.2)) me mt mi mo) σ H (fun x H1 => D.nx (σ.set i (some x)) H1) := tS.on h fun ρ env h w v H1 rh re rv g => by
    obtain ⟨env', e, g⟩ := g.thenS
    cases e
    exact g.nx rh (re.set rv i)
  obtain ⟨as, q⟩ := comp_core hk htg h2
  exact (L2.ps_setLc hc hN hy hyl hsw hi ok hg (ht as) (he as) hs).run pins s σ H D I q
end
end MP

namespace MP
open PySem PySem.Spec PyProof.Rows
/-! ### dicts change -/
section
variable {κ : Type} [DecidableEq κ] {f : W → Option κ} {ρ : List Addr} {H : HH}
theorem putK_cons {κ : Type} [DecidableEq κ] (q : κ × Vv) (qs : List (κ × Vv)) (k : κ) (v : Vv) (n : (((q :: qs).map (·.1)) : List κ).Nodup) : L2.putK (q :: qs) k v = if q.1 = k then (k, v) :: qs else q :: L2.putK qs k v := by
  obtain ⟨q1, q2⟩ := q
  unfold L2.putK
  by_cases e : q1 = k
  · subst e
    have nn : q1 ∉ qs.map (·.1) := (List.nodup_cons.mp n).1
    have : qs.map (fun kv : κ × Vv => if kv.1 = q1 then (kv.1, v) else kv) = qs := by
      conv => rhs; rw [← List.map_id qs]
      refine List.map_congr_left fun a ha => ?_
      rw [if_neg fun z => nn (List.mem_map.mpr ⟨a, ha, z⟩)]
      rfl
    simp [this]
  · by_cases ha : (qs.any fun kv => decide (kv.1 = k)) = true
    · simp [e, ha]
    · simp only [Bool.not_eq_true] at ha
      simp [e, ha]
theorem RPs.put (hf : ∀ {a b i j}, f a = some i → f b = some j → keq a b = decide (i = j)) {k : W} {κ0 : κ} (ek : f k = some κ0) {w : W} {v : Vv} (rv : RW ρ H w v) : ∀ {ps : List (W × W)} {qs : List (κ × Vv)}, RPs f ρ H ps qs → (qs.map (·.1)).Nodup → RPs f ρ H (dput k w ps) (L2.putK qs κ0 v) := by
  intro ps qs r
  unfold RPs at r ⊢
  induction r with
  | nil => intro _; exact .cons ⟨ek, rv⟩ .nil
  | @cons p q ps qs r1 r2 ih =>
    intro n
    obtain ⟨k', u⟩ := p
    rw [putK_cons q qs κ0 v n]
    unfold dput
    rw [hf r1.1 ek]
    by_cases e : q.1 = κ0
    · rw [if_pos (by simpa using e), if_pos e]
      exact .cons ⟨by rw [← e]; exact r1.1, rv⟩ r2
    · rw [if_neg (by simpa using e), if_neg e]
      exact .cons r1 (ih (List.nodup_cons.mp n).2)
theorem nodup_put (k : κ) (v : Vv) : ∀ {qs : List (κ × Vv)}, (qs.map (·.1)).Nodup → ((L2.putK qs k v).map (·.1)).Nodup
  | [], _ => by simp [L2.putK]
  | q :: qs, n => by
    rw [putK_cons q qs k v n]
    have mem : ∀ {qs : List (κ × Vv)} {x : κ}, (qs.map (·.1)).Nodup → x ∈ (L2.putK qs k v).map (·.1) → x = k ∨ x ∈ qs.map (·.1) := by
      intro qs
      induction qs with
      | nil => intro x _ h; simp [L2.putK] at h; exact .inl h
      | cons a as ih =>
        intro x n h
        rw [putK_cons a as k v n] at h
        split at h
        · rename_i e
          rw [List.map_cons, List.mem_cons] at h
          rcases h with h | h
          · exact .inl h
          · exact .inr (List.mem_cons_of_mem _ h)
        · rw [List.map_cons, List.mem_cons] at h
          rcases h with h | h
          · exact .inr (by rw [h]; exact List.mem_cons_self)
          · exact (ih (List.nodup_cons.mp n).2 h).imp id fun z => List.mem_cons_of_mem _ z
    split
    · rename_i e
      rw [List.map_cons] at n ⊢
      rw [← e]
      exact n
    · rename_i e
      rw [List.map_cons, List.nodup_cons]
      refine ⟨fun h => ?_, nodup_put k v (List.nodup_cons.mp n).2⟩
      rcases mem (List.nodup_cons.mp n).2 h with h | h
      · exact e h
      · exact (List.nodup_cons.mp n).1 h
theorem RPs.merge (hf : ∀ {a b i j}, f a = some i → f b = some j → keq a b = decide (i = j)) : ∀ {more : List (W × W)} {ms : List (κ × Vv)} {ps : List (W × W)} {qs : List (κ × Vv)}, RPs f ρ H more ms → RPs f ρ H ps qs → (qs.map (·.1)).Nodup →
    RPs f ρ H (dmerge ps more) (ms.foldl (fun acc kv => L2.putK acc kv.1 kv.2) qs) ∧ ((ms.foldl (fun acc kv => L2.putK acc kv.1 kv.2) qs).map (·.1)).Nodup
  | [], _, ps, qs, r, r2, n => by cases r; exact ⟨r2, n⟩
  | (k, v) :: more, _, ps, qs, r, r2, n => by
    cases r with
    | @cons _ q _ ms r1 r3 =>
      exact RPs.merge (more := more) (ms := ms) (ps := dput k v ps) (qs := L2.putK qs q.1 q.2) hf r3 (RPs.put hf r1.1 r1.2 r2 n) (nodup_put q.1 q.2 n)
end
/-! ### displays of dicts -/
def RPW (ρ : List Addr) (H : HH) (ps : List (MP.W × MP.W)) (qs : List (Vv × Vv)) : Prop := Paired (fun p q => RW ρ H p.1 q.1 ∧ RW ρ H p.2 q.2) ps qs
section
variable {cA : CA} {fz : List Nat} {M : Cx} {W : L2.WX} {X : L2.Cx} {pos p2 p : Pos} {a b c tg : Expr} {ma mb mc : Ex}
theorem pairs_ok {σ : L2.St} : ∀ {ms : List (Ex × Ex)} {ρ : List Addr} {env : Env} {h : Hp} {H : HH} {Q : List (Vv × Vv) → HH → Prop}, RH cA ρ (· ∈ fz) h H → RE ρ H env σ → Good cA fz RPW (evp M ms env h) ρ H Q (L2.WE W σ) →
    L2.tPairs (ms.map fun m => (tE cA fz M W m.1, tE cA fz M W m.2)) σ H Q
  | [], ρ, env, h, H, Q, rh, re, g => by simp only [evp] at g; exact g.here rh .nil
  | (a, b) :: ms, ρ, env, h, H, Q, rh, re, g => by
    simp only [evp] at g
    refine ⟨ρ, env, h, rh, re, g.bind fun w h1 ρ1 v H1 _ x rh1 rv g1 => ⟨ρ1, env, h1, rh1, re.ext x, g1.bind fun u h2 ρ2 t H2 _ x2 rh2 rt g2 => ?_⟩⟩
    refine pairs_ok rh2 ((re.ext x).ext x2) (g2.bind fun us h3 ρ3 ts H3 _ x3 rh3 rr g3 => ?_)
    exact g3.here rh3 (.cons ⟨(rv.ext x2).ext x3, rt.ext x3⟩ rr)
theorem RPW.flat {ρ : List Addr} {H : HH} : ∀ {ps : List (MP.W × MP.W)} {qs : List (Vv × Vv)}, RPW ρ H ps qs → ps.all (fun p => isFlat p.1) = true → ∃ ks : List (KEY × Vv), qs = ks.map (fun kv => (L2.kV kv.1, kv.2)) ∧ RPs flatK ρ H ps ks
  | [], _, r, _ => by cases r; exact ⟨[], rfl, .nil⟩
  | p :: ps, _, r, e => by
    cases r with
    | @cons _ q _ qs r1 r2 =>
      simp only [List.all_cons, Bool.and_eq_true] at e
      obtain ⟨ks, rfl, r3⟩ := RPW.flat r2 e.2
      obtain ⟨k, hk⟩ := flatK_some e.1 r1.1
      refine ⟨(k, q.2) :: ks, ?_, .cons ⟨hk, r1.2⟩ r3⟩
      rw [List.map_cons, ← kV_of hk r1.1]
theorem k_dct {keys : List (Option Expr)} {values : List Expr} {ms : List (Ex × Ex)} (hp : L2.PPs X pos keys values (ms.map fun m => (tE cA fz M W m.1, tE cA fz M W m.2))) (hall : keys.all (·.isSome) = true) (hl : keys.length = values.length) (h0 : keys ≠ []) (h15 : keys.length ≤ 15) (hm : ms.length = keys.length) :
    L2.PE X (.Dict keys values pos) (tE cA fz M W (.dct ms)) :=
  PE.imp (L2.pe_disp hp hall hl h0 h15) fun σ H Q ⟨ρ, env, h, rh, re, g⟩ p hp => by
    simp only [ev] at g
    have np := rh.fresh hp
    obtain ⟨x0, rh0⟩ := rh.side (u := .dK []) hp
    refine pairs_ok (h := h) rh0 (re.ext x0) ?_
    have evl : ∀ {ms : List (Ex × Ex)} {env : Env} {h h' : Hp} {ws : List (MP.W × MP.W)}, evp M ms env h = .ok ws h' → ws.length = ms.length := by
      intro ms
      induction ms with
      | nil => intro env h h' ws e; simp only [evp] at e; cases e; rfl
      | cons m ms ih =>
        intro env h h' ws e
        obtain ⟨a, b⟩ := m
        simp only [evp] at e
        cases e1 : ev M a env h with
        | bad => rw [e1] at e; cases e
        | exc x h => rw [e1] at e; cases e
        | ok w h1 =>
          rw [e1] at e
          simp only [R.bind_ok] at e
          cases e2 : ev M b env h1 with
          | bad => rw [e2] at e; cases e
          | exc x h => rw [e2] at e; cases e
          | ok u h2 =>
            rw [e2] at e
            simp only [R.bind_ok] at e
            cases e3 : evp M ms env h2 with
            | bad => rw [e3] at e; cases e
            | exc x h => rw [e3] at e; cases e
            | ok us h3 => rw [e3] at e; cases e; rw [List.length_cons, List.length_cons, ih e3]
    cases hr : evp M ms env h with
    | bad => rw [hr] at g; exact g.elim
    | exc y h' => rw [hr] at g; exact fun ρ' c d H' x => g ρ' c d H' (x0.trans x)
    | ok ws h2 =>
      rw [hr] at g
      intro ρ2 qs H2 x rh2 rr
      obtain ⟨ed, g⟩ := Good.guardR (r := mk (.dct (dmerge [] ws)) h2) (b := dictOk ws) g
      obtain ⟨ks, rfl, rk⟩ := rr.flat ed
      have hp2 : H2 p = some (.dK []) := x.keep p _ np L2.upd_same
      have np2 : p ∉ ρ2 := fun hm => (x.new p hm).elim np fun z => by rw [L2.upd_same] at z; cases z
      have e0 : Ex0 ρ2 ρ2 H2 (L2.upd H2 p (.dK (L2.mergeK [] ks))) := ⟨List.prefix_refl _, fun t us z => by rw [L2.upd_ne fun q => by rw [q, hp2] at z; cases z]; exact z⟩
      have xx := x0.trans x
      refine ⟨hp2, ks, rfl, by rw [← Paired.length rk, evl hr, hm]; exact h15, ?_⟩
      obtain ⟨m1, m2⟩ := RPs.merge flat_keq (RPs.ext0 e0 rk) (.nil : RPs flatK ρ2 _ [] []) List.nodup_nil
      obtain ⟨rh3, hl3⟩ := (rh2.keep0 e0 fun t ht => L2.upd_ne fun q => np2 (q ▸ ht)).adopt (o := .dct (dmerge [] ws)) np2 (.inl ⟨_, RPs.ext0 ⟨List.prefix_append _ _, fun _ _ e => e⟩ m1, m2, .inl L2.upd_same⟩)
      refine g (ρ2 ++ [p]) _ _ ⟨xx.pre.trans (List.prefix_append _ _), fun t us z => e0.tup t us (xx.tup t us z), fun t o us z => ?_, fun t z => xx.dom t (dom_upd t z), fun t ht => ?_, fun t us nt z => ?_⟩ rh3 ⟨p, rfl, hl3⟩
      · have q := xx.frz t o us z
        rw [L2.upd_ne fun q2 => by rw [q2, hp2] at q; cases q]; exact q
      · rcases List.mem_append.mp ht with ht | ht
        · exact xx.new t ht
        · rw [List.mem_singleton.mp ht]; exact .inr hp
      · rw [L2.upd_ne fun q2 => by rw [q2, hp] at z; cases z]; exact xx.keep t us nt z
theorem k_dct0 : L2.PE X (.Dict [] [] pos) (tE cA fz M W (.dct [])) :=
  PE.imp L2.pe_dnewK fun σ H Q ⟨ρ, env, h, rh, re, g⟩ => by
    simp only [ev, evp, R.bind_ok] at g
    obtain ⟨_, g⟩ := Good.guardR (r := mk (.dct (dmerge [] [])) h) (b := dictOk []) g
    exact mk_dK g rh .nil List.nodup_nil
end
end MP

namespace MP
open PySem PySem.Spec PyProof.Rows
/-! ### methods -/
section
variable {X : L2.Cx} {o e : Expr} {to te : L2.TE} {apos pos : Pos}
def tL1 (K : PySem.W.Frag) (r : Vv → List Vv → HH → L2.VK → Prop) (to te : L2.TE) : L2.TE := fun σ H Q => to σ H fun x H1 => (∃ a xs, x = .ref a ∧ L2.SqL K H1 a xs) ∧ te σ H1 fun y H2 => r x [y] H2 Q
theorem pe_l1 {id : String} {name : Str} {r : Vv → List Vv → HH → L2.VK → Prop} (slot : Slot "list" name id) (ty : typeOf (.builtin id) = pure (.type "method_descriptor")) (rule : L2.MtM X id r) (ho : L2.PE X o to) (he : L2.PE X e te)
    (hs : starEach [e] X.env = [(false, eval e X.env)]) (hbase : attributeBase o name X.env (eval o X.env) = eval o X.env) (hline : (apos.endLine == pos.line) = true) : L2.PE X (.Call (.Attribute o name apos) [e] [] pos) (tL1 X.K r to te) := by
  refine ⟨fun pins s σ H Q I h => ?_⟩
  refine PySem.Call_method1 hbase hs hline (L2.thn (ho.run pins s σ H _ I h) fun v s1 ⟨x, H1, I1, r1, ⟨a, xs, ex, hq⟩, q1⟩ => ?_)
  subst ex
  obtain rfl : v = Value.ref a := r1
  obtain ⟨its, _, ⟨ob, n, ho, hc, hd, hs⟩, _⟩ := I1.list hq
  refine ⟨"list", _, F.plainAttrs_list, slot, ty, ⟨ob, ho, hc⟩, fun b eb => ?_, Calls.callWith_builtin rfl (Calls.evalArgs_plain (Calls.spliced_cons ?_))⟩
  · cases eb
    exact ⟨ob, ho, hd⟩
  · exact L2.thn (he.run pins s1 σ H1 _ I1 q1) fun u s2 ⟨y, H2, I2, r2, q2⟩ => Calls.spliced_nil (rule pins s2 σ H2 (.ref a) [y] _ [u] Q I2 rfl (.cons r2 .nil) q2)
end
theorem put_ok {lk : List Nat} {a : Nat} {o : O} {h : Hp} {α β : Type} {cA : CA} {fz : List Nat} {R1 : Rel α β} {f : Hp → MP.R α} {ρ : List Addr} {H : HH} {Q : β → HH → Prop} {E : L2.XK} (g : Good cA fz R1 ((put lk a o h).bind fun _ h => f h) ρ H Q E) :
    a < h.length ∧ a ∉ lk ∧ Good cA fz R1 (f (h.set a o)) ρ H Q E := by
  unfold put at g
  split at g
  · rename_i hc
    exact ⟨hc.1, hc.2, g⟩
  · exact g.elim
theorem strs_rel {ρ : List Addr} {H : HH} : ∀ {ws : List MP.W} {zs : List (List Nat)}, strsV ws = some zs → ∀ {vs : List Vv}, RWs ρ H ws vs → vs = (zs.map sv).map .str
  | [], _, e, _, r => by cases e; cases r; rfl
  | .str s :: ws, zs, e, _, r => by
    obtain ⟨v, t, rfl, r1, r2⟩ := r
    simp only [strsV] at e
    cases h : strsV ws with
    | none => rw [h] at e; cases e
    | some l =>
      rw [h] at e
      cases e
      rw [r1.2, strs_rel h r2]
      rfl
  | .non :: _, _, e, _, _ => by cases e
  | .bl _ :: _, _, e, _, _ => by cases e
  | .int _ :: _, _, e, _, _ => by cases e
  | .tup _ :: _, _, e, _, _ => by cases e
  | .ref _ :: _, _, e, _, _ => by cases e
theorem joinS_eq (s : List Nat) : ∀ zs : List (List Nat), joinS s zs = TL.joinL s zs
  | [] => rfl
  | [_] => rfl
  | x :: y :: r => by
    unfold joinS
    show _ = x ++ (s ++ TL.joinL s (y :: r))
    rw [joinS_eq s (y :: r), List.append_assoc]
theorem joinS_len (s : List Nat) : ∀ zs : List (List Nat), (joinS s zs).length ≤ (zs.map List.length).sum + zs.length * s.length
  | [] => by simp [joinS]
  | [x] => by simp [joinS]
  | x :: y :: r => by
    have := joinS_len s (y :: r)
    unfold joinS
    rw [List.length_append, List.length_append]
    simp only [List.map_cons, List.sum_cons, List.length_cons, Nat.add_mul, Nat.one_mul] at this ⊢
    omega
theorem join_eq (s : List Nat) (zs : List (List Nat)) : Txt.join (sv s) (zs.map sv) = sv (joinS s zs) := by
  rw [joinS_eq]
  apply TL.ext_tl
  rw [TL.join_eq, TL.tl_join]
  rw [List.map_map]
  have : (TL.tl ∘ sv) = id := by funext x; rfl
  rw [this, List.map_id]
  rfl
section
variable {cA : CA} {fz : List Nat} {M : Cx} {W : L2.WX} {X : L2.Cx} {apos pos p2 p : Pos} {o e : Expr} {mo me : Ex}
/-- a built-in's method -/
def isM (m : String) (h : Hp) : MP.W → Prop
  | .ref n => (∃ xs, rd h n = some (.lst xs) ∧ m ∈ lstM) ∨ ∃ kvs, rd h n = some (.dct kvs) ∧ m ∈ dctM
  | .str _ => m ∈ strM
  | .int _ => m = "bit_length"
  | _ => False
/-- the receiver's method, none of the text's own -/
theorem mth_no {T : Prog} {m : String} {L : Nat → Prop} {ρ : List Addr} {h : Hp} {H : HH} (hno : ∀ c ∈ cA.cls, T.mt c m = none) (rh : RH cA ρ L h H) {w : MP.W} {v : Vv} (rv : RW ρ H w v) {t : Mth} (e : mthOf T w m h = some t) : t = .blt ∧ isM m h w := by
  cases w with
  | ref n =>
    have e : mthO T m (rd h n) = some t := e
    cases hr : rd h n with
    | none => rw [hr] at e; cases e
    | some ob =>
      rw [hr] at e
      cases ob with
      | lst xs =>
        have e : (if m ∈ lstM then some Mth.blt else none) = some t := e
        split at e
        · rename_i hm; cases e; exact ⟨rfl, .inl ⟨xs, hr, hm⟩⟩
        · cases e
      | dct kvs =>
        have e : (if m ∈ dctM then some Mth.blt else none) = some t := e
        split at e
        · rename_i hm; cases e; exact ⟨rfl, .inr ⟨kvs, hr, hm⟩⟩
        · cases e
      | ins c fs =>
        have e : (if (fs.lookup m).isNone then (T.mt c m).map Mth.own else none) = some t := e
        split at e
        · obtain ⟨a, _, dx, gs, hc, _⟩ := rh.get hr
          rw [hno c hc] at e
          cases e
        · cases e
  | str s =>
    have e : (if m ∈ strM then some Mth.blt else none) = some t := e
    split at e
    · rename_i hm; cases e; exact ⟨rfl, hm⟩
    · cases e
  | int s =>
    have e : (if m = "bit_length" then some Mth.blt else none) = some t := e
    split at e
    · rename_i hm; cases e; exact ⟨rfl, hm⟩
    · cases e
  | _ => cases e
theorem evs1 {m : Ex} {env : Env} {h : Hp} : evs M [m] env h = (ev M m env h).bind fun x h => .ok [x] h := by
  simp only [evs, R.bind_ok]
theorem k_append (hz : ∀ n ∈ fz, n ∈ M.lk) (hno : ∀ c ∈ cA.cls, M.T.mt c "append" = none) (ho : L2.PE X o (tE cA fz M W mo)) (he : L2.PE X e (tE cA fz M W me)) (hs : starEach [e] X.env = [(false, eval e X.env)]) (hbase : attributeBase o "append" X.env (eval o X.env) = eval o X.env) (hline : (apos.endLine == pos.line) = true) :
    L2.PE X (.Call (.Attribute o "append" apos) [e] [] pos) (tE cA fz M W (.meth mo "append" [me])) :=
  PE.imp (pe_l1 F.slot_list_append F.type_list_append L2.mt_append ho he hs hbase hline) fun σ H Q h => tG.bind h fun ρ env h w v H1 rh re rv g => by
    obtain ⟨t, et, g⟩ := g.thenO
    obtain ⟨rfl, hm⟩ := mth_no hno rh rv et
    cases w with
    | ref n =>
      obtain ⟨a, rfl, ha⟩ := rv
      rcases hm with ⟨xs, e1, _⟩ | ⟨kvs, _, hm⟩
      · obtain ⟨a', ha', vs, rr, z⟩ := rh.get e1
        rw [ha] at ha'; cases ha'
        refine ⟨⟨a, vs, rfl, z.seqL⟩, ρ, env, h, rh, re, ?_⟩
        rw [evs1] at g
        simp only at g
        cases hr : ev M me env h with
        | bad => rw [hr] at g; exact g.elim
        | exc y h' => rw [hr] at g; exact g
        | ok y h' =>
          rw [hr] at g
          intro ρ2 u H2 x rh2 ru
          have g : Good cA fz RW (bmO M.lk n "append" [y] h' (rd h' n)) ρ H1 Q _ := g
          have ha2 := x.ix ha
          unfold bmO at g
          split at g
          · rename_i ys e2
            obtain ⟨a', ha', vs2, rr2, z2⟩ := rh2.get e2
            rw [ha2] at ha'; cases ha'
            have g : Good cA fz RW (guardR (decide (ys.length < LINE)) (putV M.lk n (.lst (ys ++ [y])) .non h')) ρ H1 Q _ := g
            obtain ⟨el, g⟩ := g.guardR
            obtain ⟨hl, hlk, g⟩ := put_ok (f := fun h => .ok MP.W.non h) g
            have hp := z2.plain fun hc => hlk (hz n hc)
            obtain ⟨x3, rh3⟩ := rh2.write (u := .lst (vs2 ++ [u])) (o := .lst (ys ++ [y])) ha2 (by rw [hp]; exact trivial) fun x3 => ⟨vs2 ++ [u], (rr2.ext x3).append ⟨u, [], rfl, ru.ext x3, rfl⟩, .inl L2.upd_same⟩
            exact ⟨a, vs2, u, rfl, rfl, hp, by rw [← rr2.length]; exact Nat.lt_of_lt_of_le (of_decide_eq_true el) line_le, g ρ2 .non _ (x.trans x3) rh3 rfl⟩
          · have g : Good cA fz RW (bmD M.lk n _ "append" [y] h') ρ H1 Q _ := g
            exact g.elim
          · exact g.elim
      · exact absurd hm (by decide)
    | str s => exact absurd (show "append" ∈ strM from hm) (by decide)
    | int s => exact absurd (show "append" = "bit_length" from hm) (by decide)
    | _ => exact hm.elim
theorem k_join (hno : ∀ c ∈ cA.cls, M.T.mt c "join" = none) (ho : L2.PE X o (tE cA fz M W mo)) (he : L2.PE X e (tE cA fz M W me)) (hs : starEach [e] X.env = [(false, eval e X.env)]) (hbase : attributeBase o "join" X.env (eval o X.env) = eval o X.env) (hline : (apos.endLine == pos.line) = true) :
    L2.PE X (.Call (.Attribute o "join" apos) [e] [] pos) (tE cA fz M W (.meth mo "join" [me])) :=
  PE.imp (L2.pe_join ho he hs hbase hline) fun σ H Q h => tG.bind h fun ρ env h w v H1 rh re rv g => by
    obtain ⟨t, et, g⟩ := g.thenO
    obtain ⟨rfl, hm⟩ := mth_no hno rh rv et
    cases w with
    | str s =>
      obtain ⟨hl, rfl⟩ := rv
      refine ⟨⟨_, rfl⟩, ρ, env, h, rh, re, ?_⟩
      rw [evs1] at g
      simp only at g
      cases hr : ev M me env h with
      | bad => rw [hr] at g; exact g.elim
      | exc y h' => rw [hr] at g; exact g
      | ok y h' =>
        rw [hr] at g
        intro ρ2 u H2 x rh2 ru
        have g : Good cA fz RW (thenO (lotV y h') fun p => thenO (strsV p) fun zs => guardR (decide ((zs.map List.length).sum + zs.length * s.length ≤ LINE)) (.ok (.str (joinS s zs)) h')) ρ H1 Q _ := g
        obtain ⟨ws, e1, g⟩ := g.thenO
        obtain ⟨zs, e2, g⟩ := g.thenO
        obtain ⟨el, g⟩ := g.guardR
        have el := of_decide_eq_true el
        have hsum : ((zs.map sv).map (·.length)).sum + (zs.map sv).length * (sv s).length ≤ 16777216 := by
          rw [List.map_map, List.length_map]
          exact Nat.le_trans el (by decide)
        have fin : Q (.str (Txt.join (sv s) (zs.map sv))) H2 := by
          rw [join_eq]
          exact g ρ2 _ H2 x rh2 ⟨Nat.le_trans (joinS_len s zs) el, rfl⟩
        cases y with
        | tup xs =>
          cases e1
          obtain ⟨a, vs, rfl, ha, rr⟩ := ru
          exact ⟨sv s, a, zs.map sv, rfl, rfl, .inr (by rw [← strs_rel e2 rr]; exact .of ha), hsum, fin⟩
        | ref n =>
          obtain ⟨a, rfl, ha⟩ := ru
          unfold lotV at e1
          simp only at e1
          split at e1
          · rename_i xs e3
            cases e1
            obtain ⟨a', ha', vs, rr, z⟩ := rh2.get e3
            rw [ha] at ha'; cases ha'
            exact ⟨sv s, a, zs.map sv, rfl, rfl, .inl (by rw [← strs_rel e2 rr]; exact z.seqL), hsum, fin⟩
          · cases e1
        | _ => cases e1
    | ref n => rcases hm with ⟨_, _, hm⟩ | ⟨_, _, hm⟩ <;> exact absurd hm (by decide)
    | int s => exact absurd (show "join" = "bit_length" from hm) (by decide)
    | _ => exact hm.elim
theorem k_bits (hno : ∀ c ∈ cA.cls, M.T.mt c "bit_length" = none) (ho : L2.PE X o (tE cA fz M W mo)) (hbase : attributeBase o "bit_length" X.env (eval o X.env) = eval o X.env) (hline : (apos.endLine == pos.line) = true) :
    L2.PE X (.Call (.Attribute o "bit_length" apos) [] [] pos) (tE cA fz M W (.meth mo "bit_length" [])) :=
  PE.imp (L2.pe_bits ho hbase hline) fun σ H Q h => tG.bind h fun ρ env h w v H1 rh re rv g => by
    obtain ⟨t, et, g⟩ := g.thenO
    obtain ⟨rfl, hm⟩ := mth_no hno rh rv et
    cases w with
    | int i =>
      cases rv
      refine ⟨i, rfl, ?_⟩
      have e : Builtin.Int.intBits i = if i = 0 then 0 else i.natAbs.log2 + 1 := by
        unfold Builtin.Int.intBits
        by_cases hi : i = 0 <;> simp [hi]
      rw [e]
      refine Good.here (w := MP.W.int (if i = 0 then 0 else (i.natAbs.log2 + 1 : Nat))) g rh ?_
      show (_ : Vv) = _
      by_cases hi : i = 0 <;> simp [hi]
    | ref n => rcases hm with ⟨_, _, hm⟩ | ⟨_, _, hm⟩ <;> exact absurd hm (by decide)
    | str s => exact absurd (show "bit_length" ∈ strM from hm) (by decide)
    | _ => exact hm.elim
end
end MP

namespace MP
open PySem PySem.Spec PyProof.Rows
/-! ### the text and the little language side by side -/
/-- what a global name is -/
inductive GK where
  | fn (f : String) | cls (c : String) | blt (id : String) | ty (t : String) | str (s : List Nat) | int (i : Int)
  deriving DecidableEq
/-- slots, scope, globals -/
structure CS where
  N : List Str
  sc : Scope
  G : List (Str × GK)
  cA : CA
  T : Prog
  top : Bool := true
def isG (S : CS) (x : Str) (g : GK) : Bool := decide (S.G.lookup x = some g) && decide (S.sc.names.lookup x = some .globalImplicit) && !(x == ("__debug__" : Str))
def isV (S : CS) (i : Nat) (x : Str) : Bool := decide (S.N[i]? = some x) && (decide (S.sc.names.lookup x = some .local) || decide (S.sc.names.lookup x = some .cell) || decide (S.sc.names.lookup x = some .free)) && !(x == ("__debug__" : Str)) && !(x == ("__classdict__" : Str))
def isL (S : CS) (i : Nat) (x : Str) : Bool := decide (S.N[i]? = some x) && (decide (S.sc.names.lookup x = some .local) || (S.top && decide (S.sc.names.lookup x = some .cell)))
def noOwn (S : CS) (m : String) : Bool := S.cA.cls.all fun c => decide (S.T.mt c m = none)
def bltG : Blt → Option GK
  | .len => some (.blt "len")
  | .divmod => some (.blt "divmod")
  | .int => some (.ty "int")
  | .min2 => some (.blt "min")
  | .max2 => some (.blt "max")
  | _ => none
def tyG (t : Ty) : GK := match t with
  | .int => .ty "int" | .bool => .ty "bool" | .str => .ty "str" | .list => .ty "list" | .tuple => .ty "tuple" | .dict => .ty "dict"
  | .own c => .cls c
/-- no call that a super may stand in -/
def noSup : Expr → Bool
  | .Call _ _ _ _ => false
  | _ => true
def ownOf (N : List Str) (own : List Nat) : List (Str × Nat) := own.filterMap fun i => (N[i]?).map fun x => (x, i)
def chkBlk (S : CS) (scope : Scope) (own : List Nat) : Bool :=
  decide ((ownOf S.N own).map (·.2) = own) && decide (scope.kind = .function) && scope.names.all (fun y => decide (scope.names.lookup y.1 = some y.2)) && (ownOf S.N own).all (fun p => decide (S.N[p.2]? = some p.1)) &&
    scope.names.all (fun y => !decide (y.2 = .free) || decide (S.sc.names.lookup y.1 = some .cell) || decide (S.sc.names.lookup y.1 = some .free)) &&
    scope.names.all (fun y => !(decide (y.2 = .local) || decide (y.2 = .cell)) || decide (y.1 ∈ (ownOf S.N own).map (·.1)) || decide (y.1 ∉ S.N))
def CS.blk (S : CS) (scope : Scope) : CS := { S with sc := L2.relS scope S.sc, top := false }
def chkNs (S : CS) : List Nat → List Expr → Bool
  | [], [] => true
  | i :: is, .Name x _ :: es => isL S i x && chkNs S is es
  | _, _ => false
def chkTg (S : CS) : Tg → Expr → Bool
  | .name i, .Name x _ => isL S i x
  | .tup is, .Tuple es _ _ => chkNs S is es
  | _, _ => false
mutual
def chkE (S : CS) : Ex → Expr → Bool
  | .non, e => match e with
    | .Constant .none _ _ => true
    | _ => false
  | .bl b, e => match e with
    | .Constant (.bool c) _ _ => decide (c = b)
    | _ => false
  | .int i, e => match e with
    | .Constant (.int j) _ _ => decide (j = i)
    | .Name x _ => isG S x (.int i)
    | _ => false
  | .str s, e => match e with
    | .Constant (.str x) _ _ => decide (x = sv s) && decide (s.length ≤ LINE)
    | .Name x _ => isG S x (.str s)
    | _ => false
  | .var i, e => match e with
    | .Name x _ => isV S i x
    | _ => false
  | .bin op a b, e => match e with
    | .BinOp l o r _ => decide (o = pyOp op) && chkE S a l && chkE S b r
    | _ => false
  | .neg a, e => match e with
    | .UnaryOp o x _ => decide (o = .USub) && chkE S a x
    | _ => false
  | .cmp op a b, e => match e with
    | .Compare l [o] [r] _ => decide (o = pyCmp op) && chkE S a l && chkE S b r
    | _ => false
  | .chain op op' a b c, e => match e with
    | .Compare l [o, o'] [r, t] _ => decide (o = pyCmp op) && decide (o' = pyCmp op') && chkE S a l && chkE S b r && chkE S c t
    | _ => false
  | .and a b, e => match e with
    | .BoolOp o [x, y] _ => decide (o = .And) && chkE S a x && chkE S b y
    | .BoolOp o (x :: y :: z :: rest) p => decide (o = .And) && chkE S a x && chkE S b (.BoolOp .And (y :: z :: rest) p)
    | _ => false
  | .or a b, e => match e with
    | .BoolOp o [x, y] _ => decide (o = .Or) && chkE S a x && chkE S b y
    | .BoolOp o (x :: y :: z :: rest) p => decide (o = .Or) && chkE S a x && chkE S b (.BoolOp .Or (y :: z :: rest) p)
    | _ => false
  | .not a, e => match e with
    | .UnaryOp o x _ => decide (o = .Not) && chkE S a x
    | _ => false
  | .ife c a b, e => match e with
    | .IfExp t x y _ => chkE S c t && chkE S a x && chkE S b y
    | _ => false
  | .ix o i, e => match e with
    | .Subscript v s _ => chkE S o v && chkE S i s
    | _ => false
  | .sl o lo hi, e => match e with
    | .Subscript v (.Slice l h none _) _ => chkE S o v && chkO S lo l && chkO S hi h
    | _ => false
  | .tup es, e => match e with
    | .Tuple xs _ _ => chkEs S es xs && decide (es.length ≤ 1000)
    | _ => false
  | .lst es, e => match e with
    | .List xs _ => chkEs S es xs && decide (es.length ≤ 1000)
    | _ => false
  | .dct kvs, e => match e with
    | .Dict ks vs _ => chkP S kvs ks vs && decide (kvs.length ≤ 15)
    | _ => false
  | .call f es, e => match e with
    | .Call (.Name x _) [] [] _ => isG S x (.fn f) && es.isEmpty
    | .Call (.Name x _) (a :: args) [] _ => isG S x (.fn f) && chkEs S es (a :: args)
    | _ => false
  | .blt b es, e => match e with
    | .Call (.Name x _) (a :: args) [] _ => (match bltG b with
      | some g => isG S x g
      | none => false) && chkEs S es (a :: args)
    | _ => false
  | .isi a t, e => match e with
    | .Call (.Name x _) [v, .Name c _] [] _ => isG S x (.blt "isinstance") && isG S c (tyG t) && tyOk S.cA t && chkE S a v
    | _ => false
  | .comp own elt tg it none, e => match e with
    | .ListComp v [⟨tx, ix, [], k⟩] scope _ => decide (k = 0) && chkBlk S scope own && chkTg (S.blk scope) tg tx && (tgIx tg).all (fun i => decide (i ∈ own)) && chkI S it ix && chkE (S.blk scope) elt v
    | _ => false
  | .comp own elt tg it (some c), e => match e with
    | .ListComp v [⟨tx, ix, [q], k⟩] scope _ => decide (k = 0) && chkBlk S scope own && chkTg (S.blk scope) tg tx && (tgIx tg).all (fun i => decide (i ∈ own)) && chkI S it ix && chkE (S.blk scope) elt v && chkE (S.blk scope) c q
    | _ => false
  | .meth o m [], e => match e with
    | .Call (.Attribute v n ap) [] [] p => decide (m = "bit_length") && decide (n = Str.ofString m) && noOwn S m && noSup v && (ap.endLine == p.line) && chkE S o v
    | _ => false
  | .meth o m [a], e => match e with
    | .Call (.Attribute v n ap) [x] [] p => decide (m = "join" ∨ m = "append") && decide (n = Str.ofString m) && noOwn S m && noSup v && (ap.endLine == p.line) && chkE S o v && chkE S a x
    | _ => false
  | _, _ => false
def chkO (S : CS) : Option Ex → Option Expr → Bool
  | none, e => match e with
    | none => true
    | some _ => false
  | some m, e => match e with
    | some e => chkE S m e
    | none => false
def chkEs (S : CS) : List Ex → List Expr → Bool
  | [], e => match e with
    | [] => true
    | _ => false
  | m :: ms, e => match e with
    | x :: xs => chkE S m x && chkEs S ms xs
    | _ => false
def chkP (S : CS) : List (Ex × Ex) → List (Option Expr) → List Expr → Bool
  | [], ks, vs => match ks, vs with
    | [], [] => true
    | _, _ => false
  | (a, b) :: ms, ks, vs => match ks, vs with
    | some k :: ks, v :: vs => chkE S a k && chkE S b v && chkP S ms ks vs
    | _, _ => false
def chkI (S : CS) : It → Expr → Bool
  | .val m, e => chkE S m e
  | .rng a, e => match e with
    | .Call (.Name x _) [v] [] _ => decide (x = Str.ofString "range") && isG S x (.ty "range") && chkE S a v
    | _ => false
  | .rng2 a b, e => match e with
    | .Call (.Name x _) [v, u] [] _ => decide (x = Str.ofString "range") && isG S x (.ty "range") && chkE S a v && chkE S b u
    | _ => false
  | .rng3 a b c, e => match e with
    | .Call (.Name x _) [v, u, t] [] _ => decide (x = Str.ofString "range") && isG S x (.ty "range") && chkE S a v && chkE S b u && chkE S c t
    | _ => false
  | _, _ => false
end
/-! ### what a context must have -/
def GOk (cA : CA) (T : Prog) (n : Nat) (X : L2.Cx) (x : Str) : GK → Prop
  | .fn f => ∃ a fd ps, X.mg x = some (.ref a) ∧ FnAt cA T X.prog X.w X.K X.mg X.base n f a fd ps
  | .cls c => X.mg x = some (.ref (cA.ad c))
  | .blt id => X.mg x = none ∧ bootBuiltins x = some (.builtin id) ∧ x ≠ "__name__"
  | .ty t => X.mg x = none ∧ bootBuiltins x = some (.type t) ∧ x ≠ "__name__"
  | .str s => s.length ≤ LINE ∧ ∃ u, X.mg x = some u ∧ L2.RelV (.str (sv s)) u
  | .int i => ∃ u, X.mg x = some u ∧ L2.RelV (.int i) u
structure SX (S : CS) (n : Nat) (fz : List Nat) (M : Cx) (W : L2.WX) (X : L2.Cx) : Prop where
  T : M.T = S.T
  call : M.call = run S.T n
  fz : ∀ m ∈ fz, m ∈ M.lk
  N : X.N = S.N
  nd : S.N.Nodup
  sc : X.env.scope = S.sc
  calm : X.calm = true
  tk : L2.Takes X W
  rm : L2.Room (2 * n) X.A
  fn : S.top = true → ∀ x, X.fn x = true
  G : ∀ x g, S.G.lookup x = some g → GOk S.cA S.T n X x g
  cf : CF S.cA S.T X.K
section
variable {S : CS} {n : Nat} {fz : List Nat} {M : Cx} {W : L2.WX} {X : L2.Cx}
theorem SX.ck (C : SX S n fz M W X) : CK M := by
  intro lk f xs h
  rw [C.call]
  exact rk_run S.T n lk f xs h
theorem SX.lock (C : SX S n fz M W X) (as : List Nat) : SX S n fz (M.lock as) W X := ⟨C.T, C.call, fun m hm => List.mem_append_right _ (C.fz m hm), C.N, C.nd, C.sc, C.calm, C.tk, C.rm, C.fn, C.G, C.cf⟩
theorem SX.blk (C : SX S n fz M W X) (scope : Scope) (s : Shared) (H : HH) (A : Addr) (cl : List (Str × Addr)) (fp : List Addr) : SX (S.blk scope) n fz M W0 (X.blk s H scope (compEnvC scope cl A X.env) fp) :=
  ⟨C.T, C.call, C.fz, C.N, C.nd, by show relabel scope X.env = L2.relS scope S.sc; rw [← C.sc]; rfl, C.calm, L2.takes0, C.rm, (fun e => by cases e), fun x g e => C.G x g e, C.cf⟩
end
/-! ### readings of the checks -/
theorem and3 {a b : Bool} (h : (a && b) = true) : a = true ∧ b = true := by simpa using h
section
variable {S : CS} {n : Nat} {fz : List Nat} {M : Cx} {W : L2.WX} {X : L2.Cx}
theorem isG_ok (C : SX S n fz M W X) {x : Str} {g : GK} (h : isG S x g = true) : GOk S.cA S.T n X x g ∧ L2.Gl X x ∧ (x == ("__debug__" : Str)) = false := by
  unfold isG at h
  simp only [Bool.and_eq_true, decide_eq_true_eq, Bool.not_eq_true'] at h
  exact ⟨C.G x g h.1.1, by show X.env.scope.names.lookup x = _; rw [C.sc]; exact h.1.2, h.2⟩
theorem isV_ok (C : SX S n fz M W X) {i : Nat} {x : Str} (h : isV S i x = true) : X.N[i]? = some x ∧ L2.Vis X.env.scope x ∧ (x == ("__debug__" : Str)) = false ∧ (x == ("__classdict__" : Str)) = false := by
  unfold isV at h
  simp only [Bool.and_eq_true, decide_eq_true_eq, Bool.not_eq_true', Bool.or_eq_true] at h
  refine ⟨by rw [C.N]; exact h.1.1.1, ?_, h.1.2, h.2⟩
  unfold L2.Vis
  rw [C.sc]
  rcases h.1.1.2 with (h | h) | h
  · exact .inl h
  · exact .inr (.inl h)
  · exact .inr (.inr h)
theorem isL_ok (C : SX S n fz M W X) {i : Nat} {x : Str} (h : isL S i x = true) : X.N[i]? = some x ∧ L2.Loc X.env.scope x ∧ (X.fn x = true ∨ X.env.scope.names.lookup x = some .local) := by
  unfold isL at h
  simp only [Bool.and_eq_true, decide_eq_true_eq, Bool.or_eq_true] at h
  unfold L2.Loc
  rw [C.N, C.sc]
  refine ⟨h.1, h.2.imp id (·.2), ?_⟩
  rcases h.2 with h | h
  · exact .inr h
  · exact .inl (C.fn h.1 x)
theorem SX.hu (C : SX S n fz M W X) : X.A.units + 64 < cLine := C.rm.units
theorem noOwn_ok (C : SX S n fz M W X) {m : String} (h : noOwn S m = true) : ∀ c ∈ S.cA.cls, M.T.mt c m = none := fun c hc => by
  rw [C.T]
  exact of_decide_eq_true (List.all_eq_true.mp h c hc)
/-- no star, no set -/
def plainX : Expr → Bool
  | .Starred _ _ => false
  | .Set _ _ _ => false
  | .Slice _ _ _ _ => false
  | _ => true
theorem star_ok {e : Expr} {es : List Expr} {env : PySem.Env} (h : plainX e = true) : starEach (e :: es) env = (false, eval e env) :: starEach es env := by
  cases e <;> first | rfl | cases h
theorem set_ok {e : Expr} {op : PySem.CmpOp} (h : plainX e = true) : behindInMarks op e = false := by
  cases e <;> first | rfl | cases h
theorem ix_ok {e : Expr} (h : plainX e = true) : L2.PlainIx e := by
  cases e <;> first | (intro _ _; rfl) | cases h
theorem fold_ok {e : Expr} {env : PySem.Env} (h : plainX e = true) : ∀ x, foldedSetIterable e env x = pure x := by
  cases e <;> first | (intro _; rfl) | cases h
theorem base_ok {e : Expr} {m : Str} {env : PySem.Env} {wh : Sem Value} (h : noSup e = true) : attributeBase e m env wh = wh := by
  cases e <;> first | rfl | cases h
theorem chk_plain : ∀ (m : Ex) (e : Expr), chkE S m e = true → plainX e = true := by
  intro m e h
  cases e with
  | Starred a p => cases m <;> first | (simp [chkE] at h; done) | (rename_i c; cases c <;> simp [chkE] at h) | (rename_i es; rcases es with _ | ⟨a, _ | ⟨b, r⟩⟩ <;> simp [chkE] at h)
  | Set a k p => cases m <;> first | (simp [chkE] at h; done) | (rename_i c; cases c <;> simp [chkE] at h) | (rename_i es; rcases es with _ | ⟨a, _ | ⟨b, r⟩⟩ <;> simp [chkE] at h)
  | Slice a k c p => cases m <;> first | (simp [chkE] at h; done) | (rename_i c; cases c <;> simp [chkE] at h) | (rename_i es; rcases es with _ | ⟨a, _ | ⟨b, r⟩⟩ <;> simp [chkE] at h)
  | _ => rfl
theorem any_ok : ∀ {ms : List Ex} {es : List Expr} {env : PySem.Env} {pos : Pos}, chkEs S ms es = true → (backTo pos (starEach es env)).any (·.1) = false
  | [], es, env, pos, h => by cases es <;> first | rfl | simp [chkEs] at h
  | m :: ms, [], env, pos, h => by rfl
  | m :: ms, e :: es, env, pos, h => by
    simp only [chkEs, Bool.and_eq_true] at h
    rw [star_ok (chk_plain m e h.1)]
    show (false || (backTo pos (starEach es env)).any (·.1)) = false
    rw [any_ok h.2]
    rfl
end
end MP

namespace MP
open PySem PySem.Spec PyProof.Rows
section
variable {S : CS} {n : Nat} {fz : List Nat} {M : Cx} {W : L2.WX} {X : L2.Cx}
theorem ns_ok (C : SX S n fz M W X) : ∀ {is : List Nat} {es : List Expr}, chkNs S is es = true → L2.PGs X es (gTs S.cA is) ∧ (assignEach es X.env).length = is.length ∧ (assignEach es X.env).findIdx? (·.1) = none
  | [], es, h => by
    cases es with
    | nil => exact ⟨gs_nil, rfl, rfl⟩
    | cons e es => cases e <;> simp [chkNs] at h
  | i :: is, es, h => by
    cases es with
    | nil => simp [chkNs] at h
    | cons e es =>
      cases e with
      | Name x p =>
        simp only [chkNs, Bool.and_eq_true] at h
        obtain ⟨h1, h2, h3⟩ := isL_ok C h.1
        obtain ⟨g1, g2, g3⟩ := ns_ok C h.2
        refine ⟨gs_cons (by rw [C.N]; exact C.nd) h1 h2 h3 g1, ?_, ?_⟩
        · show (assignEach es X.env).length + 1 = is.length + 1
          rw [g2]
        · show List.findIdx? (·.1) ((false, assign (.Name x p) X.env) :: assignEach es X.env) = none
          rw [List.findIdx?_cons, g3]
          rfl
      | _ => simp [chkNs] at h
theorem tg_ok (C : SX S n fz M W X) {tg : Tg} {e : Expr} (h : chkTg S tg e = true) : L2.PG X e (gT S.cA fz tg) := by
  cases tg with
  | name i =>
    cases e with
    | Name x p =>
      obtain ⟨h1, h2, h3⟩ := isL_ok C (show isL S i x = true from h)
      exact g_name (by rw [C.N]; exact C.nd) h1 h2 h3
    | _ => simp [chkTg] at h
  | tup is =>
    cases e with
    | Tuple es k p =>
      obtain ⟨g1, g2, g3⟩ := ns_ok C (show chkNs S is es = true from h)
      exact g_tup C.calm g1 g2 g3
    | _ => simp [chkTg] at h
theorem blk_ok (C : SX S n fz M W X) {scope : Scope} {own : List Nat} (h : chkBlk S scope own = true) : (ownOf S.N own).map (·.2) = own ∧ L2.BlkOk X.N X.env.scope scope (ownOf S.N own) := by
  unfold chkBlk at h
  simp only [Bool.and_eq_true, decide_eq_true_eq, List.all_eq_true, Bool.or_eq_true, Bool.not_eq_true', decide_eq_false_iff_not, Bool.or_eq_false_iff] at h
  obtain ⟨⟨⟨⟨⟨h1, h2⟩, h3⟩, h4⟩, h5⟩, h6⟩ := h
  refine ⟨h1, h2, fun y hy => h3 y hy, fun p hp => by rw [C.N]; exact h4 p hp, fun y hy e => ?_, fun y hy e => ?_⟩
  · rw [C.sc]
    rcases h5 y hy with (q | q) | q
    · exact absurd e q
    · exact .inl q
    · exact .inr q
  · rw [C.N]
    rcases h6 y hy with (q | q) | q
    · exact (e.elim q.1 q.2).elim
    · exact .inl q
    · exact .inr q
theorem tyx_ok (C : SX S n fz M W X) {t : Ty} {c : Str} {p : Pos} (h : isG S c (tyG t) = true) : L2.PE X (.Name c p) (L2.tC (tyV S.cA t)) := by
  obtain ⟨g, hg, hd⟩ := isG_ok C h
  cases t with
  | own d => exact L2.pe_glob hg g rfl hd
  | _ => exact L2.pe_bltn hg g.1 g.2.1 rfl g.2.2 hd
/-- as a value and as a test -/
abbrev Both (S : CS) (fz : List Nat) (M : Cx) (W : L2.WX) (X : L2.Cx) (e : Expr) (m : Ex) : Prop := L2.PE X e (tE S.cA fz M W m) ∧ L2.PT X e (tT S.cA fz M W m) ∧ ∀ op vs p, e = .BoolOp op vs p → L2.PW X e (tT S.cA fz M W m)
theorem both {e : Expr} {m : Ex} (h : L2.PE X e (tE S.cA fz M W m)) (he : ∀ whole, isTrue e X.env whole = (do let v ← whole; standAt e.pos; holding [v] (truthy v))) (hb : ∀ op vs p, e ≠ .BoolOp op vs p) : Both S fz M W X e m :=
  ⟨h, L2.pt_val h he, fun op vs p q => absurd q (hb op vs p)⟩
theorem both2 {e : Expr} {m : Ex} (h : L2.PE X e (tE S.cA fz M W m)) (ht : L2.PT X e (tT S.cA fz M W m)) (hb : ∀ op vs p, e ≠ .BoolOp op vs p) : Both S fz M W X e m :=
  ⟨h, ht, fun op vs p q => absurd q (hb op vs p)⟩
theorem both3 {op : PySem.BoolOp} {vs : List Expr} {p : Pos} {m : Ex} (h : L2.PE X (.BoolOp op vs p) (tE S.cA fz M W m)) (ht : L2.PW X (.BoolOp op vs p) (tT S.cA fz M W m)) : Both S fz M W X (.BoolOp op vs p) m := ⟨h, ht.pt, fun _ _ _ _ => ht⟩
theorem ife_isTrue {c a b : Expr} {p : Pos} {mc ma mb : Ex} (hc : L2.PT X c (tT S.cA fz M W mc)) (ha : L2.PT X a (tT S.cA fz M W ma)) (hb : L2.PT X b (tT S.cA fz M W mb)) : L2.PT X (.IfExp c a b p) (tT S.cA fz M W (.ife mc ma mb)) := by
  refine ⟨fun pins s σ H Q I h => ?_⟩
  have h2 : tT S.cA fz M W mc σ H (fun k H1 => if k = true then tT S.cA fz M W ma σ H1 Q else tT S.cA fz M W mb σ H1 Q) := tG.bind h fun ρ env h w v H1 rh re rv g => by
    obtain ⟨k, e, g⟩ := g.thenO
    refine ⟨k, asBool_ok e rv, ?_⟩
    cases k with
    | true => exact ⟨ρ, env, h, rh, re, g⟩
    | false => exact ⟨ρ, env, h, rh, re, g⟩
  have e1 : ∀ wh, isTrue (.IfExp c a b p) X.env wh = (do if ← isTrue c X.env (eval c X.env) then isTrue a X.env (eval a X.env) else isTrue b X.env (eval b X.env)) := fun wh => rfl
  rw [e1]
  refine wpAny_bind (L2.thn (hc.run pins s σ H _ I h2) fun k s1 ⟨H1, I1, q1⟩ => ?_)
  cases k with
  | true => exact ha.run pins s1 σ H1 Q I1 q1
  | false => exact hb.run pins s1 σ H1 Q I1 q1
end
mutual
theorem e_ok : ∀ (m : Ex) {S : CS} {n : Nat} {fz : List Nat} {M : Cx} {W : L2.WX} {X : L2.Cx} (C : SX S n fz M W X) (e : Expr), chkE S m e = true → Both S fz M W X e m
  | .non, S, n, fz, M, W, X, C, e, h => by
    simp only [chkE] at h
    split at h
    · exact both k_non (fun _ => rfl) (fun _ _ _ z => nomatch z)
    · cases h
  | .bl b, S, n, fz, M, W, X, C, e, h => by
    simp only [chkE] at h
    split at h
    · cases of_decide_eq_true h
      exact both k_bl (fun _ => rfl) (fun _ _ _ z => nomatch z)
    · cases h
  | .int i, S, n, fz, M, W, X, C, e, h => by
    simp only [chkE] at h
    split at h
    · cases of_decide_eq_true h
      exact both k_int (fun _ => rfl) (fun _ _ _ z => nomatch z)
    · obtain ⟨⟨u, g1, g2⟩, hg, hd⟩ := isG_ok C h
      exact both (k_gint hg g1 g2 hd) (fun _ => rfl) (fun _ _ _ z => nomatch z)
    · cases h
  | .str s, S, n, fz, M, W, X, C, e, h => by
    simp only [chkE] at h
    split at h
    · rw [Bool.and_eq_true, decide_eq_true_eq, decide_eq_true_eq] at h
      cases h.1
      exact both (k_str h.2) (fun _ => rfl) (fun _ _ _ z => nomatch z)
    · obtain ⟨⟨hl, u, g1, g2⟩, hg, hd⟩ := isG_ok C h
      exact both (k_gstr hl hg g1 g2 hd) (fun _ => rfl) (fun _ _ _ z => nomatch z)
    · cases h
  | .var i, S, n, fz, M, W, X, C, e, h => by
    simp only [chkE] at h
    split at h
    · obtain ⟨h1, h2, h3, h4⟩ := isV_ok C h
      exact both (k_var h1 h2 h3 h4) (fun _ => rfl) (fun _ _ _ z => nomatch z)
    · cases h
  | .bin op a b, S, n, fz, M, W, X, C, e, h => by
    simp only [chkE] at h
    split at h
    · simp only [Bool.and_eq_true, decide_eq_true_eq] at h
      obtain ⟨⟨rfl, h1⟩, h2⟩ := h
      exact both (k_bin (e_ok a C _ h1).1 (e_ok b C _ h2).1) (fun _ => rfl) (fun _ _ _ z => nomatch z)
    · cases h
  | .neg a, S, n, fz, M, W, X, C, e, h => by
    simp only [chkE] at h
    split at h
    · simp only [Bool.and_eq_true, decide_eq_true_eq] at h
      obtain ⟨rfl, h1⟩ := h
      exact both (k_neg (e_ok a C _ h1).1) (fun _ => rfl) (fun _ _ _ z => nomatch z)
    · cases h
  | .cmp op a b, S, n, fz, M, W, X, C, e, h => by
    simp only [chkE] at h
    split at h
    · simp only [Bool.and_eq_true, decide_eq_true_eq] at h
      obtain ⟨⟨rfl, h1⟩, h2⟩ := h
      obtain ⟨k1, k2⟩ := k_cmp (op := op) C.hu (e_ok a C _ h1).1 (e_ok b C _ h2).1 (set_ok (chk_plain b _ h2))
      exact both2 k1 k2 (fun _ _ _ z => nomatch z)
    · cases h
  | .chain op op' a b c, S, n, fz, M, W, X, C, e, h => by
    simp only [chkE] at h
    split at h
    · simp only [Bool.and_eq_true, decide_eq_true_eq] at h
      obtain ⟨⟨⟨⟨rfl, rfl⟩, h1⟩, h2⟩, h3⟩ := h
      obtain ⟨k1, k2⟩ := k_chain (op := op) (op' := op') C.hu (e_ok a C _ h1).1 (e_ok b C _ h2).1 (e_ok c C _ h3).1 (by show behindInMarks (pyCmp op') _ = false; exact set_ok (chk_plain c _ h3))
      exact both2 k1 k2 (fun _ _ _ z => nomatch z)
    · cases h
  | .and a b, S, n, fz, M, W, X, C, e, h => by
    simp only [chkE] at h
    split at h
    · simp only [Bool.and_eq_true, decide_eq_true_eq] at h
      obtain ⟨⟨rfl, h1⟩, h2⟩ := h
      exact both3 (k_and (e_ok a C _ h1).1 (L2.pe_one (e_ok b C _ h2).1)) (k_andT (e_ok a C _ h1).2.1 (L2.pw_and1 (e_ok b C _ h2).2.1))
    · simp only [Bool.and_eq_true, decide_eq_true_eq] at h
      obtain ⟨⟨rfl, h1⟩, h2⟩ := h
      exact both3 (k_and (e_ok a C _ h1).1 (e_ok b C _ h2).1) (k_andT (e_ok a C _ h1).2.1 ((e_ok b C _ h2).2.2 _ _ _ rfl))
    · cases h
  | .or a b, S, n, fz, M, W, X, C, e, h => by
    simp only [chkE] at h
    split at h
    · simp only [Bool.and_eq_true, decide_eq_true_eq] at h
      obtain ⟨⟨rfl, h1⟩, h2⟩ := h
      exact both3 (k_or (e_ok a C _ h1).1 (L2.pe_one (e_ok b C _ h2).1)) (k_orT (e_ok a C _ h1).2.1 (L2.pw_or1 (e_ok b C _ h2).2.1))
    · simp only [Bool.and_eq_true, decide_eq_true_eq] at h
      obtain ⟨⟨rfl, h1⟩, h2⟩ := h
      exact both3 (k_or (e_ok a C _ h1).1 (e_ok b C _ h2).1) (k_orT (e_ok a C _ h1).2.1 ((e_ok b C _ h2).2.2 _ _ _ rfl))
    · cases h
  | .not a, S, n, fz, M, W, X, C, e, h => by
    simp only [chkE] at h
    split at h
    · simp only [Bool.and_eq_true, decide_eq_true_eq] at h
      obtain ⟨rfl, h1⟩ := h
      exact both2 (k_not (e_ok a C _ h1).1) (k_notT (e_ok a C _ h1).2.1) (fun _ _ _ z => nomatch z)
    · cases h
  | .ife c a b, S, n, fz, M, W, X, C, e, h => by
    simp only [chkE] at h
    split at h
    · simp only [Bool.and_eq_true] at h
      exact both2 (k_ife (e_ok c C _ h.1.1).2.1 (e_ok a C _ h.1.2).1 (e_ok b C _ h.2).1) (ife_isTrue (e_ok c C _ h.1.1).2.1 (e_ok a C _ h.1.2).2.1 (e_ok b C _ h.2).2.1) (fun _ _ _ z => nomatch z)
    · cases h
  | .ix a b, S, n, fz, M, W, X, C, e, h => by
    simp only [chkE] at h
    split at h
    · simp only [Bool.and_eq_true] at h
      exact both (k_ix C.hu (e_ok a C _ h.1).1 (e_ok b C _ h.2).1 (ix_ok (chk_plain b _ h.2))) (fun _ => rfl) (fun _ _ _ z => nomatch z)
    · cases h
  | .sl a lo hi, S, n, fz, M, W, X, C, e, h => by
    simp only [chkE] at h
    split at h
    · simp only [Bool.and_eq_true] at h
      exact both (k_sl (e_ok a C _ h.1.1).1 (o_ok lo C _ h.1.2) (o_ok hi C _ h.2)) (fun _ => rfl) (fun _ _ _ z => nomatch z)
    · cases h
  | .tup es, S, n, fz, M, W, X, C, e, h => by
    simp only [chkE] at h
    split at h
    · simp only [Bool.and_eq_true, decide_eq_true_eq] at h
      exact both (k_tup (es_ok es C _ h.1) h.2) (fun _ => rfl) (fun _ _ _ z => nomatch z)
    · cases h
  | .lst es, S, n, fz, M, W, X, C, e, h => by
    simp only [chkE] at h
    split at h
    · simp only [Bool.and_eq_true, decide_eq_true_eq] at h
      exact both (k_lst (es_ok es C _ h.1) h.2) (fun _ => rfl) (fun _ _ _ z => nomatch z)
    · cases h
  | .dct kvs, S, n, fz, M, W, X, C, e, h => by
    simp only [chkE] at h
    split at h
    · rename_i ks vs p
      simp only [Bool.and_eq_true, decide_eq_true_eq] at h
      obtain ⟨p1, p2, p3, p4⟩ := p_ok (pos := p) kvs C ks vs h.1
      cases kvs with
      | nil =>
        cases ks with
        | nil =>
          cases vs with
          | nil => exact both k_dct0 (fun _ => rfl) (fun _ _ _ z => nomatch z)
          | cons v vs => simp at p4
        | cons k ks => simp at p3
      | cons kv kvs => exact both (k_dct p1 p2 (by rw [p3, p4]) (by intro z; rw [z] at p3; simp at p3) (by rw [p3]; exact h.2) p3.symm) (fun _ => rfl) (fun _ _ _ z => nomatch z)
    · cases h
  | .call f es, S, n, fz, M, W, X, C, e, h => by
    simp only [chkE] at h
    split at h
    · simp only [Bool.and_eq_true] at h
      obtain ⟨⟨a, fd, ps, g1, g2⟩, hg, hd⟩ := isG_ok C h.1
      cases es with
      | cons m0 es => have := h.2; cases this
      | nil =>
        have hT := C.T
        exact both (k_call0 C.fz (by rw [C.call, hT]) (by rw [hT]; exact g2) C.rm C.tk hg g1 hd) (fun _ => rfl) (fun _ _ _ z => nomatch z)
    · simp only [Bool.and_eq_true] at h
      obtain ⟨⟨a, fd, ps, g1, g2⟩, hg, hd⟩ := isG_ok C h.1
      cases es with
      | nil => have := h.2; simp [chkEs] at this
      | cons m0 es =>
        have he := h.2
        simp only [chkEs, Bool.and_eq_true] at he
        have hT := C.T
        exact both (k_call C.fz (by rw [C.call, hT]) (by rw [hT]; exact g2) C.rm C.tk hg g1 hd (es_ok (m0 :: es) C _ h.2) (star_ok (chk_plain m0 _ he.1)) (any_ok he.2)) (fun _ => rfl) (fun _ _ _ z => nomatch z)
    · cases h
  | .blt b es, S, n, fz, M, W, X, C, e, h => by
    simp only [chkE] at h
    split at h
    · simp only [Bool.and_eq_true] at h
      cases es with
      | nil => have := h.2; simp [chkEs] at this
      | cons m0 es =>
        have he := h.2
        simp only [chkEs, Bool.and_eq_true] at he
        have ha := es_ok (m0 :: es) C _ h.2
        cases b with
        | len =>
          obtain ⟨g, hg, hd⟩ := isG_ok C h.1
          exact both (k_bltn blt_len hg g.1 g.2.1 g.2.2 hd ha (star_ok (chk_plain m0 _ he.1)) (any_ok he.2)) (fun _ => rfl) (fun _ _ _ z => nomatch z)
        | divmod =>
          obtain ⟨g, hg, hd⟩ := isG_ok C h.1
          exact both (k_bltn blt_divmod hg g.1 g.2.1 g.2.2 hd ha (star_ok (chk_plain m0 _ he.1)) (any_ok he.2)) (fun _ => rfl) (fun _ _ _ z => nomatch z)
        | int =>
          obtain ⟨g, hg, hd⟩ := isG_ok C h.1
          exact both (k_bltt blt_int hg g.1 g.2.1 g.2.2 hd ha (star_ok (chk_plain m0 _ he.1)) (any_ok he.2)) (fun _ => rfl) (fun _ _ _ z => nomatch z)
        | min2 =>
          obtain ⟨g, hg, hd⟩ := isG_ok C h.1
          exact both (k_bltn (blt_min2 C.calm) hg g.1 g.2.1 g.2.2 hd ha (star_ok (chk_plain m0 _ he.1)) (any_ok he.2)) (fun _ => rfl) (fun _ _ _ z => nomatch z)
        | max2 =>
          obtain ⟨g, hg, hd⟩ := isG_ok C h.1
          exact both (k_bltn (blt_max2 C.calm) hg g.1 g.2.1 g.2.2 hd ha (star_ok (chk_plain m0 _ he.1)) (any_ok he.2)) (fun _ => rfl) (fun _ _ _ z => nomatch z)
        | _ => have := h.1; cases this
    · cases h
  | .isi a t, S, n, fz, M, W, X, C, e, h => by
    simp only [chkE] at h
    split at h
    · simp only [Bool.and_eq_true] at h
      obtain ⟨⟨⟨h1, h2⟩, h3⟩, h4⟩ := h
      obtain ⟨g, hg, hd⟩ := isG_ok C h1
      exact both (k_isi (by rw [C.T]; exact C.cf) h3 hg g.1 g.2.1 g.2.2 hd (e_ok a C _ h4).1 (tyx_ok C h2) (star_ok (chk_plain a _ h4)) rfl rfl) (fun _ => rfl) (fun _ _ _ z => nomatch z)
    · cases h
  | .comp own elt tg it none, S, n, fz, M, W, X, C, e, h => by
    simp only [chkE] at h
    split at h
    · rename_i v tx ix k0 scope pos
      simp only [Bool.and_eq_true, decide_eq_true_eq, List.all_eq_true] at h
      obtain ⟨⟨⟨⟨⟨rfl, h1⟩, h2⟩, h3⟩, h4⟩, h5⟩ := h
      obtain ⟨b1, b2⟩ := blk_ok C h1
      have k := k_comp (pos := pos) (own := ownOf S.N own) (mo := none) C.ck C.calm (by rw [C.N]; exact C.nd) (i_ok it C _ h4 _) b2 (fun s H A cl fp => tg_ok (C.blk _ s H A cl fp) h2) (fun as s H A cl fp => L2.pts_nil) (fun as s H A cl fp => (e_ok elt ((C.blk _ s H A cl fp).lock as) _ h5).1) (it_fold it _ h4) (by rw [b1]; exact h3)
      rw [b1] at k
      exact both k (fun _ => rfl) (fun _ _ _ z => nomatch z)
    · cases h
  | .comp own elt tg it (some c), S, n, fz, M, W, X, C, e, h => by
    simp only [chkE] at h
    split at h
    · rename_i v tx ix q k0 scope pos
      simp only [Bool.and_eq_true, decide_eq_true_eq, List.all_eq_true] at h
      obtain ⟨⟨⟨⟨⟨⟨rfl, h1⟩, h2⟩, h3⟩, h4⟩, h5⟩, h6⟩ := h
      obtain ⟨b1, b2⟩ := blk_ok C h1
      have k := k_comp (pos := pos) (own := ownOf S.N own) (mo := some c) C.ck C.calm (by rw [C.N]; exact C.nd) (i_ok it C _ h4 _) b2 (fun s H A cl fp => tg_ok (C.blk _ s H A cl fp) h2) (fun as s H A cl fp => L2.pts_one (e_ok c ((C.blk _ s H A cl fp).lock as) _ h6).2.1) (fun as s H A cl fp => (e_ok elt ((C.blk _ s H A cl fp).lock as) _ h5).1) (it_fold it _ h4) (by rw [b1]; exact h3)
      rw [b1] at k
      exact both k (fun _ => rfl) (fun _ _ _ z => nomatch z)
    · cases h
  | .meth o m [a], S, n, fz, M, W, X, C, e, h => by
    simp only [chkE] at h
    split at h
    · simp only [Bool.and_eq_true, decide_eq_true_eq] at h
      obtain ⟨⟨⟨⟨⟨⟨hm, rfl⟩, h2⟩, h3⟩, h4⟩, h5⟩, h6⟩ := h
      have hs := star_ok (es := []) (env := X.env) (chk_plain a _ h6)
      rcases hm with rfl | rfl
      · exact both (k_join (noOwn_ok C h2) (e_ok o C _ h5).1 (e_ok a C _ h6).1 hs (base_ok h3) h4) (fun _ => rfl) (fun _ _ _ z => nomatch z)
      · exact both (k_append C.fz (noOwn_ok C h2) (e_ok o C _ h5).1 (e_ok a C _ h6).1 hs (base_ok h3) h4) (fun _ => rfl) (fun _ _ _ z => nomatch z)
    · cases h
  | .meth o m [], S, n, fz, M, W, X, C, e, h => by
    simp only [chkE] at h
    split at h
    · simp only [Bool.and_eq_true, decide_eq_true_eq] at h
      obtain ⟨⟨⟨⟨⟨rfl, rfl⟩, h2⟩, h3⟩, h4⟩, h5⟩ := h
      exact both (k_bits (noOwn_ok C h2) (e_ok o C _ h5).1 (base_ok h3) h4) (fun _ => rfl) (fun _ _ _ z => nomatch z)
    · cases h
  | .meth o m (_ :: _ :: _), _, _, _, _, _, _, _, _, h => by simp [chkE] at h
  | .fld _ _, _, _, _, _, _, _, _, _, h => by simp [chkE] at h
  | .new _ _, _, _, _, _, _, _, _, _, h => by simp [chkE] at h
  | .sup _ _ _, _, _, _, _, _, _, _, _, h => by simp [chkE] at h
  | .listOf _, _, _, _, _, _, _, _, _, h => by simp [chkE] at h
  | .tupOf _, _, _, _, _, _, _, _, _, h => by simp [chkE] at h
  | .sortK _ _ _, _, _, _, _, _, _, _, _, h => by simp [chkE] at h
  | .minK _ _ _, _, _, _, _, _, _, _, _, h => by simp [chkE] at h
  | .fstr _, _, _, _, _, _, _, _, _, h => by simp [chkE] at h
  | .curFld _, _, _, _, _, _, _, _, _, h => by simp [chkE] at h
  | .curIs _, _, _, _, _, _, _, _, _, h => by simp [chkE] at h
theorem o_ok : ∀ (m : Option Ex) {S : CS} {n : Nat} {fz : List Nat} {M : Cx} {W : L2.WX} {X : L2.Cx} (C : SX S n fz M W X) (e : Option Expr), chkO S m e = true → L2.PO X e (tO S.cA fz M W m)
  | none, S, n, fz, M, W, X, C, e, h => by
    simp only [chkO] at h
    split at h
    · exact k_po0
    · cases h
  | some m, S, n, fz, M, W, X, C, e, h => by
    simp only [chkO] at h
    split at h
    · exact k_po fun e' m' he hm => by subst he hm; exact (e_ok m C _ h).1
    · cases h
theorem es_ok : ∀ (ms : List Ex) {S : CS} {n : Nat} {fz : List Nat} {M : Cx} {W : L2.WX} {X : L2.Cx} (C : SX S n fz M W X) (es : List Expr), chkEs S ms es = true → L2.PA X es (tA S.cA fz M W ms)
  | [], S, n, fz, M, W, X, C, es, h => by
    cases es with
    | nil => exact k_nil
    | cons e es => simp [chkEs] at h
  | m :: ms, S, n, fz, M, W, X, C, es, h => by
    cases es with
    | nil => simp [chkEs] at h
    | cons e es =>
      simp only [chkEs, Bool.and_eq_true] at h
      exact k_cons (e_ok m C _ h.1).1 (es_ok ms C _ h.2) (star_ok (chk_plain m _ h.1))
theorem p_ok : ∀ (ms : List (Ex × Ex)) {S : CS} {n : Nat} {fz : List Nat} {M : Cx} {W : L2.WX} {X : L2.Cx} {pos : Pos} (C : SX S n fz M W X) (ks : List (Option Expr)) (vs : List Expr), chkP S ms ks vs = true →
    L2.PPs X pos ks vs (ms.map fun m => (tE S.cA fz M W m.1, tE S.cA fz M W m.2)) ∧ ks.all (·.isSome) = true ∧ ks.length = ms.length ∧ vs.length = ms.length
  | [], S, n, fz, M, W, X, pos, C, ks, vs, h => by
    simp only [chkP] at h
    split at h
    · exact ⟨L2.pps_nil, rfl, rfl, rfl⟩
    · cases h
  | (a, b) :: ms, S, n, fz, M, W, X, pos, C, ks, vs, h => by
    simp only [chkP] at h
    split at h
    · simp only [Bool.and_eq_true] at h
      obtain ⟨q1, q2, q3, q4⟩ := p_ok (pos := pos) ms C _ _ h.2
      exact ⟨L2.pps_cons (e_ok a C _ h.1.1).1 (e_ok b C _ h.1.2).1 q1, by simp [q2], by simp [q3], by simp [q4]⟩
    · cases h
theorem i_ok : ∀ (it : It) {S : CS} {n : Nat} {fz : List Nat} {M : Cx} {W : L2.WX} {X : L2.Cx} (C : SX S n fz M W X) (e : Expr), chkI S it e = true → ∀ tg, L2.PI X tg e (tI S.cA fz M W it)
  | .val m, S, n, fz, M, W, X, C, e, h, tg => i_val (e_ok m C _ (by simpa only [chkI] using h)).1
  | .rng a, S, n, fz, M, W, X, C, e, h, tg => by
    simp only [chkI] at h
    split at h
    · simp only [Bool.and_eq_true, decide_eq_true_eq] at h
      obtain ⟨⟨rfl, h1⟩, h2⟩ := h
      obtain ⟨g, hg, hd⟩ := isG_ok C h1
      exact i_rng hg g.1 (e_ok a C _ h2).1 (star_ok (chk_plain a _ h2))
    · cases h
  | .rng2 a b, S, n, fz, M, W, X, C, e, h, tg => by
    simp only [chkI] at h
    split at h
    · simp only [Bool.and_eq_true, decide_eq_true_eq] at h
      obtain ⟨⟨⟨rfl, h1⟩, h2⟩, h3⟩ := h
      obtain ⟨g, hg, hd⟩ := isG_ok C h1
      have s2 := star_ok (es := []) (env := X.env) (chk_plain b _ h3)
      exact i_rng2 hg g.1 (e_ok a C _ h2).1 (e_ok b C _ h3).1 (by rw [star_ok (chk_plain a _ h2), s2]; rfl) s2
    · cases h
  | .rng3 a b c, S, n, fz, M, W, X, C, e, h, tg => by
    simp only [chkI] at h
    split at h
    · simp only [Bool.and_eq_true, decide_eq_true_eq] at h
      obtain ⟨⟨⟨⟨rfl, h1⟩, h2⟩, h3⟩, h4⟩ := h
      obtain ⟨g, hg, hd⟩ := isG_ok C h1
      exact i_rng3 hg g.1 (e_ok a C _ h2).1 (e_ok b C _ h3).1 (e_ok c C _ h4).1 (star_ok (chk_plain a _ h2)) (star_ok (chk_plain b _ h3)) (star_ok (chk_plain c _ h4))
    · cases h
  | .items _, _, _, _, _, _, _, _, _, h, _ => by simp [chkI] at h
  | .vals _, _, _, _, _, _, _, _, _, h, _ => by simp [chkI] at h
  | .enum _, _, _, _, _, _, _, _, _, h, _ => by simp [chkI] at h
  | .zip _ _, _, _, _, _, _, _, _, _, h, _ => by simp [chkI] at h
  | .zip3 _ _ _, _, _, _, _, _, _, _, _, h, _ => by simp [chkI] at h
  | .rev _, _, _, _, _, _, _, _, _, h, _ => by simp [chkI] at h
theorem it_fold : ∀ (it : It) {S : CS} {env : PySem.Env} (e : Expr), chkI S it e = true → ∀ x, foldedSetIterable e env x = pure x
  | .val m, S, env, e, h => fold_ok (chk_plain m _ (by simpa only [chkI] using h))
  | .rng a, S, env, e, h => by
    simp only [chkI] at h
    split at h
    · intro _; rfl
    · cases h
  | .rng2 a b, S, env, e, h => by
    simp only [chkI] at h
    split at h
    · intro _; rfl
    · cases h
  | .rng3 a b c, S, env, e, h => by
    simp only [chkI] at h
    split at h
    · intro _; rfl
    · cases h
  | .items _, _, _, _, h => by simp [chkI] at h
  | .vals _, _, _, _, h => by simp [chkI] at h
  | .enum _, _, _, _, h => by simp [chkI] at h
  | .zip _ _, _, _, _, h => by simp [chkI] at h
  | .zip3 _ _ _, _, _, _, h => by simp [chkI] at h
  | .rev _, _, _, _, h => by simp [chkI] at h
end
end MP

namespace MP
open PySem PySem.Spec PyProof.Rows
def noSwap : Expr → Bool
  | .ListComp _ _ _ _ => false
  | .SetComp _ _ _ _ => false
  | .DictComp _ _ _ _ _ => false
  | _ => true
def noTup : Expr → Bool
  | .Tuple _ _ _ => false
  | _ => true
theorem swap_ok {e : Expr} {t : Option Expr} {l : Nat} {env : PySem.Env} (h : noSwap e = true) : swapsWith e t l env = pure false := by
  cases e <;> first | rfl | cases h
theorem sole_ok {t e : Expr} {l : Nat} {env : PySem.Env} (h : noSwap e = true) : swapsWithSole [t] e l env = pure false := swap_ok (t := some t) h
theorem swapped_ok {t e : Expr} {env : PySem.Env} (h : noTup e = true) : swappedStores [t] e env = pure none := by
  cases e <;> first | (cases t <;> rfl) | cases h
def blockK (sc : Scope) : ScopeKind := if sc.kind.isAnnotationScope then .function else sc.kind
def swapB (S : CS) (scope : Scope) (t : Str) (tp vp : Pos) : Bool :=
  blockK S.sc == .function && S.sc.names.lookup t == some .local && tp.line == vp.line && !(scope.names.any fun (n, k) => n == t && (k == .local || k == .cell))
theorem swapB_ok {S : CS} {env : PySem.Env} (hsc : env.scope = S.sc) {elt : Expr} {gs : List Comprehension} {scope : Scope} {t : Str} {tp vp : Pos} {l : Nat} : swapsWith (.ListComp elt gs scope vp) (some (.Name t tp)) l env = pure (swapB S scope t tp vp) := by
  unfold swapB
  rw [← hsc]
  rfl
mutual
def chkS (S : CS) : St → Stmt → Bool
  | .expr m, st => match st with
    | .Expr x _ => chkE S m x && noSwap x
    | _ => false
  | .set (.tg (.name i)) m, st => match st with
    | .Assign [.Name x tp] (.ListComp v gs scope vp) _ => isL S i x && chkE S m (.ListComp v gs scope vp)
    | .Assign [.Name x _] v _ => isL S i x && chkE S m v && noSwap v
    | _ => false
  | .set (.tg (.tup is)) m, st => match st with
    | .Assign [.Tuple es _ _] v _ => chkNs S is es && chkE S m v && noSwap v && noTup v
    | _ => false
  | .aug i op m, st => match st with
    | .AugAssign (.Name x _) o v _ => decide (op = .add) && decide (o = .Add) && isL S i x && chkE S m v
    | _ => false
  | .ite c a b, st => match st with
    | .If t p q _ => chkE S c t && chkSs S a p && chkSs S b q
    | _ => false
  | .while c b, st => match st with
    | .While t p [] _ => chkE S c t && chkSs S b p
    | _ => false
  | .for tg it b, st => match st with
    | .For tx ix p [] _ => chkTg S tg tx && chkI S it ix && chkSs S b p
    | _ => false
  | .ret m, st => match st with
    | .Return (some x) _ => chkE S m x
    | _ => false
  | .brk, st => match st with
    | .Break _ => true
    | _ => false
  | .cont, st => match st with
    | .Continue _ => true
    | _ => false
  | .pass, st => match st with
    | .Pass _ => true
    | _ => false
  | _, _ => false
def chkSs (S : CS) : List St → List Stmt → Bool
  | [], st => match st with
    | [] => true
    | _ => false
  | m :: ms, st => match st with
    | s :: ss => chkS S m s && chkSs S ms ss
    | _ => false
end
mutual
theorem s_ok : ∀ (m : St) {S : CS} {n : Nat} {fz : List Nat} {M : Cx} {W : L2.WX} {X : L2.Cx} (C : SX S n fz M W X) (hp : PassesOwn (model X.prog X.w) X.A X.env X.xe) (st : Stmt), chkS S m st = true → L2.PS X st (tX S.cA fz M W m)
  | .expr m, S, n, fz, M, W, X, C, hp, st, h => by
    simp only [chkS] at h
    split at h
    · rw [Bool.and_eq_true] at h
      exact s_expr (e_ok m C _ h.1).1 (swap_ok h.2)
    · cases h
  | .set (.tg (.name i)) m, S, n, fz, M, W, X, C, hp, st, h => by
    simp only [chkS] at h
    split at h
    · rename_i x tp v gs scope vp pos
      rw [Bool.and_eq_true] at h
      obtain ⟨h1, h2, h3⟩ := isL_ok C h.1
      have hN : X.N.Nodup := by rw [C.N]; exact C.nd
      cases hb : swapB S scope x tp vp with
      | false => exact s_setN hN h1 h2 h3 (e_ok m C _ h.2).1 (by rw [swapB_ok C.sc, hb])
      | true =>
        have hl : X.env.scope.names.lookup x = some .local := by
          unfold swapB at hb
          simp only [Bool.and_eq_true, beq_iff_eq] at hb
          rw [C.sc]
          exact hb.1.1.2
        have hsw : swapsWith (.ListComp v gs scope vp) (some (.Name x tp)) pos.line X.env = pure true := by rw [swapB_ok C.sc, hb]
        have hc := h.2
        cases m with
        | comp own elt tg it c =>
          cases c with
          | none =>
            simp only [chkE] at hc
            split at hc
            · rename_i e0 v tx ix k0 scope' pos' he
              cases he
              simp only [Bool.and_eq_true, decide_eq_true_eq, List.all_eq_true] at hc
              obtain ⟨⟨⟨⟨⟨rfl, c1⟩, c2⟩, c3⟩, c4⟩, c5⟩ := hc
              obtain ⟨b1, b2⟩ := blk_ok C c1
              have k := s_comp (own := ownOf S.N own) (mo := none) C.ck C.calm hN h1 hl hsw (i_ok it C _ c4 _) b2 (fun s H A cl fp => tg_ok (C.blk _ s H A cl fp) c2) (fun as s H A cl fp => L2.pts_nil) (fun as s H A cl fp => (e_ok elt ((C.blk _ s H A cl fp).lock as) _ c5).1) (it_fold it _ c4) (by rw [b1]; exact c3)
              rw [b1] at k
              exact k
            · cases hc
          | some c =>
            simp only [chkE] at hc
            split at hc
            · rename_i e0 v tx ix q k0 scope' pos' he
              cases he
              simp only [Bool.and_eq_true, decide_eq_true_eq, List.all_eq_true] at hc
              obtain ⟨⟨⟨⟨⟨⟨rfl, c1⟩, c2⟩, c3⟩, c4⟩, c5⟩, c6⟩ := hc
              obtain ⟨b1, b2⟩ := blk_ok C c1
              have k := s_comp (own := ownOf S.N own) (mo := some c) C.ck C.calm hN h1 hl hsw (i_ok it C _ c4 _) b2 (fun s H A cl fp => tg_ok (C.blk _ s H A cl fp) c2) (fun as s H A cl fp => L2.pts_one (e_ok c ((C.blk _ s H A cl fp).lock as) _ c6).2.1) (fun as s H A cl fp => (e_ok elt ((C.blk _ s H A cl fp).lock as) _ c5).1) (it_fold it _ c4) (by rw [b1]; exact c3)
              rw [b1] at k
              exact k
            · cases hc
        | meth o mm es => rcases es with _ | ⟨a, _ | ⟨b, r⟩⟩ <;> simp [chkE] at hc
        | _ => simp [chkE] at hc
    · simp only [Bool.and_eq_true] at h
      obtain ⟨h1, h2, h3⟩ := isL_ok C h.1.1
      exact s_setN (by rw [C.N]; exact C.nd) h1 h2 h3 (e_ok m C _ h.1.2).1 (swap_ok h.2)
    · cases h
  | .set (.tg (.tup is)) m, S, n, fz, M, W, X, C, hp, st, h => by
    simp only [chkS] at h
    split at h
    · simp only [Bool.and_eq_true] at h
      exact s_set (e_ok m C _ h.1.1.2).1 (tg_ok (tg := .tup is) C h.1.1.1) (sole_ok h.1.2) (swapped_ok h.2) rfl
    · cases h
  | .set (.fld _ _) _, _, _, _, _, _, _, _, _, _, h => by simp [chkS] at h
  | .set (.ix _ _) _, _, _, _, _, _, _, _, _, _, h => by simp [chkS] at h
  | .aug i op m, S, n, fz, M, W, X, C, hp, st, h => by
    simp only [chkS] at h
    split at h
    · simp only [Bool.and_eq_true, decide_eq_true_eq] at h
      obtain ⟨⟨⟨rfl, rfl⟩, h1⟩, h2⟩ := h
      obtain ⟨a1, a2, a3⟩ := isL_ok C h1
      exact s_aug (by rw [C.N]; exact C.nd) a1 a2 a3 (e_ok m C _ h2).1
    · cases h
  | .augF _ _ _ _, _, _, _, _, _, _, _, _, _, h => by simp [chkS] at h
  | .ite c a b, S, n, fz, M, W, X, C, hp, st, h => by
    simp only [chkS] at h
    split at h
    · simp only [Bool.and_eq_true] at h
      exact s_if (e_ok c C _ h.1.1).2.1 (ss_ok a C hp _ h.1.2) (ss_ok b C hp _ h.2)
    · cases h
  | .while c b, S, n, fz, M, W, X, C, hp, st, h => by
    simp only [chkS] at h
    split at h
    · simp only [Bool.and_eq_true] at h
      exact s_while hp (e_ok c C _ h.1).2.1 (ss_ok b C hp _ h.2)
    · cases h
  | .for tg it b, S, n, fz, M, W, X, C, hp, st, h => by
    simp only [chkS] at h
    split at h
    · simp only [Bool.and_eq_true] at h
      exact s_for C.ck hp C.calm (i_ok it C _ h.1.2 _) (tg_ok C h.1.1) (fun as => ss_ok b (C.lock as) hp _ h.2) (it_fold it _ h.1.2)
    · cases h
  | .ret m, S, n, fz, M, W, X, C, hp, st, h => by
    simp only [chkS] at h
    split at h
    · exact s_ret (e_ok m C _ h).1
    · cases h
  | .brk, S, n, fz, M, W, X, C, hp, st, h => by
    simp only [chkS] at h
    split at h
    · exact s_brk
    · cases h
  | .cont, S, n, fz, M, W, X, C, hp, st, h => by
    simp only [chkS] at h
    split at h
    · exact s_cont
    · cases h
  | .pass, S, n, fz, M, W, X, C, hp, st, h => by
    simp only [chkS] at h
    split at h
    · exact s_pass
    · cases h
  | .raise _ _, _, _, _, _, _, _, _, _, _, h => by simp [chkS] at h
  | .try _ _, _, _, _, _, _, _, _, _, _, h => by simp [chkS] at h
theorem ss_ok : ∀ (ms : List St) {S : CS} {n : Nat} {fz : List Nat} {M : Cx} {W : L2.WX} {X : L2.Cx} (C : SX S n fz M W X) (hp : PassesOwn (model X.prog X.w) X.A X.env X.xe) (st : List Stmt), chkSs S ms st = true → L2.PSs X st (tXs S.cA fz M W ms)
  | [], S, n, fz, M, W, X, C, hp, st, h => by
    cases st with
    | nil => exact s_nil
    | cons s ss => simp [chkSs] at h
  | m :: ms, S, n, fz, M, W, X, C, hp, st, h => by
    cases st with
    | nil => simp [chkSs] at h
    | cons s ss =>
      simp only [chkSs, Bool.and_eq_true] at h
      exact s_cons (s_ok m C hp _ h.1) (ss_ok ms C hp _ h.2)
end
/-! ### defs -/
section
variable {cA : CA} {T : Prog} {P : Program} {w : World} {K : PySem.W.Frag} {mg : Str → Option Value} {base : Heap} {G : List (Str × GK)}
/-- the def f stands at a, and its body is what the little language says -/
structure DefAt (cA : CA) (T : Prog) (K : PySem.W.Frag) (G : List (Str × GK)) (f : String) (a : Addr) (fd : FuncData) (ps : List Str) : Prop where
  ex : ∃ (x qual : Str) (st : Stmt) (N : List Str) (fi : Fd), L2.Fun K x qual st a fd ∧ L2.Binds K fd ps [] ∧ L2.FnScope N ps (L2.defScope st) ∧ T.fd f = some fi ∧ fi.np = ps.length ∧ fi.ns = N.length ∧
    chkSs ⟨N, L2.defScope st, G, cA, T, true⟩ fi.body (L2.defBody st) = true
def GOkB (cA : CA) (T : Prog) (K : PySem.W.Frag) (mg : Str → Option Value) (G : List (Str × GK)) (x : Str) : GK → Prop
  | .fn f => ∃ a fd ps, mg x = some (.ref a) ∧ DefAt cA T K G f a fd ps
  | .cls c => mg x = some (.ref (cA.ad c))
  | .blt id => mg x = none ∧ bootBuiltins x = some (.builtin id) ∧ x ≠ "__name__"
  | .ty t => mg x = none ∧ bootBuiltins x = some (.type t) ∧ x ≠ "__name__"
  | .str s => s.length ≤ LINE ∧ ∃ u, mg x = some u ∧ L2.RelV (.str (sv s)) u
  | .int i => ∃ u, mg x = some u ∧ L2.RelV (.int i) u
theorem re_start {ρ : List Addr} {H : HH} {N : List Str} {ws : List MP.W} {vs : List Vv} (r : RWs ρ H ws vs) : RE ρ H (ws.map some ++ List.replicate (N.length - ws.length) none) (L2.start N vs) := by
  unfold L2.start
  refine ⟨by simp [r.length], fun i w' e => ?_⟩
  by_cases hi : i < ws.length
  · rw [List.getElem?_append_left (by simpa using hi), List.getElem?_map] at e
    cases hw : ws[i]? with
    | none => rw [hw] at e; cases e
    | some u =>
      rw [hw] at e
      cases e
      obtain ⟨v, hv, rv⟩ := r.get hw
      refine ⟨v, ?_, rv⟩
      rw [List.getElem?_append_left (by rw [List.length_map, ← r.length]; exact hi), List.getElem?_map, hv]
      rfl
  · rw [List.getElem?_append_right (by simpa using hi), List.getElem?_replicate] at e
    split at e <;> cases e
theorem GoodS.out {fz : List Nat} {r : S} {ρ : List Addr} {H : HH} {Q : L2.VK} {E : L2.XK} (g : Good cA fz RW (out r) ρ H Q E) : GoodS cA fz r ρ H { nx := fun _ H' => Q .non H', rt := Q } (fun cls d _ H => E cls d H) := by
  cases r with
  | bad => exact g
  | exc y env h => exact fun ρ' c d σ' H' x rh rx _ => g ρ' c d H' x rh rx
  | ok f h =>
    cases f with
    | nx env => exact fun ρ' σ' H' x rh _ => g ρ' .non H' x rh rfl
    | rt w => exact fun ρ' σ' H' x rh v rv => g ρ' v H' x rh rv
    | bk env => exact (show False from g).elim
    | ct env => exact (show False from g).elim
theorem fn_all (cf : CF cA T K) (GB : ∀ x g, G.lookup x = some g → GOkB cA T K mg G x g) : ∀ (n : Nat) (f : String) (a : Addr) (fd : FuncData) (ps : List Str), DefAt cA T K G f a fd ps → FnAt cA T P w K mg base n f a fd ps
  | 0, f, a, fd, ps, d => by
    obtain ⟨x, qual, st, N, fi, F, B, _⟩ := d.ex
    exact ⟨⟨⟨fun vs H Q E ⟨_, _, _, _, _, _, _, _, g⟩ => g.elim, fun _ _ _ _ _ _ _ _ _ _ _ _ _ ⟨_, _, _, _, _, _, _, _, g⟩ => g.elim⟩, B⟩, F.kp⟩
  | n + 1, f, a, fd, ps, d => by
    obtain ⟨x, qual, st, N, fi, F, B, Sc, e1, e2, e3, ck⟩ := d.ex
    have inv : ∀ {vs : List Vv} {H : HH} {Q : L2.VK} {E : L2.XK}, spI cA T (n + 1) f vs H Q E → ∃ ρ fz lk h ws, (∀ m ∈ fz, m ∈ lk) ∧ RH cA ρ (· ∈ fz) h H ∧ RWs ρ H ws vs ∧ ws.length = ps.length ∧
        Good cA fz RW (out (exs ⟨T, run T n, lk, none⟩ fi.body (ws.map some ++ List.replicate (N.length - ws.length) none) h)) ρ H Q E := fun {vs H Q E} ⟨ρ, fz, lk, h, ws, hz, rh, rr, g⟩ => by
      unfold run at g
      rw [e1] at g
      obtain ⟨el, g⟩ := Good.guardR (show Good cA fz RW (guardR (decide (ws.length = fi.np)) _) ρ H _ _ from g)
      have el := of_decide_eq_true el
      rw [e3, ← el] at g
      exact ⟨ρ, fz, lk, h, ws, hz, rh, rr, by rw [el, e2], g⟩
    refine ⟨⟨(F.okX (k := 2 * n + 1) Sc (fun vs H Q E h => ?_) fun cdv A outer s H vs Q E hr hsp => ?_), B⟩, F.kp⟩
    · obtain ⟨ρ, fz, lk, h, ws, _, _, rr, el, _⟩ := inv h
      rw [← rr.length, el]
    · obtain ⟨ρ, fz, lk, h, ws, hz, rh, rr, el, g⟩ := inv hsp
      have C : SX ⟨N, L2.defScope st, G, cA, T, true⟩ n fz ⟨T, run T n, lk, none⟩ (fun cls d _ H => E cls d H) (L2.cxOf (L2.CX P w) P w K mg base N qual (L2.defScope st) a cdv A outer s H E) :=
        ⟨rfl, rfl, hz, rfl, Sc.nd, rfl, rfl, L2.takes_of rfl rfl rfl rfl, hr.mono (by omega), fun _ _ => rfl, fun x g e => by
          have := GB x g e
          cases g with
          | fn f' =>
            obtain ⟨b, fd', ps', h1, h2⟩ := this
            exact ⟨b, fd', ps', h1, fn_all cf GB n f' b fd' ps' h2⟩
          | cls c => exact this
          | blt id => exact this
          | ty t => exact this
          | str s => exact this
          | int i => exact this, cf⟩
      exact ⟨_, ss_ok fi.body C (L2.passes_of rfl) _ ck, ρ, _, h, rh, re_start rr, GoodS.out g⟩
end
end MP

namespace MP
open PySem PySem.Spec PyProof.Rows
/-! ### what is seen behind the top: no lists -/
def noL (K : PySem.W.Frag) : PySem.W.Frag := K.filter fun p => match p.2.cls with
  | .type c => !(c == "list")
  | _ => true
theorem lookup_mem {α : Type} {a : Addr} {o : α} : ∀ {l : List (Addr × α)}, l.lookup a = some o → (a, o) ∈ l
  | [], e => by cases e
  | (b, u) :: r, e => by
    rw [List.lookup_cons] at e
    cases h : a == b with
    | true =>
      rw [h] at e
      cases e
      rw [eq_of_beq h]
      exact List.mem_cons_self
    | false => rw [h] at e; exact List.mem_cons_of_mem _ (lookup_mem e)
theorem noL_mem {K : PySem.W.Frag} {a : Addr} {o : Obj} : (noL K).lookup a = some o → (a, o) ∈ K ∧ o.cls ≠ .type "list" := by
  intro e
  have hm := lookup_mem e
  obtain ⟨h1, h2⟩ := List.mem_filter.mp hm
  refine ⟨h1, fun z => ?_⟩
  simp only [z] at h2
  simp at h2
theorem frG_mem {g : Addr → Option Obj} {as : List Addr} {a : Addr} {o : Obj} (h : (a, o) ∈ He.frG g as) : g a = some o := by
  unfold He.frG at h
  obtain ⟨b, _, e⟩ := List.mem_filterMap.mp h
  cases hb : g b with
  | none => rw [hb] at e; cases e
  | some ob => rw [hb] at e; cases e; exact hb
def obsM (n : Nat) (fa : List He.Fa) (fn : List He.DefD) (g : Addr → Option Obj) : He.AlD := He.obsD fa fn (noL (He.frG g (He.asD g n)))
def hookM (n : Nat) (fa : List He.Fa) (fn : List He.DefD) : PySem.W.Hook where
  α := He.AlD
  obs := fun s => obsM n fa fn s.heap.get?
  val := fun _ => He.valD fn
  says := fun _ h => ∃ K : PySem.W.Frag, K.In h ∧ (∀ a o, K.lookup a = some o → o.cls ≠ .type "list") ∧ He.SaysD fa fn K
  of := fun _ _ e => ⟨_, fun a o q => frG_mem (noL_mem q).1, fun a o q => (noL_mem q).2, e⟩
  keeps := fun _ _ _ ⟨K, hK, n, c⟩ k => ⟨K, PySem.W.Frag.In.keeps hK k, n, c⟩
theorem obsM_eq {n : Nat} {fa : List He.Fa} {fn : List He.DefD} {g : Addr → Option Obj} {s : Shared} (h : ∀ a, g a = s.heap.get? a) : obsM n fa fn g = (hookM n fa fn).obs s := by
  have e : g = s.heap.get? := funext h
  rw [e] <;> rfl
/-! ### the end -/
def CXu : L2.CXT := fun outer H s E u s' => ∃ P w, L2.CX P w outer H s E u s'
theorem FnOk.cxu {P : Program} {w : World} {K : PySem.W.Frag} {mg : Str → Option Value} {base : Heap} {k : Nat} {f : Addr} {fd : FuncData} {ps : List Str} {sp : L2.Sp} (F : L2.FnOk P w K mg base (L2.CX P w) k f fd ps sp) : L2.FnOk P w K mg base CXu k f fd ps sp :=
  ⟨F.len, fun A outer s H args us vs Q E hr e0 hb r h => codeAny_mono (F.run A outer s H args us vs Q E hr e0 hb r h) fun r s' q => by
    cases r with
    | error e => exact ⟨P, w, q⟩
    | ok fl => cases fl <;> exact q⟩
/-- what the little language says of the law -/
def LawOk (T : Prog) (n : Nat) : Prop := ∀ ns : List Int, ns.length ≤ 63 → ∃ h, run T n [0] "law" [.ref 0] [.lst (ns.map .int)] = .ok (.bl true) h
theorem walk_end {l : PySem.W.OpenLaw} {m : Nat} {q : Program} {loose : List Str} {XP : (Str → Option Value) → Heap → Prop} {d : DefRec} {x : Str} {fa : List He.Fa} {fn : List He.DefD} {T : Prog} {G : List (Str × GK)} (cA : PySem.W.Frag → CA)
    (hn : l.most = some 63) (hdf : d.params.defaults = []) (hr : L2.Room (2 * m) callerA) (law : LawOk T m)
    (F : ∀ (K : PySem.W.Frag) (mg : Str → Option Value) (f : Addr) (h : Heap), K.In h → He.SaysD fa fn K → h.Ns mainGlobals mg → mg d.name = some (.ref f) →
      CF (cA K) T K ∧ (∀ y g, G.lookup y = some g → GOkB (cA K) T K mg G y g) ∧ ∃ fd, DefAt (cA K) T K G "law" f fd [x] ∧ ∀ (s : Shared) (u : Value), BindsTo s fd ⟨[u], []⟩ [(x, u)]) :
    PySem.W.WalkO q loose XP (fun _ h => ∃ K : PySem.W.Frag, K.In h ∧ (∀ a o, K.lookup a = some o → o.cls ≠ .type "list") ∧ He.SaysD fa fn K) l.row.toRowW d [] (fun f vs => PySem.call f vs) := by
  refine L2.walk_ofE (l := l) (n := 63) (k := 2 * m) (x := x) (CX := CXu) hn (by rw [sizeLine_eq]; decide) hdf hr (fun w mg f h Y hns hf => ?_) fun H s e s' ⟨P, w, h⟩ => ?_
  · obtain ⟨K, KX, nl, c⟩ := Y
    obtain ⟨cf, gb, fd, D, B⟩ := F K mg f h KX c hns hf
    refine ⟨K, fd, spI (cA K) T m "law", KX, B, fun H a ns hl hO hS => ?_, fun base hb hbn => FnOk.cxu (fn_all (P := l.prog) (w := w) (base := base) cf gb m "law" f fd [x] D).ok.1⟩
    have hfz : ∃ o, H a = some (.frz o (.lst (ns.map L2.V.int))) := by
      rcases hS with hS | ⟨o, its, n', e, z, _⟩
      · rcases hO a with e | ⟨o, xs, e⟩
        · rcases hS with q | ⟨o, q⟩ <;> rw [e] at q <;> cases q
        · rcases hS with q | ⟨o2, q⟩
          · rw [e] at q; cases q
          · rw [e] at q; cases q; exact ⟨_, e⟩
      · exact (nl a o e z).elim
    obtain ⟨o, hfz⟩ := hfz
    obtain ⟨h', hrun⟩ := law ns hl
    have hints : ∀ ns : List Int, RWs [a] H (ns.map .int) (ns.map L2.V.int) := by
      intro ns
      induction ns with
      | nil => rfl
      | cons i ns ih => exact ⟨_, _, rfl, rfl, ih⟩
    refine ⟨[a], [0], [0], [.lst (ns.map .int)], [.ref 0], fun m hm => hm, ⟨rfl, by simp, fun n ob b e1 e2 => ?_⟩, ⟨_, _, rfl, ⟨a, rfl, rfl⟩, rfl⟩, ?_⟩
    · cases n with
      | zero =>
        simp at e1 e2
        subst e1 e2
        exact ⟨_, hints ns, .inr ⟨by simp, o, hfz⟩⟩
      | succ n => simp at e1
    · rw [hrun]
      exact fun ρ' v H' _ _ rv => rv
  · obtain ⟨_, _, _, _, _, _, _, _, _, _, _, _, z⟩ := h
    exact z.elim
end MP
namespace MP
open PySem PySem.Spec PyProof.Rows
theorem funD_fun {K : PySem.W.Frag} {x qual : Str} {st : Stmt} {f : Addr} {fd : FuncData} (F : L2.FunD K x qual (L2.defArgs st) (L2.defBody st) (L2.defScope st) [] [] f fd) : L2.Fun K x qual st f fd := by
  obtain ⟨oc, od, dV, kV, doc, pm, an, cdv, ct, osl, e, lk, hcd, hD, hK⟩ := F.ex
  rcases hD with ⟨_, rfl⟩ | ⟨z, _⟩
  · exact ⟨⟨oc, od, kV, doc, pm, an, cdv, ct, osl, e, lk, hcd⟩, F.kp⟩
  · exact absurd rfl z
theorem mem_cons_of {α : Type} {P : α → Prop} {a : α} {l : List α} (h : P a) (t : ∀ p ∈ l, P p) : ∀ p ∈ a :: l, P p := fun p hp => (List.mem_cons.mp hp).elim (fun e => e ▸ h) (t p)
theorem lookup_memS {α : Type} {a : Str} {o : α} : ∀ {l : List (Str × α)}, l.lookup a = some o → (a, o) ∈ l
  | [], e => by cases e
  | (b, u) :: r, e => by
    rw [List.lookup_cons] at e
    cases h : a == b with
    | true =>
      rw [h] at e
      cases e
      rw [eq_of_beq h]
      exact List.mem_cons_self
    | false => rw [h] at e; exact List.mem_cons_of_mem _ (lookup_memS e)
theorem cf_nil {cA : CA} {T : Prog} {K : PySem.W.Frag} (h : cA.cls = []) : CF cA T K :=
  ⟨(fun c hc => by rw [h] at hc; cases hc), (fun c hc => by rw [h] at hc; cases hc), (fun c hc => by rw [h] at hc; cases hc), (fun n _ c hc => by rw [h] at hc; cases hc), (fun c hc => by rw [h] at hc; cases hc)⟩
end MP

namespace MP
/-! ### evaluation, rule by rule -/
theorem run_at {T : Prog} {n : Nat} {lk : List Nat} {f : String} {xs : List W} {h : Hp} {fd : Fd} (e : T.fd f = some fd) (l : xs.length = fd.np) :
    run T (n + 1) lk f xs h = out (exs ⟨T, run T n, lk, none⟩ fd.body (xs.map some ++ List.replicate (fd.ns - fd.np) none) h) := by
  unfold run
  rw [e]
  simp [l]
section
variable {h : Hp} {T : Prog} {a b : List Nat} {i j : Int} {x y : W} {p q : Bool}
@[simp] theorem asBool_bl : asBool (.bl p) = some p := rfl
@[simp] theorem cmp_lt : cmp .lt (.int i) (.int j) h = some (decide (i < j)) := rfl
@[simp] theorem cmp_le : cmp .le (.int i) (.int j) h = some (decide (i ≤ j)) := rfl
@[simp] theorem cmp_gt : cmp .gt (.int i) (.int j) h = some (decide (j < i)) := rfl
@[simp] theorem cmp_ge : cmp .ge (.int i) (.int j) h = some (decide (j ≤ i)) := rfl
@[simp] theorem cmp_lts : cmp .lt (.str a) (.str b) h = some (slt a b) := rfl
@[simp] theorem cmp_les : cmp .le (.str a) (.str b) h = some (!slt b a) := rfl
@[simp] theorem cmp_gts : cmp .gt (.str a) (.str b) h = some (slt b a) := rfl
@[simp] theorem cmp_ges : cmp .ge (.str a) (.str b) h = some (!slt a b) := rfl
@[simp] theorem cmp_eq : cmp .eq x y h = weq h x y := rfl
@[simp] theorem cmp_ne : cmp .ne x y h = (weq h x y).map (!·) := rfl
@[simp] theorem cmp_in : cmp .isin x y h = isIn x y h := rfl
@[simp] theorem cmp_notin : cmp .notin x y h = (isIn x y h).map (!·) := rfl
@[simp] theorem cmp_isN : cmp .is x .non h = some (isNon x) := by cases x <;> rfl
@[simp] theorem cmp_notN : cmp .isnot x .non h = some (!isNon x) := by cases x <;> rfl
@[simp] theorem isIn_str : isIn (.str a) (.str b) h = some (sIn a b) := rfl
@[simp] theorem weq_int : weq h (.int i) (.int j) = some (i == j) := rfl
@[simp] theorem weq_str : weq h (.str a) (.str b) = some (a == b) := rfl
@[simp] theorem weq_bl : weq h (.bl p) (.bl q) = some (p == q) := rfl
@[simp] theorem bin_add : bin .add (.int i) (.int j) h = .ok (.int (i + j)) h := rfl
@[simp] theorem bin_sub : bin .sub (.int i) (.int j) h = .ok (.int (i - j)) h := rfl
theorem bin_mul (e : mulOk i j = true) : bin .mul (.int i) (.int j) h = .ok (.int (i * j)) h := by show guardR _ _ = _; rw [e]; rfl
theorem bin_fdiv (e : divOk j = true) : bin .fdiv (.int i) (.int j) h = .ok (.int (i / j)) h := by show guardR _ _ = _; rw [e]; rfl
theorem bin_mod (e : 0 < j) : bin .mod (.int i) (.int j) h = .ok (.int (i % j)) h := by show guardR _ _ = _; rw [decide_eq_true e]; rfl
theorem bin_pow (e : powOk i j = true) : bin .pow (.int i) (.int j) h = .ok (.int (i ^ j.toNat)) h := by show guardR _ _ = _; rw [e]; rfl
theorem bin_adds (e : a.length + b.length ≤ LINE) : bin .add (.str a) (.str b) h = .ok (.str (a ++ b)) h := by show guardR _ _ = _; rw [decide_eq_true e]; rfl
@[simp] theorem blt_len1 : blt .len [x] h = .of ((lenW x h).map fun n => .int (n : Int)) h := rfl
@[simp] theorem lenW_str : lenW (.str a) h = some a.length := rfl
@[simp] theorem lenW_tup {xs : List W} : lenW (.tup xs) h = some xs.length := rfl
@[simp] theorem lenW_ref {n : Nat} : lenW (.ref n) h = lenO (rd h n) := rfl
@[simp] theorem lenO_lst {xs : List W} : lenO (some (.lst xs)) = some xs.length := rfl
@[simp] theorem lenO_dct {xs : List (W × W)} : lenO (some (.dct xs)) = some xs.length := rfl
@[simp] theorem item_str : item (.str a) (.int i) h = (atI a i).map fun c => .str [c] := rfl
@[simp] theorem item_tup {xs : List W} : item (.tup xs) (.int i) h = atI xs i := rfl
@[simp] theorem item_ref {n : Nat} : item (.ref n) x h = itemO x (rd h n) := rfl
@[simp] theorem itemO_lst {xs : List W} : itemO (.int i) (some (.lst xs)) = atI xs i := rfl
@[simp] theorem slice_str {lo hi : Option Int} : slice (.str a) lo hi h = .ok (.str (cutL a lo hi)) h := rfl
@[simp] theorem part_int : part (.int i) h = .ok (some i) h := rfl
@[simp] theorem neg_int : neg (.int i) h = .ok (.int (-i)) h := rfl
@[simp] theorem walkV_str : walkV (.str a) h = some (a.map fun c => .str [c], []) := rfl
@[simp] theorem walkV_tup {xs : List W} : walkV (.tup xs) h = some (xs, []) := rfl
@[simp] theorem walkV_ref {n : Nat} : walkV (.ref n) h = walkO n (rd h n) := rfl
@[simp] theorem walkO_lst {n : Nat} {xs : List W} : walkO n (some (.lst xs)) = some (xs, [n]) := rfl
@[simp] theorem bind_name {n : Nat} {env : Env} : bindTg (.name n) x env h = some (env.set n (some x)) := rfl
@[simp] theorem mthOf_join : mthOf T (.str a) "join" h = some .blt := rfl
@[simp] theorem bm_join {lk : List Nat} {s : List Nat} : bm lk (.str s) "join" [y] h = thenO (lotV y h) fun p => thenO (strsV p) fun zs => guardR (decide ((zs.map List.length).sum + zs.length * s.length ≤ LINE)) (.ok (.str (joinS s zs)) h) := rfl
@[simp] theorem lotV_ref {n : Nat} {xs : List W} (e : rd h n = some (.lst xs)) : lotV (.ref n) h = some xs := by unfold lotV; simp only [e]
@[simp] theorem rd_new {o : O} : rd (h ++ [o]) h.length = some o := by simp [rd]
theorem rd_old {n : Nat} {o u : O} (e : rd h n = some u) : rd (h ++ [o]) n = some u := by
  unfold rd at e ⊢
  rw [List.getElem?_append_left (List.getElem?_eq_some_iff.mp e).1]; exact e
@[simp] theorem isTy_int : isTy T (.int i) .int h = some true := rfl
@[simp] theorem isTy_intb : isTy T (.bl p) .int h = some true := rfl
@[simp] theorem isTy_bool : isTy T (.bl p) .bool h = some true := rfl
@[simp] theorem isTy_booli : isTy T (.int i) .bool h = some false := rfl
end
theorem ixN_nat {n k : Nat} (h : k < n) : ixN n (k : Int) = some k := by
  unfold ixN
  rw [if_pos (Int.natCast_nonneg k), if_pos (by exact_mod_cast h), Int.toNat_natCast]
theorem atI_nat {α : Type} {xs : List α} {k : Nat} (h : k < xs.length) : atI xs (k : Int) = some xs[k] := by
  unfold atI
  rw [ixN_nat h]
  exact List.getElem?_eq_getElem h
theorem atI_some {α : Type} {xs : List α} {i : Int} (h0 : 0 ≤ i) (h1 : i < xs.length) : ∃ x, atI xs i = some x ∧ xs[i.toNat]? = some x := by
  have h2 : i.toNat < xs.length := by omega
  refine ⟨xs[i.toNat], ?_, List.getElem?_eq_getElem h2⟩
  have e : (i.toNat : Int) = i := by omega
  have := atI_nat (xs := xs) h2
  rw [e] at this
  exact this
/-- a loop that leaves at the first item that is not P -/
theorem forL_all {f : W → Env → Hp → S} {h : Hp} (P : W → Bool) (I : Env → Prop) : ∀ (xs : List W), (∀ x ∈ xs, ∀ env, I env → (P x = true → ∃ env', I env' ∧ f x env h = .ok (.nx env') h) ∧ (P x = false → f x env h = .ok (.rt (.bl false)) h)) →
    ∀ env, I env → (xs.all P = true → ∃ env', I env' ∧ forL f xs env h = .ok (.nx env') h) ∧ (xs.all P = false → forL f xs env h = .ok (.rt (.bl false)) h)
  | [], _, env, i => ⟨fun _ => ⟨env, i, rfl⟩, fun e => by cases e⟩
  | x :: xs, st, env, i => by
    obtain ⟨s1, s2⟩ := st x List.mem_cons_self env i
    rw [List.all_cons]
    cases hp : P x with
    | false =>
      refine ⟨fun e => (by cases e), fun _ => ?_⟩
      show (f x env h).turn _ = _
      rw [s2 hp]
      rfl
    | true =>
      obtain ⟨env', i', e1⟩ := s1 hp
      have ih := forL_all P I xs (fun y hy => st y (List.mem_cons_of_mem _ hy)) env' i'
      have e2 : forL f (x :: xs) env h = forL f xs env' h := by
        show (f x env h).turn _ = _
        rw [e1]
        rfl
      rw [e2]
      exact ih
/-- a comprehension over numbers, its items computed -/
theorem compL_map {f : W → Hp → R (Option W)} {h : Hp} (g : W → W) : ∀ (xs acc : List W), (∀ x ∈ xs, f x h = .ok (some (g x)) h) → acc.length + xs.length ≤ LINE → compL f xs acc h = .ok (acc ++ xs.map g) h
  | [], acc, _, _ => by simp [compL]
  | x :: xs, acc, st, hl => by
    unfold compL
    rw [st x List.mem_cons_self]
    simp only [R.calm_ok, R.bind_ok]
    rw [List.length_cons] at hl
    rw [decide_eq_true (by omega)]
    rw [guardR_true, compL_map g xs _ (fun y hy => st y (List.mem_cons_of_mem _ hy)) (by simp; omega)]
    simp
/-- a loop that keeps what holds -/
theorem forL_inv {f : W → Env → Hp → S} (I : List W → Env → Hp → Prop) (st : ∀ x xs env h, I (x :: xs) env h → ∃ env' h', f x env h = .ok (.nx env') h' ∧ I xs env' h') :
    ∀ xs env h, I xs env h → ∃ env' h', forL f xs env h = .ok (.nx env') h' ∧ I [] env' h'
  | [], env, h, i => ⟨env, h, rfl, i⟩
  | x :: xs, env, h, i => by
    obtain ⟨env1, h1, e1, i1⟩ := st x xs env h i
    obtain ⟨env2, h2, e2, i2⟩ := forL_inv I st xs env1 h1 i1
    refine ⟨env2, h2, ?_, i2⟩
    show (f x env h).turn _ = _
    rw [e1]
    exact e2
theorem exs_app (X : Cx) : ∀ (a b : List St) (env : Env) (h : Hp), exs X (a ++ b) env h = (exs X a env h).then fun env h => exs X b env h
  | [], b, env, h => rfl
  | s :: a, b, env, h => by
    show (ex X s env h).then _ = ((ex X s env h).then _).then _
    cases ex X s env h with
    | ok f h => cases f <;> first | exact exs_app X a b _ _ | rfl
    | _ => rfl
theorem rd_app (h : Hp) (l : List O) (k : Nat) : rd (h ++ l) (h.length + k) = l[k]? := by
  unfold rd
  rw [List.getElem?_append_right (by omega)]
  congr 1
  omega
theorem rd_olds {h l : Hp} {n : Nat} {u : O} (e : rd h n = some u) : rd (h ++ l) n = some u := by
  unfold rd at e ⊢
  rw [List.getElem?_append_left (List.getElem?_eq_some_iff.mp e).1]; exact e
theorem cutL_le (a : List Nat) (lo hi : Option Int) : (cutL a lo hi).length ≤ a.length := by
  unfold cutL
  rw [List.length_drop, List.length_take]
  omega
theorem rangeW_mem {lo hi : Int} {x : W} (h : x ∈ rangeW lo hi) : ∃ j : Nat, x = .int (lo + (j : Int)) ∧ lo + (j : Int) < hi := by
  obtain ⟨j, hj, rfl⟩ := List.mem_map.mp h
  exact ⟨j, rfl, by have := List.mem_range.mp hj; omega⟩
theorem rangeW_len (lo hi : Int) : (rangeW lo hi).length = (hi - lo).toNat := by simp [rangeW]
theorem slt1 (a c : Nat) : slt [a] [c] = decide (a < c) := by
  unfold slt
  split
  · rename_i e; subst e; simp [slt]
  · rfl
end MP

namespace MP.L
def b_place_of : List St := [.set (.tg (.tup [2,3])) (.blt .divmod [.var 0, .int 11]), .ret (.bin .mod (.bin .add (.bin .mul (.bin .add (.var 2) (.int 1)) (.var 1)) (.var 3)) (.int 11))]
def b__law_cell : List St := [.ite (.cmp .lt (.var 1) (.blt .len [.var 0])) [.ret (.ix (.var 0) (.var 1))] [], .ret (.int 0)]
def p__law_drawers_1 : List St := [.ite (.and (.cmp .eq (.call "place_of" [.var 3, .ix (.var 0) (.int 0)]) (.ix (.var 1) (.int 0))) (.cmp .eq (.call "place_of" [.var 3, .ix (.var 0) (.int 1)]) (.ix (.var 1) (.int 1)))) [.expr (.meth (.var 2) "append" [.var 3])] []]
def b__law_drawers : List St := [.set (.tg (.name 2)) (.lst []), .for (.name 3) (.rng (.int 110)) p__law_drawers_1, .ret (.var 2)]
def b__law_two : List St := [.ret (.tup [.bin .mod (.var 0) (.int 11), .bin .mod (.bin .add (.bin .add (.bin .mod (.var 0) (.int 11)) (.int 1)) (.bin .mod (.bin .fdiv (.var 0) (.int 11)) (.int 10))) (.int 11)])]
def p_law_1 : List St := [.set (.tg (.name 2)) (.call "_law_two" [.call "_law_cell" [.var 0, .var 1]]), .set (.tg (.name 3)) (.call "_law_two" [.call "_law_cell" [.var 0, .bin .add (.var 1) (.int 1)]]), .ite (.cmp .ne (.blt .len [.call "_law_drawers" [.var 2, .var 3]]) (.int 1)) [.ret (.bl false)] []]
def b_law : List St := [.for (.name 1) (.rng3 (.int 0) (.blt .max2 [.int 1, .blt .min2 [.blt .len [.var 0], .int 12]]) (.int 2)) p_law_1, .ret (.bl true)]
def T_fd : String → Option Fd
  | "place_of" => some ⟨2, 4, b_place_of⟩
  | "_law_cell" => some ⟨2, 2, b__law_cell⟩
  | "_law_drawers" => some ⟨2, 4, b__law_drawers⟩
  | "_law_two" => some ⟨1, 1, b__law_two⟩
  | "law" => some ⟨1, 4, b_law⟩
  | _ => none
def T_mt : String → String → Option String
  | _, _ => none
def T_sub (a b : String) : Bool := match a with
  | _ => false
def T_exc : String → Option (List String)
  | _ => none
def T : Prog := ⟨T_fd, T_mt, T_sub, T_exc⟩
end MP.L

namespace MP.L
open MP

/-! the sums, in plain numbers -/
def pl (d p : Nat) : Nat := ((d / 11 + 1) * p + d % 11) % 11
def inv (p0 p1 a0 a1 : Nat) : Nat :=
  let m := ((a1 + 11 - a0) % 11 * ((p1 + 11 - p0) % 11) ^ 9) % 11
  11 * (m - 1) + (a0 + 110 - m * p0) % 11
def allN (f : Nat → Bool) : Nat → Bool
  | 0 => true
  | n + 1 => f n && allN f n
theorem allN_ok {f : Nat → Bool} : ∀ {n : Nat}, allN f n = true → ∀ i, i < n → f i = true
  | 0, _, i, h => by omega
  | n + 1, e, i, h => by
    unfold allN at e
    rw [Bool.and_eq_true] at e
    by_cases h' : i = n
    · rw [h']; exact e.1
    · exact allN_ok e.2 i (by omega)
def chkA : Bool := allN (fun p0 => allN (fun k => allN (fun d => Nat.beq (inv p0 ((p0 + 1 + k) % 11) (pl d p0) (pl d ((p0 + 1 + k) % 11))) d) 110) 10) 11
def chkB : Bool := allN (fun p0 => allN (fun k => allN (fun a0 => allN (fun j => (fun d => Nat.ble (d + 1) 110 && Nat.beq (pl d p0) a0 && Nat.beq (pl d ((p0 + 1 + k) % 11)) ((a0 + 1 + j) % 11)) (inv p0 ((p0 + 1 + k) % 11) a0 ((a0 + 1 + j) % 11))) 10) 11) 10) 11
theorem chkA_ok : chkA = true := by decide +kernel
theorem chkB_ok : chkB = true := by decide +kernel
theorem one (p0 k a0 j : Nat) (h1 : p0 < 11) (h2 : k < 10) (h3 : a0 < 11) (h4 : j < 10) :
    ∃ v, v < 110 ∧ ∀ d, d < 110 → (decide (pl d p0 = a0) && decide (pl d ((p0 + 1 + k) % 11) = (a0 + 1 + j) % 11)) = decide (d = v) := by
  have b := allN_ok (allN_ok (allN_ok (allN_ok chkB_ok p0 h1) k h2) a0 h3) j h4
  simp only [Bool.and_eq_true] at b
  refine ⟨_, Nat.ble_eq.mp b.1.1, fun d hd => ?_⟩
  have a := Nat.eq_of_beq_eq_true (allN_ok (allN_ok (allN_ok chkA_ok p0 h1) k h2) d hd)
  have b1 := Nat.eq_of_beq_eq_true b.1.2
  have b2 := Nat.eq_of_beq_eq_true b.2
  rw [Bool.eq_iff_iff]
  simp only [Bool.and_eq_true, decide_eq_true_eq]
  constructor
  · rintro ⟨e1, e2⟩
    rw [e1, e2] at a
    exact a.symm
  · rintro rfl
    exact ⟨b1, b2⟩
theorem filt_one {v n : Nat} (h : v < n) : ((List.range n).filter fun d => decide (d = v)).length = 1 := by
  induction n with
  | zero => omega
  | succ n ih =>
    rw [List.range_succ, List.filter_append, List.length_append]
    by_cases e : v = n
    · subst e
      have : (List.range v).filter (fun d => decide (d = v)) = [] := by
        rw [List.filter_eq_nil_iff]
        intro a ha
        have := List.mem_range.mp ha
        simp; omega
      rw [this]
      simp
    · rw [ih (by omega)]
      have : ¬ n = v := fun h => e h.symm
      simp [this]
/-! the text's defs -/
theorem place_ok (n : Nat) (lk : List Nat) (d p : Nat) (hd : d < 110) (hp : p < 11) (h : Hp) : run T (n + 1) lk "place_of" [.int d, .int p] h = .ok (.int (pl d p)) h := by
  rw [run_at (fd := ⟨2, 4, b_place_of⟩) rfl rfl]
  have hm : ∀ {h : Hp}, bin .mul (.int ((d : Int) / 11 + 1)) (.int p) h = .ok (.int (((d : Int) / 11 + 1) * p)) h := bin_mul (by
    unfold mulOk
    rw [decide_eq_true (p := ((d : Int) / 11 + 1).natAbs < 2 ^ 64) (by omega)]
    rfl)
  have b11 : ∀ {i : Int} {h : Hp}, bin .mod (.int i) (.int 11) h = .ok (.int (i % 11)) h := bin_mod (by decide)
  have dm : blt .divmod [.int d, .int 11] h = .ok (.tup [.int ((d : Int) / 11), .int ((d : Int) % 11)]) h := rfl
  simp [b_place_of, slot, dm, bindTg, itemsV, setAll, hm, b11, out]
  unfold pl
  push_cast
  omega
def PP (p0 p1 a0 a1 : Nat) : W → Bool
  | .int i => decide (pl i.toNat p0 = a0) && decide (pl i.toNat p1 = a1)
  | _ => false
theorem set_last (h : Hp) (x y : O) : (h ++ [x]).set h.length y = h ++ [y] := by
  rw [List.set_append_right _ _ (by omega)]
  simp
theorem filt_le {P : W → Bool} : ∀ l : List W, (l.filter P).length ≤ l.length := fun l => List.length_filter_le P l
theorem drawers_ok (n : Nat) (lk : List Nat) (p0 p1 a0 a1 : Nat) (h1 : p0 < 11) (h2 : p1 < 11) (h : Hp) (hk : ∀ k ∈ lk, k < h.length) :
    run T (n + 2) lk "_law_drawers" [.tup [.int p0, .int p1], .tup [.int a0, .int a1]] h = .ok (.ref h.length) (h ++ [O.lst ((rangeW 0 110).filter (PP p0 p1 a0 a1))]) := by
  rw [run_at (fd := ⟨2, 4, b__law_drawers⟩) rfl rfl]
  have hn : h.length ∉ lk := fun hm => Nat.lt_irrefl _ (hk _ hm)
  obtain ⟨env', h', e1, o, acc, rfl, rfl, ha⟩ := forL_inv (f := turnOf (.name 3) (fun env h => exs (⟨T, run T (n + 1), lk, none⟩ : Cx) p__law_drawers_1 env h))
    (fun xs env h' => ∃ o acc, env = [some (.tup [.int p0, .int p1]), some (.tup [.int a0, .int a1]), some (.ref h.length), o] ∧ h' = h ++ [O.lst acc] ∧ (acc ++ xs.filter (PP p0 p1 a0 a1) = (rangeW 0 110).filter (PP p0 p1 a0 a1) ∧ ∀ x ∈ xs, ∃ j : Nat, x = .int (j : Int) ∧ j < 110))
    (fun x xs env h' ⟨o, acc, he, hh, ha, hx⟩ => by
      obtain ⟨j, rfl, hj⟩ := hx x List.mem_cons_self
      subst he hh
      have q0 := place_ok n lk j p0 hj h1 (h ++ [O.lst acc])
      have q1 := place_ok n lk j p1 hj h2 (h ++ [O.lst acc])
      have i0 : atI [W.int p0, W.int p1] 0 = some (.int p0) := rfl
      have i1 : atI [W.int p0, W.int p1] 1 = some (.int p1) := rfl
      have j0 : atI [W.int a0, W.int a1] 0 = some (.int a0) := rfl
      have j1 : atI [W.int a0, W.int a1] 1 = some (.int a1) := rfl
      have c0 : ((pl j p0 : Nat) : Int) = (a0 : Int) ↔ pl j p0 = a0 := by omega
      have c1 : ((pl j p1 : Nat) : Int) = (a1 : Int) ↔ pl j p1 = a1 := by omega
      rw [List.filter_cons] at ha
      have hP : PP p0 p1 a0 a1 (.int (j : Int)) = (decide (pl j p0 = a0) && decide (pl j p1 = a1)) := rfl
      rw [hP] at ha
      by_cases k0 : pl j p0 = a0
      · by_cases k1 : pl j p1 = a1
        · have hl : acc.length < LINE := by
            have := congrArg List.length ha
            have hle := filt_le (P := PP p0 p1 a0 a1) (rangeW 0 110)
            rw [rangeW_len] at hle
            have h110 : (110 - 0 : Int).toNat ≤ 110 := by decide
            have : acc.length ≤ ((rangeW 0 110).filter (PP p0 p1 a0 a1)).length := by rw [← ha, List.length_append]; omega
            exact Nat.lt_of_le_of_lt (Nat.le_trans this (Nat.le_trans hle h110)) (by decide)
          rw [k0, k1] at ha
          refine ⟨_, _, ?_, some (.int (j : Int)), acc ++ [.int (j : Int)], rfl, rfl, by simpa using ha, fun z hz => hx z (List.mem_cons_of_mem _ hz)⟩
          have ap : bm lk (.ref h.length) "append" [.int (j : Int)] (h ++ [O.lst acc]) = .ok .non (h ++ [O.lst (acc ++ [.int (j : Int)])]) := by
            show bmO lk h.length "append" [.int (j : Int)] (h ++ [O.lst acc]) (rd (h ++ [O.lst acc]) h.length) = _
            rw [rd_new]
            show guardR (decide (acc.length < LINE)) (putV lk h.length (.lst (acc ++ [.int (j : Int)])) .non (h ++ [O.lst acc])) = _
            rw [decide_eq_true hl]
            show (put lk h.length _ _).bind _ = _
            unfold put
            rw [if_pos ⟨by simp, hn⟩, set_last]
            rfl
          have am : mthOf T (.ref h.length) "append" (h ++ [O.lst acc]) = some .blt := by
            show mthO T "append" (rd (h ++ [O.lst acc]) h.length) = _
            rw [rd_new]
            rfl
          simp [p__law_drawers_1, slot, i0, i1, j0, j1, q0, q1, k0, k1, c0, c1, ap, am]
        · refine ⟨_, _, ?_, some (.int (j : Int)), acc, rfl, rfl, by simpa [k1] using ha, fun z hz => hx z (List.mem_cons_of_mem _ hz)⟩
          simp [p__law_drawers_1, slot, i0, i1, j0, j1, q0, q1, k0, k1, c0, c1]
      · refine ⟨_, _, ?_, some (.int (j : Int)), acc, rfl, rfl, by simpa [k0] using ha, fun z hz => hx z (List.mem_cons_of_mem _ hz)⟩
        simp [p__law_drawers_1, slot, i0, i1, j0, j1, q0, q1, k0, c0, c1])
    (rangeW 0 110) [some (.tup [.int p0, .int p1]), some (.tup [.int a0, .int a1]), some (.ref h.length), none] (h ++ [O.lst []]) ⟨none, [], rfl, rfl, by simp, fun x hx => by
      obtain ⟨j, rfl, hj⟩ := rangeW_mem hx
      exact ⟨j, by simp, by omega⟩⟩
  have r110 : rng1 (.int 110) = some (rangeW 0 110) := rfl
  have ha := ha.1
  simp at ha
  simp [b__law_drawers, slot, mk, r110, e1, ha, out]
theorem two_ok (n : Nat) (lk : List Nat) (c : Int) (h : Hp) : ∃ p k, p < 11 ∧ k < 10 ∧ run T (n + 1) lk "_law_two" [.int c] h = .ok (.tup [.int (p : Nat), .int (((p + 1 + k) % 11 : Nat) : Int)]) h := by
  refine ⟨(c % 11).toNat, (c / 11 % 10).toNat, by omega, by omega, ?_⟩
  rw [run_at (fd := ⟨1, 1, b__law_two⟩) rfl rfl]
  have b11 : ∀ {i : Int} {h : Hp}, bin .mod (.int i) (.int 11) h = .ok (.int (i % 11)) h := bin_mod (by decide)
  have b10 : ∀ {i : Int} {h : Hp}, bin .mod (.int i) (.int 10) h = .ok (.int (i % 10)) h := bin_mod (by decide)
  have d11 : ∀ {i : Int} {h : Hp}, bin .fdiv (.int i) (.int 11) h = .ok (.int (i / 11)) h := bin_fdiv (by decide)
  simp [b__law_two, slot, b11, b10, d11, out]
  omega
def cell (ns : List Int) (j : Nat) : Int := if j < ns.length then ns.getD j 0 else 0
theorem cell_ok (n : Nat) (lk : List Nat) (ns : List Int) (j : Nat) (h : Hp) (hs : rd h 0 = some (.lst (ns.map .int))) : run T (n + 1) lk "_law_cell" [.ref 0, .int j] h = .ok (.int (cell ns j)) h := by
  rw [run_at (fd := ⟨2, 2, b__law_cell⟩) rfl rfl]
  have e1 : (j : Int) < (ns.length : Int) ↔ j < ns.length := by omega
  by_cases hj : j < ns.length
  · have e2 : atI (ns.map W.int) (j : Int) = some (.int (ns.getD j 0)) := by
      rw [atI_nat (by simpa using hj)]
      simp [List.getD_eq_getElem?_getD, hj]
    simp [b__law_cell, slot, hs, e1, hj, e2, out, cell]
  · simp [b__law_cell, slot, hs, e1, hj, out, cell]
theorem found_one (p k a j : Nat) (h1 : p < 11) (h2 : k < 10) (h3 : a < 11) (h4 : j < 10) : ((rangeW 0 110).filter (PP p ((p + 1 + k) % 11) a ((a + 1 + j) % 11))).length = 1 := by
  obtain ⟨v, hv, e⟩ := one p k a j h1 h2 h3 h4
  have e2 : (rangeW 0 110).filter (PP p ((p + 1 + k) % 11) a ((a + 1 + j) % 11)) = ((List.range 110).filter fun d => decide (d = v)).map fun (k : Nat) => W.int (0 + (k : Int)) := by
    show List.filter _ (List.map _ (List.range 110)) = _
    rw [List.filter_map]
    congr 1
    refine List.filter_congr fun d hd => ?_
    rw [← e d (List.mem_range.mp hd)]
    show (decide (pl (0 + (d : Int)).toNat p = a) && decide (pl (0 + (d : Int)).toNat ((p + 1 + k) % 11) = (a + 1 + j) % 11)) = _
    rw [show (0 + (d : Int)).toNat = d by omega]
  rw [e2, List.length_map, filt_one hv]
theorem rangeS_mem {lo hi st : Int} {x : W} (h : x ∈ rangeS lo hi st) : ∃ j : Nat, x = .int (lo + st * (j : Int)) := by
  obtain ⟨j, _, rfl⟩ := List.mem_map.mp h
  exact ⟨j, rfl⟩
theorem law_ok : LawOk T 8 := by
  intro ns hl
  have hs : rd [O.lst (ns.map W.int)] 0 = some (.lst (ns.map .int)) := rfl
  rw [run_at (fd := ⟨1, 4, b_law⟩) rfl rfl]
  generalize hx : rangeS 0 (if 1 < (if (12 : Int) < (ns.length : Int) then (12 : Int) else ns.length) then (if (12 : Int) < (ns.length : Int) then (12 : Int) else ns.length) else 1) 2 = xs
  obtain ⟨env', h', e1, _⟩ := forL_inv (f := turnOf (.name 1) (fun env h => exs (⟨T, run T 7, [0], none⟩ : Cx) p_law_1 env h))
    (fun xs env h => rd h 0 = some (.lst (ns.map .int)) ∧ (∃ o1 o2 o3, env = [some (.ref 0), o1, o2, o3]) ∧ ∀ x ∈ xs, ∃ j : Nat, x = .int (j : Int))
    (fun x xs env h ⟨hs, ⟨o1, o2, o3, he⟩, hx⟩ => by
      subst he
      obtain ⟨j, rfl⟩ := hx x List.mem_cons_self
      have c0 := cell_ok 6 [0] ns j h hs
      have c1 := cell_ok 6 [0] ns (j + 1) h hs
      push_cast at c1
      obtain ⟨p, k, hp, hk, t1⟩ := two_ok 6 [0] (cell ns j) h
      obtain ⟨a, i, ha, hi, t2⟩ := two_ok 6 [0] (cell ns (j + 1)) h
      have hlen : ∀ k ∈ [0], k < h.length := by
        intro k hk
        rw [List.mem_singleton] at hk
        rw [hk]
        exact (List.getElem?_eq_some_iff.mp hs).1
      have dr := drawers_ok 5 [0] p ((p + 1 + k) % 11) a ((a + 1 + i) % 11) hp (Nat.mod_lt _ (by decide)) h hlen
      have f1 := found_one p k a i hp hk ha hi
      refine ⟨_, h ++ [O.lst ((rangeW 0 110).filter (PP p ((p + 1 + k) % 11) a ((a + 1 + i) % 11)))], ?_, rd_old hs, ⟨some (.int j), some (.tup [.int (p : Nat), .int (((p + 1 + k) % 11 : Nat) : Int)]), some (.tup [.int (a : Nat), .int (((a + 1 + i) % 11 : Nat) : Int)]), rfl⟩, fun z hz => hx z (List.mem_cons_of_mem _ hz)⟩
      simp only [Int.natCast_emod, Int.natCast_add, Int.cast_ofNat_Int, Int.natCast_one] at t1 t2 dr ⊢
      simp [p_law_1, slot, c0, c1, t1, t2, dr, f1])
    xs [some (.ref 0), none, none, none] [O.lst (ns.map W.int)] ⟨hs, ⟨_, _, _, rfl⟩, fun x h => by
      rw [← hx] at h
      obtain ⟨j, rfl⟩ := rangeS_mem h
      exact ⟨2 * j, by push_cast; simp⟩⟩
  have m12 : ∀ h, blt .min2 [.int ns.length, .int 12] h = .ok (.int (if (12 : Int) < (ns.length : Int) then (12 : Int) else ns.length)) h := fun _ => rfl
  have x12 : ∀ i h, blt .max2 [.int 1, .int i] h = .ok (.int (if (1 : Int) < i then i else 1)) h := fun _ _ => rfl
  generalize hi : (if (1 : Int) < (if (12 : Int) < (ns.length : Int) then (12 : Int) else ns.length) then (if (12 : Int) < (ns.length : Int) then (12 : Int) else ns.length) else 1) = m at hx
  have r3 : rng3 (.int 0) (.int m) (.int 2) = some xs := by
    have : small62 m = true := by unfold small62; simp; split at hi <;> (try split at hi) <;> omega
    show (if (small62 0 && small62 m && decide ((0 : Int) < 2) && decide ((2 : Int) < 2 ^ 20)) = true then some (rangeS 0 m 2) else none) = _
    rw [this, hx]
    rfl
  refine ⟨h', ?_⟩
  simp [b_law, slot, hs, m12, x12, hi, r3, e1, out]

end MP.L

namespace MP.E
open PySem PySem.Spec PyProof.Rows L2 MP MP.L
def top (i : Nat) : Stmt := PySem.Challenge.pw_threeroofs_k12_whole_two_plots.main.body.getD i (.Pass ⟨0, 0, 0, 0⟩)
def fn : List He.DefD := [⟨("place_of", none), "place_of", "place_of", defArgs (top 1), defBody (top 1), defScope (top 1), [], []⟩,
  ⟨("_law_cell", none), "_law_cell", "_law_cell", defArgs (top 3), defBody (top 3), defScope (top 3), [], []⟩,
  ⟨("_law_drawers", none), "_law_drawers", "_law_drawers", defArgs (top 4), defBody (top 4), defScope (top 4), [], []⟩,
  ⟨("_law_two", none), "_law_two", "_law_two", defArgs (top 5), defBody (top 5), defScope (top 5), [], []⟩,
  ⟨("law", none), "law", "law", defArgs (top 6), defBody (top 6), defScope (top 6), [], []⟩]
def fa : List He.Fa := [.glo "place_of", .glo "_law_cell", .glo "_law_drawers", .glo "_law_two", .glo "law", .free "len", .free "divmod", .free "min", .free "max", .free "range"]
def nm0 : List PySem.Str := ["place_of", "_law_cell", "_law_drawers", "_law_two"]
def names : List PySem.Str := nm0
abbrev R : PySem.W.OpenRow := PySem.W.OpenLaw.row PySem.Challenge.rw_threeroofs_k12_whole_two_plots
abbrev hk : PySem.W.Hook := hookM 5 fa fn
def ob (s : PySem.W.SharedT) : He.AlD := obsM 5 fa fn (HandSHeadRun.getT s)
theorem ob_eq (s : PySem.W.SharedT) : ob s = hk.obs s.abs := obsM_eq (HandSHeadRun.getT_eq s)
theorem run (w : World) : HandSHeadRun.RunEq R (PySem.W.view R.prog [6]) hk ob 20000 names w := by
  intro os
  kernel_rfl
def cA (K : PySem.W.Frag) : CA := ⟨fun c => He.ga K (Str.ofString c), []⟩
def G : List (PySem.Str × GK) := [("place_of", .fn "place_of"), ("_law_cell", .fn "_law_cell"), ("_law_drawers", .fn "_law_drawers"), ("_law_two", .fn "_law_two"), ("law", .fn "law"), ("len", .blt "len"), ("divmod", .blt "divmod"), ("min", .blt "min"), ("max", .blt "max"), ("range", .ty "range")]
theorem ck_place_of (ad : String → Addr) : chkSs ⟨["drawer", "plot", "step", "start"], defScope (top 1), G, ⟨ad, []⟩, T, true⟩ b_place_of (defBody (top 1)) = true := by kernel_rfl
theorem sc_place_of : FnScope ["drawer", "plot", "step", "start"] ["drawer", "plot"] (defScope (top 1)) := ⟨by kernel_rfl, by kernel_rfl, by kernel_rfl, by decide +kernel, by kernel_rfl, by decide +kernel, by decide +kernel⟩
theorem ck__law_cell (ad : String → Addr) : chkSs ⟨["script", "k"], defScope (top 3), G, ⟨ad, []⟩, T, true⟩ b__law_cell (defBody (top 3)) = true := by kernel_rfl
theorem sc__law_cell : FnScope ["script", "k"] ["script", "k"] (defScope (top 3)) := ⟨by kernel_rfl, by kernel_rfl, by kernel_rfl, by decide +kernel, by kernel_rfl, by decide +kernel, by decide +kernel⟩
theorem ck__law_drawers (ad : String → Addr) : chkSs ⟨["plots", "places", "found", "drawer"], defScope (top 4), G, ⟨ad, []⟩, T, true⟩ b__law_drawers (defBody (top 4)) = true := by kernel_rfl
theorem sc__law_drawers : FnScope ["plots", "places", "found", "drawer"] ["plots", "places"] (defScope (top 4)) := ⟨by kernel_rfl, by kernel_rfl, by kernel_rfl, by decide +kernel, by kernel_rfl, by decide +kernel, by decide +kernel⟩
theorem ck__law_two (ad : String → Addr) : chkSs ⟨["cell"], defScope (top 5), G, ⟨ad, []⟩, T, true⟩ b__law_two (defBody (top 5)) = true := by kernel_rfl
theorem sc__law_two : FnScope ["cell"] ["cell"] (defScope (top 5)) := ⟨by kernel_rfl, by kernel_rfl, by kernel_rfl, by decide +kernel, by kernel_rfl, by decide +kernel, by decide +kernel⟩
theorem ck_law (ad : String → Addr) : chkSs ⟨["script", "k", "plots", "places"], defScope (top 6), G, ⟨ad, []⟩, T, true⟩ b_law (defBody (top 6)) = true := by kernel_rfl
theorem sc_law : FnScope ["script", "k", "plots", "places"] ["script"] (defScope (top 6)) := ⟨by kernel_rfl, by kernel_rfl, by kernel_rfl, by decide +kernel, by kernel_rfl, by decide +kernel, by decide +kernel⟩
section
variable {K : PySem.W.Frag} {h : Heap} {mg : PySem.Str → Option Value} (X : K.In h) (Gn : h.Ns mainGlobals mg) (c : He.SaysD fa fn K)
include X Gn c
theorem d_place_of : ∃ fd, DefAt (cA K) T K G "place_of" (He.ga K "place_of") fd ["drawer", "plot"] ∧ ∀ (s : Shared) (us : List Value), us.length = 2 → BindsTo s fd ⟨us, []⟩ ((["drawer", "plot"] : List PySem.Str).zip us) := by
  obtain ⟨fd, F⟩ := c.def_ 0 rfl
  have hb : ∀ (kV doc pm : Value) (an : Option Addr) (cdv ct : Value) (us : List Value), us.length = (["drawer", "plot"] : List PySem.Str).length → bindArgs (PySem.W.fnOf "place_of" "place_of" (defArgs (top 1)) (defBody (top 1)) (defScope (top 1)) .none kV doc pm an cdv ct) ⟨us, []⟩ = pure ((["drawer", "plot"] : List PySem.Str).zip us) :=
    fun _ _ _ _ _ _ us hl => match us, hl with | [_, _], _ => rfl
  exact ⟨fd, ⟨"place_of", "place_of", top 1, ["drawer", "plot", "step", "start"], _, funD_fun F, FunD.bindsN F hb, sc_place_of, rfl, rfl, rfl, ck_place_of _⟩, fun s us hl => FunD.bindsA F hb s us hl⟩
theorem d__law_cell : ∃ fd, DefAt (cA K) T K G "_law_cell" (He.ga K "_law_cell") fd ["script", "k"] ∧ ∀ (s : Shared) (us : List Value), us.length = 2 → BindsTo s fd ⟨us, []⟩ ((["script", "k"] : List PySem.Str).zip us) := by
  obtain ⟨fd, F⟩ := c.def_ 1 rfl
  have hb : ∀ (kV doc pm : Value) (an : Option Addr) (cdv ct : Value) (us : List Value), us.length = (["script", "k"] : List PySem.Str).length → bindArgs (PySem.W.fnOf "_law_cell" "_law_cell" (defArgs (top 3)) (defBody (top 3)) (defScope (top 3)) .none kV doc pm an cdv ct) ⟨us, []⟩ = pure ((["script", "k"] : List PySem.Str).zip us) :=
    fun _ _ _ _ _ _ us hl => match us, hl with | [_, _], _ => rfl
  exact ⟨fd, ⟨"_law_cell", "_law_cell", top 3, ["script", "k"], _, funD_fun F, FunD.bindsN F hb, sc__law_cell, rfl, rfl, rfl, ck__law_cell _⟩, fun s us hl => FunD.bindsA F hb s us hl⟩
theorem d__law_drawers : ∃ fd, DefAt (cA K) T K G "_law_drawers" (He.ga K "_law_drawers") fd ["plots", "places"] ∧ ∀ (s : Shared) (us : List Value), us.length = 2 → BindsTo s fd ⟨us, []⟩ ((["plots", "places"] : List PySem.Str).zip us) := by
  obtain ⟨fd, F⟩ := c.def_ 2 rfl
  have hb : ∀ (kV doc pm : Value) (an : Option Addr) (cdv ct : Value) (us : List Value), us.length = (["plots", "places"] : List PySem.Str).length → bindArgs (PySem.W.fnOf "_law_drawers" "_law_drawers" (defArgs (top 4)) (defBody (top 4)) (defScope (top 4)) .none kV doc pm an cdv ct) ⟨us, []⟩ = pure ((["plots", "places"] : List PySem.Str).zip us) :=
    fun _ _ _ _ _ _ us hl => match us, hl with | [_, _], _ => rfl
  exact ⟨fd, ⟨"_law_drawers", "_law_drawers", top 4, ["plots", "places", "found", "drawer"], _, funD_fun F, FunD.bindsN F hb, sc__law_drawers, rfl, rfl, rfl, ck__law_drawers _⟩, fun s us hl => FunD.bindsA F hb s us hl⟩
theorem d__law_two : ∃ fd, DefAt (cA K) T K G "_law_two" (He.ga K "_law_two") fd ["cell"] ∧ ∀ (s : Shared) (us : List Value), us.length = 1 → BindsTo s fd ⟨us, []⟩ ((["cell"] : List PySem.Str).zip us) := by
  obtain ⟨fd, F⟩ := c.def_ 3 rfl
  have hb : ∀ (kV doc pm : Value) (an : Option Addr) (cdv ct : Value) (us : List Value), us.length = (["cell"] : List PySem.Str).length → bindArgs (PySem.W.fnOf "_law_two" "_law_two" (defArgs (top 5)) (defBody (top 5)) (defScope (top 5)) .none kV doc pm an cdv ct) ⟨us, []⟩ = pure ((["cell"] : List PySem.Str).zip us) :=
    fun _ _ _ _ _ _ us hl => match us, hl with | [_], _ => rfl
  exact ⟨fd, ⟨"_law_two", "_law_two", top 5, ["cell"], _, funD_fun F, FunD.bindsN F hb, sc__law_two, rfl, rfl, rfl, ck__law_two _⟩, fun s us hl => FunD.bindsA F hb s us hl⟩
theorem d_law : ∃ fd, DefAt (cA K) T K G "law" (He.ga K "law") fd ["script"] ∧ ∀ (s : Shared) (us : List Value), us.length = 1 → BindsTo s fd ⟨us, []⟩ ((["script"] : List PySem.Str).zip us) := by
  obtain ⟨fd, F⟩ := c.def_ 4 rfl
  have hb : ∀ (kV doc pm : Value) (an : Option Addr) (cdv ct : Value) (us : List Value), us.length = (["script"] : List PySem.Str).length → bindArgs (PySem.W.fnOf "law" "law" (defArgs (top 6)) (defBody (top 6)) (defScope (top 6)) .none kV doc pm an cdv ct) ⟨us, []⟩ = pure ((["script"] : List PySem.Str).zip us) :=
    fun _ _ _ _ _ _ us hl => match us, hl with | [_], _ => rfl
  exact ⟨fd, ⟨"law", "law", top 6, ["script", "k", "plots", "places"], _, funD_fun F, FunD.bindsN F hb, sc_law, rfl, rfl, rfl, ck_law _⟩, fun s us hl => FunD.bindsA F hb s us hl⟩
theorem all_G : ∀ p ∈ G, GOkB (cA K) T K mg G p.1 p.2 :=
  (mem_cons_of (⟨_, _, _, He.glo_ok X Gn (c.fact 0 (f := .glo "place_of") rfl), (d_place_of X Gn c).choose_spec.1⟩) (mem_cons_of (⟨_, _, _, He.glo_ok X Gn (c.fact 1 (f := .glo "_law_cell") rfl), (d__law_cell X Gn c).choose_spec.1⟩) (mem_cons_of (⟨_, _, _, He.glo_ok X Gn (c.fact 2 (f := .glo "_law_drawers") rfl), (d__law_drawers X Gn c).choose_spec.1⟩) (mem_cons_of (⟨_, _, _, He.glo_ok X Gn (c.fact 3 (f := .glo "_law_two") rfl), (d__law_two X Gn c).choose_spec.1⟩) (mem_cons_of (⟨_, _, _, He.glo_ok X Gn (c.fact 4 (f := .glo "law") rfl), (d_law X Gn c).choose_spec.1⟩) (mem_cons_of (⟨He.free_ok X Gn (c.fact 5 (f := .free "len") rfl), by kernel_rfl, by decide⟩) (mem_cons_of (⟨He.free_ok X Gn (c.fact 6 (f := .free "divmod") rfl), by kernel_rfl, by decide⟩) (mem_cons_of (⟨He.free_ok X Gn (c.fact 7 (f := .free "min") rfl), by kernel_rfl, by decide⟩) (mem_cons_of (⟨He.free_ok X Gn (c.fact 8 (f := .free "max") rfl), by kernel_rfl, by decide⟩) (mem_cons_of (⟨He.free_ok X Gn (c.fact 9 (f := .free "range") rfl), by kernel_rfl, by decide⟩) (fun _ h => nomatch h)))))))))))
end
end MP.E
open PySem PySem.W PySem.Calls PyProof.Rows in
theorem PySem.Challenge.cw_threeroofs_k12_whole_two_plots_holds : PySem.Challenge.rw_threeroofs_k12_whole_two_plots.Holds := by
  w_on; o_law
  refine HandSHeadRun.head_any (r := OpenLaw.row PySem.Challenge.rw_threeroofs_k12_whole_two_plots) (q := view (OpenLaw.row PySem.Challenge.rw_threeroofs_k12_whole_two_plots).prog [6]) (H := MP.E.hk) (ob := MP.E.ob) (M := 20000) (loose := MP.E.names) (d := HandSHeadRun.topDef (OpenLaw.row PySem.Challenge.rw_threeroofs_k12_whole_two_plots).prog 6) (kwd := []) MP.E.ob_eq
    (by kernel_rfl) (fun s => by kernel_rfl) MP.E.run (by kernel_rfl) (by kernel_rfl) (by kernel_rfl) (by rfl) (by first | assumption | decide +kernel) (by decide +kernel) ⟨rfl, rfl, rfl, rfl, rfl, by decide +kernel⟩ ?hw ?hc
  case hw => w_witness2
  case hc =>
    refine MP.walk_end (l := PySem.Challenge.rw_threeroofs_k12_whole_two_plots) (m := 8) (x := "script") (T := MP.L.T) (G := MP.E.G) MP.E.cA rfl (by kernel_rfl) ⟨rfl, by decide, by decide⟩ MP.L.law_ok fun K mg f h KX c hns hf => ?_
    have e : (HandSHeadRun.topDef (OpenLaw.row PySem.Challenge.rw_threeroofs_k12_whole_two_plots).prog 6).name = ("law" : PySem.Str) := by kernel_rfl
    rw [e] at hf
    have ef := hf.symm.trans (He.glo_ok KX hns (c.fact 4 (f := .glo "law") rfl))
    cases ef
    obtain ⟨fd, D, B⟩ := MP.E.d_law KX hns c
    exact ⟨MP.cf_nil rfl, fun y g e => MP.E.all_G KX hns c (y, g) (MP.lookup_memS e), fd, D, fun s u => B s [u] rfl⟩

