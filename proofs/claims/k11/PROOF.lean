import PyProof.Rows.All
import Wide.All
import OpenK.AllK
import Wide.FinOn
import HandS.ForMost
import HandS.ForSpec
import HandS.TryMany
import HandS.WideBits
import HandS.Flow
import HandS.Style
import HandS.NoneIn
import HandS.FStr
import HandS.IsInst
import HandS.SortKw
import HandS.SortOrd
import HandS.Zip
import HandS.Rev
import HandS.Small
import HandS.Remove
import HandS.SetKeys
import HandS.Conv
import HandS.Lambda
import HandS.ExcInit
import HandS.HeadWalk
import HandS.TupAny
import KE.KEqNest
import PyProof.NeKinds
import PyProof.StrLawsIn
import HandS.TupLe
import HandS.TupLen
import PyProof.NoPylong
import HandS.Comp
import HandS.Codes
import PyProof.DictMoreH
import HandS.DictTup
import KE.KDictCopyH
import HandS.More
import HandS.RaiseMore
import KE.SortCalls
import HandS.RevTup
import HandS.WordsExc
import KE.KStateDown
import Lean
import HandS.Ends
import HandS.Words
import HandS.Defaults
import HandS.Head0
import HandS.Head1
import HandS.Head2
import HandS.HeadEnd
import HandS.HeadHook1
import HandS.HeadHook2
import PySem.Challenge.RW_threeroofs_k11_places
set_option Elab.async false
set_option linter.all false
set_option maxRecDepth 100000
set_option maxHeartbeats 0
set_option exponentiation.threshold 10000
/-! The little language: values, cells, expressions, statements, and what they do. -/
namespace MP

inductive W where
  | non | bl (b : Bool) | int (i : Int) | str (s : List Nat) | tup (xs : List W) | ref (a : Nat)
  deriving Inhabited, Repr

inductive O where
  | lst (xs : List W)
  | dct (kvs : List (W × W))
  | ins (c : String) (fs : List (String × W))
  deriving Inhabited, Repr

abbrev Hp := List O
abbrev Env := List (Option W)

structure Exn where
  c : String
  fs : List (String × W)
  deriving Inhabited, Repr

inductive R (α : Type) where
  | bad | ok (a : α) (h : Hp) | exc (x : Exn) (h : Hp)
  deriving Inhabited, Repr

def R.bind {α β : Type} (r : R α) (f : α → Hp → R β) : R β :=
  match r with
  | .ok a h => f a h
  | .exc x h => .exc x h
  | .bad => .bad
/-- a pure part that may fail -/
def R.of {α : Type} (o : Option α) (h : Hp) : R α :=
  match o with
  | some a => .ok a h
  | none => .bad
theorem R.bind_congr {α β : Type} {r r' : R α} {f : α → Hp → R β} (e : r = r') : r.bind f = r'.bind f := by rw [e]
@[simp] theorem R.bind_ok {α β : Type} {a : α} {h : Hp} {f : α → Hp → R β} : (R.ok a h).bind f = f a h := rfl
@[simp] theorem R.bind_exc {α β : Type} {x : Exn} {h : Hp} {f : α → Hp → R β} : (R.exc x h).bind f = .exc x h := rfl
@[simp] theorem R.bind_bad {α β : Type} {f : α → Hp → R β} : (R.bad : R α).bind f = .bad := rfl
@[simp] theorem R.of_some {α : Type} {a : α} {h : Hp} : R.of (some a) h = .ok a h := rfl
@[simp] theorem R.of_none {α : Type} {h : Hp} : R.of (none : Option α) h = .bad := rfl
/-- a part of the answer decides -/
def thenO {α β : Type} (o : Option α) (f : α → R β) : R β :=
  match o with
  | some a => f a
  | none => .bad
theorem thenO_congr {α β : Type} {r r' : Option α} {f : α → R β} (e : r = r') : thenO r f = thenO r' f := by rw [e]
@[simp] theorem thenO_some {α β : Type} {a : α} {f : α → R β} : thenO (some a) f = f a := rfl
@[simp] theorem thenO_none {α β : Type} {f : α → R β} : thenO (none : Option α) f = .bad := rfl
/-- if it is so -/
def guardR {β : Type} (b : Bool) (r : R β) : R β := if b then r else .bad
theorem guardR_congr {β : Type} {b b' : Bool} {r : R β} (e : b = b') : guardR b r = guardR b' r := by rw [e]
@[simp] theorem guardR_true {β : Type} {r : R β} : guardR true r = r := rfl
@[simp] theorem guardR_false {β : Type} {r : R β} : guardR false r = .bad := rfl

/-! ### the heap -/
def rd (h : Hp) (a : Nat) : Option O := h[a]?
def mk (o : O) (h : Hp) : R W := .ok (.ref h.length) (h ++ [o])
/-- a cell changes: it is there, and not walked (lk) -/
def put (lk : List Nat) (a : Nat) (o : O) (h : Hp) : R Unit := if a < h.length ∧ a ∉ lk then .ok () (h.set a o) else .bad

/-! ### operators -/
inductive BinOp where
  | add | sub | mul | fdiv | mod | pow | shl | shr | band | bor
  deriving DecidableEq, Repr
inductive CmpOp where
  | eq | ne | lt | le | gt | ge | isin | notin | is | isnot
  deriving DecidableEq, Repr

/-! ### equality -/
def eqs (f : W → W → Option Bool) : List W → List W → Option Bool
  | x :: xs, y :: ys => (f x y).bind fun a => (eqs f xs ys).map fun b => a && b
  | _, _ => some true
/-- of two that are not both tuples, not both cells -/
def eqS : W → W → Option Bool
  | .non, .non => some true
  | .bl a, .bl b => some (a == b)
  | .int a, .int b => some (a == b)
  | .bl a, .int b => some ((if a then 1 else 0) == b)
  | .int a, .bl b => some (a == (if b then 1 else 0))
  | .str a, .str b => some (a == b)
  | .tup _, .tup _ => none
  | .ref _, _ => none
  | _, .ref _ => none
  | _, _ => some false
/-! ### keys: an int, a text, a tuple of these; the keys of a dict are of one kind -/
def isFlat : W → Bool
  | .int _ => true
  | .str _ => true
  | _ => false
def kind : W → Nat
  | .int _ => 1
  | .str _ => 1
  | .tup xs => if xs.all isFlat then 2 else 0
  | _ => 0
def isKey (k : W) : Bool := kind k != 0
def keyIn (k : W) (kvs : List (W × W)) : Bool := isKey k && kvs.all fun p => kind p.1 == kind k
mutual
@[simp] def keq : W → W → Bool
  | .int a, .int b => a == b
  | .str a, .str b => a == b
  | .tup xs, .tup ys => keqs xs ys
  | _, _ => false
@[simp] def keqs : List W → List W → Bool
  | [], [] => true
  | x :: xs, y :: ys => keq x y && keqs xs ys
  | _, _ => false
end
def dget (k : W) : List (W × W) → Option W
  | [] => none
  | (k', v) :: r => if keq k' k then some v else dget k r
def dput (k v : W) : List (W × W) → List (W × W)
  | [] => [(k, v)]
  | (k', u) :: r => if keq k' k then (k', v) :: r else (k', u) :: dput k v r
def ddel (k : W) : List (W × W) → List (W × W)
  | [] => []
  | (k', u) :: r => if keq k' k then r else (k', u) :: ddel k r
def dmerge (xs : List (W × W)) : List (W × W) → List (W × W)
  | [] => xs
  | (k, v) :: r => dmerge (dput k v xs) r

/-- the pairs of the one, each with the other's -/
def eqD (f : W → W → Option Bool) (ys : List (W × W)) : List (W × W) → Option Bool
  | [] => some true
  | (k, v) :: r =>
    match dget k ys with
    | none => (eqD f ys r).map fun _ => false
    | some u => (f v u).bind fun a => (eqD f ys r).map fun b => a && b
def eqO (f : W → W → Option Bool) : Option O → Option O → Option Bool
  | some (.lst xs), some (.lst ys) => if xs.length = ys.length then eqs f xs ys else some false
  | some (.dct xs), some (.dct ys) => if xs.all (fun p => isFlat p.1) && ys.all (fun p => isFlat p.1) then (eqD f ys xs).map fun b => decide (xs.length = ys.length) && b else none
  | _, _ => none
def eqW : Nat → Hp → W → W → Option Bool
  | n + 1, h, .tup xs, .tup ys => (eqs (eqW n h) xs ys).map fun b => b && decide (xs.length = ys.length)
  | n + 1, h, .ref a, .ref b => if a = b ∧ a < h.length then some true else eqO (eqW n h) (rd h a) (rd h b)
  | _, _, x, y => eqS x y
/-- two values as they stand -/
def weq (h : Hp) : W → W → Option Bool
  | .tup xs, .tup ys => (eqs (eqW 19 h) xs ys).map fun b => b && decide (xs.length = ys.length)
  | .ref a, .ref b => eqO (eqW 19 h) (rd h a) (rd h b)
  | x, y => eqS x y
/-- of data without cells, of no great depth -/
def plain : Nat → W → Bool
  | n + 1, .tup xs => xs.all (plain n)
  | _, .tup _ => false
  | _, .ref _ => false
  | _, _ => true
/-- a display of pairs: few, their keys of one kind -/
def dictOk (ps : List (W × W)) : Bool := ps.all fun p => isFlat p.1
/-- texts in order -/
def slt : List Nat → List Nat → Bool
  | _, [] => false
  | [], _ :: _ => true
  | x :: xs, y :: ys => if x = y then slt xs ys else decide (x < y)
-- less, of intsV, truths, texts, tuples of these
mutual
def keqb : W → W → Bool
  | .int a, .int b => a == b
  | .bl a, .bl b => a == b
  | .str a, .str b => a == b
  | .tup xs, .tup ys => keqbs xs ys
  | _, _ => false
def keqbs : List W → List W → Bool
  | [], [] => true
  | x :: xs, y :: ys => keqb x y && keqbs xs ys
  | _, _ => false
end
mutual
def wlt : W → W → Option Bool
  | .int a, .int b => some (decide (a < b))
  | .bl a, .bl b => some (!a && b)
  | .str a, .str b => some (slt a b)
  | .tup xs, .tup ys => wlts xs ys
  | _, _ => none
def wlts : List W → List W → Option Bool
  | _, [] => some false
  | [], _ :: _ => some true
  | x :: xs, y :: ys => if keqb x y then wlts xs ys else wlt x y
end
def wle (x y : W) : Bool := match wlt y x with
  | some b => !b
  | none => false
mutual
/-- place by place of one kind -/
def alikeW : W → W → Bool
  | .bl _, .bl _ => true
  | .int _, .int _ => true
  | .str _, .str _ => true
  | .tup xs, .tup ys => alikeWs xs ys
  | _, _ => false
def alikeWs : List W → List W → Bool
  | x :: xs, y :: ys => alikeW x y && alikeWs xs ys
  | _, _ => true
end
def isTup1 : W → Bool
  | .tup (_ :: _) => true
  | _ => false
def isFlatB : W → Bool
  | .bl _ => true
  | .int _ => true
  | .str _ => true
  | _ => false
/-- merge sort by fuel, as the kernel can run it -/
def mrg {α : Type} (le : α → α → Bool) : Nat → List α → List α → List α
  | 0, _, _ => []
  | _ + 1, [], ys => ys
  | _ + 1, xs, [] => xs
  | n + 1, x :: xs, y :: ys => if le x y then x :: mrg le n xs (y :: ys) else y :: mrg le n (x :: xs) ys
theorem mrg_eq {α : Type} (le : α → α → Bool) : ∀ (n : Nat) (xs ys : List α), xs.length + ys.length < n → mrg le n xs ys = xs.merge ys le
  | 0, _, _, h => absurd h (Nat.not_lt_zero _)
  | n + 1, [], ys, _ => by cases ys <;> simp [mrg]
  | n + 1, x :: xs, [], _ => by simp [mrg]
  | n + 1, x :: xs, y :: ys, h => by
    simp only [List.length_cons] at h
    rw [mrg, List.cons_merge_cons, mrg_eq le n xs (y :: ys) (by simp only [List.length_cons]; omega), mrg_eq le n (x :: xs) ys (by simp only [List.length_cons]; omega)]
def msF {α : Type} (le : α → α → Bool) : Nat → List α → List α
  | 0, xs => xs
  | _ + 1, [] => []
  | _ + 1, [x] => [x]
  | n + 1, x :: y :: xs => let k := (xs.length + 3) / 2
    mrg le (xs.length + 3) (msF le n ((x :: y :: xs).take k)) (msF le n ((x :: y :: xs).drop k))
def msort {α : Type} (le : α → α → Bool) (xs : List α) : List α := msF le xs.length xs
theorem msF_eq {α : Type} (le : α → α → Bool) : ∀ (n : Nat) (xs : List α), xs.length ≤ n → msF le n xs = xs.mergeSort le
  | 0, [], _ => by simp [msF]
  | n + 1, [], _ => by simp [msF]
  | n + 1, [x], _ => by simp [msF]
  | n + 1, x :: y :: xs, h => by
    simp only [List.length_cons] at h
    rw [msF, List.mergeSort]
    simp only [List.MergeSort.Internal.splitInTwo, List.splitAt_eq, List.length_cons]
    have k1 : (xs.length + 3) / 2 = (xs.length + 1 + 1 + 1) / 2 := by omega
    rw [msF_eq le n _ (by simp only [List.length_take, List.length_cons]; omega), msF_eq le n _ (by simp only [List.length_drop, List.length_cons]; omega), k1]
    apply mrg_eq
    simp only [List.length_mergeSort, List.length_take, List.length_drop, List.length_cons]
    omega
theorem msort_eq {α : Type} (le : α → α → Bool) (xs : List α) : msort le xs = xs.mergeSort le := msF_eq le _ _ (Nat.le_refl _)
/-- what may be put in order -/
def wltOk (xs : List W) : Bool := xs.all (fun x => plain 20 x && xs.all fun y => alikeW x y) && (xs.all isTup1 || xs.all isFlatB)
def sortW (xs : List W) : Option (List W) := if wltOk xs then some (msort wle xs) else none

/-- numbers that may be multiplied, texts and lists that may be joined -/
def LINE : Nat := 1000000
def mulOk (i j : Int) : Bool := decide (i.natAbs < 2 ^ 64) || decide (j.natAbs < 2 ^ 64) || (decide (i.natAbs < 2 ^ 4096) && decide (j.natAbs < 2 ^ 4096))
def divOk (j : Int) : Bool := decide (0 < j) && decide (j < 2 ^ 1000)
def powOk (i j : Int) : Bool := decide (0 ≤ j) && decide (j ≤ 1000000) && decide (i.natAbs < 2 ^ 64)
def addO : Option O → Option O → Hp → R W
  | some (.lst xs), some (.lst ys), h => guardR (decide (xs.length + ys.length ≤ LINE)) (mk (.lst (xs ++ ys)) h)
  | _, _, _ => .bad
def bin : BinOp → W → W → Hp → R W
  | .add, .int i, .int j, h => .ok (.int (i + j)) h
  | .sub, .int i, .int j, h => .ok (.int (i - j)) h
  | .mul, .int i, .int j, h => guardR (mulOk i j) (.ok (.int (i * j)) h)
  | .fdiv, .int i, .int j, h => guardR (divOk j) (.ok (.int (i / j)) h)
  | .mod, .int i, .int j, h => guardR (decide (0 < j)) (.ok (.int (i % j)) h)
  | .pow, .int i, .int j, h => guardR (powOk i j) (.ok (.int (i ^ j.toNat)) h)
  | .shl, .int i, .int j, h => guardR (powOk i j) (.ok (.int (i * 2 ^ j.toNat)) h)
  | .shr, .int i, .int j, h => guardR (decide (0 ≤ j)) (.ok (.int (i / 2 ^ j.toNat)) h)
  | .band, .int i, .int j, h => guardR (decide (0 ≤ i) && decide (0 ≤ j)) (.ok (.int ((i.toNat &&& j.toNat : Nat) : Int)) h)
  | .bor, .int i, .int j, h => guardR (decide (0 ≤ i) && decide (0 ≤ j)) (.ok (.int ((i.toNat ||| j.toNat : Nat) : Int)) h)
  | .add, .str a, .str b, h => guardR (decide (a.length + b.length ≤ LINE)) (.ok (.str (a ++ b)) h)
  | .add, .tup a, .tup b, h => guardR (decide (a.length + b.length ≤ LINE)) (.ok (.tup (a ++ b)) h)
  | .mul, .str a, .int j, h => guardR (decide (a.length * j.toNat ≤ LINE) && decide (j.natAbs < 2 ^ 62)) (.ok (.str (List.replicate j.toNat a).flatten) h)
  | .add, .ref a, .ref b, h => addO (rd h a) (rd h b) h
  | _, _, _, _ => .bad

/-- in place -/
def ibin : BinOp → W → W → Hp → R W
  | .add, .int i, .int j, h => .ok (.int (i + j)) h
  | _, _, _, _ => .bad
/-- a text within a text -/
def sIn (a : List Nat) : List Nat → Bool
  | [] => a.isEmpty
  | c :: r => a.isPrefixOf (c :: r) || sIn a r
def memW (x : W) (ys : List W) : Option Bool := if plain 20 x && ys.all (plain 20) then some (ys.any fun y => eqW 20 [] y x == some true) else none
def inO (x : W) : Option O → Option Bool
  | some (.lst ys) => memW x ys
  | some (.dct kvs) => if keyIn x kvs then some (dget x kvs).isSome else none
  | _ => none
def isIn : W → W → Hp → Option Bool
  | .str a, .str b, _ => some (sIn a b)
  | x, .tup ys, _ => memW x ys
  | x, .ref b, h => inO x (rd h b)
  | _, _, _ => none
def isNon : W → Bool
  | .non => true
  | _ => false
def intsV : List W → Option (List Int)
  | [] => some []
  | .int s :: r => (intsV r).map (s :: ·)
  | _ => none

/-- numbers from the first pair that differs on -/
def lexI : List Int → List Int → Bool
  | [], [] => false
  | [], _ :: _ => true
  | _ :: _, [] => false
  | x :: xs, y :: ys => if x = y then lexI xs ys else decide (x < y)
def lexE : List Int → List Int → Bool
  | [], _ => true
  | _ :: _, [] => false
  | x :: xs, y :: ys => if x = y then lexE xs ys else decide (x ≤ y)
def cmp : CmpOp → W → W → Hp → Option Bool
  | .eq, x, y, h => weq h x y
  | .ne, x, y, h => (weq h x y).map (!·)
  | .lt, .int i, .int j, _ => some (decide (i < j))
  | .le, .int i, .int j, _ => some (decide (i ≤ j))
  | .gt, .int i, .int j, _ => some (decide (j < i))
  | .ge, .int i, .int j, _ => some (decide (j ≤ i))
  | .lt, .str a, .str b, _ => some (slt a b)
  | .le, .str a, .str b, _ => some (!slt b a)
  | .gt, .str a, .str b, _ => some (slt b a)
  | .ge, .str a, .str b, _ => some (!slt a b)
  | .lt, .tup a, .tup b, _ => (intsV a).bind fun ns => (intsV b).map fun ms => lexI ns ms
  | .le, .tup a, .tup b, _ => (intsV a).bind fun ns => (intsV b).map fun ms => lexE ns ms
  | .isin, x, y, h => isIn x y h
  | .notin, x, y, h => (isIn x y h).map (!·)
  | .is, x, .non, _ => some (isNon x)
  | .isnot, x, .non, _ => some (!isNon x)
  | .is, .bl a, .bl b, _ => some (a == b)
  | .isnot, .bl a, .bl b, _ => some (a != b)
  | _, _, _, _ => none

/-! ### places -/
def ixN (n : Nat) (i : Int) : Option Nat :=
  if 0 ≤ i then (if i < n then some i.toNat else none) else if -(n : Int) ≤ i then some (i + n).toNat else none
def atI {α : Type} (xs : List α) (i : Int) : Option α := (ixN xs.length i).bind fun j => xs[j]?
def clampI (n : Nat) (d : Nat) : Option Int → Nat
  | none => d
  | some i => if i < 0 then (i + n).toNat else min i.toNat n
def cutL {α : Type} (xs : List α) (lo hi : Option Int) : List α :=
  (xs.take (clampI xs.length xs.length hi)).drop (clampI xs.length 0 lo)
def itemO (y : W) : Option O → Option W
  | some (.lst xs) => match y with
    | .int i => atI xs i
    | _ => none
  | some (.dct kvs) => if keyIn y kvs then dget y kvs else none
  | _ => none
def item : W → W → Hp → Option W
  | .str s, .int i, _ => (atI s i).map fun c => .str [c]
  | .tup xs, .int i, _ => atI xs i
  | .ref a, y, h => itemO y (rd h a)
  | _, _, _ => none
def sliceO (lo hi : Option Int) (h : Hp) : Option O → R W
  | some (.lst xs) => mk (.lst (cutL xs lo hi)) h
  | _ => .bad
def slice : W → Option Int → Option Int → Hp → R W
  | .str s, lo, hi, h => .ok (.str (cutL s lo hi)) h
  | .tup xs, lo, hi, h => .ok (.tup (cutL xs lo hi)) h
  | .ref a, lo, hi, h => sliceO lo hi h (rd h a)
  | _, _, _, _ => .bad
def fldO (f : String) : Option O → Option W
  | some (.ins _ fs) => fs.lookup f
  | _ => none
def fldOf : W → String → Hp → Option W
  | .ref a, f, h => fldO f (rd h a)
  | _, _, _ => none

/-! ### texts -/
def splitOn (c : Nat) : List Nat → List (List Nat)
  | [] => [[]]
  | x :: r => if x = c then [] :: splitOn c r else
    match splitOn c r with
    | [] => [[x]]
    | w :: ws => (x :: w) :: ws
def joinS (sep : List Nat) : List (List Nat) → List Nat
  | [] => []
  | [x] => x
  | x :: y :: r => x ++ sep ++ joinS sep (y :: r)
/-- ahead of the first c; whether there is one; behind it -/
def cutAt (c : Nat) : List Nat → List Nat × Bool × List Nat
  | [] => ([], false, [])
  | x :: r => if x = c then ([], true, r) else let p := cutAt c r; (x :: p.1, p.2.1, p.2.2)
def partitionS (c : Nat) (s : List Nat) : W :=
  let p := cutAt c s
  if p.2.1 then .tup [.str p.1, .str [c], .str p.2.2] else .tup [.str s, .str [], .str []]
def rpartitionS (c : Nat) (s : List Nat) : W :=
  let p := cutAt c s.reverse
  if p.2.1 then .tup [.str p.2.2.reverse, .str [c], .str p.1.reverse] else .tup [.str [], .str [], .str s]
def natDigits (n : Nat) : List Nat := (Nat.toDigits 10 n).map Char.toNat
def intText (i : Int) : List Nat := if i < 0 then 45 :: natDigits i.natAbs else natDigits i.natAbs
def strsV : List W → Option (List (List Nat))
  | [] => some []
  | .str s :: r => (strsV r).map (s :: ·)
  | _ => none
/-! ### the language -/
inductive Blt where
  | len | int | str | list | tuple | dict | sorted | min | max | min2 | max2 | sum | divmod | any | lenset | repr
  deriving DecidableEq, Repr
/-- kinds for isinstance -/
inductive Ty where
  | int | bool | str | list | tuple | dict | own (c : String)
  deriving Repr
inductive Tg where
  | name (i : Nat) | tup (is : List Nat)

mutual
inductive Ex where
  | non | bl (b : Bool) | int (i : Int) | str (s : List Nat)
  | var (i : Nat)
  | bin (op : BinOp) (a b : Ex)
  | neg (a : Ex)
  | cmp (op : CmpOp) (a b : Ex)
  | chain (op op' : CmpOp) (a b c : Ex)
  | and (a b : Ex) | or (a b : Ex) | not (a : Ex)
  | ife (c a b : Ex)
  | fld (o : Ex) (f : String)
  | ix (o i : Ex)
  | sl (o : Ex) (lo hi : Option Ex)
  | tup (es : List Ex) | lst (es : List Ex) | dct (kvs : List (Ex × Ex))
  | call (f : String) (es : List Ex)
  | new (c : String) (es : List Ex)
  | meth (o : Ex) (m : String) (es : List Ex)
  | sup (c m : String) (es : List Ex)
  | blt (b : Blt) (es : List Ex)
  | isi (e : Ex) (t : Ty)
  | comp (own : List Nat) (elt : Ex) (tg : Tg) (it : It) (cond : Option Ex)
  | listOf (it : It) | tupOf (it : It)
  | sortK (src : Ex) (i : Nat) (key : Ex)
  | minK (src : Ex) (i : Nat) (key : Ex)
  | fstr (es : List Ex)
  | curFld (f : String) | curIs (c : String)
inductive It where
  | val (e : Ex)
  | rng (a : Ex) | rng2 (a b : Ex) | rng3 (a b c : Ex)
  | items (e : Ex) | vals (e : Ex) | keys (e : Ex)
  | enum (e : Ex) | zip (a b : Ex) | zip3 (a b c : Ex) | rev (e : Ex)
end
inductive Lv where
  | tg (t : Tg) | fld (o : Ex) (f : String) | ix (o i : Ex)
inductive St where
  | expr (e : Ex)
  | set (l : Lv) (e : Ex)
  | aug (i : Nat) (op : BinOp) (e : Ex)
  | augF (o : Ex) (f : String) (op : BinOp) (e : Ex)
  | ite (c : Ex) (a b : List St)
  | while (c : Ex) (b : List St)
  | for (tg : Tg) (it : It) (b : List St)
  | ret (e : Ex)
  | brk | cont | pass
  | raise (c : String) (es : List Ex)
  | try (b : List St) (hs : List (String × List St))

structure Fd where
  np : Nat
  ns : Nat
  body : List St
  deriving Inhabited
/-- a text of defs and classes: the def of a name ("C.m" of a method); which def a class has for a name; which classes stand above; the fields that an exception's class stores, in the order of its parameters -/
structure Prog where
  fd : String → Option Fd
  mt : String → String → Option String
  sub : String → String → Bool
  exc : String → Option (List String)

def asBool : W → Option Bool
  | .bl b => some b
  | _ => none

/-- what is walked: its items, and the cells that stand still meanwhile -/
def walkO (a : Nat) : Option O → Option (List W × List Nat)
  | some (.lst xs) => some (xs, [a])
  | _ => none
/-- of a list -/
def walkL : W → Hp → Option (List W × List Nat)
  | .ref a, h => walkO a (rd h a)
  | _, _ => none
/-- of two lists, two tuples -/
def walk2 : W → W → Hp → Option ((List W × List Nat) × (List W × List Nat))
  | .tup xs, .tup ys, _ => some ((xs, []), (ys, []))
  | .ref a, .ref b, h => (walkO a (rd h a)).bind fun p => (walkO b (rd h b)).map fun q => (p, q)
  | _, _, _ => none
def walkV : W → Hp → Option (List W × List Nat)
  | .str s, _ => some (s.map fun c => .str [c], [])
  | .tup xs, _ => some (xs, [])
  | .ref a, h => walkO a (rd h a)
  | _, _ => none
def rangeW (lo hi : Int) : List W := (List.range (hi - lo).toNat).map fun (k : Nat) => W.int (lo + (k : Int))
def rangeS (lo hi st : Int) : List W := (List.range ((hi - lo + st - 1) / st).toNat).map fun (k : Nat) => W.int (lo + st * (k : Int))
def small62 (i : Int) : Bool := decide (-(2 ^ 62) ≤ i) && decide (i < 2 ^ 62)

/-! ### built-in functions and methods -/
def minI : List Int → Option Int
  | [] => none
  | [x] => some x
  | x :: r => (minI r).map fun m => if m < x then m else x
def maxI : List Int → Option Int
  | [] => none
  | [x] => some x
  | x :: r => (maxI r).map fun m => if x < m then m else x
def intOfText (s : List Nat) : Option Int :=
  if s.isEmpty ∨ 600 < s.length ∨ s.any (fun c => c < 48 || 57 < c) then none else some ((s.foldl (fun n c => n * 10 + (c - 48)) 0 : Nat) : Int)
def lenO : Option O → Option Nat
  | some (.lst s) => some s.length
  | some (.dct s) => some s.length
  | _ => none
def lenW : W → Hp → Option Nat
  | .str s, _ => some s.length
  | .tup s, _ => some s.length
  | .ref a, h => lenO (rd h a)
  | _, _ => none
def bls : List W → Option (List Bool)
  | [] => some []
  | .bl s :: r => (bls r).map (s :: ·)
  | _ => none
/-- each once -/
def once : List W → List W
  | [] => []
  | x :: r => if r.any (fun y => keqb x y) then once r else x :: once r
def dictO (h : Hp) : Option O → R W
  | some (.dct kvs) => guardR (kvs.all fun p => isFlat p.1) (mk (.dct kvs) h)
  | _ => .bad
/-- the items of a list, a tuple; the keys of a dict -/
def seqO : Option O → Option (List W)
  | some (.lst xs) => some xs
  | some (.dct kvs) => some (kvs.map (·.1))
  | _ => none
def seqV : W → Hp → Option (List W)
  | .tup xs, _ => some xs
  | .ref a, h => seqO (rd h a)
  | _, _ => none
/-- the items of a list, a tuple -/
def lotV : W → Hp → Option (List W)
  | .tup xs, _ => some xs
  | .ref a, h => match rd h a with
    | some (.lst xs) => some xs
    | _ => none
  | _, _ => none
/-- the items of a list -/
def lstV : W → Hp → Option (List W)
  | .ref a, h => match rd h a with
    | some (.lst xs) => some xs
    | _ => none
  | _, _ => none
def blt : Blt → List W → Hp → R W
  | .len, [x], h => .of ((lenW x h).map fun n => .int (n : Int)) h
  | .int, [.int i], h => .ok (.int i) h
  | .int, [.bl b], h => .ok (.int (if b then 1 else 0)) h
  | .str, [.int i], h => guardR (decide (i.natAbs < 2 ^ 1900)) (.ok (.str (intText i)) h)
  | .str, [.str s], h => .ok (.str s) h
  | .list, [x], h => thenO (seqV x h) fun p => mk (.lst p) h
  | .tuple, [x], h => thenO (lotV x h) fun p => .ok (.tup p) h
  | .dict, [.ref a], h => dictO h (rd h a)
  | .sorted, [x], h => thenO (seqV x h) fun p => thenO (sortW p) fun zs => mk (.lst zs) h
  | .min2, [.int i, .int j], h => .ok (.int (if j < i then j else i)) h
  | .max2, [.int i, .int j], h => .ok (.int (if i < j then j else i)) h
  | .min, [x], h => thenO (lstV x h) fun p => .of (((intsV p).bind minI).map .int) h
  | .max, [x], h => thenO (lstV x h) fun p => .of (((intsV p).bind maxI).map .int) h
  | .sum, [x], h => thenO (lstV x h) fun p => .of ((intsV p).map fun l => .int l.sum) h
  | .any, [x], h => thenO (walkV x h) fun p => .of ((bls p.1).map fun l => .bl (l.any id)) h
  | .lenset, [x], h => thenO (walkV x h) fun p => .ok (.int ((once p.1).length : Nat)) h
  | .divmod, [.int i, .int j], h => guardR (divOk j) (.ok (.tup [.int (i / j), .int (i % j)]) h)
  | _, _, _ => .bad

def bmS : String → List Nat → List W → Hp → R W
  | "join", s, [y], h => thenO (lotV y h) fun p => thenO (strsV p) fun zs => guardR (decide ((zs.map List.length).sum + zs.length * s.length ≤ LINE)) (.ok (.str (joinS s zs)) h)
  | "split", s, [.str [c]], h => mk (.lst ((splitOn c s).map .str)) h
  | "partition", s, [.str [c]], h => .ok (partitionS c s) h
  | "rpartition", s, [.str [c]], h => .ok (rpartitionS c s) h
  | "index", s, [.str [c]], h => .of ((s.findIdx? (· == c)).map fun n => .int (n : Int)) h
  | _, _, _, _ => .bad
/-- two ints, two texts -/
def sameF : W → W → Bool
  | .int _, .int _ => true
  | .str _, .str _ => true
  | _, _ => false
/-- a change that hands back v -/
def putV (lk : List Nat) (a : Nat) (o : O) (v : W) (h : Hp) : R W := (put lk a o h).bind fun _ h => .ok v h
def extO (lk : List Nat) (a : Nat) (ys : List W) (h : Hp) : Option O → R W
  | some (.lst zs) => guardR (decide (ys.length + zs.length ≤ LINE)) (putV lk a (.lst (ys ++ zs)) .non h)
  | _ => .bad
def bmL (lk : List Nat) (a : Nat) (ys : List W) : String → List W → Hp → R W
  | "append", [y], h => guardR (decide (ys.length < LINE)) (putV lk a (.lst (ys ++ [y])) .non h)
  | "extend", [.ref b], h => extO lk a ys h (rd h b)
  | "clear", [], h => putV lk a (.lst []) .non h
  | "copy", [], h => mk (.lst ys) h
  | "pop", [], h => thenO ys.getLast? fun y => putV lk a (.lst ys.dropLast) y h
  | "pop", [.int i], h => thenO (ixN ys.length i) fun j => thenO ys[j]? fun y => putV lk a (.lst (ys.eraseIdx j)) y h
  | "remove", [y], h => guardR (ys.all fun z => sameF z y) (thenO (ys.findIdx? (fun z => keqb z y)) fun j => putV lk a (.lst (ys.eraseIdx j)) .non h)
  | _, _, _ => .bad
def updO (lk : List Nat) (a : Nat) (kvs : List (W × W)) (h : Hp) : Option O → R W
  | some (.dct zs) => guardR (zs.all (fun p => keyIn p.1 kvs && keyIn p.1 zs) && decide (kvs.length + zs.length < LINE)) (putV lk a (.dct (dmerge kvs zs)) .non h)
  | _ => .bad
def popD (lk : List Nat) (a : Nat) (kvs : List (W × W)) (k : W) (h : Hp) (d : R W) : Option W → R W
  | some v => putV lk a (.dct (ddel k kvs)) v h
  | none => d
def setD (lk : List Nat) (a : Nat) (kvs : List (W × W)) (k d : W) (h : Hp) : Option W → R W
  | some v => .ok v h
  | none => putV lk a (.dct (dput k d kvs)) d h
def bmD (lk : List Nat) (a : Nat) (kvs : List (W × W)) : String → List W → Hp → R W
  | "get", [k], h => guardR (keyIn k kvs) (.ok ((dget k kvs).getD .non) h)
  | "get", [k, d], h => guardR (keyIn k kvs) (.ok ((dget k kvs).getD d) h)
  | "pop", [k], h => guardR (keyIn k kvs) (popD lk a kvs k h .bad (dget k kvs))
  | "pop", [k, d], h => guardR (keyIn k kvs) (popD lk a kvs k h (.ok d h) (dget k kvs))
  | "setdefault", [k, d], h => guardR (keyIn k kvs && decide (kvs.length < LINE)) (setD lk a kvs k d h (dget k kvs))
  | "copy", [], h => guardR (kvs.all fun p => isFlat p.1) (mk (.dct kvs) h)
  | "clear", [], h => putV lk a (.dct []) .non h
  | "update", [.ref b], h => updO lk a kvs h (rd h b)
  | _, _, _ => .bad
def bmI (i : Int) : String → List W → Hp → R W
  | "bit_length", [], h => .ok (.int (if i = 0 then 0 else (i.natAbs.log2 + 1 : Nat))) h
  | _, _, _ => .bad
def bmO (lk : List Nat) (a : Nat) (m : String) (xs : List W) (h : Hp) : Option O → R W
  | some (.lst ys) => bmL lk a ys m xs h
  | some (.dct kvs) => bmD lk a kvs m xs h
  | _ => .bad
def bm (lk : List Nat) : W → String → List W → Hp → R W
  | .str s, m, xs, h => bmS m s xs h
  | .int i, m, xs, h => bmI i m xs h
  | .ref a, m, xs, h => bmO lk a m xs h (rd h a)
  | _, _, _, _ => .bad

def isLst : Option O → Option Bool
  | some (.lst _) => some true
  | some _ => some false
  | none => none
def isDct : Option O → Option Bool
  | some (.dct _) => some true
  | some _ => some false
  | none => none
def isOwn (T : Prog) (c : String) : Option O → Option Bool
  | some (.ins d _) => some (T.sub d c)
  | some _ => some false
  | none => none
def isTy (T : Prog) : W → Ty → Hp → Option Bool
  | .int _, .int, _ => some true
  | .bl _, .int, _ => some true
  | .bl _, .bool, _ => some true
  | .str _, .str, _ => some true
  | .tup _, .tuple, _ => some true
  | .ref a, .list, h => isLst (rd h a)
  | .ref a, .dict, h => isDct (rd h a)
  | .ref a, .own c, h => isOwn T c (rd h a)
  | _, _, _ => some false

/-! ### targets -/
def itemsO : Option O → Option (List W)
  | some (.lst vs) => some vs
  | _ => none
def itemsV : W → Hp → Option (List W)
  | .tup vs, _ => some vs
  | .ref a, h => itemsO (rd h a)
  | _, _ => none
@[simp] def setAll : Env → List Nat → List W → Option Env
  | env, [], [] => some env
  | env, i :: is, v :: vs => setAll (env.set i (some v)) is vs
  | _, _, _ => none
def bindTg : Tg → W → Env → Hp → Option Env
  | .name i, v, env, _ => some (env.set i (some v))
  | .tup is, v, env, h => (itemsV v h).bind fun vs => setAll env is vs
@[simp] def wipe (env : Env) : List Nat → Env
  | [] => env
  | i :: is => (wipe env is).set i none

/-! ### loops over what has been evaluated -/
/-- nothing may be raised here -/
def R.calm {α : Type} (r : R α) : R α :=
  match r with
  | .ok a h => .ok a h
  | _ => .bad
theorem R.calm_congr {α : Type} {r r' : R α} (e : r = r') : r.calm = r'.calm := by rw [e]
@[simp] theorem R.calm_ok {α : Type} {a : α} {h : Hp} : (R.ok a h).calm = .ok a h := rfl
@[simp] theorem R.calm_exc {α : Type} {x : Exn} {h : Hp} : (R.exc x h : R α).calm = .bad := rfl
@[simp] theorem R.calm_bad {α : Type} : (R.bad : R α).calm = .bad := rfl
/-- a comprehension's turns: f answers whether there is an item -/
def compL (f : W → Hp → R (Option W)) : List W → List W → Hp → R (List W)
  | [], acc, h => .ok acc h
  | x :: r, acc, h => (f x h).calm.bind fun o h => guardR (decide (acc.length < LINE)) (compL f r (acc ++ o.toList) h)
theorem compL_congr {f : W → Hp → R (Option W)} {xs xs' acc acc' : List W} {h h' : Hp} (e1 : xs = xs') (e2 : acc = acc') (e3 : h = h') : compL f xs acc h = compL f xs' acc' h' := by rw [e1, e2, e3]
/-- an element where its test is met -/
@[simp] def eltOf (elt : Env → Hp → R W) (env : Env) (h : Hp) : R (Option W) := (elt env h).bind fun y h => .ok (some y) h
@[simp] def condOf (c : Env → Hp → R W) (elt : Env → Hp → R W) (env : Env) (h : Hp) : R (Option W) :=
  (c env h).bind fun b h => thenO (asBool b) fun b => if b then eltOf elt env h else .ok none h
@[simp] def turnC (tg : Tg) (env : Env) (g : Env → Hp → R (Option W)) (x : W) (h : Hp) : R (Option W) := thenO (bindTg tg x env h) fun e => g e h
def mapKeys (f : W → Hp → R W) : List W → Hp → R (List (W × W))
  | [], h => .ok [] h
  | x :: r, h => (f x h).calm.bind fun k h => (mapKeys f r h).bind fun l h => .ok ((k, x) :: l) h
theorem mapKeys_congr {f : W → Hp → R W} {xs xs' : List W} {h h' : Hp} (e1 : xs = xs') (e3 : h = h') : mapKeys f xs h = mapKeys f xs' h' := by rw [e1, e3]
@[simp] def keyOf (i : Nat) (env : Env) (key : Env → Hp → R W) (y : W) (h : Hp) : R W := key (env.set i (some y)) h
def sortP (ps : List (W × W)) : Option (List W) :=
  if wltOk (ps.map (·.1)) then some ((msort (fun p q => wle p.1 q.1) ps).map (·.2)) else none
def minP : List (W × W) → Option (W × W)
  | [] => none
  | p :: r => if wltOk ((p :: r).map (·.1)) then r.foldl (fun m q => m.bind fun m => (wlt q.1 m.1).map fun b => if b then q else m) (some p) else none

structure Cx where
  T : Prog
  call : List Nat → String → List W → Hp → R W
  lk : List Nat := []
  cur : Option Exn := none
@[simp] def Cx.lock (X : Cx) (as : List Nat) : Cx := { X with lk := as ++ X.lk }

def slot (env : Env) (i : Nat) (h : Hp) : R W := .of (env[i]?.join) h
def neg : W → Hp → R W
  | .int i, h => .ok (.int (-i)) h
  | _, _ => .bad
def part : W → Hp → R (Option Int)
  | .int i, h => .ok (some i) h
  | _, _ => .bad
/-- a method of the value x, ahead of its arguments -/
inductive Mth where
  | own (f : String) | blt
def strM : List String := ["join", "split", "partition", "rpartition", "index"]
def lstM : List String := ["append", "extend", "clear", "copy", "pop", "remove"]
def dctM : List String := ["get", "pop", "setdefault", "copy", "clear", "update"]
def mthO (T : Prog) (m : String) : Option O → Option Mth
  | some (.ins c fs) => if (fs.lookup m).isNone then (T.mt c m).map .own else none
  | some (.lst _) => if m ∈ lstM then some .blt else none
  | some (.dct _) => if m ∈ dctM then some .blt else none
  | none => none
def mthOf (T : Prog) : W → String → Hp → Option Mth
  | .ref a, m, h => mthO T m (rd h a)
  | .str _, m, _ => if m ∈ strM then some .blt else none
  | .int _, m, _ => if m = "bit_length" then some .blt else none
  | _, _, _ => none
def fmtS : W → Option (List Nat)
  | .int i => if i.natAbs < 2 ^ 1900 then some (intText i) else none
  | .str s => some s
  | _ => none
def rng1 : W → Option (List W)
  | .int n => if small62 n then some (rangeW 0 n) else none
  | _ => none
def rng2 : W → W → Option (List W)
  | .int i, .int j => if small62 i && small62 j then some (rangeW i j) else none
  | _, _ => none
def rng3 : W → W → W → Option (List W)
  | .int i, .int j, .int s => if small62 i && small62 j && decide (0 < s) && decide (s < 2 ^ 20) then some (rangeS i j s) else none
  | _, _, _ => none
def dItems (a : Nat) : Option O → Option (List W × List Nat)
  | some (.dct kvs) => if kvs.all (fun p => isFlat p.1) then some (kvs.map fun p => .tup [p.1, p.2], [a]) else none
  | _ => none
def dVals (a : Nat) : Option O → Option (List W × List Nat)
  | some (.dct kvs) => if kvs.all (fun p => isFlat p.1) then some (kvs.map (·.2), [a]) else none
  | _ => none
def dKeys (a : Nat) : Option O → Option (List W × List Nat)
  | some (.dct kvs) => if kvs.all (fun p => isFlat p.1) then some (kvs.map (·.1), [a]) else none
  | _ => none
def keysD : W → Hp → Option (List W × List Nat)
  | .ref a, h => dKeys a (rd h a)
  | _, _ => none
def itemsD : W → Hp → Option (List W × List Nat)
  | .ref a, h => dItems a (rd h a)
  | _, _ => none
def valsD : W → Hp → Option (List W × List Nat)
  | .ref a, h => dVals a (rd h a)
  | _, _ => none
def enumW (ys : List W) : List W := ys.zipIdx.map fun p => .tup [.int ((p.2 : Nat) : Int), p.1]

mutual
@[simp] def ev (X : Cx) : Ex → Env → Hp → R W
  | .non, _, h => .ok .non h
  | .bl b, _, h => .ok (.bl b) h
  | .int i, _, h => .ok (.int i) h
  | .str s, _, h => .ok (.str s) h
  | .var i, env, h => slot env i h
  | .bin op a b, env, h => (ev X a env h).bind fun x h => (ev X b env h).bind fun y h => bin op x y h
  | .neg a, env, h => (ev X a env h).bind neg
  | .cmp op a b, env, h => (ev X a env h).bind fun x h => (ev X b env h).bind fun y h => .of ((cmp op x y h).map .bl) h
  | .chain op op' a b c, env, h => (ev X a env h).bind fun x h => (ev X b env h).bind fun y h => thenO (cmp op x y h) fun k =>
      if k then (ev X c env h).bind fun z h => .of ((cmp op' y z h).map .bl) h else .ok (.bl false) h
  | .and a b, env, h => (ev X a env h).bind fun x h => thenO (asBool x) fun k => if k then ev X b env h else .ok (.bl false) h
  | .or a b, env, h => (ev X a env h).bind fun x h => thenO (asBool x) fun k => if k then .ok (.bl true) h else ev X b env h
  | .not a, env, h => (ev X a env h).bind fun x h => .of ((asBool x).map fun b => .bl (!b)) h
  | .ife c a b, env, h => (ev X c env h).bind fun x h => thenO (asBool x) fun k => if k then ev X a env h else ev X b env h
  | .fld o f, env, h => (ev X o env h).bind fun x h => .of (fldOf x f h) h
  | .ix o i, env, h => (ev X o env h).bind fun x h => (ev X i env h).bind fun y h => .of (item x y h) h
  | .sl o lo hi, env, h => (ev X o env h).bind fun x h => (evO X lo env h).bind fun l h => (evO X hi env h).bind fun u h => slice x l u h
  | .tup es, env, h => (evs X es env h).bind fun xs h => .ok (.tup xs) h
  | .lst es, env, h => (evs X es env h).bind fun xs h => mk (.lst xs) h
  | .dct kvs, env, h => (evp X kvs env h).bind fun ps h => guardR (dictOk ps) (mk (.dct (dmerge [] ps)) h)
  | .call f es, env, h => (evs X es env h).bind fun xs h => X.call X.lk f xs h
  | .new c es, env, h => thenO (X.T.mt c "__init__") fun f => (evs X es env h).bind fun xs h =>
      (mk (.ins c []) h).bind fun s h => (X.call X.lk f (s :: xs) h).bind fun _ h => .ok s h
  | .meth o m es, env, h => (ev X o env h).bind fun x h => thenO (mthOf X.T x m h) fun t => (evs X es env h).bind fun xs h =>
      match t with
      | .own f => X.call X.lk f (x :: xs) h
      | .blt => bm X.lk x m xs h
  | .sup c m es, env, h => thenO (X.T.mt c m) fun f => (evs X es env h).bind fun xs h => X.call X.lk f xs h
  | .blt b es, env, h => (evs X es env h).bind fun xs h => blt b xs h
  | .isi e t, env, h => (ev X e env h).bind fun x h => .of ((isTy X.T x t h).map .bl) h
  | .comp own elt tg it none, env, h => (walk X it env h).bind fun p h =>
      (compL (turnC tg (wipe env own) (eltOf fun env h => ev (X.lock p.2) elt env h)) p.1 [] h).bind fun ys h => mk (.lst ys) h
  | .comp own elt tg it (some c), env, h => (walk X it env h).bind fun p h =>
      (compL (turnC tg (wipe env own) (condOf (fun env h => ev (X.lock p.2) c env h) fun env h => ev (X.lock p.2) elt env h)) p.1 [] h).bind fun ys h => mk (.lst ys) h
  | .listOf it, env, h => (walk X it env h).bind fun p h => guardR (decide (p.1.length ≤ LINE)) (mk (.lst p.1) h)
  | .tupOf it, env, h => (walk X it env h).bind fun p h => .ok (.tup p.1) h
  | .sortK src i key, env, h => (ev X src env h).bind fun x h => thenO (seqV x h) fun p =>
      (mapKeys (keyOf i env fun env h => ev X key env h) p h).bind fun ps h => thenO (sortP ps) fun zs => mk (.lst zs) h
  | .minK src i key, env, h => (ev X src env h).bind fun x h => thenO (walkL x h) fun p =>
      (mapKeys (keyOf i env fun env h => ev (X.lock p.2) key env h) p.1 h).bind fun ps h => .of ((minP ps).map (·.2)) h
  | .fstr es, env, h => (evF X es env h).bind fun ys h => guardR (decide ((ys.map List.length).sum ≤ LINE)) (.ok (.str ys.flatten) h)
  | .curFld f, _, h => .of (X.cur.bind fun x => x.fs.lookup f) h
  | .curIs c, _, h => .of (X.cur.map fun x => .bl (X.T.sub x.c c)) h
@[simp] def evO (X : Cx) : Option Ex → Env → Hp → R (Option Int)
  | none, _, h => .ok none h
  | some e, env, h => (ev X e env h).bind part
@[simp] def evs (X : Cx) : List Ex → Env → Hp → R (List W)
  | [], _, h => .ok [] h
  | e :: es, env, h => (ev X e env h).bind fun x h => (evs X es env h).bind fun xs h => .ok (x :: xs) h
/-- the parts of an f-string -/
@[simp] def evF (X : Cx) : List Ex → Env → Hp → R (List (List Nat))
  | [], _, h => .ok [] h
  | e :: es, env, h => (ev X e env h).bind fun x h => thenO (fmtS x) fun y => (evF X es env h).bind fun ys h => .ok (y :: ys) h
@[simp] def evp (X : Cx) : List (Ex × Ex) → Env → Hp → R (List (W × W))
  | [], _, h => .ok [] h
  | (a, b) :: r, env, h => (ev X a env h).bind fun x h => (ev X b env h).bind fun y h => (evp X r env h).bind fun ps h => .ok ((x, y) :: ps) h
@[simp] def walk (X : Cx) : It → Env → Hp → R (List W × List Nat)
  | .val e, env, h => (ev X e env h).bind fun x h => .of (walkV x h) h
  | .rng a, env, h => (ev X a env h).bind fun x h => .of ((rng1 x).map fun l => (l, [])) h
  | .rng2 a b, env, h => (ev X a env h).bind fun x h => (ev X b env h).bind fun y h => .of ((rng2 x y).map fun l => (l, [])) h
  | .rng3 a b c, env, h => (ev X a env h).bind fun x h => (ev X b env h).bind fun y h => (ev X c env h).bind fun z h => .of ((rng3 x y z).map fun l => (l, [])) h
  | .items e, env, h => (ev X e env h).bind fun x h => .of (itemsD x h) h
  | .vals e, env, h => (ev X e env h).bind fun x h => .of (valsD x h) h
  | .keys e, env, h => (ev X e env h).bind fun x h => .of (keysD x h) h
  | .enum e, env, h => (ev X e env h).bind fun x h => .of ((walkL x h).map fun p => (enumW p.1, p.2)) h
  | .zip a b, env, h => (ev X a env h).bind fun x h => (ev X b env h).bind fun y h => .of ((walk2 x y h).map fun p => ((p.1.1.zip p.2.1).map fun z => .tup [z.1, z.2], p.1.2 ++ p.2.2)) h
  | .zip3 a b c, env, h => (ev X a env h).bind fun x h => (ev X b env h).bind fun y h => (ev X c env h).bind fun z h =>
      .of ((walkV x h).bind fun p => (walkV y h).bind fun q => (walkV z h).map fun r => ((p.1.zip (q.1.zip r.1)).map fun z => .tup [z.1, z.2.1, z.2.2], p.2 ++ q.2 ++ r.2)) h
  | .rev e, env, h => (ev X e env h).bind fun x h => .of ((walkL x h).map fun p => (p.1.reverse, p.2)) h
end

/-! ### statements -/
inductive Fl where
  | nx (env : Env) | bk (env : Env) | ct (env : Env) | rt (w : W)
  deriving Inhabited, Repr
inductive S where
  | bad | ok (f : Fl) (h : Hp) | exc (x : Exn) (env : Env) (h : Hp)
  deriving Inhabited, Repr
/-- an expression in a statement -/
def R.on {α : Type} (r : R α) (env : Env) (f : α → Hp → S) : S :=
  match r with
  | .ok a h => f a h
  | .exc x h => .exc x env h
  | .bad => .bad
theorem R.on_congr {α : Type} {r r' : R α} {env env' : Env} {f : α → Hp → S} (e : r = r') (e' : env = env') : r.on env f = r'.on env' f := by rw [e, e']
@[simp] theorem R.on_ok {α : Type} {a : α} {h : Hp} {env : Env} {f : α → Hp → S} : (R.ok a h).on env f = f a h := rfl
@[simp] theorem R.on_exc {α : Type} {x : Exn} {h : Hp} {env : Env} {f : α → Hp → S} : (R.exc x h : R α).on env f = .exc x env h := rfl
@[simp] theorem R.on_bad {α : Type} {env : Env} {f : α → Hp → S} : (R.bad : R α).on env f = .bad := rfl
/-- behind a statement -/
def S.then (r : S) (f : Env → Hp → S) : S :=
  match r with
  | .ok (.nx env) h => f env h
  | r => r
theorem S.then_congr {r r' : S} {f : Env → Hp → S} (e : r = r') : r.then f = r'.then f := by rw [e]
@[simp] theorem S.then_nx {env : Env} {h : Hp} {f : Env → Hp → S} : (S.ok (.nx env) h).then f = f env h := rfl
@[simp] theorem S.then_rt {w : W} {h : Hp} {f : Env → Hp → S} : (S.ok (.rt w) h).then f = .ok (.rt w) h := rfl
@[simp] theorem S.then_bk {env : Env} {h : Hp} {f : Env → Hp → S} : (S.ok (.bk env) h).then f = .ok (.bk env) h := rfl
@[simp] theorem S.then_ct {env : Env} {h : Hp} {f : Env → Hp → S} : (S.ok (.ct env) h).then f = .ok (.ct env) h := rfl
@[simp] theorem S.then_exc {x : Exn} {env : Env} {h : Hp} {f : Env → Hp → S} : (S.exc x env h).then f = .exc x env h := rfl
@[simp] theorem S.then_bad {f : Env → Hp → S} : S.bad.then f = .bad := rfl
/-- behind a loop's turn -/
def S.turn (r : S) (f : Env → Hp → S) : S :=
  match r with
  | .ok (.nx env) h => f env h
  | .ok (.ct env) h => f env h
  | .ok (.bk env) h => .ok (.nx env) h
  | r => r
theorem S.turn_congr {r r' : S} {f : Env → Hp → S} (e : r = r') : r.turn f = r'.turn f := by rw [e]
@[simp] theorem S.turn_nx {env : Env} {h : Hp} {f : Env → Hp → S} : (S.ok (.nx env) h).turn f = f env h := rfl
@[simp] theorem S.turn_ct {env : Env} {h : Hp} {f : Env → Hp → S} : (S.ok (.ct env) h).turn f = f env h := rfl
@[simp] theorem S.turn_bk {env : Env} {h : Hp} {f : Env → Hp → S} : (S.ok (.bk env) h).turn f = .ok (.nx env) h := rfl
@[simp] theorem S.turn_rt {w : W} {h : Hp} {f : Env → Hp → S} : (S.ok (.rt w) h).turn f = .ok (.rt w) h := rfl
@[simp] theorem S.turn_exc {x : Exn} {env : Env} {h : Hp} {f : Env → Hp → S} : (S.exc x env h).turn f = .exc x env h := rfl
@[simp] theorem S.turn_bad {f : Env → Hp → S} : S.bad.turn f = .bad := rfl
/-- what is known decides -/
def thenS {α : Type} (o : Option α) (f : α → S) : S :=
  match o with
  | some a => f a
  | none => .bad
theorem thenS_congr {α : Type} {r r' : Option α} {f : α → S} (e : r = r') : thenS r f = thenS r' f := by rw [e]
@[simp] theorem thenS_some {α : Type} {a : α} {f : α → S} : thenS (some a) f = f a := rfl
@[simp] theorem thenS_none {α : Type} {f : α → S} : thenS (none : Option α) f = .bad := rfl

def forL (f : W → Env → Hp → S) : List W → Env → Hp → S
  | [], env, h => .ok (.nx env) h
  | x :: r, env, h => (f x env h).turn fun env h => forL f r env h
theorem forL_congr {f : W → Env → Hp → S} {xs xs' : List W} {env env' : Env} {h h' : Hp} (e1 : xs = xs') (e2 : env = env') (e3 : h = h') : forL f xs env h = forL f xs' env' h' := by rw [e1, e2, e3]
@[simp] def turnOf (tg : Tg) (g : Env → Hp → S) (x : W) (env : Env) (h : Hp) : S := thenS (bindTg tg x env h) fun env => g env h
def whileL (c : Env → Hp → R W) (f : Env → Hp → S) : Nat → Env → Hp → S
  | 0, _, _ => .bad
  | n + 1, env, h => (c env h).on env fun x h => thenS (asBool x) fun b => if b then (f env h).turn fun env h => whileL c f n env h else .ok (.nx env) h
theorem whileL_congr {c : Env → Hp → R W} {f : Env → Hp → S} {n n' : Nat} {env env' : Env} {h h' : Hp} (e1 : n = n') (e2 : env = env') (e3 : h = h') : whileL c f n env h = whileL c f n' env' h' := by rw [e1, e2, e3]
def TURNS : Nat := 1000000

@[simp] def excFs (T : Prog) (c : String) (xs : List W) : Option (List (String × W)) := (T.exc c).map fun fs => fs.zip xs

def setIxO (lk : List Nat) (a : Nat) (y v : W) (h : Hp) : Option O → R Unit
  | some (.lst xs) => match y with
    | .int i => thenO (ixN xs.length i) fun j => put lk a (.lst (xs.set j v)) h
    | _ => .bad
  | some (.dct kvs) => guardR (keyIn y kvs && decide (kvs.length < LINE)) (put lk a (.dct (dput y v kvs)) h)
  | _ => .bad
def setIx (lk : List Nat) : W → W → W → Hp → R Unit
  | .ref a, y, v, h => setIxO lk a y v h (rd h a)
  | _, _, _, _ => .bad
@[simp] def putF (f : String) (v : W) : List (String × W) → List (String × W)
  | [] => [(f, v)]
  | (g, u) :: r => if f = g then (g, v) :: r else (g, u) :: putF f v r
def setFldO (lk : List Nat) (a : Nat) (f : String) (v : W) (h : Hp) : Option O → R Unit
  | some (.ins c fs) => put lk a (.ins c (putF f v fs)) h
  | _ => .bad
def setFld (lk : List Nat) : W → String → W → Hp → R Unit
  | .ref a, f, v, h => setFldO lk a f v h (rd h a)
  | _, _, _, _ => .bad

mutual
@[simp] def ex (X : Cx) : St → Env → Hp → S
  | .expr e, env, h => (ev X e env h).on env fun _ h => .ok (.nx env) h
  | .set (.tg t) e, env, h => (ev X e env h).on env fun v h => thenS (bindTg t v env h) fun env => .ok (.nx env) h
  | .set (.fld o f) e, env, h => (ev X e env h).on env fun v h => (ev X o env h).on env fun x h => (setFld X.lk x f v h).on env fun _ h => .ok (.nx env) h
  | .set (.ix o i) e, env, h => (ev X e env h).on env fun v h => (ev X o env h).on env fun x h => (ev X i env h).on env fun y h => (setIx X.lk x y v h).on env fun _ h => .ok (.nx env) h
  | .aug i op e, env, h => (slot env i h).on env fun x h => (ev X e env h).on env fun y h => (ibin op x y h).on env fun v h => .ok (.nx (env.set i (some v))) h
  | .augF o f op e, env, h => (ev X o env h).on env fun x h => (R.of (fldOf x f h) h).on env fun v h => (ev X e env h).on env fun y h => (ibin op v y h).on env fun z h => (setFld X.lk x f z h).on env fun _ h => .ok (.nx env) h
  | .ite c a b, env, h => (ev X c env h).on env fun x h => thenS (asBool x) fun k => if k then exs X a env h else exs X b env h
  | .while c b, env, h => whileL (fun env h => ev X c env h) (fun env h => exs X b env h) TURNS env h
  | .for tg it b, env, h => (walk X it env h).on env fun p h => forL (turnOf tg fun env h => exs (X.lock p.2) b env h) p.1 env h
  | .ret e, env, h => (ev X e env h).on env fun v h => .ok (.rt v) h
  | .brk, env, h => .ok (.bk env) h
  | .cont, env, h => .ok (.ct env) h
  | .pass, env, h => .ok (.nx env) h
  | .raise c es, env, h => (evs X es env h).on env fun xs h => thenS (excFs X.T c xs) fun fs => .exc ⟨c, fs⟩ env h
  | .try b hs, env, h => match exs X b env h with
    | .exc x env h => hnd X x hs env h
    | r => r
@[simp] def exs (X : Cx) : List St → Env → Hp → S
  | [], env, h => .ok (.nx env) h
  | s :: r, env, h => (ex X s env h).then fun env h => exs X r env h
def hnd (X : Cx) (x : Exn) : List (String × List St) → Env → Hp → S
  | [], env, h => .exc x env h
  | (c, b) :: r, env, h => if X.T.sub x.c c then exs { X with cur := some x } b env h else hnd X x r env h
end

/-- what a body comes to for its caller -/
def out : S → R W
  | .ok (.nx _) h => .ok .non h
  | .ok (.rt w) h => .ok w h
  | .exc x _ h => .exc x h
  | _ => .bad
/-- a def called: n calls within one another at most -/
def run (T : Prog) : Nat → List Nat → String → List W → Hp → R W
  | 0, _, _, _, _ => .bad
  | n + 1, lk, f, xs, h => thenO (T.fd f) fun fd => guardR (decide (xs.length = fd.np))
      (out (exs ⟨T, run T n, lk, none⟩ fd.body (xs.map some ++ List.replicate (fd.ns - fd.np) none) h))
end MP

namespace MP
/-! ### locked cells keep what they hold -/
structure Kp (lk : List Nat) (h h' : Hp) : Prop where
  len : h.length ≤ h'.length
  at_ : ∀ n ∈ lk, n < h.length → h'[n]? = h[n]?
theorem Kp.refl {lk : List Nat} {h : Hp} : Kp lk h h := ⟨Nat.le_refl _, fun _ _ _ => rfl⟩
theorem Kp.trans {lk : List Nat} {h h1 h2 : Hp} (a : Kp lk h h1) (b : Kp lk h1 h2) : Kp lk h h2 :=
  ⟨Nat.le_trans a.len b.len, fun n hn hl => (b.at_ n hn (Nat.lt_of_lt_of_le hl a.len)).trans (a.at_ n hn hl)⟩
theorem Kp.less {lk lk' : List Nat} {h h' : Hp} (a : Kp lk h h') (s : ∀ n ∈ lk', n ∈ lk) : Kp lk' h h' := ⟨a.len, fun n hn => a.at_ n (s n hn)⟩
def RK {α : Type} (lk : List Nat) (h : Hp) : R α → Prop
  | .ok _ h' => Kp lk h h'
  | .exc _ h' => Kp lk h h'
  | .bad => True
def SK (lk : List Nat) (h : Hp) : S → Prop
  | .ok _ h' => Kp lk h h'
  | .exc _ _ h' => Kp lk h h'
  | .bad => True
section
variable {α β : Type} {lk : List Nat} {h h1 : Hp}
theorem RK.bind {r : R α} {f : α → Hp → R β} (a : RK lk h r) (b : ∀ x h', RK lk h' (f x h')) : RK lk h (r.bind f) := by
  cases r with
  | bad => trivial
  | exc x h' => exact a
  | ok x h' =>
    have := b x h'
    show RK lk h (f x h')
    generalize f x h' = r2 at this
    cases r2 with
    | bad => trivial
    | ok y h2 => exact Kp.trans a this
    | exc y h2 => exact Kp.trans a this
theorem RK.calm {r : R α} (a : RK lk h r) : RK lk h r.calm := by cases r <;> first | trivial | exact a
theorem RK.ok {x : α} : RK lk h (.ok x h) := Kp.refl
theorem RK.bad : RK lk h (.bad : R α) := trivial
theorem RK.of {o : Option α} : RK lk h (.of o h) := by cases o <;> first | trivial | exact Kp.refl
theorem RK.thenO {o : Option α} {f : α → R β} (b : ∀ x, RK lk h (f x)) : RK lk h (thenO o f) := by cases o <;> first | trivial | exact b _
theorem RK.guardR {b : Bool} {r : R β} (a : RK lk h r) : RK lk h (guardR b r) := by cases b <;> first | trivial | exact a
theorem RK.mk {o : O} : RK lk h (mk o h) := ⟨by simp, fun n _ hl => List.getElem?_append_left hl⟩
theorem RK.put {a : Nat} {o : O} : RK lk h (put lk a o h) := by
  unfold MP.put
  split
  · rename_i hc
    exact ⟨by simp, fun n hn _ => List.getElem?_set_ne fun e => hc.2 (by rw [e]; exact hn)⟩
  · trivial
theorem RK.less {lk' : List Nat} {r : R α} (a : RK lk h r) (s : ∀ n ∈ lk', n ∈ lk) : RK lk' h r := by cases r <;> first | trivial | exact Kp.less a s
theorem RK.ite {c : Prop} [Decidable c] {r s : R α} (a : RK lk h r) (b : RK lk h s) : RK lk h (if c then r else s) := by split <;> assumption
theorem SK.on {r : R α} {env : Env} {f : α → Hp → S} (a : RK lk h r) (b : ∀ x h', SK lk h' (f x h')) : SK lk h (r.on env f) := by
  cases r with
  | bad => trivial
  | exc x h' => exact a
  | ok x h' =>
    have := b x h'
    show SK lk h (f x h')
    generalize f x h' = r2 at this
    cases r2 with
    | bad => trivial
    | ok y h2 => exact Kp.trans a this
    | exc y _ h2 => exact Kp.trans a this
theorem SK.next {r : S} {h2 : Hp} (a : Kp lk h h2) (b : SK lk h2 r) : SK lk h r := by cases r <;> first | trivial | exact Kp.trans a b
theorem SK.then {r : S} {f : Env → Hp → S} (a : SK lk h r) (b : ∀ x h', SK lk h' (f x h')) : SK lk h (r.then f) := by
  cases r with
  | bad => trivial
  | exc x e h' => exact a
  | ok x h' =>
    cases x with
    | nx e => exact SK.next a (b e h')
    | _ => exact a
theorem SK.turn {r : S} {f : Env → Hp → S} (a : SK lk h r) (b : ∀ x h', SK lk h' (f x h')) : SK lk h (r.turn f) := by
  cases r with
  | bad => trivial
  | exc x e h' => exact a
  | ok x h' =>
    cases x with
    | nx e => exact SK.next a (b e h')
    | ct e => exact SK.next a (b e h')
    | bk e => exact a
    | rt e => exact a
theorem SK.thenS {o : Option α} {f : α → S} (b : ∀ x, SK lk h (f x)) : SK lk h (thenS o f) := by cases o <;> first | trivial | exact b _
theorem SK.ok {f : Fl} : SK lk h (.ok f h) := Kp.refl
theorem SK.exc {x : Exn} {env : Env} : SK lk h (.exc x env h) := Kp.refl
theorem SK.less {lk' : List Nat} {r : S} (a : SK lk h r) (s : ∀ n ∈ lk', n ∈ lk) : SK lk' h r := by cases r <;> first | trivial | exact Kp.less a s
theorem SK.ite {c : Prop} [Decidable c] {r s : S} (a : SK lk h r) (b : SK lk h s) : SK lk h (if c then r else s) := by split <;> assumption
end
theorem rk_bin {lk : List Nat} (op : BinOp) (x y : W) (h : Hp) : RK lk h (bin op x y h) := by
  unfold bin
  split
  all_goals first | exact RK.ok | exact RK.guardR RK.ok | exact RK.bad | (unfold addO; split <;> first | exact RK.guardR RK.mk | exact RK.bad)
theorem rk_ibin {lk : List Nat} (op : BinOp) (x y : W) (h : Hp) : RK lk h (ibin op x y h) := by
  unfold ibin
  split <;> first | exact RK.ok | exact RK.bad
theorem rk_slice {lk : List Nat} (x : W) (lo hi : Option Int) (h : Hp) : RK lk h (slice x lo hi h) := by
  unfold slice
  split
  all_goals first | exact RK.ok | exact RK.bad | (unfold sliceO; split <;> first | exact RK.mk | exact RK.bad)
theorem rk_blt {lk : List Nat} (b : Blt) (xs : List W) (h : Hp) : RK lk h (blt b xs h) := by
  unfold blt
  split
  all_goals first | exact RK.ok | exact RK.bad | exact RK.of | exact RK.guardR RK.ok | exact RK.thenO fun _ => RK.mk | exact RK.thenO fun _ => RK.ok | exact RK.thenO fun _ => RK.of | exact RK.thenO fun _ => RK.thenO fun _ => RK.mk | (unfold dictO; split <;> first | exact RK.guardR RK.mk | exact RK.bad)
theorem rk_putV {lk : List Nat} {a : Nat} {o : O} {v : W} {h : Hp} : RK lk h (putV lk a o v h) := RK.bind RK.put fun _ _ => RK.ok
theorem rk_bm {lk : List Nat} (x : W) (m : String) (xs : List W) (h : Hp) : RK lk h (bm lk x m xs h) := by
  unfold bm
  split
  · unfold bmS
    split
    all_goals first | exact RK.ok | exact RK.bad | exact RK.of | exact RK.mk | exact RK.thenO fun _ => RK.thenO fun _ => RK.guardR RK.ok
  · unfold bmI
    split <;> first | exact RK.ok | exact RK.bad
  · unfold bmO
    split
    · unfold bmL
      split
      all_goals first | exact RK.guardR rk_putV | exact rk_putV | exact RK.mk | exact RK.bad | exact RK.guardR (RK.thenO fun _ => rk_putV) | exact RK.thenO fun _ => rk_putV | exact RK.thenO fun _ => RK.thenO fun _ => rk_putV | (unfold extO; split <;> first | exact RK.guardR rk_putV | exact RK.bad)
    · unfold bmD
      split
      all_goals first | exact RK.guardR RK.ok | exact rk_putV | exact RK.guardR RK.mk | exact RK.bad | (refine RK.guardR ?_; unfold popD; split <;> first | exact rk_putV | exact RK.ok | exact RK.bad) | (refine RK.guardR ?_; unfold setD; split <;> first | exact rk_putV | exact RK.ok) | (unfold updO; split <;> first | exact RK.guardR rk_putV | exact RK.bad)
    · exact RK.bad
  · exact RK.bad
theorem rk_compL {lk : List Nat} {f : W → Hp → R (Option W)} (hf : ∀ x h, RK lk h (f x h)) : ∀ (xs acc : List W) (h : Hp), RK lk h (compL f xs acc h)
  | [], _, _ => RK.ok
  | x :: r, acc, h => RK.bind (hf x h).calm fun _ _ => RK.guardR (rk_compL hf r _ _)
theorem rk_mapKeys {lk : List Nat} {f : W → Hp → R W} (hf : ∀ x h, RK lk h (f x h)) : ∀ (xs : List W) (h : Hp), RK lk h (mapKeys f xs h)
  | [], _ => RK.ok
  | x :: r, h => RK.bind (hf x h).calm fun _ _ => RK.bind (rk_mapKeys hf r _) fun _ _ => RK.ok
theorem sk_forL {lk : List Nat} {f : W → Env → Hp → S} (hf : ∀ x e h, SK lk h (f x e h)) : ∀ (xs : List W) (e : Env) (h : Hp), SK lk h (forL f xs e h)
  | [], _, _ => SK.ok
  | x :: r, e, h => SK.turn (hf x e h) fun _ _ => sk_forL hf r _ _
theorem sk_whileL {lk : List Nat} {c : Env → Hp → R W} {f : Env → Hp → S} (hc : ∀ e h, RK lk h (c e h)) (hf : ∀ e h, SK lk h (f e h)) : ∀ (n : Nat) (e : Env) (h : Hp), SK lk h (whileL c f n e h)
  | 0, _, _ => trivial
  | n + 1, e, h => SK.on (hc e h) fun _ _ => SK.thenS fun _ => SK.ite (SK.turn (hf _ _) fun _ _ => sk_whileL hc hf n _ _) SK.ok
theorem memr {lk as : List Nat} : ∀ n ∈ lk, n ∈ as ++ lk := fun n hn => List.mem_append_right _ hn
/-- calls keep -/
def CK (X : Cx) : Prop := ∀ lk f xs h, RK lk h (X.call lk f xs h)
mutual
theorem rk_ev : ∀ (m : Ex) (X : Cx) (k : CK X) (env : Env) (h : Hp), RK X.lk h (ev X m env h)
  | .non, _, _, _, _ => by simp only [ev]; exact RK.ok
  | .bl _, _, _, _, _ => by simp only [ev]; exact RK.ok
  | .int _, _, _, _, _ => by simp only [ev]; exact RK.ok
  | .str _, _, _, _, _ => by simp only [ev]; exact RK.ok
  | .var _, _, _, _, _ => by simp only [ev]; exact RK.of
  | .bin op a b, X, k, env, h => by simp only [ev]; exact RK.bind (rk_ev a X k env h) fun _ _ => RK.bind (rk_ev b X k env _) fun _ _ => rk_bin ..
  | .neg a, X, k, env, h => by
    simp only [ev]
    refine RK.bind (rk_ev a X k env h) fun x _ => ?_
    unfold neg
    split <;> first | exact RK.ok | exact RK.bad
  | .cmp op a b, X, k, env, h => by simp only [ev]; exact RK.bind (rk_ev a X k env h) fun _ _ => RK.bind (rk_ev b X k env _) fun _ _ => RK.of
  | .chain op op' a b c, X, k, env, h => by
    simp only [ev]
    exact RK.bind (rk_ev a X k env h) fun _ _ => RK.bind (rk_ev b X k env _) fun _ _ => RK.thenO fun _ => RK.ite (RK.bind (rk_ev c X k env _) fun _ _ => RK.of) RK.ok
  | .and a b, X, k, env, h => by simp only [ev]; exact RK.bind (rk_ev a X k env h) fun _ _ => RK.thenO fun _ => RK.ite (rk_ev b X k env _) RK.ok
  | .or a b, X, k, env, h => by simp only [ev]; exact RK.bind (rk_ev a X k env h) fun _ _ => RK.thenO fun _ => RK.ite RK.ok (rk_ev b X k env _)
  | .not a, X, k, env, h => by simp only [ev]; exact RK.bind (rk_ev a X k env h) fun _ _ => RK.of
  | .ife c a b, X, k, env, h => by simp only [ev]; exact RK.bind (rk_ev c X k env h) fun _ _ => RK.thenO fun _ => RK.ite (rk_ev a X k env _) (rk_ev b X k env _)
  | .fld o f, X, k, env, h => by simp only [ev]; exact RK.bind (rk_ev o X k env h) fun _ _ => RK.of
  | .ix o i, X, k, env, h => by simp only [ev]; exact RK.bind (rk_ev o X k env h) fun _ _ => RK.bind (rk_ev i X k env _) fun _ _ => RK.of
  | .sl o lo hi, X, k, env, h => by simp only [ev]; exact RK.bind (rk_ev o X k env h) fun _ _ => RK.bind (rk_evO lo X k env _) fun _ _ => RK.bind (rk_evO hi X k env _) fun _ _ => rk_slice ..
  | .tup es, X, k, env, h => by simp only [ev]; exact RK.bind (rk_evs es X k env h) fun _ _ => RK.ok
  | .lst es, X, k, env, h => by simp only [ev]; exact RK.bind (rk_evs es X k env h) fun _ _ => RK.mk
  | .dct kvs, X, k, env, h => by simp only [ev]; exact RK.bind (rk_evp kvs X k env h) fun _ _ => RK.guardR RK.mk
  | .call f es, X, k, env, h => by simp only [ev]; exact RK.bind (rk_evs es X k env h) fun _ _ => k _ _ _ _
  | .new c es, X, k, env, h => by
    simp only [ev]
    exact RK.thenO fun _ => RK.bind (rk_evs es X k env h) fun _ _ => RK.bind RK.mk fun _ _ => RK.bind (k _ _ _ _) fun _ _ => RK.ok
  | .meth o m es, X, k, env, h => by
    simp only [ev]
    refine RK.bind (rk_ev o X k env h) fun _ _ => RK.thenO fun t => RK.bind (rk_evs es X k env _) fun _ _ => ?_
    cases t with
    | own f => exact k _ _ _ _
    | blt => exact rk_bm ..
  | .sup c m es, X, k, env, h => by simp only [ev]; exact RK.thenO fun _ => RK.bind (rk_evs es X k env h) fun _ _ => k _ _ _ _
  | .blt b es, X, k, env, h => by simp only [ev]; exact RK.bind (rk_evs es X k env h) fun _ _ => rk_blt ..
  | .isi e t, X, k, env, h => by simp only [ev]; exact RK.bind (rk_ev e X k env h) fun _ _ => RK.of
  | .comp own elt tg it none, X, k, env, h => by
    simp only [ev]
    refine RK.bind (rk_walk it X k env h) fun p _ => RK.bind (rk_compL (fun x h => ?_) _ _ _) fun _ _ => RK.mk
    simp only [turnC]
    exact RK.thenO fun e => RK.bind ((rk_ev elt (X.lock p.2) k e h).less memr) fun _ _ => RK.ok
  | .comp own elt tg it (some c), X, k, env, h => by
    simp only [ev]
    refine RK.bind (rk_walk it X k env h) fun p _ => RK.bind (rk_compL (fun x h => ?_) _ _ _) fun _ _ => RK.mk
    simp only [turnC]
    exact RK.thenO fun e => RK.bind ((rk_ev c (X.lock p.2) k e h).less memr) fun _ _ => RK.thenO fun _ => RK.ite (RK.bind ((rk_ev elt (X.lock p.2) k e _).less memr) fun _ _ => RK.ok) RK.ok
  | .listOf it, X, k, env, h => by simp only [ev]; exact RK.bind (rk_walk it X k env h) fun _ _ => RK.guardR RK.mk
  | .tupOf it, X, k, env, h => by simp only [ev]; exact RK.bind (rk_walk it X k env h) fun _ _ => RK.ok
  | .sortK src i key, X, k, env, h => by
    simp only [ev]
    exact RK.bind (rk_ev src X k env h) fun _ _ => RK.thenO fun p => RK.bind (rk_mapKeys (fun x h => rk_ev key X k _ h) _ _) fun _ _ => RK.thenO fun _ => RK.mk
  | .minK src i key, X, k, env, h => by
    simp only [ev]
    exact RK.bind (rk_ev src X k env h) fun _ _ => RK.thenO fun p => RK.bind (rk_mapKeys (fun x h => (rk_ev key (X.lock p.2) k _ h).less memr) _ _) fun _ _ => RK.of
  | .fstr es, X, k, env, h => by simp only [ev]; exact RK.bind (rk_evF es X k env h) fun _ _ => RK.guardR RK.ok
  | .curFld f, X, k, env, h => by simp only [ev]; exact RK.of
  | .curIs c, X, k, env, h => by simp only [ev]; exact RK.of
theorem rk_evO : ∀ (m : Option Ex) (X : Cx) (k : CK X) (env : Env) (h : Hp), RK X.lk h (evO X m env h)
  | none, _, _, _, _ => by simp only [evO]; exact RK.ok
  | some e, X, k, env, h => by
    simp only [evO]
    refine RK.bind (rk_ev e X k env h) fun x _ => ?_
    unfold part
    split <;> first | exact RK.ok | exact RK.bad
theorem rk_evs : ∀ (m : List Ex) (X : Cx) (k : CK X) (env : Env) (h : Hp), RK X.lk h (evs X m env h)
  | [], _, _, _, _ => by simp only [evs]; exact RK.ok
  | e :: es, X, k, env, h => by simp only [evs]; exact RK.bind (rk_ev e X k env h) fun _ _ => RK.bind (rk_evs es X k env _) fun _ _ => RK.ok
theorem rk_evF : ∀ (m : List Ex) (X : Cx) (k : CK X) (env : Env) (h : Hp), RK X.lk h (evF X m env h)
  | [], _, _, _, _ => by simp only [evF]; exact RK.ok
  | e :: es, X, k, env, h => by simp only [evF]; exact RK.bind (rk_ev e X k env h) fun _ _ => RK.thenO fun _ => RK.bind (rk_evF es X k env _) fun _ _ => RK.ok
theorem rk_evp : ∀ (m : List (Ex × Ex)) (X : Cx) (k : CK X) (env : Env) (h : Hp), RK X.lk h (evp X m env h)
  | [], _, _, _, _ => by simp only [evp]; exact RK.ok
  | (a, b) :: es, X, k, env, h => by simp only [evp]; exact RK.bind (rk_ev a X k env h) fun _ _ => RK.bind (rk_ev b X k env _) fun _ _ => RK.bind (rk_evp es X k env _) fun _ _ => RK.ok
theorem rk_walk : ∀ (m : It) (X : Cx) (k : CK X) (env : Env) (h : Hp), RK X.lk h (walk X m env h)
  | .val e, X, k, env, h => by simp only [walk]; exact RK.bind (rk_ev e X k env h) fun _ _ => RK.of
  | .rng a, X, k, env, h => by simp only [walk]; exact RK.bind (rk_ev a X k env h) fun _ _ => RK.of
  | .rng2 a b, X, k, env, h => by simp only [walk]; exact RK.bind (rk_ev a X k env h) fun _ _ => RK.bind (rk_ev b X k env _) fun _ _ => RK.of
  | .rng3 a b c, X, k, env, h => by simp only [walk]; exact RK.bind (rk_ev a X k env h) fun _ _ => RK.bind (rk_ev b X k env _) fun _ _ => RK.bind (rk_ev c X k env _) fun _ _ => RK.of
  | .items e, X, k, env, h => by simp only [walk]; exact RK.bind (rk_ev e X k env h) fun _ _ => RK.of
  | .vals e, X, k, env, h => by simp only [walk]; exact RK.bind (rk_ev e X k env h) fun _ _ => RK.of
  | .keys e, X, k, env, h => by simp only [walk]; exact RK.bind (rk_ev e X k env h) fun _ _ => RK.of
  | .enum e, X, k, env, h => by simp only [walk]; exact RK.bind (rk_ev e X k env h) fun _ _ => RK.of
  | .zip a b, X, k, env, h => by simp only [walk]; exact RK.bind (rk_ev a X k env h) fun _ _ => RK.bind (rk_ev b X k env _) fun _ _ => RK.of
  | .zip3 a b c, X, k, env, h => by simp only [walk]; exact RK.bind (rk_ev a X k env h) fun _ _ => RK.bind (rk_ev b X k env _) fun _ _ => RK.bind (rk_ev c X k env _) fun _ _ => RK.of
  | .rev e, X, k, env, h => by simp only [walk]; exact RK.bind (rk_ev e X k env h) fun _ _ => RK.of
end
theorem rk_setIx {lk : List Nat} {x y v : W} {h : Hp} : RK lk h (setIx lk x y v h) := by
  unfold setIx
  split
  · unfold setIxO
    split
    · split
      · exact RK.thenO fun _ => RK.put
      · exact RK.bad
    · exact RK.guardR RK.put
    · exact RK.bad
  · exact RK.bad
theorem rk_setFld {lk : List Nat} {x v : W} {f : String} {h : Hp} : RK lk h (setFld lk x f v h) := by
  unfold setFld
  split
  · unfold setFldO
    split <;> first | exact RK.put | exact RK.bad
  · exact RK.bad
mutual
theorem sk_ex : ∀ (m : St) (X : Cx) (k : CK X) (env : Env) (h : Hp), SK X.lk h (ex X m env h)
  | .expr e, X, k, env, h => by simp only [ex]; exact SK.on (rk_ev e X k env h) fun _ _ => SK.ok
  | .set (.tg t) e, X, k, env, h => by simp only [ex]; exact SK.on (rk_ev e X k env h) fun _ _ => SK.thenS fun _ => SK.ok
  | .set (.fld o f) e, X, k, env, h => by simp only [ex]; exact SK.on (rk_ev e X k env h) fun _ _ => SK.on (rk_ev o X k env _) fun _ _ => SK.on rk_setFld fun _ _ => SK.ok
  | .set (.ix o i) e, X, k, env, h => by simp only [ex]; exact SK.on (rk_ev e X k env h) fun _ _ => SK.on (rk_ev o X k env _) fun _ _ => SK.on (rk_ev i X k env _) fun _ _ => SK.on rk_setIx fun _ _ => SK.ok
  | .aug i op e, X, k, env, h => by simp only [ex]; exact SK.on RK.of fun _ _ => SK.on (rk_ev e X k env _) fun _ _ => SK.on (rk_ibin ..) fun _ _ => SK.ok
  | .augF o f op e, X, k, env, h => by simp only [ex]; exact SK.on (rk_ev o X k env h) fun _ _ => SK.on RK.of fun _ _ => SK.on (rk_ev e X k env _) fun _ _ => SK.on (rk_ibin ..) fun _ _ => SK.on rk_setFld fun _ _ => SK.ok
  | .ite c a b, X, k, env, h => by simp only [ex]; exact SK.on (rk_ev c X k env h) fun _ _ => SK.thenS fun _ => SK.ite (sk_exs a X k env _) (sk_exs b X k env _)
  | .while c b, X, k, env, h => by simp only [ex]; exact sk_whileL (fun e h => rk_ev c X k e h) (fun e h => sk_exs b X k e h) _ _ _
  | .for tg it b, X, k, env, h => by
    simp only [ex]
    refine SK.on (rk_walk it X k env h) fun p _ => sk_forL (fun x e h => ?_) _ _ _
    simp only [turnOf]
    exact SK.thenS fun _ => (sk_exs b (X.lock p.2) k _ h).less memr
  | .ret e, X, k, env, h => by simp only [ex]; exact SK.on (rk_ev e X k env h) fun _ _ => SK.ok
  | .brk, X, k, env, h => by simp only [ex]; exact SK.ok
  | .cont, X, k, env, h => by simp only [ex]; exact SK.ok
  | .pass, X, k, env, h => by simp only [ex]; exact SK.ok
  | .raise c es, X, k, env, h => by simp only [ex]; exact SK.on (rk_evs es X k env h) fun _ _ => SK.thenS fun _ => SK.exc
  | .try b hs, X, k, env, h => by
    simp only [ex]
    have := sk_exs b X k env h
    cases hr : exs X b env h with
    | bad => exact trivial
    | ok f h' => rw [hr] at this; exact this
    | exc x e h' => rw [hr] at this; exact SK.next this (sk_hnd hs x X k e h')
theorem sk_exs : ∀ (m : List St) (X : Cx) (k : CK X) (env : Env) (h : Hp), SK X.lk h (exs X m env h)
  | [], X, k, env, h => by simp only [exs]; exact SK.ok
  | s :: r, X, k, env, h => by simp only [exs]; exact SK.then (sk_ex s X k env h) fun _ _ => sk_exs r X k _ _
theorem sk_hnd : ∀ (m : List (String × List St)) (x : Exn) (X : Cx) (k : CK X) (env : Env) (h : Hp), SK X.lk h (hnd X x m env h)
  | [], x, X, k, env, h => by unfold hnd; exact SK.exc
  | (c, b) :: r, x, X, k, env, h => by
    unfold hnd
    exact SK.ite (sk_exs b { X with cur := some x } k env h) (sk_hnd r x X k env h)
end
theorem rk_run (T : Prog) : ∀ (n : Nat) (lk : List Nat) (f : String) (xs : List W) (h : Hp), RK lk h (run T n lk f xs h)
  | 0, _, _, _, _ => trivial
  | n + 1, lk, f, xs, h => by
    unfold run
    refine RK.thenO fun fd => RK.guardR ?_
    have := sk_exs fd.body ⟨T, run T n, lk, none⟩ (fun lk f xs h => rk_run T n lk f xs h) (xs.map some ++ List.replicate (fd.ns - fd.np) none) h
    unfold out
    split <;> rename_i hr <;> first | (rw [hr] at this; exact this) | trivial
end MP

namespace MP
open PySem PySem.Spec PyProof.Rows
abbrev HH := L2.Hp
abbrev HO := L2.HO
abbrev Vv := L2.V
abbrev KEY := L2.Key
/-- a text of codes -/
def sv (cs : List Nat) : Str := ⟨cs.toArray⟩
theorem sv_tl (cs : List Nat) : (sv cs).cps.toList = cs := rfl
theorem sv_inj {a b : List Nat} : sv a = sv b ↔ a = b := by
  constructor
  · intro h
    have := congrArg (fun s : Str => s.cps.toList) h
    exact this
  · intro h; rw [h]
theorem sv_len (cs : List Nat) : (sv cs).length = cs.length := rfl
/-! ### how the little language's data stand in the abstract heap -/
mutual
def RW (ρ : List Addr) (H : HH) : W → Vv → Prop
  | .non, v => v = .non
  | .bl b, v => v = .bl b
  | .int i, v => v = .int i
  | .str s, v => s.length ≤ LINE ∧ v = .str (sv s)
  | .tup xs, v => ∃ a vs, v = .ref a ∧ H a = some (.tup vs) ∧ RWs ρ H xs vs
  | .ref n, v => ∃ a, v = .ref a ∧ ρ[n]? = some a
def RWs (ρ : List Addr) (H : HH) : List W → List Vv → Prop
  | [], vs => vs = []
  | x :: xs, vs => ∃ v r, vs = v :: r ∧ RW ρ H x v ∧ RWs ρ H xs r
end
/-- a flat key -/
def flatK : W → Option KEY
  | .int i => some (.inl i)
  | .str s => if s.length ≤ LINE then some (.inr (sv s)) else none
  | _ => none
def flatKs : List W → Option (List KEY)
  | [] => some []
  | x :: xs => (flatK x).bind fun k => (flatKs xs).map (k :: ·)
def tupK : W → Option (List KEY)
  | .tup xs => flatKs xs
  | _ => none
/-- the pairs of a dict -/
def RP {κ : Type} (f : W → Option κ) (ρ : List Addr) (H : HH) (p : W × W) (q : κ × Vv) : Prop := f p.1 = some q.1 ∧ RW ρ H p.2 q.2
abbrev RPs {κ : Type} (f : W → Option κ) (ρ : List Addr) (H : HH) : List (W × W) → List (κ × Vv) → Prop := Paired (RP f ρ H)
/-- what stands at an address: maybe locked (L) -/
def At (H : HH) (L : Prop) (a : Addr) (u : HO) : Prop := H a = some u ∨ (L ∧ ∃ od, H a = some (.frz od u))
/-- an instance's attributes -/
def RF (ρ : List Addr) (H : HH) (fs : List (String × W)) (gs : List (Str × Vv)) : Prop :=
  fs.length = gs.length ∧ ∀ f, match fs.lookup f with
    | some w => ∃ v, gs.lookup (Str.ofString f) = some v ∧ RW ρ H w v
    | none => gs.lookup (Str.ofString f) = none
/-- where the classes of instances stand, which there are -/
structure CA where
  ad : String → Addr
  cls : List String
def RO (cA : CA) (ρ : List Addr) (H : HH) (L : Prop) (a : Addr) : O → Prop
  | .lst xs => ∃ vs, RWs ρ H xs vs ∧ At H L a (.lst vs)
  | .dct kvs => (∃ ks, RPs flatK ρ H kvs ks ∧ (ks.map (·.1)).Nodup ∧ At H L a (.dK ks)) ∨ (∃ ks, RPs tupK ρ H kvs ks ∧ (ks.map (·.1)).Nodup ∧ At H False a (.dT ks))
  | .ins c fs => ∃ dx gs, c ∈ cA.cls ∧ H a = some (.ins (cA.ad c) dx gs) ∧ RF ρ H fs gs
/-- the heaps agree; L: what may be locked -/
structure RH (cA : CA) (ρ : List Addr) (L : Nat → Prop) (h : Hp) (H : HH) : Prop where
  len : ρ.length = h.length
  nd : ρ.Nodup
  at_ : ∀ n o a, h[n]? = some o → ρ[n]? = some a → RO cA ρ H (L n) a o
/-- the slots agree -/
def RE (ρ : List Addr) (H : HH) (env : Env) (σ : L2.St) : Prop :=
  env.length = σ.length ∧ ∀ (i : Nat) (w : W), env[i]? = some (some w) → ∃ v, σ[i]? = some (some v) ∧ RW ρ H w v
/-- what values need to stay -/
structure Ex0 (ρ ρ' : List Addr) (H H' : HH) : Prop where
  pre : ρ <+: ρ'
  tup : ∀ t vs, H t = some (.tup vs) → H' t = some (.tup vs)
/-- what stays -/
structure Ext (ρ ρ' : List Addr) (H H' : HH) : Prop where
  pre : ρ <+: ρ'
  tup : ∀ t vs, H t = some (.tup vs) → H' t = some (.tup vs)
  frz : ∀ d o u, H d = some (.frz o u) → H' d = some (.frz o u)
  dom : ∀ a, H' a = none → H a = none
  new : ∀ a ∈ ρ', a ∈ ρ ∨ H a = none
  keep : ∀ a u, a ∉ ρ → H a = some u → H' a = some u
theorem Ext.refl {ρ : List Addr} {H : HH} : Ext ρ ρ H H := ⟨List.prefix_refl _, fun _ _ e => e, fun _ _ _ e => e, fun _ e => e, fun _ e => .inl e, fun _ _ _ e => e⟩
theorem Ext.trans {ρ ρ1 ρ2 : List Addr} {H H1 H2 : HH} (a : Ext ρ ρ1 H H1) (b : Ext ρ1 ρ2 H1 H2) : Ext ρ ρ2 H H2 :=
  ⟨a.pre.trans b.pre, fun t vs e => b.tup _ _ (a.tup _ _ e), fun t o u e => b.frz _ _ _ (a.frz _ _ _ e), fun t e => a.dom t (b.dom t e), fun t h => (b.new t h).elim (a.new t) fun e => .inr (a.dom t e), fun t u h e =>
    b.keep t u (fun h1 => (a.new t h1).elim h fun e' => by rw [e'] at e; cases e) (a.keep t u h e)⟩
theorem Ext.e0 {ρ ρ' : List Addr} {H H' : HH} (x : Ext ρ ρ' H H') : Ex0 ρ ρ' H H' := ⟨x.pre, x.tup⟩
theorem Ex0.ix {ρ ρ' : List Addr} {H H' : HH} (x : Ex0 ρ ρ' H H') {n : Nat} {a : Addr} (e : ρ[n]? = some a) : ρ'[n]? = some a := by
  obtain ⟨t, rfl⟩ := x.pre
  rw [List.getElem?_append_left (List.getElem?_eq_some_iff.mp e).1]; exact e
mutual
theorem RW.ext0 {ρ ρ' : List Addr} {H H' : HH} (x : Ex0 ρ ρ' H H') : ∀ {w : W} {v : Vv}, RW ρ H w v → RW ρ' H' w v
  | .non, _, h => h
  | .bl _, _, h => h
  | .int _, _, h => h
  | .str _, _, h => h
  | .tup xs, _, h => by
    obtain ⟨a, vs, e, e2, r⟩ := h
    exact ⟨a, vs, e, x.tup _ _ e2, RWs.ext0 x r⟩
  | .ref n, _, h => by
    obtain ⟨a, e, e2⟩ := h
    exact ⟨a, e, x.ix e2⟩
theorem RWs.ext0 {ρ ρ' : List Addr} {H H' : HH} (x : Ex0 ρ ρ' H H') : ∀ {ws : List W} {vs : List Vv}, RWs ρ H ws vs → RWs ρ' H' ws vs
  | [], _, h => h
  | w :: ws, _, h => by
    obtain ⟨v, r, e, h1, h2⟩ := h
    exact ⟨v, r, e, RW.ext0 x h1, RWs.ext0 x h2⟩
end
theorem RPs.ext0 {κ : Type} {f : W → Option κ} {ρ ρ' : List Addr} {H H' : HH} (x : Ex0 ρ ρ' H H') {ps : List (W × W)} {qs : List (κ × Vv)} (r : RPs f ρ H ps qs) : RPs f ρ' H' ps qs :=
  L2.Paired.mapP r fun _ _ h => ⟨h.1, h.2.ext0 x⟩
theorem RF.ext0 {ρ ρ' : List Addr} {H H' : HH} (x : Ex0 ρ ρ' H H') {fs : List (String × W)} {gs : List (Str × Vv)} (r : RF ρ H fs gs) : RF ρ' H' fs gs := by
  refine ⟨r.1, fun f => ?_⟩
  have := r.2 f
  cases e : fs.lookup f with
  | some w =>
    rw [e] at this
    obtain ⟨v, h1, h2⟩ := this
    exact ⟨v, h1, h2.ext0 x⟩
  | none =>
    rw [e] at this
    exact this
theorem RE.ext0 {ρ ρ' : List Addr} {H H' : HH} (x : Ex0 ρ ρ' H H') {env : Env} {σ : L2.St} (r : RE ρ H env σ) : RE ρ' H' env σ :=
  ⟨r.1, fun i w e => let ⟨v, h1, h2⟩ := r.2 i w e; ⟨v, h1, h2.ext0 x⟩⟩
section
variable {ρ ρ' : List Addr} {H H' : HH} (x : Ext ρ ρ' H H')
include x
theorem Ext.ix {n : Nat} {a : Addr} (e : ρ[n]? = some a) : ρ'[n]? = some a := x.e0.ix e
theorem RW.ext {w : W} {v : Vv} (r : RW ρ H w v) : RW ρ' H' w v := r.ext0 x.e0
theorem RWs.ext {ws : List W} {vs : List Vv} (r : RWs ρ H ws vs) : RWs ρ' H' ws vs := r.ext0 x.e0
theorem RPs.ext {κ : Type} {f : W → Option κ} {ps : List (W × W)} {qs : List (κ × Vv)} (r : RPs f ρ H ps qs) : RPs f ρ' H' ps qs := RPs.ext0 x.e0 r
theorem RF.ext {fs : List (String × W)} {gs : List (Str × Vv)} (r : RF ρ H fs gs) : RF ρ' H' fs gs := r.ext0 x.e0
theorem RE.ext {env : Env} {σ : L2.St} (r : RE ρ H env σ) : RE ρ' H' env σ := r.ext0 x.e0
end
theorem RWs.length {ρ : List Addr} {H : HH} : ∀ {ws : List W} {vs : List Vv}, RWs ρ H ws vs → ws.length = vs.length
  | [], _, h => by cases h; rfl
  | w :: ws, _, h => by obtain ⟨v, r, rfl, _, h2⟩ := h; rw [List.length_cons, List.length_cons, RWs.length h2]
theorem RWs.get {ρ : List Addr} {H : HH} : ∀ {ws : List W} {vs : List Vv} {i : Nat} {w : W}, RWs ρ H ws vs → ws[i]? = some w → ∃ v, vs[i]? = some v ∧ RW ρ H w v
  | [], _, _, _, _, e => by simp at e
  | x :: ws, _, 0, w, h, e => by obtain ⟨v, r, rfl, h1, _⟩ := h; simp at e; subst e; exact ⟨v, rfl, h1⟩
  | x :: ws, _, i + 1, w, h, e => by obtain ⟨v, r, rfl, _, h2⟩ := h; exact RWs.get (i := i) h2 (by simpa using e)
theorem RWs.append {ρ : List Addr} {H : HH} : ∀ {xs ys : List W} {vs us : List Vv}, RWs ρ H xs vs → RWs ρ H ys us → RWs ρ H (xs ++ ys) (vs ++ us)
  | [], _, _, _, h, g => by cases h; exact g
  | x :: xs, _, _, _, h, g => by obtain ⟨v, r, rfl, h1, h2⟩ := h; exact ⟨v, _, rfl, h1, RWs.append h2 g⟩
theorem RWs.take {ρ : List Addr} {H : HH} : ∀ {xs : List W} {vs : List Vv} (n : Nat), RWs ρ H xs vs → RWs ρ H (xs.take n) (vs.take n)
  | _, _, 0, _ => rfl
  | [], _, n + 1, h => by cases h; rfl
  | x :: xs, _, n + 1, h => by obtain ⟨v, r, rfl, h1, h2⟩ := h; exact ⟨v, _, rfl, h1, RWs.take n h2⟩
theorem RWs.drop {ρ : List Addr} {H : HH} : ∀ {xs : List W} {vs : List Vv} (n : Nat), RWs ρ H xs vs → RWs ρ H (xs.drop n) (vs.drop n)
  | _, _, 0, h => h
  | [], _, n + 1, h => by cases h; rfl
  | x :: xs, _, n + 1, h => by obtain ⟨v, r, rfl, h1, h2⟩ := h; exact RWs.drop n h2
theorem RWs.set {ρ : List Addr} {H : HH} {w : W} {v : Vv} (r : RW ρ H w v) : ∀ {xs : List W} {vs : List Vv} (n : Nat), RWs ρ H xs vs → RWs ρ H (xs.set n w) (vs.set n v)
  | [], _, _, h => by cases h; rfl
  | x :: xs, _, 0, h => by obtain ⟨u, t, rfl, h1, h2⟩ := h; exact ⟨v, t, rfl, r, h2⟩
  | x :: xs, _, n + 1, h => by obtain ⟨u, t, rfl, h1, h2⟩ := h; exact ⟨u, _, rfl, h1, RWs.set r n h2⟩
theorem RWs.eraseIdx {ρ : List Addr} {H : HH} : ∀ {xs : List W} {vs : List Vv} (n : Nat), RWs ρ H xs vs → RWs ρ H (xs.eraseIdx n) (vs.eraseIdx n)
  | [], _, _, h => by cases h; rfl
  | x :: xs, _, 0, h => by obtain ⟨u, t, rfl, h1, h2⟩ := h; exact h2
  | x :: xs, _, n + 1, h => by obtain ⟨u, t, rfl, h1, h2⟩ := h; exact ⟨u, _, rfl, h1, RWs.eraseIdx n h2⟩
theorem RWs.reverse {ρ : List Addr} {H : HH} : ∀ {xs : List W} {vs : List Vv}, RWs ρ H xs vs → RWs ρ H xs.reverse vs.reverse
  | [], _, h => by cases h; rfl
  | x :: xs, _, h => by
    obtain ⟨u, t, rfl, h1, h2⟩ := h
    rw [List.reverse_cons, List.reverse_cons]
    exact RWs.append (RWs.reverse h2) ⟨u, [], rfl, h1, rfl⟩
theorem RWs.dropLast {ρ : List Addr} {H : HH} {xs : List W} {vs : List Vv} (h : RWs ρ H xs vs) : RWs ρ H xs.dropLast vs.dropLast := by
  rw [List.dropLast_eq_take, List.dropLast_eq_take, h.length]
  exact RWs.take _ h
theorem RE.set {ρ : List Addr} {H : HH} {env : Env} {σ : L2.St} (r : RE ρ H env σ) {w : W} {v : Vv} (rv : RW ρ H w v) (i : Nat) : RE ρ H (env.set i (some w)) (σ.set i (some v)) := by
  refine ⟨by rw [List.length_set, List.length_set, r.1], fun j u e => ?_⟩
  by_cases h : i = j
  · subst h
    by_cases hi : i < env.length
    · rw [List.getElem?_set_self hi] at e
      cases e
      exact ⟨v, by rw [List.getElem?_set_self (by rw [← r.1]; exact hi)], rv⟩
    · rw [List.getElem?_eq_none (by rw [List.length_set]; omega)] at e; cases e
  · rw [List.getElem?_set_ne h] at e
    obtain ⟨v', h1, h2⟩ := r.2 j u e
    exact ⟨v', by rw [List.getElem?_set_ne h]; exact h1, h2⟩
theorem RE.unset {ρ : List Addr} {H : HH} {env : Env} {σ : L2.St} (r : RE ρ H env σ) (i : Nat) (o : Option Vv) : RE ρ H (env.set i none) (σ.set i o) := by
  refine ⟨by rw [List.length_set, List.length_set, r.1], fun j u e => ?_⟩
  by_cases h : i = j
  · subst h
    by_cases hi : i < env.length
    · rw [List.getElem?_set_self hi] at e; cases e
    · rw [List.getElem?_eq_none (by rw [List.length_set]; omega)] at e; cases e
  · rw [List.getElem?_set_ne h] at e
    obtain ⟨v', h1, h2⟩ := r.2 j u e
    exact ⟨v', by rw [List.getElem?_set_ne h]; exact h1, h2⟩
theorem RE.wipe {ρ : List Addr} {H : HH} {env : Env} {σ : L2.St} (r : RE ρ H env σ) : ∀ own : List Nat, RE ρ H (wipe env own) (L2.wipe σ own)
  | [] => r
  | i :: is => by
    show RE ρ H ((MP.wipe env is).set i none) ((L2.wipe σ is).set i none)
    exact (RE.wipe r is).unset i none
theorem dom_upd {H : HH} {a : Addr} {u : HO} : ∀ t, L2.upd H a u t = none → H t = none := fun t e => by
  by_cases h : t = a
  · subst h; rw [L2.upd_same] at e; cases e
  · rw [L2.upd_ne h] at e; exact e
/-! ### the heaps change together -/
section
variable {cA : CA} {ρ : List Addr} {L L' : Nat → Prop} {h : Hp} {H H' : HH}
theorem RO.ext0 {ρ' : List Addr} {P P' : Prop} {a : Addr} (x : Ex0 ρ ρ' H H') (e : H' a = H a) (hL : P → P') : ∀ {o : O}, RO cA ρ H P a o → RO cA ρ' H' P' a o
  | .lst xs, ⟨vs, r, k⟩ => ⟨vs, r.ext0 x, k.elim (fun z => .inl (e.trans z)) fun ⟨p, od, z⟩ => .inr ⟨hL p, od, e.trans z⟩⟩
  | .dct kvs, k => k.elim
      (fun ⟨ks, r, n, k⟩ => .inl ⟨ks, RPs.ext0 x r, n, k.elim (fun z => .inl (e.trans z)) fun ⟨p, od, z⟩ => .inr ⟨hL p, od, e.trans z⟩⟩)
      (fun ⟨ks, r, n, k⟩ => .inr ⟨ks, RPs.ext0 x r, n, k.elim (fun z => .inl (e.trans z)) fun ⟨p, od, z⟩ => p.elim⟩)
  | .ins c fs, ⟨dx, gs, m, z, r⟩ => ⟨dx, gs, m, e.trans z, r.ext0 x⟩
theorem RO.ext {ρ' : List Addr} {P P' : Prop} {a : Addr} (x : Ext ρ ρ' H H') (e : H' a = H a) (hL : P → P') {o : O} (r : RO cA ρ H P a o) : RO cA ρ' H' P' a o := r.ext0 x.e0 e hL
theorem RH.weaken (r : RH cA ρ L h H) (hL : ∀ n, L n → L' n) : RH cA ρ L' h H :=
  ⟨r.len, r.nd, fun n o a e1 e2 => (r.at_ n o a e1 e2).ext .refl rfl (hL n)⟩
/-- an untracked or other thing changes: nothing of ours -/
theorem RH.keep0 (r : RH cA ρ L h H) (x : Ex0 ρ ρ H H') (k : ∀ a ∈ ρ, H' a = H a) : RH cA ρ L h H' :=
  ⟨r.len, r.nd, fun n o a e1 e2 => (r.at_ n o a e1 e2).ext0 x (k a (List.mem_of_getElem? e2)) id⟩
theorem RH.keep (r : RH cA ρ L h H) (x : Ext ρ ρ H H') (k : ∀ a ∈ ρ, H' a = H a) : RH cA ρ L h H' := r.keep0 x.e0 k
theorem ix_lt {α : Type} {l : List α} {n : Nat} {a : α} (e : l[n]? = some a) : n < l.length := (List.getElem?_eq_some_iff.mp e).1
theorem RH.get (r : RH cA ρ L h H) {n : Nat} {o : O} (e : rd h n = some o) : ∃ a, ρ[n]? = some a ∧ RO cA ρ H (L n) a o := by
  have hn : n < ρ.length := by rw [r.len]; exact ix_lt e
  exact ⟨ρ[n], List.getElem?_eq_getElem hn, r.at_ n o _ e (List.getElem?_eq_getElem hn)⟩
theorem RO.some {P : Prop} {a : Addr} : ∀ {o : O}, RO cA ρ H P a o → ∃ u, H a = some u
  | .lst _, ⟨_, _, k⟩ => k.elim (fun z => ⟨_, z⟩) fun ⟨_, _, z⟩ => ⟨_, z⟩
  | .dct _, k => k.elim (fun ⟨_, _, _, k⟩ => k.elim (fun z => ⟨_, z⟩) fun ⟨_, _, z⟩ => ⟨_, z⟩) (fun ⟨_, _, _, k⟩ => k.elim (fun z => ⟨_, z⟩) fun ⟨_, _, z⟩ => ⟨_, z⟩)
  | .ins _ _, ⟨_, _, _, z, _⟩ => ⟨_, z⟩
theorem RH.fresh (r : RH cA ρ L h H) {a : Addr} (e : H a = none) : a ∉ ρ := fun hm => by
  obtain ⟨n, hn⟩ := List.getElem?_of_mem hm
  have hl : n < h.length := by rw [← r.len]; exact ix_lt hn
  obtain ⟨u, hu⟩ := (r.at_ n h[n] a (List.getElem?_eq_getElem hl) hn).some
  rw [e] at hu; cases hu
/-- a new cell -/
theorem RH.laid (r : RH cA ρ L h H) {a : Addr} {u : HO} {o : O} (e : H a = none) (new : ∀ x : Ext ρ (ρ ++ [a]) H (L2.upd H a u), RO cA (ρ ++ [a]) (L2.upd H a u) (L h.length) a o) :
    Ext ρ (ρ ++ [a]) H (L2.upd H a u) ∧ RH cA (ρ ++ [a]) L (h ++ [o]) (L2.upd H a u) ∧ (ρ ++ [a])[h.length]? = some a := by
  have x : Ext ρ (ρ ++ [a]) H (L2.upd H a u) := ⟨List.prefix_append _ _, fun t vs z => by rw [L2.upd_ne (L2.ne_of_none z e)]; exact z, fun t o u z => by rw [L2.upd_ne (L2.ne_of_none z e)]; exact z, dom_upd, fun t h => (List.mem_append.mp h).imp id fun h => by rw [List.mem_singleton.mp h]; exact e, fun t u _ z => by rw [L2.upd_ne (L2.ne_of_none z e)]; exact z⟩
  have na := r.fresh e
  have hl : (ρ ++ [a])[h.length]? = some a := by rw [← r.len]; simp
  refine ⟨x, ⟨by simp [r.len], ?_, fun n o' b e1 e2 => ?_⟩, hl⟩
  · rw [List.nodup_append]
    exact ⟨r.nd, by simp, fun b hb c hc => by simp at hc; subst hc; exact fun z => na (z ▸ hb)⟩
  · by_cases hn : n < h.length
    · rw [List.getElem?_append_left hn] at e1
      rw [List.getElem?_append_left (by rw [r.len]; exact hn)] at e2
      refine (r.at_ n o' b e1 e2).ext x ?_ id
      rw [L2.upd_ne fun z => na (by rw [← z]; exact List.mem_of_getElem? e2)]
    · have hn' : n = h.length := by
        have := ix_lt e1
        rw [List.length_append] at this
        simp at this
        omega
      subst hn'
      rw [hl] at e2
      cases e2
      simp at e1
      subst e1
      exact new x
/-- a thing is laid that is no cell of ours -/
theorem RH.side (r : RH cA ρ L h H) {a : Addr} {u : HO} (e : H a = none) : Ext ρ ρ H (L2.upd H a u) ∧ RH cA ρ L h (L2.upd H a u) := by
  have x : Ext ρ ρ H (L2.upd H a u) := ⟨List.prefix_refl _, fun t vs z => by rw [L2.upd_ne (L2.ne_of_none z e)]; exact z, fun t o u z => by rw [L2.upd_ne (L2.ne_of_none z e)]; exact z, dom_upd, fun t h => .inl h, fun t u _ z => by rw [L2.upd_ne (L2.ne_of_none z e)]; exact z⟩
  exact ⟨x, r.keep x fun b hb => L2.upd_ne fun z => r.fresh e (by rw [← z]; exact hb)⟩
/-- a cell is written -/
theorem RH.write (r : RH cA ρ L h H) {n : Nat} {a : Addr} {u : HO} {o : O} (ha : ρ[n]? = some a) (mu : L2.Mut (H a)) (new : ∀ x : Ext ρ ρ H (L2.upd H a u), RO cA ρ (L2.upd H a u) (L n) a o) :
    Ext ρ ρ H (L2.upd H a u) ∧ RH cA ρ L (h.set n o) (L2.upd H a u) := by
  have x : Ext ρ ρ H (L2.upd H a u) := ⟨List.prefix_refl _, fun t vs z => by rw [L2.upd_ne fun q => by rw [q] at z; rw [z] at mu; exact mu]; exact z, fun t o u z => by rw [L2.upd_ne fun q => by rw [q] at z; rw [z] at mu; exact mu]; exact z, dom_upd, fun t h => .inl h, fun t u h z => by rw [L2.upd_ne fun q => h (by rw [q]; exact List.mem_of_getElem? ha)]; exact z⟩
  refine ⟨x, ⟨by simp [r.len], r.nd, fun m o' b e1 e2 => ?_⟩⟩
  by_cases hm : n = m
  · subst hm
    have hl : n < h.length := by have := ix_lt e1; simpa using this
    rw [List.getElem?_set_self hl] at e1
    cases e1
    rw [ha] at e2
    cases e2
    exact new x
  · rw [List.getElem?_set_ne hm] at e1
    refine (r.at_ m o' b e1 e2).ext x ?_ id
    rw [L2.upd_ne]
    rintro rfl
    exact hm ((List.getElem?_inj (ix_lt ha) r.nd).mp (ha.trans e2.symm))
end
end MP

namespace MP
open PySem PySem.Spec PyProof.Rows
/-! ### what an answer of the little language asks of what is wanted -/
def RX (cA : CA) (ρ : List Addr) (H : HH) (x : Exn) (cls : Value) (d : Option Addr) : Prop :=
  cls = .ref (cA.ad x.c) ∧ ∀ f w, x.fs.lookup f = some w → ∃ dd fs v, d = some dd ∧ H dd = some (.xd fs) ∧ fs.lookup (Str.ofString f) = some v ∧ RW ρ H w v
def Good {α β : Type} (cA : CA) (lk : List Nat) (Rel : List Addr → HH → α → β → Prop) (r : R α) (ρ : List Addr) (H : HH) (Q : β → HH → Prop) (E : L2.XK) : Prop :=
  match r with
  | .ok w h' => ∀ ρ' v H', Ext ρ ρ' H H' → RH cA ρ' (· ∈ lk) h' H' → Rel ρ' H' w v → Q v H'
  | .exc x h' => ∀ ρ' cls d H', Ext ρ ρ' H H' → RH cA ρ' (fun _ => True) h' H' → RX cA ρ' H' x cls d → E cls d H'
  | .bad => False
section
variable {α β γ δ : Type} {cA : CA} {lk : List Nat} {Rel : List Addr → HH → α → β → Prop} {Rel2 : List Addr → HH → γ → δ → Prop} {r : R α} {ρ ρ1 : List Addr} {H H1 : HH} {Q Q' : β → HH → Prop} {E : L2.XK} {h : Hp}
theorem Good.ext (g : Good cA lk Rel r ρ H Q E) (x : Ext ρ ρ1 H H1) : Good cA lk Rel r ρ1 H1 Q E := by
  cases r with
  | bad => exact g
  | ok w h => exact fun ρ' v H' e => g ρ' v H' (x.trans e)
  | exc y h => exact fun ρ' c d H' e => g ρ' c d H' (x.trans e)
theorem Good.bind {f : α → Hp → R γ} {Q2 : δ → HH → Prop} (g : Good cA lk Rel2 (r.bind f) ρ H Q2 E)
    (k : ∀ w h1 ρ1 v H1, r = .ok w h1 → Ext ρ ρ1 H H1 → RH cA ρ1 (· ∈ lk) h1 H1 → Rel ρ1 H1 w v → Good cA lk Rel2 (f w h1) ρ1 H1 Q2 E → Q v H1) : Good cA lk Rel r ρ H Q E := by
  cases r with
  | bad => exact g
  | ok w h => exact fun ρ1 v H1 e rh rel => k w h ρ1 v H1 rfl e rh rel (Good.ext (r := f w h) g e)
  | exc y h => exact g
theorem Good.of {o : Option α} (g : Good cA lk Rel (.of o h) ρ H Q E) : ∃ w, o = some w ∧ Good cA lk Rel (.ok w h) ρ H Q E := by
  cases o with
  | none => exact g.elim
  | some w => exact ⟨w, rfl, g⟩
theorem Good.thenO {o : Option γ} {f : γ → R α} (g : Good cA lk Rel (thenO o f) ρ H Q E) : ∃ w, o = some w ∧ Good cA lk Rel (f w) ρ H Q E := by
  cases o with
  | none => exact g.elim
  | some w => exact ⟨w, rfl, g⟩
theorem Good.guardR {b : Bool} (g : Good cA lk Rel (guardR b r) ρ H Q E) : b = true ∧ Good cA lk Rel r ρ H Q E := by
  cases b with
  | false => exact g.elim
  | true => exact ⟨rfl, g⟩
theorem Good.here {w : α} {v : β} (g : Good cA lk Rel (.ok w h) ρ H Q E) (rh : RH cA ρ (· ∈ lk) h H) (rel : Rel ρ H w v) : Q v H := g ρ v H .refl rh rel
end
/-! ### operators by values -/
section
variable {cA : CA} {Y : L2.Cx} {lk : List Nat} {ρ : List Addr} {H : HH} {h : Hp} {E : L2.XK}
/-- a new list -/
theorem mk_lst {xs : List W} {vs : List Vv} {Q : Vv → HH → Prop} (g : Good cA lk RW (mk (.lst xs) h) ρ H Q E) (rh : RH cA ρ (· ∈ lk) h H) (r : RWs ρ H xs vs) : ∀ p, H p = none → Q (.ref p) (L2.upd H p (.lst vs)) := fun p e => by
  obtain ⟨x, rh', hl⟩ := rh.laid (u := .lst vs) (o := .lst xs) e fun x => ⟨vs, r.ext x, .inl L2.upd_same⟩
  exact g _ _ _ x rh' ⟨p, rfl, hl⟩
/-- a new tuple -/
theorem mk_tup {xs : List W} {vs : List Vv} {Q : Vv → HH → Prop} (g : Good cA lk RW (.ok (.tup xs) h) ρ H Q E) (rh : RH cA ρ (· ∈ lk) h H) (r : RWs ρ H xs vs) : ∀ p, H p = none → Q (.ref p) (L2.upd H p (.tup vs)) := fun p e => by
  obtain ⟨x, rh'⟩ := rh.side (u := .tup vs) e
  exact g _ _ _ x rh' ⟨p, vs, rfl, L2.upd_same, r.ext x⟩
/-- a new dict -/
theorem mk_dK {kvs : List (W × W)} {ks : List (KEY × Vv)} {Q : Vv → HH → Prop} (g : Good cA lk RW (mk (.dct kvs) h) ρ H Q E) (rh : RH cA ρ (· ∈ lk) h H) (r : RPs flatK ρ H kvs ks) (n : (ks.map (·.1)).Nodup) : ∀ p, H p = none → Q (.ref p) (L2.upd H p (.dK ks)) := fun p e => by
  obtain ⟨x, rh', hl⟩ := rh.laid (u := .dK ks) (o := .dct kvs) e fun x => .inl ⟨ks, r.ext x, n, .inl L2.upd_same⟩
  exact g _ _ _ x rh' ⟨p, rfl, hl⟩
theorem line_le : LINE ≤ sizeLine := by rw [sizeLine_eq]; decide
theorem At.rd {L : Prop} {a : Addr} {u : HO} (z : At H L a u) : L2.Rd H a u := z.elim .inl fun ⟨_, od, e⟩ => .inr ⟨od, e⟩
theorem At.plain {L : Prop} {a : Addr} {u : HO} (z : At H L a u) (n : ¬ L) : H a = some u := z.elim id fun ⟨p, _⟩ => (n p).elim
theorem At.seqL {L : Prop} {K : PySem.W.Frag} {a : Addr} {vs : List Vv} (z : At H L a (.lst vs)) : L2.SqL K H a vs := .inl z.rd
theorem sv_add (a b : List Nat) : sv a ++ sv b = sv (a ++ b) := L2Ext a b where
  L2Ext (a b : List Nat) : sv a ++ sv b = sv (a ++ b) := by
    apply TL.ext_tl
    rw [TL.tl_append]
    rfl
theorem natAbs_lt {i : Int} {n : Nat} : i.natAbs < n ↔ -(n : Int) < i ∧ i < n := by omega
theorem mulOk_ok {i j : Int} (e : mulOk i j = true) : L2.CMulW i j ∨ L2.CMul i j := by
  unfold mulOk at e
  simp only [Bool.or_eq_true, Bool.and_eq_true, decide_eq_true_eq] at e
  have e64 : ((2 ^ 64 : Nat) : Int) = 2 ^ 64 := by norm_cast
  rcases e with (e | e) | ⟨e1, e2⟩
  · have := natAbs_lt.mp e
    rw [e64] at this
    exact .inr (.inl this)
  · have := natAbs_lt.mp e
    rw [e64] at this
    exact .inr (.inr this)
  · exact .inl (L2.wide_mul e1 e2 (by decide) (by decide) (by decide))
theorem divOk_ok {i j : Int} (e : divOk j = true) : L2.CDivW i j := by
  unfold divOk at e
  simp only [Bool.and_eq_true, decide_eq_true_eq] at e
  refine L2.wide_div (b := 1000) e.1 ?_ (by decide) (by decide)
  have h0 := e.1
  have h1 := e.2
  have e2 : ((2 ^ 1000 : Nat) : Int) = 2 ^ 1000 := by norm_cast
  rw [natAbs_lt, e2]
  exact ⟨by have : (0 : Int) < 2 ^ 1000 := by rw [← e2]; exact Int.natCast_pos.mpr (Nat.two_pow_pos _)
            omega, h1⟩
theorem powOk_ok {i j : Int} (e : powOk i j = true) : L2.CPow i j := by
  unfold powOk at e
  simp only [Bool.and_eq_true, decide_eq_true_eq] at e
  exact ⟨e.1.1, e.1.2, e.2⟩
def pyOp : BinOp → Operator
  | .add => .Add | .sub => .Sub | .mul => .Mult | .fdiv => .FloorDiv | .mod => .Mod | .pow => .Pow | .shl => .LShift | .shr => .RShift | .band => .BitAnd | .bor => .BitOr
/-- the reading of an operator -/
def rBin (cA : CA) (lk : List Nat) (op : BinOp) : L2.R2 := fun x y H Q => ∃ ρ h w u E, RH cA ρ (· ∈ lk) h H ∧ RW ρ H w x ∧ RW ρ H u y ∧ Good cA lk RW (bin op w u h) ρ H Q E
theorem OpR.imp {f : Value → Value → Sem Value} {r r' : L2.R2} (k : L2.OpR Y f r) (h : ∀ x y H Q, r' x y H Q → r x y H Q) : L2.OpR Y f r' :=
  fun pins s σ H x y v u Q I rx ry q => k pins s σ H x y v u Q I rx ry (h _ _ _ _ q)
end
end MP

namespace MP
open PySem PySem.Spec PyProof.Rows
section
variable {cA : CA} {Y : L2.Cx} {lk : List Nat} {ρ : List Addr} {H : HH} {h : Hp} {E : L2.XK}
theorem RWs.nil_iff {ρ : List Addr} {H : HH} {xs : List W} {vs : List Vv} (r : RWs ρ H xs vs) : xs = [] ↔ vs = [] := by
  have := r.length
  constructor
  · rintro rfl; exact List.length_eq_zero_iff.mp this.symm
  · rintro rfl; exact List.length_eq_zero_iff.mp this
/-- text times a number -/
theorem mul_strI {s : Shared} {x : Str} {n : Int} {t u : Tok} {prog : Program} {w : World} {A : Around} {E : Value → Shared → Prop} {Q : Value → Shared → Prop} (hn : n.natAbs < 2 ^ 62) (hl : x.length * n.toNat ≤ 1000000)
    (h : ∀ tk tk', Q (.str (sv (List.replicate n.toNat x.cps.toList).flatten) tk) { s with toks := tk' }) : wpAny (model prog w) A (binaryOp .Mult (.str x t) (.int n u)) Q E s := by
  have e62 : ((2 ^ 62 : Nat) : Int) = 2 ^ 62 := by norm_cast
  have b := natAbs_lt.mp hn
  rw [e62] at b
  refine PySem.P.mul_str (by rw [decide_eq_false (by omega), decide_eq_false (by omega)]; rfl) (fun h1 _ => ?_) (fun h1 _ => ?_) ?_
  · have h2 : (0 : Int) < n := by omega
    have h3 : (x.length : Int) * n ≤ 1000000 := by
      have : ((x.length * n.toNat : Nat) : Int) ≤ ((1000000 : Nat) : Int) := Int.ofNat_le.mpr hl
      rw [Int.natCast_mul, Int.toNat_of_nonneg (by omega)] at this
      have e6 : ((1000000 : Nat) : Int) = 1000000 := rfl
      omega
    have h4 : (x.length : Int) ≤ (2 ^ 63 - 1) / n := by
      rw [Int.le_ediv_iff_mul_le h2]; omega
    omega
  · unfold Builtin.Str.tooLong
    rw [sizeLine_eq]
    exact decide_eq_false (by omega)
  · by_cases h1 : n < 1
    · rw [if_pos h1]
      have e : n.toNat = 0 := by omega
      have := h s.toks (s.toks + 1)
      rw [e] at this
      exact ⟨by decide, this⟩
    · rw [if_neg h1]
      by_cases h2 : (n == 1 || x.length == 0) = true
      · rw [if_pos h2]
        have e : sv (List.replicate n.toNat x.cps.toList).flatten = x := by
          apply TL.ext_tl
          show (List.replicate n.toNat x.cps.toList).flatten = x.cps.toList
          simp only [Bool.or_eq_true, beq_iff_eq] at h2
          rcases h2 with h2 | h2
          · subst h2; simp
          · have : x.cps.toList = [] := by
              apply List.length_eq_zero_iff.mp
              rw [Array.length_toList]; exact h2
            rw [this]; simp
        have := h t s.toks
        rw [e] at this
        exact this
      · rw [if_neg h2]
        have e : (⟨(List.replicate n.toNat x.cps).foldl (· ++ ·) #[]⟩ : Str) = sv (List.replicate n.toNat x.cps.toList).flatten := by
          apply TL.ext_tl
          show ((List.replicate n.toNat x.cps).foldl (· ++ ·) #[]).toList = (List.replicate n.toNat x.cps.toList).flatten
          have gen : ∀ (k : Nat) (a : Array Nat), ((List.replicate k x.cps).foldl (· ++ ·) a).toList = a.toList ++ (List.replicate k x.cps.toList).flatten := by
            intro k
            induction k with
            | zero => intro a; simp
            | succ k ih => intro a; rw [List.replicate_succ, List.foldl_cons, ih, List.replicate_succ, List.flatten_cons, Array.toList_append, List.append_assoc]
          rw [gen]; rfl
        rw [e]
        refine ⟨?_, h _ _⟩
        have el : (sv (List.replicate n.toNat x.cps.toList).flatten).length = n.toNat * x.length := by
          rw [sv_len, List.length_flatten, List.map_replicate, List.sum_replicate_nat, Array.length_toList]
          rfl
        rw [el, sizeLine_eq, Nat.mul_comm]
        omega
theorem lstR {pins : List (Addr × Obj)} {s : Shared} {σ : L2.St} {l : Addr} {xs : List Vv} (I : L2.Inv Y pins σ H s) (hH : L2.Rd H l (.lst xs)) : xs.length ≤ sizeLine ∧ ∃ (its : List Value) (n : Nat), L2.Vals xs its ∧ xs.length = its.length ∧ s.heap.get? l = some { cls := .type "list", data := .seq its.toArray n } := by
  obtain ⟨z, its, n, r, e⟩ := hH.ok I.hok
  exact ⟨z, its, n, r, r.length, e⟩
theorem op_catR : L2.OpR Y (binaryOp .Add) (fun x y H Q => ∃ l b xs zs, x = .ref l ∧ y = .ref b ∧ L2.Rd H l (.lst xs) ∧ L2.Rd H b (.lst zs) ∧ xs.length + zs.length ≤ sizeLine ∧ ∀ p, H p = none → Q (.ref p) (L2.upd H p (.lst (xs ++ zs)))) := by
  intro pins s σ H x y v u Q I rx ry h
  obtain ⟨l, b, xs, zs, rfl, rfl, hH, hB, hz, q⟩ := h
  cases rx
  cases ry
  obtain ⟨z, its, n, r, hl, e⟩ := lstR I hH
  obtain ⟨z2, its2, n2, r2, hl2, e2⟩ := lstR I hB
  refine PySem.P.add_list e e2 ?_ (by rw [List.size_toArray, List.size_toArray]; omega)
  have ea : its.toArray ++ its2.toArray = (its ++ its2).toArray := by simp
  rw [ea]
  exact ⟨.ref _, _, I.lnew (t' := s.toks) (r.append r2) (by rw [List.length_append]; omega), rfl, q _ I.fresh⟩
theorem bin_ok (op : BinOp) : L2.OpR Y (binaryOp (pyOp op)) (rBin cA lk op) := by
  intro pins s σ H x y v u Q I rx ry ⟨ρ, h, a, b, E, rh, ra, rb, g⟩
  unfold bin at g
  split at g
  · cases ra; cases rb
    exact L2.op_add pins s σ H _ _ v u Q I rx ry ⟨_, _, rfl, rfl, g.here rh rfl⟩
  · cases ra; cases rb
    exact L2.op_sub pins s σ H _ _ v u Q I rx ry ⟨_, _, rfl, rfl, g.here rh rfl⟩
  · cases ra; cases rb
    obtain ⟨e, g⟩ := g.guardR
    rcases mulOk_ok e with e | e
    · exact L2.op_mulW pins s σ H _ _ v u Q I rx ry ⟨_, _, rfl, rfl, e, g.here rh rfl⟩
    · exact L2.op_mul pins s σ H _ _ v u Q I rx ry ⟨_, _, rfl, rfl, e, g.here rh rfl⟩
  · cases ra; cases rb
    obtain ⟨e, g⟩ := g.guardR
    exact L2.op_fdivW pins s σ H _ _ v u Q I rx ry ⟨_, _, rfl, rfl, divOk_ok e, g.here rh rfl⟩
  · cases ra; cases rb
    obtain ⟨e, g⟩ := g.guardR
    exact L2.op_mod pins s σ H _ _ v u Q I rx ry ⟨_, _, rfl, rfl, of_decide_eq_true e, g.here rh rfl⟩
  · cases ra; cases rb
    obtain ⟨e, g⟩ := g.guardR
    exact L2.op_pow pins s σ H _ _ v u Q I rx ry ⟨_, _, rfl, rfl, powOk_ok e, g.here rh rfl⟩
  · cases ra; cases rb
    obtain ⟨e, g⟩ := g.guardR
    exact L2.op_shl pins s σ H _ _ v u Q I rx ry ⟨_, _, rfl, rfl, powOk_ok e, g.here rh rfl⟩
  · cases ra; cases rb
    obtain ⟨e, g⟩ := g.guardR
    exact L2.op_shr pins s σ H _ _ v u Q I rx ry ⟨_, _, rfl, rfl, of_decide_eq_true e, g.here rh rfl⟩
  · cases ra; cases rb
    obtain ⟨e, g⟩ := g.guardR
    simp only [Bool.and_eq_true, decide_eq_true_eq] at e
    exact L2.op_and pins s σ H _ _ v u Q I rx ry ⟨_, _, rfl, rfl, by
      show Q (.int (Builtin.bitAnd _ _)) H
      rw [bitAnd_pp e.1 e.2]; exact g.here rh rfl⟩
  · cases ra; cases rb
    obtain ⟨e, g⟩ := g.guardR
    simp only [Bool.and_eq_true, decide_eq_true_eq] at e
    exact L2.op_or pins s σ H _ _ v u Q I rx ry ⟨_, _, rfl, rfl, by
      show Q (.int (Builtin.bitOr _ _)) H
      rw [Bits.bitOr_pp e.1 e.2]; exact g.here rh rfl⟩
  · obtain ⟨_, rfl⟩ := ra
    obtain ⟨_, rfl⟩ := rb
    obtain ⟨e, g⟩ := g.guardR
    have el := of_decide_eq_true e
    have e := Nat.le_trans el line_le
    exact L2.op_add_str pins s σ H _ _ v u Q I rx ry ⟨_, _, rfl, rfl, e, by rw [sv_add]; exact g.here rh ⟨by rw [List.length_append]; exact el, rfl⟩⟩
  · obtain ⟨e, g⟩ := g.guardR
    obtain ⟨p, vs, rfl, hp, hr⟩ := ra
    obtain ⟨q, us, rfl, hq, hr'⟩ := rb
    have e := Nat.le_trans (of_decide_eq_true e) line_le
    have hrr := hr.append hr'
    refine L2.op_catA pins s σ H _ _ v u Q I rx ry ⟨p, q, vs, us, rfl, rfl, .of hp, .of hq, by rw [← hr.length, ← hr'.length]; exact e, fun z => ?_, fun _ z => ?_, fun _ _ => mk_tup g rh hrr⟩
    · subst z
      exact g.here rh ⟨q, us, rfl, hq, by simpa using hrr⟩
    · subst z
      exact g.here rh ⟨p, vs, rfl, hp, by simpa using hrr⟩
  · obtain ⟨_, rfl⟩ := ra
    cases rb
    obtain ⟨e, g⟩ := g.guardR
    simp only [Bool.and_eq_true, decide_eq_true_eq] at e
    obtain ⟨t, rfl⟩ := rx
    obtain ⟨t', rfl⟩ := ry
    refine mul_strI e.2 (Nat.le_trans e.1 (by decide)) fun tk tk' => ?_
    exact ⟨.str _, H, I.tok _, ⟨tk, rfl⟩, g.here rh ⟨by rw [List.length_flatten, List.map_replicate, List.sum_replicate_nat, Nat.mul_comm]; exact e.1, rfl⟩⟩
  · obtain ⟨p, rfl, hp⟩ := ra
    obtain ⟨q, rfl, hq⟩ := rb
    unfold addO at g
    split at g
    · rename_i xs ys e1 e2
      obtain ⟨e, g⟩ := g.guardR
      obtain ⟨p', hp', vs, hr, at1⟩ := rh.get e1
      obtain ⟨q', hq', us, hr', at2⟩ := rh.get e2
      rw [hp] at hp'; cases hp'
      rw [hq] at hq'; cases hq'
      have e := Nat.le_trans (of_decide_eq_true e) line_le
      exact op_catR pins s σ H _ _ v u Q I rx ry ⟨_, _, vs, us, rfl, rfl, at1.rd, at2.rd, by rw [← hr.length, ← hr'.length]; exact e, mk_lst g rh (hr.append hr')⟩
    · exact g.elim
  · exact g.elim
end
end MP

namespace MP
open PySem PySem.Spec PyProof.Rows
open PySem.SeqAt (EqIn EqAt RcAt RcNeAt)
/-! ### equality -/
/-- two of the machine's values answer b, in room n -/
def EqN (P : Program) (w : World) (s : Shared) (n : Nat) (v u : Value) (b : Bool) : Prop := ∀ A : Around, A.units + n < cLine → EqIn P w A s v u b
def CmpN (P : Program) (w : World) (s : Shared) (n : Nat) (v u : Value) (b : Bool) : Prop := ∀ (A : Around) (E Q : Value → Shared → Prop), A.units + n < cLine →
  (Q (.bool b) s → wpAny (model P w) A (compareOp .Eq v u) Q E s) ∧ (Q (.bool (!b)) s → wpAny (model P w) A (compareOp .NotEq v u) Q E s)
theorem eqs_pts {f : W → W → Option Bool} : ∀ {xs ys : List W} {b : Bool}, eqs f xs ys = some b → ∃ e : Nat → Bool, (∀ j x y, xs[j]? = some x → ys[j]? = some y → f x y = some (e j)) ∧ b = (List.range (min xs.length ys.length)).all e
  | [], ys, b, h => by
    refine ⟨fun _ => true, fun j x y hx _ => by simp at hx, ?_⟩
    simp [eqs] at h
    simp [h]
  | x :: xs, [], b, h => by
    refine ⟨fun _ => true, fun j x y _ hy => by simp at hy, ?_⟩
    simp [eqs] at h
    simp [h]
  | x :: xs, y :: ys, b, h => by
    unfold eqs at h
    cases hf : f x y with
    | none => rw [hf] at h; simp at h
    | some a =>
      rw [hf] at h
      cases hr : eqs f xs ys with
      | none => rw [hr] at h; simp at h
      | some c =>
        rw [hr] at h
        simp at h
        obtain ⟨e, he, hc⟩ := eqs_pts hr
        refine ⟨fun j => match j with | 0 => a | j + 1 => e j, fun j x' y' hx hy => ?_, ?_⟩
        · cases j with
          | zero => simp at hx hy; subst hx hy; exact hf
          | succ j => exact he j x' y' (by simpa using hx) (by simpa using hy)
        · rw [← h, hc]
          have : min (x :: xs).length (y :: ys).length = min xs.length ys.length + 1 := by simp only [List.length_cons]; omega
          rw [this, List.range_succ_eq_map, List.all_cons, List.all_map]
          rfl
section
variable {cA : CA} {Y : L2.Cx} {L : Nat → Prop} {ρ : List Addr} {H : HH} {h : Hp} {pins : List (Addr × Obj)} {s : Shared} {σ : L2.St}
theorem sv_beq {a b : List Nat} : (sv a == sv b) = (a == b) := by
  rw [Bool.eq_iff_iff, beq_iff_eq, beq_iff_eq, sv_inj]
theorem tupIs {hp : Heap} {a : Addr} {its : Array Value} (t : IsTup hp a its) : hp.IsTuple a its := t
theorem tri {v u : Value} {P : Program} {w : World} (b : Bool) (h1 : ∀ A : Around, A.units < cLine → EqAt A s v u b) (h2 : ∀ A : Around, A.units < cLine → RcAt A s v u b) (h3 : ∀ A : Around, A.units < cLine → RcNeAt A s v u (!b)) : EqN P w s 0 v u b ∧ CmpN P w s 0 v u b :=
  ⟨fun A hA => (h1 A hA).inModel P w, fun A E Q hA => ⟨fun q => h2 A hA P w E Q q, fun q => h3 A hA P w E Q q⟩⟩
theorem eqS_run (I : L2.Inv Y pins σ H s) {x y : W} {b : Bool} {vx vy : Vv} {v u : Value} (h : eqS x y = some b) (rx : RW ρ H x vx) (ry : RW ρ H y vy) (qx : L2.RelV vx v) (qy : L2.RelV vy u) (P : Program) (w : World) :
    EqN P w s 0 v u b ∧ CmpN P w s 0 v u b := by
  cases x with
  | non =>
    cases y with
    | non => cases rx; cases qx; cases ry; cases qy; cases h; exact tri _ (fun _ _ => .same _) (fun _ _ => .none_none) (fun _ _ => .none_none)
    | bl j => cases rx; cases qx; cases ry; cases qy; cases h; exact tri _ (fun A hA => .none_bool j) (fun A hA => .none_bool j) (fun A hA => .none_bool j)
    | int j => cases rx; cases qx; cases ry; obtain ⟨t2, rfl⟩ := qy; cases h; exact tri _ (fun A hA => .none_int j t2) (fun A hA => .none_int j t2) (fun A hA => .none_int j t2)
    | str j => cases rx; cases qx; obtain ⟨_, rfl⟩ := ry; obtain ⟨t2, rfl⟩ := qy; cases h; exact tri _ (fun A hA => .none_str _ t2) (fun A hA => .none_str _ t2) (fun A hA => .none_str _ t2)
    | tup j => cases rx; cases qx; obtain ⟨a2, vs2, rfl, hp2, _⟩ := ry; cases qy; obtain ⟨its2, _, p2, _⟩ := I.tuple (.of hp2); have p2 := tupIs p2; cases h; exact tri _ (fun A hA => .none_tuple p2 hA) (fun A hA => .none_tuple p2 hA) (fun A hA => .none_tuple p2 hA)
    | ref j => simp [eqS] at h
  | bl i =>
    cases y with
    | non => cases rx; cases qx; cases ry; cases qy; cases h; exact tri _ (fun A hA => .bool_none i) (fun A hA => .bool_none i) (fun A hA => .bool_none i)
    | bl j => cases rx; cases qx; cases ry; cases qy; cases h; exact tri _ (fun A hA => .bool_bool i j) (fun A hA => .bool_bool i j) (fun A hA => .bool_bool i j)
    | int j => cases rx; cases qx; cases ry; obtain ⟨t2, rfl⟩ := qy; cases h; exact tri _ (fun A hA => .bool_int i j t2) (fun A hA => .bool_int i j t2) (fun A hA => .bool_int i j t2)
    | str j => cases rx; cases qx; obtain ⟨_, rfl⟩ := ry; obtain ⟨t2, rfl⟩ := qy; cases h; exact tri _ (fun A hA => .bool_str i _ t2) (fun A hA => .bool_str i _ t2) (fun A hA => .bool_str i _ t2)
    | tup j => cases rx; cases qx; obtain ⟨a2, vs2, rfl, hp2, _⟩ := ry; cases qy; obtain ⟨its2, _, p2, _⟩ := I.tuple (.of hp2); have p2 := tupIs p2; cases h; exact tri _ (fun A hA => .bool_tuple i p2 hA) (fun A hA => .bool_tuple i p2 hA) (fun A hA => .bool_tuple i p2 hA)
    | ref j => simp [eqS] at h
  | int i =>
    cases y with
    | non => cases rx; obtain ⟨t1, rfl⟩ := qx; cases ry; cases qy; cases h; exact tri _ (fun A hA => .int_none i t1) (fun A hA => .int_none i t1) (fun A hA => .int_none i t1)
    | bl j => cases rx; obtain ⟨t1, rfl⟩ := qx; cases ry; cases qy; cases h; exact tri _ (fun A hA => .int_bool i t1 j) (fun A hA => .int_bool i t1 j) (fun A hA => .int_bool i t1 j)
    | int j => cases rx; obtain ⟨t1, rfl⟩ := qx; cases ry; obtain ⟨t2, rfl⟩ := qy; cases h; exact tri _ (fun A hA => .int_int i t1 j t2) (fun A hA => .int_int i t1 j t2) (fun A hA => .int_int i t1 j t2)
    | str j => cases rx; obtain ⟨t1, rfl⟩ := qx; obtain ⟨_, rfl⟩ := ry; obtain ⟨t2, rfl⟩ := qy; cases h; exact tri _ (fun A hA => .int_str i t1 _ t2) (fun A hA => .int_str i t1 _ t2) (fun A hA => .int_str i t1 _ t2)
    | tup j => cases rx; obtain ⟨t1, rfl⟩ := qx; obtain ⟨a2, vs2, rfl, hp2, _⟩ := ry; cases qy; obtain ⟨its2, _, p2, _⟩ := I.tuple (.of hp2); have p2 := tupIs p2; cases h; exact tri _ (fun A hA => .int_tuple i t1 p2 hA) (fun A hA => .int_tuple i t1 p2 hA) (fun A hA => .int_tuple i t1 p2 hA)
    | ref j => simp [eqS] at h
  | str i =>
    cases y with
    | non => obtain ⟨_, rfl⟩ := rx; obtain ⟨t1, rfl⟩ := qx; cases ry; cases qy; cases h; exact tri _ (fun A hA => .str_none _ t1) (fun A hA => .str_none _ t1) (fun A hA => .str_none _ t1)
    | bl j => obtain ⟨_, rfl⟩ := rx; obtain ⟨t1, rfl⟩ := qx; cases ry; cases qy; cases h; exact tri _ (fun A hA => .str_bool _ t1 j) (fun A hA => .str_bool _ t1 j) (fun A hA => .str_bool _ t1 j)
    | int j => obtain ⟨_, rfl⟩ := rx; obtain ⟨t1, rfl⟩ := qx; cases ry; obtain ⟨t2, rfl⟩ := qy; cases h; exact tri _ (fun A hA => .str_int _ t1 j t2) (fun A hA => .str_int _ t1 j t2) (fun A hA => .str_int _ t1 j t2)
    | str j => obtain ⟨_, rfl⟩ := rx; obtain ⟨t1, rfl⟩ := qx; obtain ⟨_, rfl⟩ := ry; obtain ⟨t2, rfl⟩ := qy; cases h; rw [← sv_beq]; exact tri _ (fun A hA => .str_str _ t1 _ t2) (fun A hA => .str_str _ t1 _ t2) (fun A hA => .str_str _ t1 _ t2)
    | tup j => obtain ⟨_, rfl⟩ := rx; obtain ⟨t1, rfl⟩ := qx; obtain ⟨a2, vs2, rfl, hp2, _⟩ := ry; cases qy; obtain ⟨its2, _, p2, _⟩ := I.tuple (.of hp2); have p2 := tupIs p2; cases h; exact tri _ (fun A hA => .str_tuple _ t1 p2 hA) (fun A hA => .str_tuple _ t1 p2 hA) (fun A hA => .str_tuple _ t1 p2 hA)
    | ref j => simp [eqS] at h
  | tup i =>
    cases y with
    | non => obtain ⟨a1, vs1, rfl, hp1, _⟩ := rx; cases qx; obtain ⟨its1, _, p1, _⟩ := I.tuple (.of hp1); have p1 := tupIs p1; cases ry; cases qy; cases h; exact tri _ (fun A hA => .tuple_none p1 hA) (fun A hA => .tuple_none p1 hA) (fun A hA => .tuple_none p1 hA)
    | bl j => obtain ⟨a1, vs1, rfl, hp1, _⟩ := rx; cases qx; obtain ⟨its1, _, p1, _⟩ := I.tuple (.of hp1); have p1 := tupIs p1; cases ry; cases qy; cases h; exact tri _ (fun A hA => .tuple_bool j p1 hA) (fun A hA => .tuple_bool j p1 hA) (fun A hA => .tuple_bool j p1 hA)
    | int j => obtain ⟨a1, vs1, rfl, hp1, _⟩ := rx; cases qx; obtain ⟨its1, _, p1, _⟩ := I.tuple (.of hp1); have p1 := tupIs p1; cases ry; obtain ⟨t2, rfl⟩ := qy; cases h; exact tri _ (fun A hA => .tuple_int j t2 p1 hA) (fun A hA => .tuple_int j t2 p1 hA) (fun A hA => .tuple_int j t2 p1 hA)
    | str j => obtain ⟨a1, vs1, rfl, hp1, _⟩ := rx; cases qx; obtain ⟨its1, _, p1, _⟩ := I.tuple (.of hp1); have p1 := tupIs p1; obtain ⟨_, rfl⟩ := ry; obtain ⟨t2, rfl⟩ := qy; cases h; exact tri _ (fun A hA => .tuple_str _ t2 p1 hA) (fun A hA => .tuple_str _ t2 p1 hA) (fun A hA => .tuple_str _ t2 p1 hA)
    | tup j => simp [eqS] at h
    | ref j => simp [eqS] at h
  | ref i =>
    cases y with
    | non => simp [eqS] at h
    | bl j => simp [eqS] at h
    | int j => simp [eqS] at h
    | str j => simp [eqS] at h
    | tup j => simp [eqS] at h
    | ref j => simp [eqS] at h
end
end MP

namespace MP
open PySem PySem.Spec PyProof.Rows
open PySem.SeqAt (EqIn EqAt RcAt RcNeAt)
/-! ### unequal: lists, tuples, dicts whose items are compared in this program -/
section
open AutoSeq1 (wpAny_loadPart')
open MeetsSeq MeetsSeq2 MeetsSeq3 SeqRoads2 PySem.SeqAt
variable {prog : Program} {w : World}
theorem neLoop (l b : Addr) (xs ys : Array Value) (n m : Nat) (dx dy : Option Addr) (sx sy : Array (Option Value)) (same : xs.size = ys.size) (e : Nat → Bool) (k : Nat) :
    ∀ i : Nat, xs.size - i = k → MeetsIn prog w (Builtin.«list.__eq__.loop» ⟨[.ref l, .ref b, rawInt i, rawInt 3], []⟩)
      (fun A R s => s.heap.get? l = some { cls := .type "list", dict := dx, data := .seq xs n, slots := sx } ∧ s.heap.get? b = some { cls := .type "list", dict := dy, data := .seq ys m, slots := sy } ∧
        (∀ j (h1 : j < xs.size) (h2 : j < ys.size), EqIn prog w A.in1 s xs[j] ys[j] (e j)) ∧ R (.ok (.ret (.bool (!((List.range xs.size).drop i).all e)))) s) := by
  induction k with
  | zero =>
    intro i hk A R s q
    obtain ⟨hp, g, d, tk, os⟩ := s; obtain ⟨gl, gb, _, q⟩ := q
    wp_walk using wpAny_loadPart' gl, wpAny_loadPart' gb
    have c1 : xs[((i : Nat) : Int).toNat]? = none := by simp; omega
    have c2 : ys[((i : Nat) : Int).toNat]? = none := by simp; omega
    have c3 : (List.range xs.size).drop i = [] := by simp; omega
    rw [c3] at q
    rw [c1, c2]
    wp_walk using wpAny_loadPart' gl, wpAny_loadPart' gb
    show R (.ok (.ret (.bool (xs.size != ys.size)))) _
    rw [same]
    simpa using q
  | succ k ih =>
    intro i hk A R s q
    obtain ⟨hp, g, d, tk, os⟩ := s; obtain ⟨gl, gb, it, q⟩ := q
    wp_walk using wpAny_loadPart' gl, wpAny_loadPart' gb
    have b1 : i < xs.size := by omega
    have b2 : i < ys.size := by omega
    have c1 : xs[((i : Nat) : Int).toNat]? = some xs[i] := by simp [b1]
    have c2 : ys[((i : Nat) : Int).toNat]? = some ys[i] := by simp [b2]
    have c3 : (List.range xs.size).drop i = i :: (List.range xs.size).drop (i + 1) := by simp [List.drop_eq_getElem_cons, b1]
    have c4 : ((i : Int) + 1) = ((i + 1 : Nat) : Int) := by push_cast; rfl
    rw [c3, List.all_cons] at q
    rw [c1, c2]
    refine wpAny_bind (it i b1 b2 _ _ ?_)
    cases q2 : e i with
    | true =>
      rw [q2] at q
      wp_walk
      rw [c4]
      exact ⟨plainId_quiet plain_eq_loop _, codeAny_builtin entry_eq_loop (by rw [Around.under_plainId plain_eq_loop _]; exact ih (i + 1) (by omega) A R _ ⟨gl, gb, it, by simpa using q⟩)⟩
    | false =>
      rw [q2] at q
      wp_walk using wpAny_loadPart' gl, wpAny_loadPart' gb
      rw [c1, c2]
      wp_walk
      simpa using q
theorem neList (l b : Addr) (xs ys : Array Value) (n m : Nat) (dx dy : Option Addr) (sx sy : Array (Option Value)) (same : xs.size = ys.size) (e : Nat → Bool) :
    MeetsIn prog w (Builtin.«list.__ne__» ⟨[.ref l, .ref b], []⟩)
      (fun A R s => s.heap.get? l = some { cls := .type "list", dict := dx, data := .seq xs n, slots := sx } ∧ s.heap.get? b = some { cls := .type "list", dict := dy, data := .seq ys m, slots := sy } ∧
        (∀ j (h1 : j < xs.size) (h2 : j < ys.size), EqIn prog w A.in1 s xs[j] ys[j] (e j)) ∧ R (.ok (.ret (.bool (!(List.range xs.size).all e)))) s) := by
  intro A R s q
  obtain ⟨hp, g, d, tk, os⟩ := s; obtain ⟨gl, gb, it, q⟩ := q
  have z1 := AutoSeq1.sub_list_list
  have z2 : ¬ (xs.size != ys.size) = true := by simp [same]
  wp_walk using wpAny_loadPart' gl, wpAny_loadPart' gb
  exact ⟨plainId_quiet plain_eq_loop _, codeAny_builtin entry_eq_loop (by rw [Around.under_plainId plain_eq_loop _]; exact neLoop l b xs ys n m dx dy sx sy same e _ 0 rfl A R _ ⟨gl, gb, it, by simpa using q⟩)⟩
theorem neTup (l b : Addr) (xs ys : Array Value) (n m : Nat) (dx dy : Option Addr) (sx sy : Array (Option Value)) (e : Nat → Bool) :
    MeetsIn prog w (Builtin.«tuple.__ne__» ⟨[.ref l, .ref b], []⟩)
      (fun A R s => s.heap.get? l = some { cls := .type "tuple", dict := dx, data := .seq xs n, slots := sx } ∧ s.heap.get? b = some { cls := .type "tuple", dict := dy, data := .seq ys m, slots := sy } ∧
        (∀ j (h1 : j < xs.size) (h2 : j < ys.size), EqIn prog w A.in1 s xs[j] ys[j] (e j)) ∧ R (.ok (.ret (.bool (!((List.range (min xs.size ys.size)).all e && xs.size == ys.size))))) s) :=
  .of_wp fun A R s q => by
    obtain ⟨hp, g, d, tk, os⟩ := s; obtain ⟨gl, gb, it, q⟩ := q
    have z1 := AutoSeq1.sub_tuple_tuple
    generalize hN : min xs.size ys.size = N at q
    have zl : (xs.toList.zip ys.toList).length = N := by simp [hN]
    wp_walk using wpAny_loadPart' gl, wpAny_loadPart' gb, wpAny_forIn_list _ (fun more b s' => b.1 = none ∧ s' = ⟨hp, g, d, tk, os⟩ ∧ ∃ i, more = (xs.toList.zip ys.toList).drop i ∧
      R (.ok (.ret (.bool (!(((List.range N).drop i).all e && xs.size == ys.size))))) ⟨hp, g, d, tk, os⟩) _
    case turn =>
      rintro ⟨y, x⟩ more b s' ⟨_, rfl, i, hz, hR⟩
      have b0 : i < (xs.toList.zip ys.toList).length := Nat.lt_of_not_le fun h' => by rw [List.drop_of_length_le h'] at hz; cases hz
      have bm : i < N := zl ▸ b0
      have b1 : i < xs.size := by omega
      have b2 : i < ys.size := by omega
      rw [List.drop_eq_getElem_cons b0] at hz
      injection hz with hyx hmore
      obtain rfl : y = xs[i] := by have := congrArg Prod.fst hyx; simpa using this
      obtain rfl : x = ys[i] := by have := congrArg Prod.snd hyx; simpa using this
      rw [show (List.range N).drop i = i :: (List.range N).drop (i + 1) by simp [List.drop_eq_getElem_cons, bm], List.all_cons] at hR
      refine wpAny_bind (it i b1 b2 _ _ ?_)
      cases q2 : e i with
      | true =>
        rw [q2] at hR
        wp_walk
        exact ⟨rfl, rfl, i + 1, hmore, by simpa using hR⟩
      | false =>
        rw [q2] at hR
        wp_walk
        exact ⟨_, rfl, by simpa using hR⟩
    case fin =>
      rintro ⟨b1, b2⟩ s' ⟨hb', rfl, i, hz, hR⟩
      obtain rfl : b1 = none := hb'
      have hge : N ≤ i := Nat.le_of_not_lt fun h' => by rw [List.drop_eq_getElem_cons (zl.symm ▸ h')] at hz; cases hz
      rw [List.drop_of_length_le (by simpa using hge)] at hR
      wp_walk
      exact ⟨_, rfl, by simpa [Builtin.Tuple.tupleCompareSizes, bne] using hR⟩
    case h => exact ⟨rfl, rfl, 0, rfl, by simpa using q⟩
variable {A : Around} {s : Shared} {E Q : Value → Shared → Prop}
theorem ne_lists {l b : Addr} {xs ys : Array Value} {e : Nat → Bool} (hl : s.heap.IsList l xs) (hb : s.heap.IsList b ys) (same : xs.size = ys.size) (hu : A.units < cLine)
    (it : ∀ j (h1 : j < xs.size) (h2 : j < ys.size), EqIn prog w A.in1 s xs[j] ys[j] (e j)) (q : Q (.bool (!(List.range xs.size).all e)) s) : wpAny (model prog w) A (compareOp .NotEq (.ref l) (.ref b)) Q E s := by
  obtain ⟨⟨c1, dx, d1, sx⟩, g1, r1, n, t1⟩ := id hl
  obtain ⟨⟨c2, dy, d2, sy⟩, g2, r2, m, t2⟩ := id hb
  simp only at r1 t1 r2 t2
  subst r1 t1 r2 t2
  have ty1 : s.TypeIs (.ref l) "list" := ⟨_, g1, rfl⟩
  have ty2 : s.TypeIs (.ref b) "list" := ⟨_, g2, rfl⟩
  refine wpAny_richCompare_same_room (op := .NotEq) ty1 ty2 F.slot_list_ne (call_meetsIn F.slot_list_ne ty1 F.entry_list_ne (F.args_list_ne_2 _ _) (neList l b xs ys n m dx dy sx sy same e) ⟨g1, g2, it, ?_⟩) hu
  exact ⟨(fun x => nomatch x), q⟩
theorem ne_tups {l b : Addr} {xs ys : Array Value} {e : Nat → Bool} (hl : s.heap.IsTuple l xs) (hb : s.heap.IsTuple b ys) (hu : A.units < cLine)
    (it : ∀ j (h1 : j < xs.size) (h2 : j < ys.size), EqIn prog w A.in1 s xs[j] ys[j] (e j)) (q : Q (.bool (!((List.range (min xs.size ys.size)).all e && xs.size == ys.size))) s) : wpAny (model prog w) A (compareOp .NotEq (.ref l) (.ref b)) Q E s := by
  obtain ⟨⟨c1, dx, d1, sx⟩, g1, r1, n, t1⟩ := id hl
  obtain ⟨⟨c2, dy, d2, sy⟩, g2, r2, m, t2⟩ := id hb
  simp only at r1 t1 r2 t2
  subst r1 t1 r2 t2
  have ty1 : s.TypeIs (.ref l) "tuple" := ⟨_, g1, rfl⟩
  have ty2 : s.TypeIs (.ref b) "tuple" := ⟨_, g2, rfl⟩
  refine wpAny_richCompare_same_room (op := .NotEq) ty1 ty2 F.slot_tuple_ne (call_meetsIn F.slot_tuple_ne ty1 F.entry_tuple_ne (F.args_tuple_ne_2 _ _) (neTup l b xs ys n m dx dy sx sy e) ⟨g1, g2, it, ?_⟩) hu
  exact ⟨(fun x => nomatch x), q⟩
theorem ne_dicts {K : Type} [DecidableEq K] {knd : KeyKind prog w K} {a b : Addr} {ka kb : List (K × Value)} {r : Bool} (ha : (a == sysModules) = false) (hb : (b == sysModules) = false)
    (da : s.heap.DictOf knd a ka) (db : s.heap.DictOf knd b kb) (hu : A.units < cLine) (hits : ka.length = kb.length → PySem.W.KeqHitsIn prog w A.in1 s kb ka r) (q : Q (.bool (!(ka.length == kb.length && r))) s) :
    wpAny (model prog w) A (compareOp .NotEq (.ref a) (.ref b)) Q E s := by
  refine wpAny_richCompare_same_room (op := .NotEq) da.typeIs db.typeIs F.slot_dict_ne (wpAny_call_entry F.slot_dict_ne da.typeIs F.entry_dict_ne ?_ (F.args_dict_ne_2 _ _)) hu
  show wpAny _ _ (Builtin.Dict.dictSlotArgs "__ne__" ⟨[.ref a, .ref b], []⟩ >>= _) _ _ s
  refine wpAny_bind ?_
  unfold Builtin.Dict.dictSlotArgs
  refine wpAny_bind (wpAny_notOrdered_dict da.typeIs ?_)
  show wpAny _ _ (pure (Value.ref a, Value.ref b)) _ _ s
  refine wpAny_pure ?_
  refine wpAny_bind (wpAny_isInstance (T := "dict") db.typeIs F.sub_dict_dict ?_)
  simp only [Bool.not_true, Bool.false_eq_true, if_false]
  refine wpAny_bind (wpAny_pure (wpAny_bind (wpAny_pure ?_)))
  refine wpAny_bind (PySem.W.keq_samePairsIn ha hb da db hits ?_)
  exact wpAny_pure ⟨_, rfl, (fun x => nomatch x), by simpa using q⟩
end
end MP

namespace MP
open PySem PySem.Spec PyProof.Rows
open PySem.SeqAt (EqIn EqAt RcAt RcNeAt)
theorem RWs.at2 {ρ : List Addr} {H : HH} : ∀ {xs : List W} {vs : List Vv} {us : List Value}, RWs ρ H xs vs → L2.Vals vs us → ∀ {j : Nat} (hj : j < us.length), ∃ x v, xs[j]? = some x ∧ RW ρ H x v ∧ L2.RelV v us[j]
  | [], _, _, r, q, j, hj => by cases r; cases q; simp at hj
  | x :: xs, _, _, r, q, j, hj => by
    obtain ⟨v, t, rfl, r1, r2⟩ := r
    cases q with
    | cons q1 q2 =>
      cases j with
      | zero => exact ⟨x, v, rfl, r1, q1⟩
      | succ j =>
        obtain ⟨x', v', e, r3, q3⟩ := RWs.at2 r2 q2 (j := j) (by simpa using hj)
        exact ⟨x', v', by simpa using e, r3, by simpa using q3⟩
theorem flat_str {x : List Nat} {k : KEY} (e : flatK (.str x) = some k) : x.length ≤ LINE ∧ k = .inr (sv x) := by
  have e : (if x.length ≤ LINE then some (Sum.inr (sv x)) else none : Option KEY) = some k := e
  split at e
  · rename_i h; cases e; exact ⟨h, rfl⟩
  · cases e
/-- keys that are equal -/
theorem flat_keq {a b : W} {i j : KEY} (e1 : flatK a = some i) (e2 : flatK b = some j) : keq a b = decide (i = j) := by
  have str : ∀ {x : List Nat} {k : KEY}, flatK (.str x) = some k → k = .inr (sv x) := fun e => (flat_str e).2
  cases a with
  | int x =>
    cases e1
    cases b with
    | int y => cases e2; rw [Bool.eq_iff_iff]; simp
    | str y => cases str e2; simp
    | _ => cases e2
  | str x =>
    cases str e1
    cases b with
    | int y => cases e2; simp
    | str y => cases str e2; rw [Bool.eq_iff_iff]; simp [sv_inj]
    | _ => cases e2
  | _ => cases e1
theorem flats_keqs : ∀ {xs ys : List W} {is js : List KEY}, flatKs xs = some is → flatKs ys = some js → keqs xs ys = decide (is = js)
  | [], [], _, _, e1, e2 => by cases e1; cases e2; simp
  | [], y :: ys, _, js, e1, e2 => by
    cases e1
    simp only [flatKs] at e2
    cases h1 : flatK y with
    | none => rw [h1] at e2; cases e2
    | some k =>
      rw [h1] at e2
      cases h2 : flatKs ys with
      | none => rw [h2] at e2; cases e2
      | some t => rw [h2] at e2; cases e2; simp
  | x :: xs, [], is, _, e1, e2 => by
    cases e2
    simp only [flatKs] at e1
    cases h1 : flatK x with
    | none => rw [h1] at e1; cases e1
    | some k =>
      rw [h1] at e1
      cases h2 : flatKs xs with
      | none => rw [h2] at e1; cases e1
      | some t => rw [h2] at e1; cases e1; simp
  | x :: xs, y :: ys, is, js, e1, e2 => by
    simp only [flatKs] at e1 e2
    cases h1 : flatK x with
    | none => rw [h1] at e1; cases e1
    | some k =>
      rw [h1] at e1
      cases h2 : flatKs xs with
      | none => rw [h2] at e1; cases e1
      | some t =>
        rw [h2] at e1; cases e1
        cases h3 : flatK y with
        | none => rw [h3] at e2; cases e2
        | some k' =>
          rw [h3] at e2
          cases h4 : flatKs ys with
          | none => rw [h4] at e2; cases e2
          | some t' =>
            rw [h4] at e2; cases e2
            simp only [keqs, flat_keq h1 h3, flats_keqs h2 h4, List.cons.injEq]
            rw [Bool.eq_iff_iff]; simp
theorem tup_keq {a b : W} {i j : List KEY} (e1 : tupK a = some i) (e2 : tupK b = some j) : keq a b = decide (i = j) := by
  cases a with
  | tup xs =>
    cases b with
    | tup ys => exact (by simp only [keq]; exact flats_keqs e1 e2)
    | _ => cases e2
  | _ => cases e1
section
variable {κ : Type} [DecidableEq κ] {f : W → Option κ} {ρ : List Addr} {H : HH}
/-- what a dict holds for a key -/
theorem RPs.val (hf : ∀ {a b i j}, f a = some i → f b = some j → keq a b = decide (i = j)) {k : W} {κ0 : κ} (ek : f k = some κ0) : ∀ {ps : List (W × W)} {qs : List (κ × Vv)}, RPs f ρ H ps qs →
    (∀ w, dget k ps = some w → ∃ v, L2.valV qs κ0 = some v ∧ RW ρ H w v) ∧ (dget k ps = none → L2.valV qs κ0 = none) := by
  intro ps qs r
  unfold RPs at r
  induction r with
  | nil => exact ⟨fun w e => (by cases e), fun _ => rfl⟩
  | @cons p q ps qs r1 r2 ih =>
    obtain ⟨k', u⟩ := p
    have e := hf r1.1 ek
    unfold dget
    rw [e]
    by_cases hk : q.1 = κ0
    · rw [if_pos (by simpa using hk), L2.valV_pos hk]
      exact ⟨fun w e => by cases e; exact ⟨_, rfl, r1.2⟩, fun e => by cases e⟩
    · rw [if_neg (by simpa using hk), L2.valV_neg hk]
      exact ih
end
mutual
theorem eqW_refl {h : Hp} : ∀ (n : Nat) (x : W) (b : Bool), eqW n h x x = some b → b = true
  | 0, x, b, e => by
    have e : eqS x x = some b := by cases x <;> exact e
    cases x <;> simp [eqS] at e <;> simp [← e]
  | n + 1, .tup xs, b, e => by
    unfold eqW at e
    cases hr : eqs (eqW n h) xs xs with
    | none => rw [hr] at e; cases e
    | some c => rw [hr] at e; cases e; rw [eqs_refl n xs c hr]; simp
  | n + 1, .ref a, b, e => by
    unfold eqW at e
    split at e
    · cases e; rfl
    · rename_i hn
      have : rd h a = none := by
        unfold rd
        rw [List.getElem?_eq_none]
        simp at hn; exact hn
      rw [this] at e
      cases e
  | n + 1, .non, b, e => by cases e; rfl
  | n + 1, .bl _, b, e => by simp [eqW, eqS] at e; simp [← e]
  | n + 1, .int _, b, e => by simp [eqW, eqS] at e; simp [← e]
  | n + 1, .str _, b, e => by simp [eqW, eqS] at e; simp [← e]
theorem eqs_refl {h : Hp} : ∀ (n : Nat) (xs : List W) (b : Bool), eqs (eqW n h) xs xs = some b → b = true
  | n, [], b, e => by cases e; rfl
  | n, x :: xs, b, e => by
    unfold eqs at e
    cases hf : eqW n h x x with
    | none => rw [hf] at e; cases e
    | some a =>
      cases hr : eqs (eqW n h) xs xs with
      | none => rw [hf, hr] at e; cases e
      | some c => rw [hf, hr] at e; cases e; rw [eqW_refl n x a hf, eqs_refl n xs c hr]; rfl
end
section
variable {cA : CA} {L : Nat → Prop} {ρ : List Addr} {H : HH} {h : Hp}
theorem RH.no_tup (rh : RH cA ρ L h H) {n : Nat} {a : Addr} {vs : List Vv} (e : ρ[n]? = some a) (z : H a = some (.tup vs)) : False := by
  have hl : n < h.length := by rw [← rh.len]; exact ix_lt e
  have := rh.at_ n h[n] a (List.getElem?_eq_getElem hl) e
  have at2 : ∀ {P : Prop} {u : HO}, At H P a u → (∀ vs, u ≠ .tup vs) → False := fun q nt => by
    rcases q with q | ⟨_, _, q⟩
    · rw [z] at q; cases q; exact nt _ rfl
    · rw [z] at q; cases q
  cases ho : h[n] with
  | lst xs => rw [ho] at this; obtain ⟨_, _, q⟩ := this; exact at2 q fun _ => HO_lst
  | dct xs =>
    rw [ho] at this
    rcases this with ⟨_, _, _, q⟩ | ⟨_, _, _, q⟩
    · exact at2 q fun _ e => by cases e
    · exact at2 q fun _ e => by cases e
  | ins c fs => rw [ho] at this; obtain ⟨_, _, _, q, _⟩ := this; rw [z] at q; cases q
where
  HO_lst {xs vs : List Vv} : L2.HO.lst xs ≠ .tup vs := fun e => by cases e
mutual
theorem RW.inj (rh : RH cA ρ L h H) : ∀ {x y : W} {v : Vv}, RW ρ H x v → RW ρ H y v → x = y
  | .non, y, _, r1, r2 => by cases r1; cases y <;> first | rfl | (obtain ⟨_, e⟩ := r2; cases e; done) | (obtain ⟨_, _, e, _⟩ := r2; cases e; done) | (obtain ⟨_, e, _⟩ := r2; cases e; done) | (cases r2; done)
  | .bl b, y, _, r1, r2 => by cases r1; cases y <;> first | (obtain ⟨_, _, e, _⟩ := r2; cases e; done) | (obtain ⟨_, e, _⟩ := r2; cases e; done) | (cases r2; rfl) | (obtain ⟨_, e⟩ := r2; cases e; done) | (cases r2; done)
  | .int b, y, _, r1, r2 => by cases r1; cases y <;> first | (obtain ⟨_, _, e, _⟩ := r2; cases e; done) | (obtain ⟨_, e, _⟩ := r2; cases e; done) | (cases r2; rfl) | (obtain ⟨_, e⟩ := r2; cases e; done) | (cases r2; done)
  | .str b, y, _, r1, r2 => by obtain ⟨_, rfl⟩ := r1; cases y <;> first | (obtain ⟨_, _, e, _⟩ := r2; cases e; done) | (obtain ⟨_, e, _⟩ := r2; cases e; done) | (obtain ⟨_, r2⟩ := r2; injection r2 with e; rw [sv_inj] at e; rw [e]; done) | (cases r2; done)
  | .tup xs, y, _, r1, r2 => by
    obtain ⟨a, vs, rfl, hv, r1⟩ := r1
    cases y with
    | tup ys =>
      obtain ⟨b, us, e, hu, r2⟩ := r2
      cases e
      rw [hv] at hu
      cases hu
      rw [RWs.inj rh r1 r2]
    | ref n =>
      obtain ⟨b, e, hb⟩ := r2
      cases e
      exact (rh.no_tup hb hv).elim
    | str _ => cases r2.2
    | _ => cases r2
  | .ref n, y, _, r1, r2 => by
    obtain ⟨a, rfl, ha⟩ := r1
    cases y with
    | tup ys =>
      obtain ⟨b, us, e, hu, r2⟩ := r2
      cases e
      exact (rh.no_tup ha hu).elim
    | ref m =>
      obtain ⟨b, e, hb⟩ := r2
      cases e
      have := (List.getElem?_inj (ix_lt ha) rh.nd).mp (ha.trans hb.symm)
      rw [this]
    | str _ => cases r2.2
    | _ => cases r2
theorem RWs.inj (rh : RH cA ρ L h H) : ∀ {xs ys : List W} {vs : List Vv}, RWs ρ H xs vs → RWs ρ H ys vs → xs = ys
  | [], [], _, _, _ => rfl
  | [], _ :: _, _, r1, r2 => by cases r1; obtain ⟨_, _, e, _⟩ := r2; cases e
  | _ :: _, [], _, r1, r2 => by cases r2; obtain ⟨_, _, e, _⟩ := r1; cases e
  | x :: xs, y :: ys, _, r1, r2 => by
    obtain ⟨v, t, rfl, p1, p2⟩ := r1
    obtain ⟨v', t', e, q1, q2⟩ := r2
    cases e
    rw [RW.inj rh p1 q1, RWs.inj rh p2 q2]
end
end
section
variable {cA : CA} {Y : L2.Cx} {L : Nat → Prop} {ρ : List Addr} {H : HH} {h : Hp} {pins : List (Addr × Obj)} {s : Shared} {σ : L2.St}
/-- what f answers stands so in the machine, n deep -/
def EqF (Y : L2.Cx) (ρ : List Addr) (H : HH) (s : Shared) (n : Nat) (f : W → W → Option Bool) : Prop :=
  ∀ x y b vx vy v u, f x y = some b → RW ρ H x vx → RW ρ H y vy → L2.RelV vx v → L2.RelV vy u → EqN Y.prog Y.w s n v u b
theorem seqs_run {n : Nat} {f : W → W → Option Bool} (F : EqF Y ρ H s n f) {xs ys : List W} {e : Nat → Bool} (he : ∀ j x y, xs[j]? = some x → ys[j]? = some y → f x y = some (e j)) {vs us : List Vv} {i1 i2 : List Value}
    (r1 : RWs ρ H xs vs) (r2 : RWs ρ H ys us) (q1 : L2.Vals vs i1) (q2 : L2.Vals us i2) {A : Around} (hA : A.units + n < cLine) :
    ∀ j (h1 : j < i1.toArray.size) (h2 : j < i2.toArray.size), EqIn Y.prog Y.w A s i1.toArray[j] i2.toArray[j] (e j) := fun j h1 h2 => by
  obtain ⟨x, v, ex, rx, qx⟩ := r1.at2 q1 (j := j) (by simpa using h1)
  obtain ⟨y, u, ey, ry, qy⟩ := r2.at2 q2 (j := j) (by simpa using h2)
  have := F x y _ _ _ _ _ (he j x y ex ey) rx ry qx qy A hA
  simpa using this
theorem seqs_all {xs ys : List W} {e : Nat → Bool} {b : Bool} {vs us : List Vv} {i1 i2 : List Value} (r1 : RWs ρ H xs vs) (r2 : RWs ρ H ys us) (q1 : L2.Vals vs i1) (q2 : L2.Vals us i2) (hb : b = (List.range (min xs.length ys.length)).all e) :
    ((List.range (min i1.toArray.size i2.toArray.size)).all e && i1.toArray.size == i2.toArray.size) = (b && decide (xs.length = ys.length)) := by
  have l1 : i1.toArray.size = xs.length := by rw [List.size_toArray, ← q1.length, ← r1.length]
  have l2 : i2.toArray.size = ys.length := by rw [List.size_toArray, ← q2.length, ← r2.length]
  rw [l1, l2, hb]
  congr 1
/-- the values of two dicts -/
theorem hits_ok {n : Nat} {f : W → W → Option Bool} (F : EqF Y ρ H s n f) {A : Around} (hA : A.units + n < cLine) {ys : List (W × W)} {ls : List (KEY × Vv)} {vb : List (KEY × Value)} (rb : RPs flatK ρ H ys ls) (qb : L2.KV ls vb) :
    ∀ {xs : List (W × W)} {ks : List (KEY × Vv)} {va : List (KEY × Value)} {b : Bool}, RPs flatK ρ H xs ks → L2.KV ks va → eqD f ys xs = some b → PySem.W.KeqHitsIn Y.prog Y.w A s vb va b := by
  intro xs ks va b ra
  unfold RPs at ra
  induction ra generalizing va b with
  | nil =>
    intro qa e
    cases qa
    cases e
    exact .nil
  | @cons p q xs ks r1 r2 ih =>
    intro qa e
    obtain ⟨k, w⟩ := p
    obtain ⟨κ0, v⟩ := q
    cases qa with
    | @cons _ q' _ va q1 q2 =>
      obtain ⟨key, u⟩ := q'
      obtain ⟨z1, z2⟩ := q1
      obtain rfl : κ0 = key := z1
      have hv := RPs.val flat_keq r1.1 rb
      have hx := qb.val κ0
      unfold eqD at e
      cases hd : dget k ys with
      | none =>
        rw [hd] at e
        rw [hv.2 hd] at hx
        have hn : valueAt vb κ0 = none := by
          cases hz : valueAt vb κ0 with
          | none => rfl
          | some z => rw [hz] at hx; exact hx.elim
        cases hr : eqD f ys xs with
        | none => rw [hr] at e; cases e
        | some c => rw [hr] at e; cases e; exact .miss hn
      | some t =>
        rw [hd] at e
        obtain ⟨v', ev, rv'⟩ := hv.1 t hd
        rw [ev] at hx
        obtain ⟨y, hy, ry⟩ := L2.RelO.some_of hx
        cases hf : f w t with
        | none => simp [hf] at e
        | some a =>
          cases hr : eqD f ys xs with
          | none => simp [hf, hr] at e
          | some c =>
            simp [hf, hr] at e
            subst e
            exact .hit hy (F w t a _ _ _ _ hf r1.2 rv' z2 ry A hA) (ih q2 hr)
/-- a dict, as the machine keeps it: its keys ints and texts -/
theorem dct_flat {a : Addr} {kvs : List (W × W)} {P : Prop} (I : L2.Inv Y pins σ H s) (r : RO cA ρ H P a (.dct kvs)) (fl : kvs.all (fun p => isFlat p.1) = true) :
    ∃ ks va, RPs flatK ρ H kvs ks ∧ L2.KV ks va ∧ (a == sysModules) = false ∧ s.heap.DictOf (L2.mixKind Y.prog Y.w) a va := by
  rcases r with ⟨ks, r, n, z⟩ | ⟨ks, r, n, z⟩
  · obtain ⟨_, ya, va, ra, da⟩ := z.rd.ok I.hok
    exact ⟨ks, va, r, ra, ya, da⟩
  · cases r with
    | nil =>
      obtain ⟨_, ya, xs, ra, o, es, ep, ho, hx, hd, he, hn⟩ := z.rd.ok I.hok
      cases ra
      refine ⟨[], [], .nil, .nil, ya, o, es, ep, ho, hx, hd, ?_, ?_, List.nodup_nil⟩
      · intro e he'
        have : e ∈ es.toList := Array.mem_toList_iff.mpr he'
        rw [he] at this
        simp at this
      · rw [he]; exact .nil
    | @cons p q ps qs r1 r2 =>
      simp only [List.all_cons, Bool.and_eq_true] at fl
      obtain ⟨k, u⟩ := p
      have h1 := fl.1
      have h2 := r1.1
      cases k <;> simp [isFlat] at h1 <;> cases h2
theorem addr_ne {rh : RH cA ρ L h H} {a b : Nat} {x y : Addr} (hx : ρ[a]? = some x) (hy : ρ[b]? = some y) (hab : a ≠ b) : x ≠ y := fun e => by
  subst e
  exact hab (by
    have h1 := ix_lt hx
    have h2 := ix_lt hy
    have := (List.getElem?_inj h1 rh.nd).mp (hx.trans hy.symm)
    exact this)
theorem eqO_run (I : L2.Inv Y pins σ H s) (rh : RH cA ρ L h H) {n : Nat} {f : W → W → Option Bool} (F : EqF Y ρ H s n f) {a b : Nat} {x y : Addr} {r : Bool} (hx : ρ[a]? = some x) (hy : ρ[b]? = some y) (e : eqO f (rd h a) (rd h b) = some r) :
    CmpN Y.prog Y.w s (n + 1) (.ref x) (.ref y) r := by
  unfold eqO at e
  split at e
  · rename_i xs ys e1 e2
    obtain ⟨x', hx', vs, r1, z1⟩ := rh.get e1
    obtain ⟨y', hy', us, r2, z2⟩ := rh.get e2
    rw [hx] at hx'; cases hx'
    rw [hy] at hy'; cases hy'
    obtain ⟨i1, q1, p1, _⟩ := I.list z1.seqL
    obtain ⟨i2, q2, p2, _⟩ := I.list z2.seqL
    have l1 : i1.toArray.size = xs.length := by rw [List.size_toArray, ← q1.length, ← r1.length]
    have l2 : i2.toArray.size = ys.length := by rw [List.size_toArray, ← q2.length, ← r2.length]
    by_cases hl : xs.length = ys.length
    · rw [if_pos hl] at e
      obtain ⟨g, hg, hb⟩ := eqs_pts e
      have hs : i1.toArray.size = i2.toArray.size := by rw [l1, l2, hl]
      have hb' : r = (List.range i1.toArray.size).all g := by rw [hb, l1, ← hl, Nat.min_self]
      intro A E Q hA
      have it := seqs_run F hg r1 r2 q1 q2 (A := A.in1) (by show A.units + 1 + n < cLine; omega)
      refine ⟨fun q => PySem.SeqAt.rcIn_lists p1.isList p2.isList hs (by omega) it (hb' ▸ q), fun q => ne_lists p1.isList p2.isList hs (by omega) it (hb' ▸ q)⟩
    · rw [if_neg hl] at e
      cases e
      have hs : (i1.toArray.size != i2.toArray.size) = true := by rw [l1, l2]; simpa using hl
      intro A E Q hA
      exact ⟨fun q => PySem.SeqAt.RcAt.lists_lengths p1.isList p2.isList hs (by omega) _ _ E Q q, fun q => PySem.SeqAt.RcNeAt.lists_lengths p1.isList p2.isList hs (by omega) _ _ E Q q⟩
  · rename_i xs ys e1 e2
    split at e
    · rename_i hfl
      simp only [Bool.and_eq_true] at hfl
      obtain ⟨x', hx', z1⟩ := rh.get e1
      obtain ⟨y', hy', z2⟩ := rh.get e2
      rw [hx] at hx'; cases hx'
      rw [hy] at hy'; cases hy'
      obtain ⟨ks, va, r1, q1, s1, d1⟩ := dct_flat I z1 hfl.1
      obtain ⟨ls, vb, r2, q2, s2, d2⟩ := dct_flat I z2 hfl.2
      cases hr : eqD f ys xs with
      | none => rw [hr] at e; cases e
      | some c =>
        rw [hr] at e
        cases e
        have hl : (va.length == vb.length) = decide (xs.length = ys.length) := by
          rw [← q1.length, ← q2.length, ← Paired.length r1, ← Paired.length r2]
          rfl
        intro A E Q hA
        have it := hits_ok F (A := A.in1) (by show A.units + 1 + n < cLine; omega) r2 q2 r1 q1 hr
        exact ⟨fun q => PySem.W.keq_eqIn s1 s2 d1 d2 (by omega) (fun _ => it) (by rw [hl]; exact q), fun q => ne_dicts s1 s2 d1 d2 (by omega) (fun _ => it) (by rw [hl]; exact q)⟩
    · cases e
  · cases e
theorem tups_run (I : L2.Inv Y pins σ H s) {n : Nat} {f : W → W → Option Bool} (F : EqF Y ρ H s n f) {xs ys : List W} {x y : Addr} {vs us : List Vv} {c : Bool} (hx : H x = some (.tup vs)) (hy : H y = some (.tup us)) (r1 : RWs ρ H xs vs) (r2 : RWs ρ H ys us)
    (e : eqs f xs ys = some c) : CmpN Y.prog Y.w s (n + 1) (.ref x) (.ref y) (c && decide (xs.length = ys.length)) := by
  obtain ⟨i1, q1, p1, _⟩ := I.tuple (.of hx)
  obtain ⟨i2, q2, p2, _⟩ := I.tuple (.of hy)
  obtain ⟨g, hg, hb⟩ := eqs_pts e
  have hb' := seqs_all r1 r2 q1 q2 hb
  intro A E Q hA
  have it := seqs_run F hg r1 r2 q1 q2 (A := A.in1) (by show A.units + 1 + n < cLine; omega)
  exact ⟨fun q => PySem.SeqAt.rcIn_tuples (tupIs p1) (tupIs p2) (by omega) it (by rw [hb']; exact q), fun q => ne_tups (tupIs p1) (tupIs p2) (by omega) it (by rw [hb']; exact q)⟩
theorem EqN.mono {P : Program} {w : World} {n m : Nat} {v u : Value} {b : Bool} (e : EqN P w s n v u b) (hn : n ≤ m) : EqN P w s m v u b := fun A hA => e A (by omega)
theorem CmpN.mono {P : Program} {w : World} {n m : Nat} {v u : Value} {b : Bool} (e : CmpN P w s n v u b) (hn : n ≤ m) : CmpN P w s m v u b := fun A E Q hA => e A E Q (by omega)
/-- of things at unlike addresses -/
theorem CmpN.eqN {P : Program} {w : World} {n : Nat} {x y : Addr} {b : Bool} (e : CmpN P w s n (.ref x) (.ref y) b) (hne : x ≠ y) : EqN P w s n (.ref x) (.ref y) b := fun A hA =>
  SeqAt.EqIn.of_refs hne fun E Q q => (e A E Q hA).1 q
/-- items of one tuple are equal to themselves, as far as they are compared -/
theorem eqW_run (I : L2.Inv Y pins σ H s) (rh : RH cA ρ L h H) : ∀ n : Nat, EqF Y ρ H s n (eqW n h)
  | 0, x, y, b, vx, vy, v, u, e, rx, ry, qx, qy => by
    have e : eqS x y = some b := by cases x <;> cases y <;> exact e
    exact (eqS_run I e rx ry qx qy _ _).1
  | n + 1, x, y, b, vx, vy, v, u, e, rx, ry, qx, qy => by
    have F := eqW_run I rh n
    have flat : eqS x y = some b → EqN Y.prog Y.w s (n + 1) v u b := fun e => EqN.mono (eqS_run I e rx ry qx qy _ _).1 (by omega)
    cases x with
    | tup xs =>
      cases y with
      | tup ys =>
        obtain ⟨x, vs, rfl, hx, r1⟩ := rx
        obtain ⟨y, us, rfl, hy, r2⟩ := ry
        cases (show v = Value.ref x from qx)
        cases (show u = Value.ref y from qy)
        unfold eqW at e
        cases hr : eqs (eqW n h) xs ys with
        | none => rw [hr] at e; cases e
        | some c =>
          rw [hr] at e
          cases e
          by_cases hxy : x = y
          · subst hxy
            rw [hx] at hy
            cases hy
            cases RWs.inj rh r1 r2
            rw [eqs_refl n _ c hr]
            simp only [decide_true, Bool.and_self]
            exact fun A hA => (SeqAt.EqAt.same _).inModel _ _
          · exact (tups_run I F hx hy r1 r2 hr).eqN hxy
      | _ => exact flat (by simpa [eqW] using e)
    | ref a =>
      cases y with
      | ref b' =>
        obtain ⟨x, rfl, hx⟩ := rx
        obtain ⟨y, rfl, hy⟩ := ry
        cases (show v = Value.ref x from qx)
        cases (show u = Value.ref y from qy)
        unfold eqW at e
        split at e
        · rename_i hab
          cases e
          rw [hab.1, hy] at hx
          cases hx
          exact fun A hA => (SeqAt.EqAt.same _).inModel _ _
        · rename_i hab
          by_cases hab' : a = b'
          · subst hab'
            exact (hab ⟨rfl, by rw [← rh.len]; exact ix_lt hx⟩).elim
          · exact (eqO_run I rh F hx hy e).eqN (addr_ne (rh := rh) hx hy hab')
      | _ => exact flat (by simpa [eqW] using e)
    | _ => exact flat (by cases y <;> simpa [eqW] using e)
theorem weq_run (I : L2.Inv Y pins σ H s) (rh : RH cA ρ L h H) {x y : W} {b : Bool} {vx vy : Vv} {v u : Value} (e : weq h x y = some b) (rx : RW ρ H x vx) (ry : RW ρ H y vy) (qx : L2.RelV vx v) (qy : L2.RelV vy u) : CmpN Y.prog Y.w s 20 v u b := by
  have F := eqW_run I rh 19
  unfold weq at e
  split at e
  · rename_i xs ys
    obtain ⟨x, vs, rfl, hx, r1⟩ := rx
    obtain ⟨y, us, rfl, hy, r2⟩ := ry
    cases (show v = Value.ref x from qx)
    cases (show u = Value.ref y from qy)
    cases hr : eqs (eqW 19 h) xs ys with
    | none => rw [hr] at e; cases e
    | some c => rw [hr] at e; cases e; exact tups_run I F hx hy r1 r2 hr
  · obtain ⟨x, rfl, hx⟩ := rx
    obtain ⟨y, rfl, hy⟩ := ry
    cases (show v = Value.ref x from qx)
    cases (show u = Value.ref y from qy)
    exact eqO_run I rh F hx hy e
  · exact CmpN.mono (eqS_run I e rx ry qx qy _ _).2 (by omega)
end
end MP

namespace MP
open PySem PySem.Spec PyProof.Rows
open PySem.SeqAt (EqIn EqAt RcAt RcNeAt)
/-! ### the order of texts; a text in a text -/
theorem slt_lt : ∀ a b : List Nat, slt a b = decide (a < b)
  | a, [] => by cases a <;> simp [slt]
  | [], _ :: _ => by simp [slt]
  | x :: xs, y :: ys => by
    unfold slt
    split
    · rename_i e
      subst e
      rw [slt_lt xs ys, Bool.eq_iff_iff]
      simp [List.cons_lt_cons_iff]
    · rename_i e
      rw [Bool.eq_iff_iff]
      simp [List.cons_lt_cons_iff, e]
theorem sIn_iff (a : List Nat) : ∀ b : List Nat, sIn a b = true ↔ ∃ i, i + a.length ≤ b.length ∧ (b.drop i).take a.length = a
  | [] => by
    unfold sIn
    cases a with
    | nil => simp
    | cons c r => simp
  | c :: r => by
    unfold sIn
    rw [Bool.or_eq_true, sIn_iff a r, List.isPrefixOf_iff_prefix]
    constructor
    · rintro (h | ⟨i, h1, h2⟩)
      · exact ⟨0, by simpa using h.length_le, by simpa using (List.prefix_iff_eq_take.mp h).symm⟩
      · exact ⟨i + 1, by rw [List.length_cons]; omega, by simpa using h2⟩
    · rintro ⟨i, h1, h2⟩
      cases i with
      | zero => exact .inl (List.prefix_iff_eq_take.mpr (by simpa using h2.symm))
      | succ i => exact .inr ⟨i, by rw [List.length_cons] at h1; omega, by simpa using h2⟩
theorem sIn_occ (a b : List Nat) : (!(Builtin.Str.occurrences (sv b) (sv a) 0 (sv b).length 1).isEmpty) = sIn a b := by
  rw [Bool.eq_iff_iff, StrLaws.found_iff, sIn_iff]
  constructor
  · rintro ⟨i, h1, h2⟩
    refine ⟨i, h1, ?_⟩
    rw [StrLaws.subAt_eq] at h2
    exact eq_of_beq h2
  · rintro ⟨i, h1, h2⟩
    refine ⟨i, h1, ?_⟩
    rw [StrLaws.subAt_eq]
    exact beq_iff_eq.mpr h2
section
variable {cA : CA} {Y : L2.Cx} {L : Nat → Prop} {lk : List Nat} {ρ : List Addr} {H : HH} {h : Hp} {pins : List (Addr × Obj)} {s : Shared} {σ : L2.St}
theorem tri2 {v u : Value} (b : Bool) (h1 : ∀ A : Around, A.units < cLine → EqAt A s v u b) {P : Program} {w : World} (k : EqN P w s 0 v u b ∧ CmpN P w s 0 v u b) : ∀ A : Around, A.units < cLine → EqAt A s v u b := h1
/-- plain data compare so in every program -/
theorem eqP_run (I : L2.Inv Y pins σ H s) (rh : RH cA ρ L h H) : ∀ (n : Nat) (x y : W) (b : Bool) (vx vy : Vv) (v u : Value), plain n x = true → plain n y = true → eqW n [] x y = some b → RW ρ H x vx → RW ρ H y vy → L2.RelV vx v → L2.RelV vy u →
    ∀ A : Around, A.units + n < cLine → EqAt A s v u b
  | 0, x, y, b, vx, vy, v, u, px, py, e, rx, ry, qx, qy, A, hA => by
    have e : eqS x y = some b := by cases x <;> cases y <;> exact e
    exact fun P w E Q q => (eqS_run I e rx ry qx qy P w).1 A (by omega) E Q q
  | n + 1, x, y, b, vx, vy, v, u, px, py, e, rx, ry, qx, qy, A, hA => by
    have flat : eqS x y = some b → EqAt A s v u b := fun e P w E Q q => (eqS_run I e rx ry qx qy P w).1 A (by omega) E Q q
    cases x with
    | tup xs =>
      cases y with
      | tup ys =>
        obtain ⟨x, vs, rfl, hx, r1⟩ := rx
        obtain ⟨y, us, rfl, hy, r2⟩ := ry
        cases (show v = Value.ref x from qx)
        cases (show u = Value.ref y from qy)
        unfold eqW at e
        unfold plain at px py
        cases hr : eqs (eqW n []) xs ys with
        | none => rw [hr] at e; cases e
        | some c =>
          rw [hr] at e
          cases e
          by_cases hxy : x = y
          · subst hxy
            rw [hx] at hy
            cases hy
            cases RWs.inj rh r1 r2
            rw [eqs_refl n _ c hr]
            simp only [decide_true, Bool.and_self]
            exact .same _
          · obtain ⟨i1, q1, p1, _⟩ := I.tuple (.of hx)
            obtain ⟨i2, q2, p2, _⟩ := I.tuple (.of hy)
            obtain ⟨g, hg, hb⟩ := eqs_pts hr
            show EqAt A s (.ref x) (.ref y) (c && decide (xs.length = ys.length))
            rw [← seqs_all r1 r2 q1 q2 hb]
            refine .of_refs hxy (.tuples (tupIs p1) (tupIs p2) (by omega) fun j h1 h2 => ?_)
            obtain ⟨x', v', ex, rx', qx'⟩ := r1.at2 q1 (j := j) (by simpa using h1)
            obtain ⟨y', u', ey, ry', qy'⟩ := r2.at2 q2 (j := j) (by simpa using h2)
            have := eqP_run I rh n x' y' (g j) v' u' _ _ (List.all_eq_true.mp px x' (List.mem_of_getElem? ex)) (List.all_eq_true.mp py y' (List.mem_of_getElem? ey)) (hg j x' y' ex ey) rx' ry' qx' qy' A.in1 (by show A.units + 1 + n < cLine; omega)
            simpa using this
      | _ => exact flat (by simpa [eqW] using e)
    | ref a => simp [plain] at px
    | _ => exact flat (by cases y <;> simpa [eqW] using e)
theorem eqs_some {f : W → W → Option Bool} : ∀ {xs ys : List W}, (∀ x ∈ xs, ∀ y ∈ ys, (f x y).isSome = true) → (eqs f xs ys).isSome = true
  | [], _, _ => rfl
  | _ :: _, [], _ => rfl
  | x :: xs, y :: ys, h => by
    obtain ⟨a, ha⟩ := Option.isSome_iff_exists.mp (h x List.mem_cons_self y List.mem_cons_self)
    obtain ⟨b, hb⟩ := Option.isSome_iff_exists.mp (eqs_some (xs := xs) (ys := ys) (f := f) fun x hx y hy => h x (List.mem_cons_of_mem _ hx) y (List.mem_cons_of_mem _ hy))
    simp [eqs, ha, hb]
theorem eqP_some : ∀ (n : Nat) (x y : W), plain n x = true → plain n y = true → (eqW n [] x y).isSome = true
  | 0, x, y, px, py => by cases x <;> cases y <;> simp [plain] at px py <;> rfl
  | n + 1, x, y, px, py => by
    cases x with
    | tup xs =>
      cases y with
      | tup ys =>
        unfold eqW
        rw [Option.isSome_map]
        unfold plain at px py
        exact eqs_some fun x hx y hy => eqP_some n x y (List.all_eq_true.mp px x hx) (List.all_eq_true.mp py y hy)
      | _ => simp [plain] at py <;> rfl
    | ref a => simp [plain] at px
    | _ => cases y <;> simp [plain] at py <;> rfl
/-- x in items -/
theorem memW_run (I : L2.Inv Y pins σ H s) (rh : RH cA ρ L h H) {x : W} {ys : List W} {b : Bool} {vx : Vv} {us : List Vv} {v : Value} {its : List Value} (e : memW x ys = some b) (rx : RW ρ H x vx) (qx : L2.RelV vx v) (r : RWs ρ H ys us) (q : L2.Vals us its) :
    ∃ g : Value → Bool, (∀ A : Around, A.units + 20 < cLine → ∀ y, y ∈ its.toArray → EqAt A s y v (g y)) ∧ its.toArray.any g = b := by
  unfold memW at e
  split at e
  · rename_i hp
    simp only [Bool.and_eq_true] at hp
    cases e
    classical
    refine ⟨fun u => decide (∃ y ∈ ys, ∃ vy, RW ρ H y vy ∧ L2.RelV vy u ∧ eqW 20 [] y x = some true), fun A hA u hu => ?_, ?_⟩
    · obtain ⟨j, hj, rfl⟩ := List.getElem_of_mem (Array.mem_toList_iff.mpr hu)
      obtain ⟨y, vy, ey, ry, qy⟩ := r.at2 q (j := j) (by simpa using hj)
      have hy := List.mem_of_getElem? ey
      obtain ⟨c, hc⟩ := Option.isSome_iff_exists.mp (eqP_some 20 y x (List.all_eq_true.mp hp.2 y hy) hp.1)
      have key := eqP_run I rh 20 y x c vy vx _ v (List.all_eq_true.mp hp.2 y hy) hp.1 hc ry rx qy qx A hA
      have eg : decide (∃ y ∈ ys, ∃ vy, RW ρ H y vy ∧ L2.RelV vy (its.toArray.toList[j]) ∧ eqW 20 [] y x = some true) = c := by
        cases c with
        | true => exact decide_eq_true ⟨y, hy, vy, ry, by simpa using qy, hc⟩
        | false =>
          refine decide_eq_false fun ⟨y', hy', vy', ry', qy', hc'⟩ => ?_
          have qy2 : L2.RelV vy (its.toArray.toList[j]) := by simpa using qy
          have := qy2.inj qy'
          subst this
          have := ry.inj rh ry'
          subst this
          rw [hc] at hc'
          cases hc'
      show EqAt A s _ v (decide _)
      rw [eg]
      simpa using key
    · rw [Bool.eq_iff_iff, List.any_toArray, List.any_eq_true, List.any_eq_true]
      constructor
      · rintro ⟨u, _, hu⟩
        obtain ⟨y, hy, _, _, _, e⟩ := of_decide_eq_true hu
        exact ⟨y, hy, by rw [e]; rfl⟩
      · rintro ⟨y, hy, e⟩
        obtain ⟨j, hj⟩ := List.getElem?_of_mem hy
        have hj' : j < its.length := by rw [← q.length, ← r.length]; exact ix_lt hj
        obtain ⟨y', vy, ey, ry, qy⟩ := r.at2 q hj'
        rw [hj] at ey
        cases ey
        exact ⟨its[j], List.getElem_mem hj', decide_eq_true ⟨y, hy, vy, ry, qy, by simpa using e⟩⟩
  · cases e
end
end MP

namespace MP
open PySem PySem.Spec PyProof.Rows
/-! ### keys -/
theorem kV_of {x : W} {k : KEY} (e : flatK x = some k) {ρ : List Addr} {H : HH} {v : Vv} (r : RW ρ H x v) : v = L2.kV k := by
  cases x with
  | int i => cases e; exact r
  | str x => obtain ⟨_, rfl⟩ := flat_str e; exact r.2
  | _ => cases e
theorem kVs_of : ∀ {xs : List W} {ks : List KEY}, flatKs xs = some ks → ∀ {ρ : List Addr} {H : HH} {vs : List Vv}, RWs ρ H xs vs → vs = ks.map L2.kV
  | [], _, e, _, _, _, r => by cases e; cases r; rfl
  | x :: xs, _, e, _, _, _, r => by
    obtain ⟨v, t, rfl, r1, r2⟩ := r
    simp only [flatKs] at e
    cases h1 : flatK x with
    | none => rw [h1] at e; cases e
    | some k =>
      rw [h1] at e
      cases h2 : flatKs xs with
      | none => rw [h2] at e; cases e
      | some ks =>
        rw [h2] at e
        cases e
        rw [kV_of h1 r1, kVs_of h2 r2]
        rfl
theorem flatK_some {ρ : List Addr} {H : HH} {x : W} {v : Vv} (e : isFlat x = true) (r : RW ρ H x v) : ∃ k, flatK x = some k := by
  cases x with
  | int i => exact ⟨_, rfl⟩
  | str x => exact ⟨_, if_pos r.1⟩
  | _ => cases e
theorem flatKs_some {ρ : List Addr} {H : HH} : ∀ {xs : List W} {vs : List Vv}, xs.all isFlat = true → RWs ρ H xs vs → ∃ k, flatKs xs = some k
  | [], _, _, _ => ⟨_, rfl⟩
  | x :: xs, _, e, r => by
    obtain ⟨v, t, rfl, r1, r2⟩ := r
    simp only [List.all_cons, Bool.and_eq_true] at e
    obtain ⟨k, h1⟩ := flatK_some e.1 r1
    obtain ⟨ks, h2⟩ := flatKs_some e.2 r2
    exact ⟨k :: ks, by simp [flatKs, h1, h2]⟩
/-- a key is flat, or a tuple of flat ones -/
theorem key_cases {ρ : List Addr} {H : HH} {x : W} {v : Vv} (e : isKey x = true) (r : RW ρ H x v) : (kind x = 1 ∧ ∃ k, flatK x = some k) ∨ (kind x = 2 ∧ ∃ k, tupK x = some k) := by
  unfold isKey at e
  cases x with
  | int i => exact .inl ⟨rfl, _, rfl⟩
  | str i => exact .inl ⟨rfl, flatK_some rfl r⟩
  | tup xs =>
    by_cases h : xs.all isFlat = true
    · obtain ⟨_, _, _, _, r⟩ := r
      exact .inr ⟨by show (if xs.all isFlat = true then 2 else 0) = 2; rw [if_pos h], flatKs_some h r⟩
    · have e : ((if xs.all isFlat = true then 2 else 0) != 0) = true := e
      rw [if_neg h] at e
      cases e
  | _ => simp [kind] at e
theorem kind_flat {x : W} {k : KEY} (e : flatK x = some k) : kind x = 1 := by cases x <;> first | rfl | cases e
theorem flatKs_all : ∀ {xs : List W} {ks : List KEY}, flatKs xs = some ks → xs.all isFlat = true
  | [], _, _ => rfl
  | x :: xs, _, e => by
    simp only [flatKs] at e
    cases h1 : flatK x with
    | none => rw [h1] at e; cases e
    | some k =>
      rw [h1] at e
      cases h2 : flatKs xs with
      | none => rw [h2] at e; cases e
      | some ks =>
        rw [List.all_cons, flatKs_all h2]
        cases x <;> first | rfl | cases h1
theorem kind_tup {x : W} {k : List KEY} (e : tupK x = some k) : kind x = 2 := by
  cases x with
  | tup xs => show (if xs.all isFlat = true then 2 else 0) = 2; rw [if_pos (flatKs_all e)]
  | _ => cases e
section
variable {cA : CA} {Y : L2.Cx} {L : Nat → Prop} {lk : List Nat} {ρ : List Addr} {H : HH} {h : Hp} {pins : List (Addr × Obj)} {s : Shared} {σ : L2.St}
/-- a dict and a key of its kind: as it stands, or an empty dict and any key -/
inductive DK (ρ : List Addr) (H : HH) (P : Prop) (a : Addr) (kvs : List (W × W)) (y : Vv) (k : W) : Prop
  | flat (ks : List (KEY × Vv)) (k0 : KEY) : RPs flatK ρ H kvs ks → (ks.map (·.1)).Nodup → At H P a (.dK ks) → flatK k = some k0 → y = L2.kV k0 → DK ρ H P a kvs y k
  | tup (ks : List (List KEY × Vv)) (k0 : List KEY) (b : Addr) : RPs tupK ρ H kvs ks → (ks.map (·.1)).Nodup → At H P a (.dT ks) → tupK k = some k0 → y = .ref b → H b = some (.tup (k0.map L2.kV)) → DK ρ H P a kvs y k
  | flat0 (k0 : KEY) : kvs = [] → At H P a (.dT []) → flatK k = some k0 → y = L2.kV k0 → DK ρ H P a kvs y k
  | tup0 (k0 : List KEY) (b : Addr) : kvs = [] → At H P a (.dK []) → tupK k = some k0 → y = .ref b → H b = some (.tup (k0.map L2.kV)) → DK ρ H P a kvs y k
theorem keyIn_cases {P : Prop} {a : Addr} {kvs : List (W × W)} {k : W} {y : Vv} (e : keyIn k kvs = true) (r : RO cA ρ H P a (.dct kvs)) (rk : RW ρ H k y) : DK ρ H P a kvs y k := by
  unfold keyIn at e
  rw [Bool.and_eq_true, List.all_eq_true] at e
  rcases key_cases e.1 rk with ⟨hk, k0, ek⟩ | ⟨hk, k0, ek⟩
  · have ey := kV_of ek rk
    rcases r with ⟨ks, r, n, z⟩ | ⟨ks, r, n, z⟩
    · exact .flat ks k0 r n z ek ey
    · cases r with
      | nil => exact .flat0 k0 rfl (z.imp id fun q => q.1.elim) ek ey
      | @cons p q ps qs r1 r2 =>
        have := e.2 p List.mem_cons_self
        rw [beq_iff_eq, hk, kind_tup r1.1] at this
        cases this
  · have : ∃ b, y = .ref b ∧ H b = some (.tup (k0.map L2.kV)) := by
      cases k with
      | tup xs =>
        obtain ⟨b, vs, e1, e2, r2⟩ := rk
        rw [kVs_of ek r2] at e2
        exact ⟨b, e1, e2⟩
      | _ => cases ek
    obtain ⟨b, ey, eb⟩ := this
    rcases r with ⟨ks, r, n, z⟩ | ⟨ks, r, n, z⟩
    · cases r with
      | nil => exact .tup0 k0 b rfl z ek ey eb
      | @cons p q ps qs r1 r2 =>
        have := e.2 p List.mem_cons_self
        rw [beq_iff_eq, hk, kind_flat r1.1] at this
        cases this
    · exact .tup ks k0 b r n (z.imp id fun q => q.1.elim) ek ey eb
/-- an empty dict, for any kind of keys -/
theorem dk0 (I : L2.Inv Y pins σ H s) {a : Addr} (e : L2.Rd H a (.dK []) ∨ L2.Rd H a (.dT [])) :
    (a == sysModules) = false ∧ s.heap.DictOf (L2.mixKind Y.prog Y.w) a ([] : List (KEY × Value)) ∧ s.heap.DictOfH (tupleKind (L2.mixKind Y.prog Y.w)) a [] := by
  rcases e with e | e
  · obtain ⟨_, y, vs, r, o, es, ep, h1, h2, h3, h4, h5, h6⟩ := e.ok I.hok
    cases r
    have he : es.toList = [] := List.length_eq_zero_iff.mp h5.length
    refine ⟨y, ⟨o, es, ep, h1, h2, h3, h4, h5, h6⟩, o, es, ep, h1, h2, h3, by rw [he]; rfl, (fun x hx => by simp at hx), List.nodup_nil⟩
  · obtain ⟨_, y, xs, ra, o, es, ep, h1, h2, h3, he, hn⟩ := e.ok I.hok
    cases ra
    have he : es.toList = [] := he
    refine ⟨y, ⟨o, es, ep, h1, h2, h3, fun e he' => ?_, by rw [he]; exact .nil, List.nodup_nil⟩, o, es, ep, h1, h2, h3, by rw [he]; rfl, (fun x hx => by simp at hx), List.nodup_nil⟩
    have : e ∈ es.toList := Array.mem_toList_iff.mpr he'
    rw [he] at this
    cases this
/-- what the dict holds for the key -/
def holdsO (ρ : List Addr) (H : HH) (o : Option W) (v : Option Vv) : Prop := match o, v with
  | some w, some v => RW ρ H w v
  | none, none => True
  | _, _ => False
theorem holds_of {o : Option W} {v : Option Vv} (h : (∀ w, o = some w → ∃ u, v = some u ∧ RW ρ H w u) ∧ (o = none → v = none)) : holdsO ρ H o v := by
  cases o with
  | none => rw [h.2 rfl]; trivial
  | some w => obtain ⟨u, rfl, r⟩ := h.1 w rfl; exact r
theorem holdsO.isSome {o : Option W} {v : Option Vv} (h : holdsO ρ H o v) : v.isSome = o.isSome := by
  cases o <;> cases v <;> first | rfl | exact h.elim
/-- the key met: DGet, or none there -/
theorem DK.get {P : Prop} {a : Addr} {kvs : List (W × W)} {k : W} {y : Vv} (d : DK ρ H P a kvs y k) : (∃ o, L2.DGet H a y o ∧ holdsO ρ H (dget k kvs) o) ∨ (dget k kvs = none ∧ (L2.Rd H a (.dK []) ∨ L2.Rd H a (.dT []))) := by
  cases d with
  | flat ks k0 r n z ek ey => exact .inl ⟨_, .inl ⟨ks, k0, z.rd, ey, rfl⟩, holds_of (RPs.val flat_keq ek r)⟩
  | tup ks k0 b r n z ek ey eb => exact .inl ⟨_, .inr ⟨ks, k0, b, z.rd, ey, eb, rfl⟩, holds_of (RPs.val tup_keq ek r)⟩
  | flat0 k0 e z ek ey => subst e; exact .inr ⟨rfl, .inr z.rd⟩
  | tup0 k0 b e z ek ey eb => subst e; exact .inr ⟨rfl, .inl z.rd⟩
end
end MP

namespace MP
open PySem PySem.Spec PyProof.Rows
/-! ### comparisons -/
def pyCmp : CmpOp → PySem.CmpOp
  | .eq => .Eq | .ne => .NotEq | .lt => .Lt | .le => .LtE | .gt => .Gt | .ge => .GtE | .isin => .In | .notin => .NotIn | .is => .Is | .isnot => .IsNot
def rCmp (cA : CA) (op : CmpOp) : L2.R2 := fun x y H Q => ∃ ρ L h w u b, RH cA ρ L h H ∧ RW ρ H w x ∧ RW ρ H u y ∧ cmp op w u h = some b ∧ Q (.bl b) H
section
variable {cA : CA} {Y : L2.Cx} {L : Nat → Prop} {lk : List Nat} {ρ : List Addr} {H : HH} {h : Hp} {pins : List (Addr × Obj)} {s : Shared} {σ : L2.St}
theorem fin_b (I : L2.Inv Y pins σ H s) {b : Bool} {Q : L2.VK} (q : Q (.bl b) H) : L2.EP Y pins σ Q (.bool b) s := ⟨.bl b, H, I, rfl, q⟩
/-- x in y -/
theorem in_ok (hu : Y.A.units + 64 < cLine) (I : L2.Inv Y pins σ H s) (rh : RH cA ρ L h H) {w u : W} {x y : Vv} {v t : Value} {b : Bool} (rx : L2.RelV x v) (ry : L2.RelV y t) (ra : RW ρ H w x) (rb : RW ρ H u y) (e : isIn w u h = some b) {E Q : Value → Shared → Prop} :
    ((∀ s', L2.Inv Y pins σ H s' → Q (.bool b) s') → wpAny (model Y.prog Y.w) Y.A (compareOp .In v t) Q E s) ∧ ((∀ s', L2.Inv Y pins σ H s' → Q (.bool (!b)) s') → wpAny (model Y.prog Y.w) Y.A (compareOp .NotIn v t) Q E s) := by
  unfold isIn at e
  split at e
  · obtain ⟨_, rfl⟩ := ra
    obtain ⟨_, rfl⟩ := rb
    obtain ⟨_, rfl⟩ := rx
    obtain ⟨_, rfl⟩ := ry
    cases e
    refine ⟨fun q => in_str ?_, fun q => notIn_str ?_⟩
    · rw [sIn_occ]; exact q _ I
    · rw [sIn_occ]; exact q _ I
  · obtain ⟨p, vs, rfl, hp, r⟩ := rb
    cases (show t = Value.ref p from ry)
    obtain ⟨its, q, z, _⟩ := I.tuple (.of hp)
    obtain ⟨g, hg, hb⟩ := memW_run I rh e ra rx r q
    refine ⟨fun q => SeqAt.in_tupleAt g (tupIs z) (fun y hy => hg Y.A.in1 (by show Y.A.units + 1 + 20 < cLine; omega) y hy) ?_, fun q => SeqAt.notIn_tupleAt g (tupIs z) (fun y hy => hg Y.A.in1 (by show Y.A.units + 1 + 20 < cLine; omega) y hy) ?_⟩
    · rw [hb]; exact q _ I
    · rw [hb]; exact q _ I
  · obtain ⟨p, rfl, hp⟩ := rb
    cases (show t = Value.ref p from ry)
    unfold inO at e
    split at e
    · rename_i ys e1
      obtain ⟨p', hp', vs, r, z⟩ := rh.get e1
      rw [hp] at hp'; cases hp'
      obtain ⟨its, q, z, _⟩ := I.list z.seqL
      obtain ⟨g, hg, hb⟩ := memW_run I rh e ra rx r q
      refine ⟨fun q => SeqAt.in_listAt g z.isList (fun y hy => hg Y.A.in1 (by show Y.A.units + 1 + 20 < cLine; omega) y hy) ?_, fun q => SeqAt.notIn_listAt g z.isList (fun y hy => hg Y.A.in1 (by show Y.A.units + 1 + 20 < cLine; omega) y hy) ?_⟩
      · rw [hb]; exact q _ I
      · rw [hb]; exact q _ I
    · rename_i kvs e1
      split at e
      · rename_i ki
        cases e
        obtain ⟨p', hp', r⟩ := rh.get e1
        rw [hp] at hp'; cases hp'
        have hu1 : Y.A.units + 1 < cLine := by omega
        have d := keyIn_cases ki r ra
        cases d with
        | flat ks k0 r n z ek ey =>
          have o := (holds_of (RPs.val flat_keq ek r)).isSome
          have g : L2.DGet H p x _ := .inl ⟨ks, k0, z.rd, ey, rfl⟩
          rw [← o]
          exact ⟨fun q => L2.d_in hu1 I g rx q, fun q => L2.d_notIn hu1 I g rx q⟩
        | tup ks k0 b r n z ek ey eb =>
          have o := (holds_of (RPs.val tup_keq ek r)).isSome
          have g : L2.DGet H p x _ := .inr ⟨ks, k0, b, z.rd, ey, eb, rfl⟩
          rw [← o]
          exact ⟨fun q => L2.d_in hu1 I g rx q, fun q => L2.d_notIn hu1 I g rx q⟩
        | flat0 k0 e z ek ey =>
          subst e ey
          obtain ⟨hd, d1, d2⟩ := dk0 I (.inr z.rd)
          exact ⟨fun q => wpAny_in_of (L2.kV_is rx) hd d1.mapOf (q _ (I.tok _)), fun q => wpAny_notIn_of (L2.kV_is rx) hd d1.mapOf (q _ (I.tok _))⟩
        | tup0 k0 b e z ek ey eb =>
          subst e ey
          cases (show v = Value.ref b from rx)
          obtain ⟨hd, d1, d2⟩ := dk0 I (.inl z.rd)
          exact ⟨fun q => wpAny_in_heap (tupleKind_room_in1 hu1) (L2.key_of I.hok eb) hd d2 (q _ (I.tok _)), fun q => wpAny_notIn_heap (tupleKind_room_in1 hu1) (L2.key_of I.hok eb) hd d2 (q _ (I.tok _))⟩
      · cases e
    · cases e
  · cases e
theorem rws_ints : ∀ {xs : List W} {ns : List Int} {vs : List Vv}, intsV xs = some ns → RWs ρ H xs vs → vs = ns.map L2.V.int
  | [], ns, vs, e, r => by cases e; exact r
  | x :: xs, ns, vs, e, r => by
    obtain ⟨v, t, rfl, r1, r2⟩ := r
    cases x <;> simp only [intsV] at e <;> (try (cases e; done))
    simp only [Option.map_eq_some_iff] at e
    obtain ⟨l, e1, rfl⟩ := e
    cases (show v = _ from r1)
    rw [rws_ints e1 r2]; rfl
theorem lexI_lt : ∀ (a b : List Int), lexI a b = HT.lexLt a b
  | [], [] => rfl
  | [], _ :: _ => rfl
  | _ :: _, [] => rfl
  | x :: xs, y :: ys => by unfold lexI HT.lexLt; rw [lexI_lt xs ys]
theorem lexAt_shift (e r : Nat → Bool) (z : Bool) (i : Nat) : ∀ (j k : Nat), Ob.lexAt e r z (i + j) k = Ob.lexAt (fun n => e (i + n)) (fun n => r (i + n)) z j k
  | j, 0 => rfl
  | j, k + 1 => by
    rw [Ob.lexAt_succ, Ob.lexAt_succ, show i + j + 1 = i + (j + 1) by omega, lexAt_shift e r z i (j + 1) k]
theorem lexE_at : ∀ (ns ms : List Int), Ob.lexAt (fun j => decide (ns.getD j 0 = ms.getD j 0)) (fun j => decide (ns.getD j 0 ≤ ms.getD j 0)) (decide (ns.length ≤ ms.length)) 0 (min ns.length ms.length) = lexE ns ms
  | [], ms => by simp [Ob.lexAt_zero, lexE]
  | x :: xs, [] => by simp [Ob.lexAt_zero, lexE]
  | x :: xs, y :: ys => by
    have ih := lexE_at xs ys
    simp only [List.length_cons, Nat.succ_min_succ]
    rw [Ob.lexAt_succ]
    unfold lexE
    simp only [List.getD_cons_zero, decide_eq_true_eq]
    split
    · rw [show (0 : Nat) + 1 = 1 + 0 from rfl, lexAt_shift]
      rw [← ih]
      congr 1
      · funext n; rw [Nat.add_comm 1 n]; simp
      · funext n; rw [Nat.add_comm 1 n]; simp
      · simp
    · rfl
theorem cmp_ok (hu : Y.A.units + 64 < cLine) (op : CmpOp) : L2.OpR Y (compareOp (pyCmp op)) (rCmp cA op) := by
  intro pins s σ H x y v t Q I rx ry ⟨ρ, L, h, w, u, b, rh, ra, rb, e, q⟩
  unfold cmp at e
  split at e
  · exact ((weq_run I rh e ra rb rx ry) Y.A _ _ (by omega)).1 (fin_b I q)
  · cases hw : weq h w u with
    | none => rw [hw] at e; cases e
    | some c => rw [hw] at e; cases e; exact ((weq_run I rh hw ra rb rx ry) Y.A _ _ (by omega)).2 (fin_b I q)
  · cases ra; cases rb; cases e
    exact L2.op_lt pins s σ H _ _ v t Q I rx ry ⟨_, _, rfl, rfl, q⟩
  · cases ra; cases rb; cases e
    exact L2.op_le pins s σ H _ _ v t Q I rx ry ⟨_, _, rfl, rfl, q⟩
  · cases ra; cases rb; cases e
    exact L2.op_gt pins s σ H _ _ v t Q I rx ry ⟨_, _, rfl, rfl, q⟩
  · cases ra; cases rb; cases e
    exact L2.op_ge pins s σ H _ _ v t Q I rx ry ⟨_, _, rfl, rfl, q⟩
  · obtain ⟨_, rfl⟩ := ra; obtain ⟨_, rfl⟩ := rb; cases e
    exact L2.op_lt_str pins s σ H _ _ v t Q I rx ry ⟨_, _, rfl, rfl, by rw [slt_lt] at q; exact q⟩
  · obtain ⟨_, rfl⟩ := ra; obtain ⟨_, rfl⟩ := rb; cases e
    exact L2.op_le_str pins s σ H _ _ v t Q I rx ry ⟨_, _, rfl, rfl, by rw [slt_lt] at q; exact q⟩
  · obtain ⟨_, rfl⟩ := ra; obtain ⟨_, rfl⟩ := rb; cases e
    exact L2.op_gt_str pins s σ H _ _ v t Q I rx ry ⟨_, _, rfl, rfl, by rw [slt_lt] at q; exact q⟩
  · obtain ⟨_, rfl⟩ := ra; obtain ⟨_, rfl⟩ := rb; cases e
    exact L2.op_ge_str pins s σ H _ _ v t Q I rx ry ⟨_, _, rfl, rfl, by rw [slt_lt] at q; exact q⟩
  · obtain ⟨p, vs, rfl, hp, r⟩ := ra
    obtain ⟨p', vs', rfl, hp', r'⟩ := rb
    simp only [Option.bind_eq_some_iff, Option.map_eq_some_iff] at e
    obtain ⟨ns, e1, ms, e2, rfl⟩ := e
    exact L2.op_ltT (by omega) pins s σ H _ _ v t Q I rx ry ⟨p, p', ns, ms, rfl, rfl, .of (by rw [hp, rws_ints e1 r]), .of (by rw [hp', rws_ints e2 r']), by rw [← lexI_lt]; exact q⟩
  · obtain ⟨p, vs, rfl, hp, r⟩ := ra
    obtain ⟨p', vs', rfl, hp', r'⟩ := rb
    simp only [Option.bind_eq_some_iff, Option.map_eq_some_iff] at e
    obtain ⟨ns, e1, ms, e2, rfl⟩ := e
    exact L2.op_leT (by omega) pins s σ H _ _ v t Q I rx ry ⟨p, p', ns, ms, rfl, rfl, .of (by rw [hp, rws_ints e1 r]), .of (by rw [hp', rws_ints e2 r']), by rw [lexE_at ns ms]; exact q⟩
  · exact (in_ok hu I rh rx ry ra rb e).1 fun s' I' => fin_b I' q
  · cases hw : isIn w u h with
    | none => rw [hw] at e; cases e
    | some c => rw [hw] at e; cases e; exact (in_ok hu I rh rx ry ra rb hw).2 fun s' I' => fin_b I' q
  · cases rb; cases e
    refine L2.op_isN pins s σ H _ _ v t Q I rx ry ⟨rfl, ?_⟩
    rw [non_eq ra]; exact q
  · cases rb; cases e
    refine L2.op_notN pins s σ H _ _ v t Q I rx ry ⟨rfl, ?_⟩
    rw [non_eq ra]; exact q
  · cases ra; cases rb; cases e
    exact L2.op_is_bl pins s σ H _ _ v t Q I rx ry ⟨_, _, rfl, rfl, q⟩
  · cases ra; cases rb; cases e
    exact L2.op_isnot_bl pins s σ H _ _ v t Q I rx ry ⟨_, _, rfl, rfl, q⟩
  · cases e
where
  non_eq {ρ : List Addr} {H : HH} {w : W} {x : Vv} (r : RW ρ H w x) : decide (x = .non) = isNon w := by
    cases w with
    | tup _ => obtain ⟨a, _, rfl, _⟩ := r; rfl
    | ref _ => obtain ⟨a, rfl, _⟩ := r; rfl
    | str _ => obtain ⟨_, rfl⟩ := r; rfl
    | _ => cases r; rfl
end
end MP

namespace MP
open PySem PySem.Spec PyProof.Rows
/-! ### items, slices -/
theorem atI_eq {α : Type} (xs : List α) (i : Int) : atI xs i = L2.atI xs i := rfl
theorem RWs.atI {ρ : List Addr} {H : HH} {xs : List W} {vs : List Vv} (r : RWs ρ H xs vs) {i : Int} {w : W} (e : MP.atI xs i = some w) : ∃ v, L2.atI vs i = some v ∧ RW ρ H w v := by
  unfold MP.atI at e
  unfold L2.atI
  have l := r.length
  rw [show L2.ixN vs.length i = MP.ixN xs.length i by rw [l]; rfl]
  cases h : MP.ixN xs.length i with
  | none => rw [h] at e; cases e
  | some j =>
    rw [h] at e
    exact r.get e
theorem clamp_eq (n d : Nat) (o : Option Int) : clampI n d o = HT.sIx n d o := by cases o <;> rfl
theorem cut_eq {α : Type} (xs : List α) (lo hi : Option Int) : cutL xs lo hi = (xs.drop (HT.sIx xs.length 0 lo)).take (HT.sIx xs.length xs.length hi - HT.sIx xs.length 0 lo) := by
  unfold cutL
  rw [clamp_eq, clamp_eq, List.drop_take]
theorem RWs.cut {ρ : List Addr} {H : HH} {xs : List W} {vs : List Vv} (r : RWs ρ H xs vs) (lo hi : Option Int) : RWs ρ H (cutL xs lo hi) (L2.cutV vs lo hi) := by
  rw [cut_eq]
  unfold L2.cutV
  rw [r.length]
  exact (r.drop _).take _
theorem cut_len {α : Type} (xs : List α) (lo hi : Option Int) : (cutL xs lo hi).length ≤ xs.length := by
  rw [cut_eq, List.length_take, List.length_drop]; omega
theorem cutS_eq (s : List Nat) (lo hi : Option Int) : L2.cutS (sv s) lo hi = sv (cutL s lo hi) := by
  apply TL.ext_tl
  rw [cut_eq]
  first | rfl | (unfold L2.cutS; simp [sv])
def rItem (cA : CA) : L2.R2 := fun x y H Q => ∃ ρ L h w u z, RH cA ρ L h H ∧ RW ρ H w x ∧ RW ρ H u y ∧ item w u h = some z ∧ ∀ v, RW ρ H z v → Q v H
def rSlice (cA : CA) (lk : List Nat) : Vv → Option Int → Option Int → HH → L2.VK → Prop := fun x lo hi H Q => ∃ ρ h w E, RH cA ρ (· ∈ lk) h H ∧ RW ρ H w x ∧ Good cA lk RW (slice w lo hi h) ρ H Q E
section
variable {cA : CA} {Y : L2.Cx} {L : Nat → Prop} {lk : List Nat} {ρ : List Addr} {H : HH} {h : Hp} {pins : List (Addr × Obj)} {s : Shared} {σ : L2.St}
theorem item_ok (hu : Y.A.units + 64 < cLine) : L2.IxR Y (rItem cA) := by
  intro va sl pins s σ H x y v t Q I rx ry ⟨ρ, L, h, w, u, z, rh, ra, rb, e, q⟩ hs
  unfold item at e
  split at e
  · obtain ⟨hl, rfl⟩ := ra
    cases rb
    rename_i cs i
    cases hc : atI cs i with
    | none => rw [hc] at e; cases e
    | some c =>
      rw [hc] at e
      cases e
      exact L2.ix_str va sl pins s σ H _ _ v t Q I rx ry ⟨sv cs, i, c, rfl, rfl, Nat.le_trans hl line_le, hc, q _ ⟨by simp [LINE], rfl⟩⟩ hs
  · obtain ⟨p, vs, rfl, hp, r⟩ := ra
    cases rb
    obtain ⟨v', hv, rv⟩ := r.atI e
    exact L2.ix_tup va sl pins s σ H _ _ v t Q I rx ry ⟨p, vs, _, v', rfl, rfl, .of hp, hv, q _ rv⟩ hs
  · obtain ⟨p, rfl, hp⟩ := ra
    unfold itemO at e
    split at e
    · rename_i e1
      obtain ⟨p', hp', vs, r, at1⟩ := rh.get e1
      rw [hp] at hp'; cases hp'
      split at e
      · cases rb
        obtain ⟨v', hv, rv⟩ := r.atI e
        exact L2.ix_list va sl pins s σ H _ _ v t Q I rx ry ⟨p, vs, _, v', rfl, rfl, at1.seqL, hv, q _ rv⟩ hs
      · cases e
    · rename_i kvs e1
      split at e
      · rename_i ki
        obtain ⟨p', hp', r⟩ := rh.get e1
        rw [hp] at hp'; cases hp'
        rcases (keyIn_cases ki r rb).get with ⟨o, g, ho⟩ | ⟨hn, _⟩
        · rw [e] at ho
          cases o with
          | none => exact ho.elim
          | some v' =>
            cases (show v = Value.ref p from rx)
            exact tail_any (L2.dict_typeIs I g) PySem.F.slot_dict_getitem.lookup (L2.d_getItem (by omega) I g ry fun w' s3 I3 rw' => ⟨v', H, I3, rw', q _ ho⟩) hs
        · rw [hn] at e; cases e
      · cases e
    · cases e
  · cases e
theorem slice_ok : L2.SlR Y (rSlice cA lk) := by
  intro pins s σ H x v vl vu lo hi sl Q I rx hs pl pu ⟨ρ, h, w, E, rh, ra, g⟩
  unfold slice at g
  split at g
  · obtain ⟨hl, rfl⟩ := ra
    exact L2.sl_str pins s σ H _ v vl vu lo hi sl Q I rx hs pl pu ⟨_, rfl, Nat.le_trans hl line_le, by rw [cutS_eq]; exact g.here rh ⟨Nat.le_trans (cut_len _ _ _) hl, rfl⟩⟩
  · obtain ⟨p, vs, rfl, hp, r⟩ := ra
    have rc := r.cut lo hi
    refine L2.sl_tupA pins s σ H _ v vl vu lo hi sl Q I rx hs pl pu ⟨p, vs, rfl, .of hp, fun hw => ?_, fun _ => mk_tup g rh rc⟩
    refine g.here rh ⟨p, vs, rfl, hp, ?_⟩
    have e : L2.cutV vs lo hi = vs := by
      unfold L2.cutV
      rw [hw.1, hw.2]
      simp
    rw [e] at rc
    exact rc
  · obtain ⟨p, rfl, hp⟩ := ra
    unfold sliceO at g
    split at g
    · rename_i e1
      obtain ⟨p', hp', vs, r, at1⟩ := rh.get e1
      rw [hp] at hp'; cases hp'
      exact L2.sl_list pins s σ H _ v vl vu lo hi sl Q I rx hs pl pu ⟨p, vs, rfl, at1.seqL, mk_lst g rh (r.cut lo hi)⟩
    · exact g.elim
  · exact g.elim
end
end MP

namespace MP
open PySem PySem.Spec PyProof.Rows
/-! ### what the little language answers, as a reading -/
abbrev Rel (α β : Type) := List Addr → HH → α → β → Prop
/-- a part of an expression, at the slots σ -/
def tG {α β : Type} (cA : CA) (lk : List Nat) (W : L2.WX) (R : Rel α β) (f : Env → Hp → MP.R α) : L2.St → HH → (β → HH → Prop) → Prop := fun σ H Q =>
  ∃ ρ env h, RH cA ρ (· ∈ lk) h H ∧ RE ρ H env σ ∧ Good cA lk R (f env h) ρ H Q (L2.WE W σ)
def RO' : Rel (Option Int) (Option Int) := fun _ _ w b => w = b
abbrev tE (cA : CA) (fz : List Nat) (M : Cx) (W : L2.WX) (m : Ex) : L2.TE := tG cA fz W RW (ev M m)
abbrev tT (cA : CA) (fz : List Nat) (M : Cx) (W : L2.WX) (m : Ex) : L2.TT := L2.tTest (tE cA fz M W m)
abbrev tA (cA : CA) (fz : List Nat) (M : Cx) (W : L2.WX) (ms : List Ex) : L2.TA := tG cA fz W RWs (evs M ms)
abbrev tO (cA : CA) (fz : List Nat) (M : Cx) (W : L2.WX) (m : Option Ex) : L2.TO := tG cA fz W RO' (evO M m)
theorem PE.imp {X : L2.Cx} {e : Expr} {t t' : L2.TE} (h : L2.PE X e t) (k : ∀ σ H Q, t' σ H Q → t σ H Q) : L2.PE X e t' := ⟨fun pins s σ H Q I q => h.run pins s σ H Q I (k _ _ _ q)⟩
theorem PT.imp {X : L2.Cx} {e : Expr} {t t' : L2.TT} (h : L2.PT X e t) (k : ∀ σ H Q, t' σ H Q → t σ H Q) : L2.PT X e t' := ⟨fun pins s σ H Q I q => h.run pins s σ H Q I (k _ _ _ q)⟩
theorem PW.imp {X : L2.Cx} {e : Expr} {t t' : L2.TT} (h : L2.PW X e t) (k : ∀ σ H Q, t' σ H Q → t σ H Q) : L2.PW X e t' := ⟨fun wh pins s σ H Q I q => h.run wh pins s σ H Q I (k _ _ _ q)⟩
theorem PA.imp {X : L2.Cx} {e : List Expr} {t t' : L2.TA} (h : L2.PA X e t) (k : ∀ σ H Q, t' σ H Q → t σ H Q) : L2.PA X e t' := ⟨fun pos pins s σ H Q I q => h.run pos pins s σ H Q I (k _ _ _ q)⟩
theorem PO.imp {X : L2.Cx} {e : Option Expr} {t t' : L2.TO} (h : L2.PO X e t) (k : ∀ σ H Q, t' σ H Q → t σ H Q) : L2.PO X e t' := ⟨fun pins s σ H Q I q => h.run pins s σ H Q I (k _ _ _ q)⟩
section
variable {α β γ δ : Type} {cA : CA} {lk : List Nat} {W : L2.WX} {R1 : Rel α β} {R2 : Rel γ δ} {f : Env → Hp → MP.R α} {σ : L2.St} {H : HH}
/-- first f, then k of what it answers -/
theorem tG.bind {k : α → Env → Hp → MP.R γ} {Q : δ → HH → Prop} {P : β → HH → Prop} (h : tG cA lk W R2 (fun env h => (f env h).bind fun x h => k x env h) σ H Q)
    (c : ∀ ρ env h w v H1, RH cA ρ (· ∈ lk) h H1 → RE ρ H1 env σ → R1 ρ H1 w v → Good cA lk R2 (k w env h) ρ H1 Q (L2.WE W σ) → P v H1) : tG cA lk W R1 f σ H P := by
  obtain ⟨ρ, env, h, rh, re, g⟩ := h
  exact ⟨ρ, env, h, rh, re, g.bind fun w h1 ρ1 v H1 _ x rh1 rv g1 => c ρ1 env h1 w v H1 rh1 (re.ext x) rv g1⟩
end
theorem tG.bindE {α β γ δ : Type} {cA : CA} {lk : List Nat} {W : L2.WX} {R1 : Rel α β} {R2 : Rel γ δ} {f : Env → Hp → MP.R α} {σ : L2.St} {H : HH} {k : α → Env → Hp → MP.R γ} {Q : δ → HH → Prop} {P : β → HH → Prop} (h : tG cA lk W R2 (fun env h => (f env h).bind fun x h => k x env h) σ H Q)
    (c : ∀ ρ env h h0 w v H1, f env h0 = .ok w h → RH cA ρ (· ∈ lk) h H1 → RE ρ H1 env σ → R1 ρ H1 w v → Good cA lk R2 (k w env h) ρ H1 Q (L2.WE W σ) → P v H1) : tG cA lk W R1 f σ H P := by
  obtain ⟨ρ, env, h, rh, re, g⟩ := h
  exact ⟨ρ, env, h, rh, re, g.bind fun w h1 ρ1 v H1 e x rh1 rv g1 => c ρ1 env h1 h w v H1 e rh1 (re.ext x) rv g1⟩
theorem evs_len {M : Cx} : ∀ {ms : List Ex} {env : Env} {h h' : Hp} {ws : List MP.W}, evs M ms env h = .ok ws h' → ws.length = ms.length
  | [], _, _, _, _, e => by simp only [evs] at e; cases e; rfl
  | m :: ms, env, h, h', ws, e => by
    simp only [evs] at e
    cases e1 : ev M m env h with
    | bad => rw [e1] at e; cases e
    | exc x h => rw [e1] at e; cases e
    | ok w h1 =>
      rw [e1] at e
      simp only [R.bind_ok] at e
      cases e2 : evs M ms env h1 with
      | bad => rw [e2] at e; cases e
      | exc x h => rw [e2] at e; cases e
      | ok ws' h2 =>
        rw [e2] at e
        cases e
        rw [List.length_cons, List.length_cons, evs_len e2]
section
variable {cA : CA} {fz : List Nat} {M : Cx} {W : L2.WX} {X : L2.Cx} {pos p2 : Pos}
/-! ### constants, names -/
theorem k_non {j : Nat} : L2.PE X (.Constant .none j pos) (tE cA fz M W .non) := PE.imp L2.pe_non fun σ H Q ⟨ρ, env, h, rh, re, g⟩ => g.here rh rfl
theorem k_bl {j : Nat} {b : Bool} : L2.PE X (.Constant (.bool b) j pos) (tE cA fz M W (.bl b)) := PE.imp L2.pe_bl fun σ H Q ⟨ρ, env, h, rh, re, g⟩ => g.here rh rfl
theorem k_int {j : Nat} {i : Int} : L2.PE X (.Constant (.int i) j pos) (tE cA fz M W (.int i)) := PE.imp L2.pe_int fun σ H Q ⟨ρ, env, h, rh, re, g⟩ => g.here rh rfl
theorem k_str {j : Nat} {s : List Nat} (hl : s.length ≤ LINE) : L2.PE X (.Constant (.str (sv s)) j pos) (tE cA fz M W (.str s)) := PE.imp L2.pe_str fun σ H Q ⟨ρ, env, h, rh, re, g⟩ => g.here rh ⟨hl, rfl⟩
theorem k_gint {x : Str} {i : Int} {u : Value} (hg : L2.Gl X x) (hm : X.mg x = some u) (r : L2.RelV (.int i) u) (hd : (x == ("__debug__" : Str)) = false) : L2.PE X (.Name x pos) (tE cA fz M W (.int i)) :=
  PE.imp (L2.pe_glob hg hm r hd) fun σ H Q ⟨ρ, env, h, rh, re, g⟩ => g.here rh rfl
theorem k_gstr {x : Str} {s : List Nat} {u : Value} (hl : s.length ≤ LINE) (hg : L2.Gl X x) (hm : X.mg x = some u) (r : L2.RelV (.str (sv s)) u) (hd : (x == ("__debug__" : Str)) = false) : L2.PE X (.Name x pos) (tE cA fz M W (.str s)) :=
  PE.imp (L2.pe_glob hg hm r hd) fun σ H Q ⟨ρ, env, h, rh, re, g⟩ => g.here rh ⟨hl, rfl⟩
theorem k_var {i : Nat} {x : Str} (hN : X.N[i]? = some x) (hv : L2.Vis X.env.scope x) (hd : (x == ("__debug__" : Str)) = false) (hcd : (x == ("__classdict__" : Str)) = false) : L2.PE X (.Name x pos) (tE cA fz M W (.var i)) :=
  PE.imp (L2.pe_var hN hv hd hcd) fun σ H Q ⟨ρ, env, h, rh, re, g⟩ => by
    obtain ⟨w, e, g⟩ := Good.of (show Good cA fz RW (R.of (env[i]?.join) h) ρ H Q _ from g)
    have e' : env[i]? = some (some w) := by
      cases hx : env[i]? with
      | none => rw [hx] at e; cases e
      | some o =>
        rw [hx] at e
        have e : o = some w := e
        rw [e]
    obtain ⟨v, hv, rv⟩ := re.2 i w e'
    exact ⟨v, hv, g.here rh rv⟩
/-! ### operators -/
variable {a b c : Expr} {ma mb mc : Ex}
theorem k_bin {op : BinOp} (ha : L2.PE X a (tE cA fz M W ma)) (hb : L2.PE X b (tE cA fz M W mb)) : L2.PE X (.BinOp a (pyOp op) b pos) (tE cA fz M W (.bin op ma mb)) :=
  PE.imp (L2.pe_op (bin_ok (cA := cA) (lk := fz) op) ha hb) fun σ H Q h => tG.bind h fun ρ env h w v H1 rh re rv g =>
    ⟨ρ, env, h, rh, re, g.bind fun u h2 ρ2 v2 H2 _ x rh2 ru g2 => ⟨ρ2, h2, w, u, _, rh2, rv.ext x, ru, g2⟩⟩
theorem k_neg (ha : L2.PE X a (tE cA fz M W ma)) : L2.PE X (.UnaryOp .USub a pos) (tE cA fz M W (.neg ma)) :=
  PE.imp (L2.pe_un L2.un_neg ha) fun σ H Q h => tG.bind (k := fun x _ h => neg x h) h fun ρ env h w v H1 rh re rv g => by
    unfold neg at g
    split at g
    · cases rv
      exact ⟨_, rfl, g.here rh rfl⟩
    · exact g.elim
theorem k_cmp {op : CmpOp} (hu : X.A.units + 64 < cLine) (ha : L2.PE X a (tE cA fz M W ma)) (hb : L2.PE X b (tE cA fz M W mb)) (hm : behindInMarks (pyCmp op) b = false) :
    L2.PE X (.Compare a [pyCmp op] [b] pos) (tE cA fz M W (.cmp op ma mb)) ∧ L2.PT X (.Compare a [pyCmp op] [b] pos) (tT cA fz M W (.cmp op ma mb)) := by
  have key : ∀ {σ : L2.St} {H : HH} {Q : Vv → HH → Prop}, tE cA fz M W (.cmp op ma mb) σ H Q → L2.tOp (rCmp cA op) (tE cA fz M W ma) (tE cA fz M W mb) σ H Q := fun h =>
    tG.bind h fun ρ env h w v H1 rh re rv g => ⟨ρ, env, h, rh, re, g.bind fun u h2 ρ2 v2 H2 _ x rh2 ru g2 => by
      obtain ⟨z, e, g2⟩ := g2.of
      cases hc : cmp op w u h2 with
      | none => rw [hc] at e; cases e
      | some k => rw [hc] at e; cases e; exact ⟨ρ2, _, h2, w, u, k, rh2, rv.ext x, ru, hc, g2.here rh2 rfl⟩⟩
  exact ⟨PE.imp (L2.pe_cmpR (cmp_ok (cA := cA) hu op) ha hb hm) fun σ H Q h => key h, PT.imp (L2.pt_cmpR (cmp_ok (cA := cA) hu op) ha hb hm) fun σ H Q h => key h⟩
theorem k_chain {op op' : CmpOp} (hu : X.A.units + 64 < cLine) (ha : L2.PE X a (tE cA fz M W ma)) (hb : L2.PE X b (tE cA fz M W mb)) (hc : L2.PE X c (tE cA fz M W mc)) (hm : lastMarks [pyCmp op, pyCmp op'] [b, c] = false) :
    L2.PE X (.Compare a [pyCmp op, pyCmp op'] [b, c] pos) (tE cA fz M W (.chain op op' ma mb mc)) ∧ L2.PT X (.Compare a [pyCmp op, pyCmp op'] [b, c] pos) (tT cA fz M W (.chain op op' ma mb mc)) := by
  have key : ∀ {σ : L2.St} {H : HH} {Q : Vv → HH → Prop}, tE cA fz M W (.chain op op' ma mb mc) σ H Q → L2.tChain (rCmp cA op) (rCmp cA op') (tE cA fz M W ma) (tE cA fz M W mb) (tE cA fz M W mc) σ H Q := fun h =>
    tG.bind h fun ρ env h w v H1 rh re rv g => ⟨ρ, env, h, rh, re, g.bind fun u h2 ρ2 v2 H2 _ x rh2 ru g2 => by
      obtain ⟨k, e, g2⟩ := g2.thenO
      refine ⟨ρ2, _, h2, w, u, k, rh2, rv.ext x, ru, e, k, rfl, ?_⟩
      cases k with
      | false => exact g2.here rh2 rfl
      | true =>
        refine ⟨ρ2, env, h2, rh2, re.ext x, Good.bind (r := ev M mc env h2) g2 fun t h3 ρ3 v3 H3 _ x3 rh3 rt g3 => ?_⟩
        obtain ⟨z, e, g3⟩ := g3.of
        cases hc : cmp op' u t h3 with
        | none => rw [hc] at e; cases e
        | some k => rw [hc] at e; cases e; exact ⟨ρ3, _, h3, u, t, k, rh3, ru.ext x3, rt, hc, g3.here rh3 rfl⟩⟩
  exact ⟨PE.imp (L2.pe_chain (cmp_ok (cA := cA) hu op) (cmp_ok (cA := cA) hu op') ha hb hc hm) fun σ H Q h => key h, PT.imp (L2.pt_chain (cmp_ok (cA := cA) hu op) (cmp_ok (cA := cA) hu op') ha hb hc hm) fun σ H Q h => key h⟩
/-! ### truth -/
theorem asBool_ok {w : MP.W} {k : Bool} (e : asBool w = some k) {ρ : List Addr} {H : HH} {v : Vv} (r : RW ρ H w v) : v = .bl k := by
  cases w <;> cases e <;> exact r
variable {rest : List Expr}
/-- how a test reads its first part -/
theorem tT.first {σ : L2.St} {H : HH} {Q : Bool → HH → Prop} {k : Bool → Env → Hp → MP.R MP.W} (h : tG cA fz W RW (fun env h => (ev M ma env h).bind fun x h => thenO (asBool x) fun b => k b env h) σ H fun v H' => ∃ b, v = .bl b ∧ Q b H')
    {P : Bool → HH → Prop} (c : ∀ ρ env h b H1, RH cA ρ (· ∈ fz) h H1 → RE ρ H1 env σ → Good cA fz RW (k b env h) ρ H1 (fun v H' => ∃ b, v = .bl b ∧ Q b H') (L2.WE W σ) → P b H1) : tT cA fz M W ma σ H P :=
  tG.bind h fun ρ env h w v H1 rh re rv g => by
    obtain ⟨b, e, g⟩ := g.thenO
    exact ⟨b, asBool_ok e rv, c ρ env h b H1 rh re g⟩
theorem k_and (ha : L2.PE X a (tE cA fz M W ma)) (hb : L2.PE X (.BoolOp .And (b :: rest) pos) (tE cA fz M W mb)) : L2.PE X (.BoolOp .And (a :: b :: rest) pos) (tE cA fz M W (.and ma mb)) :=
  PE.imp (L2.pe_and ha hb) fun σ H Q h => tG.bind h fun ρ env h w v H1 rh re rv g => by
    obtain ⟨k, e, g⟩ := g.thenO
    refine ⟨k, asBool_ok e rv, ?_⟩
    cases k with
    | true => exact ⟨ρ, env, h, rh, re, g⟩
    | false => exact g.here rh rfl
theorem k_or (ha : L2.PE X a (tE cA fz M W ma)) (hb : L2.PE X (.BoolOp .Or (b :: rest) pos) (tE cA fz M W mb)) : L2.PE X (.BoolOp .Or (a :: b :: rest) pos) (tE cA fz M W (.or ma mb)) :=
  PE.imp (L2.pe_or ha hb) fun σ H Q h => tG.bind h fun ρ env h w v H1 rh re rv g => by
    obtain ⟨k, e, g⟩ := g.thenO
    refine ⟨k, asBool_ok e rv, ?_⟩
    cases k with
    | false => exact ⟨ρ, env, h, rh, re, g⟩
    | true => exact g.here rh rfl
theorem k_andT (ha : L2.PT X a (tT cA fz M W ma)) (hb : L2.PW X (.BoolOp .And (b :: rest) pos) (tT cA fz M W mb)) : L2.PW X (.BoolOp .And (a :: b :: rest) pos) (tT cA fz M W (.and ma mb)) :=
  PW.imp (L2.pw_and ha hb) fun σ H Q h => tT.first (k := fun k env h => if k then ev M mb env h else .ok (.bl false) h) h fun ρ env h k H1 rh re g => by
    cases k with
    | true => exact ⟨ρ, env, h, rh, re, g⟩
    | false => obtain ⟨b, e, q⟩ := g.here rh (show RW ρ H1 (.bl false) (.bl false) from rfl); cases e; exact q
theorem k_orT (ha : L2.PT X a (tT cA fz M W ma)) (hb : L2.PW X (.BoolOp .Or (b :: rest) pos) (tT cA fz M W mb)) : L2.PW X (.BoolOp .Or (a :: b :: rest) pos) (tT cA fz M W (.or ma mb)) :=
  PW.imp (L2.pw_or ha hb) fun σ H Q h => tT.first (k := fun k env h => if k then .ok (.bl true) h else ev M mb env h) h fun ρ env h k H1 rh re g => by
    cases k with
    | false => exact ⟨ρ, env, h, rh, re, g⟩
    | true => obtain ⟨b, e, q⟩ := g.here rh (show RW ρ H1 (.bl true) (.bl true) from rfl); cases e; exact q
theorem k_not (ha : L2.PE X a (tE cA fz M W ma)) : L2.PE X (.UnaryOp .Not a pos) (tE cA fz M W (.not ma)) :=
  PE.imp (L2.pe_not ha) fun σ H Q h => tG.bind h fun ρ env h w v H1 rh re rv g => by
    obtain ⟨z, e, g⟩ := g.of
    cases hk : asBool w with
    | none => rw [hk] at e; cases e
    | some k => rw [hk] at e; cases e; exact ⟨k, asBool_ok hk rv, g.here rh rfl⟩
theorem k_notT (ha : L2.PT X a (tT cA fz M W ma)) : L2.PT X (.UnaryOp .Not a pos) (tT cA fz M W (.not ma)) :=
  PT.imp (L2.pt_not ha) fun σ H Q h => show tT cA fz M W ma σ H _ from tG.bind h fun ρ env h w v H1 rh re rv g => by
    obtain ⟨z, e, g⟩ := g.of
    cases hk : asBool w with
    | none => rw [hk] at e; cases e
    | some k => rw [hk] at e; cases e; obtain ⟨b, e, q⟩ := g.here rh (show RW ρ H1 (.bl (!k)) (.bl (!k)) from rfl); cases e; exact ⟨k, asBool_ok hk rv, q⟩
theorem k_ife (hc : L2.PT X c (tT cA fz M W mc)) (ha : L2.PE X a (tE cA fz M W ma)) (hb : L2.PE X b (tE cA fz M W mb)) : L2.PE X (.IfExp c a b pos) (tE cA fz M W (.ife mc ma mb)) :=
  PE.imp (L2.pe_ifExp hc ha hb) fun σ H Q h => show tT cA fz M W mc σ H _ from tG.bind h fun ρ env h w v H1 rh re rv g => by
    obtain ⟨k, e, g⟩ := g.thenO
    refine ⟨k, asBool_ok e rv, ?_⟩
    cases k with
    | true => exact ⟨ρ, env, h, rh, re, g⟩
    | false => exact ⟨ρ, env, h, rh, re, g⟩
/-! ### items, slices, lists of expressions -/
theorem k_ix (hu : X.A.units + 64 < cLine) (ha : L2.PE X a (tE cA fz M W ma)) (hb : L2.PE X b (tE cA fz M W mb)) (hs : L2.PlainIx b) : L2.PE X (.Subscript a b pos) (tE cA fz M W (.ix ma mb)) :=
  PE.imp (L2.pe_ix (item_ok (cA := cA) hu) ha hb hs) fun σ H Q h => tG.bind h fun ρ env h w v H1 rh re rv g =>
    ⟨ρ, env, h, rh, re, g.bind fun u h2 ρ2 v2 H2 _ x rh2 ru g2 => by
      obtain ⟨z, e, g2⟩ := g2.of
      exact ⟨ρ2, _, h2, w, u, z, rh2, rv.ext x, ru, e, fun v r => g2.here rh2 r⟩⟩
theorem k_po (ha : ∀ e m, a = e → ma = m → L2.PE X e (tE cA fz M W m)) : L2.PO X (some a) (tO cA fz M W (some ma)) :=
  PO.imp (L2.po_some (ha a ma rfl rfl)) fun σ H Q h => tG.bind (k := fun x _ h => part x h) h fun ρ env h w v H1 rh re rv g => by
    unfold part at g
    split at g
    · cases rv; exact ⟨_, rfl, g.here rh rfl⟩
    · exact g.elim
theorem k_po0 : L2.PO X none (tO cA fz M W none) := PO.imp L2.po_none fun σ H Q ⟨ρ, env, h, rh, re, g⟩ => g.here rh rfl
theorem k_sl {lo hi : Option Expr} {ml mh : Option Ex} (ha : L2.PE X a (tE cA fz M W ma)) (hl : L2.PO X lo (tO cA fz M W ml)) (hh : L2.PO X hi (tO cA fz M W mh)) : L2.PE X (.Subscript a (.Slice lo hi none p2) pos) (tE cA fz M W (.sl ma ml mh)) :=
  PE.imp (L2.pe_slice (slice_ok (cA := cA) (lk := fz)) ha hl hh) fun σ H Q h => tG.bind h fun ρ env h w v H1 rh re rv g =>
    ⟨ρ, env, h, rh, re, g.bind fun u h2 ρ2 v2 H2 _ x rh2 ru g2 => ⟨ρ2, env, h2, rh2, re.ext x, g2.bind fun t h3 ρ3 v3 H3 _ x3 rh3 rt g3 => by
      cases ru; cases rt
      exact ⟨ρ3, h3, w, _, rh3, (rv.ext x).ext x3, g3⟩⟩⟩
theorem k_nil : L2.PA X [] (tA cA fz M W []) := PA.imp L2.pa_nil fun σ H Q ⟨ρ, env, h, rh, re, g⟩ => g.here rh rfl
theorem k_cons {es : List Expr} {ms : List Ex} (ha : L2.PE X a (tE cA fz M W ma)) (hr : L2.PA X es (tA cA fz M W ms)) (hs : starEach (a :: es) X.env = (false, eval a X.env) :: starEach es X.env) : L2.PA X (a :: es) (tA cA fz M W (ma :: ms)) :=
  PA.imp (L2.pa_cons ha hr hs) fun σ H Q h => tG.bind h fun ρ env h w v H1 rh re rv g =>
    ⟨ρ, env, h, rh, re, g.bind fun u h2 ρ2 v2 H2 _ x rh2 ru g2 => g2.here rh2 ⟨v, v2, rfl, rv.ext x, ru⟩⟩
theorem k_tup {es : List Expr} {ms : List Ex} {x1 : Nat} (h : L2.PA X es (tA cA fz M W ms)) (hl : ms.length ≤ 1000) : L2.PE X (.Tuple es x1 pos) (tE cA fz M W (.tup ms)) :=
  PE.imp (L2.pe_tup h) fun σ H Q h => tG.bindE h fun ρ env h h0 w v H1 e rh re rv g => ⟨by rw [← rv.length, evs_len e]; exact Nat.le_trans hl (by rw [sizeLine_eq]; decide), mk_tup g rh rv⟩
theorem k_lst {es : List Expr} {ms : List Ex} (h : L2.PA X es (tA cA fz M W ms)) (hl : ms.length ≤ 1000) : L2.PE X (.List es pos) (tE cA fz M W (.lst ms)) :=
  PE.imp (L2.pe_lst h) fun σ H Q h => tG.bindE h fun ρ env h h0 w v H1 e rh re rv g => ⟨by rw [← rv.length, evs_len e]; exact Nat.le_trans hl (by rw [sizeLine_eq]; decide), mk_lst g rh rv⟩
end
end MP

namespace MP
open PySem PySem.Spec PyProof.Rows
/-! ### built-in functions by values -/
def rBlt (cA : CA) (lk : List Nat) (b : Blt) : List Vv → HH → L2.VK → Prop := fun vs H Q => ∃ ρ h ws E, RH cA ρ (· ∈ lk) h H ∧ RWs ρ H ws vs ∧ Good cA lk RW (blt b ws h) ρ H Q E
section
variable {cA : CA} {Y : L2.Cx} {L : Nat → Prop} {lk : List Nat} {ρ : List Addr} {H : HH} {h : Hp} {pins : List (Addr × Obj)} {s : Shared} {σ : L2.St} {f : Value}
theorem rws1 {w : MP.W} {vs : List Vv} (r : RWs ρ H [w] vs) : ∃ v, vs = [v] ∧ RW ρ H w v := by
  obtain ⟨v, t, rfl, r1, r2⟩ := r
  cases r2
  exact ⟨v, rfl, r1⟩
theorem rws2 {w u : MP.W} {vs : List Vv} (r : RWs ρ H [w, u] vs) : ∃ v t, vs = [v, t] ∧ RW ρ H w v ∧ RW ρ H u t := by
  obtain ⟨v, _, rfl, r1, r2⟩ := r
  obtain ⟨t, rfl, r3⟩ := rws1 r2
  exact ⟨v, t, rfl, r1, r3⟩
theorem RWs.intsOf {ws : List MP.W} {ns : List Int} (e : intsV ws = some ns) {vs : List Vv} (r : RWs ρ H ws vs) : vs = ns.map .int := by
  induction ws generalizing ns vs with
  | nil => cases e; cases r; rfl
  | cons w ws ih =>
    obtain ⟨v, t, rfl, r1, r2⟩ := r
    cases w with
    | int i =>
      unfold intsV at e
      cases h : intsV ws with
      | none => rw [h] at e; cases e
      | some l => rw [h] at e; cases e; cases r1; rw [ih h r2]; rfl
    | _ => simp [intsV] at e
theorem blt_len : L2.CallR Y (.builtin "len") (rBlt cA lk .len) := by
  intro pins s σ H xs us Q I r ⟨ρ, h, ws, E, rh, rw', g⟩
  match ws, rw', g with
  | [], _, g => exact g.elim
  | _ :: _ :: _, _, g => exact g.elim
  | [x], rw', g =>
    have g : Good cA lk RW (.of ((lenW x h).map fun n => MP.W.int (n : Int)) h) ρ H Q E := g
    obtain ⟨v, rfl, rv⟩ := rws1 rw'
    obtain ⟨z, e, g⟩ := g.of
    cases hn : lenW x h with
    | none => rw [hn] at e; cases e
    | some n =>
      rw [hn] at e
      cases e
      cases x with
      | str cs =>
        cases hn
        obtain ⟨hl, rfl⟩ := rv
        exact L2.call_len_str pins s σ H _ us Q I r ⟨_, rfl, Nat.le_trans hl line_le, g.here rh rfl⟩
      | tup xs =>
        cases hn
        obtain ⟨p, vs, rfl, hp, rr⟩ := rv
        have gq := g.here rh (show RW ρ H (.int _) _ from rfl)
        rw [rr.length] at gq
        exact L2.call_len_seq pins s σ H _ us Q I r ⟨p, vs, rfl, .inr (.of hp), gq⟩
      | ref n0 =>
        obtain ⟨p, rfl, hp⟩ := rv
        have hn : lenO (rd h n0) = some n := hn
        unfold lenO at hn
        split at hn
        · rename_i e1
          cases hn
          obtain ⟨p', hp', vs, rr, at1⟩ := rh.get e1
          rw [hp] at hp'; cases hp'
          have gq := g.here rh (show RW ρ H (.int _) _ from rfl)
          rw [rr.length] at gq
          exact L2.call_len_seq pins s σ H _ us Q I r ⟨p, vs, rfl, .inl at1.seqL, gq⟩
        · rename_i kvs e1
          cases hn
          obtain ⟨p', hp', rr⟩ := rh.get e1
          rw [hp] at hp'; cases hp'
          obtain ⟨u, rfl, rx⟩ := L2.vals1 r
          obtain rfl : u = Value.ref p := rx
          have gq := g.here rh (show RW ρ H (.int _) _ from rfl)
          rcases rr with ⟨ks, rr, nd, at1⟩ | ⟨ks, rr, nd, at1⟩
          · refine L2.d_len I at1.rd fun t s' I' => ⟨.int ks.length, H, I', ⟨t, rfl⟩, ?_⟩
            rw [← Paired.length rr]; exact gq
          · obtain ⟨z, hd, ys, rel, dd⟩ := L2.dt_rd I.hok at1.rd
            have hl : ks.length = ys.length := Paired.length rel
            refine call_len_dictH hd dd (by rw [← hl]; rw [sizeLine_eq] at z; omega) ?_
            rw [← hl, ← Paired.length rr]
            exact ⟨.int _, H, I.tok _, ⟨_, rfl⟩, gq⟩
        · cases hn
      | _ => cases hn
theorem blt_divmod : L2.CallR Y (.builtin "divmod") (rBlt cA lk .divmod) := by
  intro pins s σ H xs us Q I r ⟨ρ, h, ws, E, rh, rw', g⟩
  match ws, rw', g with
  | [], _, g => exact g.elim
  | [.non], _, g => exact g.elim
  | [x], rw', g => cases x <;> exact g.elim
  | x :: y :: _ :: _, _, g => cases x <;> cases y <;> exact g.elim
  | [x, y], rw', g =>
    cases x with
    | int i =>
      cases y with
      | int j =>
        obtain ⟨v, t, rfl, rv, rt⟩ := rws2 rw'
        have g : Good cA lk RW (guardR (divOk j) (.ok (.tup [.int (i / j), .int (i % j)]) h)) ρ H Q E := g
        cases rv; cases rt
        obtain ⟨e, g⟩ := g.guardR
        have c := divOk_ok (i := i) e
        refine L2.call_divmodW pins s σ H _ us Q I r ⟨_, _, rfl, ⟨c.1, PyProof.noPylong_of_log2 c.2⟩, mk_tup g rh ⟨_, _, rfl, rfl, _, _, rfl, rfl, rfl⟩⟩
      | _ => exact g.elim
    | _ => cases y <;> exact g.elim
theorem blt_int : L2.CallR Y (.type "int") (rBlt cA lk .int) := by
  intro pins s σ H xs us Q I r ⟨ρ, h, ws, E, rh, rw', g⟩
  match ws, rw', g with
  | [], _, g => exact g.elim
  | x :: _ :: _, _, g => cases x <;> exact g.elim
  | [x], rw', g =>
    obtain ⟨v, rfl, rv⟩ := rws1 rw'
    cases x with
    | int i =>
      cases rv
      exact L2.call_int1 pins s σ H _ us Q I r (.inl ⟨_, rfl, Good.here (w := MP.W.int i) g rh rfl⟩)
    | bl b =>
      cases rv
      exact L2.call_int1 pins s σ H _ us Q I r (.inr ⟨_, rfl, Good.here (w := MP.W.int (if b then 1 else 0)) g rh rfl⟩)
    | _ => exact g.elim
theorem blt_min2 (hc : Y.calm = true) : L2.CallR Y (.builtin "min") (rBlt cA lk .min2) := by
  intro pins s σ H xs us Q I r ⟨ρ, h, ws, E, rh, rw', g⟩
  match ws, rw', g with
  | [], _, g => exact g.elim
  | [x], _, g => cases x <;> exact g.elim
  | x :: y :: _ :: _, _, g => cases x <;> first | exact g.elim | (cases y <;> exact g.elim)
  | [x, y], rw', g =>
    cases x with
    | int i =>
      cases y with
      | int j =>
        obtain ⟨v, t, rfl, rv, rt⟩ := rws2 rw'
        cases rv; cases rt
        exact L2.call_min2 hc pins s σ H _ us Q I r ⟨_, _, rfl, Good.here (w := MP.W.int (if j < i then j else i)) g rh rfl⟩
      | _ => exact g.elim
    | _ => cases y <;> exact g.elim
theorem blt_max2 (hc : Y.calm = true) : L2.CallR Y (.builtin "max") (rBlt cA lk .max2) := by
  intro pins s σ H xs us Q I r ⟨ρ, h, ws, E, rh, rw', g⟩
  match ws, rw', g with
  | [], _, g => exact g.elim
  | [x], _, g => cases x <;> exact g.elim
  | x :: y :: _ :: _, _, g => cases x <;> first | exact g.elim | (cases y <;> exact g.elim)
  | [x, y], rw', g =>
    cases x with
    | int i =>
      cases y with
      | int j =>
        obtain ⟨v, t, rfl, rv, rt⟩ := rws2 rw'
        cases rv; cases rt
        exact L2.call_max2 hc pins s σ H _ us Q I r ⟨_, _, rfl, Good.here (w := MP.W.int (if i < j then j else i)) g rh rfl⟩
      | _ => exact g.elim
    | _ => cases y <;> exact g.elim
end
end MP

namespace MP
open PySem PySem.Spec PyProof.Rows
/-! ### classes; isinstance -/
def tyNames : List String := ["int", "bool", "str", "list", "tuple", "dict"]
/-- what the text's classes must have -/
structure CF (cA : CA) (T : Prog) (K : PySem.W.Frag) : Prop where
  cls : ∀ c ∈ cA.cls, L2.Cls K (cA.ad c)
  ins : ∀ c ∈ cA.cls, PySem.W.findIn K (.ref (cA.ad c)) "__class__" = some (some (.builtin "object.__class__")) ∧ PySem.W.specialIn K (.builtin "object.__class__") "__get__" = some (some (.builtin "getset_descriptor.__get__")) ∧
    PySem.W.takesIn K (.builtin "object.__class__") = some true ∧ PySem.W.mroIn K (cA.ad c) (.type "object") = some true
  isB : ∀ c ∈ cA.cls, ∀ n ∈ tyNames, PySem.W.kitOne K (.ref (cA.ad c)) (.type n) = some false
  isV : ∀ n ∈ "NoneType" :: tyNames, ∀ c ∈ cA.cls, PySem.W.kitOne K (.type n) (.ref (cA.ad c)) = some false
  isO : ∀ d ∈ cA.cls, ∀ c ∈ cA.cls, PySem.W.kitOne K (.ref (cA.ad d)) (.ref (cA.ad c)) = some (T.sub d c)
def tyC (cA : CA) : Ty → Value
  | .int => .type "int" | .bool => .type "bool" | .str => .type "str" | .list => .type "list" | .tuple => .type "tuple" | .dict => .type "dict"
  | .own c => .ref (cA.ad c)
def tyV (cA : CA) : Ty → Vv
  | .int => .ty "int" | .bool => .ty "bool" | .str => .ty "str" | .list => .ty "list" | .tuple => .ty "tuple" | .dict => .ty "dict"
  | .own c => .ref (cA.ad c)
def tyOk (cA : CA) : Ty → Bool
  | .own c => decide (c ∈ cA.cls)
  | _ => true
theorem tyC_rel (cA : CA) (t : Ty) : L2.RelV (tyV cA t) (tyC cA t) := by cases t <;> rfl
theorem tyC_inj (cA : CA) (t : Ty) {u : Value} (r : L2.RelV (tyV cA t) u) : u = tyC cA t := by cases t <;> exact r
theorem kit_b {K : PySem.W.Frag} {a b : String} {r : Bool} (h : L2.kitB a b = some r) : PySem.W.kitOne K (.type a) (.type b) = some r := L2.kit_ty h
section
variable {cA : CA} {T : Prog} {Y : L2.Cx} {L : Nat → Prop} {lk : List Nat} {ρ : List Addr} {H : HH} {h : Hp} {pins : List (Addr × Obj)} {s : Shared} {σ : L2.St}
/-- a value's type, as the machine sees it -/
theorem kit_of (F : CF cA T Y.K) (I : L2.Inv Y pins σ H s) (rh : RH cA ρ L h H) {w : MP.W} {v : Vv} {u : Value} (r : RW ρ H w v) (q : L2.RelV v u) {t : Ty} {b : Bool} (ht : tyOk cA t = true) (e : isTy T w t h = some b) :
    ∃ (tv : Value) (P : Heap → Prop), PySem.W.KitX Y.K u tv P ∧ P s.heap ∧ u ≠ .builtin "__main__.__loader__#opaque" ∧ PySem.W.kitOne Y.K tv (tyC cA t) = some b := by
  have own : ∀ {c : String}, tyOk cA (.own c) = true → c ∈ cA.cls := fun h => of_decide_eq_true h
  cases w with
  | non =>
    cases r; cases q
    refine ⟨_, _, PySem.W.kitx_none, True.intro, (fun z => nomatch z), ?_⟩
    cases t <;> cases e <;> first | exact kit_b (by decide +kernel) | exact F.isV _ (by decide) _ (own ht)
  | bl x =>
    cases r; cases q
    refine ⟨_, _, PySem.W.kitx_bool, True.intro, (fun z => nomatch z), ?_⟩
    cases t <;> cases e <;> first | exact kit_b (by decide +kernel) | exact F.isV _ (by decide) _ (own ht)
  | int x =>
    cases r; obtain ⟨tk, rfl⟩ := q
    refine ⟨_, _, PySem.W.kitx_int, True.intro, (fun z => nomatch z), ?_⟩
    cases t <;> cases e <;> first | exact kit_b (by decide +kernel) | exact F.isV _ (by decide) _ (own ht)
  | str x =>
    obtain ⟨_, rfl⟩ := r; obtain ⟨tk, rfl⟩ := q
    refine ⟨_, _, PySem.W.kitx_str, True.intro, (fun z => nomatch z), ?_⟩
    cases t <;> cases e <;> first | exact kit_b (by decide +kernel) | exact F.isV _ (by decide) _ (own ht)
  | tup xs =>
    obtain ⟨a, vs, rfl, ha, _⟩ := r
    cases (show u = Value.ref a from q)
    obtain ⟨_, _, _, o, h1, h2, _⟩ := I.hok a _ ha
    refine ⟨_, _, PySem.W.kitx_tuple, ⟨o, h1, h2⟩, (fun z => nomatch z), ?_⟩
    cases t <;> cases e <;> first | exact kit_b (by decide +kernel) | exact F.isV _ (by decide) _ (own ht)
  | ref n =>
    obtain ⟨a, rfl, ha⟩ := r
    cases (show u = Value.ref a from q)
    have hl : n < h.length := by rw [← rh.len]; exact ix_lt ha
    have hr : rd h n = some h[n] := List.getElem?_eq_getElem hl
    obtain ⟨a', ha', ro⟩ := rh.get hr
    rw [ha] at ha'; cases ha'
    cases ho : h[n] with
    | lst xs =>
      rw [ho] at ro hr
      obtain ⟨vs, rr, at1⟩ := ro
      obtain ⟨_, _, _, _, h1⟩ := at1.rd.ok I.hok
      refine ⟨_, _, PySem.W.kitx_list, ⟨_, h1, rfl⟩, (fun z => nomatch z), ?_⟩
      cases t <;> simp only [isTy, hr, isLst, isDct, isOwn] at e <;> cases e <;> first | exact kit_b (by decide +kernel) | exact F.isV _ (by decide) _ (own ht)
    | dct kvs =>
      rw [ho] at ro hr
      have : ∃ o, s.heap.get? a = some o ∧ o.cls = .type "dict" := by
        rcases ro with ⟨ks, _, _, at1⟩ | ⟨ks, _, _, at1⟩
        · obtain ⟨_, _, _, _, o, _, _, h1, h2, _⟩ := at1.rd.ok I.hok
          exact ⟨o, h1, h2.1⟩
        · obtain ⟨_, _, _, _, o, _, _, h1, h2, _⟩ := at1.rd.ok I.hok
          exact ⟨o, h1, h2.1⟩
      refine ⟨_, _, PySem.W.kitx_dict, this, (fun z => nomatch z), ?_⟩
      cases t <;> simp only [isTy, hr, isLst, isDct, isOwn] at e <;> cases e <;> first | exact kit_b (by decide +kernel) | exact F.isV _ (by decide) _ (own ht)
    | ins c fs =>
      rw [ho] at ro hr
      obtain ⟨dx, gs, hc, hi, rf⟩ := ro
      obtain ⟨mA, O, _⟩ := L2.ins_get I.hok hi
      obtain ⟨od, J, _⟩ := O.look
      obtain ⟨i1, i2, i3, i4⟩ := F.ins c hc
      refine ⟨_, _, PySem.W.kitx_own ((F.cls c hc).get _) (F.cls c hc).hd i1 i2 i3 i4, J, (fun z => nomatch z), ?_⟩
      cases t <;> simp only [isTy, hr, isLst, isDct, isOwn] at e <;> cases e <;> first | exact F.isB c hc _ (by decide) | exact F.isO c hc _ (own ht)
/-- isinstance by values -/
def rIsi (cA : CA) (T : Prog) (t : Ty) : List Vv → HH → L2.VK → Prop := fun vs H Q => ∃ ρ L h w v b, RH cA ρ L h H ∧ RW ρ H w v ∧ vs = [v, tyV cA t] ∧ isTy T w t h = some b ∧ Q (.bl b) H
theorem call_isi (F : CF cA T Y.K) {t : Ty} (ht : tyOk cA t = true) : L2.CallR Y (.builtin "isinstance") (rIsi cA T t) := by
  intro pins s σ H xs us Q I r ⟨ρ, L, h, w, v, b, rh, rv, e1, e, q⟩
  subst e1
  obtain ⟨u1, u2, rfl, r1, r2⟩ := L2.vals2 r
  cases tyC_inj cA t r2
  obtain ⟨tv, P, Z, p, hx, k⟩ := kit_of F I rh rv r1 ht e
  exact PySem.W.kia_one Z I.kIn p k hx fun tk => ⟨.bl b, H, I.tok tk, rfl, q⟩
end
section
variable {cA : CA} {fz : List Nat} {M : Cx} {W : L2.WX} {X : L2.Cx} {pos p2 p : Pos} {a : Expr} {ma : Ex}
theorem k_isi {t : Ty} {x : Str} {c : Expr} (F : CF cA M.T X.K) (ht : tyOk cA t = true) (hg : L2.Gl X x) (hm : X.mg x = none) (hv : bootBuiltins x = some (.builtin "isinstance")) (hn : x ≠ "__name__") (hdb : (x == ("__debug__" : Str)) = false)
    (ha : L2.PE X a (tE cA fz M W ma)) (hc : L2.PE X c (L2.tC (tyV cA t))) (he : starEach [a, c] X.env = (false, eval a X.env) :: starEach [c] X.env) (he2 : starEach [c] X.env = (false, eval c X.env) :: starEach [] X.env) (hpl : (backTo pos (starEach [c] X.env)).any (·.1) = false) :
    L2.PE X (.Call (.Name x p) [a, c] [] pos) (tE cA fz M W (.isi ma t)) :=
  PE.imp (L2.pe_callB (call_isi F ht) hg hm hv (L2.pa_cons ha (L2.pa_cons hc L2.pa_nil he2) he) hn hdb he hpl) fun σ H Q h => tG.bind h fun ρ env h w v H1 rh re rv g => by
    obtain ⟨z, e, g⟩ := g.of
    cases hk : isTy M.T w t h with
    | none => rw [hk] at e; cases e
    | some k => rw [hk] at e; cases e; exact ⟨ρ, _, h, w, v, k, rh, rv, rfl, hk, g.here rh rfl⟩
theorem k_bltn {b : Blt} {id : String} {x : Str} {es : List Expr} {ms : List Ex} (hc : L2.CallR X (.builtin id) (rBlt cA fz b)) (hg : L2.Gl X x) (hm : X.mg x = none) (hv : bootBuiltins x = some (.builtin id)) (hn : x ≠ "__name__") (hdb : (x == ("__debug__" : Str)) = false)
    (ha : L2.PA X (a :: es) (tA cA fz M W ms)) (he : starEach (a :: es) X.env = (false, eval a X.env) :: starEach es X.env) (hpl : (backTo pos (starEach es X.env)).any (·.1) = false) : L2.PE X (.Call (.Name x p) (a :: es) [] pos) (tE cA fz M W (.blt b ms)) :=
  PE.imp (L2.pe_callB hc hg hm hv ha hn hdb he hpl) fun σ H Q h => tG.bind h fun ρ env h w v H1 rh re rv g => ⟨ρ, h, w, _, rh, rv, g⟩
theorem k_bltt {b : Blt} {id : String} {x : Str} {es : List Expr} {ms : List Ex} (hc : L2.CallR X (.type id) (rBlt cA fz b)) (hg : L2.Gl X x) (hm : X.mg x = none) (hv : bootBuiltins x = some (.type id)) (hn : x ≠ "__name__") (hdb : (x == ("__debug__" : Str)) = false)
    (ha : L2.PA X (a :: es) (tA cA fz M W ms)) (he : starEach (a :: es) X.env = (false, eval a X.env) :: starEach es X.env) (hpl : (backTo pos (starEach es X.env)).any (·.1) = false) : L2.PE X (.Call (.Name x p) (a :: es) [] pos) (tE cA fz M W (.blt b ms)) :=
  PE.imp (L2.pe_callTy hc hg hm hv ha hn hdb he hpl) fun σ H Q h => tG.bind h fun ρ env h w v H1 rh re rv g => ⟨ρ, h, w, _, rh, rv, g⟩
/-! ### calls of the text's own defs -/
/-- what a def of the text promises: n calls within one another -/
def spI (cA : CA) (T : Prog) (n : Nat) (f : String) : L2.Sp := fun vs H Q E => ∃ ρ fz lk h ws, (∀ n ∈ fz, n ∈ lk) ∧ RH cA ρ (· ∈ fz) h H ∧ RWs ρ H ws vs ∧ Good cA fz RW (run T n lk f ws h) ρ H Q E
/-- the def f of the text stands at a -/
structure FnAt (cA : CA) (T : Prog) (P : Program) (w : World) (K : PySem.W.Frag) (mg : Str → Option Value) (base : Heap) (n : Nat) (f : String) (a : Addr) (fd : FuncData) (ps : List Str) : Prop where
  ok : L2.FnOk P w K mg base (L2.CX P w) (2 * n) a fd ps (spI cA T n f) ∧ L2.Binds K fd ps []
  kp : PySem.W.keepIn K (.ref a) = true
theorem k_call {f : String} {n : Nat} {fa : Addr} {fd : FuncData} {ps : List Str} {x : Str} {es : List Expr} {ms : List Ex} (hz : ∀ n ∈ fz, n ∈ M.lk) (hM : M.call = run M.T n) (F : FnAt cA M.T X.prog X.w X.K X.mg X.base n f fa fd ps) (hr : L2.Room (2 * n) X.A) (tk : L2.Takes X W) (hg : L2.Gl X x) (hm : X.mg x = some (.ref fa)) (hdb : (x == ("__debug__" : Str)) = false)
    (ha : L2.PA X (a :: es) (tA cA fz M W ms)) (he : starEach (a :: es) X.env = (false, eval a X.env) :: starEach es X.env) (hpl : (backTo pos (starEach es X.env)).any (·.1) = false) : L2.PE X (.Call (.Name x p) (a :: es) [] pos) (tE cA fz M W (.call f ms)) := by
  obtain ⟨F1, B⟩ := F.ok
  exact PE.imp (L2.pe_callS (E := L2.WE W) F1 hr hg hm F.kp B (fun σ => L2.passAt tk σ) ha hdb he hpl) fun σ H Q h => tG.bind h fun ρ env h w v H1 rh re rv g => by
    rw [hM] at g
    exact ⟨ρ, fz, M.lk, h, w, hz, rh, rv, g⟩
/-- a call of nothing -/
theorem k_call0 {f : String} {n : Nat} {fa : Addr} {fd : FuncData} {ps : List Str} {x : Str} (hz : ∀ n ∈ fz, n ∈ M.lk) (hM : M.call = run M.T n) (F : FnAt cA M.T X.prog X.w X.K X.mg X.base n f fa fd ps) (hr : L2.Room (2 * n) X.A) (tk : L2.Takes X W) (hg : L2.Gl X x) (hm : X.mg x = some (.ref fa)) (hdb : (x == ("__debug__" : Str)) = false) :
    L2.PE X (.Call (.Name x p) [] [] pos) (tE cA fz M W (.call f [])) := by
  obtain ⟨F1, B⟩ := F.ok
  have k : L2.PE X (.Call (.Name x p) [] [] pos) (L2.tCallS (spI cA M.T n f) (L2.WE W) L2.tNil) :=
    ⟨fun pins s σ H Q I h => wpAny_Call_Name_kw (L2.ld_glob I hg hm (PySem.W.callWith_K0 I.kIn F.kp (L2.run_fnS (us := []) F1 hr B (L2.passAt tk σ) I .nil h)) hdb)⟩
  exact PE.imp k fun σ H Q ⟨ρ, env, h, rh, re, g⟩ => by
    have g : Good cA fz RW (M.call M.lk f [] h) ρ H Q (L2.WE W σ) := g
    rw [hM] at g
    exact ⟨ρ, fz, M.lk, h, [], hz, rh, rfl, g⟩
end
end MP

namespace MP
open PySem PySem.Spec PyProof.Rows
/-! ### statements as readings -/
def GoodF (cA : CA) (lk : List Nat) (f : Fl) (h' : Hp) (ρ : List Addr) (H : HH) (D : L2.Ends) : Prop :=
  ∀ ρ' σ' H', Ext ρ ρ' H H' → RH cA ρ' (· ∈ lk) h' H' → match f with
    | .nx env' => RE ρ' H' env' σ' → D.nx σ' H'
    | .bk env' => RE ρ' H' env' σ' → D.bk σ' H'
    | .ct env' => RE ρ' H' env' σ' → D.ct σ' H'
    | .rt w => ∀ v, RW ρ' H' w v → D.rt v H'
def GoodS (cA : CA) (lk : List Nat) (r : S) (ρ : List Addr) (H : HH) (D : L2.Ends) (W : L2.WX) : Prop :=
  match r with
  | .ok f h' => GoodF cA lk f h' ρ H D
  | .exc x env' h' => ∀ ρ' cls d σ' H', Ext ρ ρ' H H' → RH cA ρ' (fun _ => True) h' H' → RX cA ρ' H' x cls d → RE ρ' H' env' σ' → W cls d σ' H'
  | .bad => False
def tS (cA : CA) (fz : List Nat) (W : L2.WX) (f : Env → Hp → S) : L2.TS := fun D σ H => ∃ ρ env h, RH cA ρ (· ∈ fz) h H ∧ RE ρ H env σ ∧ GoodS cA fz (f env h) ρ H D W
theorem PS.imp {X : L2.Cx} {e : Stmt} {t t' : L2.TS} (h : L2.PS X e t) (k : ∀ D σ H, t' D σ H → t D σ H) : L2.PS X e t' := ⟨fun pins s σ H D I q => h.run pins s σ H D I (k _ _ _ q)⟩
theorem PSs.imp {X : L2.Cx} {e : List Stmt} {t t' : L2.TS} (h : L2.PSs X e t) (k : ∀ D σ H, t' D σ H → t D σ H) : L2.PSs X e t' := ⟨fun pins s σ H D I q => h.run pins s σ H D I (k _ _ _ q)⟩
section
variable {α β : Type} {cA : CA} {fz : List Nat} {W : L2.WX} {ρ ρ1 : List Addr} {H H1 : HH} {D : L2.Ends} {R1 : Rel α β} {σ : L2.St}
theorem GoodS.ext {r : S} (g : GoodS cA fz r ρ H D W) (x : Ext ρ ρ1 H H1) : GoodS cA fz r ρ1 H1 D W := by
  cases r with
  | bad => exact g
  | ok f h => exact fun ρ' σ' H' e => g ρ' σ' H' (x.trans e)
  | exc y env h => exact fun ρ' c d σ' H' e => g ρ' c d σ' H' (x.trans e)
theorem GoodS.on {r : MP.R α} {env : Env} {f : α → Hp → S} {Q : β → HH → Prop} (g : GoodS cA fz (r.on env f) ρ H D W) (re : RE ρ H env σ)
    (k : ∀ w h1 ρ1 v H1, r = .ok w h1 → Ext ρ ρ1 H H1 → RH cA ρ1 (· ∈ fz) h1 H1 → R1 ρ1 H1 w v → RE ρ1 H1 env σ → GoodS cA fz (f w h1) ρ1 H1 D W → Q v H1) : Good cA fz R1 r ρ H Q (L2.WE W σ) := by
  cases r with
  | bad => exact g
  | ok w h => exact fun ρ1 v H1 e rh rel => k w h ρ1 v H1 rfl e rh rel (re.ext e) (GoodS.ext (r := f w h) g e)
  | exc y h => exact fun ρ' c d H' e rh rx => g ρ' c d σ H' e rh rx (re.ext e)
theorem tS.on {f : Env → Hp → MP.R α} {k : α → Env → Hp → S} {Q : β → HH → Prop} {H : HH} (h : tS cA fz W (fun env h => (f env h).on env fun w h => k w env h) D σ H)
    (c : ∀ ρ env h w v H1, RH cA ρ (· ∈ fz) h H1 → RE ρ H1 env σ → R1 ρ H1 w v → GoodS cA fz (k w env h) ρ H1 D W → Q v H1) : tG cA fz W R1 f σ H Q := by
  obtain ⟨ρ, env, h, rh, re, g⟩ := h
  exact ⟨ρ, env, h, rh, re, g.on re fun w h1 ρ1 v H1 _ x rh1 rv re1 g1 => c ρ1 env h1 w v H1 rh1 re1 rv g1⟩
theorem GoodS.thenS {o : Option α} {f : α → S} (g : GoodS cA fz (thenS o f) ρ H D W) : ∃ w, o = some w ∧ GoodS cA fz (f w) ρ H D W := by
  cases o with
  | none => exact g.elim
  | some w => exact ⟨w, rfl, g⟩
theorem GoodS.nx {env : Env} {h : Hp} (g : GoodS cA fz (.ok (.nx env) h) ρ H D W) (rh : RH cA ρ (· ∈ fz) h H) (re : RE ρ H env σ) : D.nx σ H := g ρ σ H .refl rh re
/-- behind a statement: the rest, wherever it went -/
theorem GoodS.then {r : S} {f : Env → Hp → S} (g : GoodS cA fz (r.then f) ρ H D W) : GoodS cA fz r ρ H { D with nx := tS cA fz W f D } W := by
  cases r with
  | bad => exact g
  | exc y env h => exact g
  | ok fl h =>
    cases fl with
    | nx env => exact fun ρ' σ' H' x rh re => ⟨ρ', env, h, rh, re, GoodS.ext (r := f env h) g x⟩
    | bk env => exact g
    | ct env => exact g
    | rt w => exact g
/-- behind a turn -/
theorem GoodS.turn {r : S} {f : Env → Hp → S} {lk : List Nat} {h0 : Hp} (g : GoodS cA fz (r.turn f) ρ H D W) (kp : SK lk h0 r) :
    GoodS cA fz r ρ H ⟨fun σ' H' => ∃ ρ' env h, Ext ρ ρ' H H' ∧ Kp lk h0 h ∧ RH cA ρ' (· ∈ fz) h H' ∧ RE ρ' H' env σ' ∧ GoodS cA fz (f env h) ρ' H' D W, D.rt, D.nx, fun σ' H' => ∃ ρ' env h, Ext ρ ρ' H H' ∧ Kp lk h0 h ∧ RH cA ρ' (· ∈ fz) h H' ∧ RE ρ' H' env σ' ∧ GoodS cA fz (f env h) ρ' H' D W⟩ W := by
  cases r with
  | bad => exact g
  | exc y env h => exact g
  | ok fl h =>
    cases fl with
    | nx env => exact fun ρ' σ' H' x rh re => ⟨ρ', env, h, x, kp, rh, re, GoodS.ext (r := f env h) g x⟩
    | ct env => exact fun ρ' σ' H' x rh re => ⟨ρ', env, h, x, kp, rh, re, GoodS.ext (r := f env h) g x⟩
    | bk env => exact g
    | rt w => exact g
end
section
variable {cA : CA} {fz : List Nat} {M : Cx} {W : L2.WX} {X : L2.Cx} {pos p2 : Pos} {a b c : Expr} {ma mb mc : Ex}
abbrev tX (cA : CA) (fz : List Nat) (M : Cx) (W : L2.WX) (m : St) : L2.TS := tS cA fz W (ex M m)
abbrev tXs (cA : CA) (fz : List Nat) (M : Cx) (W : L2.WX) (m : List St) : L2.TS := tS cA fz W (exs M m)
theorem s_nil : L2.PSs X [] (tXs cA fz M W []) := PSs.imp L2.pss_nil fun D σ H ⟨ρ, env, h, rh, re, g⟩ => GoodS.nx (D := D) (W := W) g rh re
theorem s_cons {st : Stmt} {rest : List Stmt} {m : St} {ms : List St} (h1 : L2.PS X st (tX cA fz M W m)) (h2 : L2.PSs X rest (tXs cA fz M W ms)) : L2.PSs X (st :: rest) (tXs cA fz M W (m :: ms)) :=
  PSs.imp (L2.pss_cons h1 h2) fun D σ H ⟨ρ, env, h, rh, re, g⟩ => ⟨ρ, env, h, rh, re, GoodS.then (f := exs M ms) g⟩
theorem s_pass : L2.PS X (.Pass pos) (tX cA fz M W .pass) := PS.imp L2.ps_pass fun D σ H ⟨ρ, env, h, rh, re, g⟩ => GoodS.nx (D := D) (W := W) g rh re
theorem s_brk : L2.PS X (.Break pos) (tX cA fz M W .brk) := PS.imp L2.ps_break fun D σ H ⟨ρ, env, h, rh, re, g⟩ => g ρ σ H .refl rh re
theorem s_cont : L2.PS X (.Continue pos) (tX cA fz M W .cont) := PS.imp L2.ps_continue fun D σ H ⟨ρ, env, h, rh, re, g⟩ => g ρ σ H .refl rh re
theorem s_expr (ha : L2.PE X a (tE cA fz M W ma)) (hs : swapsWith a none pos.line X.env = pure false) : L2.PS X (.Expr a pos) (tX cA fz M W (.expr ma)) :=
  PS.imp (L2.ps_expr ha hs) fun D σ H h => tS.on h fun ρ env h w v H1 rh re rv g => g.nx rh re
theorem s_ret (ha : L2.PE X a (tE cA fz M W ma)) : L2.PS X (.Return (some a) pos) (tX cA fz M W (.ret ma)) :=
  PS.imp (L2.ps_ret ha) fun D σ H h => tS.on h fun ρ env h w v H1 rh re rv g => g ρ σ H1 .refl rh v rv
theorem s_if {p q : List Stmt} {mp mq : List St} (hc : L2.PT X c (tT cA fz M W mc)) (hp : L2.PSs X p (tXs cA fz M W mp)) (hq : L2.PSs X q (tXs cA fz M W mq)) : L2.PS X (.If c p q pos) (tX cA fz M W (.ite mc mp mq)) :=
  PS.imp (L2.ps_if hc hp hq) fun D σ H h => show tT cA fz M W mc σ H _ from tS.on h fun ρ env h w v H1 rh re rv g => by
    obtain ⟨k, e, g⟩ := g.thenS
    refine ⟨k, asBool_ok e rv, ?_⟩
    cases k with
    | true => exact ⟨ρ, env, h, rh, re, g⟩
    | false => exact ⟨ρ, env, h, rh, re, g⟩
/-! ### targets -/
def tgIx : Tg → List Nat
  | .name i => [i]
  | .tup is => is
/-- but for the slots is -/
def SameB (is : List Nat) (σ σ' : L2.St) : Prop := ∀ vs : List Nat, (∀ i ∈ is, i ∈ vs) → L2.wipe σ' vs = L2.wipe σ vs
theorem SameB.set {is : List Nat} {σ : L2.St} {i : Nat} (h : i ∈ is) (o : Option Vv) : SameB is σ (σ.set i o) := fun vs hv => by
  have hi := hv i h
  clear hv
  induction vs with
  | nil => cases hi
  | cons v vs ih =>
    unfold L2.wipe
    by_cases e : i = v
    · subst e
      by_cases hm : i ∈ vs
      · rw [ih hm]
      · have : ∀ (vs : List Nat), i ∉ vs → L2.wipe (σ.set i o) vs = (L2.wipe σ vs).set i o := by
          intro vs
          induction vs with
          | nil => intro _; rfl
          | cons u us ih2 =>
            intro hn
            unfold L2.wipe
            rw [ih2 fun z => hn (List.mem_cons_of_mem _ z), List.set_comm _ _ fun z => hn (by rw [z]; exact List.mem_cons_self)]
        rw [this vs hm, List.set_set]
    · rw [ih ((List.mem_cons.mp hi).resolve_left e)]
theorem SameB.trans {is : List Nat} {σ σ1 σ2 : L2.St} (a : SameB is σ σ1) (b : SameB is σ1 σ2) : SameB is σ σ2 := fun vs hv => (b vs hv).trans (a vs hv)
theorem SameB.mono {is js : List Nat} {σ σ1 : L2.St} (a : SameB is σ σ1) (h : ∀ i ∈ is, i ∈ js) : SameB js σ σ1 := fun vs hv => a vs fun i hi => hv i (h i hi)
def gT (cA : CA) (fz : List Nat) (tg : Tg) : L2.TG := fun v σ H Q => ∃ ρ env h w env', RH cA ρ (· ∈ fz) h H ∧ RE ρ H env σ ∧ RW ρ H w v ∧ bindTg tg w env h = some env' ∧ ∀ σ', RE ρ H env' σ' → SameB (tgIx tg) σ σ' → Q σ' H
theorem PG.imp {X : L2.Cx} {e : Expr} {t t' : L2.TG} (h : L2.PG X e t) (k : ∀ v σ H Q, t' v σ H Q → t v σ H Q) : L2.PG X e t' := ⟨fun pins s σ H v u Q I r q => h.run pins s σ H v u Q I r (k _ _ _ _ q)⟩
theorem PG.or {X : L2.Cx} {e : Expr} {t t' : L2.TG} (h : L2.PG X e t) (h' : L2.PG X e t') : L2.PG X e (fun v σ H Q => t v σ H Q ∨ t' v σ H Q) := ⟨fun pins s σ H v u Q I r q => q.elim (h.run pins s σ H v u Q I r) (h'.run pins s σ H v u Q I r)⟩
theorem g_name {i : Nat} {x : Str} (hN : X.N.Nodup) (hi : X.N[i]? = some x) (hx : L2.Loc X.env.scope x) (hf : X.fn x = true ∨ X.env.scope.names.lookup x = some .local) : L2.PG X (.Name x pos) (gT cA fz (.name i)) :=
  PG.imp (L2.pg_name hN hi hx hf) fun v σ H Q ⟨ρ, env, h, w, env', rh, re, rv, e, q⟩ => by
    cases e
    exact q _ (re.set rv i) (.set (by simp [tgIx]) _)
/-- several names -/
def gTs (cA : CA) (is : List Nat) : L2.TGs := fun vs σ H Q => ∃ ρ env ws env', RE ρ H env σ ∧ RWs ρ H ws vs ∧ setAll env is ws = some env' ∧ ∀ σ', RE ρ H env' σ' → SameB is σ σ' → Q σ' H
theorem PGs.imp {X : L2.Cx} {e : List Expr} {t t' : L2.TGs} (h : L2.PGs X e t) (k : ∀ v σ H Q, t' v σ H Q → t v σ H Q) : L2.PGs X e t' := ⟨fun pins s σ H v u Q I r q => h.run pins s σ H v u Q I r (k _ _ _ _ q)⟩
theorem gs_nil : L2.PGs X [] (gTs cA []) := PGs.imp L2.pgs_nil fun vs σ H Q ⟨ρ, env, ws, env', re, rv, e, q⟩ => by
  cases ws with
  | nil => cases rv; cases e; exact ⟨rfl, q _ re fun _ _ => rfl⟩
  | cons w ws => cases e
theorem gs_cons {i : Nat} {is : List Nat} {x : Str} {es : List Expr} (hN : X.N.Nodup) (hi : X.N[i]? = some x) (hx : L2.Loc X.env.scope x) (hf : X.fn x = true ∨ X.env.scope.names.lookup x = some .local) (h : L2.PGs X es (gTs cA is)) : L2.PGs X (.Name x pos :: es) (gTs cA (i :: is)) :=
  PGs.imp (L2.pgs_cons (L2.pg_name hN hi hx hf) h) fun vs σ H Q ⟨ρ, env, ws, env', re, rv, e, q⟩ => by
    cases ws with
    | nil => cases e
    | cons w ws =>
      obtain ⟨v, r, rfl, r1, r2⟩ := rv
      exact ⟨v, r, rfl, ρ, _, ws, env', re.set r1 i, r2, e, fun σ' re' sb => q σ' re' (SameB.trans (.set List.mem_cons_self _) (sb.mono fun j hj => List.mem_cons_of_mem _ hj))⟩
theorem g_tup {is : List Nat} {es : List Expr} {k : Nat} (hc : X.calm = true) (h : L2.PGs X es (gTs cA is)) (hn : (assignEach es X.env).length = is.length) (hst : (assignEach es X.env).findIdx? (·.1) = none) : L2.PG X (.Tuple es k pos) (gT cA fz (.tup is)) :=
  PG.imp (PG.or (L2.pg_tup hc h hn hst) (L2.pg_unl hc h hn hst)) fun v σ H Q ⟨ρ, env, h, w, env', rh, re, rv, e, q⟩ => by
    have hl : ∀ {is : List Nat} {ws : List MP.W} {env : Env} {env' : Env}, setAll env is ws = some env' → ws.length = is.length := by
      intro is
      induction is with
      | nil => intro ws env env' e; cases ws with
        | nil => rfl
        | cons w ws => cases e
      | cons i is ih => intro ws env env' e; cases ws with
        | nil => cases e
        | cons w ws => rw [List.length_cons, List.length_cons, ih e]
    unfold bindTg at e
    unfold itemsV at e
    cases w with
    | ref n =>
      have e : (itemsO (rd h n)).bind (fun vs => setAll env is vs) = some env' := e
      cases hr : rd h n with
      | none => rw [hr] at e; cases e
      | some o =>
        rw [hr] at e
        cases o with
        | lst ws =>
          have e : setAll env is ws = some env' := e
          obtain ⟨a, rfl, ha⟩ := rv
          obtain ⟨a', ha', vs, rr, z⟩ := rh.get hr
          rw [ha] at ha'; cases ha'
          exact .inr ⟨a, vs, rfl, z.seqL, by rw [← rr.length]; exact hl e, ρ, env, ws, env', re, rr, e, q⟩
        | _ => cases e
    | tup ws =>
      obtain ⟨a, vs, rfl, ha, rr⟩ := rv
      have e : setAll env is ws = some env' := e
      exact .inl ⟨a, vs, rfl, .of ha, by rw [← rr.length]; exact hl e, ρ, env, ws, env', re, rr, e, q⟩
    | _ => cases e
theorem s_set {tg : Tg} {t : Expr} (ha : L2.PE X a (tE cA fz M W ma)) (hg : L2.PG X t (gT cA fz tg)) (hs : swapsWithSole [t] a pos.line X.env = pure false) (hw : swappedStores [t] a X.env = pure none) (h1 : (assignEach [t] X.env).map (·.2) = [assign t X.env]) :
    L2.PS X (.Assign [t] a pos) (tX cA fz M W (.set (.tg tg) ma)) :=
  PS.imp (L2.ps_asg ha hg hs hw h1) fun D σ H h => tS.on h fun ρ env h w v H1 rh re rv g => by
    obtain ⟨env', e, g⟩ := g.thenS
    exact ⟨ρ, env, h, w, env', rh, re, rv, e, fun σ' re' _ => g.nx rh re'⟩
theorem s_setN {i : Nat} {x : Str} {p' : Pos} (hN : X.N.Nodup) (hi : X.N[i]? = some x) (hx : L2.Loc X.env.scope x) (hf : X.fn x = true ∨ X.env.scope.names.lookup x = some .local) (ha : L2.PE X a (tE cA fz M W ma)) (hs : swapsWith a (some (.Name x p')) pos.line X.env = pure false) :
    L2.PS X (.Assign [.Name x p'] a pos) (tX cA fz M W (.set (.tg (.name i)) ma)) :=
  PS.imp (L2.ps_set hN hi hx ha hs hf) fun D σ H h => tS.on h fun ρ env h w v H1 rh re rv g => by
    obtain ⟨env', e, g⟩ := g.thenS
    cases e
    exact g.nx rh (re.set rv i)
theorem s_aug {i : Nat} {x : Str} {p' : Pos} (hN : X.N.Nodup) (hi : X.N[i]? = some x) (hx : L2.Loc X.env.scope x) (hf : X.fn x = true ∨ X.env.scope.names.lookup x = some .local) (ha : L2.PE X a (tE cA fz M W ma)) :
    L2.PS X (.AugAssign (.Name x p') .Add a pos) (tX cA fz M W (.aug i .add ma)) :=
  PS.imp (L2.ps_aug (ti := L2.rI0 fun i j => .int (i + j)) hN hi hx ha (fun pins s σ H x y v u Q I rx ry q => L2.iop_add pins s σ H x y v u Q I rx ry q) hf) fun D σ H ⟨ρ, env, h, rh, re, g⟩ => by
    simp only [ex] at g
    unfold slot at g
    cases hx : env[i]?.join with
    | none => rw [hx] at g; exact g.elim
    | some w =>
      rw [hx] at g
      simp only [R.of_some, R.on_ok] at g
      have e' : env[i]? = some (some w) := by
        cases hx2 : env[i]? with
        | none => rw [hx2] at hx; cases hx
        | some o => rw [hx2] at hx; have hx : o = some w := hx; rw [hx]
      obtain ⟨v, hv, rv⟩ := re.2 i w e'
      refine ⟨v, hv, ρ, env, h, rh, re, g.on re fun u h1 ρ1 v1 H1 _ x rh1 rv1 re1 g1 => ?_⟩
      unfold ibin at g1
      split at g1
      · cases rv; cases rv1
        refine ⟨_, _, rfl, rfl, ?_⟩
        simp only [R.on_ok] at g1
        exact g1.nx rh1 (re1.set (show RW ρ1 H1 (.int _) _ from rfl) i)
      · exact g1.elim
/-! ### while -/
theorem GoodS.imp {D D' : L2.Ends} {ρ : List Addr} {H : HH} {r : S} (g : GoodS cA fz r ρ H D W) (h1 : ∀ σ H, D.nx σ H → D'.nx σ H) (h2 : ∀ v H, D.rt v H → D'.rt v H) (h3 : ∀ σ H, D.bk σ H → D'.bk σ H) (h4 : ∀ σ H, D.ct σ H → D'.ct σ H) : GoodS cA fz r ρ H D' W := by
  cases r with
  | bad => exact g
  | exc y env h => exact g
  | ok fl h =>
    cases fl with
    | nx env => exact fun ρ' σ' H' x rh re => h1 _ _ (g ρ' σ' H' x rh re)
    | ct env => exact fun ρ' σ' H' x rh re => h4 _ _ (g ρ' σ' H' x rh re)
    | bk env => exact fun ρ' σ' H' x rh re => h3 _ _ (g ρ' σ' H' x rh re)
    | rt w => exact fun ρ' σ' H' x rh v rv => h2 _ _ (g ρ' σ' H' x rh v rv)
theorem GoodS.turn0 {D : L2.Ends} {ρ : List Addr} {H : HH} {r : S} {f : Env → Hp → S} (g : GoodS cA fz (r.turn f) ρ H D W) : GoodS cA fz r ρ H ⟨tS cA fz W f D, D.rt, D.nx, tS cA fz W f D⟩ W := by
  cases r with
  | bad => exact g
  | exc y env h => exact g
  | ok fl h =>
    cases fl with
    | nx env => exact fun ρ' σ' H' x rh re => ⟨ρ', env, h, rh, re, GoodS.ext (r := f env h) g x⟩
    | ct env => exact fun ρ' σ' H' x rh re => ⟨ρ', env, h, rh, re, GoodS.ext (r := f env h) g x⟩
    | bk env => exact g
    | rt w => exact g
theorem s_while {body : List Stmt} {mb : List St} (hp : PassesOwn (model X.prog X.w) X.A X.env X.xe) (hc : L2.PT X c (tT cA fz M W mc)) (hb : L2.PSs X body (tXs cA fz M W mb)) : L2.PS X (.While c body [] pos) (tX cA fz M W (.while mc mb)) :=
  PS.imp (L2.ps_while hp hc hb) fun D σ H ⟨ρ, env, h, rh, re, g⟩ => by
    have e : ex M (.while mc mb) env h = whileL (fun env h => ev M mc env h) (fun env h => exs M mb env h) TURNS env h := by simp only [ex]
    rw [e] at g
    generalize TURNS = n at g
    refine ⟨fun n σ H => tS cA fz W (whileL (fun env h => ev M mc env h) (fun env h => exs M mb env h) n) D σ H, ⟨n, ρ, env, h, rh, re, g⟩, fun n σ H h => ?_⟩
    cases n with
    | zero => obtain ⟨ρ, env, h, rh, re, g⟩ := h; exact g.elim
    | succ n =>
      refine show tT cA fz M W mc σ H _ from tS.on h fun ρ env h w v H1 rh re rv g => ?_
      obtain ⟨k, e, g⟩ := g.thenS
      refine ⟨k, asBool_ok e rv, ?_⟩
      cases k with
      | true => exact ⟨_, fun σ' H' hn => ⟨n, Nat.lt_succ_self n, hn⟩, ρ, env, h, rh, re, GoodS.turn0 g⟩
      | false => exact g.nx rh re
/-! ### for -/
/-- the iterator J yields ws, from the state (ρ0, H0) on, while the cells as hold what they hold in h0 -/
def Wk (cA : CA) (fz as : List Nat) (ρ0 : List Addr) (H0 : HH) (h0 : Hp) (ws : List MP.W) (J : L2.It) : Prop :=
  ∀ i ρ h H, Ext ρ0 ρ H0 H → Kp as h0 h → RH cA ρ (· ∈ fz) h H → (ws.length ≤ i → J.stop i H) ∧ (∀ w, ws[i]? = some w → J.go i H ∧ ∀ x H', J.yld i H x H' → Ext ρ ρ H H' ∧ RH cA ρ (· ∈ fz) h H' ∧ RW ρ H' w x)
/-- the walk of it -/
def tI (cA : CA) (fz : List Nat) (M : Cx) (W : L2.WX) (it : It) : L2.TI := fun σ H R => ∃ ρ env h, RH cA ρ (· ∈ fz) h H ∧ RE ρ H env σ ∧
  match walk M it env h with
  | .bad => False
  | .exc x h' => ∀ ρ' cls d H', Ext ρ ρ' H H' → RH cA ρ' (fun _ => True) h' H' → RX cA ρ' H' x cls d → W cls d σ H'
  | .ok p h' => ∀ ρ' J H', Ext ρ ρ' H H' → RH cA ρ' (· ∈ fz) h' H' → Wk cA fz p.2 ρ' H' h' p.1 J → (∀ n ∈ p.2, n < h'.length) → R J H'
theorem PI.imp {X : L2.Cx} {tg e : Expr} {t t' : L2.TI} (h : L2.PI X tg e t) (k : ∀ σ H Q, t' σ H Q → t σ H Q) : L2.PI X tg e t' := ⟨fun pins s σ H Q I q => h.run pins s σ H Q I (k _ _ _ q)⟩
theorem s_for {tg iter : Expr} {body : List Stmt} {mt : Tg} {mi : It} {mb : List St} (hk : CK M) (hp : PassesOwn (model X.prog X.w) X.A X.env X.xe) (hc : X.calm = true) (hi : L2.PI X tg iter (tI cA fz M W mi)) (hg : L2.PG X tg (gT cA fz mt))
    (hb : ∀ as, L2.PSs X body (tXs cA fz (M.lock as) W mb)) (hs : ∀ x, foldedSetIterable iter X.env x = pure x) : L2.PS X (.For tg iter body [] pos) (tX cA fz M W (.for mt mi mb)) := by
  refine PS.imp (t := fun D σ H => tX cA fz M W (.for mt mi mb) D σ H) ⟨fun pins s σ H D I ⟨ρ, env, h, rh, re, g⟩ => ?_⟩ fun _ _ _ h => h
  have e : ex M (.for mt mi mb) env h = (walk M mi env h).on env fun p h => forL (turnOf mt fun env h => exs (M.lock p.2) mb env h) p.1 env h := by simp only [ex]
  rw [e] at g
  cases hw : walk M mi env h with
  | bad => rw [hw] at g; exact g.elim
  | exc x h' =>
    rw [hw] at g
    -- the reading never comes to a turn
    refine (L2.ps_for (tb := L2.tNever) (g := fun _ _ _ _ => False) hp hc hi ⟨fun _ _ _ _ _ _ _ _ _ h => h.elim⟩ L2.pss_never hs).run pins s σ H D I ?_
    refine ⟨ρ, env, h, rh, re, ?_⟩
    rw [hw]
    exact fun ρ' cls d H' x rh rx => g ρ' cls d σ H' x rh rx (re.ext x)
  | ok p h' =>
    rw [hw] at g
    have g : GoodS cA fz (forL (turnOf mt fun env h => exs (M.lock p.2) mb env h) p.1 env h') ρ H D W := g
    refine (L2.ps_for hp hc hi hg (hb p.2) hs).run pins s σ H D I ⟨ρ, env, h, rh, re, ?_⟩
    rw [hw]
    intro ρ' J H' x0 rh0 wk hn
    refine ⟨fun i m σ H => m = p.1.length - i ∧ i ≤ p.1.length ∧ ∃ ρ1 env h1, Ext ρ' ρ1 H' H ∧ Kp p.2 h' h1 ∧ RH cA ρ1 (· ∈ fz) h1 H ∧ RE ρ1 H env σ ∧ GoodS cA fz (forL (turnOf mt fun env h => exs (M.lock p.2) mb env h) (p.1.drop i) env h1) ρ1 H D W,
      ⟨_, rfl, Nat.zero_le _, ρ', env, h', .refl, .refl, rh0, re.ext x0, GoodS.ext g x0⟩, fun i m σ H ⟨em, hi', ρ1, env, h1, x1, kp1, rh1, re1, g1⟩ => ?_⟩
    obtain ⟨w1, w2⟩ := wk i ρ1 h1 H x1 kp1 rh1
    by_cases hl : p.1.length ≤ i
    · rw [List.drop_of_length_le hl] at g1
      exact .inl ⟨w1 hl, g1.nx rh1 re1⟩
    · have hlt : i < p.1.length := Nat.lt_of_not_le hl
      rw [List.drop_eq_getElem_cons hlt] at g1
      obtain ⟨go, yl⟩ := w2 p.1[i] (List.getElem?_eq_getElem hlt)
      refine .inr ⟨go, fun σ' H2 => ∃ ρ2 env h2, Ext ρ' ρ2 H' H2 ∧ Kp p.2 h' h2 ∧ RH cA ρ2 (· ∈ fz) h2 H2 ∧ RE ρ2 H2 env σ' ∧ GoodS cA fz (forL (turnOf mt fun env h => exs (M.lock p.2) mb env h) (p.1.drop (i + 1)) env h2) ρ2 H2 D W,
        fun σ' H2 q => ⟨_, by omega, rfl, by omega, q⟩, fun v H2 y => ?_⟩
      obtain ⟨x2, rh2, rv⟩ := yl v H2 y
      have g1 : GoodS cA fz ((thenS (bindTg mt p.1[i] env h1) fun env => exs (M.lock p.2) mb env h1).turn fun env h => forL (turnOf mt fun env h => exs (M.lock p.2) mb env h) (p.1.drop (i + 1)) env h) ρ1 H D W := g1
      cases hbt : bindTg mt p.1[i] env h1 with
      | none => rw [hbt] at g1; exact g1.elim
      | some env' =>
        rw [hbt] at g1
        refine ⟨ρ1, env, h1, _, env', rh2, re1.ext x2, rv, hbt, fun σ2 re2 _ => ⟨ρ1, env', h1, rh2, re2, ?_⟩⟩
        have kk : SK p.2 h1 (exs (M.lock p.2) mb env' h1) := (sk_exs mb (M.lock p.2) hk env' h1).less fun n hn => List.mem_append_left _ hn
        have g2 := (GoodS.turn (r := exs (M.lock p.2) mb env' h1) g1 kk).ext x2
        have go2 : ∀ σ' H', (∃ ρ2 env h, Ext ρ1 ρ2 H H' ∧ Kp p.2 h1 h ∧ RH cA ρ2 (· ∈ fz) h H' ∧ RE ρ2 H' env σ' ∧ GoodS cA fz (forL (turnOf mt fun env h => exs (M.lock p.2) mb env h) (p.1.drop (i + 1)) env h) ρ2 H' D W) → _ := fun σ' H' ⟨ρ2, env, h, xx, kk2, q⟩ => (⟨ρ2, env, h, x1.trans xx, kp1.trans kk2, q⟩ : ∃ ρ2 env h2, Ext ρ' ρ2 _ H' ∧ Kp p.2 h' h2 ∧ RH cA ρ2 (· ∈ fz) h2 H' ∧ RE ρ2 H' env σ' ∧ GoodS cA fz (forL (turnOf mt fun env h => exs (M.lock p.2) mb env h) (p.1.drop (i + 1)) env h2) ρ2 H' D W)
        exact GoodS.imp g2 go2 (fun _ _ q => q) (fun _ _ q => q) go2
end
end MP

namespace MP
open PySem PySem.Spec PyProof.Rows
/-! ### what is walked -/
def GoodI (cA : CA) (fz : List Nat) (r : MP.R (List MP.W × List Nat)) (ρ : List Addr) (H : HH) (R : L2.It → HH → Prop) (E : L2.XK) : Prop :=
  match r with
  | .bad => False
  | .exc x h' => ∀ ρ' cls d H', Ext ρ ρ' H H' → RH cA ρ' (fun _ => True) h' H' → RX cA ρ' H' x cls d → E cls d H'
  | .ok p h' => ∀ ρ' J H', Ext ρ ρ' H H' → RH cA ρ' (· ∈ fz) h' H' → Wk cA fz p.2 ρ' H' h' p.1 J → (∀ n ∈ p.2, n < h'.length) → R J H'
section
variable {α β : Type} {cA : CA} {fz : List Nat} {W : L2.WX} {ρ ρ1 : List Addr} {H H1 : HH} {R1 : Rel α β} {E : L2.XK} {RR : L2.It → HH → Prop}
theorem GoodI.ext {r : MP.R (List MP.W × List Nat)} (g : GoodI cA fz r ρ H RR E) (x : Ext ρ ρ1 H H1) : GoodI cA fz r ρ1 H1 RR E := by
  cases r with
  | bad => exact g
  | ok f h => exact fun ρ' σ' H' e => g ρ' σ' H' (x.trans e)
  | exc y h => exact fun ρ' c d H' e => g ρ' c d H' (x.trans e)
theorem GoodI.bind {r : MP.R α} {f : α → Hp → MP.R (List MP.W × List Nat)} {Q : β → HH → Prop} (g : GoodI cA fz (r.bind f) ρ H RR E)
    (k : ∀ w h1 ρ1 v H1, r = .ok w h1 → Ext ρ ρ1 H H1 → RH cA ρ1 (· ∈ fz) h1 H1 → R1 ρ1 H1 w v → GoodI cA fz (f w h1) ρ1 H1 RR E → Q v H1) : Good cA fz R1 r ρ H Q E := by
  cases r with
  | bad => exact g
  | ok w h => exact fun ρ1 v H1 e rh rel => k w h ρ1 v H1 rfl e rh rel (GoodI.ext (r := f w h) g e)
  | exc y h => exact g
theorem GoodI.of {o : Option (List MP.W × List Nat)} {h : Hp} (g : GoodI cA fz (.of o h) ρ H RR E) : ∃ p, o = some p ∧ GoodI cA fz (.ok p h) ρ H RR E := by
  cases o with
  | none => exact g.elim
  | some w => exact ⟨w, rfl, g⟩
theorem tI.out {M : Cx} {it : It} {σ : L2.St} {H : HH} {R : L2.It → HH → Prop} (h : tI cA fz M W it σ H R) : ∃ ρ env h, RH cA ρ (· ∈ fz) h H ∧ RE ρ H env σ ∧ GoodI cA fz (walk M it env h) ρ H R (L2.WE W σ) := by
  obtain ⟨ρ, env, h, rh, re, g⟩ := h
  refine ⟨ρ, env, h, rh, re, ?_⟩
  cases hw : walk M it env h with
  | bad => rw [hw] at g; exact g
  | ok p h' => rw [hw] at g; exact g
  | exc x h' => rw [hw] at g; exact g
end
/-! ### ranges -/
section
variable {cA : CA} {fz : List Nat} {M : Cx} {W : L2.WX} {X : L2.Cx} {pos p2 p : Pos} {a b c tg : Expr} {ma mb mc : Ex} {ρ ρ1 : List Addr} {H H1 : HH} {h : Hp}
theorem wk_rng (lo : Int) (n : Nat) : Wk cA fz [] ρ H h ((List.range n).map fun (k : Nat) => MP.W.int (lo + (k : Int))) (L2.Itr lo n) := fun i ρ1 h1 H1 x kp rh => by
  refine ⟨fun hl => show n ≤ i by simpa using hl, fun w e => ?_⟩
  have hi : i < n := by have := ix_lt e; simpa using this
  refine ⟨hi, fun x H' y => ?_⟩
  obtain ⟨rfl, rfl⟩ := y
  refine ⟨.refl, rh, ?_⟩
  rw [List.getElem?_map, List.getElem?_range hi] at e
  cases e
  rfl
theorem small_ok {i : Int} (e : small62 i = true) : -(2 ^ 62) ≤ i ∧ i < 2 ^ 62 := by
  unfold small62 at e
  simpa using e
theorem i_rng (hg : L2.Gl X "range") (hm : X.mg "range" = none) (ha : L2.PE X a (tE cA fz M W ma)) (hs : starEach [a] X.env = [(false, eval a X.env)]) : L2.PI X tg (.Call (.Name "range" p) [a] [] pos) (tI cA fz M W (.rng ma)) :=
  PI.imp (L2.pi_range1 hg hm (L2.pa_cons ha L2.pa_nil hs) hs) fun σ H R h => by
    obtain ⟨ρ, env, h, rh, re, g⟩ := tI.out h
    refine ⟨ρ, env, h, rh, re, GoodI.bind (f := fun x h => MP.R.of ((rng1 x).map fun l => (l, [])) h) (by simp only [walk] at g; exact g) fun w h1 ρ1 v H1 e x rh1 rv g1 => ?_⟩
    obtain ⟨q, e, g1⟩ := g1.of
    cases w with
    | int n =>
      cases rv
      have e : (if small62 n = true then some (rangeW 0 n) else none : Option (List MP.W)).map (fun l => (l, ([] : List Nat))) = some q := e
      by_cases hn : small62 n = true
      · rw [if_pos hn] at e
        cases e
        obtain ⟨b1, b2⟩ := small_ok hn
        refine ⟨n, rfl, b1, b2, g1 ρ1 _ H1 .refl rh1 ?_ (fun n hn => by cases hn)⟩
        have := wk_rng (cA := cA) (fz := fz) (ρ := ρ1) (H := H1) (h := h1) 0 n.toNat
        rw [show rangeW 0 n = (List.range n.toNat).map fun (k : Nat) => MP.W.int (0 + (k : Int)) by unfold rangeW; rw [Int.sub_zero]]
        exact this
      · rw [if_neg hn] at e; cases e
    | _ => cases e
theorem i_rng2 (hg : L2.Gl X "range") (hm : X.mg "range" = none) (ha : L2.PE X a (tE cA fz M W ma)) (hb : L2.PE X b (tE cA fz M W mb)) (hs : starEach [a, b] X.env = [(false, eval a X.env), (false, eval b X.env)]) (hs2 : starEach [b] X.env = [(false, eval b X.env)]) :
    L2.PI X tg (.Call (.Name "range" p) [a, b] [] pos) (tI cA fz M W (.rng2 ma mb)) :=
  PI.imp (L2.pi_range2 hg hm (L2.pa_cons ha (L2.pa_cons hb L2.pa_nil hs2) (by rw [hs, hs2])) hs hs2) fun σ H R h => by
    obtain ⟨ρ, env, h, rh, re, g⟩ := tI.out h
    refine ⟨ρ, env, h, rh, re, GoodI.bind (f := fun x h => (ev M mb env h).bind fun y h => MP.R.of ((rng2 x y).map fun l => (l, [])) h) (by simp only [walk] at g; exact g) fun w h1 ρ1 v H1 e x rh1 rv g1 => ?_⟩
    refine ⟨ρ1, env, h1, rh1, re.ext x, GoodI.bind g1 fun u h2 ρ2 t H2 e x2 rh2 rt g2 => ?_⟩
    obtain ⟨q, e, g2⟩ := g2.of
    have rv := rv.ext x2
    cases w with
    | int i =>
      cases u with
      | int j =>
        cases rv; cases rt
        have e : (if (small62 i && small62 j) = true then some (rangeW i j) else none : Option (List MP.W)).map (fun l => (l, ([] : List Nat))) = some q := e
        by_cases hn : (small62 i && small62 j) = true
        · rw [if_pos hn] at e
          cases e
          rw [Bool.and_eq_true] at hn
          obtain ⟨b1, b2⟩ := small_ok hn.1
          obtain ⟨b3, b4⟩ := small_ok hn.2
          exact ⟨i, j, rfl, ⟨b1, b2, b3, b4⟩, g2 ρ2 _ H2 .refl rh2 (wk_rng i (j - i).toNat) (fun n hn => by cases hn)⟩
        · rw [if_neg hn] at e; cases e
      | _ => cases e
    | _ => cases e
theorem rws3 {ρ : List Addr} {H : HH} {w u t : MP.W} {vs : List Vv} (r : RWs ρ H [w, u, t] vs) : ∃ a b c, vs = [a, b, c] ∧ RW ρ H w a ∧ RW ρ H u b ∧ RW ρ H t c := by
  obtain ⟨a, _, rfl, ra, r2⟩ := r
  obtain ⟨b, c, rfl, rb, rc⟩ := rws2 r2
  exact ⟨a, b, c, rfl, ra, rb, rc⟩
theorem rgc_ok {i j s : Int} (hi : small62 i = true) (hj : small62 j = true) (h0 : 0 < s) (h1 : s < 2 ^ 20) : L2.RgC i j s ((j - i + s - 1) / s).toNat := by
  obtain ⟨b1, b2⟩ := small_ok hi
  obtain ⟨b3, b4⟩ := small_ok hj
  have e : Builtin.Range.rangeSize i j s = (((j - i + s - 1) / s).toNat : Int) := by
    unfold Builtin.Range.rangeSize
    rw [if_pos h0]
    by_cases hl : i < j
    · rw [if_pos hl]
      have e1 : j - i + s - 1 = (j - i - 1) + 1 * s := by omega
      rw [e1, Int.add_mul_ediv_right _ _ (by omega)]
      have := Int.ediv_nonneg (a := j - i - 1) (b := s) (by omega) (by omega)
      omega
    · rw [if_neg hl]
      have : (j - i + s - 1) / s ≤ 0 := by
        have : (j - i + s - 1) / s < 1 := Int.ediv_lt_of_lt_mul h0 (by omega)
        omega
      omega
  refine ⟨by omega, by omega, ?_, e⟩
  unfold Builtin.Range.small
  have hp := Int.toNat_of_nonneg (a := Builtin.Range.rangeSize i j s) (by rw [e]; omega)
  have hb : Builtin.Range.rangeSize i j s ≤ 2 ^ 63 - 1 := by
    unfold Builtin.Range.rangeSize
    rw [if_pos h0]
    by_cases hl : i < j
    · rw [if_pos hl]
      have := Int.ediv_le_self s (show (0 : Int) ≤ j - i - 1 by omega)
      omega
    · rw [if_neg hl]; omega
  have hb2 : 0 ≤ Builtin.Range.rangeSize i j s := by rw [e]; omega
  simp only [Builtin.Range.rangeFitsLong, Bool.and_eq_true, Bool.or_eq_true, decide_eq_true_eq, beq_iff_eq, h0, if_true]
  omega
theorem wk_rgs (lo st : Int) (n : Nat) : Wk cA fz [] ρ H h ((List.range n).map fun (k : Nat) => MP.W.int (lo + st * (k : Int))) (L2.Itc lo st n) := fun i ρ1 h1 H1 x kp rh => by
  refine ⟨fun hl => show n ≤ i by simpa using hl, fun w e => ?_⟩
  have hi : i < n := by have := ix_lt e; simpa using this
  refine ⟨hi, fun x H' y => ?_⟩
  obtain ⟨rfl, rfl⟩ := y
  refine ⟨.refl, rh, ?_⟩
  rw [List.getElem?_map, List.getElem?_range hi] at e
  cases e
  show (_ : Vv) = _
  rw [Int.mul_comm]
theorem i_rng3 (hg : L2.Gl X "range") (hm : X.mg "range" = none) (ha : L2.PE X a (tE cA fz M W ma)) (hb : L2.PE X b (tE cA fz M W mb)) (hc : L2.PE X c (tE cA fz M W mc)) (hs : starEach [a, b, c] X.env = (false, eval a X.env) :: starEach [b, c] X.env) (hs2 : starEach [b, c] X.env = (false, eval b X.env) :: starEach [c] X.env) (hs3 : starEach [c] X.env = (false, eval c X.env) :: starEach [] X.env) :
    L2.PI X tg (.Call (.Name "range" p) [a, b, c] [] pos) (tI cA fz M W (.rng3 ma mb mc)) :=
  PI.imp (L2.pi_range3 hg hm (L2.pa_cons ha (L2.pa_cons hb (L2.pa_cons hc L2.pa_nil hs3) hs2) hs) hs (by rw [hs2, hs3]; rfl)) fun σ H R h => by
    obtain ⟨ρ, env, h, rh, re, g⟩ := tI.out h
    refine ⟨ρ, env, h, rh, re, GoodI.bind (f := fun x h => (ev M mb env h).bind fun y h => (ev M mc env h).bind fun z h => MP.R.of ((rng3 x y z).map fun l => (l, [])) h) (by simp only [walk] at g; exact g) fun w h1 ρ1 v H1 e x rh1 rv g1 => ?_⟩
    refine ⟨ρ1, env, h1, rh1, re.ext x, GoodI.bind (f := fun y h => (ev M mc env h).bind fun z h => MP.R.of ((rng3 w y z).map fun l => (l, [])) h) g1 fun u h2 ρ2 t H2 e x2 rh2 rt g2 => ?_⟩
    refine ⟨ρ2, env, h2, rh2, (re.ext x).ext x2, GoodI.bind g2 fun u3 h3 ρ3 t3 H3 e x3 rh3 rt3 g3 => ?_⟩
    obtain ⟨q, e, g3⟩ := g3.of
    have rv := (rv.ext x2).ext x3
    have rt := rt.ext x3
    cases w with
    | int i =>
      cases u with
      | int j =>
        cases u3 with
        | int s =>
          cases rv; cases rt; cases rt3
          have e : (if (small62 i && small62 j && decide (0 < s) && decide (s < 2 ^ 20)) = true then some (rangeS i j s) else none : Option (List MP.W)).map (fun l => (l, ([] : List Nat))) = some q := e
          by_cases hn : (small62 i && small62 j && decide (0 < s) && decide (s < 2 ^ 20)) = true
          · rw [if_pos hn] at e
            cases e
            simp only [Bool.and_eq_true, decide_eq_true_eq] at hn
            obtain ⟨⟨⟨n1, n2⟩, n3⟩, n4⟩ := hn
            exact ⟨i, j, s, _, rfl, rgc_ok n1 n2 n3 n4, g3 ρ3 _ H3 .refl rh3 (wk_rgs i s _) (fun n hn => by cases hn)⟩
          · rw [if_neg hn] at e; cases e
        | _ => cases e
      | _ => cases e
    | _ => cases e
/-! ### a list, a tuple, a text -/
theorem PI.or {X : L2.Cx} {tg e : Expr} {t t' : L2.TI} (h : L2.PI X tg e t) (h' : L2.PI X tg e t') : L2.PI X tg e (fun σ H R => t σ H R ∨ t' σ H R) := ⟨fun pins s σ H R I q => q.elim (h.run pins s σ H R I) (h'.run pins s σ H R I)⟩
theorem wk_lst {n : Nat} {a : Addr} {xs : List MP.W} (hn : ρ[n]? = some a) (e : rd h n = some (.lst xs)) (K : PySem.W.Frag) : Wk cA fz [n] ρ H h xs (L2.Itl K a) := fun i ρ1 h1 H1 x kp rh => by
  have e1 : rd h1 n = some (.lst xs) := (kp.at_ n (by simp) (ix_lt e)).trans e
  obtain ⟨a', ha', vs, r, z⟩ := rh.get e1
  rw [x.ix hn] at ha'; cases ha'
  refine ⟨fun hl => ⟨vs, z.seqL, by rw [← r.length]; exact hl⟩, fun w ew => ?_⟩
  obtain ⟨v, hv, rv⟩ := r.get ew
  refine ⟨⟨vs, v, z.seqL, hv⟩, fun y H' q => ?_⟩
  obtain ⟨rfl, q⟩ := q
  have := q vs z.seqL
  rw [hv] at this
  cases this
  exact ⟨.refl, rh, rv⟩
theorem wk_tup {a : Addr} {xs : List MP.W} {vs : List Vv} (ha : H a = some (.tup vs)) (r : RWs ρ H xs vs) (K : PySem.W.Frag) : Wk cA fz [] ρ H h xs (L2.Itt K a) := fun i ρ1 h1 H1 x kp rh => by
  have h1' := x.tup a vs ha
  have r := r.ext x
  refine ⟨fun hl => ⟨vs, .of h1', by rw [← r.length]; exact hl⟩, fun w ew => ?_⟩
  obtain ⟨v, hv, rv⟩ := r.get ew
  refine ⟨⟨vs, v, .of h1', hv⟩, fun y H' q => ?_⟩
  obtain ⟨rfl, q⟩ := q
  have := q vs (.of h1')
  rw [hv] at this
  cases this
  exact ⟨.refl, rh, rv⟩
theorem wk_str {s : List Nat} : Wk cA fz [] ρ H h (s.map fun c => .str [c]) (L2.Its (sv s)) := fun i ρ1 h1 H1 x kp rh => by
  have hl : (sv s).cps.size = s.length := by show s.toArray.size = _; simp
  refine ⟨fun h => by show (sv s).cps.size ≤ i; rw [hl]; simpa using h, fun w ew => ?_⟩
  have hi : i < s.length := by have := ix_lt ew; simpa using this
  refine ⟨by show i < (sv s).cps.size; rw [hl]; exact hi, fun y H' q => ?_⟩
  obtain ⟨rfl, c, hc, rfl⟩ := q
  refine ⟨.refl, rh, ?_⟩
  rw [List.getElem?_map] at ew
  have hc : s[i]? = some c := by simpa [sv] using hc
  rw [hc] at ew
  cases ew
  exact ⟨by simp [LINE], rfl⟩
theorem i_val (ha : L2.PE X a (tE cA fz M W ma)) : L2.PI X tg a (tI cA fz M W (.val ma)) :=
  PI.imp (PI.or (L2.pi_list ha) (PI.or (L2.pi_tup ha) (L2.pi_str ha))) fun σ H R h => by
    obtain ⟨ρ, env, h, rh, re, g⟩ := tI.out h
    have g : GoodI cA fz ((ev M ma env h).bind fun x h => .of (walkV x h) h) ρ H R (L2.WE W σ) := by simp only [walk] at g; exact g
    cases hr : ev M ma env h with
    | bad => rw [hr] at g; exact g.elim
    | exc x h' =>
      rw [hr] at g
      refine .inl ⟨ρ, env, h, rh, re, ?_⟩
      rw [hr]
      exact g
    | ok w h' =>
      rw [hr] at g
      obtain ⟨p, e, g⟩ := GoodI.of (show GoodI cA fz (.of (walkV w h') h') ρ H R _ from g)
      cases w with
      | str s =>
        cases e
        refine .inr (.inr ⟨ρ, env, h, rh, re, ?_⟩)
        rw [hr]
        exact fun ρ' v H' x rh' rv => ⟨sv s, rv.2, g ρ' _ H' x rh' wk_str (fun n hn => by cases hn)⟩
      | tup xs =>
        cases e
        refine .inr (.inl ⟨ρ, env, h, rh, re, ?_⟩)
        rw [hr]
        intro ρ' v H' x rh' rv
        obtain ⟨a, vs, rfl, hv, rr⟩ := rv
        exact ⟨a, rfl, ⟨vs, .of hv⟩, g ρ' _ H' x rh' (wk_tup hv rr X.K) (fun n hn => by cases hn)⟩
      | ref n =>
        have e : walkO n (rd h' n) = some p := e
        unfold walkO at e
        split at e
        · rename_i xs e1
          cases e
          refine .inl ⟨ρ, env, h, rh, re, ?_⟩
          rw [hr]
          intro ρ' v H' x rh' rv
          obtain ⟨a, rfl, ha⟩ := rv
          obtain ⟨a', ha', vs, rr, z⟩ := rh'.get e1
          rw [ha] at ha'; cases ha'
          exact ⟨a, rfl, ⟨vs, z.seqL⟩, g ρ' _ H' x rh' (wk_lst ha e1 X.K) (fun m hm => by rw [List.mem_singleton.mp hm]; exact ix_lt e1)⟩
        · cases e
      | _ => cases e
end
end MP

namespace MP
open PySem PySem.Spec PyProof.Rows
/-! ### comprehensions -/
section
variable {cA : CA} {L : Nat → Prop} {ρ : List Addr} {H : HH} {h : Hp}
/-- an object that nobody of ours wrote becomes a cell -/
theorem RH.adopt (r : RH cA ρ L h H) {a : Addr} {o : O} (na : a ∉ ρ) (new : RO cA (ρ ++ [a]) H (L h.length) a o) : RH cA (ρ ++ [a]) L (h ++ [o]) H ∧ (ρ ++ [a])[h.length]? = some a := by
  have hl : (ρ ++ [a])[h.length]? = some a := by rw [← r.len]; simp
  refine ⟨⟨by simp [r.len], ?_, fun n o' b e1 e2 => ?_⟩, hl⟩
  · rw [List.nodup_append]
    exact ⟨r.nd, by simp, fun b hb c hc => by simp at hc; subst hc; exact fun z => na (z ▸ hb)⟩
  · by_cases hn : n < h.length
    · rw [List.getElem?_append_left hn] at e1
      rw [List.getElem?_append_left (by rw [r.len]; exact hn)] at e2
      exact (r.at_ n o' b e1 e2).ext0 ⟨List.prefix_append _ _, fun _ _ e => e⟩ rfl id
    · have hn' : n = h.length := by
        have := ix_lt e1
        rw [List.length_append] at this
        simp at this
        omega
      subst hn'
      rw [hl] at e2
      cases e2
      simp at e1
      subst e1
      exact new
end
abbrev W0 : L2.WX := fun _ _ _ _ => False
section
variable {cA : CA} {fz : List Nat} {M : Cx} {W : L2.WX} {X : L2.Cx} {pos p2 p : Pos} {a b c tg : Expr} {ma mb mc : Ex}
/-- the tests of a clause -/
def tC (cA : CA) (fz : List Nat) (M : Cx) : Option Ex → L2.TT
  | none => L2.tYes
  | some c => tT cA fz M W0 c
theorem tC_none {σ : L2.St} {H : HH} {Q : Bool → HH → Prop} : tC cA fz M none σ H Q ↔ Q true H := Iff.rfl
def turnOfC (M : Cx) (env : Env) (mt : Tg) (me : Ex) : Option Ex → MP.W → Hp → MP.R (Option MP.W)
  | none => turnC mt env (eltOf fun env h => ev M me env h)
  | some c => turnC mt env (condOf (fun env h => ev M c env h) fun env h => ev M me env h)
theorem comp_eq (own : List Nat) (me : Ex) (mt : Tg) (mi : It) (mo : Option Ex) (env : Env) (h : Hp) : ev M (.comp own me mt mi mo) env h = (walk M mi env h).bind fun p h => (compL (turnOfC (M.lock p.2) (wipe env own) mt me mo) p.1 [] h).bind fun ys h => mk (.lst ys) h := by
  cases mo <;> simp only [ev] <;> rfl
/-- what may not raise -/
theorem Good.calm {α β : Type} {R1 : Rel α β} {r : MP.R α} {ρ : List Addr} {H : HH} {Q : β → HH → Prop} {E E' : L2.XK} (g : Good cA fz R1 r.calm ρ H Q E) : Good cA fz R1 r ρ H Q E' := by
  cases r with
  | bad => exact g
  | ok w h => exact g
  | exc y h => exact g.elim
theorem Good.guardB {α β γ : Type} {R1 : Rel α β} {b : Bool} {r : MP.R γ} {k : γ → Hp → MP.R α} {ρ : List Addr} {H : HH} {Q : β → HH → Prop} {E : L2.XK} (g : Good cA fz R1 ((MP.guardR b r).bind k) ρ H Q E) : b = true ∧ Good cA fz R1 (r.bind k) ρ H Q E := by
  cases b with
  | false => exact g.elim
  | true => exact ⟨rfl, g⟩
/-- the turns of a comprehension -/
theorem comp_core {own : List Nat} {me : Ex} {mt : Tg} {mi : It} {mo : Option Ex} (hk : CK M) (htg : ∀ i ∈ tgIx mt, i ∈ own) {σ : L2.St} {H : HH} {Q : L2.VK} (h : tE cA fz M W (.comp own me mt mi mo) σ H Q) :
    ∃ as, L2.tLc (tI cA fz M W mi) (gT cA fz mt) (tC cA fz (M.lock as) mo) (tE cA fz (M.lock as) W0 me) own σ H Q := by
  obtain ⟨ρ, env, h, rh, re, g⟩ := h
  rw [comp_eq] at g
  cases hw : walk M mi env h with
  | bad => rw [hw] at g; exact g.elim
  | exc x h' =>
    rw [hw] at g
    refine ⟨[], ρ, env, h, rh, re, ?_⟩
    rw [hw]
    exact g
  | ok p h' =>
    rw [hw] at g
    have g : Good cA fz RW ((compL (turnOfC (M.lock p.2) (wipe env own) mt me mo) p.1 [] h').bind fun ys h => mk (.lst ys) h) ρ H Q (L2.WE W σ) := g
    refine ⟨p.2, ρ, env, h, rh, re, ?_⟩
    rw [hw]
    intro ρ' J H' x0 rh0 wk hn D hD
    have g := g.ext x0
    have re := re.ext x0
    have nD := rh0.fresh hD
    generalize hf : turnOfC (M.lock p.2) (wipe env own) mt me mo = f at g
    have kf : ∀ x h, RK p.2 h (f x h) := fun x h => by
      subst hf
      cases mo with
      | none =>
        simp only [turnOfC, turnC]
        exact RK.thenO fun e => RK.bind ((rk_ev me (M.lock p.2) hk e h).less fun n hn => List.mem_append_left _ hn) fun _ _ => RK.ok
      | some c =>
        simp only [turnOfC, turnC]
        exact RK.thenO fun e => RK.bind ((rk_ev c (M.lock p.2) hk e h).less fun n hn => List.mem_append_left _ hn) fun _ _ => RK.thenO fun _ => RK.ite (RK.bind ((rk_ev me (M.lock p.2) hk e _).less fun n hn => List.mem_append_left _ hn) fun _ _ => RK.ok) RK.ok
    refine ⟨fun i m H1 => m = p.1.length - i ∧ i ≤ p.1.length ∧ ∃ ρ1 h1 acc vs, D ∉ ρ1 ∧ H1 D = some (.lst vs) ∧ RWs ρ1 H1 acc vs ∧ Ext ρ' ρ1 H' H1 ∧ Kp p.2 h' h1 ∧ RH cA ρ1 (· ∈ fz) h1 H1 ∧
      Good cA fz RW ((compL f (p.1.drop i) acc h1).bind fun ys h => mk (.lst ys) h) ρ' H' Q (L2.WE W σ), ⟨_, rfl, Nat.zero_le _, ρ', h', [], [], nD, L2.upd_same, rfl, (rh0.side hD).1, .refl, (rh0.side hD).2, g⟩,
      fun i m H1 ⟨em, hi', ρ1, h1, acc, vs, nD1, hD1, ra, x1, kp1, rh1, g1⟩ => ?_⟩
    obtain ⟨w1, w2⟩ := wk i ρ1 h1 H1 x1 kp1 rh1
    by_cases hl : p.1.length ≤ i
    · rw [List.drop_of_length_le hl] at g1
      refine .inl ⟨w1 hl, ?_⟩
      obtain ⟨rh2, hl2⟩ := rh1.adopt (o := .lst acc) nD1 ⟨vs, ra.ext0 ⟨List.prefix_append _ _, fun _ _ e => e⟩, .inl hD1⟩
      refine g1 (ρ1 ++ [D]) _ H1 ⟨x1.pre.trans (List.prefix_append _ _), x1.tup, x1.frz, x1.dom, fun t ht => ?_, x1.keep⟩ rh2 ⟨D, rfl, hl2⟩
      rcases List.mem_append.mp ht with ht | ht
      · exact x1.new t ht
      · rw [List.mem_singleton.mp ht]; exact .inr hD
    · have hlt : i < p.1.length := Nat.lt_of_not_le hl
      rw [List.drop_eq_getElem_cons hlt] at g1
      obtain ⟨go, yl⟩ := w2 p.1[i] (List.getElem?_eq_getElem hlt)
      have g1 : Good cA fz RW (((f p.1[i] h1).calm.bind fun o h => guardR (decide (acc.length < LINE)) (compL f (p.1.drop (i + 1)) (acc ++ o.toList) h)).bind fun ys h => mk (.lst ys) h) ρ' H' Q (L2.WE W σ) := g1
      -- what a turn is to reach
      refine .inr ⟨go, fun H2 => ∃ ρ2 h2 acc vs, D ∉ ρ2 ∧ H2 D = some (.lst vs) ∧ RWs ρ2 H2 acc vs ∧ Ext ρ' ρ2 H' H2 ∧ Kp p.2 h' h2 ∧ RH cA ρ2 (· ∈ fz) h2 H2 ∧
        Good cA fz RW ((compL f (p.1.drop (i + 1)) acc h2).bind fun ys h => mk (.lst ys) h) ρ' H' Q (L2.WE W σ), fun H2 q => ⟨_, by omega, rfl, by omega, q⟩, fun v H2 y => ?_⟩
      obtain ⟨x2, rh2, rv⟩ := yl v H2 y
      have hD2 : H2 D = some (.lst vs) := x2.keep D _ nD1 hD1
      -- behind the item's evaluation
      have item : ∀ {w : MP.W} {h3 : Hp} {ρ3 : List Addr} {H3 : HH} {u : Vv}, Ext ρ1 ρ3 H2 H3 → Kp p.2 h1 h3 → RH cA ρ3 (· ∈ fz) h3 H3 → RW ρ3 H3 w u → f p.1[i] h1 = .ok (some w) h3 → ∃ acc', H3 D = some (.lst acc') ∧ acc'.length < sizeLine ∧
          ∃ ρ2 h2 acc vs, D ∉ ρ2 ∧ L2.upd H3 D (.lst (acc' ++ [u])) D = some (.lst vs) ∧ RWs ρ2 (L2.upd H3 D (.lst (acc' ++ [u]))) acc vs ∧ Ext ρ' ρ2 H' (L2.upd H3 D (.lst (acc' ++ [u]))) ∧ Kp p.2 h' h2 ∧ RH cA ρ2 (· ∈ fz) h2 (L2.upd H3 D (.lst (acc' ++ [u]))) ∧
            Good cA fz RW ((compL f (p.1.drop (i + 1)) acc h2).bind fun ys h => mk (.lst ys) h) ρ' H' Q (L2.WE W σ) := fun {w h3 ρ3 H3 u} x3 k3 rh3 ru ef => by
        rw [ef] at g1
        obtain ⟨el, g2⟩ := Good.guardB (r := compL f (p.1.drop (i + 1)) (acc ++ [w]) h3) (b := decide (acc.length < LINE)) g1
        have hD3 : H3 D = some (.lst vs) := x3.keep D _ nD1 hD2
        have nD3 : D ∉ ρ3 := fun hm => (x3.new D hm).elim nD1 fun z => by rw [hD2] at z; cases z
        have e0 : Ex0 ρ3 ρ3 H3 (L2.upd H3 D (.lst (vs ++ [u]))) := ⟨List.prefix_refl _, fun t us z => by rw [L2.upd_ne fun q => by rw [q, hD3] at z; cases z]; exact z⟩
        have xx := (x1.trans x2).trans x3
        refine ⟨vs, hD3, ?_, ρ3, h3, acc ++ [w], vs ++ [u], nD3, L2.upd_same, ((ra.ext (x2.trans x3)).ext0 e0).append ⟨u, [], rfl, ru.ext0 e0, rfl⟩, ⟨xx.pre, fun t us z => e0.tup t us (xx.tup t us z), fun t o us z => ?_, fun t z => xx.dom t (dom_upd t z), xx.new, fun t us nt z => ?_⟩, kp1.trans k3,
          rh3.keep0 e0 fun t ht => L2.upd_ne fun q => nD3 (q ▸ ht), g2⟩
        · rw [← ra.length]; exact Nat.lt_of_lt_of_le (of_decide_eq_true el) line_le
        · have q := xx.frz t o us z
          rw [L2.upd_ne fun q2 => by rw [q2, hD3] at q; cases q]; exact q
        · rw [L2.upd_ne fun q2 => by rw [q2, hD] at z; cases z]; exact xx.keep t us nt z
      have none' : ∀ {h3 : Hp} {ρ3 : List Addr} {H3 : HH}, Ext ρ1 ρ3 H2 H3 → Kp p.2 h1 h3 → RH cA ρ3 (· ∈ fz) h3 H3 → f p.1[i] h1 = .ok none h3 → ∃ ρ2 h2 acc vs, D ∉ ρ2 ∧ H3 D = some (.lst vs) ∧ RWs ρ2 H3 acc vs ∧ Ext ρ' ρ2 H' H3 ∧ Kp p.2 h' h2 ∧ RH cA ρ2 (· ∈ fz) h2 H3 ∧
            Good cA fz RW ((compL f (p.1.drop (i + 1)) acc h2).bind fun ys h => mk (.lst ys) h) ρ' H' Q (L2.WE W σ) := fun {h3 ρ3 H3} x3 k3 rh3 ef => by
        rw [ef] at g1
        obtain ⟨el, g2⟩ := Good.guardB (r := compL f (p.1.drop (i + 1)) (acc ++ []) h3) (b := decide (acc.length < LINE)) g1
        rw [List.append_nil] at g2
        exact ⟨ρ3, h3, acc, vs, (fun hm => (x3.new D hm).elim nD1 fun z => by rw [hD2] at z; cases z), x3.keep D _ nD1 hD2, ra.ext (x2.trans x3), (x1.trans x2).trans x3, kp1.trans k3, rh3, g2⟩
      have kk := kf p.1[i] h1
      have re1 : RE ρ1 H2 (wipe env own) (L2.wipe σ own) := ((re.ext x1).ext x2).wipe _
      subst hf
      cases hbt : bindTg mt p.1[i] (wipe env own) h1 with
      | none => cases mo <;> (simp only [turnOfC, turnC, hbt] at g1; exact g1.elim)
      | some env' =>
        refine ⟨ρ1, _, h1, _, env', rh2, re1, rv, hbt, fun σ2 re2 sb => ⟨(sb _ htg).trans (wipe_wipe σ _), ?_⟩⟩
        cases mo with
        | none =>
          have ef : turnOfC (M.lock p.2) (wipe env own) mt me none p.1[i] h1 = (ev (M.lock p.2) me env' h1).bind fun y h => .ok (some y) h := by
            simp only [turnOfC, turnC, hbt]; rfl
          refine tC_none.mpr ?_
          simp only [if_true]
          refine ⟨ρ1, env', h1, rh2, re2, ?_⟩
          rw [ef] at g1 kk item
          cases hr : ev (M.lock p.2) me env' h1 with
          | bad => rw [hr] at g1; exact g1.elim
          | exc z h3 => rw [hr] at g1; exact g1.elim
          | ok w h3 =>
            rw [hr] at item kk
            exact fun ρ3 u H3 x3 rh3 ru => item x3 kk rh3 ru rfl
        | some c0 =>
          have ef : turnOfC (M.lock p.2) (wipe env own) mt me (some c0) p.1[i] h1 = (ev (M.lock p.2) c0 env' h1).bind fun b h => thenO (asBool b) fun b => if b then (ev (M.lock p.2) me env' h).bind fun y h => .ok (some y) h else .ok none h := by
            simp only [turnOfC, turnC, hbt]; rfl
          rw [ef] at g1 item none'
          have kc : RK p.2 h1 (ev (M.lock p.2) c0 env' h1) := (rk_ev c0 (M.lock p.2) hk env' h1).less fun n hn => List.mem_append_left _ hn
          refine ⟨ρ1, env', h1, rh2, re2, ?_⟩
          cases hr : ev (M.lock p.2) c0 env' h1 with
          | bad => rw [hr] at g1; exact g1.elim
          | exc z h3 => rw [hr] at g1; exact g1.elim
          | ok w h3 =>
            rw [hr] at item none' kc g1
            intro ρ3 u H3 x3 rh3 ru
            simp only [R.bind_ok] at item none' g1
            cases hb : asBool w with
            | none => rw [hb] at g1; exact g1.elim
            | some k =>
              rw [hb] at item none' g1
              refine ⟨k, asBool_ok hb ru, ?_⟩
              simp only [thenO_some] at item none' g1
              cases k with
              | false => exact none' x3 kc rh3 rfl
              | true =>
                simp only [if_true] at item g1
                have ke : RK p.2 h3 (ev (M.lock p.2) me env' h3) := (rk_ev me (M.lock p.2) hk env' h3).less fun n hn => List.mem_append_left _ hn
                refine ⟨ρ3, env', h3, rh3, re2.ext x3, ?_⟩
                cases hr2 : ev (M.lock p.2) me env' h3 with
                | bad => rw [hr2] at g1; exact g1.elim
                | exc z h4 => rw [hr2] at g1; exact g1.elim
                | ok w2 h4 =>
                  rw [hr2] at item ke
                  exact fun ρ4 u2 H4 x4 rh4 ru2 => item (x3.trans x4) (kc.trans ke) rh4 ru2 rfl
where
  wipe_wipe (σ : L2.St) (vs : List Nat) : L2.wipe (L2.wipe σ vs) vs = L2.wipe σ vs := by
    have one : ∀ (us : List Nat) (τ : L2.St), (∀ i ∈ us, τ.set i none = τ) → L2.wipe τ us = τ := by
      intro us
      induction us with
      | nil => intro τ _; rfl
      | cons u us ih => intro τ h; unfold L2.wipe; rw [ih τ fun i hi => h i (List.mem_cons_of_mem _ hi)]; exact h u List.mem_cons_self
    refine one vs _ ?_
    induction vs with
    | nil => intro i hi; cases hi
    | cons v vs ih =>
      intro i hi
      unfold L2.wipe
      by_cases e : i = v
      · rw [e, List.set_set]
      · rw [List.set_comm _ _ (Ne.symm e), ih i ((List.mem_cons.mp hi).resolve_left e)]
theorem k_comp {elt iter : Expr} {ifs : List Expr} {scope : Scope} {own : List (Str × Nat)} {me : Ex} {mt : Tg} {mi : It} {mo : Option Ex} (hk : CK M) (hc : X.calm = true) (hN : X.N.Nodup) (hi : L2.PI X tg iter (tI cA fz M W mi)) (ok : L2.BlkOk X.N X.env.scope scope own)
    (hg : ∀ (s : Shared) (H : HH) (C : Addr) (cl : List (Str × Addr)) (fp : List Addr), L2.PG (X.blk s H scope (compEnvC scope cl C X.env) fp) tg (gT cA fz mt)) (ht : ∀ (as : List Nat) (s : Shared) (H : HH) (C : Addr) (cl : List (Str × Addr)) (fp : List Addr), L2.PTs (X.blk s H scope (compEnvC scope cl C X.env) fp) ifs (tC cA fz (M.lock as) mo))
    (he : ∀ (as : List Nat) (s : Shared) (H : HH) (C : Addr) (cl : List (Str × Addr)) (fp : List Addr), L2.PE (X.blk s H scope (compEnvC scope cl C X.env) fp) elt (tE cA fz (M.lock as) W0 me)) (hs : ∀ x, foldedSetIterable iter X.env x = pure x)
    (htg : ∀ i ∈ tgIx mt, i ∈ own.map (·.2)) : L2.PE X (.ListComp elt [⟨tg, iter, ifs, 0⟩] scope pos) (tE cA fz M W (.comp (own.map (·.2)) me mt mi mo)) := by
  refine ⟨fun pins s σ H Q I h => ?_⟩
  obtain ⟨as, q⟩ := comp_core hk htg h
  exact (L2.pe_lc hc hN hi ok hg (ht as) (he as) hs).run pins s σ H Q I q
theorem s_comp {i : Nat} {y : Str} {py spos : Pos} {elt iter : Expr} {ifs : List Expr} {scope : Scope} {own : List (Str × Nat)} {me : Ex} {mt : Tg} {mi : It} {mo : Option Ex} (hk : CK M) (hc : X.calm = true) (hN : X.N.Nodup) (hy : X.N[i]? = some y) (hyl : X.env.scope.names.lookup y = some .local)
    (hsw : swapsWith (.ListComp elt [⟨tg, iter, ifs, 0⟩] scope pos) (some (.Name y py)) spos.line X.env = pure true) (hi : L2.PI X tg iter (tI cA fz M W mi)) (ok : L2.BlkOk X.N X.env.scope scope own)
    (hg : ∀ (s : Shared) (H : HH) (C : Addr) (cl : List (Str × Addr)) (fp : List Addr), L2.PG (X.blk s H scope (compEnvC scope cl C X.env) fp) tg (gT cA fz mt)) (ht : ∀ (as : List Nat) (s : Shared) (H : HH) (C : Addr) (cl : List (Str × Addr)) (fp : List Addr), L2.PTs (X.blk s H scope (compEnvC scope cl C X.env) fp) ifs (tC cA fz (M.lock as) mo))
    (he : ∀ (as : List Nat) (s : Shared) (H : HH) (C : Addr) (cl : List (Str × Addr)) (fp : List Addr), L2.PE (X.blk s H scope (compEnvC scope cl C X.env) fp) elt (tE cA fz (M.lock as) W0 me)) (hs : ∀ x, foldedSetIterable iter X.env x = pure x)
    (htg : ∀ i ∈ tgIx mt, i ∈ own.map (·.2)) : L2.PS X (.Assign [.Name y py] (.ListComp elt [⟨tg, iter, ifs, 0⟩] scope pos) spos) (tX cA fz M W (.set (.tg (.name i)) (.comp (own.map (·.2)) me mt mi mo))) := by
  refine ⟨fun pins s σ H D I h => ?_⟩
  have h2 : tE cA fz M W (.comp (own.map (·.2)) me mt mi mo) σ H (fun x H1 => D.nx (σ.set i (some x)) H1) := tS.on h fun ρ env h w v H1 rh re rv g => by
    obtain ⟨env', e, g⟩ := g.thenS
    cases e
    exact g.nx rh (re.set rv i)
  obtain ⟨as, q⟩ := comp_core hk htg h2
  exact (L2.ps_setLc hc hN hy hyl hsw hi ok hg (ht as) (he as) hs).run pins s σ H D I q
end
end MP

namespace MP
open PySem PySem.Spec PyProof.Rows
/-! ### dicts change -/
section
variable {κ : Type} [DecidableEq κ] {f : W → Option κ} {ρ : List Addr} {H : HH}
theorem putK_cons {κ : Type} [DecidableEq κ] (q : κ × Vv) (qs : List (κ × Vv)) (k : κ) (v : Vv) (n : (((q :: qs).map (·.1)) : List κ).Nodup) : L2.putK (q :: qs) k v = if q.1 = k then (k, v) :: qs else q :: L2.putK qs k v := by
  obtain ⟨q1, q2⟩ := q
  unfold L2.putK
  by_cases e : q1 = k
  · subst e
    have nn : q1 ∉ qs.map (·.1) := (List.nodup_cons.mp n).1
    have : qs.map (fun kv : κ × Vv => if kv.1 = q1 then (kv.1, v) else kv) = qs := by
      conv => rhs; rw [← List.map_id qs]
      refine List.map_congr_left fun a ha => ?_
      rw [if_neg fun z => nn (List.mem_map.mpr ⟨a, ha, z⟩)]
      rfl
    simp [this]
  · by_cases ha : (qs.any fun kv => decide (kv.1 = k)) = true
    · simp [e, ha]
    · simp only [Bool.not_eq_true] at ha
      simp [e, ha]
theorem RPs.put (hf : ∀ {a b i j}, f a = some i → f b = some j → keq a b = decide (i = j)) {k : W} {κ0 : κ} (ek : f k = some κ0) {w : W} {v : Vv} (rv : RW ρ H w v) : ∀ {ps : List (W × W)} {qs : List (κ × Vv)}, RPs f ρ H ps qs → (qs.map (·.1)).Nodup → RPs f ρ H (dput k w ps) (L2.putK qs κ0 v) := by
  intro ps qs r
  unfold RPs at r ⊢
  induction r with
  | nil => intro _; exact .cons ⟨ek, rv⟩ .nil
  | @cons p q ps qs r1 r2 ih =>
    intro n
    obtain ⟨k', u⟩ := p
    rw [putK_cons q qs κ0 v n]
    unfold dput
    rw [hf r1.1 ek]
    by_cases e : q.1 = κ0
    · rw [if_pos (by simpa using e), if_pos e]
      exact .cons ⟨by rw [← e]; exact r1.1, rv⟩ r2
    · rw [if_neg (by simpa using e), if_neg e]
      exact .cons r1 (ih (List.nodup_cons.mp n).2)
theorem nodup_put (k : κ) (v : Vv) : ∀ {qs : List (κ × Vv)}, (qs.map (·.1)).Nodup → ((L2.putK qs k v).map (·.1)).Nodup
  | [], _ => by simp [L2.putK]
  | q :: qs, n => by
    rw [putK_cons q qs k v n]
    have mem : ∀ {qs : List (κ × Vv)} {x : κ}, (qs.map (·.1)).Nodup → x ∈ (L2.putK qs k v).map (·.1) → x = k ∨ x ∈ qs.map (·.1) := by
      intro qs
      induction qs with
      | nil => intro x _ h; simp [L2.putK] at h; exact .inl h
      | cons a as ih =>
        intro x n h
        rw [putK_cons a as k v n] at h
        split at h
        · rename_i e
          rw [List.map_cons, List.mem_cons] at h
          rcases h with h | h
          · exact .inl h
          · exact .inr (List.mem_cons_of_mem _ h)
        · rw [List.map_cons, List.mem_cons] at h
          rcases h with h | h
          · exact .inr (by rw [h]; exact List.mem_cons_self)
          · exact (ih (List.nodup_cons.mp n).2 h).imp id fun z => List.mem_cons_of_mem _ z
    split
    · rename_i e
      rw [List.map_cons] at n ⊢
      rw [← e]
      exact n
    · rename_i e
      rw [List.map_cons, List.nodup_cons]
      refine ⟨fun h => ?_, nodup_put k v (List.nodup_cons.mp n).2⟩
      rcases mem (List.nodup_cons.mp n).2 h with h | h
      · exact e h
      · exact (List.nodup_cons.mp n).1 h
theorem RPs.merge (hf : ∀ {a b i j}, f a = some i → f b = some j → keq a b = decide (i = j)) : ∀ {more : List (W × W)} {ms : List (κ × Vv)} {ps : List (W × W)} {qs : List (κ × Vv)}, RPs f ρ H more ms → RPs f ρ H ps qs → (qs.map (·.1)).Nodup →
    RPs f ρ H (dmerge ps more) (ms.foldl (fun acc kv => L2.putK acc kv.1 kv.2) qs) ∧ ((ms.foldl (fun acc kv => L2.putK acc kv.1 kv.2) qs).map (·.1)).Nodup
  | [], _, ps, qs, r, r2, n => by cases r; exact ⟨r2, n⟩
  | (k, v) :: more, _, ps, qs, r, r2, n => by
    cases r with
    | @cons _ q _ ms r1 r3 =>
      exact RPs.merge (more := more) (ms := ms) (ps := dput k v ps) (qs := L2.putK qs q.1 q.2) hf r3 (RPs.put hf r1.1 r1.2 r2 n) (nodup_put q.1 q.2 n)
end
/-! ### displays of dicts -/
def RPW (ρ : List Addr) (H : HH) (ps : List (MP.W × MP.W)) (qs : List (Vv × Vv)) : Prop := Paired (fun p q => RW ρ H p.1 q.1 ∧ RW ρ H p.2 q.2) ps qs
section
variable {cA : CA} {fz : List Nat} {M : Cx} {W : L2.WX} {X : L2.Cx} {pos p2 p : Pos} {a b c tg : Expr} {ma mb mc : Ex}
theorem pairs_ok {σ : L2.St} : ∀ {ms : List (Ex × Ex)} {ρ : List Addr} {env : Env} {h : Hp} {H : HH} {Q : List (Vv × Vv) → HH → Prop}, RH cA ρ (· ∈ fz) h H → RE ρ H env σ → Good cA fz RPW (evp M ms env h) ρ H Q (L2.WE W σ) →
    L2.tPairs (ms.map fun m => (tE cA fz M W m.1, tE cA fz M W m.2)) σ H Q
  | [], ρ, env, h, H, Q, rh, re, g => by simp only [evp] at g; exact g.here rh .nil
  | (a, b) :: ms, ρ, env, h, H, Q, rh, re, g => by
    simp only [evp] at g
    refine ⟨ρ, env, h, rh, re, g.bind fun w h1 ρ1 v H1 _ x rh1 rv g1 => ⟨ρ1, env, h1, rh1, re.ext x, g1.bind fun u h2 ρ2 t H2 _ x2 rh2 rt g2 => ?_⟩⟩
    refine pairs_ok rh2 ((re.ext x).ext x2) (g2.bind fun us h3 ρ3 ts H3 _ x3 rh3 rr g3 => ?_)
    exact g3.here rh3 (.cons ⟨(rv.ext x2).ext x3, rt.ext x3⟩ rr)
theorem RPW.flat {ρ : List Addr} {H : HH} : ∀ {ps : List (MP.W × MP.W)} {qs : List (Vv × Vv)}, RPW ρ H ps qs → ps.all (fun p => isFlat p.1) = true → ∃ ks : List (KEY × Vv), qs = ks.map (fun kv => (L2.kV kv.1, kv.2)) ∧ RPs flatK ρ H ps ks
  | [], _, r, _ => by cases r; exact ⟨[], rfl, .nil⟩
  | p :: ps, _, r, e => by
    cases r with
    | @cons _ q _ qs r1 r2 =>
      simp only [List.all_cons, Bool.and_eq_true] at e
      obtain ⟨ks, rfl, r3⟩ := RPW.flat r2 e.2
      obtain ⟨k, hk⟩ := flatK_some e.1 r1.1
      refine ⟨(k, q.2) :: ks, ?_, .cons ⟨hk, r1.2⟩ r3⟩
      rw [List.map_cons, ← kV_of hk r1.1]
theorem k_dct {keys : List (Option Expr)} {values : List Expr} {ms : List (Ex × Ex)} (hp : L2.PPs X pos keys values (ms.map fun m => (tE cA fz M W m.1, tE cA fz M W m.2))) (hall : keys.all (·.isSome) = true) (hl : keys.length = values.length) (h0 : keys ≠ []) (h15 : keys.length ≤ 15) (hm : ms.length = keys.length) :
    L2.PE X (.Dict keys values pos) (tE cA fz M W (.dct ms)) :=
  PE.imp (L2.pe_disp hp hall hl h0 h15) fun σ H Q ⟨ρ, env, h, rh, re, g⟩ p hp => by
    simp only [ev] at g
    have np := rh.fresh hp
    obtain ⟨x0, rh0⟩ := rh.side (u := .dK []) hp
    refine pairs_ok (h := h) rh0 (re.ext x0) ?_
    have evl : ∀ {ms : List (Ex × Ex)} {env : Env} {h h' : Hp} {ws : List (MP.W × MP.W)}, evp M ms env h = .ok ws h' → ws.length = ms.length := by
      intro ms
      induction ms with
      | nil => intro env h h' ws e; simp only [evp] at e; cases e; rfl
      | cons m ms ih =>
        intro env h h' ws e
        obtain ⟨a, b⟩ := m
        simp only [evp] at e
        cases e1 : ev M a env h with
        | bad => rw [e1] at e; cases e
        | exc x h => rw [e1] at e; cases e
        | ok w h1 =>
          rw [e1] at e
          simp only [R.bind_ok] at e
          cases e2 : ev M b env h1 with
          | bad => rw [e2] at e; cases e
          | exc x h => rw [e2] at e; cases e
          | ok u h2 =>
            rw [e2] at e
            simp only [R.bind_ok] at e
            cases e3 : evp M ms env h2 with
            | bad => rw [e3] at e; cases e
            | exc x h => rw [e3] at e; cases e
            | ok us h3 => rw [e3] at e; cases e; rw [List.length_cons, List.length_cons, ih e3]
    cases hr : evp M ms env h with
    | bad => rw [hr] at g; exact g.elim
    | exc y h' => rw [hr] at g; exact fun ρ' c d H' x => g ρ' c d H' (x0.trans x)
    | ok ws h2 =>
      rw [hr] at g
      intro ρ2 qs H2 x rh2 rr
      obtain ⟨ed, g⟩ := Good.guardR (r := mk (.dct (dmerge [] ws)) h2) (b := dictOk ws) g
      obtain ⟨ks, rfl, rk⟩ := rr.flat ed
      have hp2 : H2 p = some (.dK []) := x.keep p _ np L2.upd_same
      have np2 : p ∉ ρ2 := fun hm => (x.new p hm).elim np fun z => by rw [L2.upd_same] at z; cases z
      have e0 : Ex0 ρ2 ρ2 H2 (L2.upd H2 p (.dK (L2.mergeK [] ks))) := ⟨List.prefix_refl _, fun t us z => by rw [L2.upd_ne fun q => by rw [q, hp2] at z; cases z]; exact z⟩
      have xx := x0.trans x
      refine ⟨hp2, ks, rfl, by rw [← Paired.length rk, evl hr, hm]; exact h15, ?_⟩
      obtain ⟨m1, m2⟩ := RPs.merge flat_keq (RPs.ext0 e0 rk) (.nil : RPs flatK ρ2 _ [] []) List.nodup_nil
      obtain ⟨rh3, hl3⟩ := (rh2.keep0 e0 fun t ht => L2.upd_ne fun q => np2 (q ▸ ht)).adopt (o := .dct (dmerge [] ws)) np2 (.inl ⟨_, RPs.ext0 ⟨List.prefix_append _ _, fun _ _ e => e⟩ m1, m2, .inl L2.upd_same⟩)
      refine g (ρ2 ++ [p]) _ _ ⟨xx.pre.trans (List.prefix_append _ _), fun t us z => e0.tup t us (xx.tup t us z), fun t o us z => ?_, fun t z => xx.dom t (dom_upd t z), fun t ht => ?_, fun t us nt z => ?_⟩ rh3 ⟨p, rfl, hl3⟩
      · have q := xx.frz t o us z
        rw [L2.upd_ne fun q2 => by rw [q2, hp2] at q; cases q]; exact q
      · rcases List.mem_append.mp ht with ht | ht
        · exact xx.new t ht
        · rw [List.mem_singleton.mp ht]; exact .inr hp
      · rw [L2.upd_ne fun q2 => by rw [q2, hp] at z; cases z]; exact xx.keep t us nt z
theorem k_dct0 : L2.PE X (.Dict [] [] pos) (tE cA fz M W (.dct [])) :=
  PE.imp L2.pe_dnewK fun σ H Q ⟨ρ, env, h, rh, re, g⟩ => by
    simp only [ev, evp, R.bind_ok] at g
    obtain ⟨_, g⟩ := Good.guardR (r := mk (.dct (dmerge [] [])) h) (b := dictOk []) g
    exact mk_dK g rh .nil List.nodup_nil
end
end MP

namespace MP
open PySem PySem.Spec PyProof.Rows
/-! ### methods -/
section
variable {X : L2.Cx} {o e : Expr} {to te : L2.TE} {apos pos : Pos}
def tL1 (K : PySem.W.Frag) (r : Vv → List Vv → HH → L2.VK → Prop) (to te : L2.TE) : L2.TE := fun σ H Q => to σ H fun x H1 => (∃ a xs, x = .ref a ∧ L2.SqL K H1 a xs) ∧ te σ H1 fun y H2 => r x [y] H2 Q
theorem pe_l1 {id : String} {name : Str} {r : Vv → List Vv → HH → L2.VK → Prop} (slot : Slot "list" name id) (ty : typeOf (.builtin id) = pure (.type "method_descriptor")) (rule : L2.MtM X id r) (ho : L2.PE X o to) (he : L2.PE X e te)
    (hs : starEach [e] X.env = [(false, eval e X.env)]) (hbase : attributeBase o name X.env (eval o X.env) = eval o X.env) (hline : (apos.endLine == pos.line) = true) : L2.PE X (.Call (.Attribute o name apos) [e] [] pos) (tL1 X.K r to te) := by
  refine ⟨fun pins s σ H Q I h => ?_⟩
  refine PySem.Call_method1 hbase hs hline (L2.thn (ho.run pins s σ H _ I h) fun v s1 ⟨x, H1, I1, r1, ⟨a, xs, ex, hq⟩, q1⟩ => ?_)
  subst ex
  obtain rfl : v = Value.ref a := r1
  obtain ⟨its, _, ⟨ob, n, ho, hc, hd, hs⟩, _⟩ := I1.list hq
  refine ⟨"list", _, F.plainAttrs_list, slot, ty, ⟨ob, ho, hc⟩, fun b eb => ?_, Calls.callWith_builtin rfl (Calls.evalArgs_plain (Calls.spliced_cons ?_))⟩
  · cases eb
    exact ⟨ob, ho, hd⟩
  · exact L2.thn (he.run pins s1 σ H1 _ I1 q1) fun u s2 ⟨y, H2, I2, r2, q2⟩ => Calls.spliced_nil (rule pins s2 σ H2 (.ref a) [y] _ [u] Q I2 rfl (.cons r2 .nil) q2)
end
theorem put_ok {lk : List Nat} {a : Nat} {o : O} {h : Hp} {α β : Type} {cA : CA} {fz : List Nat} {R1 : Rel α β} {f : Hp → MP.R α} {ρ : List Addr} {H : HH} {Q : β → HH → Prop} {E : L2.XK} (g : Good cA fz R1 ((put lk a o h).bind fun _ h => f h) ρ H Q E) :
    a < h.length ∧ a ∉ lk ∧ Good cA fz R1 (f (h.set a o)) ρ H Q E := by
  unfold put at g
  split at g
  · rename_i hc
    exact ⟨hc.1, hc.2, g⟩
  · exact g.elim
theorem strs_rel {ρ : List Addr} {H : HH} : ∀ {ws : List MP.W} {zs : List (List Nat)}, strsV ws = some zs → ∀ {vs : List Vv}, RWs ρ H ws vs → vs = (zs.map sv).map .str
  | [], _, e, _, r => by cases e; cases r; rfl
  | .str s :: ws, zs, e, _, r => by
    obtain ⟨v, t, rfl, r1, r2⟩ := r
    simp only [strsV] at e
    cases h : strsV ws with
    | none => rw [h] at e; cases e
    | some l =>
      rw [h] at e
      cases e
      rw [r1.2, strs_rel h r2]
      rfl
  | .non :: _, _, e, _, _ => by cases e
  | .bl _ :: _, _, e, _, _ => by cases e
  | .int _ :: _, _, e, _, _ => by cases e
  | .tup _ :: _, _, e, _, _ => by cases e
  | .ref _ :: _, _, e, _, _ => by cases e
theorem joinS_eq (s : List Nat) : ∀ zs : List (List Nat), joinS s zs = TL.joinL s zs
  | [] => rfl
  | [_] => rfl
  | x :: y :: r => by
    unfold joinS
    show _ = x ++ (s ++ TL.joinL s (y :: r))
    rw [joinS_eq s (y :: r), List.append_assoc]
theorem joinS_len (s : List Nat) : ∀ zs : List (List Nat), (joinS s zs).length ≤ (zs.map List.length).sum + zs.length * s.length
  | [] => by simp [joinS]
  | [x] => by simp [joinS]
  | x :: y :: r => by
    have := joinS_len s (y :: r)
    unfold joinS
    rw [List.length_append, List.length_append]
    simp only [List.map_cons, List.sum_cons, List.length_cons, Nat.add_mul, Nat.one_mul] at this ⊢
    omega
theorem join_eq (s : List Nat) (zs : List (List Nat)) : Txt.join (sv s) (zs.map sv) = sv (joinS s zs) := by
  rw [joinS_eq]
  apply TL.ext_tl
  rw [TL.join_eq, TL.tl_join]
  rw [List.map_map]
  have : (TL.tl ∘ sv) = id := by funext x; rfl
  rw [this, List.map_id]
  rfl
section
variable {cA : CA} {fz : List Nat} {M : Cx} {W : L2.WX} {X : L2.Cx} {apos pos p2 p : Pos} {o e : Expr} {mo me : Ex}
/-- a built-in's method -/
def isM (m : String) (h : Hp) : MP.W → Prop
  | .ref n => (∃ xs, rd h n = some (.lst xs) ∧ m ∈ lstM) ∨ ∃ kvs, rd h n = some (.dct kvs) ∧ m ∈ dctM
  | .str _ => m ∈ strM
  | .int _ => m = "bit_length"
  | _ => False
/-- the receiver's method, none of the text's own -/
theorem mth_no {T : Prog} {m : String} {L : Nat → Prop} {ρ : List Addr} {h : Hp} {H : HH} (hno : ∀ c ∈ cA.cls, T.mt c m = none) (rh : RH cA ρ L h H) {w : MP.W} {v : Vv} (rv : RW ρ H w v) {t : Mth} (e : mthOf T w m h = some t) : t = .blt ∧ isM m h w := by
  cases w with
  | ref n =>
    have e : mthO T m (rd h n) = some t := e
    cases hr : rd h n with
    | none => rw [hr] at e; cases e
    | some ob =>
      rw [hr] at e
      cases ob with
      | lst xs =>
        have e : (if m ∈ lstM then some Mth.blt else none) = some t := e
        split at e
        · rename_i hm; cases e; exact ⟨rfl, .inl ⟨xs, hr, hm⟩⟩
        · cases e
      | dct kvs =>
        have e : (if m ∈ dctM then some Mth.blt else none) = some t := e
        split at e
        · rename_i hm; cases e; exact ⟨rfl, .inr ⟨kvs, hr, hm⟩⟩
        · cases e
      | ins c fs =>
        have e : (if (fs.lookup m).isNone then (T.mt c m).map Mth.own else none) = some t := e
        split at e
        · obtain ⟨a, _, dx, gs, hc, _⟩ := rh.get hr
          rw [hno c hc] at e
          cases e
        · cases e
  | str s =>
    have e : (if m ∈ strM then some Mth.blt else none) = some t := e
    split at e
    · rename_i hm; cases e; exact ⟨rfl, hm⟩
    · cases e
  | int s =>
    have e : (if m = "bit_length" then some Mth.blt else none) = some t := e
    split at e
    · rename_i hm; cases e; exact ⟨rfl, hm⟩
    · cases e
  | _ => cases e
theorem evs1 {m : Ex} {env : Env} {h : Hp} : evs M [m] env h = (ev M m env h).bind fun x h => .ok [x] h := by
  simp only [evs, R.bind_ok]
theorem k_append (hz : ∀ n ∈ fz, n ∈ M.lk) (hno : ∀ c ∈ cA.cls, M.T.mt c "append" = none) (ho : L2.PE X o (tE cA fz M W mo)) (he : L2.PE X e (tE cA fz M W me)) (hs : starEach [e] X.env = [(false, eval e X.env)]) (hbase : attributeBase o "append" X.env (eval o X.env) = eval o X.env) (hline : (apos.endLine == pos.line) = true) :
    L2.PE X (.Call (.Attribute o "append" apos) [e] [] pos) (tE cA fz M W (.meth mo "append" [me])) :=
  PE.imp (pe_l1 F.slot_list_append F.type_list_append L2.mt_append ho he hs hbase hline) fun σ H Q h => tG.bind h fun ρ env h w v H1 rh re rv g => by
    obtain ⟨t, et, g⟩ := g.thenO
    obtain ⟨rfl, hm⟩ := mth_no hno rh rv et
    cases w with
    | ref n =>
      obtain ⟨a, rfl, ha⟩ := rv
      rcases hm with ⟨xs, e1, _⟩ | ⟨kvs, _, hm⟩
      · obtain ⟨a', ha', vs, rr, z⟩ := rh.get e1
        rw [ha] at ha'; cases ha'
        refine ⟨⟨a, vs, rfl, z.seqL⟩, ρ, env, h, rh, re, ?_⟩
        rw [evs1] at g
        simp only at g
        cases hr : ev M me env h with
        | bad => rw [hr] at g; exact g.elim
        | exc y h' => rw [hr] at g; exact g
        | ok y h' =>
          rw [hr] at g
          intro ρ2 u H2 x rh2 ru
          have g : Good cA fz RW (bmO M.lk n "append" [y] h' (rd h' n)) ρ H1 Q _ := g
          have ha2 := x.ix ha
          unfold bmO at g
          split at g
          · rename_i ys e2
            obtain ⟨a', ha', vs2, rr2, z2⟩ := rh2.get e2
            rw [ha2] at ha'; cases ha'
            have g : Good cA fz RW (guardR (decide (ys.length < LINE)) (putV M.lk n (.lst (ys ++ [y])) .non h')) ρ H1 Q _ := g
            obtain ⟨el, g⟩ := g.guardR
            obtain ⟨hl, hlk, g⟩ := put_ok (f := fun h => .ok MP.W.non h) g
            have hp := z2.plain fun hc => hlk (hz n hc)
            obtain ⟨x3, rh3⟩ := rh2.write (u := .lst (vs2 ++ [u])) (o := .lst (ys ++ [y])) ha2 (by rw [hp]; exact trivial) fun x3 => ⟨vs2 ++ [u], (rr2.ext x3).append ⟨u, [], rfl, ru.ext x3, rfl⟩, .inl L2.upd_same⟩
            exact ⟨a, vs2, u, rfl, rfl, hp, by rw [← rr2.length]; exact Nat.lt_of_lt_of_le (of_decide_eq_true el) line_le, g ρ2 .non _ (x.trans x3) rh3 rfl⟩
          · have g : Good cA fz RW (bmD M.lk n _ "append" [y] h') ρ H1 Q _ := g
            exact g.elim
          · exact g.elim
      · exact absurd hm (by decide)
    | str s => exact absurd (show "append" ∈ strM from hm) (by decide)
    | int s => exact absurd (show "append" = "bit_length" from hm) (by decide)
    | _ => exact hm.elim
theorem k_join (hno : ∀ c ∈ cA.cls, M.T.mt c "join" = none) (ho : L2.PE X o (tE cA fz M W mo)) (he : L2.PE X e (tE cA fz M W me)) (hs : starEach [e] X.env = [(false, eval e X.env)]) (hbase : attributeBase o "join" X.env (eval o X.env) = eval o X.env) (hline : (apos.endLine == pos.line) = true) :
    L2.PE X (.Call (.Attribute o "join" apos) [e] [] pos) (tE cA fz M W (.meth mo "join" [me])) :=
  PE.imp (L2.pe_join ho he hs hbase hline) fun σ H Q h => tG.bind h fun ρ env h w v H1 rh re rv g => by
    obtain ⟨t, et, g⟩ := g.thenO
    obtain ⟨rfl, hm⟩ := mth_no hno rh rv et
    cases w with
    | str s =>
      obtain ⟨hl, rfl⟩ := rv
      refine ⟨⟨_, rfl⟩, ρ, env, h, rh, re, ?_⟩
      rw [evs1] at g
      simp only at g
      cases hr : ev M me env h with
      | bad => rw [hr] at g; exact g.elim
      | exc y h' => rw [hr] at g; exact g
      | ok y h' =>
        rw [hr] at g
        intro ρ2 u H2 x rh2 ru
        have g : Good cA fz RW (thenO (lotV y h') fun p => thenO (strsV p) fun zs => guardR (decide ((zs.map List.length).sum + zs.length * s.length ≤ LINE)) (.ok (.str (joinS s zs)) h')) ρ H1 Q _ := g
        obtain ⟨ws, e1, g⟩ := g.thenO
        obtain ⟨zs, e2, g⟩ := g.thenO
        obtain ⟨el, g⟩ := g.guardR
        have el := of_decide_eq_true el
        have hsum : ((zs.map sv).map (·.length)).sum + (zs.map sv).length * (sv s).length ≤ 16777216 := by
          rw [List.map_map, List.length_map]
          exact Nat.le_trans el (by decide)
        have fin : Q (.str (Txt.join (sv s) (zs.map sv))) H2 := by
          rw [join_eq]
          exact g ρ2 _ H2 x rh2 ⟨Nat.le_trans (joinS_len s zs) el, rfl⟩
        cases y with
        | tup xs =>
          cases e1
          obtain ⟨a, vs, rfl, ha, rr⟩ := ru
          exact ⟨sv s, a, zs.map sv, rfl, rfl, .inr (by rw [← strs_rel e2 rr]; exact .of ha), hsum, fin⟩
        | ref n =>
          obtain ⟨a, rfl, ha⟩ := ru
          unfold lotV at e1
          simp only at e1
          split at e1
          · rename_i xs e3
            cases e1
            obtain ⟨a', ha', vs, rr, z⟩ := rh2.get e3
            rw [ha] at ha'; cases ha'
            exact ⟨sv s, a, zs.map sv, rfl, rfl, .inl (by rw [← strs_rel e2 rr]; exact z.seqL), hsum, fin⟩
          · cases e1
        | _ => cases e1
    | ref n => rcases hm with ⟨_, _, hm⟩ | ⟨_, _, hm⟩ <;> exact absurd hm (by decide)
    | int s => exact absurd (show "join" = "bit_length" from hm) (by decide)
    | _ => exact hm.elim
theorem k_bits (hno : ∀ c ∈ cA.cls, M.T.mt c "bit_length" = none) (ho : L2.PE X o (tE cA fz M W mo)) (hbase : attributeBase o "bit_length" X.env (eval o X.env) = eval o X.env) (hline : (apos.endLine == pos.line) = true) :
    L2.PE X (.Call (.Attribute o "bit_length" apos) [] [] pos) (tE cA fz M W (.meth mo "bit_length" [])) :=
  PE.imp (L2.pe_bits ho hbase hline) fun σ H Q h => tG.bind h fun ρ env h w v H1 rh re rv g => by
    obtain ⟨t, et, g⟩ := g.thenO
    obtain ⟨rfl, hm⟩ := mth_no hno rh rv et
    cases w with
    | int i =>
      cases rv
      refine ⟨i, rfl, ?_⟩
      have e : Builtin.Int.intBits i = if i = 0 then 0 else i.natAbs.log2 + 1 := by
        unfold Builtin.Int.intBits
        by_cases hi : i = 0 <;> simp [hi]
      rw [e]
      refine Good.here (w := MP.W.int (if i = 0 then 0 else (i.natAbs.log2 + 1 : Nat))) g rh ?_
      show (_ : Vv) = _
      by_cases hi : i = 0 <;> simp [hi]
    | ref n => rcases hm with ⟨_, _, hm⟩ | ⟨_, _, hm⟩ <;> exact absurd hm (by decide)
    | str s => exact absurd (show "bit_length" ∈ strM from hm) (by decide)
    | _ => exact hm.elim
end
end MP

namespace MP
open PySem PySem.Spec PyProof.Rows
/-! ### o[i] = v -/
section
variable {cA : CA} {X : L2.Cx} {lk fz : List Nat} {ρ : List Addr} {H : HH} {pins : List (Addr × Obj)} {s : Shared} {σ : L2.St} {A : Around} {E : Value → Shared → Prop}
/-- the dict written, and what it is then -/
theorem DK.put {P P' : Prop} {a : Addr} {kvs : List (W × W)} {k w : W} {y v : Vv} {u r : Value} {Q : Unit → Shared → Prop} (hu : A.units + 1 < cLine) (I : L2.Inv X pins σ H s) (d : DK ρ H P a kvs y k) (hP : ¬P) (hl : kvs.length < LINE)
    (ry : L2.RelV y u) (rw : RW ρ H w v) (rv : L2.RelV v r)
    (h : ∀ ob s', L2.Mut (H a) → (∀ x : Ext ρ ρ H (L2.upd H a ob), RO cA ρ (L2.upd H a ob) P' a (.dct (dput k w kvs))) → L2.Inv X pins σ (L2.upd H a ob) s' → Q () s') :
    wpAny (model X.prog X.w) A (setItem (.ref a) u r) Q E s := by
  have hL := line_le
  cases d with
  | flat ks k0 r n z ek ey =>
    have hz := z.plain hP
    have hk : ks.length < sizeLine := by rw [← Paired.length r]; omega
    have g : L2.DPut H a y v _ := .inl ⟨ks, k0, hz, ey, hk, rfl⟩
    exact L2.d_setItem hu I g ry rv fun s' I' => h _ s' (by rw [hz]; trivial) (fun x => .inl ⟨_, RPs.put flat_keq ek (rw.ext x) (r.ext x) n, nodup_put k0 v n, .inl L2.upd_same⟩) I'
  | tup ks k0 b r n z ek ey eb =>
    have hz := z.plain hP
    have hk : ks.length < sizeLine := by rw [← Paired.length r]; omega
    have g : L2.DPut H a y v _ := .inr ⟨ks, k0, b, hz, ey, eb, hk, rfl⟩
    exact L2.d_setItem hu I g ry rv fun s' I' => h _ s' (by rw [hz]; trivial) (fun x => .inr ⟨_, RPs.put tup_keq ek (rw.ext x) (r.ext x) n, nodup_put k0 v n, .inl L2.upd_same⟩) I'
  | flat0 k0 e z ek ey =>
    have hz := z.plain hP
    subst e ey
    obtain ⟨hd, d1, d2⟩ := dk0 I (.inr (.inl hz))
    refine wpAny_setItem_pairs (hsz := Nat.zero_le _) (L2.kV_is ry) d1 fun h' dd' hs => ?_
    have he : ∃ q, h'.get? a = some q := let ⟨q, _, _, hq, _⟩ := dd'; ⟨q, hq⟩
    refine h (.dK (L2.putK [] k0 v)) _ (by rw [hz]; trivial) (fun x => .inl ⟨_, RPs.put flat_keq ek (rw.ext x) (.nil : RPs flatK ρ _ [] []) List.nodup_nil, nodup_put k0 v List.nodup_nil, .inl L2.upd_same⟩) ?_
    exact L2.d_write I (by rw [hz]; trivial) hs he (L2.dk_new (by simp [L2.putK]; rw [sizeLine_eq]; decide) hd (L2.KV.put (.nil : L2.KV [] []) k0 rv) dd')
  | tup0 k0 b e z ek ey eb =>
    have hz := z.plain hP
    subst e ey
    cases (show u = Value.ref b from ry)
    obtain ⟨hd, d1, d2⟩ := dk0 I (.inl (.inl hz))
    refine wpAny_setItem_heap (hsz := Nat.zero_le _) (tupleKind_room_in1 hu) (L2.key_of I.hok eb) d2 fun h' dd' hs => ?_
    refine h (.dT (L2.putK [] k0 v)) _ (by rw [hz]; trivial) (fun x => .inr ⟨_, RPs.put tup_keq ek (rw.ext x) (.nil : RPs tupK ρ _ [] []) List.nodup_nil, nodup_put k0 v List.nodup_nil, .inl L2.upd_same⟩) ?_
    obtain ⟨q, es, ep, hq, h2, h3, h4, _, h5⟩ := dd'
    refine L2.d_write I (by rw [hz]; trivial) hs ⟨q, hq⟩ ⟨by simp [L2.putK]; rw [sizeLine_eq]; decide, hd, _, (L2.KT.put (.nil : L2.KT H [] []) k0 eb rv).keeps fun c ys ec => ?_, q, es, ep, hq, h2, h3, h4, h5⟩
    rw [L2.upd_ne (L2.ne_of ec hz (fun z => nomatch z))]
    exact ec
/-- o[i] = v by values -/
def rSet (cA : CA) (fz lk : List Nat) : L2.TSet := fun x y v H Q => ∃ ρ h w k u E, RH cA ρ (· ∈ fz) h H ∧ RW ρ H w x ∧ RW ρ H k y ∧ RW ρ H u v ∧ Good cA fz (fun _ _ (_ : Unit) (_ : Unit) => True) (setIx lk w k u h) ρ H (fun _ H => Q H) E
theorem put_ok' {lk : List Nat} {a : Nat} {o : O} {h : Hp} {β : Type} {R1 : Rel Unit β} {Q : β → HH → Prop} {E : L2.XK} (g : Good cA fz R1 (put lk a o h) ρ H Q E) : a < h.length ∧ a ∉ lk ∧ Good cA fz R1 (.ok () (h.set a o)) ρ H Q E := by
  unfold put at g
  split at g
  · rename_i hc
    exact ⟨hc.1, hc.2, g⟩
  · exact g.elim
theorem pset_ok {Y : L2.Cx} (hu : Y.A.units + 64 < cLine) (hz : ∀ n ∈ fz, n ∈ lk) : L2.PSet Y (rSet cA fz lk) := by
  intro pins s σ H o i v ov iv u Q I ro ri rv ⟨ρ, h, w, k, uu, E, rh, rx, rk, rw, g⟩
  cases w with
  | ref n =>
    obtain ⟨a, rfl, ha⟩ := rx
    cases (show ov = Value.ref a from ro)
    have g : Good cA fz _ (setIxO lk n k uu h (rd h n)) ρ H _ E := g
    unfold setIxO at g
    split at g
    · rename_i xs e
      obtain ⟨a', ha', vs, rr, z⟩ := rh.get e
      rw [ha] at ha'; cases ha'
      split at g
      · rename_i j _
        obtain ⟨m, em, g⟩ := g.thenO
        obtain ⟨_, hlk, g⟩ := put_ok' g
        have hp := z.plain fun hc => hlk (hz n hc)
        cases rk
        obtain ⟨x3, rh3⟩ := rh.write (u := .lst (vs.set m v)) (o := .lst (xs.set m uu)) ha (by rw [hp]; exact trivial) fun x3 => ⟨_, RWs.set (rw.ext x3) m (rr.ext x3), .inl L2.upd_same⟩
        refine L2.set_list pins s σ H (.ref a) (.int j) v (.ref a) iv u Q I rfl ri rv ⟨a, vs, j, m, rfl, rfl, hp, ?_, g ρ () _ x3 rh3 trivial⟩
        rw [← rr.length]
        exact em
      · exact g.elim
    · rename_i kvs e
      obtain ⟨a', ha', r⟩ := rh.get e
      rw [ha] at ha'; cases ha'
      obtain ⟨eg, g⟩ := g.guardR
      simp only [Bool.and_eq_true, decide_eq_true_eq] at eg
      obtain ⟨_, hlk, g⟩ := put_ok' g
      refine DK.put (cA := cA) (P' := n ∈ fz) (by omega) I (keyIn_cases eg.1 r rk) (fun hc => hlk (hz n hc)) eg.2 ri rw rv fun ob s' mu new I' => ?_
      obtain ⟨x3, rh3⟩ := rh.write (o := .dct (dput k uu kvs)) ha mu new
      exact ⟨_, I', g ρ () _ x3 rh3 trivial⟩
    · exact g.elim
  | _ => exact g.elim
end
section
variable {cA : CA} {fz : List Nat} {M : Cx} {W : L2.WX} {X : L2.Cx} {pos pos' : Pos} {o i value : Expr} {mo mi mv : Ex}
theorem s_setix (hu : X.A.units + 64 < cLine) (hz : ∀ n ∈ fz, n ∈ M.lk) (hv : L2.PE X value (tE cA fz M W mv)) (ho : L2.PE X o (tE cA fz M W mo)) (hi : L2.PE X i (tE cA fz M W mi)) (hs : swapsWith value (some (.Subscript o i pos')) pos.line X.env = pure false) :
    L2.PS X (.Assign [.Subscript o i pos'] value pos) (tX cA fz M W (.set (.ix mo mi) mv)) := by
  refine ⟨fun pins s σ H D I h => ?_⟩
  refine wpAny_Assign_Subscript ?_ hs
  refine L2.thn (hv.run pins s σ H _ I (tS.on (R1 := RW) h fun ρ env h w v H1 rh re rv g => (⟨ρ, env, h, w, rh, re, rv, g⟩ : (fun v H1 => ∃ ρ env h w, RH cA ρ (· ∈ fz) h H1 ∧ RE ρ H1 env σ ∧ RW ρ H1 w v ∧ GoodS cA fz ((ev M mo env h).on env fun x h => (ev M mi env h).on env fun y h => (setIx M.lk x y w h).on env fun _ h => .ok (.nx env) h) ρ H1 D W) v H1))) fun r s1 ⟨v, H1, I1, rv, q1⟩ => ?_
  obtain ⟨ρ, env, h, w, rh, re, rw, g⟩ := q1
  refine L2.thn (ho.run pins s1 σ H1 (fun x H2 => ∃ ρ h y, RH cA ρ (· ∈ fz) h H2 ∧ RE ρ H2 env σ ∧ RW ρ H2 w v ∧ RW ρ H2 y x ∧ GoodS cA fz ((ev M mi env h).on env fun z h => (setIx M.lk y z w h).on env fun _ h => .ok (.nx env) h) ρ H2 D W) I1 ⟨ρ, env, h, rh, re, g.on re fun y h1 ρ1 x H2 _ x1 rh1 ry re1 g1 => ⟨ρ1, h1, y, rh1, re1, rw.ext x1, ry, g1⟩⟩) fun ov s2 ⟨x, H2, I2, rx, q2⟩ => ?_
  obtain ⟨ρ, h, y, rh, re, rw, ry, g⟩ := q2
  refine L2.thn (hi.run pins s2 σ H2 (fun t H3 => ∃ ρ h z, RH cA ρ (· ∈ fz) h H3 ∧ RE ρ H3 env σ ∧ RW ρ H3 w v ∧ RW ρ H3 y x ∧ RW ρ H3 z t ∧ GoodS cA fz ((setIx M.lk y z w h).on env fun _ h => .ok (.nx env) h) ρ H3 D W) I2 ⟨ρ, env, h, rh, re, g.on re fun z h1 ρ1 t H3 _ x1 rh1 rz re1 g1 => ⟨ρ1, h1, z, rh1, re1, rw.ext x1, ry.ext x1, rz, g1⟩⟩) fun iv s3 ⟨t, H3, I3, rt, q3⟩ => ?_
  obtain ⟨ρ, h, z, rh, re, rw, ry, rz, g⟩ := q3
  refine wpAny_mono (pset_ok (cA := cA) hu hz pins s3 σ H3 x t v ov iv r (fun H4 => D.nx σ H4) I3 rx rt rv ⟨ρ, h, y, z, w, L2.WE W σ, rh, ry, rz, rw, g.on re fun _ h1 ρ1 _ H4 _ x1 rh1 _ re1 g1 => g1.nx rh1 re1⟩) (fun _ s4 ⟨H4, I4, q⟩ => ⟨σ, H4, I4, q⟩) fun _ _ e => e
end
end MP

namespace MP
open PySem PySem.Spec PyProof.Rows
/-! ### methods of built-ins, by kind -/
def rmL (cA : CA) (fz lk : List Nat) (m : String) : Vv → List Vv → HH → L2.VK → Prop := fun x vs H Q => ∃ ρ h n a us ys ws E, x = .ref a ∧ ρ[n]? = some a ∧ rd h n = some (.lst ys) ∧ RWs ρ H ys us ∧ At H (n ∈ fz) a (.lst us) ∧ RH cA ρ (· ∈ fz) h H ∧ RWs ρ H ws vs ∧ Good cA fz RW (bmL lk n ys m ws h) ρ H Q E
def rmD (cA : CA) (fz lk : List Nat) (m : String) : Vv → List Vv → HH → L2.VK → Prop := fun x vs H Q => ∃ ρ h n a kvs ws E, x = .ref a ∧ ρ[n]? = some a ∧ rd h n = some (.dct kvs) ∧ RO cA ρ H (n ∈ fz) a (.dct kvs) ∧ RH cA ρ (· ∈ fz) h H ∧ RWs ρ H ws vs ∧ Good cA fz RW (bmD lk n kvs m ws h) ρ H Q E
def rmS (cA : CA) (fz : List Nat) (m : String) : Vv → List Vv → HH → L2.VK → Prop := fun x vs H Q => ∃ ρ h s ws E, x = .str (sv s) ∧ s.length ≤ LINE ∧ RH cA ρ (· ∈ fz) h H ∧ RWs ρ H ws vs ∧ Good cA fz RW (bmS m s ws h) ρ H Q E
theorem bmL_no {m : String} (h : m ∉ lstM) {lk : List Nat} {n : Nat} {ys ws : List W} {hp : Hp} : bmL lk n ys m ws hp = .bad := by
  unfold bmL
  split <;> first | rfl | exact absurd (by decide) h
theorem bmD_no {m : String} (h : m ∉ dctM) {lk : List Nat} {n : Nat} {ys : List (W × W)} {ws : List W} {hp : Hp} : bmD lk n ys m ws hp = .bad := by
  unfold bmD
  split <;> first | rfl | exact absurd (by decide) h
theorem bmS_no {m : String} (h : m ∉ strM) {s : List Nat} {ws : List W} {hp : Hp} : bmS m s ws hp = .bad := by
  unfold bmS
  split <;> first | rfl | exact absurd (by decide) h
section
variable {cA : CA} {fz : List Nat} {M : Cx} {W : L2.WX} {X : L2.Cx} {apos cpos : Pos} {o e : Expr} {es : List Expr} {mo : Ex} {ms : List Ex} {m id : String}
/-- of a built-in's type; a dict may be walked -/
def tyX (K : PySem.W.Frag) (T : String) (x : Vv) (H : HH) : Prop := L2.tyV K T x H ∨ (T = "dict" ∧ ∃ a, x = .ref a ∧ L2.IsD H a)
theorem tyX_is {pins : List (Addr × Obj)} {σ : L2.St} {H : HH} {s : Shared} {T : String} {x : Vv} {v : Value} (I : L2.Inv X pins σ H s) (r : L2.RelV x v) (ty : tyX X.K T x H) :
    s.TypeIs v T ∧ ∀ a, v = .ref a → ∃ ob, s.heap.get? a = some ob ∧ ob.dict = none := by
  rcases ty with ty | ⟨rfl, a, rfl, d⟩
  · exact L2.tyV_is I r ty
  · cases (show v = Value.ref a from r)
    obtain ⟨h1, h2, _⟩ := L2.isD_at I d
    exact ⟨h1, h2⟩
/-- the method's type and name, known when the receiver is -/
def tLate (X : L2.Cx) (name : Str) (to : L2.TE) (t : L2.TA) : L2.TE := fun σ H Q => to σ H fun x H1 => ∃ T id r, PlainAttrs T ∧ Slot T name id ∧ typeOf (.builtin id) = pure (.type "method_descriptor") ∧ L2.MtM X id r ∧ tyX X.K T x H1 ∧ t σ H1 fun xs H2 => r x xs H2 Q
def tLate0 (X : L2.Cx) (name : Str) (to : L2.TE) : L2.TE := fun σ H Q => to σ H fun x H1 => ∃ T id r, PlainAttrs T ∧ Slot T name id ∧ typeOf (.builtin id) = pure (.type "method_descriptor") ∧ L2.MtM X id r ∧ tyX X.K T x H1 ∧ r x [] H1 Q
theorem pe_late0 {name : Str} {to : L2.TE} (ho : L2.PE X o to) (hbase : attributeBase o name X.env (eval o X.env) = eval o X.env) (hline : (apos.endLine == cpos.line) = true) : L2.PE X (.Call (.Attribute o name apos) [] [] cpos) (tLate0 X name to) := by
  refine ⟨fun pins s σ H Q I h => ?_⟩
  refine wpAny_Call_method0_late hbase hline (L2.thn (ho.run pins s σ H _ I h) fun v s1 ⟨x, H1, I1, r1, T, id, r, pa, slot, hty, hm, ty, q1⟩ => ?_)
  obtain ⟨h1, h2⟩ := tyX_is I1 r1 ty
  exact ⟨T, id, pa, slot, hty, h1, h2, Calls.callWith_builtin rfl (PySem.evalArgs_none (hm pins s1 σ H1 x [] v [] Q I1 r1 .nil q1))⟩
theorem pe_late {name : Str} {to : L2.TE} {t : L2.TA} (ho : L2.PE X o to) (ha : L2.PA X (e :: es) t) (hbase : attributeBase o name X.env (eval o X.env) = eval o X.env)
    (hfew : ((backTo cpos (starEach (e :: es) X.env)).all (fun x => !x.1) && (backToKw cpos (keywordEach [] X.env)).all (fun x => x.1.isSome)
      && decide ((e :: es).length + ([] : List Keyword).length + (if ([] : List Keyword).isEmpty then 0 else 1) < 30)) = true)
    (hline : (apos.endLine == cpos.line) = true) (hs : starEach (e :: es) X.env = (false, eval e X.env) :: starEach es X.env) (hplain : (backTo cpos (starEach es X.env)).any (·.1) = false) :
    L2.PE X (.Call (.Attribute o name apos) (e :: es) [] cpos) (tLate X name to t) := by
  refine ⟨fun pins s σ H Q I h => ?_⟩
  refine wpAny_Call_method_late hbase hfew hline rfl (L2.thn (ho.run pins s σ H _ I h) fun v s1 ⟨x, H1, I1, r1, T, id, r, pa, slot, hty, hm, ty, q1⟩ => ?_)
  obtain ⟨h1, h2⟩ := tyX_is I1 r1 ty
  refine ⟨T, id, pa, slot, hty, h1, h2, ?_⟩
  have hA := ha.run cpos pins s1 σ H1 _ I1 q1
  rw [hs] at hA ⊢
  refine Calls.callWith_builtin (by show (false || (backTo cpos (starEach es X.env)).any (·.1)) = false; rw [hplain] <;> rfl) (Calls.evalArgs_plain ?_)
  exact L2.thn hA fun us s2 ⟨vs, H2, I2, r2, q2⟩ => hm pins s2 σ H2 x vs v us Q I2 r1 r2 q2
/-- which method stands for m -/
structure MOk (cA : CA) (fz lk : List Nat) (X : L2.Cx) (m : String) : Prop where
  L : m ∈ lstM → ∃ id, Slot "list" (Str.ofString m) id ∧ typeOf (.builtin id) = pure (.type "method_descriptor") ∧ L2.MtM X id (rmL cA fz lk m)
  D : m ∈ dctM → ∃ id, Slot "dict" (Str.ofString m) id ∧ typeOf (.builtin id) = pure (.type "method_descriptor") ∧ L2.MtM X id (rmD cA fz lk m)
  S : m ∈ strM → ∃ id, Slot "str" (Str.ofString m) id ∧ typeOf (.builtin id) = pure (.type "method_descriptor") ∧ L2.MtM X id (rmS cA fz m)
theorem isD_ty {ρ : List Addr} {H : HH} {P : Prop} {a : Addr} {kvs : List (MP.W × MP.W)} {K : PySem.W.Frag} (r : RO cA ρ H P a (.dct kvs)) : tyX K "dict" (.ref a) H := by
  rcases r with ⟨ks, _, _, z⟩ | ⟨ks, _, _, z⟩
  · exact .inr ⟨rfl, a, rfl, .inl ⟨ks, z.rd⟩⟩
  · exact .inr ⟨rfl, a, rfl, .inr ⟨ks, z.rd⟩⟩
/-- expressions that change nothing -/
def still : Ex → Bool
  | .non => true | .bl _ => true | .int _ => true | .str _ => true | .var _ => true
  | .ix (.var _) (.var _) => true
  | .ix (.var _) (.int _) => true
  | _ => false
theorem still_ok {me : Ex} (e : still me = true) {env : Env} {h h' : Hp} {w : MP.W} (g : ev M me env h = .ok w h') : h' = h := by
  have slot_same : ∀ {i : Nat} {w : MP.W} {h h' : Hp}, slot env i h = .ok w h' → h' = h := by
    intro i w h h' g
    unfold slot at g
    cases hx : env[i]?.join with
    | none => rw [hx] at g; cases g
    | some w => rw [hx] at g; cases g; rfl
  have ix_same : ∀ {a b : Ex} {w : MP.W} {h h' : Hp}, (∀ {w h h'}, ev M a env h = .ok w h' → h' = h) → (∀ {w h h'}, ev M b env h = .ok w h' → h' = h) → ev M (.ix a b) env h = .ok w h' → h' = h := by
    intro a b w h h' ha hb g
    simp only [ev] at g
    cases e1 : ev M a env h with
    | bad => rw [e1] at g; cases g
    | exc x h1 => rw [e1] at g; cases g
    | ok x h1 =>
      rw [e1] at g
      cases ha e1
      simp only [R.bind_ok] at g
      cases e2 : ev M b env h with
      | bad => rw [e2] at g; cases g
      | exc x h1 => rw [e2] at g; cases g
      | ok y h1 =>
        rw [e2] at g
        cases hb e2
        simp only [R.bind_ok] at g
        cases e3 : item x y h with
        | none => rw [e3] at g; cases g
        | some z => rw [e3] at g; cases g; rfl
  unfold still at e
  split at e
  · simp only [ev] at g; cases g; rfl
  · simp only [ev] at g; cases g; rfl
  · simp only [ev] at g; cases g; rfl
  · simp only [ev] at g; cases g; rfl
  · simp only [ev] at g; exact slot_same g
  · exact ix_same (fun g => by simp only [ev] at g; exact slot_same g) (fun g => by simp only [ev] at g; exact slot_same g) g
  · exact ix_same (fun g => by simp only [ev] at g; exact slot_same g) (fun g => by simp only [ev] at g; cases g; rfl) g
  · cases e
theorem stills_ok : ∀ {ms : List Ex} (e : ms.all still = true) {env : Env} {h h' : Hp} {ws : List MP.W}, evs M ms env h = .ok ws h' → h' = h
  | [], _, env, h, h', ws, g => by simp only [evs] at g; cases g; rfl
  | m :: ms, e, env, h, h', ws, g => by
    simp only [List.all_cons, Bool.and_eq_true] at e
    simp only [evs] at g
    cases e1 : ev M m env h with
    | bad => rw [e1] at g; cases g
    | exc x h1 => rw [e1] at g; cases g
    | ok x h1 =>
      rw [e1] at g
      cases still_ok e.1 e1
      simp only [R.bind_ok] at g
      cases e2 : evs M ms env h with
      | bad => rw [e2] at g; cases g
      | exc x h1 => rw [e2] at g; cases g
      | ok y h1 =>
        rw [e2] at g
        cases stills_ok e.2 e2
        cases g
        rfl
theorem k_meth0 (hm : m ≠ "bit_length") (ok : MOk cA fz M.lk X m) (hno : ∀ c ∈ cA.cls, M.T.mt c m = none) (ho : L2.PE X o (tE cA fz M W mo)) (hbase : attributeBase o (Str.ofString m) X.env (eval o X.env) = eval o X.env) (hline : (apos.endLine == cpos.line) = true) :
    L2.PE X (.Call (.Attribute o (Str.ofString m) apos) [] [] cpos) (tE cA fz M W (.meth mo m [])) :=
  PE.imp (pe_late0 ho hbase hline) fun σ H Q h => tG.bind h fun ρ env h w v H1 rh re rv g => by
    obtain ⟨t, et, g⟩ := g.thenO
    obtain ⟨rfl, km⟩ := mth_no hno rh rv et
    simp only [evs, R.bind_ok] at g
    cases w with
    | ref n =>
      obtain ⟨a, rfl, ha⟩ := rv
      rcases km with ⟨xs, e1, hl⟩ | ⟨kvs, e1, hl⟩
      · obtain ⟨a', ha', vs, rr, z⟩ := rh.get e1
        rw [ha] at ha'; cases ha'
        obtain ⟨id, sl, ty, rule⟩ := ok.L hl
        refine ⟨"list", id, _, F.plainAttrs_list, sl, ty, rule, .inl (.inl ⟨rfl, vs, z.seqL⟩), ρ, h, n, a, vs, xs, [], L2.WE W σ, rfl, ha, e1, rr, z, rh, rfl, ?_⟩
        have g : Good cA fz RW (bmO M.lk n m [] h (rd h n)) ρ H1 Q _ := g
        rw [e1] at g
        exact g
      · obtain ⟨a', ha', r⟩ := rh.get e1
        rw [ha] at ha'; cases ha'
        obtain ⟨id, sl, ty, rule⟩ := ok.D hl
        refine ⟨"dict", id, _, F.plainAttrs_dict, sl, ty, rule, isD_ty r, ρ, h, n, a, kvs, [], L2.WE W σ, rfl, ha, e1, r, rh, rfl, ?_⟩
        have g : Good cA fz RW (bmO M.lk n m [] h (rd h n)) ρ H1 Q _ := g
        rw [e1] at g
        exact g
    | str s =>
      obtain ⟨hl, rfl⟩ := rv
      obtain ⟨id, sl, ty, rule⟩ := ok.S km
      exact ⟨"str", id, _, F.plainAttrs_str, sl, ty, rule, .inl rfl, ρ, h, s, [], L2.WE W σ, rfl, hl, rh, rfl, g⟩
    | int s => exact absurd km hm
    | _ => exact km.elim
theorem k_meth (hm : m ≠ "bit_length") (h1 : ¬ (m ∈ lstM ∧ m ∈ dctM) ∨ ms.all still = true) (ok : MOk cA fz M.lk X m) (hno : ∀ c ∈ cA.cls, M.T.mt c m = none) (ho : L2.PE X o (tE cA fz M W mo)) (ha : L2.PA X (e :: es) (tA cA fz M W ms))
    (hbase : attributeBase o (Str.ofString m) X.env (eval o X.env) = eval o X.env) (hline : (apos.endLine == cpos.line) = true)
    (hfew : ((backTo cpos (starEach (e :: es) X.env)).all (fun x => !x.1) && (backToKw cpos (keywordEach [] X.env)).all (fun x => x.1.isSome)
      && decide ((e :: es).length + ([] : List Keyword).length + (if ([] : List Keyword).isEmpty then 0 else 1) < 30)) = true)
    (hs : starEach (e :: es) X.env = (false, eval e X.env) :: starEach es X.env) (hplain : (backTo cpos (starEach es X.env)).any (·.1) = false) :
    L2.PE X (.Call (.Attribute o (Str.ofString m) apos) (e :: es) [] cpos) (tE cA fz M W (.meth mo m ms)) :=
  PE.imp (pe_late ho ha hbase hfew hline hs hplain) fun σ H Q h => tG.bind h fun ρ env h w v H1 rh re rv g => by
    obtain ⟨t, et, g⟩ := g.thenO
    obtain ⟨rfl, km⟩ := mth_no hno rh rv et
    cases w with
    | ref n =>
      obtain ⟨a, rfl, ha⟩ := rv
      rcases km with ⟨xs, e1, hl⟩ | ⟨kvs, e1, hl⟩
      · obtain ⟨a', ha', vs, rr, z⟩ := rh.get e1
        rw [ha] at ha'; cases ha'
        obtain ⟨id, sl, ty, rule⟩ := ok.L hl
        refine ⟨"list", id, _, F.plainAttrs_list, sl, ty, rule, .inl (.inl ⟨rfl, vs, z.seqL⟩), ρ, env, h, rh, re, g.bind fun ws h2 ρ2 us H2 er x2 rh2 ru g2 => ?_⟩
        have ha2 := x2.ix ha
        have g2 : Good cA fz RW (bmO M.lk n m ws h2 (rd h2 n)) ρ2 H2 Q _ := g2
        cases e2 : rd h2 n with
        | none => rw [e2] at g2; exact g2.elim
        | some ob =>
          rw [e2] at g2
          cases ob with
          | lst ys =>
            obtain ⟨a', ha', vs2, rr2, z2⟩ := rh2.get e2
            rw [ha2] at ha'; cases ha'
            exact ⟨ρ2, h2, n, a, vs2, ys, ws, L2.WE W σ, rfl, ha2, e2, rr2, z2, rh2, ru, g2⟩
          | dct kvs =>
            rcases h1 with h1 | h1
            · have g2 : Good cA fz RW (bmD M.lk n kvs m ws h2) ρ2 H2 Q _ := g2
              rw [bmD_no fun hd => h1 ⟨hl, hd⟩] at g2
              exact g2.elim
            · cases stills_ok h1 er
              rw [e1] at e2; cases e2
          | ins _ _ => exact g2.elim
      · obtain ⟨a', ha', r⟩ := rh.get e1
        rw [ha] at ha'; cases ha'
        obtain ⟨id, sl, ty, rule⟩ := ok.D hl
        refine ⟨"dict", id, _, F.plainAttrs_dict, sl, ty, rule, isD_ty r, ρ, env, h, rh, re, g.bind fun ws h2 ρ2 us H2 er x2 rh2 ru g2 => ?_⟩
        have ha2 := x2.ix ha
        have g2 : Good cA fz RW (bmO M.lk n m ws h2 (rd h2 n)) ρ2 H2 Q _ := g2
        cases e2 : rd h2 n with
        | none => rw [e2] at g2; exact g2.elim
        | some ob =>
          rw [e2] at g2
          cases ob with
          | dct kvs2 =>
            obtain ⟨a', ha', r2⟩ := rh2.get e2
            rw [ha2] at ha'; cases ha'
            exact ⟨ρ2, h2, n, a, kvs2, ws, L2.WE W σ, rfl, ha2, e2, r2, rh2, ru, g2⟩
          | lst ys =>
            rcases h1 with h1 | h1
            · have g2 : Good cA fz RW (bmL M.lk n ys m ws h2) ρ2 H2 Q _ := g2
              rw [bmL_no fun hd => h1 ⟨hd, hl⟩] at g2
              exact g2.elim
            · cases stills_ok h1 er
              rw [e1] at e2; cases e2
          | ins _ _ => exact g2.elim
    | str s =>
      obtain ⟨hl, rfl⟩ := rv
      obtain ⟨id, sl, ty, rule⟩ := ok.S km
      exact ⟨"str", id, _, F.plainAttrs_str, sl, ty, rule, .inl rfl, ρ, env, h, rh, re, g.bind fun ws h2 ρ2 us H2 er x2 rh2 ru g2 => ⟨ρ2, h2, s, ws, L2.WE W σ, rfl, hl, rh2, ru, g2⟩⟩
    | int s => exact absurd km hm
    | _ => exact km.elim
end
end MP

namespace MP
open PySem PySem.Spec PyProof.Rows
/-! ### texts cut at one sign -/
theorem pre1 (c x : Nat) (r : List Nat) : TL.pre [c] (x :: r) = decide (x = c) := by
  unfold TL.pre
  simp only [List.length_singleton, List.take_succ_cons, List.take_zero]
  by_cases h : x = c
  · subst h; simp
  · simp [h]
theorem par_cut (c : Nat) : ∀ (s acc : List Nat), TL.par [c] acc s = if (cutAt c s).2.1 then some (acc ++ (cutAt c s).1, (cutAt c s).2.2) else none
  | [], acc => by simp [TL.par, cutAt]
  | x :: r, acc => by
    unfold TL.par cutAt
    rw [pre1]
    by_cases h : x = c
    · subst h; simp
    · simp only [h, decide_false, if_false, Bool.false_eq_true]
      rw [par_cut c r (acc ++ [x])]
      simp
theorem partition_ok (c : Nat) (s : List Nat) : Txt.partition (sv s) (sv [c]) = (match (cutAt c s).2.1 with | true => (sv (cutAt c s).1, sv [c], sv (cutAt c s).2.2) | false => (sv s, sv [], sv [])) := by
  cases h : (cutAt c s).2.1 with
  | true => exact SX.partition_some (by simp) (by rw [par_cut, h]; simp)
  | false => exact SX.partition_none (by simp) (by rw [par_cut, h]; simp)
theorem spl_cut (c : Nat) : ∀ (s acc : List Nat), TL.spl [c] 0 acc s = match splitOn c s with | [] => [acc] | w :: ws => (acc ++ w) :: ws
  | [], acc => by simp [TL.spl, splitOn]
  | x :: r, acc => by
    unfold TL.spl splitOn
    rw [pre1]
    by_cases h : x = c
    · subst h
      simp only [decide_true, if_true, List.length_singleton, Nat.sub_self, List.append_nil]
      rw [spl_cut x r []]
      cases e : splitOn x r with
      | nil => exfalso; cases r <;> simp [splitOn] at e; split at e <;> (try split at e) <;> cases e
      | cons w ws => simp
    · simp only [h, decide_false, if_false, Bool.false_eq_true]
      rw [spl_cut c r (acc ++ [x])]
      cases e : splitOn c r with
      | nil => simp
      | cons w ws => simp
theorem splitOn_ne (c : Nat) : ∀ s : List Nat, splitOn c s ≠ []
  | [] => by simp [splitOn]
  | x :: r => by
    unfold splitOn
    split
    · simp
    · split <;> simp
theorem splitOn_no (c : Nat) : ∀ s : List Nat, c ∉ s → splitOn c s = [s]
  | [], _ => rfl
  | x :: r, h => by
    unfold splitOn
    rw [if_neg fun e => h (by rw [e]; exact List.mem_cons_self), splitOn_no c r fun m => h (List.mem_cons_of_mem _ m)]
theorem splitOn_len (c : Nat) : ∀ s : List Nat, (splitOn c s).length ≤ s.length + 1
  | [] => by simp [splitOn]
  | x :: r => by
    have := splitOn_len c r
    unfold splitOn
    split
    · simp only [List.length_cons]; omega
    · split <;> rename_i e <;> rw [e] at this <;> simp only [List.length_cons, List.length_nil] at this ⊢ <;> omega
theorem splitOn_each (c : Nat) : ∀ s : List Nat, ∀ w ∈ splitOn c s, w.length ≤ s.length
  | [], w, h => by simp [splitOn] at h; subst h; exact Nat.le_refl _
  | x :: r, w, h => by
    have ih := splitOn_each c r
    unfold splitOn at h
    split at h
    · rcases List.mem_cons.mp h with h | h
      · subst h; exact Nat.zero_le _
      · have := ih w h; simp only [List.length_cons]; omega
    · split at h <;> rename_i e
      · exact absurd e (splitOn_ne c r)
      · rw [e] at ih
        rcases List.mem_cons.mp h with h | h
        · subst h; have := ih _ List.mem_cons_self; simp only [List.length_cons]; omega
        · have := ih w (List.mem_cons_of_mem _ h); simp only [List.length_cons]; omega
theorem split_ok (c : Nat) (s : List Nat) : Txt.split (sv s) (sv [c]) = (splitOn c s).map sv := by
  by_cases hk : Builtin.Str.strKind (sv s) < Builtin.Str.strKind (sv [c])
  · have hn : c ∉ s := fun hm => by
      unfold Builtin.Str.strKind at hk
      have h1 : ∀ b : Nat, ((sv [c]).cps.all fun x => decide (x < b)) = false → ((sv s).cps.all fun x => decide (x < b)) = false := by
        intro b hb
        rw [← Array.all_toList] at hb ⊢
        have hb : ([c].all fun x => decide (x < b)) = false := hb
        simp only [List.all_cons, List.all_nil, Bool.and_true] at hb
        rw [Bool.eq_false_iff]
        intro ha
        have := List.all_eq_true.mp ha c hm
        rw [hb] at this; cases this
      by_cases h256 : ((sv [c]).cps.all fun x => decide (x < 256)) = true
      · rw [if_pos h256] at hk
        split at hk <;> (try split at hk) <;> omega
      · have e1 := h1 256 (by simpa using h256)
        rw [if_neg h256, if_neg (by rw [e1]; simp)] at hk
        by_cases h6 : ((sv [c]).cps.all fun x => decide (x < 65536)) = true
        · rw [if_pos h6] at hk
          split at hk <;> omega
        · have e2 := h1 65536 (by simpa using h6)
          rw [if_neg h6, if_neg (by rw [e2]; simp)] at hk
          omega
    rw [splitOn_no c s hn]
    unfold Txt.split
    rw [if_pos (by rw [Bool.or_eq_true]; exact .inr (decide_eq_true hk))]
    rfl
  · refine TL.map_tl_inj ?_
    rw [TL.split_spl (sv s) (sv [c]) (by simp [TL.tl, sv]) hk]
    show TL.spl [c] 0 [] s = _
    rw [spl_cut]
    cases e : splitOn c s with
    | nil => exact absurd e (splitOn_ne c s)
    | cons w ws =>
      simp only [List.nil_append, List.map_map]
      rw [show (TL.tl ∘ sv) = id by funext x; rfl, List.map_id]
theorem cutAt_no (c : Nat) : ∀ s : List Nat, c ∉ s → cutAt c s = (s, false, [])
  | [], _ => rfl
  | x :: r, h => by
    unfold cutAt
    rw [if_neg fun e => h (by rw [e]; exact List.mem_cons_self), cutAt_no c r fun m => h (List.mem_cons_of_mem _ m)]
theorem cutAt_at (c : Nat) (q : List Nat) : ∀ p : List Nat, c ∉ p → cutAt c (p ++ c :: q) = (p, true, q)
  | [], _ => by simp [cutAt]
  | x :: r, h => by
    rw [List.cons_append]
    unfold cutAt
    rw [if_neg fun e => h (by rw [e]; exact List.mem_cons_self), cutAt_at c q r fun m => h (List.mem_cons_of_mem _ m)]
theorem pre_drop (c : Nat) (s : List Nat) (i : Nat) : TL.pre [c] (s.drop i) = decide (s[i]? = some c) := by
  cases e : s.drop i with
  | nil =>
    have h : s[i]? = none := by rw [← List.head?_drop, e]; rfl
    rw [h, TL.pre_nil (by simp)]; simp
  | cons x r =>
    have h : s[i]? = some x := by rw [← List.head?_drop, e]; rfl
    rw [h, pre1]; simp
theorem last_cases (c : Nat) (s : List Nat) : (Builtin.Str.lastOccurrence (sv s) (sv [c]) 0 (sv s).length = none ∧ c ∉ s) ∨
    ∃ p q, s = p ++ c :: q ∧ c ∉ q ∧ Builtin.Str.lastOccurrence (sv s) (sv [c]) 0 (sv s).length = some p.length := by
  have at_ : ∀ i, StrLaws.At (sv s) (sv [c]) (sv s).length i ↔ s[i]? = some c := fun i => by
    rw [TL.at_iff (by simp [TL.tl, sv]) i]
    show TL.pre [c] (s.drop i) = true ↔ _
    rw [pre_drop, decide_eq_true_eq]
  rcases StrLaws.last_spec (sv s) (sv [c]) with ⟨e, hn⟩ | ⟨i, e, hi, hn⟩
  · refine .inl ⟨e, fun hm => ?_⟩
    obtain ⟨i, hi⟩ := List.getElem?_of_mem hm
    exact hn i ((at_ i).mpr hi)
  · have hi := (at_ i).mp hi
    obtain ⟨hlt, he⟩ := List.getElem?_eq_some_iff.mp hi
    refine .inr ⟨s.take i, s.drop (i + 1), ?_, fun hm => ?_, by rw [List.length_take, Nat.min_eq_left (Nat.le_of_lt hlt)]; exact e⟩
    · rw [← he, ← List.drop_eq_getElem_cons hlt, List.take_append_drop]
    · obtain ⟨j, hj⟩ := List.getElem?_of_mem hm
      rw [List.getElem?_drop] at hj
      exact hn _ (by omega) ((at_ _).mpr hj)
theorem rpartition_ok (c : Nat) (s : List Nat) : (match Builtin.Str.lastOccurrence (sv s) (sv [c]) 0 (sv s).length with
    | some i => (Builtin.Str.strSub (sv s) 0 i, sv [c], Builtin.Str.strSub (sv s) (i + (sv [c]).length) (sv s).length)
    | none => (Str.empty, Str.empty, sv s)) = (match (cutAt c s.reverse).2.1 with | true => (sv (cutAt c s.reverse).2.2.reverse, sv [c], sv (cutAt c s.reverse).1.reverse) | false => (sv [], sv [], sv s)) := by
  rcases last_cases c s with ⟨e, hn⟩ | ⟨p, q, es, hq, e⟩
  · rw [e, cutAt_no c s.reverse (by simpa using hn)]
    rfl
  · rw [e, show s.reverse = q.reverse ++ c :: p.reverse by rw [es]; simp, cutAt_at c p.reverse q.reverse (by simpa using hq)]
    simp only [List.reverse_reverse]
    have h1 : Builtin.Str.strSub (sv s) 0 p.length = sv p := by
      apply TL.ext_tl
      rw [TL.tl_strSub]
      show (s.drop 0).take (p.length - 0) = p
      rw [es]; simp
    have h2 : Builtin.Str.strSub (sv s) (p.length + (sv [c]).length) (sv s).length = sv q := by
      apply TL.ext_tl
      rw [TL.tl_strSub_end]
      show s.drop (p.length + 1) = q
      rw [es]; simp
    rw [h1, h2]
end MP

namespace MP
open PySem PySem.Spec PyProof.Rows
/-! ### the methods, one by one -/
theorem MtM.imp {X : L2.Cx} {id : String} {r r' : Vv → List Vv → HH → L2.VK → Prop} (k : L2.MtM X id r) (h : ∀ x vs H Q, r' x vs H Q → r x vs H Q) : L2.MtM X id r' := fun pins s σ H x xs v us Q I rx rv q => k pins s σ H x xs v us Q I rx rv (h _ _ _ _ q)
section
variable {cA : CA} {fz lk : List Nat} {X : L2.Cx}
theorem rws0 {ρ : List Addr} {H : HH} {vs : List Vv} (r : RWs ρ H [] vs) : vs = [] := r
/-- a list changes -/
theorem lput {ρ : List Addr} {h : Hp} {H : HH} {n : Nat} {a : Addr} {us vs' : List Vv} {ys' : List W} {w : W} {v : Vv} {Q : L2.VK} {E : L2.XK} (hz : ∀ n ∈ fz, n ∈ lk) (ha : ρ[n]? = some a) (z : At H (n ∈ fz) a (.lst us)) (rh : RH cA ρ (· ∈ fz) h H)
    (rr : RWs ρ H ys' vs') (rv : RW ρ H w v) (g : Good cA fz RW (putV lk n (.lst ys') w h) ρ H Q E) : H a = some (.lst us) ∧ Q v (L2.upd H a (.lst vs')) := by
  obtain ⟨_, hlk, g⟩ := put_ok (f := fun h => .ok w h) g
  have hp := z.plain fun hc => hlk (hz n hc)
  obtain ⟨x3, rh3⟩ := rh.write (u := .lst vs') (o := .lst ys') ha (by rw [hp]; exact trivial) fun x3 => ⟨vs', rr.ext x3, .inl L2.upd_same⟩
  exact ⟨hp, g ρ v _ x3 rh3 (rv.ext x3)⟩
theorem mL_append (hz : ∀ n ∈ fz, n ∈ lk) : L2.MtM X "list.append" (rmL cA fz lk "append") := MtM.imp L2.mt_append fun x vs H Q ⟨ρ, h, n, a, us, ys, ws, E, ex, ha, e, rr, z, rh, rw, g⟩ => by
  subst ex
  rcases ws with _ | ⟨y, _ | ⟨y2, r⟩⟩
  · exact g.elim
  · obtain ⟨v, rfl, rv⟩ := rws1 rw
    have g : Good cA fz RW (guardR (decide (ys.length < LINE)) (putV lk n (.lst (ys ++ [y])) .non h)) ρ H Q E := g
    obtain ⟨el, g⟩ := g.guardR
    obtain ⟨hp, q⟩ := lput (us := us) hz ha z rh (RWs.append rr (show RWs ρ H [y] [v] from ⟨v, [], rfl, rv, rfl⟩)) (show RW ρ H .non .non from rfl) g
    exact ⟨a, us, v, rfl, rfl, hp, by rw [← rr.length]; exact Nat.lt_of_lt_of_le (of_decide_eq_true el) line_le, q⟩
  · exact g.elim
theorem mL_clear (hz : ∀ n ∈ fz, n ∈ lk) : L2.MtM X "list.clear" (rmL cA fz lk "clear") := MtM.imp L2.mt_clear fun x vs H Q ⟨ρ, h, n, a, us, ys, ws, E, ex, ha, e, rr, z, rh, rw, g⟩ => by
  subst ex
  rcases ws with _ | ⟨y, r⟩
  · cases rws0 rw
    have g : Good cA fz RW (putV lk n (.lst []) .non h) ρ H Q E := g
    obtain ⟨hp, q⟩ := lput (vs' := []) hz ha z rh (show RWs ρ H [] [] from rfl) (show RW ρ H .non .non from rfl) g
    exact ⟨a, us, rfl, rfl, hp, q⟩
  · exact g.elim
theorem mL_extend (hz : ∀ n ∈ fz, n ∈ lk) : L2.MtM X "list.extend" (rmL cA fz lk "extend") := by
  intro pins s σ H x vs v us' Q I rx rv ⟨ρ, h, n, a, us, ys, ws, E, ex, ha, e, rr, z, rh, rw, g⟩
  subst ex
  rcases ws with _ | ⟨y, _ | ⟨y2, r⟩⟩
  · exact g.elim
  · obtain ⟨u, rfl, ru⟩ := rws1 rw
    cases y with
    | ref b =>
      have g : Good cA fz RW (extO lk n ys h (rd h b)) ρ H Q E := g
      unfold extO at g
      split at g
      · rename_i zs eb
        obtain ⟨el, g⟩ := g.guardR
        obtain ⟨p, rfl, hb⟩ := ru
        obtain ⟨p', hp', ts, rt, zt⟩ := rh.get eb
        rw [hb] at hp'; cases hp'
        obtain ⟨hp, q⟩ := lput hz ha z rh (rr.append rt) (show RW ρ H .non .non from rfl) g
        cases rx
        obtain ⟨w, rfl, rw'⟩ := rv.one
        cases rw'
        obtain ⟨z1, its, m1, r1, l1, e1⟩ := lstR I (.inl hp)
        obtain ⟨z2, its2, m2, r2, l2, e2⟩ := lstR I zt.rd
        have el := of_decide_eq_true el
        have hL := line_le
        rw [rr.length, rt.length] at el
        have hsz : its.toArray.size + its2.toArray.size ≤ sizeLine := by rw [List.size_toArray, List.size_toArray]; omega
        have hlong : ¬ (!its.toArray.isEmpty && Builtin.List.listTooLong (its.toArray.size + its2.toArray.size)) = true := by
          rw [L2.notLongL hsz, Bool.and_false]
          exact Bool.false_ne_true
        refine call_meets F.slot_list_extend ⟨_, e1, rfl⟩ F.entry_list_extend (F.args_list_extend_2 _ _)
          (AutoSeq1.list_extend_list_list_0 a its.toArray m1 p its2.toArray m2 hlong (by rw [List.size_toArray]; omega) (by omega)) ⟨e1, e2, ?_⟩
        refine ⟨.non, _, I.lset (its' := its ++ its2) hp e1 (by simp) (r1.append r2) ?_, rfl, q⟩
        rw [List.length_append]
        omega
      · exact g.elim
    | _ => exact (show False from g).elim
  · cases y <;> exact (show False from g).elim
theorem mL_pop (hz : ∀ n ∈ fz, n ∈ lk) : L2.MtM X "list.pop" (rmL cA fz lk "pop") := by
  intro pins s σ H x vs v us' Q I rx rv ⟨ρ, h, n, a, us, ys, ws, E, ex, ha, e, rr, z, rh, rw, g⟩
  subst ex
  rcases ws with _ | ⟨y, _ | ⟨y2, r⟩⟩
  · cases rws0 rw
    have g : Good cA fz RW (thenO ys.getLast? fun y => putV lk n (.lst ys.dropLast) y h) ρ H Q E := g
    obtain ⟨y, ey, g⟩ := g.thenO
    rw [List.getLast?_eq_getElem?, rr.length] at ey
    obtain ⟨u, eu, ru⟩ := rr.get ey
    obtain ⟨hp, q⟩ := lput hz ha z rh rr.dropLast ru g
    exact L2.mt_pop pins s σ H (.ref a) [] v us' Q I rx rv ⟨a, us, u, rfl, rfl, hp, eu, q⟩
  · obtain ⟨u, rfl, ru⟩ := rws1 rw
    cases y with
    | int i =>
      have g : Good cA fz RW (thenO (ixN ys.length i) fun j => thenO ys[j]? fun y => putV lk n (.lst (ys.eraseIdx j)) y h) ρ H Q E := g
      obtain ⟨j, ej, g⟩ := g.thenO
      obtain ⟨y, ey, g⟩ := g.thenO
      cases ru
      obtain ⟨u, eu, ru⟩ := rr.get ey
      obtain ⟨hp, q⟩ := lput hz ha z rh (rr.eraseIdx j) ru g
      rw [rr.length] at ej
      obtain ⟨h1, h2, h3, h4⟩ := L2.ixN_seq (show L2.ixN us.length i = some j from ej)
      obtain ⟨zl, _⟩ := lstR I (.inl hp)
      rw [sizeLine_eq] at zl
      exact L2.mt_popAt pins s σ H (.ref a) [.int i] v us' Q I rx rv ⟨a, us, i, j, u, rfl, rfl, hp, by omega, by omega, h1, eu, q⟩
    | _ => exact (show False from g).elim
  · cases y <;> exact (show False from g).elim
theorem mL_copy : L2.MtM X "list.copy" (rmL cA fz lk "copy") := by
  intro pins s σ H x vs v us' Q I rx rv ⟨ρ, h, n, a, us, ys, ws, E, ex, ha, e, rr, z, rh, rw, g⟩
  subst ex
  rcases ws with _ | ⟨y, r⟩
  · cases rws0 rw
    have g : Good cA fz RW (mk (.lst ys) h) ρ H Q E := g
    have q := mk_lst g rh rr
    cases rx
    cases rv.zero
    obtain ⟨z1, its, m1, r1, l1, e1⟩ := lstR I z.rd
    refine call_meets F.slot_list_copy ⟨_, e1, rfl⟩ F.entry_list_copy (F.args_list_copy_1 _) (AutoListH.list_copy_list_0 a its.toArray m1 (by rw [List.size_toArray]; omega)) ⟨e1, ?_⟩
    exact ⟨.ref _, _, I.lnew (t' := s.toks) r1 z1, rfl, q _ I.fresh⟩
  · exact g.elim
end
end MP

namespace MP
open PySem PySem.Spec PyProof.Rows
/-! ### methods of dicts -/
section
variable {cA : CA} {X : L2.Cx} {ρ : List Addr} {H : HH} {pins : List (Addr × Obj)} {s : Shared} {σ : L2.St} {A : Around} {E : Value → Shared → Prop} {P P' : Prop} {a : Addr} {kvs : List (MP.W × MP.W)} {k : MP.W} {y : Vv} {u : Value} {Q : Value → Shared → Prop}
theorem DK.get1 (hu : A.units + 1 < cLine) (I : L2.Inv X pins σ H s) (d : DK ρ H P a kvs y k) (ry : L2.RelV y u) (h : ∀ o w' s', holdsO ρ H (dget k kvs) o → L2.Inv X pins σ H s' → L2.RelV (o.getD .non) w' → Q w' s') :
    wpAny (model X.prog X.w) A (call (.builtin "dict.get") [.ref a, u]) Q E s := by
  cases d with
  | flat ks k0 r n z ek ey => exact L2.d_get1 hu I (.inl ⟨ks, k0, z.rd, ey, rfl⟩) ry fun w' s' I' rw => h _ w' s' (holds_of (RPs.val flat_keq ek r)) I' rw
  | tup ks k0 b r n z ek ey eb => exact L2.d_get1 hu I (.inr ⟨ks, k0, b, z.rd, ey, eb, rfl⟩) ry fun w' s' I' rw => h _ w' s' (holds_of (RPs.val tup_keq ek r)) I' rw
  | flat0 k0 e z ek ey =>
    subst e ey
    obtain ⟨hd, d1, d2⟩ := dk0 I (.inr z.rd)
    exact call_meetsIn PySem.F.slot_dict_get d1.typeIs PySem.F.entry_dict_get (PySem.F.args_dict_get_2 _ _) (meets_dict_get (L2.mixKind X.prog X.w) a (L2.kV_is ry) hd) ⟨_, d1.mapOf, h none _ _ trivial (I.tok _) rfl⟩
  | tup0 k0 b e z ek ey eb =>
    subst e ey
    cases (show u = Value.ref b from ry)
    obtain ⟨hd, d1, d2⟩ := dk0 I (.inl z.rd)
    exact call_meetsIn PySem.F.slot_dict_get d1.typeIs PySem.F.entry_dict_get (PySem.F.args_dict_get_2 _ _) (meetsH_dict_get (tupleKind (L2.mixKind X.prog X.w)) a b hd) ⟨tupleKind_room_in1 hu, k0, [], L2.key_of I.hok eb, d2, h none _ _ trivial (I.tok _) rfl⟩
theorem DK.get2 {dv : Vv} {r0 : Value} (hu : A.units + 1 < cLine) (I : L2.Inv X pins σ H s) (d : DK ρ H P a kvs y k) (ry : L2.RelV y u) (rd : L2.RelV dv r0) (h : ∀ o w' s', holdsO ρ H (dget k kvs) o → L2.Inv X pins σ H s' → L2.RelV (o.getD dv) w' → Q w' s') :
    wpAny (model X.prog X.w) A (call (.builtin "dict.get") [.ref a, u, r0]) Q E s := by
  cases d with
  | flat ks k0 r n z ek ey => exact L2.d_get2 hu I (.inl ⟨ks, k0, z.rd, ey, rfl⟩) ry rd fun w' s' I' rw => h _ w' s' (holds_of (RPs.val flat_keq ek r)) I' rw
  | tup ks k0 b r n z ek ey eb => exact L2.d_get2 hu I (.inr ⟨ks, k0, b, z.rd, ey, eb, rfl⟩) ry rd fun w' s' I' rw => h _ w' s' (holds_of (RPs.val tup_keq ek r)) I' rw
  | flat0 k0 e z ek ey =>
    subst e ey
    obtain ⟨hd, d1, d2⟩ := dk0 I (.inr z.rd)
    exact call_meetsIn PySem.F.slot_dict_get d1.typeIs PySem.F.entry_dict_get (PySem.F.args_dict_get_3 _ _ _) (meets_dict_get_default (L2.mixKind X.prog X.w) a (L2.kV_is ry) hd r0) ⟨_, d1.mapOf, h none _ _ trivial (I.tok _) rd⟩
  | tup0 k0 b e z ek ey eb =>
    subst e ey
    cases (show u = Value.ref b from ry)
    obtain ⟨hd, d1, d2⟩ := dk0 I (.inl z.rd)
    exact call_meetsIn PySem.F.slot_dict_get d1.typeIs PySem.F.entry_dict_get (PySem.F.args_dict_get_3 _ _ _) (meetsH_dict_get_default (tupleKind (L2.mixKind X.prog X.w)) a b hd r0) ⟨tupleKind_room_in1 hu, k0, [], L2.key_of I.hok eb, d2, h none _ _ trivial (I.tok _) rd⟩
theorem holds_some {o : Option MP.W} {v : Vv} (h : holdsO ρ H o (some v)) : ∃ w, o = some w ∧ RW ρ H w v := by
  cases o with
  | none => exact h.elim
  | some w => exact ⟨w, rfl, h⟩
theorem holds_none {o : Option MP.W} (h : holdsO ρ H o none) : o = none := by
  cases o with
  | none => rfl
  | some w => exact h.elim
theorem relO_some {o : Option Vv} {v : Value} (h : L2.RelO o (some v)) : ∃ v0, o = some v0 ∧ L2.RelV v0 v := by
  cases o with
  | none => exact (show False from h).elim
  | some v0 => exact ⟨v0, rfl, h⟩
theorem relO_none {o : Option Vv} (h : L2.RelO o none) : o = none := by
  cases o with
  | none => rfl
  | some v0 => exact (show False from h).elim
theorem DK.setd {dv : Vv} {w : MP.W} {r0 : Value} (hu : A.units + 1 < cLine) (I : L2.Inv X pins σ H s) (d : DK ρ H P a kvs y k) (hl : kvs.length < LINE) (ry : L2.RelV y u) (rw : RW ρ H w dv) (rd : L2.RelV dv r0)
    (h1 : ∀ x v w' s', dget k kvs = some x → RW ρ H x v → L2.Inv X pins σ H s' → L2.RelV v w' → Q w' s')
    (h2 : dget k kvs = none → ¬ P ∧ ∀ ob s', L2.Mut (H a) → (∀ x : Ext ρ ρ H (L2.upd H a ob), RO cA ρ (L2.upd H a ob) P' a (.dct (dput k w kvs))) → L2.Inv X pins σ (L2.upd H a ob) s' → Q r0 s') :
    wpAny (model X.prog X.w) A (call (.builtin "dict.setdefault") [.ref a, u, r0]) Q E s := by
  have hL := line_le
  cases d with
  | flat ks k0 r n z ek ey =>
    subst ey
    obtain ⟨zl, hd, vs, rel, dd⟩ := L2.dk_rd I.hok z.rd
    have ho := holds_of (RPs.val flat_keq ek r)
    refine call_meetsIn PySem.F.slot_dict_setdefault dd.typeIs PySem.F.entry_dict_setdefault (PySem.F.args_dict_setdefault_3 _ _ _) (kt_meets_setdefault (L2.mixKind X.prog X.w) a (L2.kV_is ry) hd r0) ⟨vs, dd, by rw [← rel.length]; exact zl, fun v hv => ?_, fun hn h' dd' hs => ?_⟩
    · have q := rel.val k0
      rw [hv] at q
      obtain ⟨v0, e0, q⟩ := relO_some q
      rw [e0] at ho
      obtain ⟨x, ex, rx⟩ := holds_some ho
      exact h1 x v0 _ _ ex rx (I.tok _) q
    · have q := rel.val k0
      rw [hn] at q
      have e0 := relO_none q
      rw [e0] at ho
      obtain ⟨hP, hq⟩ := h2 (holds_none ho)
      have hz := z.plain hP
      have hk : ks.length < sizeLine := by rw [← Paired.length r]; omega
      have he : ∃ q, h'.get? a = some q := let ⟨q, _, _, hq, _⟩ := dd'; ⟨q, hq⟩
      exact hq _ _ (by rw [hz]; trivial) (fun x => .inl ⟨_, RPs.put flat_keq ek (rw.ext x) (r.ext x) n, nodup_put k0 dv n, .inl L2.upd_same⟩)
        (L2.d_write (t' := s.toks + 1) I (by rw [hz]; trivial) hs he (L2.dk_new (by have := L2.length_putK ks k0 dv; omega) hd (rel.put k0 rd) dd'))
  | tup ks k0 b r n z ek ey eb =>
    subst ey
    cases (show u = Value.ref b from ry)
    obtain ⟨zl, hd, xs, rel, dd⟩ := L2.dt_rd I.hok z.rd
    have ho := holds_of (RPs.val tup_keq ek r)
    refine call_meetsIn PySem.F.slot_dict_setdefault dd.typeIs PySem.F.entry_dict_setdefault (PySem.F.args_dict_setdefault_3 _ _ _) (meetsH_dict_setdefault (tupleKind (L2.mixKind X.prog X.w)) a b hd r0) ⟨tupleKind_room_in1 hu, k0, xs, L2.key_of I.hok eb, dd, by rw [← Paired.length rel]; exact zl, fun v hv => ?_, fun hn h' dd' hs => ?_⟩
    · have q := rel.val k0
      rw [hv] at q
      obtain ⟨v0, e0, q⟩ := relO_some q
      rw [e0] at ho
      obtain ⟨x, ex, rx⟩ := holds_some ho
      exact h1 x v0 _ _ ex rx (I.tok _) q
    · have q := rel.val k0
      rw [hn] at q
      have e0 := relO_none q
      rw [e0] at ho
      obtain ⟨hP, hq⟩ := h2 (holds_none ho)
      have hz := z.plain hP
      have hk : ks.length < sizeLine := by rw [← Paired.length r]; omega
      obtain ⟨o, es, ep, hq0, g2, g3, g4, _, g5⟩ := dd'
      refine hq _ _ (by rw [hz]; trivial) (fun x => .inr ⟨_, RPs.put tup_keq ek (rw.ext x) (r.ext x) n, nodup_put k0 dv n, .inl L2.upd_same⟩)
        (L2.d_write I (by rw [hz]; trivial) hs ⟨o, hq0⟩ ⟨by have := L2.length_putK ks k0 dv; omega, hd, _, (rel.put k0 eb rd).keeps fun c ys ec => ?_, o, es, ep, hq0, g2, g3, g4, g5⟩)
      rw [L2.upd_ne (L2.ne_of ec hz (fun z => nomatch z))]
      exact ec
  | flat0 k0 e z ek ey =>
    subst e ey
    obtain ⟨hd, d1, d2⟩ := dk0 I (.inr z.rd)
    refine call_meetsIn PySem.F.slot_dict_setdefault d1.typeIs PySem.F.entry_dict_setdefault (PySem.F.args_dict_setdefault_3 _ _ _) (kt_meets_setdefault (L2.mixKind X.prog X.w) a (L2.kV_is ry) hd r0) ⟨[], d1, Nat.zero_le _, fun v hv => (by cases hv), fun hn h' dd' hs => ?_⟩
    obtain ⟨hP, hq⟩ := h2 rfl
    have hz := z.plain hP
    have he : ∃ q, h'.get? a = some q := let ⟨q, _, _, hq, _⟩ := dd'; ⟨q, hq⟩
    refine hq (.dK (L2.putK [] k0 dv)) _ (by rw [hz]; trivial) (fun x => .inl ⟨_, RPs.put flat_keq ek (rw.ext x) (.nil : RPs flatK ρ _ [] []) List.nodup_nil, nodup_put k0 dv List.nodup_nil, .inl L2.upd_same⟩) ?_
    exact L2.d_write (t' := s.toks + 1) I (by rw [hz]; trivial) hs he (L2.dk_new (by simp [L2.putK]; rw [sizeLine_eq]; decide) hd (L2.KV.put (.nil : L2.KV [] []) k0 rd) dd')
  | tup0 k0 b e z ek ey eb =>
    subst e ey
    cases (show u = Value.ref b from ry)
    obtain ⟨hd, d1, d2⟩ := dk0 I (.inl z.rd)
    refine call_meetsIn PySem.F.slot_dict_setdefault d1.typeIs PySem.F.entry_dict_setdefault (PySem.F.args_dict_setdefault_3 _ _ _) (meetsH_dict_setdefault (tupleKind (L2.mixKind X.prog X.w)) a b hd r0) ⟨tupleKind_room_in1 hu, k0, [], L2.key_of I.hok eb, d2, Nat.zero_le _, fun v hv => (by cases hv), fun hn h' dd' hs => ?_⟩
    obtain ⟨hP, hq⟩ := h2 rfl
    have hz := z.plain hP
    obtain ⟨o, es, ep, hq0, g2, g3, g4, _, g5⟩ := dd'
    refine hq (.dT (L2.putK [] k0 dv)) _ (by rw [hz]; trivial) (fun x => .inr ⟨_, RPs.put tup_keq ek (rw.ext x) (.nil : RPs tupK ρ _ [] []) List.nodup_nil, nodup_put k0 dv List.nodup_nil, .inl L2.upd_same⟩)
      (L2.d_write I (by rw [hz]; trivial) hs ⟨o, hq0⟩ ⟨by simp [L2.putK]; rw [sizeLine_eq]; decide, hd, _, (L2.KT.put (.nil : L2.KT H [] []) k0 eb rd).keeps fun c ys ec => ?_, o, es, ep, hq0, g2, g3, g4, g5⟩)
    rw [L2.upd_ne (L2.ne_of ec hz (fun z => nomatch z))]
    exact ec
end
end MP

namespace MP
open PySem PySem.Spec PyProof.Rows
/-! ### a key taken out, copies, an emptied dict -/
section
variable {cA : CA} {X : L2.Cx} {ρ : List Addr} {H : HH} {pins : List (Addr × Obj)} {s : Shared} {σ : L2.St} {A : Around} {E : Value → Shared → Prop} {P P' : Prop} {a : Addr} {kvs : List (MP.W × MP.W)} {k : MP.W} {y : Vv} {u : Value} {Q : Value → Shared → Prop}
theorem dropK_no {κ : Type} [DecidableEq κ] {κ0 : κ} : ∀ {qs : List (κ × Vv)}, κ0 ∉ qs.map (·.1) → L2.dropK qs κ0 = qs
  | [], _ => rfl
  | q :: qs, h => by
    unfold L2.dropK
    rw [List.filter_cons_of_pos (by simpa using fun e : q.1 = κ0 => h (by rw [← e]; exact List.mem_cons_self))]
    exact congrArg _ (dropK_no fun m => h (List.mem_cons_of_mem _ m))
theorem RPs.drop {κ : Type} [DecidableEq κ] {f : W → Option κ} (hf : ∀ {a b i j}, f a = some i → f b = some j → keq a b = decide (i = j)) {k : W} {κ0 : κ} (ek : f k = some κ0) : ∀ {ps : List (W × W)} {qs : List (κ × Vv)}, RPs f ρ H ps qs → (qs.map (·.1)).Nodup → RPs f ρ H (ddel k ps) (L2.dropK qs κ0) := by
  intro ps qs r
  unfold RPs at r ⊢
  induction r with
  | nil => intro _; exact .nil
  | @cons p q ps qs r1 r2 ih =>
    intro n
    obtain ⟨k', u⟩ := p
    unfold ddel
    rw [hf r1.1 ek]
    by_cases e : q.1 = κ0
    · rw [if_pos (by simpa using e)]
      have : L2.dropK (q :: qs) κ0 = qs := by
        have h0 : κ0 ∉ qs.map (·.1) := by rw [← e]; exact (List.nodup_cons.mp n).1
        rw [← dropK_no h0]
        unfold L2.dropK
        rw [List.filter_cons_of_neg (by simpa using e), List.filter_filter]
        simp
      rw [this]
      exact r2
    · rw [if_neg (by simpa using e)]
      have : L2.dropK (q :: qs) κ0 = q :: L2.dropK qs κ0 := by
        unfold L2.dropK
        rw [List.filter_cons_of_pos (by simpa using e)]
      rw [this]
      exact .cons r1 (ih (List.nodup_cons.mp n).2)
theorem dropK_nodup {κ : Type} [DecidableEq κ] {κ0 : κ} {qs : List (κ × Vv)} (n : (qs.map (·.1)).Nodup) : ((L2.dropK qs κ0).map (·.1)).Nodup := n.sublist (List.Sublist.map _ List.filter_sublist)
theorem DK.pop {more : List Value} (hu : A.units + 1 < cLine) (I : L2.Inv X pins σ H s) (d : DK ρ H P a kvs y k) (ry : L2.RelV y u) (hm : more = [] ∨ ∃ x, more = [x])
    (h1 : ∀ x, dget k kvs = some x → ¬ P ∧ ∀ v ob w' s', RW ρ H x v → L2.Mut (H a) → (∀ x : Ext ρ ρ H (L2.upd H a ob), RO cA ρ (L2.upd H a ob) P' a (.dct (ddel k kvs))) → L2.Inv X pins σ (L2.upd H a ob) s' → L2.RelV v w' → Q w' s')
    (h2 : dget k kvs = none → ∃ r0, more = [r0] ∧ ∀ s', L2.Inv X pins σ H s' → Q r0 s') :
    wpAny (model X.prog X.w) A (call (.builtin "dict.pop") (.ref a :: u :: more)) Q E s := by
  have ha : argsOk "dict.pop" ⟨.ref a :: u :: more, []⟩ := by
    rcases hm with q | ⟨x, q⟩
    · subst q; exact PySem.F.args_dict_pop_2 _ _
    · subst q; exact PySem.F.args_dict_pop_3 _ _ _
  cases d with
  | flat ks k0 r n z ek ey =>
    subst ey
    have ho := holds_of (RPs.val flat_keq ek r)
    cases e0 : L2.valV ks k0 with
    | some v0 =>
      rw [e0] at ho
      obtain ⟨x, ex, rx⟩ := holds_some ho
      obtain ⟨hP, hq⟩ := h1 x ex
      have hz := z.plain hP
      exact L2.d_pop I hz ry e0 hm fun w' s' I' rw' => hq v0 _ w' s' rx (by rw [hz]; trivial) (fun x => .inl ⟨_, RPs.drop flat_keq ek (r.ext x) n, dropK_nodup n, .inl L2.upd_same⟩) I' rw'
    | none =>
      rw [e0] at ho
      obtain ⟨r0, em, hq⟩ := h2 (holds_none ho)
      subst em
      obtain ⟨zl, hd, vs, rel, dd⟩ := L2.dk_rd I.hok z.rd
      have hn : valueAt vs k0 = none := L2.RelO.none_of (by rw [← e0]; exact rel.val k0)
      have hp : (keyPart u).isSome = true := by
        cases k0 with
        | inl i => obtain ⟨t, q⟩ := (show ∃ t, u = Value.int i t from ry); subst q; rfl
        | inr x => obtain ⟨t, q⟩ := (show ∃ t, u = Value.str x t from ry); subst q; rfl
      exact call_meetsIn PySem.F.slot_dict_pop dd.typeIs PySem.F.entry_dict_pop (PySem.F.args_dict_pop_3 _ _ _) (meets_dict_pop_default (L2.mixKind X.prog X.w) a (L2.kV_is ry) hd hp r0) ⟨vs, dd, hn, hq _ (I.tok _)⟩
  | tup ks k0 b r n z ek ey eb =>
    subst ey
    cases (show u = Value.ref b from ry)
    obtain ⟨zl, hd, xs, rel, dd⟩ := L2.dt_rd I.hok z.rd
    have ho := holds_of (RPs.val tup_keq ek r)
    refine call_meetsIn PySem.F.slot_dict_pop dd.typeIs PySem.F.entry_dict_pop ha (meetsH_dict_pop (tupleKind (L2.mixKind X.prog X.w)) a b hd more hm) ⟨tupleKind_room_in1 hu, k0, xs, L2.key_of I.hok eb, dd, by rw [← Paired.length rel]; exact zl, fun v hv h' dd' hs => ?_, fun hn tk => ⟨fun r0 er => ?_, fun er => ?_⟩⟩
    · have q := rel.val k0
      rw [hv] at q
      obtain ⟨v0, e0, q⟩ := relO_some q
      rw [e0] at ho
      obtain ⟨x, ex, rx⟩ := holds_some ho
      obtain ⟨hP, hq⟩ := h1 x ex
      have hz := z.plain hP
      obtain ⟨o, es, ep, hq0, g2, g3, g4, _, g5⟩ := dd'
      refine hq v0 (.dT (L2.dropK ks k0)) _ _ rx (by rw [hz]; trivial) (fun x => .inr ⟨_, RPs.drop tup_keq ek (r.ext x) n, dropK_nodup n, .inl L2.upd_same⟩)
        (L2.d_write I (by rw [hz]; trivial) hs ⟨o, hq0⟩ ⟨Nat.le_trans (L2.dropK_le ks k0) zl, hd, _, (L2.DX.KT_drop k0 rel).keeps fun c ys ec => ?_, o, es, ep, hq0, g2, g3, g4, g5⟩) q
      rw [L2.upd_ne (L2.ne_of ec hz (fun z => nomatch z))]
      exact ec
    · have q := rel.val k0
      rw [hn] at q
      rw [relO_none q] at ho
      obtain ⟨r1, em, hq⟩ := h2 (holds_none ho)
      rw [em] at er
      cases er
      exact hq _ (I.tok _)
    · have q := rel.val k0
      rw [hn] at q
      rw [relO_none q] at ho
      obtain ⟨r1, em, hq⟩ := h2 (holds_none ho)
      rw [em] at er
      cases er
  | flat0 k0 e z ek ey =>
    subst e ey
    obtain ⟨hd, d1, d2⟩ := dk0 I (.inr z.rd)
    obtain ⟨r0, em, hq⟩ := h2 rfl
    subst em
    have hp : (keyPart u).isSome = true := by
      cases k0 with
      | inl i => obtain ⟨t, q⟩ := (show ∃ t, u = Value.int i t from ry); subst q; rfl
      | inr x => obtain ⟨t, q⟩ := (show ∃ t, u = Value.str x t from ry); subst q; rfl
    exact call_meetsIn PySem.F.slot_dict_pop d1.typeIs PySem.F.entry_dict_pop (PySem.F.args_dict_pop_3 _ _ _) (meets_dict_pop_default (L2.mixKind X.prog X.w) a (L2.kV_is ry) hd hp r0) ⟨[], d1, rfl, hq _ (I.tok _)⟩
  | tup0 k0 b e z ek ey eb =>
    subst e ey
    cases (show u = Value.ref b from ry)
    obtain ⟨hd, d1, d2⟩ := dk0 I (.inl z.rd)
    obtain ⟨r0, em, hq⟩ := h2 rfl
    subst em
    exact call_meetsIn PySem.F.slot_dict_pop d1.typeIs PySem.F.entry_dict_pop (PySem.F.args_dict_pop_3 _ _ _) (meetsH_dict_pop (tupleKind (L2.mixKind X.prog X.w)) a b hd [r0] (.inr ⟨_, rfl⟩)) ⟨tupleKind_room_in1 hu, k0, [], L2.key_of I.hok eb, d2, Nat.zero_le _, (fun v hv => by cases hv), fun hn tk => ⟨fun r1 er => by cases er; exact hq _ (I.tok _), fun er => by cases er⟩⟩
/-- as it stands in the model, whatever its keys -/
theorem dct_raw {Pp : Prop} (I : L2.Inv X pins σ H s) (r : RO cA ρ H Pp a (.dct kvs)) : ∃ es ep, s.heap.DictRaw a es ep ∧ es.size ≤ sizeLine ∧ (a == sysModules) = false := by
  rcases r with ⟨ks, r, n, z⟩ | ⟨ks, r, n, z⟩
  · obtain ⟨zl, hd, vs, rel, o, es, ep, h1, h2, h3, h4, h5, h6⟩ := L2.dk_rd I.hok z.rd
    have l1 := h5.length
    have l2 := rel.length
    refine ⟨es, ep, ⟨o, h1, h2, h3⟩, ?_, hd⟩
    rw [← Array.length_toList]; omega
  · obtain ⟨zl, hd, xs, rel, o, es, ep, h1, h2, h3, h4, h5⟩ := L2.dt_rd I.hok z.rd
    have l1 := Paired.length rel
    refine ⟨es, ep, ⟨o, h1, h2, h3⟩, ?_, hd⟩
    have := congrArg List.length h4
    rw [List.length_map] at this
    rw [← Array.length_toList]; omega
end
end MP

namespace MP
open PySem PySem.Spec PyProof.Rows
section
variable {cA : CA} {fz lk : List Nat} {X : L2.Cx} {ρ : List Addr} {H : HH}
theorem holds_getD {o : Option MP.W} {v : Option Vv} {d : MP.W} {dv : Vv} (h : holdsO ρ H o v) (rd : RW ρ H d dv) : RW ρ H (o.getD d) (v.getD dv) := by
  cases o <;> cases v <;> first | exact rd | exact h.elim | exact h
theorem mD_get (hu : X.A.units + 64 < cLine) : L2.MtM X "dict.get" (rmD cA fz lk "get") := by
  intro pins s σ H x vs v us' Q I rx rv ⟨ρ, h, n, a, kvs, ws, E, ex, ha, e, ro, rh, rw, g⟩
  subst ex
  cases rx
  rcases ws with _ | ⟨k, _ | ⟨d, _ | ⟨d2, r⟩⟩⟩
  · exact (show False from g).elim
  · obtain ⟨y, rfl, ry⟩ := rws1 rw
    obtain ⟨u, rfl, ru⟩ := rv.one
    have g : Good cA fz RW (guardR (keyIn k kvs) (.ok ((dget k kvs).getD .non) h)) ρ H Q E := g
    obtain ⟨ki, g⟩ := g.guardR
    exact DK.get1 (by omega) I (keyIn_cases ki ro ry) ru fun o w' s' ho I' rw' => ⟨_, H, I', rw', g.here rh (holds_getD ho (show RW ρ H .non .non from rfl))⟩
  · obtain ⟨y, z, rfl, ry, rz⟩ := rws2 rw
    obtain ⟨u, t, rfl, ru, rt⟩ := rv.two
    have g : Good cA fz RW (guardR (keyIn k kvs) (.ok ((dget k kvs).getD d) h)) ρ H Q E := g
    obtain ⟨ki, g⟩ := g.guardR
    exact DK.get2 (by omega) I (keyIn_cases ki ro ry) ru rt fun o w' s' ho I' rw' => ⟨_, H, I', rw', g.here rh (holds_getD ho rz)⟩
  · exact (show False from g).elim
theorem mD_setd (hu : X.A.units + 64 < cLine) (hz : ∀ n ∈ fz, n ∈ lk) : L2.MtM X "dict.setdefault" (rmD cA fz lk "setdefault") := by
  intro pins s σ H x vs v us' Q I rx rv ⟨ρ, h, n, a, kvs, ws, E, ex, ha, e, ro, rh, rw, g⟩
  subst ex
  cases rx
  rcases ws with _ | ⟨k, _ | ⟨d, _ | ⟨d2, r⟩⟩⟩
  · exact (show False from g).elim
  · exact (show False from g).elim
  · obtain ⟨y, z, rfl, ry, rz⟩ := rws2 rw
    obtain ⟨u, t, rfl, ru, rt⟩ := rv.two
    have g : Good cA fz RW (guardR (keyIn k kvs && decide (kvs.length < LINE)) (setD lk n kvs k d h (dget k kvs))) ρ H Q E := g
    obtain ⟨eg, g⟩ := g.guardR
    simp only [Bool.and_eq_true, decide_eq_true_eq] at eg
    refine DK.setd (cA := cA) (P' := n ∈ fz) (by omega) I (keyIn_cases eg.1 ro ry) eg.2 ru rz rt (fun x v w' s' ex rx I' rw' => ?_) fun en => ?_
    · rw [ex] at g
      exact ⟨v, H, I', rw', Good.here (w := x) g rh rx⟩
    · rw [en] at g
      have g : Good cA fz RW (putV lk n (.dct (dput k d kvs)) d h) ρ H Q E := g
      obtain ⟨_, hlk, g⟩ := put_ok (f := fun h => .ok d h) g
      refine ⟨fun hc => hlk (hz n hc), fun ob s' mu new I' => ?_⟩
      obtain ⟨x3, rh3⟩ := rh.write (o := .dct (dput k d kvs)) ha mu new
      exact ⟨z, _, I', rt, g ρ z _ x3 rh3 (rz.ext x3)⟩
  · exact (show False from g).elim
theorem mD_pop (hu : X.A.units + 64 < cLine) (hz : ∀ n ∈ fz, n ∈ lk) : L2.MtM X "dict.pop" (rmD cA fz lk "pop") := by
  intro pins s σ H x vs v us' Q I rx rv ⟨ρ, h, n, a, kvs, ws, E, ex, ha, e, ro, rh, rw, g⟩
  subst ex
  cases rx
  have key : ∀ {k : MP.W} {y : Vv} {u : Value} {more : List Value} {d : MP.R MP.W}, keyIn k kvs = true → RW ρ H k y → L2.RelV y u → (more = [] ∨ ∃ x, more = [x]) → Good cA fz RW (popD lk n kvs k h d (dget k kvs)) ρ H Q E →
      (Good cA fz RW d ρ H Q E → ∃ r0 z w, more = [r0] ∧ L2.RelV z r0 ∧ RW ρ H w z ∧ Good cA fz RW (.ok w h) ρ H Q E) → wpAny (model X.prog X.w) X.A (call (.builtin "dict.pop") (.ref a :: u :: more)) (L2.EP X pins σ Q) X.xe s := by
    intro k y u more d ki ry ru hm g hd
    refine DK.pop (cA := cA) (P' := n ∈ fz) (by omega) I (keyIn_cases ki ro ry) ru hm (fun x ex => ?_) fun en => ?_
    · rw [ex] at g
      have g : Good cA fz RW (putV lk n (.dct (ddel k kvs)) x h) ρ H Q E := g
      obtain ⟨_, hlk, g⟩ := put_ok (f := fun h => .ok x h) g
      refine ⟨fun hc => hlk (hz n hc), fun v ob w' s' rx mu new I' rw' => ?_⟩
      obtain ⟨x3, rh3⟩ := rh.write (o := .dct (ddel k kvs)) ha mu new
      exact ⟨v, _, I', rw', g ρ v _ x3 rh3 (rx.ext x3)⟩
    · rw [en] at g
      obtain ⟨r0, z, w, em, rz, rww, g⟩ := hd g
      exact ⟨r0, em, fun s' I' => ⟨z, H, I', rz, g.here rh rww⟩⟩
  rcases ws with _ | ⟨k, _ | ⟨d, _ | ⟨d2, r⟩⟩⟩
  · exact (show False from g).elim
  · obtain ⟨y, rfl, ry⟩ := rws1 rw
    obtain ⟨u, rfl, ru⟩ := rv.one
    have g : Good cA fz RW (guardR (keyIn k kvs) (popD lk n kvs k h .bad (dget k kvs))) ρ H Q E := g
    obtain ⟨ki, g⟩ := g.guardR
    exact key ki ry ru (.inl rfl) g fun g => g.elim
  · obtain ⟨y, z, rfl, ry, rz⟩ := rws2 rw
    obtain ⟨u, t, rfl, ru, rt⟩ := rv.two
    have g : Good cA fz RW (guardR (keyIn k kvs) (popD lk n kvs k h (.ok d h) (dget k kvs))) ρ H Q E := g
    obtain ⟨ki, g⟩ := g.guardR
    exact key ki ry ru (.inr ⟨_, rfl⟩) g fun g => ⟨t, z, d, rfl, rt, rz, g⟩
  · exact (show False from g).elim
theorem mD_clear (hz : ∀ n ∈ fz, n ∈ lk) : L2.MtM X "dict.clear" (rmD cA fz lk "clear") := by
  intro pins s σ H x vs v us' Q I rx rv ⟨ρ, h, n, a, kvs, ws, E, ex, ha, e, ro, rh, rw, g⟩
  subst ex
  cases rx
  rcases ws with _ | ⟨k, r⟩
  · cases rws0 rw
    cases rv.zero
    have g : Good cA fz RW (putV lk n (.dct []) .non h) ρ H Q E := g
    obtain ⟨_, hlk, g⟩ := put_ok (f := fun h => .ok MP.W.non h) g
    obtain ⟨es, ep, hr, hsz, hd⟩ := dct_raw I ro
    have mu : L2.Mut (H a) := by
      rcases ro with ⟨ks, _, _, z⟩ | ⟨ks, _, _, z⟩
      · rw [z.plain fun hc => hlk (hz n hc)]; trivial
      · rw [z.plain fun hc => hc.elim]; trivial
    refine call_meetsIn PySem.F.slot_dict_clear hr.typeIs PySem.F.entry_dict_clear (PySem.F.args_dict_clear_1 _) (meets_dict_clear_raw a) ⟨es, ep, hr, hsz, fun h' hr' hs => ?_⟩
    obtain ⟨o, ho, hc, hdat⟩ := hr'
    obtain ⟨x3, rh3⟩ := rh.write (u := .dK []) (o := .dct []) ha mu fun x3 => .inl ⟨[], .nil, List.nodup_nil, .inl L2.upd_same⟩
    exact ⟨.non, _, L2.d_write (t' := s.toks) I mu hs ⟨o, ho⟩ (L2.dk_new (Nat.zero_le _) hd .nil ⟨o, #[], _, ho, hc, hdat, (fun e he => by simp at he), .nil, List.nodup_nil⟩), rfl, g ρ .non _ x3 rh3 rfl⟩
  · exact (show False from g).elim
/-- a dict of ints and texts -/
theorem dct_mix {pins : List (Addr × Obj)} {s : Shared} {σ : L2.St} {P : Prop} {a : Addr} {kvs : List (MP.W × MP.W)} (I : L2.Inv X pins σ H s) (ro : RO cA ρ H P a (.dct kvs)) (fl : (kvs.all fun p => isFlat p.1) = true) :
    ∃ ks vs, RPs flatK ρ H kvs ks ∧ (ks.map (·.1)).Nodup ∧ L2.KV ks vs ∧ s.heap.DictOf (L2.mixKind X.prog X.w) a vs ∧ ks.length ≤ sizeLine ∧ (a == sysModules) = false := by
  rcases ro with ⟨ks, r, n, z⟩ | ⟨ks, r, n, z⟩
  · obtain ⟨zl, hd, vs, rel, dd⟩ := L2.dk_rd I.hok z.rd
    exact ⟨ks, vs, r, n, rel, dd, zl, hd⟩
  · cases r with
    | nil =>
      obtain ⟨hd, d1, d2⟩ := dk0 I (.inr z.rd)
      exact ⟨[], [], .nil, List.nodup_nil, .nil, d1, Nat.zero_le _, hd⟩
    | @cons p q ps qs r1 r2 =>
      rw [List.all_cons, Bool.and_eq_true] at fl
      have h1 := kind_tup r1.1
      cases hp : p.1 with
      | int i => rw [hp] at h1; cases h1
      | str i => rw [hp] at h1; cases h1
      | _ => rw [hp] at fl; have f1 : false = true := fl.1; cases f1
theorem mD_copy : L2.MtM X "dict.copy" (rmD cA fz lk "copy") := by
  intro pins s σ H x vs v us' Q I rx rv ⟨ρ, h, n, a, kvs, ws, E, ex, ha, e, ro, rh, rw, g⟩
  subst ex
  cases rx
  rcases ws with _ | ⟨k, r⟩
  · cases rws0 rw
    cases rv.zero
    have g : Good cA fz RW (guardR (kvs.all fun p => isFlat p.1) (mk (.dct kvs) h)) ρ H Q E := g
    obtain ⟨fl, g⟩ := g.guardR
    obtain ⟨ks, vs, r, n, rel, dd, zl, hd⟩ := dct_mix I ro fl
    refine call_meetsIn PySem.F.slot_dict_copy dd.typeIs PySem.F.entry_dict_copy (PySem.F.args_dict_copy_1 _) (meets_dict_copy (L2.mixKind X.prog X.w) a hd) ⟨vs, dd, by rw [← rel.length]; exact zl, fun h' dn _ kp => ?_⟩
    have q := mk_dK g rh r n _ (I.fresh)
    exact ⟨.ref s.heap.objs.size, _, I.laid (t' := s.toks) kp (Nat.le_refl _) (L2.dk_new zl (beq_eq_false_iff_ne.mpr (Ne.symm (Nat.ne_of_lt I.big))) rel dn), rfl, q⟩
  · exact (show False from g).elim
/-! ### methods of texts -/
theorem strs_RWs : ∀ {zs : List (List Nat)}, (∀ z ∈ zs, z.length ≤ LINE) → RWs ρ H (zs.map .str) ((zs.map sv).map L2.V.str)
  | [], _ => rfl
  | z :: zs, h => ⟨_, _, rfl, ⟨h z List.mem_cons_self, rfl⟩, strs_RWs fun w hw => h w (List.mem_cons_of_mem _ hw)⟩
theorem cutAt_len (c : Nat) : ∀ s : List Nat, (cutAt c s).1.length ≤ s.length ∧ (cutAt c s).2.2.length ≤ s.length
  | [] => ⟨Nat.le_refl _, Nat.le_refl _⟩
  | x :: r => by
    have ih := cutAt_len c r
    unfold cutAt
    split
    · simp
    · simp only [List.length_cons]; omega
theorem mS_split : L2.MtM X "str.split" (rmS cA fz "split") := MtM.imp L2.mt_split fun x vs H Q ⟨ρ, h, s, ws, E, ex, hs, rh, rw, g⟩ => by
  subst ex
  rcases ws with _ | ⟨k, _ | ⟨k2, r⟩⟩
  · exact (show False from g).elim
  · obtain ⟨y, rfl, ry⟩ := rws1 rw
    cases k with
    | str b =>
      rcases b with _ | ⟨c, _ | ⟨c2, r⟩⟩
      · exact (show False from g).elim
      · obtain ⟨_, rfl⟩ := ry
        have g : Good cA fz RW (mk (.lst ((splitOn c s).map .str)) h) ρ H Q E := g
        refine ⟨sv s, sv [c], rfl, rfl, rfl, by rw [sv_len, sizeLine_eq]; simp only [LINE] at hs; omega, ?_⟩
        rw [split_ok]
        exact mk_lst g rh (strs_RWs fun z hz => Nat.le_trans (splitOn_each c s z hz) hs)
      · exact (show False from g).elim
    | _ => exact (show False from g).elim
  · cases k with
    | str b => rcases b with _ | ⟨c, _ | ⟨c2, r⟩⟩ <;> exact (show False from g).elim
    | _ => exact (show False from g).elim
theorem mS_partition : L2.MtM X "str.partition" (rmS cA fz "partition") := MtM.imp L2.mt_partition fun x vs H Q ⟨ρ, h, s, ws, E, ex, hs, rh, rw, g⟩ => by
  subst ex
  rcases ws with _ | ⟨k, _ | ⟨k2, r⟩⟩
  · exact (show False from g).elim
  · obtain ⟨y, rfl, ry⟩ := rws1 rw
    cases k with
    | str b =>
      rcases b with _ | ⟨c, _ | ⟨c2, r⟩⟩
      · exact (show False from g).elim
      · obtain ⟨h1, rfl⟩ := ry
        have g : Good cA fz RW (.ok (partitionS c s) h) ρ H Q E := g
        have hc := cutAt_len c s
        refine ⟨sv s, sv [c], rfl, rfl, rfl, by rw [sv_len]; exact Nat.le_trans hs line_le, ?_⟩
        rw [partition_ok]
        unfold partitionS at g
        simp only at g
        cases e : (cutAt c s).2.1 with
        | true =>
          rw [e] at g
          exact mk_tup g rh ⟨_, _, rfl, ⟨Nat.le_trans hc.1 hs, rfl⟩, _, _, rfl, ⟨h1, rfl⟩, _, _, rfl, ⟨Nat.le_trans hc.2 hs, rfl⟩, rfl⟩
        | false =>
          rw [e] at g
          exact mk_tup g rh ⟨_, _, rfl, ⟨hs, rfl⟩, _, _, rfl, ⟨Nat.zero_le _, rfl⟩, _, _, rfl, ⟨Nat.zero_le _, rfl⟩, rfl⟩
      · exact (show False from g).elim
    | _ => exact (show False from g).elim
  · cases k with
    | str b => rcases b with _ | ⟨c, _ | ⟨c2, r⟩⟩ <;> exact (show False from g).elim
    | _ => exact (show False from g).elim
theorem mt_rpartition : L2.MtM X "str.rpartition" (fun x xs H Q => ∃ s c, x = .str (sv s) ∧ xs = [.str (sv [c])] ∧ s.length ≤ LINE ∧
    ∀ p, H p = none → Q (.ref p) (L2.upd H p (.tup (match (cutAt c s.reverse).2.1 with | true => [.str (sv (cutAt c s.reverse).2.2.reverse), .str (sv [c]), .str (sv (cutAt c s.reverse).1.reverse)] | false => [.str (sv []), .str (sv []), .str (sv s)])))) := by
  intro pins s0 σ H x xs v us Q I rx rs ⟨s, c, ex, exs, hs, h⟩
  subst ex exs
  obtain ⟨t, rfl⟩ := rx
  obtain ⟨w, rfl, rw⟩ := rs.one
  obtain ⟨u, rfl⟩ := rw
  refine call_meets F.slot_str_rpartition (typeIs_str _ _ _) F.entry_str_rpartition (F.args_str_rpartition_2 _ _) (meets_str_rpartition (sv s) (sv [c]) t u rfl (by rw [sv_len]; exact Nat.le_trans hs line_le)) ?_
  have e := rpartition_ok c s
  cases hl : Builtin.Str.lastOccurrence (sv s) (sv [c]) 0 (sv s).length with
  | none =>
    rw [hl] at e
    cases hb : (cutAt c s.reverse).2.1 with
    | true => rw [hb] at e; cases (Prod.mk.inj (Prod.mk.inj e).2).1
    | false => rw [hb] at h; exact L2.laid_parts I h
  | some i =>
    rw [hl] at e
    cases hb : (cutAt c s.reverse).2.1 with
    | true =>
      rw [hb] at e h
      obtain ⟨e1, e2⟩ := Prod.mk.inj e
      obtain ⟨_, e3⟩ := Prod.mk.inj e2
      rw [← e1, ← e3] at h
      exact L2.laid_parts I h
    | false => rw [hb] at e; cases (Prod.mk.inj (Prod.mk.inj e).2).1
theorem mS_rpartition : L2.MtM X "str.rpartition" (rmS cA fz "rpartition") := MtM.imp mt_rpartition fun x vs H Q ⟨ρ, h, s, ws, E, ex, hs, rh, rw, g⟩ => by
  subst ex
  rcases ws with _ | ⟨k, _ | ⟨k2, r⟩⟩
  · exact (show False from g).elim
  · obtain ⟨y, rfl, ry⟩ := rws1 rw
    cases k with
    | str b =>
      rcases b with _ | ⟨c, _ | ⟨c2, r⟩⟩
      · exact (show False from g).elim
      · obtain ⟨h1, rfl⟩ := ry
        have g : Good cA fz RW (.ok (rpartitionS c s) h) ρ H Q E := g
        have hc := cutAt_len c s.reverse
        rw [List.length_reverse] at hc
        refine ⟨s, c, rfl, rfl, hs, ?_⟩
        unfold rpartitionS at g
        simp only at g
        cases e : (cutAt c s.reverse).2.1 with
        | true =>
          rw [e] at g
          exact mk_tup g rh ⟨_, _, rfl, ⟨by rw [List.length_reverse]; exact Nat.le_trans hc.2 hs, rfl⟩, _, _, rfl, ⟨h1, rfl⟩, _, _, rfl, ⟨by rw [List.length_reverse]; exact Nat.le_trans hc.1 hs, rfl⟩, rfl⟩
        | false =>
          rw [e] at g
          exact mk_tup g rh ⟨_, _, rfl, ⟨Nat.zero_le _, rfl⟩, _, _, rfl, ⟨Nat.zero_le _, rfl⟩, _, _, rfl, ⟨hs, rfl⟩, rfl⟩
      · exact (show False from g).elim
    | _ => exact (show False from g).elim
  · cases k with
    | str b => rcases b with _ | ⟨c, _ | ⟨c2, r⟩⟩ <;> exact (show False from g).elim
    | _ => exact (show False from g).elim
end
end MP

namespace MP
open PySem PySem.Spec PyProof.Rows
/-! ### the table of methods -/
end MP

namespace MP
open PySem PySem.Spec PyProof.Rows
/-! ### more built-in functions by values -/
theorem natDigits_len {n : Nat} (h : n < 2 ^ 1900) : (natDigits n).length ≤ 1900 := by
  unfold natDigits
  rw [List.length_map]
  exact (Nat.length_toDigits_le_iff (by decide) (by decide)).mpr (Nat.lt_of_lt_of_le h (Nat.pow_le_pow_left (by decide) 1900))
theorem intText_ok (i : Int) : ((toString i : String) : Str) = sv (intText i) := by
  apply TL.ext_tl
  show _ = intText i
  unfold intText
  cases i with
  | ofNat n =>
    rw [if_neg (by show ¬ ((n : Int) < 0); omega)]
    exact TL.tl_num n
  | negSucc n =>
    rw [if_pos (Int.negSucc_lt_zero n)]
    have e : toString (Int.negSucc n) = "-" ++ toString (((n + 1 : Nat)) : Int) := rfl
    show TL.tl (Str.ofString (toString (Int.negSucc n))) = _
    rw [e]
    rw [Str.ofString_eq_toList]
    show ((("-" ++ Nat.repr (n + 1)).toList.map Char.toNat)) = 45 :: natDigits (n + 1)
    rw [String.toList_append, List.map_append, Nat.toList_repr]
    rfl
section
variable {cA : CA} {Y : L2.Cx} {lk : List Nat}
theorem blt_str : L2.CallR Y (.type "str") (rBlt cA lk .str) := by
  intro pins s σ H xs us Q I r ⟨ρ, h, ws, E, rh, rw', g⟩
  match ws, rw', g with
  | [], _, g => exact (show False from g).elim
  | x :: _ :: _, _, g => cases x <;> exact (show False from g).elim
  | [x], rw', g =>
    obtain ⟨v, rfl, rv⟩ := rws1 rw'
    cases x with
    | int i =>
      cases rv
      have g : Good cA lk RW (guardR (decide (i.natAbs < 2 ^ 1900)) (.ok (.str (intText i)) h)) ρ H Q E := g
      obtain ⟨e, g⟩ := g.guardR
      have e := of_decide_eq_true e
      have hl : (intText i).length ≤ LINE := by
        unfold intText
        have := natDigits_len e
        simp only [LINE]
        split
        · simp only [List.length_cons]; omega
        · omega
      refine L2.call_str_int pins s σ H _ us Q I r ⟨i, rfl, ?_, g.here rh ⟨hl, by rw [← intText_ok]⟩⟩
      by_cases h0 : i.natAbs = 0
      · rw [h0]; decide
      · exact Nat.lt_trans ((Nat.log2_lt h0).mpr e) (by decide)
    | str z =>
      obtain ⟨hl, rfl⟩ := rv
      exact SkE.call_str_str pins s σ H _ us Q I r ⟨_, rfl, Good.here (w := MP.W.str z) g rh ⟨hl, rfl⟩⟩
    | _ => exact (show False from g).elim
theorem isKeys_RWs {ρ : List Addr} {H : HH} : ∀ {kvs : List (MP.W × MP.W)} {ks : List (List KEY × Vv)} {bs : List Addr}, RPs tupK ρ H kvs ks → L2.IsKeys H ks bs → RWs ρ H (kvs.map (·.1)) (bs.map L2.V.ref) := by
  intro kvs ks bs r
  unfold L2.IsKeys
  unfold RPs at r
  induction r generalizing bs with
  | nil => intro k; cases k; rfl
  | @cons p q ps qs r1 r2 ih =>
    intro k
    cases k with
    | @cons _ b _ bs k1 k2 =>
      refine ⟨_, _, rfl, ?_, ih k2⟩
      obtain ⟨p1, p2⟩ := p
      have e1 := r1.1
      cases p1 with
      | tup xs =>
        refine ⟨b, _, rfl, k1, ?_⟩
        have : ∀ {xs : List MP.W} {kk : List KEY}, flatKs xs = some kk → RWs ρ H xs (kk.map L2.kV) := by
          intro xs
          induction xs with
          | nil => intro kk e; cases e; rfl
          | cons x xs ih =>
            intro kk e
            simp only [flatKs] at e
            cases h1 : flatK x with
            | none => rw [h1] at e; cases e
            | some k0 =>
              rw [h1] at e
              cases h2 : flatKs xs with
              | none => rw [h2] at e; cases e
              | some ks =>
                rw [h2] at e
                cases e
                refine ⟨_, _, rfl, ?_, ih h2⟩
                cases x with
                | int i => cases h1; rfl
                | str z =>
                  unfold flatK at h1
                  simp only at h1
                  split at h1
                  · rename_i hl; cases h1; exact ⟨hl, rfl⟩
                  · cases h1
                | _ => cases h1
        exact this e1
      | _ => cases e1
theorem flatK_RWs {ρ : List Addr} {H : HH} {kvs : List (MP.W × MP.W)} {ks : List (KEY × Vv)} (r : RPs flatK ρ H kvs ks) : RWs ρ H (kvs.map (·.1)) (ks.map fun kv => L2.kV kv.1) := by
  unfold RPs at r
  induction r with
  | nil => rfl
  | @cons p q ps qs r1 r2 ih =>
    refine ⟨_, _, rfl, ?_, ih⟩
    obtain ⟨p1, p2⟩ := p
    obtain ⟨q1, q2⟩ := q
    have h1 : flatK p1 = some q1 := r1.1
    show RW ρ H p1 (L2.kV q1)
    cases p1 with
    | int i => cases h1; rfl
    | str z =>
      unfold flatK at h1
      simp only at h1
      split at h1
      · rename_i hl; rw [← Option.some.inj h1]; exact ⟨hl, rfl⟩
      · cases h1
    | _ => cases h1
theorem blt_list (hc : Y.calm = true) : L2.CallR Y (.type "list") (rBlt cA lk .list) := by
  intro pins s σ H xs us Q I r ⟨ρ, h, ws, E, rh, rw', g⟩
  match ws, rw', g with
  | [], _, g => exact (show False from g).elim
  | _ :: _ :: _, _, g => exact (show False from g).elim
  | [x], rw', g =>
    have g : Good cA lk RW (thenO (seqV x h) fun p => mk (.lst p) h) ρ H Q E := g
    obtain ⟨p, e, g2⟩ := g.thenO
    clear g
    obtain ⟨v, rfl, rv⟩ := rws1 rw'
    cases x with
    | tup xs =>
      cases e
      obtain ⟨b, vs, rfl, hb, rr⟩ := rv
      exact L2.call_list_of pins s σ H _ us Q I r ⟨b, vs, rfl, .inr (.of hb), mk_lst g2 rh rr⟩
    | ref n =>
      obtain ⟨a, rfl, ha⟩ := rv
      have e : seqO (rd h n) = some p := e
      unfold seqO at e
      split at e
      · rename_i ys e1
        cases e
        obtain ⟨a', ha', vs, rr, z⟩ := rh.get e1
        rw [ha] at ha'; cases ha'
        exact L2.call_list_of pins s σ H _ us Q I r ⟨a, vs, rfl, .inl z.seqL, mk_lst g2 rh rr⟩
      · rename_i kvs e1
        cases e
        obtain ⟨a', ha', ro⟩ := rh.get e1
        rw [ha] at ha'; cases ha'
        rcases ro with ⟨ks, rr, nd, z⟩ | ⟨ks, rr, nd, z⟩
        · exact L2.call_listD hc pins s σ H _ us Q I r ⟨a, ks, rfl, z.rd, mk_lst g2 rh (flatK_RWs rr)⟩
        · exact L2.call_list_dT hc pins s σ H _ us Q I r ⟨a, ks, rfl, z.rd, fun p bs hp hk => mk_lst g2 rh (isKeys_RWs rr hk) p hp⟩
      · cases e
    | _ => cases e
theorem blt_tuple : L2.CallR Y (.type "tuple") (rBlt cA lk .tuple) := by
  intro pins s σ H xs us Q I r ⟨ρ, h, ws, E, rh, rw', g⟩
  match ws, rw', g with
  | [], _, g => exact (show False from g).elim
  | _ :: _ :: _, _, g => exact (show False from g).elim
  | [x], rw', g =>
    have g : Good cA lk RW (thenO (lotV x h) fun p => .ok (.tup p) h) ρ H Q E := g
    obtain ⟨p, e, g2⟩ := g.thenO
    clear g
    obtain ⟨v, rfl, rv⟩ := rws1 rw'
    cases x with
    | tup xs =>
      cases e
      have rv0 := rv
      obtain ⟨b, vs, rfl, hb, rr⟩ := rv
      exact L2.call_tuple_of pins s σ H _ us Q I r ⟨b, vs, rfl, .inr ⟨.of hb, g2.here rh rv0⟩⟩
    | ref n =>
      obtain ⟨a, rfl, ha⟩ := rv
      unfold lotV at e
      simp only at e
      split at e
      · rename_i ys e1
        cases e
        obtain ⟨a', ha', vs, rr, z⟩ := rh.get e1
        rw [ha] at ha'; cases ha'
        exact L2.call_tuple_of pins s σ H _ us Q I r ⟨a, vs, rfl, .inl ⟨z.seqL, mk_tup g2 rh rr⟩⟩
      · cases e
    | _ => cases e
theorem blt_dict : L2.CallR Y (.type "dict") (rBlt cA lk .dict) := by
  intro pins s σ H xs us Q I r ⟨ρ, h, ws, E, rh, rw', g⟩
  match ws, rw', g with
  | [], _, g => exact (show False from g).elim
  | x :: _ :: _, _, g => cases x <;> exact (show False from g).elim
  | [x], rw', g =>
    obtain ⟨v, rfl, rv⟩ := rws1 rw'
    cases x with
    | ref n =>
      have g : Good cA lk RW (dictO h (rd h n)) ρ H Q E := g
      unfold dictO at g
      split at g
      · rename_i kvs e1
        obtain ⟨fl, g⟩ := g.guardR
        obtain ⟨a, rfl, ha⟩ := rv
        obtain ⟨a', ha', ro⟩ := rh.get e1
        rw [ha] at ha'; cases ha'
        obtain ⟨u, rfl, rx⟩ := L2.vals1 r
        cases rx
        obtain ⟨ks, vs, r, n, rel, dd, zl, hd⟩ := dct_mix I ro fl
        refine kt_call_dict hd dd (by rw [← rel.length]; exact zl) fun h' d' hs => ?_
        have hm : (s.heap.objs.size == sysModules) = false := beq_eq_false_iff_ne.mpr (Nat.ne_of_gt I.big)
        exact ⟨.ref s.heap.objs.size, _, I.laid (t' := s.toks) (fun b u e => (hs.2 b (Nat.ne_of_lt (Heap.lt_size e))).trans (Heap.get?_push_of_some _ e)) (Nat.le_refl _) (L2.dk_new zl hm rel d'), rfl, mk_dK g rh r n _ I.fresh⟩
      · exact g.elim
    | _ => exact (show False from g).elim
theorem blt_sum (hc : Y.calm = true) : L2.CallR Y (.builtin "sum") (rBlt cA lk .sum) := by
  intro pins s σ H xs us Q I r ⟨ρ, h, ws, E, rh, rw', g⟩
  match ws, rw', g with
  | [], _, g => exact (show False from g).elim
  | _ :: _ :: _, _, g => exact (show False from g).elim
  | [x], rw', g =>
    have g : Good cA lk RW (thenO (lstV x h) fun p => .of ((intsV p).map fun l => .int l.sum) h) ρ H Q E := g
    obtain ⟨p, e, g2⟩ := g.thenO
    clear g
    obtain ⟨z, e2, g3⟩ := g2.of
    clear g2
    simp only [Option.map_eq_some_iff] at e2
    obtain ⟨ns, e2, rfl⟩ := e2
    obtain ⟨v, rfl, rv⟩ := rws1 rw'
    cases x with
    | ref n =>
      obtain ⟨a, rfl, ha⟩ := rv
      unfold lstV at e
      simp only at e
      split at e
      · rename_i ys e1
        cases e
        obtain ⟨a', ha', vs, rr, z⟩ := rh.get e1
        rw [ha] at ha'; cases ha'
        have ev := RWs.intsOf e2 rr
        subst ev
        exact L2.cr_sum hc pins s σ H _ us Q I r ⟨a, ns, rfl, z.seqL, Good.here (w := MP.W.int ns.sum) g3 rh rfl⟩
      · cases e
    | _ => cases e
end
end MP

namespace MP
open PySem PySem.Spec PyProof.Rows
/-! ### walks: with numbers, two by two, from the end -/
section
variable {cA : CA} {fz : List Nat} {M : Cx} {W : L2.WX} {X : L2.Cx} {pos p2 p tpos : Pos} {a b c tg : Expr} {ma mb mc : Ex} {ρ ρ1 : List Addr} {H H1 : HH} {h : Hp} {elts : List Expr} {kk : Nat}
theorem RW.tup2 {x y : MP.W} {v u : Vv} {T : Addr} (rx : RW ρ H x v) (ry : RW ρ H y u) (hT : H T = some (.tup [v, u])) : RW ρ H (.tup [x, y]) (.ref T) :=
  ⟨T, [v, u], rfl, hT, v, [u], rfl, rx, u, [], rfl, ry, rfl⟩
theorem wk_enum {n : Nat} {a : Addr} {xs : List MP.W} (hn : ρ[n]? = some a) (e : rd h n = some (.lst xs)) (K : PySem.W.Frag) : Wk cA fz [n] ρ H h (enumW xs) (L2.Ite K a) := fun i ρ1 h1 H1 x kp rh => by
  have hl : (enumW xs).length = xs.length := by simp [enumW]
  refine ⟨fun hl2 => ?_, fun w ew => ?_⟩
  · by_cases hx : 0 < xs.length
    · have e1 : rd h1 n = some (.lst xs) := (kp.at_ n (by simp) (ix_lt e)).trans e
      obtain ⟨a', ha', vs, r, z⟩ := rh.get e1
      rw [x.ix hn] at ha'; cases ha'
      exact ⟨vs, z.seqL, by rw [← r.length, ← hl]; exact hl2⟩
    · have e1 : rd h1 n = some (.lst xs) := (kp.at_ n (by simp) (ix_lt e)).trans e
      obtain ⟨a', ha', vs, r, z⟩ := rh.get e1
      rw [x.ix hn] at ha'; cases ha'
      exact ⟨vs, z.seqL, by rw [← r.length]; omega⟩
  · have e1 : rd h1 n = some (.lst xs) := (kp.at_ n (by simp) (ix_lt e)).trans e
    obtain ⟨a', ha', vs, r, z⟩ := rh.get e1
    rw [x.ix hn] at ha'; cases ha'
    have hi : i < xs.length := by rw [← hl]; exact ix_lt ew
    obtain ⟨v, hv, rv⟩ := r.get (List.getElem?_eq_getElem hi)
    refine ⟨⟨vs, v, z.seqL, hv⟩, fun y H' q => ?_⟩
    obtain ⟨T, x', rfl, hT, rfl, q⟩ := q
    have q := q vs z.seqL
    rw [hv] at q
    cases q
    obtain ⟨x1, rh1⟩ := rh.side (u := .tup [.int (i : Nat), v]) hT
    have ew' : w = .tup [.int (i : Nat), xs[i]] := by
      simp only [enumW, List.getElem?_map, List.getElem?_zipIdx, List.getElem?_eq_getElem hi, Option.map_some] at ew
      cases ew
      simp
    rw [ew']
    exact ⟨x1, rh1, RW.tup2 (x := .int (i : Nat)) rfl (rv.ext x1) L2.upd_same⟩
theorem wk_rev {n : Nat} {a : Addr} {xs : List MP.W} {vs : List Vv} (hn : ρ[n]? = some a) (e : rd h n = some (.lst xs)) (hl : xs.length = vs.length) (K : PySem.W.Frag) : Wk cA fz [n] ρ H h xs.reverse (L2.Itv K a vs.length) := fun i ρ1 h1 H1 x kp rh => by
  have e1 : rd h1 n = some (.lst xs) := (kp.at_ n (by simp) (ix_lt e)).trans e
  obtain ⟨a', ha', vs', r, z⟩ := rh.get e1
  rw [x.ix hn] at ha'; cases ha'
  refine ⟨fun h2 => show vs.length ≤ i by rw [← hl]; simpa using h2, fun w ew => ?_⟩
  have hi : i < xs.length := by have := ix_lt ew; simpa using this
  rw [List.getElem?_reverse hi] at ew
  obtain ⟨v, hv, rv⟩ := r.get ew
  rw [hl] at hv
  refine ⟨⟨by rw [← hl]; exact hi, vs', v, z.seqL, hv⟩, fun y H' q => ?_⟩
  obtain ⟨rfl, q⟩ := q
  have q := q vs' z.seqL
  rw [hv] at q
  cases q
  exact ⟨.refl, rh, rv⟩
theorem wk_revT {a : Addr} {xs : List MP.W} {vs : List Vv} (ha : H a = some (.tup vs)) (r : RWs ρ H xs vs) (K : PySem.W.Frag) : Wk cA fz [] ρ H h xs.reverse (RT.ItvT K a vs.length) := fun i ρ1 h1 H1 x kp rh => by
  have h1' := x.tup a vs ha
  have r := r.ext x
  have hl := r.length
  refine ⟨fun h2 => show vs.length ≤ i by rw [← hl]; simpa using h2, fun w ew => ?_⟩
  have hi : i < xs.length := by have := ix_lt ew; simpa using this
  rw [List.getElem?_reverse hi] at ew
  obtain ⟨v, hv, rv⟩ := r.get ew
  rw [hl] at hv
  refine ⟨⟨by rw [← hl]; exact hi, vs, v, .of h1', hv⟩, fun y H' q => ?_⟩
  obtain ⟨rfl, q⟩ := q
  have q := q vs (.of h1')
  rw [hv] at q
  cases q
  exact ⟨.refl, rh, rv⟩
theorem zip_get {α β : Type} {xs : List α} {ys : List β} {i : Nat} {p : α × β} (e : (xs.zip ys)[i]? = some p) : xs[i]? = some p.1 ∧ ys[i]? = some p.2 := by
  rw [List.getElem?_zip_eq_some] at e
  exact e
theorem wk_zip {n m : Nat} {a b : Addr} {xs ys : List MP.W} (hn : ρ[n]? = some a) (e : rd h n = some (.lst xs)) (hm : ρ[m]? = some b) (f : rd h m = some (.lst ys)) (K : PySem.W.Frag) :
    Wk cA fz ([n] ++ [m]) ρ H h ((xs.zip ys).map fun z => .tup [z.1, z.2]) (L2.Itz K a b) := fun i ρ1 h1 H1 x kp rh => by
  have e1 : rd h1 n = some (.lst xs) := (kp.at_ n (by simp) (ix_lt e)).trans e
  have f1 : rd h1 m = some (.lst ys) := (kp.at_ m (by simp) (ix_lt f)).trans f
  obtain ⟨a', ha', vs, r, z⟩ := rh.get e1
  rw [x.ix hn] at ha'; cases ha'
  obtain ⟨b', hb', us, r2, z2⟩ := rh.get f1
  rw [x.ix hm] at hb'; cases hb'
  refine ⟨fun h2 => ⟨vs, us, z.seqL, z2.seqL, ?_⟩, fun w ew => ?_⟩
  · rw [List.length_map, List.length_zip] at h2
    rw [← r.length, ← r2.length]
    omega
  · rw [List.getElem?_map] at ew
    cases hz : (xs.zip ys)[i]? with
    | none => rw [hz] at ew; cases ew
    | some q =>
      rw [hz] at ew
      cases ew
      obtain ⟨g1, g2⟩ := zip_get hz
      obtain ⟨v, hv, rv⟩ := r.get g1
      obtain ⟨u, hu, ru⟩ := r2.get g2
      refine ⟨⟨vs, us, v, u, z.seqL, z2.seqL, hv, hu⟩, fun y H' q => ?_⟩
      obtain ⟨T, x', y', rfl, hT, rfl, q1, q2⟩ := q
      have q1 := q1 vs z.seqL
      rw [hv] at q1
      cases q1
      have q2 := q2 us z2.seqL
      rw [hu] at q2
      cases q2
      obtain ⟨x1, rh1⟩ := rh.side (u := .tup [v, u]) hT
      exact ⟨x1, rh1, RW.tup2 (rv.ext x1) (ru.ext x1) L2.upd_same⟩
theorem wk_zipT {a b : Addr} {xs ys : List MP.W} {vs us : List Vv} (ha : H a = some (.tup vs)) (r : RWs ρ H xs vs) (hb : H b = some (.tup us)) (r2 : RWs ρ H ys us) (K : PySem.W.Frag) :
    Wk cA fz ([] ++ []) ρ H h ((xs.zip ys).map fun z => .tup [z.1, z.2]) (RZ.ItzT K a b) := fun i ρ1 h1 H1 x kp rh => by
  have h1' := x.tup a vs ha
  have h2' := x.tup b us hb
  have r := r.ext x
  have r2 := r2.ext x
  refine ⟨fun h2 => ⟨vs, us, .of h1', .of h2', ?_⟩, fun w ew => ?_⟩
  · rw [List.length_map, List.length_zip] at h2
    rw [← r.length, ← r2.length]
    omega
  · rw [List.getElem?_map] at ew
    cases hz : (xs.zip ys)[i]? with
    | none => rw [hz] at ew; cases ew
    | some q =>
      rw [hz] at ew
      cases ew
      obtain ⟨g1, g2⟩ := zip_get hz
      obtain ⟨v, hv, rv⟩ := r.get g1
      obtain ⟨u, hu, ru⟩ := r2.get g2
      refine ⟨⟨vs, us, v, u, .of h1', .of h2', hv, hu⟩, fun y H' q => ?_⟩
      obtain ⟨T, x', y', rfl, hT, rfl, q1, q2⟩ := q
      have q1 := q1 vs (.of h1')
      rw [hv] at q1
      cases q1
      have q2 := q2 us (.of h2')
      rw [hu] at q2
      cases q2
      obtain ⟨x1, rh1⟩ := rh.side (u := .tup [v, u]) hT
      exact ⟨x1, rh1, RW.tup2 (rv.ext x1) (ru.ext x1) L2.upd_same⟩
theorem i_enum (hg : L2.Gl X "enumerate") (hm : X.mg "enumerate" = none) (ha : L2.PE X a (tE cA fz M W ma)) (hs : starEach [a] X.env = [(false, eval a X.env)]) : L2.PI X (.Tuple elts kk tpos) (.Call (.Name "enumerate" p) [a] [] pos) (tI cA fz M W (.enum ma)) :=
  PI.imp (L2.pi_enum hg hm (L2.pa_cons ha L2.pa_nil hs) hs) fun σ H R h => by
    obtain ⟨ρ, env, h, rh, re, g⟩ := tI.out h
    refine ⟨ρ, env, h, rh, re, GoodI.bind (f := fun x h => MP.R.of ((walkL x h).map fun p => (enumW p.1, p.2)) h) (by simp only [walk] at g; exact g) fun w h1 ρ1 v H1 e x rh1 rv g1 => ?_⟩
    obtain ⟨q, e, g1⟩ := g1.of
    cases w with
    | ref n =>
      have e : (walkO n (rd h1 n)).map (fun p => (enumW p.1, p.2)) = some q := e
      unfold walkO at e
      split at e
      · rename_i xs e1
        cases e
        obtain ⟨a, rfl, ha⟩ := rv
        obtain ⟨a', ha', vs, rr, z⟩ := rh1.get e1
        rw [ha] at ha'; cases ha'
        exact ⟨a, vs, rfl, z.seqL, g1 ρ1 _ H1 .refl rh1 (wk_enum ha e1 X.K) (fun m hm => by rw [List.mem_singleton.mp hm]; exact ix_lt e1)⟩
      · cases e
    | _ => cases e
theorem i_rev (hg : L2.Gl X "reversed") (hm : X.mg "reversed" = none) (ha : L2.PE X a (tE cA fz M W ma)) (hs : starEach [a] X.env = (false, eval a X.env) :: starEach [] X.env) : L2.PI X tg (.Call (.Name "reversed" p) [a] [] pos) (tI cA fz M W (.rev ma)) :=
  PI.imp (RT.pi_revA hg hm ha hs) fun σ H R h => by
    obtain ⟨ρ, env, h, rh, re, g⟩ := tI.out h
    refine ⟨ρ, env, h, rh, re, GoodI.bind (f := fun x h => MP.R.of ((walkL x h).map fun p => (p.1.reverse, p.2)) h) (by simp only [walk] at g; exact g) fun w h1 ρ1 v H1 e x rh1 rv g1 => ?_⟩
    obtain ⟨q, e, g1⟩ := g1.of
    cases w with
    | ref n =>
      have e : (walkO n (rd h1 n)).map (fun p => (p.1.reverse, p.2)) = some q := e
      unfold walkO at e
      split at e
      · rename_i xs e1
        cases e
        obtain ⟨a, rfl, ha⟩ := rv
        obtain ⟨a', ha', vs, rr, z⟩ := rh1.get e1
        rw [ha] at ha'; cases ha'
        exact ⟨a, vs, rfl, .inl ⟨z.seqL, g1 ρ1 _ H1 .refl rh1 (wk_rev ha e1 rr.length X.K) (fun m hm => by rw [List.mem_singleton.mp hm]; exact ix_lt e1)⟩⟩
      · cases e
    | _ => cases e
theorem i_zip (hg : L2.Gl X "zip") (hm : X.mg "zip" = none) (ha : L2.PE X a (tE cA fz M W ma)) (hb : L2.PE X b (tE cA fz M W mb)) (hs : starEach [a, b] X.env = (false, eval a X.env) :: starEach [b] X.env) (hs2 : starEach [b] X.env = [(false, eval b X.env)]) :
    L2.PI X (.Tuple elts kk tpos) (.Call (.Name "zip" p) [a, b] [] pos) (tI cA fz M W (.zip ma mb)) :=
  PI.imp (RZ.pi_zipA hg hm (L2.pa_cons ha (L2.pa_cons hb L2.pa_nil hs2) hs) hs (by rw [hs2]; rfl)) fun σ H R h => by
    obtain ⟨ρ, env, h, rh, re, g⟩ := tI.out h
    refine ⟨ρ, env, h, rh, re, GoodI.bind (f := fun x h => (ev M mb env h).bind fun y h => MP.R.of ((walk2 x y h).map fun p => ((p.1.1.zip p.2.1).map fun z => .tup [z.1, z.2], p.1.2 ++ p.2.2)) h) (by simp only [walk] at g; exact g) fun w h1 ρ1 v H1 e x rh1 rv g1 => ?_⟩
    refine ⟨ρ1, env, h1, rh1, re.ext x, GoodI.bind g1 fun u h2 ρ2 t H2 e x2 rh2 rt g2 => ?_⟩
    obtain ⟨q, e, g2⟩ := g2.of
    have rv := rv.ext x2
    cases w with
    | tup xs =>
      cases u with
      | tup ys =>
        cases e
        obtain ⟨a, vs, rfl, hv, rr⟩ := rv
        obtain ⟨b, us, rfl, hu, ru⟩ := rt
        exact ⟨a, b, vs, us, rfl, .inr ⟨.of hv, .of hu, g2 ρ2 _ H2 .refl rh2 (wk_zipT hv rr hu ru X.K) (fun m hm => by cases hm)⟩⟩
      | _ => cases e
    | ref n =>
      cases u with
      | ref m =>
        have e : ((walkO n (rd h2 n)).bind fun p => (walkO m (rd h2 m)).map fun q => (p, q)).map (fun p => ((p.1.1.zip p.2.1).map fun z => MP.W.tup [z.1, z.2], p.1.2 ++ p.2.2)) = some q := e
        unfold walkO at e
        split at e
        · rename_i xs e1
          split at e
          · rename_i ys e2
            cases e
            obtain ⟨a, rfl, ha⟩ := rv
            obtain ⟨a', ha', vs, rr, z⟩ := rh2.get e1
            rw [ha] at ha'; cases ha'
            obtain ⟨b, rfl, hb⟩ := rt
            obtain ⟨b', hb', us, ru, z2⟩ := rh2.get e2
            rw [hb] at hb'; cases hb'
            exact ⟨a, b, vs, us, rfl, .inl ⟨z.seqL, z2.seqL, g2 ρ2 _ H2 .refl rh2 (wk_zip ha e1 hb e2 X.K) (fun k hk => by
              rcases List.mem_append.mp hk with hk | hk
              · rw [List.mem_singleton.mp hk]; exact ix_lt e1
              · rw [List.mem_singleton.mp hk]; exact ix_lt e2)⟩⟩
          · cases e
        · cases e
      | _ => cases e
    | _ => cases e
end
end MP

namespace MP
open PySem PySem.Spec PyProof.Rows
/-! ### the turns of a loop, of a comprehension, wherever the walk came from -/
section
variable {cA : CA} {fz : List Nat} {M : Cx} {W : L2.WX} {X : L2.Cx} {pos p2 p tpos : Pos} {a b c tg : Expr} {ma mb mc : Ex} {ρ ρ' : List Addr} {H H' : HH} {h h' : Hp}
theorem for_turns {mt : Tg} {mb : List St} {as : List Nat} {ws : List MP.W} {J : L2.It} {σ : L2.St} {env : Env} {D : L2.Ends} (hk : CK M) (rh0 : RH cA ρ' (· ∈ fz) h' H') (wk : Wk cA fz as ρ' H' h' ws J) (re : RE ρ' H' env σ)
    (g : GoodS cA fz (forL (turnOf mt fun env h => exs (M.lock as) mb env h) ws env h') ρ' H' D W) :
    ∃ Wn : Nat → Nat → L2.St → HH → Prop, (∃ m, Wn 0 m σ H') ∧ ∀ i m σ H, Wn i m σ H →
      (J.stop i H ∧ D.nx σ H) ∨ (J.go i H ∧ ∃ N : L2.St → HH → Prop, (∀ σ' H', N σ' H' → ∃ m', m' < m ∧ Wn (i + 1) m' σ' H') ∧ ∀ x H', J.yld i H x H' → gT cA fz mt x σ H' fun σ2 H2 => tXs cA fz (M.lock as) W mb { D with nx := N, ct := N, bk := D.nx } σ2 H2) := by
  refine ⟨fun i m σ H => m = ws.length - i ∧ i ≤ ws.length ∧ ∃ ρ1 env h1, Ext ρ' ρ1 H' H ∧ Kp as h' h1 ∧ RH cA ρ1 (· ∈ fz) h1 H ∧ RE ρ1 H env σ ∧ GoodS cA fz (forL (turnOf mt fun env h => exs (M.lock as) mb env h) (ws.drop i) env h1) ρ1 H D W,
    ⟨_, rfl, Nat.zero_le _, ρ', env, h', .refl, .refl, rh0, re, g⟩, fun i m σ H ⟨em, hi', ρ1, env, h1, x1, kp1, rh1, re1, g1⟩ => ?_⟩
  obtain ⟨w1, w2⟩ := wk i ρ1 h1 H x1 kp1 rh1
  by_cases hl : ws.length ≤ i
  · rw [List.drop_of_length_le hl] at g1
    exact .inl ⟨w1 hl, g1.nx rh1 re1⟩
  · have hlt : i < ws.length := Nat.lt_of_not_le hl
    rw [List.drop_eq_getElem_cons hlt] at g1
    obtain ⟨go, yl⟩ := w2 ws[i] (List.getElem?_eq_getElem hlt)
    refine .inr ⟨go, fun σ' H2 => ∃ ρ2 env h2, Ext ρ' ρ2 H' H2 ∧ Kp as h' h2 ∧ RH cA ρ2 (· ∈ fz) h2 H2 ∧ RE ρ2 H2 env σ' ∧ GoodS cA fz (forL (turnOf mt fun env h => exs (M.lock as) mb env h) (ws.drop (i + 1)) env h2) ρ2 H2 D W,
      fun σ' H2 q => ⟨_, by omega, rfl, by omega, q⟩, fun v H2 y => ?_⟩
    obtain ⟨x2, rh2, rv⟩ := yl v H2 y
    have g1 : GoodS cA fz ((thenS (bindTg mt ws[i] env h1) fun env => exs (M.lock as) mb env h1).turn fun env h => forL (turnOf mt fun env h => exs (M.lock as) mb env h) (ws.drop (i + 1)) env h) ρ1 H D W := g1
    cases hbt : bindTg mt ws[i] env h1 with
    | none => rw [hbt] at g1; exact g1.elim
    | some env' =>
      rw [hbt] at g1
      refine ⟨ρ1, env, h1, _, env', rh2, re1.ext x2, rv, hbt, fun σ2 re2 _ => ⟨ρ1, env', h1, rh2, re2, ?_⟩⟩
      have kk : SK as h1 (exs (M.lock as) mb env' h1) := (sk_exs mb (M.lock as) hk env' h1).less fun n hn => List.mem_append_left _ hn
      have g2 := (GoodS.turn (r := exs (M.lock as) mb env' h1) g1 kk).ext x2
      have go2 : ∀ σ' H', (∃ ρ2 env h, Ext ρ1 ρ2 H H' ∧ Kp as h1 h ∧ RH cA ρ2 (· ∈ fz) h H' ∧ RE ρ2 H' env σ' ∧ GoodS cA fz (forL (turnOf mt fun env h => exs (M.lock as) mb env h) (ws.drop (i + 1)) env h) ρ2 H' D W) → _ := fun σ' H' ⟨ρ2, env, h, xx, kk2, q⟩ => (⟨ρ2, env, h, x1.trans xx, kp1.trans kk2, q⟩ : ∃ ρ2 env h2, Ext ρ' ρ2 _ H' ∧ Kp as h' h2 ∧ RH cA ρ2 (· ∈ fz) h2 H' ∧ RE ρ2 H' env σ' ∧ GoodS cA fz (forL (turnOf mt fun env h => exs (M.lock as) mb env h) (ws.drop (i + 1)) env h2) ρ2 H' D W)
      exact GoodS.imp g2 go2 (fun _ _ q => q) (fun _ _ q => q) go2

theorem comp_turns {own : List Nat} {me : Ex} {mt : Tg} {mo : Option Ex} {as : List Nat} {ws : List MP.W} {J : L2.It} {σ : L2.St} {env : Env} {Q : L2.VK} {E : L2.XK} {D : Addr} (hk : CK M) (htg : ∀ i ∈ tgIx mt, i ∈ own) (rh0 : RH cA ρ' (· ∈ fz) h' H') (wk : Wk cA fz as ρ' H' h' ws J) (re : RE ρ' H' env σ) (hD : H' D = none)
    (g : Good cA fz RW ((compL (turnOfC (M.lock as) (wipe env own) mt me mo) ws [] h').bind fun ys h => mk (.lst ys) h) ρ' H' Q E) :
    ∃ W : Nat → Nat → HH → Prop, (∃ m, W 0 m (L2.upd H' D (.lst []))) ∧ ∀ i m H, W i m H →
      (J.stop i H ∧ Q (.ref D) H) ∨ (J.go i H ∧ ∃ Nx : HH → Prop, (∀ H', Nx H' → ∃ m', m' < m ∧ W (i + 1) m' H') ∧ ∀ x H', J.yld i H x H' → gT cA fz mt x (L2.wipe σ own) H' fun σ2 H2 => L2.wipe σ2 own = L2.wipe σ own ∧ tC cA fz (M.lock as) mo σ2 H2 fun b H3 =>
        if b = true then tE cA fz (M.lock as) W0 me σ2 H3 fun y H4 => ∃ acc, H4 D = some (.lst acc) ∧ acc.length < sizeLine ∧ Nx (L2.upd H4 D (.lst (acc ++ [y]))) else Nx H3) := by
  have nD := rh0.fresh hD
  generalize hf : turnOfC (M.lock as) (wipe env own) mt me mo = f at g
  have kf : ∀ x h, RK as h (f x h) := fun x h => by
    subst hf
    cases mo with
    | none =>
      simp only [turnOfC, turnC]
      exact RK.thenO fun e => RK.bind ((rk_ev me (M.lock as) hk e h).less fun n hn => List.mem_append_left _ hn) fun _ _ => RK.ok
    | some c =>
      simp only [turnOfC, turnC]
      exact RK.thenO fun e => RK.bind ((rk_ev c (M.lock as) hk e h).less fun n hn => List.mem_append_left _ hn) fun _ _ => RK.thenO fun _ => RK.ite (RK.bind ((rk_ev me (M.lock as) hk e _).less fun n hn => List.mem_append_left _ hn) fun _ _ => RK.ok) RK.ok
  refine ⟨fun i m H1 => m = ws.length - i ∧ i ≤ ws.length ∧ ∃ ρ1 h1 acc vs, D ∉ ρ1 ∧ H1 D = some (.lst vs) ∧ RWs ρ1 H1 acc vs ∧ Ext ρ' ρ1 H' H1 ∧ Kp as h' h1 ∧ RH cA ρ1 (· ∈ fz) h1 H1 ∧
    Good cA fz RW ((compL f (ws.drop i) acc h1).bind fun ys h => mk (.lst ys) h) ρ' H' Q E, ⟨_, rfl, Nat.zero_le _, ρ', h', [], [], nD, L2.upd_same, rfl, (rh0.side hD).1, .refl, (rh0.side hD).2, g⟩,
    fun i m H1 ⟨em, hi', ρ1, h1, acc, vs, nD1, hD1, ra, x1, kp1, rh1, g1⟩ => ?_⟩
  obtain ⟨w1, w2⟩ := wk i ρ1 h1 H1 x1 kp1 rh1
  by_cases hl : ws.length ≤ i
  · rw [List.drop_of_length_le hl] at g1
    refine .inl ⟨w1 hl, ?_⟩
    obtain ⟨rh2, hl2⟩ := rh1.adopt (o := .lst acc) nD1 ⟨vs, ra.ext0 ⟨List.prefix_append _ _, fun _ _ e => e⟩, .inl hD1⟩
    refine g1 (ρ1 ++ [D]) _ H1 ⟨x1.pre.trans (List.prefix_append _ _), x1.tup, x1.frz, x1.dom, fun t ht => ?_, x1.keep⟩ rh2 ⟨D, rfl, hl2⟩
    rcases List.mem_append.mp ht with ht | ht
    · exact x1.new t ht
    · rw [List.mem_singleton.mp ht]; exact .inr hD
  · have hlt : i < ws.length := Nat.lt_of_not_le hl
    rw [List.drop_eq_getElem_cons hlt] at g1
    obtain ⟨go, yl⟩ := w2 ws[i] (List.getElem?_eq_getElem hlt)
    have g1 : Good cA fz RW (((f ws[i] h1).calm.bind fun o h => guardR (decide (acc.length < LINE)) (compL f (ws.drop (i + 1)) (acc ++ o.toList) h)).bind fun ys h => mk (.lst ys) h) ρ' H' Q E := g1
    -- what a turn is to reach
    refine .inr ⟨go, fun H2 => ∃ ρ2 h2 acc vs, D ∉ ρ2 ∧ H2 D = some (.lst vs) ∧ RWs ρ2 H2 acc vs ∧ Ext ρ' ρ2 H' H2 ∧ Kp as h' h2 ∧ RH cA ρ2 (· ∈ fz) h2 H2 ∧
      Good cA fz RW ((compL f (ws.drop (i + 1)) acc h2).bind fun ys h => mk (.lst ys) h) ρ' H' Q E, fun H2 q => ⟨_, by omega, rfl, by omega, q⟩, fun v H2 y => ?_⟩
    obtain ⟨x2, rh2, rv⟩ := yl v H2 y
    have hD2 : H2 D = some (.lst vs) := x2.keep D _ nD1 hD1
    -- behind the item's evaluation
    have item : ∀ {w : MP.W} {h3 : Hp} {ρ3 : List Addr} {H3 : HH} {u : Vv}, Ext ρ1 ρ3 H2 H3 → Kp as h1 h3 → RH cA ρ3 (· ∈ fz) h3 H3 → RW ρ3 H3 w u → f ws[i] h1 = .ok (some w) h3 → ∃ acc', H3 D = some (.lst acc') ∧ acc'.length < sizeLine ∧
        ∃ ρ2 h2 acc vs, D ∉ ρ2 ∧ L2.upd H3 D (.lst (acc' ++ [u])) D = some (.lst vs) ∧ RWs ρ2 (L2.upd H3 D (.lst (acc' ++ [u]))) acc vs ∧ Ext ρ' ρ2 H' (L2.upd H3 D (.lst (acc' ++ [u]))) ∧ Kp as h' h2 ∧ RH cA ρ2 (· ∈ fz) h2 (L2.upd H3 D (.lst (acc' ++ [u]))) ∧
          Good cA fz RW ((compL f (ws.drop (i + 1)) acc h2).bind fun ys h => mk (.lst ys) h) ρ' H' Q E := fun {w h3 ρ3 H3 u} x3 k3 rh3 ru ef => by
      rw [ef] at g1
      obtain ⟨el, g2⟩ := Good.guardB (r := compL f (ws.drop (i + 1)) (acc ++ [w]) h3) (b := decide (acc.length < LINE)) g1
      have hD3 : H3 D = some (.lst vs) := x3.keep D _ nD1 hD2
      have nD3 : D ∉ ρ3 := fun hm => (x3.new D hm).elim nD1 fun z => by rw [hD2] at z; cases z
      have e0 : Ex0 ρ3 ρ3 H3 (L2.upd H3 D (.lst (vs ++ [u]))) := ⟨List.prefix_refl _, fun t us z => by rw [L2.upd_ne fun q => by rw [q, hD3] at z; cases z]; exact z⟩
      have xx := (x1.trans x2).trans x3
      refine ⟨vs, hD3, ?_, ρ3, h3, acc ++ [w], vs ++ [u], nD3, L2.upd_same, ((ra.ext (x2.trans x3)).ext0 e0).append ⟨u, [], rfl, ru.ext0 e0, rfl⟩, ⟨xx.pre, fun t us z => e0.tup t us (xx.tup t us z), fun t o us z => ?_, fun t z => xx.dom t (dom_upd t z), xx.new, fun t us nt z => ?_⟩, kp1.trans k3,
        rh3.keep0 e0 fun t ht => L2.upd_ne fun q => nD3 (q ▸ ht), g2⟩
      · rw [← ra.length]; exact Nat.lt_of_lt_of_le (of_decide_eq_true el) line_le
      · have q := xx.frz t o us z
        rw [L2.upd_ne fun q2 => by rw [q2, hD3] at q; cases q]; exact q
      · rw [L2.upd_ne fun q2 => by rw [q2, hD] at z; cases z]; exact xx.keep t us nt z
    have none' : ∀ {h3 : Hp} {ρ3 : List Addr} {H3 : HH}, Ext ρ1 ρ3 H2 H3 → Kp as h1 h3 → RH cA ρ3 (· ∈ fz) h3 H3 → f ws[i] h1 = .ok none h3 → ∃ ρ2 h2 acc vs, D ∉ ρ2 ∧ H3 D = some (.lst vs) ∧ RWs ρ2 H3 acc vs ∧ Ext ρ' ρ2 H' H3 ∧ Kp as h' h2 ∧ RH cA ρ2 (· ∈ fz) h2 H3 ∧
          Good cA fz RW ((compL f (ws.drop (i + 1)) acc h2).bind fun ys h => mk (.lst ys) h) ρ' H' Q E := fun {h3 ρ3 H3} x3 k3 rh3 ef => by
      rw [ef] at g1
      obtain ⟨el, g2⟩ := Good.guardB (r := compL f (ws.drop (i + 1)) (acc ++ []) h3) (b := decide (acc.length < LINE)) g1
      rw [List.append_nil] at g2
      exact ⟨ρ3, h3, acc, vs, (fun hm => (x3.new D hm).elim nD1 fun z => by rw [hD2] at z; cases z), x3.keep D _ nD1 hD2, ra.ext (x2.trans x3), (x1.trans x2).trans x3, kp1.trans k3, rh3, g2⟩
    have kk := kf ws[i] h1
    have re1 : RE ρ1 H2 (wipe env own) (L2.wipe σ own) := ((re.ext x1).ext x2).wipe _
    subst hf
    cases hbt : bindTg mt ws[i] (wipe env own) h1 with
    | none => cases mo <;> (simp only [turnOfC, turnC, hbt] at g1; exact g1.elim)
    | some env' =>
      refine ⟨ρ1, _, h1, _, env', rh2, re1, rv, hbt, fun σ2 re2 sb => ⟨(sb _ htg).trans (comp_core.wipe_wipe σ _), ?_⟩⟩
      cases mo with
      | none =>
        have ef : turnOfC (M.lock as) (wipe env own) mt me none ws[i] h1 = (ev (M.lock as) me env' h1).bind fun y h => .ok (some y) h := by
          simp only [turnOfC, turnC, hbt]; rfl
        refine tC_none.mpr ?_
        simp only [if_true]
        refine ⟨ρ1, env', h1, rh2, re2, ?_⟩
        rw [ef] at g1 kk item
        cases hr : ev (M.lock as) me env' h1 with
        | bad => rw [hr] at g1; exact g1.elim
        | exc z h3 => rw [hr] at g1; exact g1.elim
        | ok w h3 =>
          rw [hr] at item kk
          exact fun ρ3 u H3 x3 rh3 ru => item x3 kk rh3 ru rfl
      | some c0 =>
        have ef : turnOfC (M.lock as) (wipe env own) mt me (some c0) ws[i] h1 = (ev (M.lock as) c0 env' h1).bind fun b h => thenO (asBool b) fun b => if b then (ev (M.lock as) me env' h).bind fun y h => .ok (some y) h else .ok none h := by
          simp only [turnOfC, turnC, hbt]; rfl
        rw [ef] at g1 item none'
        have kc : RK as h1 (ev (M.lock as) c0 env' h1) := (rk_ev c0 (M.lock as) hk env' h1).less fun n hn => List.mem_append_left _ hn
        refine ⟨ρ1, env', h1, rh2, re2, ?_⟩
        cases hr : ev (M.lock as) c0 env' h1 with
        | bad => rw [hr] at g1; exact g1.elim
        | exc z h3 => rw [hr] at g1; exact g1.elim
        | ok w h3 =>
          rw [hr] at item none' kc g1
          intro ρ3 u H3 x3 rh3 ru
          simp only [R.bind_ok] at item none' g1
          cases hb : asBool w with
          | none => rw [hb] at g1; exact g1.elim
          | some k =>
            rw [hb] at item none' g1
            refine ⟨k, asBool_ok hb ru, ?_⟩
            simp only [thenO_some] at item none' g1
            cases k with
            | false => exact none' x3 kc rh3 rfl
            | true =>
              simp only [if_true] at item g1
              have ke : RK as h3 (ev (M.lock as) me env' h3) := (rk_ev me (M.lock as) hk env' h3).less fun n hn => List.mem_append_left _ hn
              refine ⟨ρ3, env', h3, rh3, re2.ext x3, ?_⟩
              cases hr2 : ev (M.lock as) me env' h3 with
              | bad => rw [hr2] at g1; exact g1.elim
              | exc z h4 => rw [hr2] at g1; exact g1.elim
              | ok w2 h4 =>
                rw [hr2] at item ke
                exact fun ρ4 u2 H4 x4 rh4 ru2 => item (x3.trans x4) (kc.trans ke) rh4 ru2 rfl

end
/-! ### a dict is locked while it is walked -/
abbrev NF (X : L2.Cx) (d : Addr) : Prop := ∀ o' u', X.H_0 d ≠ some (.frz o' u')
section
variable {cA : CA} {fz : List Nat} {M : Cx} {W : L2.WX} {X : L2.Cx} {ρ ρ' : List Addr} {H H' : HH} {h h' : Hp} {n : Nat} {d : Addr} {ks : List (KEY × Vv)} {od : Obj} {D : L2.Ends}
/-- a dict that may be locked: with these keys -/
def Open (H : HH) (d : Addr) (ks : List (KEY × Vv)) : Prop := H d = some (.dK ks) ∨ (H d = some (.dT []) ∧ ks = [])
def tLV (X : L2.Cx) (te : L2.TE) : L2.TE := fun σ H Q => te σ H fun x H1 => ∃ d ks, x = .ref d ∧ ((∃ od, H1 d = some (.frz od (.dK ks)) ∧ Q x H1) ∨ (Open H1 d ks ∧ ∀ od, NF X d → Q x (L2.upd H1 d (.frz od (.dK ks)))))
theorem Open.mut (o : Open H d ks) : L2.Mut (H d) := by
  rcases o with e | ⟨e, _⟩
  · rw [e]; trivial
  · rw [e]; trivial
theorem Open.nf {pins : List (Addr × Obj)} {s : Shared} {σ : L2.St} (o : Open H d ks) (I : L2.Inv X pins σ H s) : NF X d := by
  rcases o with e | ⟨e, _⟩
  · exact I.nofrz e trivial
  · exact I.nofrz e trivial
theorem Open.lock {pins : List (Addr × Obj)} {s : Shared} {σ : L2.St} (o : Open H d ks) (I : L2.Inv X pins σ H s) : ∃ od, L2.Inv X pins σ (L2.upd H d (.frz od (.dK ks))) s := by
  rcases o with e | ⟨e, rfl⟩
  · exact I.lock e trivial
  · obtain ⟨hd, d1, d2⟩ := dk0 I (.inr (.inl e))
    obtain ⟨o, es, ep, g1, _⟩ := d1
    have d1 : s.heap.DictOf (L2.mixKind X.prog X.w) d ([] : List (KEY × Value)) := (dk0 I (.inr (.inl e))).2.1
    refine ⟨o, I.write (x := d) (e := d) (t' := s.toks) (h' := s.heap) (by rw [e]; trivial) (.inl rfl) (fun b v _ q => q) ⟨o, g1⟩ ?_⟩
    exact ⟨g1, Nat.zero_le _, hd, [], .nil, d1⟩
theorem pe_LV {e : Expr} {t : L2.TE} (he : L2.PE X e t) : L2.PE X e (tLV X t) := by
  refine ⟨fun pins s σ H Q I hw => L2.thn (he.run pins s σ H _ I hw) fun v s1 ⟨x, H1, I1, r, q⟩ => ?_⟩
  obtain ⟨d, ks, ex, q⟩ := q
  rcases q with ⟨od, e, q⟩ | ⟨o, q⟩
  · exact ⟨x, H1, I1, r, q⟩
  · obtain ⟨od, I2⟩ := o.lock I1
    exact ⟨x, _, I2, r, q od (o.nf I1)⟩
def Un (X : L2.Cx) (P : HH → Prop) : HH → Prop := fun H => P H ∨ ∃ d od ks, H d = some (.frz od (.dK ks)) ∧ NF X d ∧ P (L2.upd H d (.dK ks))
theorem un_ok {pins : List (Addr × Obj)} {s : Shared} {σ : L2.St} {P : HH → Prop} (I : L2.Inv X pins σ H s) (q : Un X P H) : ∃ H', L2.Inv X pins σ H' s ∧ P H' := by
  rcases q with q | ⟨d, od, ks, e, nf, q⟩
  · exact ⟨H, I, q⟩
  · exact ⟨_, I.unlock e nf, q⟩
def UnD (X : L2.Cx) (D : L2.Ends) : L2.Ends := ⟨fun σ => Un X (D.nx σ), fun v => Un X (D.rt v), fun σ => Un X (D.bk σ), fun σ => Un X (D.ct σ)⟩
theorem ps_Un {st : Stmt} {t : L2.TS} (hs : L2.PS X st t) : L2.PS X st (fun D σ H => t (UnD X D) σ H) := by
  refine ⟨fun pins s σ H D I hw => L2.thn (hs.run pins s σ H _ I hw) fun f s1 q => ?_⟩
  cases f with
  | next => obtain ⟨σ', H', I2, q⟩ := q; obtain ⟨H2, I3, q⟩ := un_ok I2 q; exact ⟨σ', H2, I3, q⟩
  | brk => obtain ⟨σ', H', I2, q⟩ := q; obtain ⟨H2, I3, q⟩ := un_ok I2 q; exact ⟨σ', H2, I3, q⟩
  | cont => obtain ⟨σ', H', I2, q⟩ := q; obtain ⟨H2, I3, q⟩ := un_ok I2 q; exact ⟨σ', H2, I3, q⟩
  | ret v => obtain ⟨x, σ', H', I2, r, q⟩ := q; obtain ⟨H2, I3, q⟩ := un_ok I2 q; exact ⟨x, σ', H2, I3, r, q⟩
theorem pe_Un {e : Expr} {t : L2.TE} (he : L2.PE X e t) : L2.PE X e (fun σ H Q => t σ H fun v => Un X (Q v)) := by
  refine ⟨fun pins s σ H Q I hw => L2.thn (he.run pins s σ H _ I hw) fun v s1 ⟨x, H1, I1, r, q⟩ => ?_⟩
  obtain ⟨H2, I3, q⟩ := un_ok I1 q
  exact ⟨x, H2, I3, r, q⟩
theorem upd_upd {u v : HO} : L2.upd (L2.upd H d u) d v = L2.upd H d v := by
  funext t
  by_cases e : t = d
  · subst e; rw [L2.upd_same, L2.upd_same]
  · rw [L2.upd_ne e, L2.upd_ne e, L2.upd_ne e]
/-- locking is an extension -/
theorem Open.ext (o : Open H d ks) (hn : ρ[n]? = some d) : Ext ρ ρ H (L2.upd H d (.frz od (.dK ks))) := by
  have ne : ∀ {t u}, H t = some u → (∀ k, u ≠ .dK k) → (∀ k, u ≠ .dT k) → t ≠ d := fun e q1 q2 z => by
    rw [z] at e
    rcases o with o | ⟨o, _⟩
    · rw [o] at e; cases e; exact q1 _ rfl
    · rw [o] at e; cases e; exact q2 _ rfl
  exact ⟨List.prefix_refl _, fun t vs z => by rw [L2.upd_ne (ne z (fun _ q => nomatch q) fun _ q => nomatch q)]; exact z, fun t o u z => by rw [L2.upd_ne (ne z (fun _ q => nomatch q) fun _ q => nomatch q)]; exact z, dom_upd, fun t h => .inl h,
    fun t u h z => by rw [L2.upd_ne fun q => h (by rw [q]; exact List.mem_of_getElem? hn)]; exact z⟩
/-- .. and what goes on from there, unlocked, is one of what was there -/
theorem Open.back (o : Open H d ks) (hn : ρ[n]? = some d) (x : Ext ρ ρ' (L2.upd H d (.frz od (.dK ks))) H') : Ext ρ ρ' H (L2.upd H' d (.dK ks)) := by
  have ne : ∀ {t u}, H t = some u → (∀ k, u ≠ .dK k) → (∀ k, u ≠ .dT k) → t ≠ d := fun e q1 q2 z => by
    rw [z] at e
    rcases o with o | ⟨o, _⟩
    · rw [o] at e; cases e; exact q1 _ rfl
    · rw [o] at e; cases e; exact q2 _ rfl
  refine ⟨x.pre, fun t vs z => ?_, fun t o u z => ?_, fun t z => ?_, fun t h => (x.new t h).imp id fun z => dom_upd t z, fun t u h z => ?_⟩
  · have q := ne z (fun _ q => nomatch q) fun _ q => nomatch q
    rw [L2.upd_ne q]; exact x.tup t vs (by rw [L2.upd_ne q]; exact z)
  · have q := ne z (fun _ q => nomatch q) fun _ q => nomatch q
    rw [L2.upd_ne q]; exact x.frz t o u (by rw [L2.upd_ne q]; exact z)
  · exact dom_upd t (x.dom t (dom_upd t z))
  · have q : t ≠ d := fun q => h (by rw [q]; exact List.mem_of_getElem? hn)
    rw [L2.upd_ne q]; exact x.keep t u h (by rw [L2.upd_ne q]; exact z)
theorem RH.lockD {L L' : Nat → Prop} {kvs : List (MP.W × MP.W)} (rh : RH cA ρ L h H) (o : Open H d ks) (hn : ρ[n]? = some d) (e : rd h n = some (.dct kvs)) (r : RPs flatK ρ H kvs ks) (nd : (ks.map (·.1)).Nodup) (hL : ∀ m, L m → L' m) (hm : L' n) : RH cA ρ L' h (L2.upd H d (.frz od (.dK ks))) := by
  have x := o.ext (od := od) hn
  refine ⟨rh.len, rh.nd, fun m o' b e1 e2 => ?_⟩
  by_cases q : m = n
  · subst q
    rw [hn] at e2; cases e2
    have e : h[m]? = some (.dct kvs) := e
    rw [e] at e1; cases e1
    exact .inl ⟨ks, r.ext x, nd, .inr ⟨hm, od, L2.upd_same⟩⟩
  · have : b ≠ d := fun z => q ((List.getElem?_inj (ix_lt hn) rh.nd).mp (hn.trans (z ▸ e2.symm))).symm
    exact (rh.at_ m o' b e1 e2).ext x (L2.upd_ne this) (hL m)
theorem RH.unlockD {u : HO} (rh : RH cA ρ (· ∈ n :: fz) h H) (hn : ρ[n]? = some d) (e : H d = some (.frz od u)) : RH cA ρ (· ∈ fz) h (L2.upd H d u) := by
  have x : Ex0 ρ ρ H (L2.upd H d u) := ⟨List.prefix_refl _, fun t vs z => by rw [L2.upd_ne fun q => by rw [q, e] at z; cases z]; exact z⟩
  refine ⟨rh.len, rh.nd, fun m o' b e1 e2 => ?_⟩
  by_cases q : m = n
  · subst q
    rw [hn] at e2; cases e2
    have ro := rh.at_ m o' d e1 hn
    have at1 : ∀ {P : Prop} {u'}, (∀ o v, u' ≠ .frz o v) → At H P d u' → P ∧ u = u' := fun hu z => by
      rcases z with z | ⟨p, od', z⟩
      · rw [e] at z; cases z; exact (hu _ _ rfl).elim
      · rw [e] at z; cases z; exact ⟨p, rfl⟩
    cases o' with
    | lst xs =>
      obtain ⟨vs, r, z⟩ := ro
      obtain ⟨_, rfl⟩ := at1 (u' := .lst vs) (fun _ _ z => nomatch z) z
      exact ⟨vs, r.ext0 x, .inl L2.upd_same⟩
    | dct kvs =>
      rcases ro with ⟨ks, r, nd, z⟩ | ⟨ks, r, nd, z⟩
      · obtain ⟨_, rfl⟩ := at1 (u' := .dK ks) (fun _ _ z => nomatch z) z
        exact .inl ⟨ks, RPs.ext0 x r, nd, .inl L2.upd_same⟩
      · exact (at1 (u' := .dT ks) (fun _ _ z => nomatch z) z).1.elim
    | ins c fs =>
      obtain ⟨dx, gs, _, z, _⟩ := ro
      rw [e] at z; cases z
  · have : b ≠ d := fun z => q ((List.getElem?_inj (ix_lt hn) rh.nd).mp (hn.trans (z ▸ e2.symm))).symm
    exact (rh.at_ m o' b e1 e2).ext0 x (L2.upd_ne this) fun hm => (List.mem_cons.mp hm).resolve_left q
theorem GoodS.lockD {r : S} (g : GoodS cA fz r ρ H D W) (o : Open H d ks) (hn : ρ[n]? = some d) (nf : NF X d) : GoodS cA (n :: fz) r ρ (L2.upd H d (.frz od (.dK ks))) (UnD X D) W := by
  cases r with
  | bad => exact g
  | exc y env h => exact fun ρ' c d σ' H' e => g ρ' c d σ' H' ((o.ext hn).trans e)
  | ok f h' =>
    intro ρ' σ' H' x rh
    have e : H' d = some (.frz od (.dK ks)) := x.frz _ _ _ L2.upd_same
    have rh' := rh.unlockD (x.ix hn) e
    have xu : Ex0 ρ' ρ' H' (L2.upd H' d (.dK ks)) := ⟨List.prefix_refl _, fun t vs z => by rw [L2.upd_ne fun q => by rw [q, e] at z; cases z]; exact z⟩
    have q := g ρ' σ' (L2.upd H' d (.dK ks)) (o.back hn x) rh'
    cases f with
    | nx env => exact fun re => .inr ⟨d, od, ks, e, nf, q (RE.ext0 xu re)⟩
    | bk env => exact fun re => .inr ⟨d, od, ks, e, nf, q (RE.ext0 xu re)⟩
    | ct env => exact fun re => .inr ⟨d, od, ks, e, nf, q (RE.ext0 xu re)⟩
    | rt w => exact fun v rv => .inr ⟨d, od, ks, e, nf, q v (RW.ext0 xu rv)⟩
theorem Good.lockD {r : MP.R MP.W} {Q : Vv → HH → Prop} {E : L2.XK} (g : Good cA fz RW r ρ H Q E) (o : Open H d ks) (hn : ρ[n]? = some d) (nf : NF X d) : Good cA (n :: fz) RW r ρ (L2.upd H d (.frz od (.dK ks))) (fun v => Un X (Q v)) E := by
  cases r with
  | bad => exact g
  | exc y h => exact fun ρ' c d H' e => g ρ' c d H' ((o.ext hn).trans e)
  | ok w h' =>
    intro ρ' v H' x rh rv
    have e : H' d = some (.frz od (.dK ks)) := x.frz _ _ _ L2.upd_same
    have rh' := rh.unlockD (x.ix hn) e
    have xu : Ex0 ρ' ρ' H' (L2.upd H' d (.dK ks)) := ⟨List.prefix_refl _, fun t vs z => by rw [L2.upd_ne fun q => by rw [q, e] at z; cases z]; exact z⟩
    exact .inr ⟨d, od, ks, e, nf, g ρ' v _ (o.back hn x) rh' (RW.ext0 xu rv)⟩
/-- what may be locked besides does no harm -/
theorem GoodS.moreD {r : S} (g : GoodS cA fz r ρ H D W) (hn : n ∈ fz) : GoodS cA (n :: fz) r ρ H (UnD X D) W := by
  have less : ∀ {m}, m ∈ n :: fz → m ∈ fz := fun hm => (List.mem_cons.mp hm).elim (fun z => z ▸ hn) id
  cases r with
  | bad => exact g
  | exc y env h => exact g
  | ok f h' =>
    intro ρ' σ' H' x rh
    have q := g ρ' σ' H' x (rh.weaken fun m => less)
    cases f with
    | nx env => exact fun re => .inl (q re)
    | bk env => exact fun re => .inl (q re)
    | ct env => exact fun re => .inl (q re)
    | rt w => exact fun v rv => .inl (q v rv)
theorem Good.moreD {r : MP.R MP.W} {Q : Vv → HH → Prop} {E : L2.XK} (g : Good cA fz RW r ρ H Q E) (hn : n ∈ fz) : Good cA (n :: fz) RW r ρ H (fun v => Un X (Q v)) E := by
  have less : ∀ {m}, m ∈ n :: fz → m ∈ fz := fun hm => (List.mem_cons.mp hm).elim (fun z => z ▸ hn) id
  cases r with
  | bad => exact g
  | exc y h => exact g
  | ok w h' => exact fun ρ' v H' x rh rv => .inl (g ρ' v H' x (rh.weaken fun m => less) rv)
end
/-! ### what a locked dict yields -/
section
variable {cA : CA} {fz : List Nat} {M : Cx} {W : L2.WX} {X : L2.Cx} {ρ : List Addr} {H : HH} {h : Hp} {n : Nat} {d : Addr} {ks : List (KEY × Vv)} {od : Obj} {kvs : List (MP.W × MP.W)}
theorem pairedAt {α β : Type} {R : α → β → Prop} : ∀ {as : List α} {bs : List β} {i : Nat} {a : α}, Paired R as bs → as[i]? = some a → ∃ b, bs[i]? = some b ∧ R a b
  | _, _, i, a, .nil, e => by simp at e
  | _, _, 0, a, .cons r _, e => by simp at e; subst e; exact ⟨_, rfl, r⟩
  | _, _, i + 1, a, .cons _ r, e => by simpa using pairedAt (i := i) r (by simpa using e)
theorem flat_RW {k : MP.W} {q : KEY} (e : flatK k = some q) : RW ρ H k (L2.kV q) := by
  cases k with
  | int i => cases e; rfl
  | str z =>
    unfold flatK at e
    simp only at e
    split at e
    · rename_i hl; rw [← Option.some.inj e]; exact ⟨hl, rfl⟩
    · cases e
  | _ => cases e
variable (e : H d = some (.frz od (.dK ks))) (r : RPs flatK ρ H kvs ks)
include e r
theorem wk_items : Wk cA fz [n] ρ H h (kvs.map fun p => .tup [p.1, p.2]) (L2.Iti d od ks) := fun i ρ1 h1 H1 x kp rh => by
  have e1 := x.frz _ _ _ e
  have hl := Paired.length r
  refine ⟨fun h2 => ⟨e1, by rw [← hl]; simpa using h2⟩, fun w ew => ?_⟩
  rw [List.getElem?_map] at ew
  cases hk : kvs[i]? with
  | none => rw [hk] at ew; cases ew
  | some p =>
    rw [hk] at ew
    cases ew
    obtain ⟨q, hq, rq⟩ := pairedAt r hk
    refine ⟨⟨e1, ix_lt hq⟩, fun y H' z => ?_⟩
    obtain ⟨T, k, v, hkv, rfl, hT, rfl⟩ := z
    rw [hq] at hkv
    cases hkv
    obtain ⟨x1, rh1⟩ := rh.side (u := .tup [L2.kV k, v]) hT
    exact ⟨x1, rh1, RW.tup2 (flat_RW rq.1) (rq.2.ext (x.trans x1)) L2.upd_same⟩
theorem wk_vals : Wk cA fz [n] ρ H h (kvs.map (·.2)) (L2.Itd d od ks) := fun i ρ1 h1 H1 x kp rh => by
  have e1 := x.frz _ _ _ e
  have hl := Paired.length r
  refine ⟨fun h2 => ⟨e1, by rw [← hl]; simpa using h2⟩, fun w ew => ?_⟩
  rw [List.getElem?_map] at ew
  cases hk : kvs[i]? with
  | none => rw [hk] at ew; cases ew
  | some p =>
    rw [hk] at ew
    cases ew
    obtain ⟨q, hq, rq⟩ := pairedAt r hk
    refine ⟨⟨e1, ix_lt hq⟩, fun y H' z => ?_⟩
    obtain ⟨rfl, k, hkv⟩ := z
    rw [hq] at hkv
    cases hkv
    exact ⟨.refl, rh, rq.2.ext x⟩
theorem wk_keys : Wk cA fz [n] ρ H h (kvs.map (·.1)) (L2.Itk d od ks) := fun i ρ1 h1 H1 x kp rh => by
  have e1 := x.frz _ _ _ e
  have hl := Paired.length r
  refine ⟨fun h2 => ⟨e1, by rw [← hl]; simpa using h2⟩, fun w ew => ?_⟩
  rw [List.getElem?_map] at ew
  cases hk : kvs[i]? with
  | none => rw [hk] at ew; cases ew
  | some p =>
    rw [hk] at ew
    cases ew
    obtain ⟨q, hq, rq⟩ := pairedAt r hk
    refine ⟨⟨e1, ix_lt hq⟩, fun y H' z => ?_⟩
    obtain ⟨rfl, k, v, hkv, rfl⟩ := z
    rw [hq] at hkv
    cases hkv
    exact ⟨.refl, rh, flat_RW rq.1⟩
end
/-! ### loops and comprehensions over a dict -/
/-- which walk of a dict -/
inductive DW where
  | items | vals | keys
def DW.it : DW → Ex → It
  | .items, m => .items m
  | .vals, m => .vals m
  | .keys, m => .keys m
def DW.ws : DW → List (MP.W × MP.W) → List MP.W
  | .items, kvs => kvs.map fun p => .tup [p.1, p.2]
  | .vals, kvs => kvs.map (·.2)
  | .keys, kvs => kvs.map (·.1)
def DW.J : DW → Addr → Obj → List (KEY × Vv) → L2.It
  | .items => L2.Iti
  | .vals => L2.Itd
  | .keys => L2.Itk
/-- what the kit's walk asks of a locked dict -/
def iDW (td : L2.TE) (k : DW) : L2.TI := fun σ H R => td σ H fun x H1 => ∃ d o ks, x = .ref d ∧ H1 d = some (.frz o (.dK ks)) ∧ R (k.J d o ks) H1
section
variable {cA : CA} {fz : List Nat} {M : Cx} {W : L2.WX} {X : L2.Cx} {pos p2 p tpos apos cpos : Pos} {a b c tg iter : Expr} {ma mb mc me : Ex} {ρ ρ' : List Addr} {H H' : HH} {h h' : Hp}
theorem walk_dw (k : DW) (env : Env) : walk M (k.it me) env h = (ev M me env h).bind fun x h => .of (match x with
    | .ref a => match rd h a with
      | some (.dct kvs) => if kvs.all (fun p => isFlat p.1) then some (k.ws kvs, [a]) else none
      | _ => none
    | _ => none) h := by
  cases k <;> simp only [DW.it, walk] <;> congr 1 <;> funext x h <;> congr 1 <;> cases x <;> first | rfl | (rename_i a; show _ = _; simp only [itemsD, valsD, keysD, dItems, dVals, dKeys]; cases rd h a with | none => rfl | some o => cases o <;> rfl)
theorem DW.wk (k : DW) {n : Nat} {d : Addr} {ks : List (KEY × Vv)} {od : Obj} {kvs : List (MP.W × MP.W)} (e : H d = some (.frz od (.dK ks))) (r : RPs flatK ρ H kvs ks) : Wk cA fz [n] ρ H h (k.ws kvs) (k.J d od ks) := by
  cases k
  · exact wk_items e r
  · exact wk_vals e r
  · exact wk_keys e r
theorem flat_nil {ks : List (List KEY × Vv)} {kvs : List (MP.W × MP.W)} (r : RPs tupK ρ H kvs ks) (fl : (kvs.all fun p => isFlat p.1) = true) : kvs = [] ∧ ks = [] := by
  cases r with
  | nil => exact ⟨rfl, rfl⟩
  | @cons p q ps qs r1 r2 =>
    rw [List.all_cons, Bool.and_eq_true] at fl
    have h1 := kind_tup r1.1
    cases hp : p.1 with
    | int i => rw [hp] at h1; cases h1
    | str i => rw [hp] at h1; cases h1
    | _ => rw [hp] at fl; have f1 : false = true := fl.1; cases f1
theorem s_forD {body : List Stmt} {mt : Tg} {mb : List St} (k : DW) (hk : CK M) (hp : PassesOwn (model X.prog X.w) X.A X.env X.xe) (hc : X.calm = true) (hi : L2.PI X tg iter (iDW (tLV X (tE cA fz M W me)) k)) (hg : ∀ fz', L2.PG X tg (gT cA fz' mt))
    (hb : ∀ n, L2.PSs X body (tXs cA (n :: fz) (M.lock [n]) W mb)) (hs : ∀ x, foldedSetIterable iter X.env x = pure x) : L2.PS X (.For tg iter body [] pos) (tX cA fz M W (.for mt (k.it me) mb)) := by
  refine ⟨fun pins s σ H D I ⟨ρ, env, h, rh, re, g⟩ => ?_⟩
  have e : ex M (.for mt (k.it me) mb) env h = (walk M (k.it me) env h).on env fun p h => forL (turnOf mt fun env h => exs (M.lock p.2) mb env h) p.1 env h := by simp only [ex]
  rw [e, walk_dw] at g
  cases hw : ev M me env h with
  | bad => rw [hw] at g; exact g.elim
  | exc x h' =>
    rw [hw] at g
    refine (L2.ps_for (tb := L2.tNever) (g := fun _ _ _ _ => False) hp hc hi ⟨fun _ _ _ _ _ _ _ _ _ h => h.elim⟩ L2.pss_never hs).run pins s σ H D I ?_
    refine ⟨ρ, env, h, rh, re, ?_⟩
    rw [hw]
    exact fun ρ' cls d H' x rh rx => g ρ' cls d σ H' x rh rx (re.ext x)
  | ok w h' =>
    rw [hw] at g
    cases w with
    | ref n =>
      cases hr : rd h' n with
      | none => simp only [R.bind_ok, hr] at g; exact g.elim
      | some o =>
        cases o with
        | dct kvs =>
          simp only [R.bind_ok, hr] at g
          by_cases fl : (kvs.all fun p => isFlat p.1) = true
          · rw [if_pos fl] at g
            have g : GoodS cA fz (forL (turnOf mt fun env h => exs (M.lock [n]) mb env h) (k.ws kvs) env h') ρ H D W := g
            refine (ps_Un (L2.ps_for hp hc hi (hg (n :: fz)) (hb n) hs)).run pins s σ H D I ⟨ρ, env, h, rh, re, ?_⟩
            rw [hw]
            intro ρ' v H1 x0 rh0 rv
            obtain ⟨d, rfl, hd⟩ := rv
            obtain ⟨d', hd', ro⟩ := rh0.get hr
            rw [hd] at hd'; cases hd'
            have core : ∀ {ks : List (KEY × Vv)} {od : Obj}, Open H1 d ks → RPs flatK ρ' H1 kvs ks → (ks.map (·.1)).Nodup → NF X d → _ := fun {ks od} o r nd nf =>
              for_turns (D := UnD X D) hk (rh0.lockD (od := od) (L' := (· ∈ n :: fz)) o hd hr r nd (fun m hm => List.mem_cons_of_mem _ hm) List.mem_cons_self) (DW.wk k L2.upd_same (RPs.ext (o.ext hd) r)) ((re.ext x0).ext (o.ext hd)) ((GoodS.ext g x0).lockD o hd nf)
            rcases ro with ⟨ks, r, nd, z⟩ | ⟨ks, r, nd, z⟩
            · rcases z with z | ⟨hL, od, z⟩
              · exact ⟨d, ks, rfl, .inr ⟨.inl z, fun od nf => ⟨d, od, ks, rfl, L2.upd_same, core (.inl z) r nd nf⟩⟩⟩
              · refine ⟨d, ks, rfl, .inl ⟨od, z, d, od, ks, rfl, z, ?_⟩⟩
                exact for_turns (D := UnD X D) hk (rh0.weaken fun m hm => List.mem_cons_of_mem _ hm) (DW.wk k z r) (re.ext x0) ((GoodS.ext g x0).moreD hL)
            · obtain ⟨rfl, rfl⟩ := flat_nil r fl
              have z := z.plain id
              exact ⟨d, [], rfl, .inr ⟨.inr ⟨z, rfl⟩, fun od nf => ⟨d, od, [], rfl, L2.upd_same, core (.inr ⟨z, rfl⟩) .nil List.nodup_nil nf⟩⟩⟩
          · rw [if_neg fl] at g; exact g.elim
        | _ => simp only [R.bind_ok, hr] at g; exact g.elim
    | _ => exact g.elim
theorem Good.mono {α β : Type} {R1 : Rel α β} {r : MP.R α} {Q Q' : β → HH → Prop} {E : L2.XK} (g : Good cA fz R1 r ρ H Q E) (q : ∀ v H, Q v H → Q' v H) : Good cA fz R1 r ρ H Q' E := by
  cases r with
  | bad => exact g
  | ok w h => exact fun ρ' v H' x rh rv => q _ _ (g ρ' v H' x rh rv)
  | exc y h => exact g
theorem tLV_mono {σ : L2.St} {Q Q' : Vv → HH → Prop} (h : tLV X (tE cA fz M W me) σ H Q) (q : ∀ v H, Q v H → Q' v H) : tLV X (tE cA fz M W me) σ H Q' := by
  obtain ⟨ρ, env, h, rh, re, g⟩ := h
  exact ⟨ρ, env, h, rh, re, g.mono fun v H ⟨d, ks, e, z⟩ => ⟨d, ks, e, z.imp (fun ⟨od, e, z⟩ => ⟨od, e, q _ _ z⟩) fun ⟨o, z⟩ => ⟨o, fun od nf => q _ _ (z od nf)⟩⟩⟩
theorem i_items {e : Expr} {elts : List Expr} {kk : Nat} (ha : L2.PE X e (tE cA fz M W me)) (hbase : attributeBase e "items" X.env (eval e X.env) = eval e X.env) (hline : (apos.endLine == cpos.line) = true) :
    L2.PI X (.Tuple elts kk tpos) (.Call (.Attribute e "items" apos) [] [] cpos) (iDW (tLV X (tE cA fz M W me)) .items) := L2.pi_items (pe_LV ha) hbase hline
theorem i_vals {e : Expr} (ha : L2.PE X e (tE cA fz M W me)) (hbase : attributeBase e "values" X.env (eval e X.env) = eval e X.env) (hline : (apos.endLine == cpos.line) = true) :
    L2.PI X tg (.Call (.Attribute e "values" apos) [] [] cpos) (iDW (tLV X (tE cA fz M W me)) .vals) := L2.pi_values (pe_LV ha) hbase hline
theorem i_keys {e : Expr} (ha : L2.PE X e (tE cA fz M W me)) : L2.PI X tg e (iDW (tLV X (tE cA fz M W me)) .keys) :=
  PI.imp (L2.pi_keys (pe_LV ha)) fun σ H R h => tLV_mono h fun v H ⟨d, o, ks, e1, e2, q⟩ => ⟨d, o, e1, .inl ⟨ks, e2, q⟩⟩
theorem compD_core {own : List Nat} {mt : Tg} {mo : Option Ex} {mel : Ex} (k : DW) (hk : CK M) (htg : ∀ i ∈ tgIx mt, i ∈ own) {σ : L2.St} {H : HH} {Q : L2.VK} (h : tE cA fz M W (.comp own mel mt (k.it me) mo) σ H Q) :
    ∃ n, L2.tLc (iDW (tLV X (tE cA fz M W me)) k) (gT cA (n :: fz) mt) (tC cA (n :: fz) (M.lock [n]) mo) (tE cA (n :: fz) (M.lock [n]) W0 mel) own σ H (fun v => Un X (Q v)) := by
  obtain ⟨ρ, env, h, rh, re, g⟩ := h
  rw [comp_eq, walk_dw] at g
  cases hw : ev M me env h with
  | bad => rw [hw] at g; exact g.elim
  | exc x h' =>
    rw [hw] at g
    refine ⟨0, ρ, env, h, rh, re, ?_⟩
    rw [hw]
    exact g
  | ok w h' =>
    rw [hw] at g
    cases w with
    | ref n =>
      cases hr : rd h' n with
      | none => simp only [R.bind_ok, hr] at g; exact g.elim
      | some o =>
        cases o with
        | dct kvs =>
          simp only [R.bind_ok, hr] at g
          by_cases fl : (kvs.all fun p => isFlat p.1) = true
          · rw [if_pos fl] at g
            have g : Good cA fz RW ((compL (turnOfC (M.lock [n]) (wipe env own) mt mel mo) (k.ws kvs) [] h').bind fun ys h => mk (.lst ys) h) ρ H Q (L2.WE W σ) := g
            refine ⟨n, ρ, env, h, rh, re, ?_⟩
            rw [hw]
            intro ρ' v H1 x0 rh0 rv
            obtain ⟨d, rfl, hd⟩ := rv
            obtain ⟨d', hd', ro⟩ := rh0.get hr
            rw [hd] at hd'; cases hd'
            have core : ∀ {ks : List (KEY × Vv)} {od : Obj}, Open H1 d ks → RPs flatK ρ' H1 kvs ks → (ks.map (·.1)).Nodup → NF X d → ∀ D, L2.upd H1 d (.frz od (.dK ks)) D = none → _ := fun {ks od} o r nd nf D hD =>
              comp_turns (Q := fun v => Un X (Q v)) hk htg (rh0.lockD (od := od) (L' := (· ∈ n :: fz)) o hd hr r nd (fun m hm => List.mem_cons_of_mem _ hm) List.mem_cons_self) (DW.wk k L2.upd_same (RPs.ext (o.ext hd) r)) ((re.ext x0).ext (o.ext hd)) hD ((Good.ext g x0).lockD o hd nf)
            rcases ro with ⟨ks, r, nd, z⟩ | ⟨ks, r, nd, z⟩
            · rcases z with z | ⟨hL, od, z⟩
              · exact ⟨d, ks, rfl, .inr ⟨.inl z, fun od nf => ⟨d, od, ks, rfl, L2.upd_same, core (.inl z) r nd nf⟩⟩⟩
              · refine ⟨d, ks, rfl, .inl ⟨od, z, d, od, ks, rfl, z, fun D hD => ?_⟩⟩
                exact comp_turns (Q := fun v => Un X (Q v)) hk htg (rh0.weaken fun m hm => List.mem_cons_of_mem _ hm) (DW.wk k z r) (re.ext x0) hD ((Good.ext g x0).moreD hL)
            · obtain ⟨rfl, rfl⟩ := flat_nil r fl
              have z := z.plain id
              exact ⟨d, [], rfl, .inr ⟨.inr ⟨z, rfl⟩, fun od nf => ⟨d, od, [], rfl, L2.upd_same, core (.inr ⟨z, rfl⟩) .nil List.nodup_nil nf⟩⟩⟩
          · rw [if_neg fl] at g; exact g.elim
        | _ => simp only [R.bind_ok, hr] at g; exact g.elim
    | _ => exact g.elim
section
variable {elt : Expr} {ifs : List Expr} {scope : Scope} {own : List (Str × Nat)} {mt : Tg} {mo : Option Ex} {mel : Ex} (k : DW) (hk : CK M) (hc : X.calm = true) (hN : X.N.Nodup) (hi : L2.PI X tg iter (iDW (tLV X (tE cA fz M W me)) k)) (ok : L2.BlkOk X.N X.env.scope scope own)
    (hg : ∀ (fz' : List Nat) (s : Shared) (H : HH) (C : Addr) (cl : List (Str × Addr)) (fp : List Addr), L2.PG (X.blk s H scope (compEnvC scope cl C X.env) fp) tg (gT cA fz' mt)) (ht : ∀ (n : Nat) (s : Shared) (H : HH) (C : Addr) (cl : List (Str × Addr)) (fp : List Addr), L2.PTs (X.blk s H scope (compEnvC scope cl C X.env) fp) ifs (tC cA (n :: fz) (M.lock [n]) mo))
    (he : ∀ (n : Nat) (s : Shared) (H : HH) (C : Addr) (cl : List (Str × Addr)) (fp : List Addr), L2.PE (X.blk s H scope (compEnvC scope cl C X.env) fp) elt (tE cA (n :: fz) (M.lock [n]) W0 mel)) (hs : ∀ x, foldedSetIterable iter X.env x = pure x)
    (htg : ∀ i ∈ tgIx mt, i ∈ own.map (·.2))
include hk hc hN hi ok hg ht he hs htg
theorem k_compD : L2.PE X (.ListComp elt [⟨tg, iter, ifs, 0⟩] scope pos) (tE cA fz M W (.comp (own.map (·.2)) mel mt (k.it me) mo)) := by
  refine ⟨fun pins s σ H Q I h => ?_⟩
  obtain ⟨n, q⟩ := compD_core (X := X) k hk htg h
  exact (pe_Un (L2.pe_lc hc hN hi ok (hg (n :: fz)) (ht n) (he n) hs)).run pins s σ H Q I q
theorem s_compD {i : Nat} {y : Str} {py spos : Pos} (hy : X.N[i]? = some y) (hyl : X.env.scope.names.lookup y = some .local) (hsw : swapsWith (.ListComp elt [⟨tg, iter, ifs, 0⟩] scope pos) (some (.Name y py)) spos.line X.env = pure true) :
    L2.PS X (.Assign [.Name y py] (.ListComp elt [⟨tg, iter, ifs, 0⟩] scope pos) spos) (tX cA fz M W (.set (.tg (.name i)) (.comp (own.map (·.2)) mel mt (k.it me) mo))) := by
  refine ⟨fun pins s σ H D I h => ?_⟩
  have h2 : tE cA fz M W (.comp (own.map (·.2)) mel mt (k.it me) mo) σ H (fun x H1 => D.nx (σ.set i (some x)) H1) := tS.on h fun ρ env h w v H1 rh re rv g => by
    obtain ⟨env', e, g⟩ := g.thenS
    cases e
    exact g.nx rh (re.set rv i)
  obtain ⟨n, q⟩ := compD_core (X := X) k hk htg h2
  exact (ps_Un (L2.ps_setLc hc hN hy hyl hsw hi ok (hg (n :: fz)) (ht n) (he n) hs)).run pins s σ H D I q
end
end
end MP

namespace MP
open PySem PySem.Spec PyProof.Rows
/-! ### values as data; their order -/
mutual
def dataW : W → PyData
  | .non => .none
  | .bl b => .bool b
  | .int i => .int i
  | .str s => .str (sv s)
  | .tup xs => .tuple (dataWs xs)
  | .ref _ => .none
def dataWs : List W → List PyData
  | [] => []
  | x :: xs => dataW x :: dataWs xs
end
theorem dataWs_map : ∀ xs : List W, dataWs xs = xs.map dataW
  | [] => rfl
  | x :: xs => by simp [dataWs, dataWs_map xs]
mutual
theorem alike_W : ∀ x y : W, alikeW x y = true → PySem.W.alike (dataW x) (dataW y) = true
  | .bl _, y, h => by cases y <;> first | rfl | (simp [alikeW] at h)
  | .int _, y, h => by cases y <;> first | rfl | (simp [alikeW] at h)
  | .str _, y, h => by cases y <;> first | rfl | (simp [alikeW] at h)
  | .tup xs, y, h => by
    cases y with
    | tup ys =>
      have := alike_Ws xs ys (by simpa [alikeW] using h)
      simpa [dataW, PySem.W.alike] using this
    | _ => simp [alikeW] at h
  | .non, y, h => by simp [alikeW] at h
  | .ref _, y, h => by simp [alikeW] at h
theorem alike_Ws : ∀ xs ys : List W, alikeWs xs ys = true → PySem.W.alikeAll (dataWs xs) (dataWs ys) = true
  | [], ys, _ => by cases ys <;> simp [dataWs, PySem.W.alikeAll]
  | x :: xs, [], _ => by simp [dataWs, PySem.W.alikeAll]
  | x :: xs, y :: ys, h => by
    simp only [alikeWs, Bool.and_eq_true] at h
    simp only [dataWs, PySem.W.alikeAll, Bool.and_eq_true]
    exact ⟨alike_W x y h.1, alike_Ws xs ys h.2⟩
end
mutual
theorem eqv_W : ∀ x y : W, alikeW x y = true → PyData.eqv (dataW x) (dataW y) = keqb x y
  | .bl _, y, h => by cases y <;> first | (simp [dataW, PyData.eqv, keqb]; done) | (simp [alikeW] at h)
  | .int _, y, h => by cases y <;> first | (simp [dataW, PyData.eqv, keqb]; done) | (simp [alikeW] at h)
  | .str a, y, h => by
    cases y with
    | str b =>
      simp only [dataW, PyData.eqv, keqb]
      rw [Bool.eq_iff_iff]
      simp [sv_inj]
    | _ => simp [alikeW] at h
  | .tup xs, y, h => by
    cases y with
    | tup ys =>
      have := eqv_Ws xs ys (by simpa [alikeW] using h)
      simpa [dataW, PyData.eqv, keqb] using this
    | _ => simp [alikeW] at h
  | .non, y, h => by simp [alikeW] at h
  | .ref _, y, h => by simp [alikeW] at h
theorem eqv_Ws : ∀ xs ys : List W, alikeWs xs ys = true → PyData.eqvAll (dataWs xs) (dataWs ys) = keqbs xs ys
  | [], [], _ => by simp [dataWs, PyData.eqvAll, keqbs]
  | [], y :: ys, _ => by simp [dataWs, PyData.eqvAll, keqbs]
  | x :: xs, [], _ => by simp [dataWs, PyData.eqvAll, keqbs]
  | x :: xs, y :: ys, h => by
    simp only [alikeWs, Bool.and_eq_true] at h
    simp only [dataWs, PyData.eqvAll, keqbs, eqv_W x y h.1, eqv_Ws xs ys h.2]
end
mutual
theorem wlt_W : ∀ x y : W, alikeW x y = true → wlt x y = some (PySem.W.dataLt (dataW x) (dataW y))
  | .bl a, y, h => by
    cases y with
    | bl b =>
      simp only [wlt, dataW, PySem.W.dataLt_bool]
      cases a <;> cases b <;> rfl
    | _ => simp [alikeW] at h
  | .int a, y, h => by
    cases y with
    | int b => simp only [wlt, dataW, PySem.W.dataLt_int]
    | _ => simp [alikeW] at h
  | .str a, y, h => by
    cases y with
    | str b => simp only [wlt, dataW, PySem.W.dataLt_str, slt_lt]; rfl
    | _ => simp [alikeW] at h
  | .tup xs, y, h => by
    cases y with
    | tup ys =>
      simp only [wlt, dataW, PySem.W.dataLt_tuple]
      exact wlt_Ws xs ys (by simpa [alikeW] using h)
    | _ => simp [alikeW] at h
  | .non, y, h => by simp [alikeW] at h
  | .ref _, y, h => by simp [alikeW] at h
theorem wlt_Ws : ∀ xs ys : List W, alikeWs xs ys = true → wlts xs ys = some (PyProof.Rows.lexLt PyProof.Rows.itemOrd (PySem.W.keyToksAll (dataWs xs)) (PySem.W.keyToksAll (dataWs ys)))
  | [], [], _ => by
    simp only [wlts, dataWs]
    rw [PyProof.Rows.lex_irrefl]
  | [], y :: ys, _ => by
    simp only [wlts, dataWs, PySem.W.keyToksAll]
    rw [PyProof.Rows.lex_diff (O := PyProof.Rows.itemOrd) (by simp)]
    simp [PyProof.Rows.itemLt]
  | x :: xs, [], _ => by
    simp only [wlts, dataWs, PySem.W.keyToksAll]
    rw [PyProof.Rows.lex_diff (O := PyProof.Rows.itemOrd) (by simp)]
    simp [PyProof.Rows.itemLt]
  | x :: xs, y :: ys, h => by
    simp only [alikeWs, Bool.and_eq_true] at h
    simp only [wlts, dataWs]
    cases hx : keqb x y with
    | true =>
      rw [PySem.W.dataLt_all_yes (alike_W x y h.1) (by rw [eqv_W x y h.1, hx])]
      simp only [if_true]
      exact wlt_Ws xs ys h.2
    | false =>
      rw [PySem.W.dataLt_all_no (alike_W x y h.1) (by rw [eqv_W x y h.1, hx])]
      simp only [Bool.false_eq_true, if_false]
      exact wlt_W x y h.1
end
mutual
theorem depth_W : ∀ (w : W) (k : Nat), plain k w = true → (dataW w).depth ≤ k + 1
  | .non, _, _ => by simp [dataW, PyData.depth]
  | .bl _, _, _ => by simp [dataW, PyData.depth]
  | .int _, _, _ => by simp [dataW, PyData.depth]
  | .str _, _, _ => by simp [dataW, PyData.depth]
  | .ref _, k, h => by simp [dataW, PyData.depth]
  | .tup xs, 0, h => by simp [plain] at h
  | .tup xs, k + 1, h => by
    simp only [plain] at h
    have := depth_Ws xs k h
    simp only [dataW, PyData.depth]
    omega
theorem depth_Ws : ∀ (ws : List W) (k : Nat), ws.all (plain k) = true → PyData.depthAll (dataWs ws) ≤ k + 1
  | [], _, _ => by simp [dataWs, PyData.depthAll]
  | w :: ws, k, h => by
    simp only [List.all_cons, Bool.and_eq_true] at h
    have h1 := depth_W w k h.1
    have h2 := depth_Ws ws k h.2
    simp only [dataWs, PyData.depthAll]
    omega
end
section
variable {Y : L2.Cx} {pins : List (Addr × Obj)} {s : Shared} {σ : L2.St} {ρ : List Addr} {H : HH}
mutual
theorem reads_W (I : L2.Inv Y pins σ H s) : ∀ (w : W) (k : Nat) {v : Vv} {u : Value}, plain k w = true → RW ρ H w v → L2.RelV v u → ∃ as, Reads s.heap u (dataW w) as
  | .non, _, v, u, _, r, q => by cases r; cases (show u = Value.none from q); exact ⟨_, .none⟩
  | .bl b, _, v, u, _, r, q => by cases r; cases (show u = Value.bool b from q); exact ⟨_, .bool b⟩
  | .int i, _, v, u, _, r, q => by cases r; obtain ⟨t, rfl⟩ := q; exact ⟨_, .int i t⟩
  | .str z, _, v, u, _, r, q => by obtain ⟨_, rfl⟩ := r; obtain ⟨t, rfl⟩ := q; exact ⟨_, .str _ t⟩
  | .ref _, k, v, u, h, _, _ => by cases k <;> simp [plain] at h
  | .tup xs, 0, v, u, h, _, _ => by simp [plain] at h
  | .tup xs, k + 1, v, u, h, r, q => by
    obtain ⟨a, vs, rfl, ha, rr⟩ := r
    cases (show u = Value.ref a from q)
    obtain ⟨_, its, rv, o, h1, h2, n, h3⟩ := I.hok a _ ha
    obtain ⟨as, ra⟩ := reads_Ws I xs k (by simpa [plain] using h) rr rv
    exact ⟨as, .tuple h1 h2 h3 (by simpa using ra)⟩
theorem reads_Ws (I : L2.Inv Y pins σ H s) : ∀ (ws : List W) (k : Nat) {vs : List Vv} {us : List Value}, ws.all (plain k) = true → RWs ρ H ws vs → L2.Vals vs us → ∃ as, ReadsAll s.heap us (dataWs ws) as
  | [], _, vs, us, _, r, q => by cases r; cases q; exact ⟨[], .nil⟩
  | w :: ws, k, vs, us, h, r, q => by
    simp only [List.all_cons, Bool.and_eq_true] at h
    obtain ⟨v, vs, rfl, r1, r2⟩ := r
    cases q with
    | cons q1 q2 =>
      obtain ⟨as, a1⟩ := reads_W I w k h.1 r1 q1
      obtain ⟨bs, a2⟩ := reads_Ws I ws k h.2 r2 q2
      exact ⟨_, .cons a1 a2⟩
end
end
end MP

namespace MP
open PySem PySem.Spec PyProof.Rows
/-! ### sorted -/
section
variable {prog : Program} {w : World} {A : Around} {E : Value → Shared → Prop} {s : Shared}
theorem call_sorted_any {u : Value} {C : List Value → Shared → Prop} {Q : Value → Shared → Prop} (hc : ∀ (E' : Value → Shared → Prop) (R : List Value → Shared → Prop), (∀ us s', C us s' → R us s') → wpAny (model prog w) A.in1 (collect u) R E' s)
    (h : ∀ us s', C us s' → us.length ≤ sizeLine ∧ ∃ κ : PyProof.Rows.KeyKind, PySem.W.SortsAt prog w A.in1.in1 { s' with heap := PySem.W.sortingHeap (s'.heap.push (seqObj "list" us.toArray 0)) s'.heap.objs.size us } κ us ∧
      Q (.ref s'.heap.objs.size) { s' with heap := sortedHeap (s'.heap.push (seqObj "list" us.toArray 0)) s'.heap.objs.size us (PySem.W.sortVals κ false us us).toArray }) : wpAny (model prog w) A (call (.builtin "sorted") [u]) Q E s := by
  refine Calls.call_function_entry kind_sorted plain_sorted entry_sorted (args_sorted1 _) ?_
  unfold Builtin.«sorted»
  refine wpAny_bind (m := checkCount "sorted" 1 1 _) (wpAny_pure ?_)
  refine wpAny_bind (hc _ _ fun us s' hC => ?_)
  obtain ⟨hl, κ, S, q⟩ := h us s' hC
  refine wpAny_bind (wpAny_newList ?_ hl)
  have hoL : (s'.heap.push (seqObj "list" us.toArray 0)).get? s'.heap.objs.size = some (seqObj "list" us.toArray 0) := Heap.get?_push_size _ rfl
  show wpAny _ _ _ _ _ { s' with heap := s'.heap.push (seqObj "list" us.toArray 0) }
  refine wpAny_bind (wpAny_holding (wpAny_call_entry slot_list_sort ⟨_, hoL, rfl⟩ entry_list_sort (PySem.W.list_sort_vals (s := { s' with heap := s'.heap.push (seqObj "list" us.toArray 0) }) hoL S hl ⟨_, rfl, ?_⟩) (args_list_sort _)))
  exact wpAny_pure ⟨_, rfl, q⟩
end
section
variable {cA : CA} {Y : L2.Cx} {lk : List Nat} {pins : List (Addr × Obj)} {s : Shared} {σ : L2.St} {ρ : List Addr} {H : HH} {h : Hp} {E : L2.XK} {Q : L2.VK}
/-- side by side -/
def RWu (ρ : List Addr) (H : HH) (u : Value) (w : MP.W) : Prop := ∃ v, L2.RelV v u ∧ RW ρ H w v
theorem each_of {ws : List MP.W} : ∀ {vs : List Vv} {us : List Value}, RWs ρ H ws vs → L2.Vals vs us → PySem.W.EachIs (RWu ρ H) us ws := by
  induction ws with
  | nil => intro vs us r q; cases r; cases q; exact .nil
  | cons w ws ih =>
    intro vs us r q
    obtain ⟨v, vs, rfl, r1, r2⟩ := r
    cases q with
    | cons q1 q2 => exact .cons ⟨v, q1, r1⟩ (ih r2 q2)
theorem of_each {ws : List MP.W} {us : List Value} (e : PySem.W.EachIs (RWu ρ H) us ws) : ∃ vs, RWs ρ H ws vs ∧ L2.Vals vs us := by
  induction e with
  | nil => exact ⟨[], rfl, .nil⟩
  | cons r _ ih =>
    obtain ⟨v, q1, r1⟩ := r
    obtain ⟨vs, r2, q2⟩ := ih
    exact ⟨v :: vs, ⟨v, vs, rfl, r1, r2⟩, .cons q1 q2⟩
theorem each_imp {α β : Type} {R R' : α → β → Prop} {as : List α} {bs : List β} (e : PySem.W.EachIs R as bs) (k : ∀ a b, b ∈ bs → R a b → R' a b) : PySem.W.EachIs R' as bs := by
  induction e with
  | nil => exact .nil
  | cons r _ ih => exact .cons (k _ _ List.mem_cons_self r) (ih fun a b hb => k a b (List.mem_cons_of_mem _ hb))
theorem each_mapR {α β γ : Type} {R : α → γ → Prop} (f : β → γ) {as : List α} {bs : List β} (e : PySem.W.EachIs (fun a b => R a (f b)) as bs) : PySem.W.EachIs R as (bs.map f) := by
  induction e with
  | nil => exact .nil
  | cons r _ ih => exact .cons r ih
theorem wltOk_all {ws : List MP.W} (h : wltOk ws = true) : (∀ x ∈ ws, plain 20 x = true) ∧ (∀ x ∈ ws, ∀ y ∈ ws, alikeW x y = true) ∧ PySem.W.Sortable (ws.map dataW) := by
  unfold wltOk at h
  simp only [Bool.and_eq_true, Bool.or_eq_true, List.all_eq_true] at h
  obtain ⟨h1, h2⟩ := h
  refine ⟨fun x hx => (h1 x hx).1, fun x hx y hy => (h1 x hx).2 y hy, ?_⟩
  rcases h2 with h2 | h2
  · refine .inl fun d hd => ?_
    obtain ⟨w, hw, rfl⟩ := List.mem_map.mp hd
    have := h2 w hw
    cases w with
    | tup xs =>
      cases xs with
      | nil => cases this
      | cons x xs => exact ⟨dataW x, dataWs xs, rfl⟩
    | _ => cases this
  · refine .inr fun d hd => ?_
    obtain ⟨w, hw, rfl⟩ := List.mem_map.mp hd
    have := h2 w hw
    cases w <;> first | (cases this; done) | exact ⟨nofun, fun _ => nofun⟩
/-- the order of data is ours -/
theorem mergeSort_W {ws : List MP.W} (h : wltOk ws = true) : ws.mergeSort (PySem.W.sortLe (listOrd itemOrd) false fun w => PySem.W.keyToks (dataW w)) = ws.mergeSort wle := by
  have := List.map_mergeSort (r := PySem.W.sortLe (listOrd itemOrd) false fun w => PySem.W.keyToks (dataW w)) (s := wle) (f := fun w : MP.W => w) (l := ws) fun a ha b hb => by
    have e := wlt_W b a ((wltOk_all h).2.1 b hb a ha)
    unfold wle
    rw [e]
    rfl
  simpa using this
/-- what sorted asks, and what it does -/
theorem sorts_W {A : Around} {s' : Shared} {ws : List MP.W} {vs : List Vv} {us : List Value} (I : L2.Inv Y pins σ H s) (k : ∀ b o, s.heap.get? b = some o → s'.heap.get? b = some o) (hu : A.units + 60 < cLine) (r : RWs ρ H ws vs) (q : L2.Vals vs us) (h : wltOk ws = true) :
    PySem.W.SortsAt Y.prog Y.w A s' (PySem.W.dataKind s'.heap (ws.map dataW)) us ∧ PySem.W.EachIs (fun u w => (PySem.W.dataKind s'.heap (ws.map dataW)).keyOf u = some (PySem.W.keyToks (dataW w))) us ws := by
  obtain ⟨h1, h2, h3⟩ := wltOk_all h
  have e : PySem.W.EachIs (fun u w => ∃ as, Reads s'.heap u (dataW w) as) us ws := each_imp (each_of r q) fun u w hw ⟨v, q, r⟩ => by
    obtain ⟨as, ra⟩ := reads_W I w 20 (h1 w hw) r q
    exact ⟨as, Reads.keeps k ra⟩
  have hal : PySem.W.AllAlike (ws.map dataW) := fun d hd d' hd' => by
    obtain ⟨w, hw, rfl⟩ := List.mem_map.mp hd
    obtain ⟨w', hw', rfl⟩ := List.mem_map.mp hd'
    exact alike_W w w' (h2 w hw w' hw')
  refine ⟨PySem.W.SortsAt.data (each_mapR (R := fun u d => ∃ as, Reads s'.heap u d as) dataW e) hal h3 fun d hd => ?_, each_imp e fun u w hw ⟨as, ra⟩ => PySem.W.dataKind_some hal (List.mem_map.mpr ⟨w, hw, rfl⟩) ra⟩
  obtain ⟨w, hw, rfl⟩ := List.mem_map.mp hd
  have := depth_W w 20 (h1 w hw)
  omega
/-- what is gathered of a dict: its keys -/
theorem collect_dct {kvs : List (MP.W × MP.W)} {P : Prop} {a : Addr} {E' : Value → Shared → Prop} {R : List Value → Shared → Prop} (hc : Y.calm = true) (I : L2.Inv Y pins σ H s) (ro : RO cA ρ H P a (.dct kvs))
    (q : ∀ us s' vs, RWs ρ H (kvs.map (·.1)) vs → L2.Vals vs us → (∀ b o, s.heap.get? b = some o → s'.heap.get? b = some o) → L2.Inv Y pins σ H s' → us.length ≤ sizeLine → R us s') : wpAny (model Y.prog Y.w) Y.A.in1 (collect (.ref a)) R E' s := by
  rcases ro with ⟨ks, r, nd, z⟩ | ⟨ks, r, nd, z⟩
  · obtain ⟨zl, lo, vs, rel, dd⟩ := L2.dk_rd I.hok z.rd
    obtain ⟨ep, hat⟩ := dd.dictAt
    have ek : (ks.map fun kv => L2.kV kv.1) = vs.map fun p => L2.kV p.1 := by
      have e := congrArg (List.map L2.kV) rel.keys
      rw [List.map_map, List.map_map] at e
      exact e
    have hl : vs.length ≤ sizeLine := by rw [← rel.length]; exact zl
    refine PySem.W.kdu_collect (A := Y.A.in1) (PySem.W.kdl_dict (knd := L2.mixKind Y.prog Y.w) (kvs := vs) (ep := ep) lo) (I.ok.hd hc) hat hl fun h' tk acc hk hacc => ?_
    have hv : L2.Vals (vs.map fun p => L2.kV p.1) acc.toList := L2.keys_at (by rw [Array.length_toList]; exact hacc.1) fun j v e => hacc.2 j v (by rw [← Array.getElem?_toList]; exact e)
    exact q _ _ _ (flatK_RWs r) (by rw [ek]; exact hv) hk (I.kept hk) (by rw [Array.length_toList, hacc.1]; exact hl)
  · have hd := z.rd
    obtain ⟨zl, hs, kk, pr, o, es, ep, ho, hx, hdt, he, hn⟩ := (show L2.ObjOk Y.prog Y.w H s.heap a (.dT ks) from hd.ok I.hok)
    have l1 : es.size = kk.length := size_of_entries he
    have l2 : ks.length = kk.length := Paired.length pr
    refine PySem.W.kdu_collect (A := Y.A.in1) (L2.kdl_raw hs hx hdt) (I.ok.hd hc) ho (by omega) fun h' tk acc' kp it => ?_
    have ea : acc'.toList = kk.map fun x => Value.ref x.2.1 := by
      have hl : acc'.toList.length = kk.length := by rw [Array.length_toList, it.1]; exact l1
      apply List.ext_getElem?
      intro j
      rw [List.getElem?_map]
      cases hj : acc'.toList[j]? with
      | none =>
        have h1 := List.getElem?_eq_none_iff.mp hj
        rw [List.getElem?_eq_none (by omega)]
        all_goals rfl
      | some v =>
        obtain ⟨en, hen, hv⟩ := it.2 j v (by rw [← Array.getElem?_toList]; exact hj)
        have qe := entry_at he j
        rw [hen] at qe
        cases hb : kk[j]? with
        | none => rw [hb] at qe; exact nomatch (show some en = none from qe)
        | some b =>
          rw [hb] at qe
          have e2 : en = entryOfKey (tupleKind (L2.mixKind Y.prog Y.w)) b := Option.some.inj qe
          rw [hv, e2]
          all_goals rfl
    have eb : acc'.toList = (kk.map fun x => x.2.1).map Value.ref := by rw [ea, List.map_map]; all_goals rfl
    exact q _ _ _ (isKeys_RWs r (L2.isKeys_of pr)) (by rw [eb]; exact L2.vals_refs _) kp (I.kept kp) (by rw [Array.length_toList, it.1]; omega)
theorem blt_sorted (hc : Y.calm = true) (hu : Y.A.units + 64 < cLine) : L2.CallR Y (.builtin "sorted") (rBlt cA lk .sorted) := by
  intro pins s σ H xs us Q I r ⟨ρ, h, ws, E, rh, rw', g⟩
  match ws, rw', g with
  | [], _, g => exact (show False from g).elim
  | _ :: _ :: _, _, g => exact (show False from g).elim
  | [x], rw', g =>
    have g : Good cA lk RW (thenO (seqV x h) fun p => thenO (sortW p) fun zs => mk (.lst zs) h) ρ H Q E := g
    obtain ⟨ws, e, g⟩ := g.thenO
    obtain ⟨zs, e2, g⟩ := g.thenO
    have ok : wltOk ws = true := by
      unfold sortW at e2
      simp only [msort_eq] at e2
      split at e2
      · assumption
      · cases e2
    have ez : zs = ws.mergeSort wle := by
      unfold sortW at e2
      simp only [msort_eq] at e2
      rw [if_pos ok] at e2
      exact (Option.some.inj e2).symm
    obtain ⟨v, rfl, rv⟩ := rws1 rw'
    obtain ⟨u, rfl, ru⟩ := L2.vals1 r
    -- from what was gathered on
    have core : ∀ us s' vs, RWs ρ H ws vs → L2.Vals vs us → (∀ b o, s.heap.get? b = some o → s'.heap.get? b = some o) → L2.Inv Y pins σ H s' → us.length ≤ sizeLine → us.length ≤ sizeLine ∧ ∃ κ : PyProof.Rows.KeyKind, PySem.W.SortsAt Y.prog Y.w Y.A.in1.in1 { s' with heap := PySem.W.sortingHeap (s'.heap.push (seqObj "list" us.toArray 0)) s'.heap.objs.size us } κ us ∧
        L2.EP Y pins σ Q (.ref s'.heap.objs.size) { s' with heap := sortedHeap (s'.heap.push (seqObj "list" us.toArray 0)) s'.heap.objs.size us (PySem.W.sortVals κ false us us).toArray } := by
      intro us s' vs r1 r2 hk I1 hl
      refine ⟨hl, _, (sorts_W (s' := { s' with heap := PySem.W.sortingHeap (s'.heap.push (seqObj "list" us.toArray 0)) s'.heap.objs.size us }) I1 (fun b o e => PySem.W.sortingHeap_old (Nat.ne_of_lt (Heap.lt_size e)) (Heap.get?_push_of_some _ e)) (by show Y.A.units + 1 + 1 + 60 < cLine; omega) r1 r2 ok).1, ?_⟩
      have hkey := (sorts_W (A := Y.A.in1.in1) (s' := { s' with heap := PySem.W.sortingHeap (s'.heap.push (seqObj "list" us.toArray 0)) s'.heap.objs.size us }) I1 (fun b o e => PySem.W.sortingHeap_old (Nat.ne_of_lt (Heap.lt_size e)) (Heap.get?_push_of_some _ e)) (by show Y.A.units + 1 + 1 + 60 < cLine; omega) r1 r2 ok).2
      have each := PySem.W.sortVals_each (κ := PySem.W.dataKind (PySem.W.sortingHeap (s'.heap.push (seqObj "list" us.toArray 0)) s'.heap.objs.size us) (ws.map dataW)) (rev := false) (R := RWu ρ H) (fun w => PySem.W.keyToks (dataW w)) (each_of r1 r2) hkey
      have each : PySem.W.EachIs (RWu ρ H) _ (ws.mergeSort (PySem.W.sortLe (listOrd itemOrd) false fun w => PySem.W.keyToks (dataW w))) := each
      rw [mergeSort_W ok, ← ez] at each
      obtain ⟨vs', r3, q3⟩ := of_each each
      have hoL : (s'.heap.push (seqObj "list" us.toArray 0)).get? s'.heap.objs.size = some (seqObj "list" us.toArray 0) := Heap.get?_push_size _ rfl
      obtain ⟨e', he'⟩ := PyProof.Rows.sortedHeap_at (vs := us) (out := (PySem.W.sortVals (PySem.W.dataKind (PySem.W.sortingHeap (s'.heap.push (seqObj "list" us.toArray 0)) s'.heap.objs.size us) (ws.map dataW)) false us us).toArray) hoL
      refine ⟨.ref s'.heap.objs.size, L2.upd H s'.heap.objs.size (.lst vs'), I1.laid (t' := s'.toks) (fun b u e => ?_) (Nat.le_refl _) (show L2.ObjOk Y.prog Y.w _ _ _ (.lst vs') from ⟨?_, _, e', q3, he'⟩), rfl, mk_lst g rh r3 _ (I1.hok.fresh (Nat.le_refl _))⟩
      · have hb : b < s'.heap.objs.size := Heap.lt_size e
        rw [PyProof.Rows.sortedHeap_old (Nat.ne_of_lt hb) (by rw [size_push']; exact Nat.lt_succ_of_lt hb)]
        exact Heap.get?_push_of_some _ e
      · have l1 := q3.length
        rw [l1, PySem.W.sortVals_length false rfl]
        exact hl
    cases x with
    | tup xs =>
      cases e
      obtain ⟨a, vs, rfl, ha, rr⟩ := rv
      cases ru
      obtain ⟨zl, its, rvs, o, h1, h2, n, h3⟩ := I.hok a _ ha
      refine call_sorted_any (C := fun us s' => ∃ vs, RWs ρ H ws vs ∧ L2.Vals vs us ∧ (∀ b o, s.heap.get? b = some o → s'.heap.get? b = some o) ∧ L2.Inv Y pins σ H s' ∧ us.length ≤ sizeLine) (fun E' R hR => ?_) fun us s' ⟨vs, q1, q2, q3, q4, q5⟩ => core us s' vs q1 q2 q3 q4 q5
      have hl : its.length ≤ sizeLine := by rw [← rvs.length]; exact zl
      refine wpAny_collect_seq a (.inr rfl) h1 h2 h3 (fun h' kp => hR _ _ ⟨vs, rr, by simpa using rvs, kp, I.kept (t' := s.toks) kp, by simpa using hl⟩) (by simpa using hl)
    | ref n =>
      obtain ⟨a, rfl, ha⟩ := rv
      cases ru
      have e : seqO (rd h n) = some ws := e
      refine call_sorted_any (C := fun us s' => ∃ vs, RWs ρ H ws vs ∧ L2.Vals vs us ∧ (∀ b o, s.heap.get? b = some o → s'.heap.get? b = some o) ∧ L2.Inv Y pins σ H s' ∧ us.length ≤ sizeLine) (fun E' R hR => ?_) fun us s' ⟨vs, q1, q2, q3, q4, q5⟩ => core us s' vs q1 q2 q3 q4 q5
      unfold seqO at e
      split at e
      · rename_i ys e1
        cases e
        obtain ⟨a', ha', vs, rr, z⟩ := rh.get e1
        rw [ha] at ha'; cases ha'
        obtain ⟨its, rvs, hl, hz⟩ := I.list (z.seqL (K := Y.K))
        have hl2 : its.length ≤ sizeLine := by rw [← rvs.length]; exact hz
        have kp : ∀ b o, s.heap.get? b = some o → ((s.heap.push (seqObj "list" #[] 0)).update s.heap.objs.size (Obj.mapSeq (· ++ its.toArray))).get? b = some o := fun b o e => by
          have hlt := Heap.lt_size e
          rw [Heap.get?_update_ne _ _ _ _ (Nat.ne_of_lt hlt)]
          exact Heap.get?_push_of_some _ e
        exact collect_list hl.isList (hR _ _ ⟨vs, rr, rvs, kp, I.kept (t' := s.toks) kp, hl2⟩) hl2
      · rename_i kvs e1
        cases e
        obtain ⟨a', ha', ro⟩ := rh.get e1
        rw [ha] at ha'; cases ha'
        exact collect_dct hc I ro fun us s' vs q1 q2 q3 q4 q5 => hR _ _ ⟨vs, q1, q2, q3, q4, q5⟩
      · cases e
    | _ => cases e
end
end MP

namespace MP
open PySem PySem.Spec PyProof.Rows
/-! ### list.remove; min and max of a list -/
/-- two numbers, two texts of the machine -/
def eqVal : Value → Value → Bool
  | .int a _, .int b _ => a == b
  | .str a _, .str b _ => a == b
  | _, _ => false
theorem keqb_flat {x y : MP.W} (h : sameF x y = true) {ρ : List Addr} {H : HH} {v u : Vv} {a b : Value} (rx : RW ρ H x v) (ra : L2.RelV v a) (ry : RW ρ H y u) (rb : L2.RelV u b) : MeetsSeq.EqGives a b (eqVal a b) ∧ eqVal a b = keqb x y := by
  cases x with
  | int i =>
    cases y with
    | int j =>
      cases rx; cases ry
      obtain ⟨t, rfl⟩ := ra
      obtain ⟨t', rfl⟩ := rb
      exact ⟨MeetsSeq.EqGives.int i j t t', by simp only [keqb, eqVal]⟩
    | _ => cases h
  | str p =>
    cases y with
    | str q =>
      obtain ⟨_, rfl⟩ := rx
      obtain ⟨_, rfl⟩ := ry
      obtain ⟨t, rfl⟩ := ra
      obtain ⟨t', rfl⟩ := rb
      refine ⟨eqGives_str (sv p) (sv q) t t', ?_⟩
      simp only [keqb, eqVal]
      rw [Bool.eq_iff_iff]
      simp [sv_inj]
    | _ => cases h
  | _ => cases h
section
variable {cA : CA} {fz lk : List Nat} {X : L2.Cx}
theorem mL_remove (hz : ∀ n ∈ fz, n ∈ lk) : L2.MtM X "list.remove" (rmL cA fz lk "remove") := by
  intro pins s σ H x vs v us' Q I rx rv ⟨ρ, h, n, a, us, ys, ws, E, ex, ha, e, rr, z, rh, rw, g⟩
  subst ex
  rcases ws with _ | ⟨y, _ | ⟨y2, r⟩⟩
  · exact (show False from g).elim
  · obtain ⟨u, rfl, ru⟩ := rws1 rw
    have g : Good cA fz RW (guardR (ys.all fun z => sameF z y) (thenO (ys.findIdx? (fun z => keqb z y)) fun j => putV lk n (.lst (ys.eraseIdx j)) .non h)) ρ H Q E := g
    obtain ⟨el, g⟩ := g.guardR
    obtain ⟨j, ej, g⟩ := g.thenO
    obtain ⟨hp, q⟩ := lput hz ha z rh (rr.eraseIdx j) (show RW ρ H .non .non from rfl) g
    cases rx
    obtain ⟨w, rfl, rw'⟩ := rv.one
    obtain ⟨z1, its, m1, r1, l1, e1⟩ := lstR I (.inl hp)
    obtain ⟨hj, hk, hno⟩ := List.findIdx?_eq_some_iff_getElem.mp ej
    have hl : ys.length = its.length := by rw [rr.length]; exact r1.length
    have eachv : ∀ (i : Nat) (hi : i < ys.length), ∃ t : Value, its[i]? = some t ∧ MeetsSeq.EqGives t w (eqVal t w) ∧ eqVal t w = keqb ys[i] y := fun i hi => by
      obtain ⟨v, hv, rv⟩ := rr.get (List.getElem?_eq_getElem hi)
      obtain ⟨t, ht, rt⟩ := r1.get hv
      exact ⟨t, ht, keqb_flat (List.all_eq_true.mp el _ (List.getElem_mem hi)) rv rt ru rw'⟩
    refine call_meets PySem.F.slot_list_remove ⟨_, e1, rfl⟩ PySem.F.entry_list_remove (PySem.F.args_list_remove_2 _ _)
      (MeetsSeq.list_remove a its.toArray m1 w (fun t => eqVal t w) (fun t ht => ?_) j (by rw [List.size_toArray]; omega) ?_ ?_ (by rw [List.size_toArray]; omega)) ⟨e1, ?_⟩
    · obtain ⟨i, hi, rfl⟩ := List.getElem_of_mem (show t ∈ its by simpa using ht)
      obtain ⟨t', ht', q1, _⟩ := eachv i (by omega)
      rw [List.getElem?_eq_getElem hi] at ht'
      cases ht'
      exact q1
    · obtain ⟨t', ht', _, q2⟩ := eachv j hj
      rw [List.getElem?_eq_getElem (by omega)] at ht'
      cases ht'
      show eqVal its[j] w = true
      rw [q2]; exact hk
    · intro m hm hmj
      have hm' : m < its.length := by simpa using hm
      obtain ⟨t', ht', _, q2⟩ := eachv m (by omega)
      rw [List.getElem?_eq_getElem hm'] at ht'
      cases ht'
      show eqVal its[m] w = false
      rw [q2]
      have := hno m hmj
      simpa using this
    · have r2 := r1.eraseIdx j
      refine ⟨.non, _, I.lset (its' := its.eraseIdx j) (t' := s.toks) hp e1 ?_ r2 ?_, rfl, q⟩
      · show its.toArray.eraseIdxIfInBounds j = (its.eraseIdx j).toArray
        rw [List.eraseIdxIfInBounds_toArray]
      · have := List.length_eraseIdx_le (i := j) (l := us)
        omega
  · cases y <;> exact (show False from g).elim
/-! ### min, max -/
theorem minI_spec : ∀ {ns : List Int} {m : Int}, minI ns = some m → m ∈ ns ∧ ∀ y ∈ ns, m ≤ y
  | [], m, h => by cases h
  | [x], m, h => by cases h; simp
  | x :: y :: r, m, h => by
    simp only [minI, Option.map_eq_some_iff] at h
    obtain ⟨k, hk, rfl⟩ := h
    obtain ⟨h1, h2⟩ := minI_spec hk
    split
    · exact ⟨List.mem_cons_of_mem _ h1, fun z hz => (List.mem_cons.mp hz).elim (fun e => by omega) (h2 z)⟩
    · exact ⟨List.mem_cons_self, fun z hz => (List.mem_cons.mp hz).elim (fun e => by omega) fun hz => by have := h2 z hz; omega⟩
theorem maxI_spec : ∀ {ns : List Int} {m : Int}, maxI ns = some m → m ∈ ns ∧ ∀ y ∈ ns, y ≤ m
  | [], m, h => by cases h
  | [x], m, h => by cases h; simp
  | x :: y :: r, m, h => by
    simp only [maxI, Option.map_eq_some_iff] at h
    obtain ⟨k, hk, rfl⟩ := h
    obtain ⟨h1, h2⟩ := maxI_spec hk
    split
    · exact ⟨List.mem_cons_of_mem _ h1, fun z hz => (List.mem_cons.mp hz).elim (fun e => by omega) (h2 z)⟩
    · exact ⟨List.mem_cons_self, fun z hz => (List.mem_cons.mp hz).elim (fun e => by omega) fun hz => by have := h2 z hz; omega⟩
theorem blt_min (hc : X.calm = true) : L2.CallR X (.builtin "min") (rBlt cA lk .min) := by
  intro pins s σ H xs us Q I r ⟨ρ, h, ws, E, rh, rw', g⟩
  match ws, rw', g with
  | [], _, g => exact (show False from g).elim
  | _ :: _ :: _, _, g => exact (show False from g).elim
  | [x], rw', g =>
    have g : Good cA lk RW (thenO (lstV x h) fun p => .of (((intsV p).bind minI).map .int) h) ρ H Q E := g
    obtain ⟨p, e, g2⟩ := g.thenO
    clear g
    obtain ⟨z, e2, g3⟩ := g2.of
    clear g2
    simp only [Option.map_eq_some_iff, Option.bind_eq_some_iff] at e2
    obtain ⟨m, ⟨ns, e2, em⟩, rfl⟩ := e2
    obtain ⟨v, rfl, rv⟩ := rws1 rw'
    cases x with
    | ref n =>
      obtain ⟨a, rfl, ha⟩ := rv
      unfold lstV at e
      simp only at e
      split at e
      · rename_i ys e1
        cases e
        obtain ⟨a', ha', vs, rr, z⟩ := rh.get e1
        rw [ha] at ha'; cases ha'
        have ev := RWs.intsOf e2 rr
        subst ev
        obtain ⟨h1, h2⟩ := minI_spec em
        refine L2.cr_min hc pins s σ H _ us Q I r ⟨a, ns, rfl, z.seqL, List.length_pos_of_mem h1, fun k k1 k2 => ?_⟩
        have : k = m := by have := k2 m h1; have := h2 k k1; omega
        subst this
        exact Good.here (w := MP.W.int k) g3 rh rfl
      · cases e
    | _ => cases e
theorem blt_max (hc : X.calm = true) : L2.CallR X (.builtin "max") (rBlt cA lk .max) := by
  intro pins s σ H xs us Q I r ⟨ρ, h, ws, E, rh, rw', g⟩
  match ws, rw', g with
  | [], _, g => exact (show False from g).elim
  | _ :: _ :: _, _, g => exact (show False from g).elim
  | [x], rw', g =>
    have g : Good cA lk RW (thenO (lstV x h) fun p => .of (((intsV p).bind maxI).map .int) h) ρ H Q E := g
    obtain ⟨p, e, g2⟩ := g.thenO
    clear g
    obtain ⟨z, e2, g3⟩ := g2.of
    clear g2
    simp only [Option.map_eq_some_iff, Option.bind_eq_some_iff] at e2
    obtain ⟨m, ⟨ns, e2, em⟩, rfl⟩ := e2
    obtain ⟨v, rfl, rv⟩ := rws1 rw'
    cases x with
    | ref n =>
      obtain ⟨a, rfl, ha⟩ := rv
      unfold lstV at e
      simp only at e
      split at e
      · rename_i ys e1
        cases e
        obtain ⟨a', ha', vs, rr, z⟩ := rh.get e1
        rw [ha] at ha'; cases ha'
        have ev := RWs.intsOf e2 rr
        subst ev
        obtain ⟨h1, h2⟩ := maxI_spec em
        refine L2.cr_max hc pins s σ H _ us Q I r ⟨a, ns, rfl, z.seqL, List.length_pos_of_mem h1, fun k k1 k2 => ?_⟩
        have : k = m := by have := k2 m h1; have := h2 k k1; omega
        subst this
        exact Good.here (w := MP.W.int k) g3 rh rfl
      · cases e
    | _ => cases e
end
/-! ### the table of methods -/
def mthsOk : List String := ["append", "extend", "clear", "copy", "pop", "get", "setdefault", "split", "partition", "rpartition", "remove"]
theorem mok {cA : CA} {fz lk : List Nat} {X : L2.Cx} (hu : X.A.units + 64 < cLine) (hz : ∀ n ∈ fz, n ∈ lk) {m : String} (h : m ∈ mthsOk) : MOk cA fz lk X m := by
  simp only [mthsOk, List.mem_cons, List.mem_nil_iff, or_false] at h
  rcases h with rfl | rfl | rfl | rfl | rfl | rfl | rfl | rfl | rfl | rfl | rfl
  · exact ⟨fun _ => ⟨_, F.slot_list_append, F.type_list_append, mL_append hz⟩, fun h => absurd h (by decide), fun h => absurd h (by decide)⟩
  · exact ⟨fun _ => ⟨_, F.slot_list_extend, F.type_list_extend, mL_extend hz⟩, fun h => absurd h (by decide), fun h => absurd h (by decide)⟩
  · exact ⟨fun _ => ⟨_, F.slot_list_clear, F.type_list_clear, mL_clear hz⟩, fun _ => ⟨_, F.slot_dict_clear, F.type_dict_clear, mD_clear hz⟩, fun h => absurd h (by decide)⟩
  · exact ⟨fun _ => ⟨_, F.slot_list_copy, F.type_list_copy, mL_copy⟩, fun _ => ⟨_, F.slot_dict_copy, F.type_dict_copy, mD_copy⟩, fun h => absurd h (by decide)⟩
  · exact ⟨fun _ => ⟨_, F.slot_list_pop, F.type_list_pop, mL_pop hz⟩, fun _ => ⟨_, F.slot_dict_pop, F.type_dict_pop, mD_pop hu hz⟩, fun h => absurd h (by decide)⟩
  · exact ⟨fun h => absurd h (by decide), fun _ => ⟨_, F.slot_dict_get, F.type_dict_get, mD_get hu⟩, fun h => absurd h (by decide)⟩
  · exact ⟨fun h => absurd h (by decide), fun _ => ⟨_, F.slot_dict_setdefault, F.type_dict_setdefault, mD_setd hu hz⟩, fun h => absurd h (by decide)⟩
  · exact ⟨fun h => absurd h (by decide), fun h => absurd h (by decide), fun _ => ⟨_, F.slot_str_split, F.type_str_split, mS_split⟩⟩
  · exact ⟨fun h => absurd h (by decide), fun h => absurd h (by decide), fun _ => ⟨_, F.slot_str_partition, F.type_str_partition, mS_partition⟩⟩
  · exact ⟨fun h => absurd h (by decide), fun h => absurd h (by decide), fun _ => ⟨_, F.slot_str_rpartition, F.type_str_rpartition, mS_rpartition⟩⟩
  · exact ⟨fun _ => ⟨_, F.slot_list_remove, F.type_list_remove, mL_remove hz⟩, fun h => absurd h (by decide), fun h => absurd h (by decide)⟩
theorem mths_ne {m : String} (h : m ∈ mthsOk) : m ≠ "bit_length" := fun e => by subst e; exact absurd h (by decide)
end MP

namespace MP
open PySem PySem.Spec PyProof.Rows
/-! ### list(..) and tuple(..) of what is walked from its end -/
section
variable {prog : Program} {w : World} {A : Around} {E : Value → Shared → Prop} {s : Shared} {it l : Addr} {items : Array Value}
/-- how long it may be is not asked -/
def NoHint (prog : Program) (w : World) (T : String) : Prop := ∀ (A : Around) (E : Value → Shared → Prop) (s : Shared) (it : Addr) (Q : Bool → Shared → Prop), s.TypeIs (.ref it) T → Q false s → wpAny (model prog w) A (Builtin.List.listLengthHint (.ref it)) Q E s
theorem noHint_lri : NoHint prog w "list_reverseiterator" := fun A E s it Q hT hQ => by
  unfold Builtin.List.listLengthHint
  refine wpAny_bind (wpAny_specialOf hT RT.nolen_lri ?_)
  show wpAny _ A (specialOf (Value.ref it) (Str.ofString "__length_hint__") >>= _) _ _ _
  refine wpAny_bind (wpAny_specialOf hT RT.hint_lri ?_)
  generalize hid : ("list_reverseiterator.__length_hint__" : String) = id0
  wp_delta
  rw [show splitId id0 = some ("list_reverseiterator", "__length_hint__") from by subst hid; decide +kernel]
  subst hid
  refine wpAny_bind (wpAny_isInstance (b := true) hT (by rw [isSubtype_type]; kernel_rfl) ?_)
  exact wpAny_pure hQ
theorem call_list_rev {Q : Value → Shared → Prop} (hh : A.handled = none) (hit : s.heap.IsRevIter it l ((items.size : Int) - 1)) (hl : s.heap.IsList l items) (hne : l ≠ it) (hn : items.size ≤ sizeLine)
    (hQ : ∀ (h' : Heap) (tk : Nat) (acc : Array Value) (c' : Nat), (∀ b o, b ≠ it → s.heap.get? b = some o → h'.get? b = some o) → h'.get? s.heap.objs.size = some (seqObj "list" acc c') → ItemsOf (fun i v => items[items.size - 1 - i]? = some v) acc items.size → Q (.ref s.heap.objs.size) { s with heap := h', toks := tk }) :
    wpAny (model prog w) A (call (.type "list") [.ref it]) Q E s := by
  obtain ⟨oi, hoi, _⟩ := id hit
  obtain ⟨ol, hol, _⟩ := id hl
  have hSi : s.heap.objs.size ≠ it := Nat.ne_of_gt (Heap.lt_size hoi)
  have hSl : s.heap.objs.size ≠ l := Nat.ne_of_gt (Heap.lt_size hol)
  have hSf : s.heap.objs.size ∉ [it, l] := by simp only [List.mem_cons, List.not_mem_nil, or_false, not_or]; exact ⟨hSi, hSl⟩
  refine callType_codes (Q₁ := fun obj s₁ => obj = .ref s.heap.objs.size ∧ s₁ = { s with heap := s.heap.push { cls := .type "list", data := .seq #[] } }) F.called_list (F.typeCall_list_1 _) F.entry_list_init
    (code_list_new _ ⟨rfl, rfl⟩) fun obj s₁ h₁ => ?_
  obtain ⟨rfl, rfl⟩ := h₁
  have hS : (s.heap.push { cls := .type "list", data := .seq #[] }).get? s.heap.objs.size = some { cls := .type "list", data := .seq #[] } := Heap.get?_push_size _ rfl
  refine ⟨⟨_, hS, rfl⟩, F.args_list_init_2 _ _, ?_⟩
  show wpAny _ _ (do let old ← Builtin.List.listItems (.ref s.heap.objs.size); Builtin.List.listUpdate (.ref s.heap.objs.size) (fun _ => #[]); letGo old.toList.reverse; Builtin.List.listExtendWith (.ref s.heap.objs.size) (.ref it) .none) _ _ _
  refine wpAny_bind ?_
  unfold Builtin.List.listItems
  refine wpAny_bind (wpAny_seqItems hS rfl (wpAny_pure ?_))
  show wpAny _ _ (updateSeq s.heap.objs.size (fun _ => #[]) >>= fun _ => letGo (#[] : Array Value).toList.reverse >>= fun _ => Builtin.List.listExtendWith (.ref s.heap.objs.size) (.ref it) .none) _ _ _
  refine wpAny_bind (wpAny_updateSeq hS rfl ?_)
  have hS₂ := Heap.get?_update_self (Obj.mapSeq (fun _ => (#[] : Array Value))) hS rfl
  refine wpAny_bind (wpAny_letGo ?_)
  have old : ∀ b o, b ≠ s.heap.objs.size → s.heap.get? b = some o → ((s.heap.push { cls := .type "list", data := .seq #[] }).update s.heap.objs.size (Obj.mapSeq (fun _ => (#[] : Array Value)))).get? b = some o := fun b o hb e => by
    rw [Heap.get?_update_ne _ _ _ _ hb]; exact Heap.get?_push_of_some _ e
  have hit1 : ((s.heap.push { cls := .type "list", data := .seq #[] }).update s.heap.objs.size (Obj.mapSeq (fun _ => (#[] : Array Value)))).IsRevIter it l ((items.size : Int) - 1) := hit.at fun o e => old _ o hSi.symm e
  have hl1 : ((s.heap.push { cls := .type "list", data := .seq #[] }).update s.heap.objs.size (Obj.mapSeq (fun _ => (#[] : Array Value)))).IsList l items := by
    obtain ⟨o, e, h1, n, h2⟩ := hl
    exact ⟨o, old _ o hSl.symm e, h1, n, h2⟩
  have h1 : Builtin.List.listSameRef (.ref s.heap.objs.size) (.ref it) = false := by simp [Builtin.List.listSameRef, hSi]
  unfold Builtin.List.listExtendWith
  have hT : ({ s with heap := (s.heap.push { cls := .type "list", data := .seq #[] }).update s.heap.objs.size (Obj.mapSeq (fun _ => (#[] : Array Value))) } : Shared).TypeIs (.ref it) "list_reverseiterator" := Heap.IsRevIter.typeIs (s := { s with heap := (s.heap.push { cls := .type "list", data := .seq #[] }).update s.heap.objs.size (Obj.mapSeq (fun _ => (#[] : Array Value))) }) hit1
  refine wpAny_bind (wpAny_typeOf hT ?_)
  rw [if_neg (by rw [h1]; decide)]
  refine wpAny_bind (wpAny_pyIter_revIter (s := { s with heap := (s.heap.push { cls := .type "list", data := .seq #[] }).update s.heap.objs.size (Obj.mapSeq (fun _ => (#[] : Array Value))) }) hit1 ?_)
  refine wpAny_bind (wpAny_holding ?_)
  refine noHint_lri _ _ _ _ _ hT ?_
  rw [if_neg (by decide)]
  have e0 : ((items.size : Nat) : Int) - 1 - ((0 : Nat) : Int) = (items.size : Int) - 1 := by omega
  refine wpAny_pure ⟨plainId_quiet F.plain_extend_loop _, codeAny_extend_loopS (Walks.listRev (prog := prog) (w := w) (by exact hh) it l hne items).toS hn _ hSf _ items.size 0 _ _ _ rfl (Nat.zero_le _) ⟨Nat.zero_le _, by rw [e0]; exact hit1, hl1⟩ hS₂ (ItemsOf.nil _) fun s' acc' c' hm hS' hacc => ?_⟩
  refine ⟨rfl, ?_⟩
  rw [Moved.eq_with hm]
  refine hQ s'.heap s'.toks acc' c' (fun b o hb e => hm.heap b o (fun hmem => ?_) (old b o (Nat.ne_of_lt (Heap.lt_size e)) e)) hS' hacc
  rcases List.mem_cons.mp hmem with e' | hmem
  · exact absurd (Heap.lt_size e) (by rw [e']; exact Nat.lt_irrefl _)
  · exact hb (List.mem_singleton.mp hmem)
end
theorem R.bind_assoc {α β γ : Type} {r : MP.R α} {f : α → Hp → MP.R β} {g : β → Hp → MP.R γ} : (r.bind f).bind g = r.bind fun x h => (f x h).bind g := by cases r <;> rfl
section
variable {cA : CA} {fz : List Nat} {M : Cx} {W : L2.WX} {X : L2.Cx} {pos p2 p pos2 : Pos} {a b c e : Expr} {ma mb mc me : Ex} {ρ ρ1 : List Addr} {H H1 : HH} {h : Hp}
theorem k_listRev (hc : X.calm = true) (hg : L2.Gl X "list") (hm : X.mg "list" = none) (hg2 : L2.Gl X "reversed") (hm2 : X.mg "reversed" = none) (he : L2.PE X e (tE cA fz M W me)) (hs : starEach [e] X.env = (false, eval e X.env) :: starEach [] X.env)
    (hs2 : starEach [.Call (.Name "reversed" p2) [e] [] pos2] X.env = (false, eval (.Call (.Name "reversed" p2) [e] [] pos2) X.env) :: starEach [] X.env) :
    L2.PE X (.Call (.Name "list" p) [.Call (.Name "reversed" p2) [e] [] pos2] [] pos) (tE cA fz M W (.listOf (.rev me))) := by
  refine ⟨fun pins s σ H Q I h => ?_⟩
  have h : tG cA fz W RW (fun env h => (ev M me env h).bind fun x h => (MP.R.of ((walkL x h).map fun p => (p.1.reverse, p.2)) h).bind fun p h => guardR (decide (p.1.length ≤ LINE)) (mk (.lst p.1) h)) σ H Q := by
    obtain ⟨ρ, env, h, rh, re, g⟩ := h
    exact ⟨ρ, env, h, rh, re, by simpa only [ev, walk, R.bind_assoc] using g⟩
  have h2 : tE cA fz M W me σ H (fun x H1 => ∃ (a : Addr) (xs : List Vv), x = .ref a ∧ L2.SqL X.K H1 a xs ∧ ∀ q, H1 q = none → Q (.ref q) (L2.upd H1 q (.lst xs.reverse))) := by
    obtain ⟨ρ, env, h, rh, re, g⟩ := h
    refine ⟨ρ, env, h, rh, re, Good.bind (f := fun x h => (MP.R.of ((walkL x h).map fun p => (p.1.reverse, p.2)) h).bind fun p h => guardR (decide (p.1.length ≤ LINE)) (mk (.lst p.1) h)) g fun w h1 ρ1 v H1 e x rh1 rv g1 => ?_⟩
    cases w with
    | ref n =>
      cases hr : rd h1 n with
      | none => simp only [walkL, walkO, hr] at g1; exact g1.elim
      | some o =>
        cases o with
        | lst xs =>
          simp only [walkL, walkO, hr] at g1
          obtain ⟨a, rfl, ha⟩ := rv
          obtain ⟨a', ha', vs, rr, z⟩ := rh1.get hr
          rw [ha] at ha'; cases ha'
          have g1 : Good cA fz RW (guardR (decide (xs.reverse.length ≤ LINE)) (mk (.lst xs.reverse) h1)) ρ1 H1 Q (L2.WE W σ) := g1
          exact ⟨a, vs, rfl, z.seqL, mk_lst g1.guardR.2 rh1 rr.reverse⟩
        | _ => simp only [walkL, walkO, hr] at g1; exact g1.elim
    | _ => exact (show False from g1).elim
  refine Call_ (L2.ld_blt I hg hm boot_list (PyProof.Rows.callWith_type1 (args_cons (Call_ (L2.ld_blt I hg2 hm2 PyProof.Rows.boot_reversed (PyProof.Rows.callWith_type1 (args_cons (L2.thn (he.run pins s σ H _ I h2) fun u s1 ⟨v, H1, I1, r1, q1⟩ => args_nil ?_) hs) hs rfl))) hs2) hs2 rfl))
  obtain ⟨a, xs, ev, hq, q⟩ := q1
  subst ev
  obtain rfl : u = Value.ref a := r1
  obtain ⟨its, rv, p', hz⟩ := I1.list hq
  refine call_reversed_list p'.isList (args_nil ?_)
  have hl := p'.isList
  obtain ⟨ol, hol, _⟩ := id hl
  have hne : a ≠ s1.heap.objs.size := Nat.ne_of_lt (Heap.lt_size hol)
  have hn : its.toArray.size ≤ sizeLine := by rw [List.size_toArray, ← rv.length]; exact hz
  refine call_list_rev (s := { s1 with heap := s1.heap.push (revObj a ((its.toArray.size : Int) - 1)) }) (I1.ok.hd hc) ⟨_, Heap.get?_push_size _ rfl, rfl, rfl⟩ (hl.push _) hne hn fun h' tk acc c' hk hD hi => ?_
  have kp : ∀ b o, s1.heap.get? b = some o → h'.get? b = some o := fun b o e => hk b o (Nat.ne_of_lt (Heap.lt_size e)) (Heap.get?_push_of_some _ e)
  have hsz : (s1.heap.push (revObj a ((its.toArray.size : Int) - 1))).objs.size = s1.heap.objs.size + 1 := size_push' _ _
  refine ⟨.ref _, L2.upd H1 (s1.heap.push (revObj a ((its.toArray.size : Int) - 1))).objs.size (.lst xs.reverse), I1.laid (t' := tk) kp (by rw [hsz]; exact Nat.le_succ _) (show L2.ObjOk X.prog X.w _ _ _ (.lst xs.reverse) from ⟨by rw [List.length_reverse]; exact hz, acc.toList, c', RT.vals_rev rv hi, ?_⟩), rfl, q _ (I1.hok.fresh (by rw [hsz]; exact Nat.le_succ _))⟩
  rw [Array.toArray_toList]
  exact hD
theorem k_tupRev (hc : X.calm = true) (hg : L2.Gl X "tuple") (hm : X.mg "tuple" = none) (hg2 : L2.Gl X "reversed") (hm2 : X.mg "reversed" = none) (he : L2.PE X e (tE cA fz M W me)) (hs : starEach [e] X.env = (false, eval e X.env) :: starEach [] X.env)
    (hs2 : starEach [.Call (.Name "reversed" p2) [e] [] pos2] X.env = (false, eval (.Call (.Name "reversed" p2) [e] [] pos2) X.env) :: starEach [] X.env) :
    L2.PE X (.Call (.Name "tuple" p) [.Call (.Name "reversed" p2) [e] [] pos2] [] pos) (tE cA fz M W (.tupOf (.rev me))) :=
  PE.imp (RT.pe_tupRev hc hg hm hg2 hm2 he hs hs2) fun σ H Q h => by
    obtain ⟨ρ, env, h, rh, re, g⟩ := h
    have g : Good cA fz RW ((ev M me env h).bind fun x h => (MP.R.of ((walkL x h).map fun p => (p.1.reverse, p.2)) h).bind fun p h => .ok (MP.W.tup p.1) h) ρ H Q (L2.WE W σ) := by simpa only [ev, walk, R.bind_assoc] using g
    refine ⟨ρ, env, h, rh, re, Good.bind (f := fun x h => (MP.R.of ((walkL x h).map fun p => (p.1.reverse, p.2)) h).bind fun p h => .ok (MP.W.tup p.1) h) g fun w h1 ρ1 v H1 e x rh1 rv g1 => ?_⟩
    cases w with
    | ref n =>
      cases hr : rd h1 n with
      | none => simp only [walkL, walkO, hr] at g1; exact g1.elim
      | some o =>
        cases o with
        | lst xs =>
          simp only [walkL, walkO, hr] at g1
          obtain ⟨a, rfl, ha⟩ := rv
          obtain ⟨a', ha', vs, rr, z⟩ := rh1.get hr
          rw [ha] at ha'; cases ha'
          exact ⟨a, vs, rfl, z.seqL, mk_tup g1 rh1 rr.reverse⟩
        | _ => simp only [walkL, walkO, hr] at g1; exact g1.elim
    | _ => exact (show False from g1).elim
theorem rgV_RWs (i j : Int) : RWs ρ H (rangeW i j) (L2.rgV i j) := by
  unfold rangeW L2.rgV
  induction (List.range (j - i).toNat) with
  | nil => rfl
  | cons k l ih => exact ⟨_, _, rfl, rfl, ih⟩
theorem k_listRng (hc : X.calm = true) (hg : L2.Gl X "list") (hm : X.mg "list" = none) (hg2 : L2.Gl X "range") (hm2 : X.mg "range" = none) (he : L2.PE X e (tE cA fz M W me)) (hs : starEach [e] X.env = (false, eval e X.env) :: starEach [] X.env)
    (hs2 : starEach [.Call (.Name "range" p2) [e] [] pos2] X.env = (false, eval (.Call (.Name "range" p2) [e] [] pos2) X.env) :: starEach [] X.env) :
    L2.PE X (.Call (.Name "list" p) [.Call (.Name "range" p2) [e] [] pos2] [] pos) (tE cA fz M W (.listOf (.rng me))) :=
  PE.imp (L2.pe_listRg hc hg hm (L2.prg_1 hg2 hm2 he hs) hs2) fun σ H Q h => by
    obtain ⟨ρ, env, h, rh, re, g⟩ := h
    have g : Good cA fz RW ((ev M me env h).bind fun x h => (MP.R.of ((rng1 x).map fun l => (l, [])) h).bind fun (p : List MP.W × List Nat) h => guardR (decide (p.1.length ≤ LINE)) (mk (.lst p.1) h)) ρ H Q (L2.WE W σ) := by simpa only [ev, walk, R.bind_assoc] using g
    refine ⟨ρ, env, h, rh, re, Good.bind (f := fun x h => (MP.R.of ((rng1 x).map fun l => (l, [])) h).bind fun (p : List MP.W × List Nat) h => guardR (decide (p.1.length ≤ LINE)) (mk (.lst p.1) h)) g fun w h1 ρ1 v H1 e x rh1 rv g1 => ?_⟩
    cases w with
    | int n =>
      cases rv
      by_cases hn : small62 n = true
      · simp only [rng1, hn, if_true] at g1
        have g1 : Good cA fz RW (guardR (decide ((rangeW 0 n).length ≤ LINE)) (mk (.lst (rangeW 0 n)) h1)) ρ1 H1 Q (L2.WE W σ) := g1
        obtain ⟨hl, g1⟩ := g1.guardR
        obtain ⟨b1, b2⟩ := small_ok hn
        have hl := of_decide_eq_true hl
        have hl : (n - 0).toNat ≤ LINE := by simpa [rangeW] using hl
        refine ⟨n, rfl, ⟨by omega, by omega, b1, b2, ?_⟩, mk_lst g1 rh1 (rgV_RWs 0 n)⟩
        simp only [LINE] at hl
        omega
      · simp only [rng1, hn] at g1; exact (show False from g1).elim
    | _ => exact (show False from g1).elim
/-- list(d.values()) -/
theorem k_listVals {apos cpos : Pos} (hc : X.calm = true) (hg : L2.Gl X "list") (hm : X.mg "list" = none) (he : L2.PE X e (tE cA fz M W me)) (hbase : attributeBase e "values" X.env (eval e X.env) = eval e X.env) (hline : (apos.endLine == cpos.line) = true)
    (hs2 : starEach [.Call (.Attribute e "values" apos) [] [] cpos] X.env = (false, eval (.Call (.Attribute e "values" apos) [] [] cpos) X.env) :: starEach [] X.env) :
    L2.PE X (.Call (.Name "list" p) [.Call (.Attribute e "values" apos) [] [] cpos] [] pos) (tE cA fz M W (.listOf (.vals me))) := by
  refine ⟨fun pins s σ H Q I h => ?_⟩
  obtain ⟨ρ, env, h, rh, re, g⟩ := h
  have g : Good cA fz RW ((ev M me env h).bind fun x h => (MP.R.of (valsD x h) h).bind fun p h => guardR (decide (p.1.length ≤ LINE)) (mk (.lst p.1) h)) ρ H Q (L2.WE W σ) := by simpa only [ev, walk, R.bind_assoc] using g
  have h2 : tE cA fz M W me σ H (fun x H1 => ∃ (a : Addr) (ρ1 : List Addr) (P : Prop) (kvs : List (MP.W × MP.W)), x = .ref a ∧ RO cA ρ1 H1 P a (.dct kvs) ∧ (kvs.all fun p => isFlat p.1) = true ∧ ∀ vs, RWs ρ1 H1 (kvs.map (·.2)) vs → ∀ q, H1 q = none → Q (.ref q) (L2.upd H1 q (.lst vs))) := by
    refine ⟨ρ, env, h, rh, re, Good.bind (f := fun x h => (MP.R.of (valsD x h) h).bind fun p h => guardR (decide (p.1.length ≤ LINE)) (mk (.lst p.1) h)) g fun w h1 ρ1 v H1 e x rh1 rv g1 => ?_⟩
    cases w with
    | ref n =>
      cases hr : rd h1 n with
      | none => simp only [valsD, dVals, hr] at g1; exact g1.elim
      | some o =>
        cases o with
        | dct kvs =>
          simp only [valsD, dVals, hr] at g1
          by_cases fl : (kvs.all fun p => isFlat p.1) = true
          · rw [if_pos fl] at g1
            have g1 : Good cA fz RW (guardR (decide ((kvs.map (·.2)).length ≤ LINE)) (mk (.lst (kvs.map (·.2))) h1)) ρ1 H1 Q (L2.WE W σ) := g1
            obtain ⟨a, rfl, ha⟩ := rv
            obtain ⟨a', ha', ro⟩ := rh1.get hr
            rw [ha] at ha'; cases ha'
            exact ⟨a, ρ1, _, kvs, rfl, ro, fl, fun vs rr => mk_lst g1.guardR.2 rh1 rr⟩
          · rw [if_neg fl] at g1; exact g1.elim
        | _ => simp only [valsD, dVals, hr] at g1; exact g1.elim
    | _ => exact (show False from g1).elim
  refine Call_ (L2.ld_blt I hg hm boot_list (PyProof.Rows.callWith_type1 (args_cons (wpAny_Call_method (T := "dict") (id := "dict.values") hbase rfl hline F.plainAttrs_dict F.slot_dict_values F.type_dict_values (L2.thn (he.run pins s σ H _ I h2) fun u s1 ⟨x, H1, I1, rx, q1⟩ => ?_)) hs2) hs2 rfl))
  obtain ⟨a, ρ1, P, kvs, ex, ro, fl, q⟩ := q1
  subst ex
  obtain rfl : u = Value.ref a := rx
  obtain ⟨ks, vs, r, n, rel, dd, zl, hd⟩ := dct_mix I1 ro fl
  refine ⟨dd.typeIs, dd.mapOf.noDict, ?_⟩
  show wpAny _ _ (callWith cpos (.builtin "dict.values") [.ref a] [] []) _ X.xe s1
  refine method_meetsIn F.slot_dict_values F.entry_dict_values rfl (PySem.evalArgs_none ⟨rfl, dd.typeIs, F.args_dict_values_1 _, _, meets_dict_values (L2.mixKind X.prog X.w) a hd, ⟨vs, dd⟩, args_nil ?_⟩)
  obtain ⟨ep, hat⟩ := dd.dictAt
  have hl : vs.length ≤ sizeLine := by rw [← rel.length]; exact zl
  refine PySem.W.kdl_call (s := { s1 with heap := s1.heap.push { cls := .type "dict_values", data := .fields #[.ref a] } }) (PySem.W.kdl_values (knd := L2.mixKind X.prog X.w) (kvs := vs) (ep := ep)) (I1.ok.hd hc) ⟨⟨_, Heap.get?_push_size _ rfl, rfl, rfl⟩, hat.push _⟩ hl fun h' tk acc' c' kp hD hi => ?_
  have kp1 : ∀ b o, s1.heap.get? b = some o → h'.get? b = some o := fun b o e => kp b o (Heap.get?_push_of_some _ e)
  have rr : RWs ρ1 H1 (kvs.map (·.2)) (ks.map (·.2)) := by
    clear rel dd hat hi fl ro q
    unfold RPs at r
    induction r with
    | nil => rfl
    | @cons p q ps qs r1 r2 ih => exact ⟨_, _, rfl, r1.2, ih (by simpa using (List.nodup_cons.mp n).2) (by simp at zl; omega)⟩
  have rv : L2.Vals (ks.map (·.2)) acc'.toList := by
    refine L2.vals_of_at (by rw [List.length_map, rel.length]; exact hi.1.symm.trans (by simp)) fun j x u hx hu => ?_
    obtain ⟨k, hk⟩ := hi.2 j u (by rw [← Array.getElem?_toList]; exact hu)
    rw [List.getElem?_map] at hx
    cases hj : ks[j]? with
    | none => rw [hj] at hx; cases hx
    | some kv =>
      rw [hj] at hx
      cases hx
      obtain ⟨kv', hkv, rk⟩ := pairedAt rel hj
      rw [hk] at hkv
      cases hkv
      exact rk.2
  have hsz : (s1.heap.push { cls := .type "dict_values", data := .fields #[.ref a] }).objs.size = s1.heap.objs.size + 1 := size_push' _ _
  refine ⟨.ref _, L2.upd H1 (s1.heap.push { cls := .type "dict_values", data := .fields #[.ref a] }).objs.size (.lst (ks.map (·.2))), I1.laid (t' := tk) kp1 (by rw [hsz]; exact Nat.le_succ _) (show L2.ObjOk X.prog X.w _ _ _ (.lst (ks.map (·.2))) from ⟨by rw [List.length_map]; exact zl, acc'.toList, c', rv, ?_⟩), rfl, q _ rr _ (I1.hok.fresh (by rw [hsz]; exact Nat.le_succ _))⟩
  rw [Array.toArray_toList]
  exact hD
end
end MP

namespace MP
open PySem PySem.Spec PyProof.Rows
/-! ### f-strings of texts and ints -/
def RFm : Rel (List Nat) Vv := fun _ _ s v => s.length ≤ LINE ∧ v = .str (sv s)
theorem intText_len {i : Int} (e : i.natAbs < 2 ^ 1900) : (intText i).length ≤ LINE := by
  unfold intText
  have := natDigits_len e
  simp only [LINE]
  split
  · simp only [List.length_cons]; omega
  · omega
section
variable {cA : CA} {fz : List Nat} {M : Cx} {W : L2.WX} {X : L2.Cx} {pos p : Pos} {e : Expr} {me : Ex}
abbrev tFm (cA : CA) (fz : List Nat) (M : Cx) (W : L2.WX) (m : Ex) : L2.TE := tG cA fz W RFm fun env h => (ev M m env h).bind fun x h => MP.R.of (fmtS x) h
theorem k_fmt (he : L2.PE X e (tE cA fz M W me)) : L2.PE X (.FormattedValue e (-1) none pos) (tFm cA fz M W me) :=
  PE.imp (L2.pe_fmt he) fun σ H Q h => by
    obtain ⟨ρ, env, h, rh, re, g⟩ := h
    refine ⟨ρ, env, h, rh, re, Good.bind (f := fun x h => MP.R.of (fmtS x) h) g fun w h1 ρ1 v H1 e x rh1 rv g1 => ?_⟩
    obtain ⟨y, ey, g1⟩ := g1.of
    cases w with
    | int i =>
      cases rv
      unfold fmtS at ey
      simp only at ey
      split at ey
      · rename_i hi
        cases ey
        refine .inr ⟨i, rfl, ?_, ?_⟩
        · by_cases h0 : i.natAbs = 0
          · rw [h0]; decide
          · exact Nat.lt_trans ((Nat.log2_lt h0).mpr hi) (by decide)
        · rw [intText_ok]
          exact Good.here g1 rh1 ⟨intText_len hi, rfl⟩
      · cases ey
    | str s =>
      cases ey
      obtain ⟨hl, rfl⟩ := rv
      exact .inl ⟨_, rfl, Nat.le_trans hl line_le, Good.here g1 rh1 ⟨hl, rfl⟩⟩
    | _ => cases ey
theorem k_fmtC {j : Nat} {s : List Nat} (hl : s.length ≤ LINE) : L2.PE X (.Constant (.str (sv s)) j pos) (tFm cA fz M W (.str s)) :=
  PE.imp L2.pe_str fun σ H Q h => by
    obtain ⟨ρ, env, h, rh, re, g⟩ := h
    have g : Good cA fz RFm (.ok s h) ρ H Q (L2.WE W σ) := g
    exact g.here rh ⟨hl, rfl⟩
theorem sv_append (a b : List Nat) : sv a ++ sv b = sv (a ++ b) := by
  apply TL.ext_tl
  show (a.toArray ++ b.toArray).toList = (a ++ b).toArray.toList
  simp
/-- the parts, one behind the other -/
theorem fm_parts : ∀ (es : List Ex) (a : List Nat) (c : Nat) {σ : L2.St} {H : HH} {Q : L2.VK} {ρ : List Addr} {env : Env} {h : Hp}, RH cA ρ (· ∈ fz) h H → RE ρ H env σ → a.length ≤ c * LINE → c + es.length ≤ 16 →
    Good cA fz RW ((evF M es env h).bind fun ys h => guardR (decide (a.length + (ys.map List.length).sum ≤ LINE)) (.ok (MP.W.str (a ++ ys.flatten)) h)) ρ H Q (L2.WE W σ) →
    L2.tJs (es.map (tFm cA fz M W)) (sv a) σ H fun out H1 => Q (.str out) H1
  | [], a, c, σ, H, Q, ρ, env, h, rh, re, _, _, g => by
    have g : Good cA fz RW (guardR (decide (a.length + 0 ≤ LINE)) (.ok (MP.W.str (a ++ [])) h)) ρ H Q (L2.WE W σ) := by simpa [evF] using g
    obtain ⟨ha, g⟩ := g.guardR
    rw [List.append_nil] at g
    exact Good.here (w := MP.W.str a) g rh ⟨of_decide_eq_true ha, rfl⟩
  | m :: es, a, c, σ, H, Q, ρ, env, h, rh, re, ha, hc, g => by
    have g : Good cA fz RW (((ev M m env h).bind fun x h => .of (fmtS x) h).bind fun y h => (evF M es env h).bind fun ys h => guardR (decide (a.length + (y.length + (ys.map List.length).sum) ≤ LINE)) (.ok (MP.W.str (a ++ (y ++ ys.flatten))) h)) ρ H Q (L2.WE W σ) := by
      have e : (evF M (m :: es) env h).bind (fun ys h => guardR (decide (a.length + (ys.map List.length).sum ≤ LINE)) (.ok (MP.W.str (a ++ ys.flatten)) h)) =
          ((ev M m env h).bind fun x h => .of (fmtS x) h).bind fun y h => (evF M es env h).bind fun ys h => guardR (decide (a.length + (y.length + (ys.map List.length).sum) ≤ LINE)) (.ok (MP.W.str (a ++ (y ++ ys.flatten))) h) := by
        simp only [evF, R.bind_assoc]
        congr 1
        funext x h
        cases fmtS x with
        | none => rfl
        | some y =>
          simp only [thenO_some, R.of_some, R.bind_ok, R.bind_assoc, List.map_cons, List.sum_cons, List.flatten_cons]
      rw [e] at g
      exact g
    show tFm cA fz M W m σ H _
    refine ⟨ρ, env, h, rh, re, Good.bind (f := fun y h => (evF M es env h).bind fun ys h => guardR (decide (a.length + (y.length + (ys.map List.length).sum) ≤ LINE)) (.ok (MP.W.str (a ++ (y ++ ys.flatten))) h)) g fun y h1 ρ1 v H1 e x rh1 rv g1 => ?_⟩
    obtain ⟨hy, rfl⟩ := rv
    have g2 : Good cA fz RW ((evF M es env h1).bind fun ys h => guardR (decide ((a ++ y).length + (ys.map List.length).sum ≤ LINE)) (.ok (MP.W.str (a ++ y ++ ys.flatten)) h)) ρ1 H1 Q (L2.WE W σ) := by
      simpa only [List.length_append, List.append_assoc, Nat.add_assoc] using g1
    have hl : (a ++ y).length ≤ (c + 1) * LINE := by rw [List.length_append, Nat.add_mul, Nat.one_mul]; omega
    simp only [List.length_cons] at hc
    refine ⟨sv y, rfl, ?_, ?_⟩
    · rw [sv_append, sv_len, sizeLine_eq]
      have : (c + 1) * LINE ≤ 16 * LINE := Nat.mul_le_mul_right _ (by omega)
      simp only [LINE] at this hl ⊢
      omega
    · rw [sv_append]
      exact fm_parts es (a ++ y) (c + 1) rh1 (re.ext x) hl (by omega) g2
theorem k_fstr {v1 v2 : Expr} {rest : List Expr} {ms : List Ex} (h : L2.PJ X (v1 :: v2 :: rest) (ms.map (tFm cA fz M W))) (hl : ms.length ≤ 16) : L2.PE X (.JoinedStr (v1 :: v2 :: rest) pos) (tE cA fz M W (.fstr ms)) :=
  PE.imp (L2.pe_joined h) fun σ H Q h => by
    obtain ⟨ρ, env, h, rh, re, g⟩ := h
    exact fm_parts ms [] 0 rh re (Nat.zero_le _) (by omega) (by simpa only [ev, List.length_nil, Nat.zero_add, List.nil_append] using g)
theorem k_fstr1 {v : Expr} {m : Ex} (h : L2.PE X v (tFm cA fz M W m)) : L2.PE X (.JoinedStr [v] pos) (tE cA fz M W (.fstr [m])) :=
  PE.imp (L2.pe_joined1 h) fun σ H Q h => by
    obtain ⟨ρ, env, h, rh, re, g⟩ := h
    have q := fm_parts [m] [] 0 rh re (Nat.zero_le _) (by simp) (by simpa only [ev, List.length_nil, Nat.zero_add, List.nil_append] using g)
    obtain ⟨ρ', env', h', rh', re', g'⟩ := (show tFm cA fz M W m σ H _ from q)
    refine ⟨ρ', env', h', rh', re', Good.mono g' fun v H1 ⟨y, e1, _, q⟩ => ?_⟩
    subst e1
    have q : Q (.str (sv [] ++ y)) H1 := q
    have e : sv [] ++ y = y := by
      apply TL.ext_tl
      show (([] : List Nat).toArray ++ y.cps).toList = y.cps.toList
      simp
    rw [e] at q
    exact q
end
end MP

namespace MP
open PySem PySem.Spec PyProof.Rows
/-! ### the text and the little language side by side -/
/-- what a global name is -/
inductive GK where
  | fn (f : String) | cls (c : String) | blt (id : String) | ty (t : String) | str (s : List Nat) | int (i : Int)
  deriving DecidableEq
/-- slots, scope, globals -/
structure CS where
  N : List Str
  sc : Scope
  G : List (Str × GK)
  cA : CA
  T : Prog
  top : Bool := true
def isG (S : CS) (x : Str) (g : GK) : Bool := decide (S.G.lookup x = some g) && decide (S.sc.names.lookup x = some .globalImplicit) && !(x == ("__debug__" : Str))
def isV (S : CS) (i : Nat) (x : Str) : Bool := decide (S.N[i]? = some x) && (decide (S.sc.names.lookup x = some .local) || decide (S.sc.names.lookup x = some .cell) || decide (S.sc.names.lookup x = some .free)) && !(x == ("__debug__" : Str)) && !(x == ("__classdict__" : Str))
def isL (S : CS) (i : Nat) (x : Str) : Bool := decide (S.N[i]? = some x) && (decide (S.sc.names.lookup x = some .local) || (S.top && decide (S.sc.names.lookup x = some .cell)))
def noOwn (S : CS) (m : String) : Bool := S.cA.cls.all fun c => decide (S.T.mt c m = none)
def bltG : Blt → Option GK
  | .len => some (.blt "len")
  | .divmod => some (.blt "divmod")
  | .int => some (.ty "int")
  | .min2 => some (.blt "min")
  | .max2 => some (.blt "max")
  | .str => some (.ty "str")
  | .list => some (.ty "list")
  | .tuple => some (.ty "tuple")
  | .dict => some (.ty "dict")
  | .sum => some (.blt "sum")
  | .sorted => some (.blt "sorted")
  | .min => some (.blt "min")
  | .max => some (.blt "max")
  | _ => none
def tyG (t : Ty) : GK := match t with
  | .int => .ty "int" | .bool => .ty "bool" | .str => .ty "str" | .list => .ty "list" | .tuple => .ty "tuple" | .dict => .ty "dict"
  | .own c => .cls c
/-- no call that a super may stand in -/
def noSup : Expr → Bool
  | .Call _ _ _ _ => false
  | _ => true
def ownOf (N : List Str) (own : List Nat) : List (Str × Nat) := own.filterMap fun i => (N[i]?).map fun x => (x, i)
def chkBlk (S : CS) (scope : Scope) (own : List Nat) : Bool :=
  decide ((ownOf S.N own).map (·.2) = own) && decide (scope.kind = .function) && scope.names.all (fun y => decide (scope.names.lookup y.1 = some y.2)) && (ownOf S.N own).all (fun p => decide (S.N[p.2]? = some p.1)) &&
    scope.names.all (fun y => !decide (y.2 = .free) || decide (S.sc.names.lookup y.1 = some .cell) || decide (S.sc.names.lookup y.1 = some .free)) &&
    scope.names.all (fun y => !(decide (y.2 = .local) || decide (y.2 = .cell)) || decide (y.1 ∈ (ownOf S.N own).map (·.1)) || decide (y.1 ∉ S.N))
def CS.blk (S : CS) (scope : Scope) : CS := { S with sc := L2.relS scope S.sc, top := false }
def chkNs (S : CS) : List Nat → List Expr → Bool
  | [], [] => true
  | i :: is, .Name x _ :: es => isL S i x && chkNs S is es
  | _, _ => false
def chkTg (S : CS) : Tg → Expr → Bool
  | .name i, .Name x _ => isL S i x
  | .tup is, .Tuple es _ _ => chkNs S is es
  | _, _ => false
/-- what yields new pairs wants several names -/
def tgI : It → Expr → Bool
  | .enum _, e => isTupE e
  | .zip _ _, e => isTupE e
  | .items _, e => isTupE e
  | _, _ => true
where
  isTupE : Expr → Bool
    | .Tuple _ _ _ => true
    | _ => false
def isD : It → Bool
  | .items _ => true
  | .vals _ => true
  | .keys _ => true
  | _ => false
mutual
def chkE (S : CS) : Ex → Expr → Bool
  | .non, e => match e with
    | .Constant .none _ _ => true
    | _ => false
  | .bl b, e => match e with
    | .Constant (.bool c) _ _ => decide (c = b)
    | _ => false
  | .int i, e => match e with
    | .Constant (.int j) _ _ => decide (j = i)
    | .Name x _ => isG S x (.int i)
    | _ => false
  | .str s, e => match e with
    | .Constant (.str x) _ _ => decide (x = sv s) && decide (s.length ≤ LINE)
    | .Name x _ => isG S x (.str s)
    | _ => false
  | .var i, e => match e with
    | .Name x _ => isV S i x
    | _ => false
  | .bin op a b, e => match e with
    | .BinOp l o r _ => decide (o = pyOp op) && chkE S a l && chkE S b r
    | _ => false
  | .neg a, e => match e with
    | .UnaryOp o x _ => decide (o = .USub) && chkE S a x
    | _ => false
  | .cmp op a b, e => match e with
    | .Compare l [o] [r] _ => decide (o = pyCmp op) && chkE S a l && chkE S b r
    | _ => false
  | .chain op op' a b c, e => match e with
    | .Compare l [o, o'] [r, t] _ => decide (o = pyCmp op) && decide (o' = pyCmp op') && chkE S a l && chkE S b r && chkE S c t
    | _ => false
  | .and a b, e => match e with
    | .BoolOp o [x, y] _ => decide (o = .And) && chkE S a x && chkE S b y
    | .BoolOp o (x :: y :: z :: rest) p => decide (o = .And) && chkE S a x && chkE S b (.BoolOp .And (y :: z :: rest) p)
    | _ => false
  | .or a b, e => match e with
    | .BoolOp o [x, y] _ => decide (o = .Or) && chkE S a x && chkE S b y
    | .BoolOp o (x :: y :: z :: rest) p => decide (o = .Or) && chkE S a x && chkE S b (.BoolOp .Or (y :: z :: rest) p)
    | _ => false
  | .not a, e => match e with
    | .UnaryOp o x _ => decide (o = .Not) && chkE S a x
    | _ => false
  | .ife c a b, e => match e with
    | .IfExp t x y _ => chkE S c t && chkE S a x && chkE S b y
    | _ => false
  | .ix o i, e => match e with
    | .Subscript v s _ => chkE S o v && chkE S i s
    | _ => false
  | .sl o lo hi, e => match e with
    | .Subscript v (.Slice l h none _) _ => chkE S o v && chkO S lo l && chkO S hi h
    | _ => false
  | .tup es, e => match e with
    | .Tuple xs _ _ => chkEs S es xs && decide (es.length ≤ 1000)
    | _ => false
  | .lst es, e => match e with
    | .List xs _ => chkEs S es xs && decide (es.length ≤ 1000)
    | _ => false
  | .dct kvs, e => match e with
    | .Dict ks vs _ => chkP S kvs ks vs && decide (kvs.length ≤ 15)
    | _ => false
  | .call f es, e => match e with
    | .Call (.Name x _) [] [] _ => isG S x (.fn f) && es.isEmpty
    | .Call (.Name x _) (a :: args) [] _ => isG S x (.fn f) && chkEs S es (a :: args)
    | _ => false
  | .blt b es, e => match e with
    | .Call (.Name x _) (a :: args) [] _ => (match bltG b with
      | some g => isG S x g
      | none => false) && chkEs S es (a :: args)
    | _ => false
  | .isi a t, e => match e with
    | .Call (.Name x _) [v, .Name c _] [] _ => isG S x (.blt "isinstance") && isG S c (tyG t) && tyOk S.cA t && chkE S a v
    | _ => false
  | .comp own elt tg it none, e => match e with
    | .ListComp v [⟨tx, ix, [], k⟩] scope _ => decide (k = 0) && chkBlk S scope own && chkTg (S.blk scope) tg tx && (tgIx tg).all (fun i => decide (i ∈ own)) && (tgI it tx && chkI S it ix) && chkE (S.blk scope) elt v
    | _ => false
  | .comp own elt tg it (some c), e => match e with
    | .ListComp v [⟨tx, ix, [q], k⟩] scope _ => decide (k = 0) && chkBlk S scope own && chkTg (S.blk scope) tg tx && (tgIx tg).all (fun i => decide (i ∈ own)) && (tgI it tx && chkI S it ix) && chkE (S.blk scope) elt v && chkE (S.blk scope) c q
    | _ => false
  | .meth o m [], e => match e with
    | .Call (.Attribute v n ap) [] [] p => decide (m = "bit_length" ∨ m ∈ mthsOk) && decide (n = Str.ofString m) && noOwn S m && noSup v && (ap.endLine == p.line) && chkE S o v
    | _ => false
  | .meth o m [a], e => match e with
    | .Call (.Attribute v n ap) [x] [] p => decide (m = "join" ∨ (m ∈ mthsOk ∧ (¬ (m ∈ lstM ∧ m ∈ dctM) ∨ still a = true))) && decide (n = Str.ofString m) && noOwn S m && noSup v && (ap.endLine == p.line) && chkE S o v && chkE S a x
    | _ => false
  | .meth o m [a, b], e => match e with
    | .Call (.Attribute v n ap) [x, y] [] p => decide (m ∈ mthsOk ∧ (¬ (m ∈ lstM ∧ m ∈ dctM) ∨ (still a && still b) = true)) && decide (n = Str.ofString m) && noOwn S m && noSup v && (ap.endLine == p.line) && chkE S o v && chkE S a x && chkE S b y
    | _ => false
  | .listOf (.rng m), e => match e with
    | .Call (.Name x _) [.Call (.Name y _) [v] [] _] [] _ => decide (x = Str.ofString "list") && isG S x (.ty "list") && decide (y = Str.ofString "range") && isG S y (.ty "range") && chkE S m v
    | _ => false
  | .listOf (.rev m), e => match e with
    | .Call (.Name x _) [.Call (.Name y _) [v] [] _] [] _ => decide (x = Str.ofString "list") && isG S x (.ty "list") && decide (y = Str.ofString "reversed") && isG S y (.ty "reversed") && chkE S m v
    | _ => false
  | .listOf (.vals m), e => match e with
    | .Call (.Name x _) [.Call (.Attribute v n ap) [] [] p] [] _ => decide (x = Str.ofString "list") && isG S x (.ty "list") && decide (n = Str.ofString "values") && noSup v && (ap.endLine == p.line) && chkE S m v
    | _ => false
  | .tupOf (.rev m), e => match e with
    | .Call (.Name x _) [.Call (.Name y _) [v] [] _] [] _ => decide (x = Str.ofString "tuple") && isG S x (.ty "tuple") && decide (y = Str.ofString "reversed") && isG S y (.ty "reversed") && chkE S m v
    | _ => false
  | .fstr ms, e => match e with
    | .JoinedStr vs _ => chkF S ms vs && decide (ms.length ≤ 16) && !ms.isEmpty
    | _ => false
  | _, _ => false
def chkF (S : CS) : List Ex → List Expr → Bool
  | [], e => match e with
    | [] => true
    | _ => false
  | m :: ms, e => match e with
    | .FormattedValue v c none _ :: xs => decide (c = -1) && chkE S m v && chkF S ms xs
    | .Constant (.str x) _ _ :: xs => (match m with
      | .str s => decide (x = sv s) && decide (s.length ≤ LINE)
      | _ => false) && chkF S ms xs
    | _ => false
def chkO (S : CS) : Option Ex → Option Expr → Bool
  | none, e => match e with
    | none => true
    | some _ => false
  | some m, e => match e with
    | some e => chkE S m e
    | none => false
def chkEs (S : CS) : List Ex → List Expr → Bool
  | [], e => match e with
    | [] => true
    | _ => false
  | m :: ms, e => match e with
    | x :: xs => chkE S m x && chkEs S ms xs
    | _ => false
def chkP (S : CS) : List (Ex × Ex) → List (Option Expr) → List Expr → Bool
  | [], ks, vs => match ks, vs with
    | [], [] => true
    | _, _ => false
  | (a, b) :: ms, ks, vs => match ks, vs with
    | some k :: ks, v :: vs => chkE S a k && chkE S b v && chkP S ms ks vs
    | _, _ => false
def chkI (S : CS) : It → Expr → Bool
  | .val m, e => chkE S m e
  | .rng a, e => match e with
    | .Call (.Name x _) [v] [] _ => decide (x = Str.ofString "range") && isG S x (.ty "range") && chkE S a v
    | _ => false
  | .rng2 a b, e => match e with
    | .Call (.Name x _) [v, u] [] _ => decide (x = Str.ofString "range") && isG S x (.ty "range") && chkE S a v && chkE S b u
    | _ => false
  | .rng3 a b c, e => match e with
    | .Call (.Name x _) [v, u, t] [] _ => decide (x = Str.ofString "range") && isG S x (.ty "range") && chkE S a v && chkE S b u && chkE S c t
    | _ => false
  | .enum a, e => match e with
    | .Call (.Name x _) [v] [] _ => decide (x = Str.ofString "enumerate") && isG S x (.ty "enumerate") && chkE S a v
    | _ => false
  | .rev a, e => match e with
    | .Call (.Name x _) [v] [] _ => decide (x = Str.ofString "reversed") && isG S x (.ty "reversed") && chkE S a v
    | _ => false
  | .zip a b, e => match e with
    | .Call (.Name x _) [v, u] [] _ => decide (x = Str.ofString "zip") && isG S x (.ty "zip") && chkE S a v && chkE S b u
    | _ => false
  | .items m, e => match e with
    | .Call (.Attribute v n ap) [] [] p => decide (n = Str.ofString "items") && noSup v && (ap.endLine == p.line) && chkE S m v
    | _ => false
  | .vals m, e => match e with
    | .Call (.Attribute v n ap) [] [] p => decide (n = Str.ofString "values") && noSup v && (ap.endLine == p.line) && chkE S m v
    | _ => false
  | .keys m, e => chkE S m e
  | _, _ => false
end
/-! ### what a context must have -/
def GOk (cA : CA) (T : Prog) (n : Nat) (X : L2.Cx) (x : Str) : GK → Prop
  | .fn f => ∃ a fd ps, X.mg x = some (.ref a) ∧ FnAt cA T X.prog X.w X.K X.mg X.base n f a fd ps
  | .cls c => X.mg x = some (.ref (cA.ad c))
  | .blt id => X.mg x = none ∧ bootBuiltins x = some (.builtin id) ∧ x ≠ "__name__"
  | .ty t => X.mg x = none ∧ bootBuiltins x = some (.type t) ∧ x ≠ "__name__"
  | .str s => s.length ≤ LINE ∧ ∃ u, X.mg x = some u ∧ L2.RelV (.str (sv s)) u
  | .int i => ∃ u, X.mg x = some u ∧ L2.RelV (.int i) u
structure SX (S : CS) (n : Nat) (fz : List Nat) (M : Cx) (W : L2.WX) (X : L2.Cx) : Prop where
  T : M.T = S.T
  call : M.call = run S.T n
  fz : ∀ m ∈ fz, m ∈ M.lk
  N : X.N = S.N
  nd : S.N.Nodup
  sc : X.env.scope = S.sc
  calm : X.calm = true
  tk : L2.Takes X W
  rm : L2.Room (2 * n) X.A
  fn : S.top = true → ∀ x, X.fn x = true
  G : ∀ x g, S.G.lookup x = some g → GOk S.cA S.T n X x g
  cf : CF S.cA S.T X.K
section
variable {S : CS} {n : Nat} {fz : List Nat} {M : Cx} {W : L2.WX} {X : L2.Cx}
theorem SX.ck (C : SX S n fz M W X) : CK M := by
  intro lk f xs h
  rw [C.call]
  exact rk_run S.T n lk f xs h
theorem SX.lock (C : SX S n fz M W X) (as : List Nat) : SX S n fz (M.lock as) W X := ⟨C.T, C.call, fun m hm => List.mem_append_right _ (C.fz m hm), C.N, C.nd, C.sc, C.calm, C.tk, C.rm, C.fn, C.G, C.cf⟩
theorem SX.anyF (C : SX S n fz M W X) (fz' : List Nat) : SX S n fz' (M.lock fz') W X := ⟨C.T, C.call, fun k hk => List.mem_append_left _ hk, C.N, C.nd, C.sc, C.calm, C.tk, C.rm, C.fn, C.G, C.cf⟩
theorem SX.lockF (C : SX S n fz M W X) (m : Nat) : SX S n (m :: fz) (M.lock [m]) W X := ⟨C.T, C.call, fun k hk => (List.mem_cons.mp hk).elim (fun z => List.mem_append_left _ (by rw [z]; exact List.mem_singleton.mpr rfl)) fun hk => List.mem_append_right _ (C.fz k hk), C.N, C.nd, C.sc, C.calm, C.tk, C.rm, C.fn, C.G, C.cf⟩
theorem SX.blk (C : SX S n fz M W X) (scope : Scope) (s : Shared) (H : HH) (A : Addr) (cl : List (Str × Addr)) (fp : List Addr) : SX (S.blk scope) n fz M W0 (X.blk s H scope (compEnvC scope cl A X.env) fp) :=
  ⟨C.T, C.call, C.fz, C.N, C.nd, by show relabel scope X.env = L2.relS scope S.sc; rw [← C.sc]; rfl, C.calm, L2.takes0, C.rm, (fun e => by cases e), fun x g e => C.G x g e, C.cf⟩
end
/-! ### readings of the checks -/
theorem and3 {a b : Bool} (h : (a && b) = true) : a = true ∧ b = true := by simpa using h
section
variable {S : CS} {n : Nat} {fz : List Nat} {M : Cx} {W : L2.WX} {X : L2.Cx}
theorem isG_ok (C : SX S n fz M W X) {x : Str} {g : GK} (h : isG S x g = true) : GOk S.cA S.T n X x g ∧ L2.Gl X x ∧ (x == ("__debug__" : Str)) = false := by
  unfold isG at h
  simp only [Bool.and_eq_true, decide_eq_true_eq, Bool.not_eq_true'] at h
  exact ⟨C.G x g h.1.1, by show X.env.scope.names.lookup x = _; rw [C.sc]; exact h.1.2, h.2⟩
theorem isV_ok (C : SX S n fz M W X) {i : Nat} {x : Str} (h : isV S i x = true) : X.N[i]? = some x ∧ L2.Vis X.env.scope x ∧ (x == ("__debug__" : Str)) = false ∧ (x == ("__classdict__" : Str)) = false := by
  unfold isV at h
  simp only [Bool.and_eq_true, decide_eq_true_eq, Bool.not_eq_true', Bool.or_eq_true] at h
  refine ⟨by rw [C.N]; exact h.1.1.1, ?_, h.1.2, h.2⟩
  unfold L2.Vis
  rw [C.sc]
  rcases h.1.1.2 with (h | h) | h
  · exact .inl h
  · exact .inr (.inl h)
  · exact .inr (.inr h)
theorem isL_ok (C : SX S n fz M W X) {i : Nat} {x : Str} (h : isL S i x = true) : X.N[i]? = some x ∧ L2.Loc X.env.scope x ∧ (X.fn x = true ∨ X.env.scope.names.lookup x = some .local) := by
  unfold isL at h
  simp only [Bool.and_eq_true, decide_eq_true_eq, Bool.or_eq_true] at h
  unfold L2.Loc
  rw [C.N, C.sc]
  refine ⟨h.1, h.2.imp id (·.2), ?_⟩
  rcases h.2 with h | h
  · exact .inr h
  · exact .inl (C.fn h.1 x)
theorem SX.hu (C : SX S n fz M W X) : X.A.units + 64 < cLine := C.rm.units
theorem noOwn_ok (C : SX S n fz M W X) {m : String} (h : noOwn S m = true) : ∀ c ∈ S.cA.cls, M.T.mt c m = none := fun c hc => by
  rw [C.T]
  exact of_decide_eq_true (List.all_eq_true.mp h c hc)
/-- no star, no set -/
def plainX : Expr → Bool
  | .Starred _ _ => false
  | .Set _ _ _ => false
  | .Slice _ _ _ _ => false
  | _ => true
theorem star_ok {e : Expr} {es : List Expr} {env : PySem.Env} (h : plainX e = true) : starEach (e :: es) env = (false, eval e env) :: starEach es env := by
  cases e <;> first | rfl | cases h
theorem set_ok {e : Expr} {op : PySem.CmpOp} (h : plainX e = true) : behindInMarks op e = false := by
  cases e <;> first | rfl | cases h
theorem ix_ok {e : Expr} (h : plainX e = true) : L2.PlainIx e := by
  cases e <;> first | (intro _ _; rfl) | cases h
theorem fold_ok {e : Expr} {env : PySem.Env} (h : plainX e = true) : ∀ x, foldedSetIterable e env x = pure x := by
  cases e <;> first | (intro _; rfl) | cases h
theorem base_ok {e : Expr} {m : Str} {env : PySem.Env} {wh : Sem Value} (h : noSup e = true) : attributeBase e m env wh = wh := by
  cases e <;> first | rfl | cases h
theorem chk_plain : ∀ (m : Ex) (e : Expr), chkE S m e = true → plainX e = true := by
  intro m e h
  cases e with
  | Starred a p => cases m <;> first | (simp [chkE] at h; done) | (rename_i c; cases c <;> simp [chkE] at h) | (rename_i es; rcases es with _ | ⟨a, _ | ⟨b, _ | ⟨c, r⟩⟩⟩ <;> simp [chkE] at h) | (rename_i it; cases it <;> simp [chkE] at h)
  | Set a k p => cases m <;> first | (simp [chkE] at h; done) | (rename_i c; cases c <;> simp [chkE] at h) | (rename_i es; rcases es with _ | ⟨a, _ | ⟨b, _ | ⟨c, r⟩⟩⟩ <;> simp [chkE] at h) | (rename_i it; cases it <;> simp [chkE] at h)
  | Slice a k c p => cases m <;> first | (simp [chkE] at h; done) | (rename_i c; cases c <;> simp [chkE] at h) | (rename_i es; rcases es with _ | ⟨a, _ | ⟨b, _ | ⟨c, r⟩⟩⟩ <;> simp [chkE] at h) | (rename_i it; cases it <;> simp [chkE] at h)
  | _ => rfl
theorem any_ok : ∀ {ms : List Ex} {es : List Expr} {env : PySem.Env} {pos : Pos}, chkEs S ms es = true → (backTo pos (starEach es env)).any (·.1) = false
  | [], es, env, pos, h => by cases es <;> first | rfl | simp [chkEs] at h
  | m :: ms, [], env, pos, h => by rfl
  | m :: ms, e :: es, env, pos, h => by
    simp only [chkEs, Bool.and_eq_true] at h
    rw [star_ok (chk_plain m e h.1)]
    show (false || (backTo pos (starEach es env)).any (·.1)) = false
    rw [any_ok h.2]
    rfl
end
end MP

namespace MP
open PySem PySem.Spec PyProof.Rows
section
variable {S : CS} {n : Nat} {fz : List Nat} {M : Cx} {W : L2.WX} {X : L2.Cx}
theorem ns_ok (C : SX S n fz M W X) : ∀ {is : List Nat} {es : List Expr}, chkNs S is es = true → L2.PGs X es (gTs S.cA is) ∧ (assignEach es X.env).length = is.length ∧ (assignEach es X.env).findIdx? (·.1) = none
  | [], es, h => by
    cases es with
    | nil => exact ⟨gs_nil, rfl, rfl⟩
    | cons e es => cases e <;> simp [chkNs] at h
  | i :: is, es, h => by
    cases es with
    | nil => simp [chkNs] at h
    | cons e es =>
      cases e with
      | Name x p =>
        simp only [chkNs, Bool.and_eq_true] at h
        obtain ⟨h1, h2, h3⟩ := isL_ok C h.1
        obtain ⟨g1, g2, g3⟩ := ns_ok C h.2
        refine ⟨gs_cons (by rw [C.N]; exact C.nd) h1 h2 h3 g1, ?_, ?_⟩
        · show (assignEach es X.env).length + 1 = is.length + 1
          rw [g2]
        · show List.findIdx? (·.1) ((false, assign (.Name x p) X.env) :: assignEach es X.env) = none
          rw [List.findIdx?_cons, g3]
          rfl
      | _ => simp [chkNs] at h
theorem tg_ok (C : SX S n fz M W X) {tg : Tg} {e : Expr} (h : chkTg S tg e = true) : L2.PG X e (gT S.cA fz tg) := by
  cases tg with
  | name i =>
    cases e with
    | Name x p =>
      obtain ⟨h1, h2, h3⟩ := isL_ok C (show isL S i x = true from h)
      exact g_name (by rw [C.N]; exact C.nd) h1 h2 h3
    | _ => simp [chkTg] at h
  | tup is =>
    cases e with
    | Tuple es k p =>
      obtain ⟨g1, g2, g3⟩ := ns_ok C (show chkNs S is es = true from h)
      exact g_tup C.calm g1 g2 g3
    | _ => simp [chkTg] at h
theorem blk_ok (C : SX S n fz M W X) {scope : Scope} {own : List Nat} (h : chkBlk S scope own = true) : (ownOf S.N own).map (·.2) = own ∧ L2.BlkOk X.N X.env.scope scope (ownOf S.N own) := by
  unfold chkBlk at h
  simp only [Bool.and_eq_true, decide_eq_true_eq, List.all_eq_true, Bool.or_eq_true, Bool.not_eq_true', decide_eq_false_iff_not, Bool.or_eq_false_iff] at h
  obtain ⟨⟨⟨⟨⟨h1, h2⟩, h3⟩, h4⟩, h5⟩, h6⟩ := h
  refine ⟨h1, h2, fun y hy => h3 y hy, fun p hp => by rw [C.N]; exact h4 p hp, fun y hy e => ?_, fun y hy e => ?_⟩
  · rw [C.sc]
    rcases h5 y hy with (q | q) | q
    · exact absurd e q
    · exact .inl q
    · exact .inr q
  · rw [C.N]
    rcases h6 y hy with (q | q) | q
    · exact (e.elim q.1 q.2).elim
    · exact .inl q
    · exact .inr q
theorem tyx_ok (C : SX S n fz M W X) {t : Ty} {c : Str} {p : Pos} (h : isG S c (tyG t) = true) : L2.PE X (.Name c p) (L2.tC (tyV S.cA t)) := by
  obtain ⟨g, hg, hd⟩ := isG_ok C h
  cases t with
  | own d => exact L2.pe_glob hg g rfl hd
  | _ => exact L2.pe_bltn hg g.1 g.2.1 rfl g.2.2 hd
/-- as a value and as a test -/
abbrev Both (S : CS) (fz : List Nat) (M : Cx) (W : L2.WX) (X : L2.Cx) (e : Expr) (m : Ex) : Prop := L2.PE X e (tE S.cA fz M W m) ∧ L2.PT X e (tT S.cA fz M W m) ∧ ∀ op vs p, e = .BoolOp op vs p → L2.PW X e (tT S.cA fz M W m)
theorem both {e : Expr} {m : Ex} (h : L2.PE X e (tE S.cA fz M W m)) (he : ∀ whole, isTrue e X.env whole = (do let v ← whole; standAt e.pos; holding [v] (truthy v))) (hb : ∀ op vs p, e ≠ .BoolOp op vs p) : Both S fz M W X e m :=
  ⟨h, L2.pt_val h he, fun op vs p q => absurd q (hb op vs p)⟩
theorem both2 {e : Expr} {m : Ex} (h : L2.PE X e (tE S.cA fz M W m)) (ht : L2.PT X e (tT S.cA fz M W m)) (hb : ∀ op vs p, e ≠ .BoolOp op vs p) : Both S fz M W X e m :=
  ⟨h, ht, fun op vs p q => absurd q (hb op vs p)⟩
theorem both3 {op : PySem.BoolOp} {vs : List Expr} {p : Pos} {m : Ex} (h : L2.PE X (.BoolOp op vs p) (tE S.cA fz M W m)) (ht : L2.PW X (.BoolOp op vs p) (tT S.cA fz M W m)) : Both S fz M W X (.BoolOp op vs p) m := ⟨h, ht.pt, fun _ _ _ _ => ht⟩
theorem ife_isTrue {c a b : Expr} {p : Pos} {mc ma mb : Ex} (hc : L2.PT X c (tT S.cA fz M W mc)) (ha : L2.PT X a (tT S.cA fz M W ma)) (hb : L2.PT X b (tT S.cA fz M W mb)) : L2.PT X (.IfExp c a b p) (tT S.cA fz M W (.ife mc ma mb)) := by
  refine ⟨fun pins s σ H Q I h => ?_⟩
  have h2 : tT S.cA fz M W mc σ H (fun k H1 => if k = true then tT S.cA fz M W ma σ H1 Q else tT S.cA fz M W mb σ H1 Q) := tG.bind h fun ρ env h w v H1 rh re rv g => by
    obtain ⟨k, e, g⟩ := g.thenO
    refine ⟨k, asBool_ok e rv, ?_⟩
    cases k with
    | true => exact ⟨ρ, env, h, rh, re, g⟩
    | false => exact ⟨ρ, env, h, rh, re, g⟩
  have e1 : ∀ wh, isTrue (.IfExp c a b p) X.env wh = (do if ← isTrue c X.env (eval c X.env) then isTrue a X.env (eval a X.env) else isTrue b X.env (eval b X.env)) := fun wh => rfl
  rw [e1]
  refine wpAny_bind (L2.thn (hc.run pins s σ H _ I h2) fun k s1 ⟨H1, I1, q1⟩ => ?_)
  cases k with
  | true => exact ha.run pins s1 σ H1 Q I1 q1
  | false => exact hb.run pins s1 σ H1 Q I1 q1
end
mutual
theorem e_ok : ∀ (m : Ex) {S : CS} {n : Nat} {fz : List Nat} {M : Cx} {W : L2.WX} {X : L2.Cx} (C : SX S n fz M W X) (e : Expr), chkE S m e = true → Both S fz M W X e m
  | .non, S, n, fz, M, W, X, C, e, h => by
    simp only [chkE] at h
    split at h
    · exact both k_non (fun _ => rfl) (fun _ _ _ z => nomatch z)
    · cases h
  | .bl b, S, n, fz, M, W, X, C, e, h => by
    simp only [chkE] at h
    split at h
    · cases of_decide_eq_true h
      exact both k_bl (fun _ => rfl) (fun _ _ _ z => nomatch z)
    · cases h
  | .int i, S, n, fz, M, W, X, C, e, h => by
    simp only [chkE] at h
    split at h
    · cases of_decide_eq_true h
      exact both k_int (fun _ => rfl) (fun _ _ _ z => nomatch z)
    · obtain ⟨⟨u, g1, g2⟩, hg, hd⟩ := isG_ok C h
      exact both (k_gint hg g1 g2 hd) (fun _ => rfl) (fun _ _ _ z => nomatch z)
    · cases h
  | .str s, S, n, fz, M, W, X, C, e, h => by
    simp only [chkE] at h
    split at h
    · rw [Bool.and_eq_true, decide_eq_true_eq, decide_eq_true_eq] at h
      cases h.1
      exact both (k_str h.2) (fun _ => rfl) (fun _ _ _ z => nomatch z)
    · obtain ⟨⟨hl, u, g1, g2⟩, hg, hd⟩ := isG_ok C h
      exact both (k_gstr hl hg g1 g2 hd) (fun _ => rfl) (fun _ _ _ z => nomatch z)
    · cases h
  | .var i, S, n, fz, M, W, X, C, e, h => by
    simp only [chkE] at h
    split at h
    · obtain ⟨h1, h2, h3, h4⟩ := isV_ok C h
      exact both (k_var h1 h2 h3 h4) (fun _ => rfl) (fun _ _ _ z => nomatch z)
    · cases h
  | .bin op a b, S, n, fz, M, W, X, C, e, h => by
    simp only [chkE] at h
    split at h
    · simp only [Bool.and_eq_true, decide_eq_true_eq] at h
      obtain ⟨⟨rfl, h1⟩, h2⟩ := h
      exact both (k_bin (e_ok a C _ h1).1 (e_ok b C _ h2).1) (fun _ => rfl) (fun _ _ _ z => nomatch z)
    · cases h
  | .neg a, S, n, fz, M, W, X, C, e, h => by
    simp only [chkE] at h
    split at h
    · simp only [Bool.and_eq_true, decide_eq_true_eq] at h
      obtain ⟨rfl, h1⟩ := h
      exact both (k_neg (e_ok a C _ h1).1) (fun _ => rfl) (fun _ _ _ z => nomatch z)
    · cases h
  | .cmp op a b, S, n, fz, M, W, X, C, e, h => by
    simp only [chkE] at h
    split at h
    · simp only [Bool.and_eq_true, decide_eq_true_eq] at h
      obtain ⟨⟨rfl, h1⟩, h2⟩ := h
      obtain ⟨k1, k2⟩ := k_cmp (op := op) C.hu (e_ok a C _ h1).1 (e_ok b C _ h2).1 (set_ok (chk_plain b _ h2))
      exact both2 k1 k2 (fun _ _ _ z => nomatch z)
    · cases h
  | .chain op op' a b c, S, n, fz, M, W, X, C, e, h => by
    simp only [chkE] at h
    split at h
    · simp only [Bool.and_eq_true, decide_eq_true_eq] at h
      obtain ⟨⟨⟨⟨rfl, rfl⟩, h1⟩, h2⟩, h3⟩ := h
      obtain ⟨k1, k2⟩ := k_chain (op := op) (op' := op') C.hu (e_ok a C _ h1).1 (e_ok b C _ h2).1 (e_ok c C _ h3).1 (by show behindInMarks (pyCmp op') _ = false; exact set_ok (chk_plain c _ h3))
      exact both2 k1 k2 (fun _ _ _ z => nomatch z)
    · cases h
  | .and a b, S, n, fz, M, W, X, C, e, h => by
    simp only [chkE] at h
    split at h
    · simp only [Bool.and_eq_true, decide_eq_true_eq] at h
      obtain ⟨⟨rfl, h1⟩, h2⟩ := h
      exact both3 (k_and (e_ok a C _ h1).1 (L2.pe_one (e_ok b C _ h2).1)) (k_andT (e_ok a C _ h1).2.1 (L2.pw_and1 (e_ok b C _ h2).2.1))
    · simp only [Bool.and_eq_true, decide_eq_true_eq] at h
      obtain ⟨⟨rfl, h1⟩, h2⟩ := h
      exact both3 (k_and (e_ok a C _ h1).1 (e_ok b C _ h2).1) (k_andT (e_ok a C _ h1).2.1 ((e_ok b C _ h2).2.2 _ _ _ rfl))
    · cases h
  | .or a b, S, n, fz, M, W, X, C, e, h => by
    simp only [chkE] at h
    split at h
    · simp only [Bool.and_eq_true, decide_eq_true_eq] at h
      obtain ⟨⟨rfl, h1⟩, h2⟩ := h
      exact both3 (k_or (e_ok a C _ h1).1 (L2.pe_one (e_ok b C _ h2).1)) (k_orT (e_ok a C _ h1).2.1 (L2.pw_or1 (e_ok b C _ h2).2.1))
    · simp only [Bool.and_eq_true, decide_eq_true_eq] at h
      obtain ⟨⟨rfl, h1⟩, h2⟩ := h
      exact both3 (k_or (e_ok a C _ h1).1 (e_ok b C _ h2).1) (k_orT (e_ok a C _ h1).2.1 ((e_ok b C _ h2).2.2 _ _ _ rfl))
    · cases h
  | .not a, S, n, fz, M, W, X, C, e, h => by
    simp only [chkE] at h
    split at h
    · simp only [Bool.and_eq_true, decide_eq_true_eq] at h
      obtain ⟨rfl, h1⟩ := h
      exact both2 (k_not (e_ok a C _ h1).1) (k_notT (e_ok a C _ h1).2.1) (fun _ _ _ z => nomatch z)
    · cases h
  | .ife c a b, S, n, fz, M, W, X, C, e, h => by
    simp only [chkE] at h
    split at h
    · simp only [Bool.and_eq_true] at h
      exact both2 (k_ife (e_ok c C _ h.1.1).2.1 (e_ok a C _ h.1.2).1 (e_ok b C _ h.2).1) (ife_isTrue (e_ok c C _ h.1.1).2.1 (e_ok a C _ h.1.2).2.1 (e_ok b C _ h.2).2.1) (fun _ _ _ z => nomatch z)
    · cases h
  | .ix a b, S, n, fz, M, W, X, C, e, h => by
    simp only [chkE] at h
    split at h
    · simp only [Bool.and_eq_true] at h
      exact both (k_ix C.hu (e_ok a C _ h.1).1 (e_ok b C _ h.2).1 (ix_ok (chk_plain b _ h.2))) (fun _ => rfl) (fun _ _ _ z => nomatch z)
    · cases h
  | .sl a lo hi, S, n, fz, M, W, X, C, e, h => by
    simp only [chkE] at h
    split at h
    · simp only [Bool.and_eq_true] at h
      exact both (k_sl (e_ok a C _ h.1.1).1 (o_ok lo C _ h.1.2) (o_ok hi C _ h.2)) (fun _ => rfl) (fun _ _ _ z => nomatch z)
    · cases h
  | .tup es, S, n, fz, M, W, X, C, e, h => by
    simp only [chkE] at h
    split at h
    · simp only [Bool.and_eq_true, decide_eq_true_eq] at h
      exact both (k_tup (es_ok es C _ h.1) h.2) (fun _ => rfl) (fun _ _ _ z => nomatch z)
    · cases h
  | .lst es, S, n, fz, M, W, X, C, e, h => by
    simp only [chkE] at h
    split at h
    · simp only [Bool.and_eq_true, decide_eq_true_eq] at h
      exact both (k_lst (es_ok es C _ h.1) h.2) (fun _ => rfl) (fun _ _ _ z => nomatch z)
    · cases h
  | .dct kvs, S, n, fz, M, W, X, C, e, h => by
    simp only [chkE] at h
    split at h
    · rename_i ks vs p
      simp only [Bool.and_eq_true, decide_eq_true_eq] at h
      obtain ⟨p1, p2, p3, p4⟩ := p_ok (pos := p) kvs C ks vs h.1
      cases kvs with
      | nil =>
        cases ks with
        | nil =>
          cases vs with
          | nil => exact both k_dct0 (fun _ => rfl) (fun _ _ _ z => nomatch z)
          | cons v vs => simp at p4
        | cons k ks => simp at p3
      | cons kv kvs => exact both (k_dct p1 p2 (by rw [p3, p4]) (by intro z; rw [z] at p3; simp at p3) (by rw [p3]; exact h.2) p3.symm) (fun _ => rfl) (fun _ _ _ z => nomatch z)
    · cases h
  | .call f es, S, n, fz, M, W, X, C, e, h => by
    simp only [chkE] at h
    split at h
    · simp only [Bool.and_eq_true] at h
      obtain ⟨⟨a, fd, ps, g1, g2⟩, hg, hd⟩ := isG_ok C h.1
      cases es with
      | cons m0 es => have := h.2; cases this
      | nil =>
        have hT := C.T
        exact both (k_call0 C.fz (by rw [C.call, hT]) (by rw [hT]; exact g2) C.rm C.tk hg g1 hd) (fun _ => rfl) (fun _ _ _ z => nomatch z)
    · simp only [Bool.and_eq_true] at h
      obtain ⟨⟨a, fd, ps, g1, g2⟩, hg, hd⟩ := isG_ok C h.1
      cases es with
      | nil => have := h.2; simp [chkEs] at this
      | cons m0 es =>
        have he := h.2
        simp only [chkEs, Bool.and_eq_true] at he
        have hT := C.T
        exact both (k_call C.fz (by rw [C.call, hT]) (by rw [hT]; exact g2) C.rm C.tk hg g1 hd (es_ok (m0 :: es) C _ h.2) (star_ok (chk_plain m0 _ he.1)) (any_ok he.2)) (fun _ => rfl) (fun _ _ _ z => nomatch z)
    · cases h
  | .blt b es, S, n, fz, M, W, X, C, e, h => by
    simp only [chkE] at h
    split at h
    · simp only [Bool.and_eq_true] at h
      cases es with
      | nil => have := h.2; simp [chkEs] at this
      | cons m0 es =>
        have he := h.2
        simp only [chkEs, Bool.and_eq_true] at he
        have ha := es_ok (m0 :: es) C _ h.2
        cases b with
        | len =>
          obtain ⟨g, hg, hd⟩ := isG_ok C h.1
          exact both (k_bltn blt_len hg g.1 g.2.1 g.2.2 hd ha (star_ok (chk_plain m0 _ he.1)) (any_ok he.2)) (fun _ => rfl) (fun _ _ _ z => nomatch z)
        | divmod =>
          obtain ⟨g, hg, hd⟩ := isG_ok C h.1
          exact both (k_bltn blt_divmod hg g.1 g.2.1 g.2.2 hd ha (star_ok (chk_plain m0 _ he.1)) (any_ok he.2)) (fun _ => rfl) (fun _ _ _ z => nomatch z)
        | int =>
          obtain ⟨g, hg, hd⟩ := isG_ok C h.1
          exact both (k_bltt blt_int hg g.1 g.2.1 g.2.2 hd ha (star_ok (chk_plain m0 _ he.1)) (any_ok he.2)) (fun _ => rfl) (fun _ _ _ z => nomatch z)
        | min2 =>
          obtain ⟨g, hg, hd⟩ := isG_ok C h.1
          exact both (k_bltn (blt_min2 C.calm) hg g.1 g.2.1 g.2.2 hd ha (star_ok (chk_plain m0 _ he.1)) (any_ok he.2)) (fun _ => rfl) (fun _ _ _ z => nomatch z)
        | max2 =>
          obtain ⟨g, hg, hd⟩ := isG_ok C h.1
          exact both (k_bltn (blt_max2 C.calm) hg g.1 g.2.1 g.2.2 hd ha (star_ok (chk_plain m0 _ he.1)) (any_ok he.2)) (fun _ => rfl) (fun _ _ _ z => nomatch z)
        | str =>
          obtain ⟨g, hg, hd⟩ := isG_ok C h.1
          exact both (k_bltt blt_str hg g.1 g.2.1 g.2.2 hd ha (star_ok (chk_plain m0 _ he.1)) (any_ok he.2)) (fun _ => rfl) (fun _ _ _ z => nomatch z)
        | list =>
          obtain ⟨g, hg, hd⟩ := isG_ok C h.1
          exact both (k_bltt (blt_list C.calm) hg g.1 g.2.1 g.2.2 hd ha (star_ok (chk_plain m0 _ he.1)) (any_ok he.2)) (fun _ => rfl) (fun _ _ _ z => nomatch z)
        | tuple =>
          obtain ⟨g, hg, hd⟩ := isG_ok C h.1
          exact both (k_bltt blt_tuple hg g.1 g.2.1 g.2.2 hd ha (star_ok (chk_plain m0 _ he.1)) (any_ok he.2)) (fun _ => rfl) (fun _ _ _ z => nomatch z)
        | dict =>
          obtain ⟨g, hg, hd⟩ := isG_ok C h.1
          exact both (k_bltt blt_dict hg g.1 g.2.1 g.2.2 hd ha (star_ok (chk_plain m0 _ he.1)) (any_ok he.2)) (fun _ => rfl) (fun _ _ _ z => nomatch z)
        | sum =>
          obtain ⟨g, hg, hd⟩ := isG_ok C h.1
          exact both (k_bltn (blt_sum C.calm) hg g.1 g.2.1 g.2.2 hd ha (star_ok (chk_plain m0 _ he.1)) (any_ok he.2)) (fun _ => rfl) (fun _ _ _ z => nomatch z)
        | sorted =>
          obtain ⟨g, hg, hd⟩ := isG_ok C h.1
          exact both (k_bltn (blt_sorted C.calm C.hu) hg g.1 g.2.1 g.2.2 hd ha (star_ok (chk_plain m0 _ he.1)) (any_ok he.2)) (fun _ => rfl) (fun _ _ _ z => nomatch z)
        | min =>
          obtain ⟨g, hg, hd⟩ := isG_ok C h.1
          exact both (k_bltn (blt_min C.calm) hg g.1 g.2.1 g.2.2 hd ha (star_ok (chk_plain m0 _ he.1)) (any_ok he.2)) (fun _ => rfl) (fun _ _ _ z => nomatch z)
        | max =>
          obtain ⟨g, hg, hd⟩ := isG_ok C h.1
          exact both (k_bltn (blt_max C.calm) hg g.1 g.2.1 g.2.2 hd ha (star_ok (chk_plain m0 _ he.1)) (any_ok he.2)) (fun _ => rfl) (fun _ _ _ z => nomatch z)
        | _ => have := h.1; cases this
    · cases h
  | .isi a t, S, n, fz, M, W, X, C, e, h => by
    simp only [chkE] at h
    split at h
    · simp only [Bool.and_eq_true] at h
      obtain ⟨⟨⟨h1, h2⟩, h3⟩, h4⟩ := h
      obtain ⟨g, hg, hd⟩ := isG_ok C h1
      exact both (k_isi (by rw [C.T]; exact C.cf) h3 hg g.1 g.2.1 g.2.2 hd (e_ok a C _ h4).1 (tyx_ok C h2) (star_ok (chk_plain a _ h4)) rfl rfl) (fun _ => rfl) (fun _ _ _ z => nomatch z)
    · cases h
  | .comp own elt tg it none, S, n, fz, M, W, X, C, e, h => by
    simp only [chkE] at h
    split at h
    · rename_i v tx ix k0 scope pos
      simp only [Bool.and_eq_true, decide_eq_true_eq, List.all_eq_true] at h
      obtain ⟨⟨⟨⟨⟨rfl, h1⟩, h2⟩, h3⟩, ht, h4⟩, h5⟩ := h
      obtain ⟨b1, b2⟩ := blk_ok C h1
      cases hD : isD it with
      | false =>
        have k := k_comp (pos := pos) (own := ownOf S.N own) (mo := none) C.ck C.calm (by rw [C.N]; exact C.nd) (i_ok it C _ hD h4 _ ht) b2 (fun s H A cl fp => tg_ok (C.blk _ s H A cl fp) h2) (fun as s H A cl fp => L2.pts_nil) (fun as s H A cl fp => (e_ok elt ((C.blk _ s H A cl fp).lock as) _ h5).1) (it_fold it _ h4) (by rw [b1]; exact h3)
        rw [b1] at k
        exact both k (fun _ => rfl) (fun _ _ _ z => nomatch z)
      | true =>
        obtain ⟨kk, me, rfl, hi, hs⟩ := d_ok it C _ hD h4 _ ht
        have k := k_compD (pos := pos) (own := ownOf S.N own) (mo := none) kk C.ck C.calm (by rw [C.N]; exact C.nd) hi b2 (fun fz' s H A cl fp => tg_ok ((C.blk _ s H A cl fp).anyF fz') h2) (fun m s H A cl fp => L2.pts_nil) (fun m s H A cl fp => (e_ok elt ((C.blk _ s H A cl fp).lockF m) _ h5).1) hs (by rw [b1]; exact h3)
        rw [b1] at k
        exact both k (fun _ => rfl) (fun _ _ _ z => nomatch z)
    · cases h
  | .comp own elt tg it (some c), S, n, fz, M, W, X, C, e, h => by
    simp only [chkE] at h
    split at h
    · rename_i v tx ix q k0 scope pos
      simp only [Bool.and_eq_true, decide_eq_true_eq, List.all_eq_true] at h
      obtain ⟨⟨⟨⟨⟨⟨rfl, h1⟩, h2⟩, h3⟩, ht, h4⟩, h5⟩, h6⟩ := h
      obtain ⟨b1, b2⟩ := blk_ok C h1
      cases hD : isD it with
      | false =>
        have k := k_comp (pos := pos) (own := ownOf S.N own) (mo := some c) C.ck C.calm (by rw [C.N]; exact C.nd) (i_ok it C _ hD h4 _ ht) b2 (fun s H A cl fp => tg_ok (C.blk _ s H A cl fp) h2) (fun as s H A cl fp => L2.pts_one (e_ok c ((C.blk _ s H A cl fp).lock as) _ h6).2.1) (fun as s H A cl fp => (e_ok elt ((C.blk _ s H A cl fp).lock as) _ h5).1) (it_fold it _ h4) (by rw [b1]; exact h3)
        rw [b1] at k
        exact both k (fun _ => rfl) (fun _ _ _ z => nomatch z)
      | true =>
        obtain ⟨kk, me, rfl, hi, hs⟩ := d_ok it C _ hD h4 _ ht
        have k := k_compD (pos := pos) (own := ownOf S.N own) (mo := some c) kk C.ck C.calm (by rw [C.N]; exact C.nd) hi b2 (fun fz' s H A cl fp => tg_ok ((C.blk _ s H A cl fp).anyF fz') h2) (fun m s H A cl fp => L2.pts_one (e_ok c ((C.blk _ s H A cl fp).lockF m) _ h6).2.1) (fun m s H A cl fp => (e_ok elt ((C.blk _ s H A cl fp).lockF m) _ h5).1) hs (by rw [b1]; exact h3)
        rw [b1] at k
        exact both k (fun _ => rfl) (fun _ _ _ z => nomatch z)
    · cases h
  | .meth o m [a], S, n, fz, M, W, X, C, e, h => by
    simp only [chkE] at h
    split at h
    · simp only [Bool.and_eq_true, decide_eq_true_eq] at h
      obtain ⟨⟨⟨⟨⟨⟨hm, rfl⟩, h2⟩, h3⟩, h4⟩, h5⟩, h6⟩ := h
      have hs := star_ok (es := []) (env := X.env) (chk_plain a _ h6)
      rcases hm with rfl | ⟨hm, hk⟩
      · exact both (k_join (noOwn_ok C h2) (e_ok o C _ h5).1 (e_ok a C _ h6).1 hs (base_ok h3) h4) (fun _ => rfl) (fun _ _ _ z => nomatch z)
      · refine both (k_meth (mths_ne hm) (hk.imp id fun z => by simp [z]) (mok C.hu C.fz hm) (noOwn_ok C h2) (e_ok o C _ h5).1 (k_cons (e_ok a C _ h6).1 k_nil hs) (base_ok h3) h4 ?_ hs rfl) (fun _ => rfl) (fun _ _ _ z => nomatch z)
        rw [hs]; rfl
    · cases h
  | .meth o m [], S, n, fz, M, W, X, C, e, h => by
    simp only [chkE] at h
    split at h
    · simp only [Bool.and_eq_true, decide_eq_true_eq] at h
      obtain ⟨⟨⟨⟨⟨hm, rfl⟩, h2⟩, h3⟩, h4⟩, h5⟩ := h
      rcases hm with rfl | hm
      · exact both (k_bits (noOwn_ok C h2) (e_ok o C _ h5).1 (base_ok h3) h4) (fun _ => rfl) (fun _ _ _ z => nomatch z)
      · exact both (k_meth0 (mths_ne hm) (mok C.hu C.fz hm) (noOwn_ok C h2) (e_ok o C _ h5).1 (base_ok h3) h4) (fun _ => rfl) (fun _ _ _ z => nomatch z)
    · cases h
  | .meth o m [a, b], S, n, fz, M, W, X, C, e, h => by
    simp only [chkE] at h
    split at h
    · simp only [Bool.and_eq_true, decide_eq_true_eq] at h
      obtain ⟨⟨⟨⟨⟨⟨⟨⟨hm, hk⟩, rfl⟩, h2⟩, h3⟩, h4⟩, h5⟩, h6⟩, h7⟩ := h
      have hs1 := star_ok (es := []) (env := X.env) (chk_plain b _ h7)
      have hs := fun es => star_ok (es := es) (env := X.env) (chk_plain a _ h6)
      refine both (k_meth (mths_ne hm) (hk.imp id fun z => by simpa using z) (mok C.hu C.fz hm) (noOwn_ok C h2) (e_ok o C _ h5).1 (k_cons (e_ok a C _ h6).1 (k_cons (e_ok b C _ h7).1 k_nil hs1) (hs _)) (base_ok h3) h4 ?_ (hs _) ?_) (fun _ => rfl) (fun _ _ _ z => nomatch z)
      · rw [hs, hs1]; rfl
      · rw [hs1]; rfl
    · cases h
  | .meth o m (_ :: _ :: _ :: _), _, _, _, _, _, _, _, _, h => by simp [chkE] at h
  | .fld _ _, _, _, _, _, _, _, _, _, h => by simp [chkE] at h
  | .new _ _, _, _, _, _, _, _, _, _, h => by simp [chkE] at h
  | .sup _ _ _, _, _, _, _, _, _, _, _, h => by simp [chkE] at h
  | .listOf (.rng m), S, n, fz, M, W, X, C, e, h => by
    simp only [chkE] at h
    split at h
    · simp only [Bool.and_eq_true, decide_eq_true_eq] at h
      obtain ⟨⟨⟨⟨rfl, h1⟩, rfl⟩, h2⟩, h3⟩ := h
      obtain ⟨g1, hg1, _⟩ := isG_ok C h1
      obtain ⟨g2, hg2, _⟩ := isG_ok C h2
      exact both (k_listRng C.calm hg1 g1.1 hg2 g2.1 (e_ok m C _ h3).1 (star_ok (chk_plain m _ h3)) (star_ok rfl)) (fun _ => rfl) (fun _ _ _ z => nomatch z)
    · cases h
  | .listOf (.rev m), S, n, fz, M, W, X, C, e, h => by
    simp only [chkE] at h
    split at h
    · simp only [Bool.and_eq_true, decide_eq_true_eq] at h
      obtain ⟨⟨⟨⟨rfl, h1⟩, rfl⟩, h2⟩, h3⟩ := h
      obtain ⟨g1, hg1, _⟩ := isG_ok C h1
      obtain ⟨g2, hg2, _⟩ := isG_ok C h2
      exact both (k_listRev C.calm hg1 g1.1 hg2 g2.1 (e_ok m C _ h3).1 (star_ok (chk_plain m _ h3)) (star_ok rfl)) (fun _ => rfl) (fun _ _ _ z => nomatch z)
    · cases h
  | .listOf (.vals m), S, n, fz, M, W, X, C, e, h => by
    simp only [chkE] at h
    split at h
    · simp only [Bool.and_eq_true, decide_eq_true_eq] at h
      obtain ⟨⟨⟨⟨⟨rfl, h1⟩, rfl⟩, h2⟩, h3⟩, h4⟩ := h
      obtain ⟨g1, hg1, _⟩ := isG_ok C h1
      exact both (k_listVals C.calm hg1 g1.1 (e_ok m C _ h4).1 (base_ok h2) h3 (star_ok rfl)) (fun _ => rfl) (fun _ _ _ z => nomatch z)
    · cases h
  | .tupOf (.rev m), S, n, fz, M, W, X, C, e, h => by
    simp only [chkE] at h
    split at h
    · simp only [Bool.and_eq_true, decide_eq_true_eq] at h
      obtain ⟨⟨⟨⟨rfl, h1⟩, rfl⟩, h2⟩, h3⟩ := h
      obtain ⟨g1, hg1, _⟩ := isG_ok C h1
      obtain ⟨g2, hg2, _⟩ := isG_ok C h2
      exact both (k_tupRev C.calm hg1 g1.1 hg2 g2.1 (e_ok m C _ h3).1 (star_ok (chk_plain m _ h3)) (star_ok rfl)) (fun _ => rfl) (fun _ _ _ z => nomatch z)
    · cases h
  | .fstr ms, S, n, fz, M, W, X, C, e, h => by
    simp only [chkE] at h
    split at h
    · rename_i vs pos
      simp only [Bool.and_eq_true, decide_eq_true_eq, Bool.not_eq_true'] at h
      obtain ⟨⟨h1, h2⟩, h3⟩ := h
      have k := f_ok ms C vs h1
      cases ms with
      | nil => cases h3
      | cons m ms =>
        cases k with
        | @cons v t vs ts k1 k2 =>
          cases ms with
          | nil => cases k2; exact both (k_fstr1 k1) (fun _ => rfl) (fun _ _ _ z => nomatch z)
          | cons m2 ms =>
            cases k2 with
            | cons k2 k3 => exact both (k_fstr (.cons k1 (.cons k2 k3)) h2) (fun _ => rfl) (fun _ _ _ z => nomatch z)
    · cases h
  | .listOf (.val _), _, _, _, _, _, _, _, _, h => by simp [chkE] at h
  | .listOf (.rng2 _ _), _, _, _, _, _, _, _, _, h => by simp [chkE] at h
  | .listOf (.rng3 _ _ _), _, _, _, _, _, _, _, _, h => by simp [chkE] at h
  | .listOf (.items _), _, _, _, _, _, _, _, _, h => by simp [chkE] at h
  | .listOf (.keys _), _, _, _, _, _, _, _, _, h => by simp [chkE] at h
  | .listOf (.enum _), _, _, _, _, _, _, _, _, h => by simp [chkE] at h
  | .listOf (.zip _ _), _, _, _, _, _, _, _, _, h => by simp [chkE] at h
  | .listOf (.zip3 _ _ _), _, _, _, _, _, _, _, _, h => by simp [chkE] at h
  | .tupOf (.val _), _, _, _, _, _, _, _, _, h => by simp [chkE] at h
  | .tupOf (.rng _), _, _, _, _, _, _, _, _, h => by simp [chkE] at h
  | .tupOf (.rng2 _ _), _, _, _, _, _, _, _, _, h => by simp [chkE] at h
  | .tupOf (.rng3 _ _ _), _, _, _, _, _, _, _, _, h => by simp [chkE] at h
  | .tupOf (.items _), _, _, _, _, _, _, _, _, h => by simp [chkE] at h
  | .tupOf (.vals _), _, _, _, _, _, _, _, _, h => by simp [chkE] at h
  | .tupOf (.keys _), _, _, _, _, _, _, _, _, h => by simp [chkE] at h
  | .tupOf (.enum _), _, _, _, _, _, _, _, _, h => by simp [chkE] at h
  | .tupOf (.zip _ _), _, _, _, _, _, _, _, _, h => by simp [chkE] at h
  | .tupOf (.zip3 _ _ _), _, _, _, _, _, _, _, _, h => by simp [chkE] at h
  | .sortK _ _ _, _, _, _, _, _, _, _, _, h => by simp [chkE] at h
  | .minK _ _ _, _, _, _, _, _, _, _, _, h => by simp [chkE] at h
  | .curFld _, _, _, _, _, _, _, _, _, h => by simp [chkE] at h
  | .curIs _, _, _, _, _, _, _, _, _, h => by simp [chkE] at h
theorem f_ok : ∀ (ms : List Ex) {S : CS} {n : Nat} {fz : List Nat} {M : Cx} {W : L2.WX} {X : L2.Cx} (C : SX S n fz M W X) (vs : List Expr), chkF S ms vs = true → L2.PJ X vs (ms.map (tFm S.cA fz M W))
  | [], S, n, fz, M, W, X, C, vs, h => by
    cases vs with
    | nil => exact .nil
    | cons v vs => simp [chkF] at h
  | m :: ms, S, n, fz, M, W, X, C, vs, h => by
    simp only [chkF] at h
    split at h
    · simp only [Bool.and_eq_true, decide_eq_true_eq] at h
      obtain ⟨⟨rfl, h1⟩, h2⟩ := h
      exact .cons (k_fmt (e_ok m C _ h1).1) (f_ok ms C _ h2)
    · rw [Bool.and_eq_true] at h
      obtain ⟨h1, h2⟩ := h
      split at h1
      · simp only [Bool.and_eq_true, decide_eq_true_eq] at h1
        obtain ⟨rfl, hl⟩ := h1
        exact .cons (k_fmtC hl) (f_ok ms C _ h2)
      · cases h1
    · cases h
theorem o_ok : ∀ (m : Option Ex) {S : CS} {n : Nat} {fz : List Nat} {M : Cx} {W : L2.WX} {X : L2.Cx} (C : SX S n fz M W X) (e : Option Expr), chkO S m e = true → L2.PO X e (tO S.cA fz M W m)
  | none, S, n, fz, M, W, X, C, e, h => by
    simp only [chkO] at h
    split at h
    · exact k_po0
    · cases h
  | some m, S, n, fz, M, W, X, C, e, h => by
    simp only [chkO] at h
    split at h
    · exact k_po fun e' m' he hm => by subst he hm; exact (e_ok m C _ h).1
    · cases h
theorem es_ok : ∀ (ms : List Ex) {S : CS} {n : Nat} {fz : List Nat} {M : Cx} {W : L2.WX} {X : L2.Cx} (C : SX S n fz M W X) (es : List Expr), chkEs S ms es = true → L2.PA X es (tA S.cA fz M W ms)
  | [], S, n, fz, M, W, X, C, es, h => by
    cases es with
    | nil => exact k_nil
    | cons e es => simp [chkEs] at h
  | m :: ms, S, n, fz, M, W, X, C, es, h => by
    cases es with
    | nil => simp [chkEs] at h
    | cons e es =>
      simp only [chkEs, Bool.and_eq_true] at h
      exact k_cons (e_ok m C _ h.1).1 (es_ok ms C _ h.2) (star_ok (chk_plain m _ h.1))
theorem p_ok : ∀ (ms : List (Ex × Ex)) {S : CS} {n : Nat} {fz : List Nat} {M : Cx} {W : L2.WX} {X : L2.Cx} {pos : Pos} (C : SX S n fz M W X) (ks : List (Option Expr)) (vs : List Expr), chkP S ms ks vs = true →
    L2.PPs X pos ks vs (ms.map fun m => (tE S.cA fz M W m.1, tE S.cA fz M W m.2)) ∧ ks.all (·.isSome) = true ∧ ks.length = ms.length ∧ vs.length = ms.length
  | [], S, n, fz, M, W, X, pos, C, ks, vs, h => by
    simp only [chkP] at h
    split at h
    · exact ⟨L2.pps_nil, rfl, rfl, rfl⟩
    · cases h
  | (a, b) :: ms, S, n, fz, M, W, X, pos, C, ks, vs, h => by
    simp only [chkP] at h
    split at h
    · simp only [Bool.and_eq_true] at h
      obtain ⟨q1, q2, q3, q4⟩ := p_ok (pos := pos) ms C _ _ h.2
      exact ⟨L2.pps_cons (e_ok a C _ h.1.1).1 (e_ok b C _ h.1.2).1 q1, by simp [q2], by simp [q3], by simp [q4]⟩
    · cases h
theorem i_ok : ∀ (it : It) {S : CS} {n : Nat} {fz : List Nat} {M : Cx} {W : L2.WX} {X : L2.Cx} (C : SX S n fz M W X) (e : Expr), isD it = false → chkI S it e = true → ∀ tg, tgI it tg = true → L2.PI X tg e (tI S.cA fz M W it)
  | .val m, S, n, fz, M, W, X, C, e, _, h, tg, _ => i_val (e_ok m C _ (by simpa only [chkI] using h)).1
  | .rng a, S, n, fz, M, W, X, C, e, _, h, tg, _ => by
    simp only [chkI] at h
    split at h
    · simp only [Bool.and_eq_true, decide_eq_true_eq] at h
      obtain ⟨⟨rfl, h1⟩, h2⟩ := h
      obtain ⟨g, hg, hd⟩ := isG_ok C h1
      exact i_rng hg g.1 (e_ok a C _ h2).1 (star_ok (chk_plain a _ h2))
    · cases h
  | .rng2 a b, S, n, fz, M, W, X, C, e, _, h, tg, _ => by
    simp only [chkI] at h
    split at h
    · simp only [Bool.and_eq_true, decide_eq_true_eq] at h
      obtain ⟨⟨⟨rfl, h1⟩, h2⟩, h3⟩ := h
      obtain ⟨g, hg, hd⟩ := isG_ok C h1
      have s2 := star_ok (es := []) (env := X.env) (chk_plain b _ h3)
      exact i_rng2 hg g.1 (e_ok a C _ h2).1 (e_ok b C _ h3).1 (by rw [star_ok (chk_plain a _ h2), s2]; rfl) s2
    · cases h
  | .rng3 a b c, S, n, fz, M, W, X, C, e, _, h, tg, _ => by
    simp only [chkI] at h
    split at h
    · simp only [Bool.and_eq_true, decide_eq_true_eq] at h
      obtain ⟨⟨⟨⟨rfl, h1⟩, h2⟩, h3⟩, h4⟩ := h
      obtain ⟨g, hg, hd⟩ := isG_ok C h1
      exact i_rng3 hg g.1 (e_ok a C _ h2).1 (e_ok b C _ h3).1 (e_ok c C _ h4).1 (star_ok (chk_plain a _ h2)) (star_ok (chk_plain b _ h3)) (star_ok (chk_plain c _ h4))
    · cases h
  | .enum a, S, n, fz, M, W, X, C, e, _, h, tg, ht => by
    simp only [chkI] at h
    split at h
    · simp only [Bool.and_eq_true, decide_eq_true_eq] at h
      obtain ⟨⟨rfl, h1⟩, h2⟩ := h
      obtain ⟨g, hg, hd⟩ := isG_ok C h1
      cases tg with
      | Tuple es k p => exact i_enum hg g.1 (e_ok a C _ h2).1 (star_ok (chk_plain a _ h2))
      | _ => cases ht
    · cases h
  | .rev a, S, n, fz, M, W, X, C, e, _, h, tg, _ => by
    simp only [chkI] at h
    split at h
    · simp only [Bool.and_eq_true, decide_eq_true_eq] at h
      obtain ⟨⟨rfl, h1⟩, h2⟩ := h
      obtain ⟨g, hg, hd⟩ := isG_ok C h1
      exact i_rev hg g.1 (e_ok a C _ h2).1 (star_ok (chk_plain a _ h2))
    · cases h
  | .zip a b, S, n, fz, M, W, X, C, e, _, h, tg, ht => by
    simp only [chkI] at h
    split at h
    · simp only [Bool.and_eq_true, decide_eq_true_eq] at h
      obtain ⟨⟨⟨rfl, h1⟩, h2⟩, h3⟩ := h
      obtain ⟨g, hg, hd⟩ := isG_ok C h1
      cases tg with
      | Tuple es k p => exact i_zip hg g.1 (e_ok a C _ h2).1 (e_ok b C _ h3).1 (star_ok (chk_plain a _ h2)) (star_ok (chk_plain b _ h3))
      | _ => cases ht
    · cases h
  | .items _, _, _, _, _, _, _, _, _, hD, _, _, _ => by cases hD
  | .vals _, _, _, _, _, _, _, _, _, hD, _, _, _ => by cases hD
  | .keys _, _, _, _, _, _, _, _, _, hD, _, _, _ => by cases hD
  | .zip3 _ _ _, _, _, _, _, _, _, _, _, _, h, _, _ => by simp [chkI] at h
/-- a walk of a dict -/
theorem d_ok : ∀ (it : It) {S : CS} {n : Nat} {fz : List Nat} {M : Cx} {W : L2.WX} {X : L2.Cx} (C : SX S n fz M W X) (e : Expr), isD it = true → chkI S it e = true → ∀ tg, tgI it tg = true → ∃ k me, it = DW.it k me ∧ L2.PI X tg e (iDW (tLV X (tE S.cA fz M W me)) k) ∧ ∀ x, foldedSetIterable e X.env x = pure x
  | .items m, S, n, fz, M, W, X, C, e, _, h, tg, ht => by
    simp only [chkI] at h
    split at h
    · simp only [Bool.and_eq_true, decide_eq_true_eq] at h
      obtain ⟨⟨⟨rfl, h1⟩, h2⟩, h3⟩ := h
      cases tg with
      | Tuple es k p => exact ⟨.items, m, rfl, i_items (e_ok m C _ h3).1 (base_ok h1) h2, fun _ => rfl⟩
      | _ => cases ht
    · cases h
  | .vals m, S, n, fz, M, W, X, C, e, _, h, tg, ht => by
    simp only [chkI] at h
    split at h
    · simp only [Bool.and_eq_true, decide_eq_true_eq] at h
      obtain ⟨⟨⟨rfl, h1⟩, h2⟩, h3⟩ := h
      exact ⟨.vals, m, rfl, i_vals (e_ok m C _ h3).1 (base_ok h1) h2, fun _ => rfl⟩
    · cases h
  | .keys m, S, n, fz, M, W, X, C, e, _, h, tg, ht => by
    have h : chkE S m e = true := by simpa only [chkI] using h
    exact ⟨.keys, m, rfl, i_keys (e_ok m C _ h).1, fold_ok (chk_plain m _ h)⟩
  | .val _, _, _, _, _, _, _, _, _, hD, _, _, _ => by cases hD
  | .rng _, _, _, _, _, _, _, _, _, hD, _, _, _ => by cases hD
  | .rng2 _ _, _, _, _, _, _, _, _, _, hD, _, _, _ => by cases hD
  | .rng3 _ _ _, _, _, _, _, _, _, _, _, hD, _, _, _ => by cases hD
  | .enum _, _, _, _, _, _, _, _, _, hD, _, _, _ => by cases hD
  | .rev _, _, _, _, _, _, _, _, _, hD, _, _, _ => by cases hD
  | .zip _ _, _, _, _, _, _, _, _, _, hD, _, _, _ => by cases hD
  | .zip3 _ _ _, _, _, _, _, _, _, _, _, hD, _, _, _ => by cases hD
theorem it_fold : ∀ (it : It) {S : CS} {env : PySem.Env} (e : Expr), chkI S it e = true → ∀ x, foldedSetIterable e env x = pure x
  | .val m, S, env, e, h => fold_ok (chk_plain m _ (by simpa only [chkI] using h))
  | .rng a, S, env, e, h => by
    simp only [chkI] at h
    split at h
    · intro _; rfl
    · cases h
  | .rng2 a b, S, env, e, h => by
    simp only [chkI] at h
    split at h
    · intro _; rfl
    · cases h
  | .rng3 a b c, S, env, e, h => by
    simp only [chkI] at h
    split at h
    · intro _; rfl
    · cases h
  | .enum a, S, env, e, h => by
    simp only [chkI] at h
    split at h
    · intro _; rfl
    · cases h
  | .rev a, S, env, e, h => by
    simp only [chkI] at h
    split at h
    · intro _; rfl
    · cases h
  | .zip a b, S, env, e, h => by
    simp only [chkI] at h
    split at h
    · intro _; rfl
    · cases h
  | .items m, S, env, e, h => by
    simp only [chkI] at h
    split at h
    · intro _; rfl
    · cases h
  | .vals m, S, env, e, h => by
    simp only [chkI] at h
    split at h
    · intro _; rfl
    · cases h
  | .keys m, S, env, e, h => fold_ok (chk_plain m _ (by simpa only [chkI] using h))
  | .zip3 _ _ _, _, _, _, h => by simp [chkI] at h
end
end MP

namespace MP
open PySem PySem.Spec PyProof.Rows
def noSwap : Expr → Bool
  | .ListComp _ _ _ _ => false
  | .SetComp _ _ _ _ => false
  | .DictComp _ _ _ _ _ => false
  | _ => true
def noTup : Expr → Bool
  | .Tuple _ _ _ => false
  | _ => true
theorem swap_ok {e : Expr} {t : Option Expr} {l : Nat} {env : PySem.Env} (h : noSwap e = true) : swapsWith e t l env = pure false := by
  cases e <;> first | rfl | cases h
theorem sole_ok {t e : Expr} {l : Nat} {env : PySem.Env} (h : noSwap e = true) : swapsWithSole [t] e l env = pure false := swap_ok (t := some t) h
theorem swapped_ok {t e : Expr} {env : PySem.Env} (h : noTup e = true) : swappedStores [t] e env = pure none := by
  cases e <;> first | (cases t <;> rfl) | cases h
theorem swap_ix {e o i : Expr} {p : Pos} {l : Nat} {env : PySem.Env} : swapsWith e (some (.Subscript o i p)) l env = pure false := by
  cases e <;> rfl
def blockK (sc : Scope) : ScopeKind := if sc.kind.isAnnotationScope then .function else sc.kind
def swapB (S : CS) (scope : Scope) (t : Str) (tp vp : Pos) : Bool :=
  blockK S.sc == .function && S.sc.names.lookup t == some .local && tp.line == vp.line && !(scope.names.any fun (n, k) => n == t && (k == .local || k == .cell))
theorem swapB_ok {S : CS} {env : PySem.Env} (hsc : env.scope = S.sc) {elt : Expr} {gs : List Comprehension} {scope : Scope} {t : Str} {tp vp : Pos} {l : Nat} : swapsWith (.ListComp elt gs scope vp) (some (.Name t tp)) l env = pure (swapB S scope t tp vp) := by
  unfold swapB
  rw [← hsc]
  rfl
mutual
def chkS (S : CS) : St → Stmt → Bool
  | .expr m, st => match st with
    | .Expr x _ => chkE S m x && noSwap x
    | _ => false
  | .set (.tg (.name i)) m, st => match st with
    | .Assign [.Name x tp] (.ListComp v gs scope vp) _ => isL S i x && chkE S m (.ListComp v gs scope vp)
    | .Assign [.Name x _] v _ => isL S i x && chkE S m v && noSwap v
    | _ => false
  | .set (.tg (.tup is)) m, st => match st with
    | .Assign [.Tuple es _ _] v _ => chkNs S is es && chkE S m v && noSwap v && noTup v
    | _ => false
  | .set (.ix o i) m, st => match st with
    | .Assign [.Subscript ov iv _] v _ => chkE S m v && chkE S o ov && chkE S i iv
    | _ => false
  | .aug i op m, st => match st with
    | .AugAssign (.Name x _) o v _ => decide (op = .add) && decide (o = .Add) && isL S i x && chkE S m v
    | _ => false
  | .ite c a b, st => match st with
    | .If t p q _ => chkE S c t && chkSs S a p && chkSs S b q
    | _ => false
  | .while c b, st => match st with
    | .While t p [] _ => chkE S c t && chkSs S b p
    | _ => false
  | .for tg it b, st => match st with
    | .For tx ix p [] _ => chkTg S tg tx && (tgI it tx && chkI S it ix) && chkSs S b p
    | _ => false
  | .ret m, st => match st with
    | .Return (some x) _ => chkE S m x
    | _ => false
  | .brk, st => match st with
    | .Break _ => true
    | _ => false
  | .cont, st => match st with
    | .Continue _ => true
    | _ => false
  | .pass, st => match st with
    | .Pass _ => true
    | _ => false
  | _, _ => false
def chkSs (S : CS) : List St → List Stmt → Bool
  | [], st => match st with
    | [] => true
    | _ => false
  | m :: ms, st => match st with
    | s :: ss => chkS S m s && chkSs S ms ss
    | _ => false
end
mutual
theorem s_ok : ∀ (m : St) {S : CS} {n : Nat} {fz : List Nat} {M : Cx} {W : L2.WX} {X : L2.Cx} (C : SX S n fz M W X) (hp : PassesOwn (model X.prog X.w) X.A X.env X.xe) (st : Stmt), chkS S m st = true → L2.PS X st (tX S.cA fz M W m)
  | .expr m, S, n, fz, M, W, X, C, hp, st, h => by
    simp only [chkS] at h
    split at h
    · rw [Bool.and_eq_true] at h
      exact s_expr (e_ok m C _ h.1).1 (swap_ok h.2)
    · cases h
  | .set (.tg (.name i)) m, S, n, fz, M, W, X, C, hp, st, h => by
    simp only [chkS] at h
    split at h
    · rename_i x tp v gs scope vp pos
      rw [Bool.and_eq_true] at h
      obtain ⟨h1, h2, h3⟩ := isL_ok C h.1
      have hN : X.N.Nodup := by rw [C.N]; exact C.nd
      cases hb : swapB S scope x tp vp with
      | false => exact s_setN hN h1 h2 h3 (e_ok m C _ h.2).1 (by rw [swapB_ok C.sc, hb])
      | true =>
        have hl : X.env.scope.names.lookup x = some .local := by
          unfold swapB at hb
          simp only [Bool.and_eq_true, beq_iff_eq] at hb
          rw [C.sc]
          exact hb.1.1.2
        have hsw : swapsWith (.ListComp v gs scope vp) (some (.Name x tp)) pos.line X.env = pure true := by rw [swapB_ok C.sc, hb]
        have hc := h.2
        cases m with
        | comp own elt tg it c =>
          cases c with
          | none =>
            simp only [chkE] at hc
            split at hc
            · rename_i e0 v tx ix k0 scope' pos' he
              cases he
              simp only [Bool.and_eq_true, decide_eq_true_eq, List.all_eq_true] at hc
              obtain ⟨⟨⟨⟨⟨rfl, c1⟩, c2⟩, c3⟩, ct, c4⟩, c5⟩ := hc
              obtain ⟨b1, b2⟩ := blk_ok C c1
              cases hD : isD it with
              | false =>
                have k := s_comp (own := ownOf S.N own) (mo := none) C.ck C.calm hN h1 hl hsw (i_ok it C _ hD c4 _ ct) b2 (fun s H A cl fp => tg_ok (C.blk _ s H A cl fp) c2) (fun as s H A cl fp => L2.pts_nil) (fun as s H A cl fp => (e_ok elt ((C.blk _ s H A cl fp).lock as) _ c5).1) (it_fold it _ c4) (by rw [b1]; exact c3)
                rw [b1] at k
                exact k
              | true =>
                obtain ⟨kk, me, rfl, hi, hs⟩ := d_ok it C _ hD c4 _ ct
                have k := s_compD (own := ownOf S.N own) (mo := none) kk C.ck C.calm hN hi b2 (fun fz' s H A cl fp => tg_ok ((C.blk _ s H A cl fp).anyF fz') c2) (fun m s H A cl fp => L2.pts_nil) (fun m s H A cl fp => (e_ok elt ((C.blk _ s H A cl fp).lockF m) _ c5).1) hs (by rw [b1]; exact c3) h1 hl hsw
                rw [b1] at k
                exact k
            · cases hc
          | some c =>
            simp only [chkE] at hc
            split at hc
            · rename_i e0 v tx ix q k0 scope' pos' he
              cases he
              simp only [Bool.and_eq_true, decide_eq_true_eq, List.all_eq_true] at hc
              obtain ⟨⟨⟨⟨⟨⟨rfl, c1⟩, c2⟩, c3⟩, ct, c4⟩, c5⟩, c6⟩ := hc
              obtain ⟨b1, b2⟩ := blk_ok C c1
              cases hD : isD it with
              | false =>
                have k := s_comp (own := ownOf S.N own) (mo := some c) C.ck C.calm hN h1 hl hsw (i_ok it C _ hD c4 _ ct) b2 (fun s H A cl fp => tg_ok (C.blk _ s H A cl fp) c2) (fun as s H A cl fp => L2.pts_one (e_ok c ((C.blk _ s H A cl fp).lock as) _ c6).2.1) (fun as s H A cl fp => (e_ok elt ((C.blk _ s H A cl fp).lock as) _ c5).1) (it_fold it _ c4) (by rw [b1]; exact c3)
                rw [b1] at k
                exact k
              | true =>
                obtain ⟨kk, me, rfl, hi, hs⟩ := d_ok it C _ hD c4 _ ct
                have k := s_compD (own := ownOf S.N own) (mo := some c) kk C.ck C.calm hN hi b2 (fun fz' s H A cl fp => tg_ok ((C.blk _ s H A cl fp).anyF fz') c2) (fun m s H A cl fp => L2.pts_one (e_ok c ((C.blk _ s H A cl fp).lockF m) _ c6).2.1) (fun m s H A cl fp => (e_ok elt ((C.blk _ s H A cl fp).lockF m) _ c5).1) hs (by rw [b1]; exact c3) h1 hl hsw
                rw [b1] at k
                exact k
            · cases hc
        | meth o mm es => rcases es with _ | ⟨a, _ | ⟨b, _ | ⟨c, r⟩⟩⟩ <;> simp [chkE] at hc
        | listOf it => cases it <;> simp [chkE] at hc
        | tupOf it => cases it <;> simp [chkE] at hc
        | _ => simp [chkE] at hc
    · simp only [Bool.and_eq_true] at h
      obtain ⟨h1, h2, h3⟩ := isL_ok C h.1.1
      exact s_setN (by rw [C.N]; exact C.nd) h1 h2 h3 (e_ok m C _ h.1.2).1 (swap_ok h.2)
    · cases h
  | .set (.tg (.tup is)) m, S, n, fz, M, W, X, C, hp, st, h => by
    simp only [chkS] at h
    split at h
    · simp only [Bool.and_eq_true] at h
      exact s_set (e_ok m C _ h.1.1.2).1 (tg_ok (tg := .tup is) C h.1.1.1) (sole_ok h.1.2) (swapped_ok h.2) rfl
    · cases h
  | .set (.fld _ _) _, _, _, _, _, _, _, _, _, _, h => by simp [chkS] at h
  | .set (.ix o i) m, S, n, fz, M, W, X, C, hp, st, h => by
    simp only [chkS] at h
    split at h
    · simp only [Bool.and_eq_true] at h
      exact s_setix C.hu C.fz (e_ok m C _ h.1.1).1 (e_ok o C _ h.1.2).1 (e_ok i C _ h.2).1 swap_ix
    · cases h
  | .aug i op m, S, n, fz, M, W, X, C, hp, st, h => by
    simp only [chkS] at h
    split at h
    · simp only [Bool.and_eq_true, decide_eq_true_eq] at h
      obtain ⟨⟨⟨rfl, rfl⟩, h1⟩, h2⟩ := h
      obtain ⟨a1, a2, a3⟩ := isL_ok C h1
      exact s_aug (by rw [C.N]; exact C.nd) a1 a2 a3 (e_ok m C _ h2).1
    · cases h
  | .augF _ _ _ _, _, _, _, _, _, _, _, _, _, h => by simp [chkS] at h
  | .ite c a b, S, n, fz, M, W, X, C, hp, st, h => by
    simp only [chkS] at h
    split at h
    · simp only [Bool.and_eq_true] at h
      exact s_if (e_ok c C _ h.1.1).2.1 (ss_ok a C hp _ h.1.2) (ss_ok b C hp _ h.2)
    · cases h
  | .while c b, S, n, fz, M, W, X, C, hp, st, h => by
    simp only [chkS] at h
    split at h
    · simp only [Bool.and_eq_true] at h
      exact s_while hp (e_ok c C _ h.1).2.1 (ss_ok b C hp _ h.2)
    · cases h
  | .for tg it b, S, n, fz, M, W, X, C, hp, st, h => by
    simp only [chkS] at h
    split at h
    · simp only [Bool.and_eq_true] at h
      cases hD : isD it with
      | false => exact s_for C.ck hp C.calm (i_ok it C _ hD h.1.2.2 _ h.1.2.1) (tg_ok C h.1.1) (fun as => ss_ok b (C.lock as) hp _ h.2) (it_fold it _ h.1.2.2)
      | true =>
        obtain ⟨kk, me, rfl, hi, hs⟩ := d_ok it C _ hD h.1.2.2 _ h.1.2.1
        exact s_forD kk C.ck hp C.calm hi (fun fz' => tg_ok (C.anyF fz') h.1.1) (fun m => ss_ok b (C.lockF m) hp _ h.2) hs
    · cases h
  | .ret m, S, n, fz, M, W, X, C, hp, st, h => by
    simp only [chkS] at h
    split at h
    · exact s_ret (e_ok m C _ h).1
    · cases h
  | .brk, S, n, fz, M, W, X, C, hp, st, h => by
    simp only [chkS] at h
    split at h
    · exact s_brk
    · cases h
  | .cont, S, n, fz, M, W, X, C, hp, st, h => by
    simp only [chkS] at h
    split at h
    · exact s_cont
    · cases h
  | .pass, S, n, fz, M, W, X, C, hp, st, h => by
    simp only [chkS] at h
    split at h
    · exact s_pass
    · cases h
  | .raise _ _, _, _, _, _, _, _, _, _, _, h => by simp [chkS] at h
  | .try _ _, _, _, _, _, _, _, _, _, _, h => by simp [chkS] at h
theorem ss_ok : ∀ (ms : List St) {S : CS} {n : Nat} {fz : List Nat} {M : Cx} {W : L2.WX} {X : L2.Cx} (C : SX S n fz M W X) (hp : PassesOwn (model X.prog X.w) X.A X.env X.xe) (st : List Stmt), chkSs S ms st = true → L2.PSs X st (tXs S.cA fz M W ms)
  | [], S, n, fz, M, W, X, C, hp, st, h => by
    cases st with
    | nil => exact s_nil
    | cons s ss => simp [chkSs] at h
  | m :: ms, S, n, fz, M, W, X, C, hp, st, h => by
    cases st with
    | nil => simp [chkSs] at h
    | cons s ss =>
      simp only [chkSs, Bool.and_eq_true] at h
      exact s_cons (s_ok m C hp _ h.1) (ss_ok ms C hp _ h.2)
end
/-! ### defs -/
section
variable {cA : CA} {T : Prog} {P : Program} {w : World} {K : PySem.W.Frag} {mg : Str → Option Value} {base : Heap} {G : List (Str × GK)}
/-- the def f stands at a, and its body is what the little language says -/
structure DefAt (cA : CA) (T : Prog) (K : PySem.W.Frag) (G : List (Str × GK)) (f : String) (a : Addr) (fd : FuncData) (ps : List Str) : Prop where
  ex : ∃ (x qual : Str) (st : Stmt) (N : List Str) (fi : Fd), L2.Fun K x qual st a fd ∧ L2.Binds K fd ps [] ∧ L2.FnScope N ps (L2.defScope st) ∧ T.fd f = some fi ∧ fi.np = ps.length ∧ fi.ns = N.length ∧
    chkSs ⟨N, L2.defScope st, G, cA, T, true⟩ fi.body (L2.defBody st) = true
def GOkB (cA : CA) (T : Prog) (K : PySem.W.Frag) (mg : Str → Option Value) (G : List (Str × GK)) (x : Str) : GK → Prop
  | .fn f => ∃ a fd ps, mg x = some (.ref a) ∧ DefAt cA T K G f a fd ps
  | .cls c => mg x = some (.ref (cA.ad c))
  | .blt id => mg x = none ∧ bootBuiltins x = some (.builtin id) ∧ x ≠ "__name__"
  | .ty t => mg x = none ∧ bootBuiltins x = some (.type t) ∧ x ≠ "__name__"
  | .str s => s.length ≤ LINE ∧ ∃ u, mg x = some u ∧ L2.RelV (.str (sv s)) u
  | .int i => ∃ u, mg x = some u ∧ L2.RelV (.int i) u
theorem re_start {ρ : List Addr} {H : HH} {N : List Str} {ws : List MP.W} {vs : List Vv} (r : RWs ρ H ws vs) : RE ρ H (ws.map some ++ List.replicate (N.length - ws.length) none) (L2.start N vs) := by
  unfold L2.start
  refine ⟨by simp [r.length], fun i w' e => ?_⟩
  by_cases hi : i < ws.length
  · rw [List.getElem?_append_left (by simpa using hi), List.getElem?_map] at e
    cases hw : ws[i]? with
    | none => rw [hw] at e; cases e
    | some u =>
      rw [hw] at e
      cases e
      obtain ⟨v, hv, rv⟩ := r.get hw
      refine ⟨v, ?_, rv⟩
      rw [List.getElem?_append_left (by rw [List.length_map, ← r.length]; exact hi), List.getElem?_map, hv]
      rfl
  · rw [List.getElem?_append_right (by simpa using hi), List.getElem?_replicate] at e
    split at e <;> cases e
theorem GoodS.out {fz : List Nat} {r : S} {ρ : List Addr} {H : HH} {Q : L2.VK} {E : L2.XK} (g : Good cA fz RW (out r) ρ H Q E) : GoodS cA fz r ρ H { nx := fun _ H' => Q .non H', rt := Q } (fun cls d _ H => E cls d H) := by
  cases r with
  | bad => exact g
  | exc y env h => exact fun ρ' c d σ' H' x rh rx _ => g ρ' c d H' x rh rx
  | ok f h =>
    cases f with
    | nx env => exact fun ρ' σ' H' x rh _ => g ρ' .non H' x rh rfl
    | rt w => exact fun ρ' σ' H' x rh v rv => g ρ' v H' x rh rv
    | bk env => exact (show False from g).elim
    | ct env => exact (show False from g).elim
theorem fn_all (cf : CF cA T K) (GB : ∀ x g, G.lookup x = some g → GOkB cA T K mg G x g) : ∀ (n : Nat) (f : String) (a : Addr) (fd : FuncData) (ps : List Str), DefAt cA T K G f a fd ps → FnAt cA T P w K mg base n f a fd ps
  | 0, f, a, fd, ps, d => by
    obtain ⟨x, qual, st, N, fi, F, B, _⟩ := d.ex
    exact ⟨⟨⟨fun vs H Q E ⟨_, _, _, _, _, _, _, _, g⟩ => g.elim, fun _ _ _ _ _ _ _ _ _ _ _ _ _ ⟨_, _, _, _, _, _, _, _, g⟩ => g.elim⟩, B⟩, F.kp⟩
  | n + 1, f, a, fd, ps, d => by
    obtain ⟨x, qual, st, N, fi, F, B, Sc, e1, e2, e3, ck⟩ := d.ex
    have inv : ∀ {vs : List Vv} {H : HH} {Q : L2.VK} {E : L2.XK}, spI cA T (n + 1) f vs H Q E → ∃ ρ fz lk h ws, (∀ m ∈ fz, m ∈ lk) ∧ RH cA ρ (· ∈ fz) h H ∧ RWs ρ H ws vs ∧ ws.length = ps.length ∧
        Good cA fz RW (out (exs ⟨T, run T n, lk, none⟩ fi.body (ws.map some ++ List.replicate (N.length - ws.length) none) h)) ρ H Q E := fun {vs H Q E} ⟨ρ, fz, lk, h, ws, hz, rh, rr, g⟩ => by
      unfold run at g
      rw [e1] at g
      obtain ⟨el, g⟩ := Good.guardR (show Good cA fz RW (guardR (decide (ws.length = fi.np)) _) ρ H _ _ from g)
      have el := of_decide_eq_true el
      rw [e3, ← el] at g
      exact ⟨ρ, fz, lk, h, ws, hz, rh, rr, by rw [el, e2], g⟩
    refine ⟨⟨(F.okX (k := 2 * n + 1) Sc (fun vs H Q E h => ?_) fun cdv A outer s H vs Q E hr hsp => ?_), B⟩, F.kp⟩
    · obtain ⟨ρ, fz, lk, h, ws, _, _, rr, el, _⟩ := inv h
      rw [← rr.length, el]
    · obtain ⟨ρ, fz, lk, h, ws, hz, rh, rr, el, g⟩ := inv hsp
      have C : SX ⟨N, L2.defScope st, G, cA, T, true⟩ n fz ⟨T, run T n, lk, none⟩ (fun cls d _ H => E cls d H) (L2.cxOf (L2.CX P w) P w K mg base N qual (L2.defScope st) a cdv A outer s H E) :=
        ⟨rfl, rfl, hz, rfl, Sc.nd, rfl, rfl, L2.takes_of rfl rfl rfl rfl, hr.mono (by omega), fun _ _ => rfl, fun x g e => by
          have := GB x g e
          cases g with
          | fn f' =>
            obtain ⟨b, fd', ps', h1, h2⟩ := this
            exact ⟨b, fd', ps', h1, fn_all cf GB n f' b fd' ps' h2⟩
          | cls c => exact this
          | blt id => exact this
          | ty t => exact this
          | str s => exact this
          | int i => exact this, cf⟩
      exact ⟨_, ss_ok fi.body C (L2.passes_of rfl) _ ck, ρ, _, h, rh, re_start rr, GoodS.out g⟩
end
end MP

namespace MP
open PySem PySem.Spec PyProof.Rows
/-! ### what is seen behind the top: no lists -/
def noL (K : PySem.W.Frag) : PySem.W.Frag := K.filter fun p => match p.2.cls with
  | .type c => !(c == "list")
  | _ => true
theorem lookup_mem {α : Type} {a : Addr} {o : α} : ∀ {l : List (Addr × α)}, l.lookup a = some o → (a, o) ∈ l
  | [], e => by cases e
  | (b, u) :: r, e => by
    rw [List.lookup_cons] at e
    cases h : a == b with
    | true =>
      rw [h] at e
      cases e
      rw [eq_of_beq h]
      exact List.mem_cons_self
    | false => rw [h] at e; exact List.mem_cons_of_mem _ (lookup_mem e)
theorem noL_mem {K : PySem.W.Frag} {a : Addr} {o : Obj} : (noL K).lookup a = some o → (a, o) ∈ K ∧ o.cls ≠ .type "list" := by
  intro e
  have hm := lookup_mem e
  obtain ⟨h1, h2⟩ := List.mem_filter.mp hm
  refine ⟨h1, fun z => ?_⟩
  simp only [z] at h2
  simp at h2
theorem frG_mem {g : Addr → Option Obj} {as : List Addr} {a : Addr} {o : Obj} (h : (a, o) ∈ He.frG g as) : g a = some o := by
  unfold He.frG at h
  obtain ⟨b, _, e⟩ := List.mem_filterMap.mp h
  cases hb : g b with
  | none => rw [hb] at e; cases e
  | some ob => rw [hb] at e; cases e; exact hb
def obsM (n : Nat) (fa : List He.Fa) (fn : List He.DefD) (g : Addr → Option Obj) : He.AlD := He.obsD fa fn (noL (He.frG g (He.asD g n)))
def hookM (n : Nat) (fa : List He.Fa) (fn : List He.DefD) : PySem.W.Hook where
  α := He.AlD
  obs := fun s => obsM n fa fn s.heap.get?
  val := fun _ => He.valD fn
  says := fun _ h => ∃ K : PySem.W.Frag, K.In h ∧ (∀ a o, K.lookup a = some o → o.cls ≠ .type "list") ∧ He.SaysD fa fn K
  of := fun _ _ e => ⟨_, fun a o q => frG_mem (noL_mem q).1, fun a o q => (noL_mem q).2, e⟩
  keeps := fun _ _ _ ⟨K, hK, n, c⟩ k => ⟨K, PySem.W.Frag.In.keeps hK k, n, c⟩
theorem obsM_eq {n : Nat} {fa : List He.Fa} {fn : List He.DefD} {g : Addr → Option Obj} {s : Shared} (h : ∀ a, g a = s.heap.get? a) : obsM n fa fn g = (hookM n fa fn).obs s := by
  have e : g = s.heap.get? := funext h
  rw [e] <;> rfl
/-! ### the end -/
def CXu : L2.CXT := fun outer H s E u s' => ∃ P w, L2.CX P w outer H s E u s'
theorem FnOk.cxu {P : Program} {w : World} {K : PySem.W.Frag} {mg : Str → Option Value} {base : Heap} {k : Nat} {f : Addr} {fd : FuncData} {ps : List Str} {sp : L2.Sp} (F : L2.FnOk P w K mg base (L2.CX P w) k f fd ps sp) : L2.FnOk P w K mg base CXu k f fd ps sp :=
  ⟨F.len, fun A outer s H args us vs Q E hr e0 hb r h => codeAny_mono (F.run A outer s H args us vs Q E hr e0 hb r h) fun r s' q => by
    cases r with
    | error e => exact ⟨P, w, q⟩
    | ok fl => cases fl <;> exact q⟩
/-- what the little language says of the law -/
def LawOk (T : Prog) (n : Nat) : Prop := ∀ ns : List Int, ns.length ≤ 63 → ∃ h, run T n [0] "law" [.ref 0] [.lst (ns.map .int)] = .ok (.bl true) h
theorem walk_end {l : PySem.W.OpenLaw} {m : Nat} {q : Program} {loose : List Str} {XP : (Str → Option Value) → Heap → Prop} {d : DefRec} {x : Str} {fa : List He.Fa} {fn : List He.DefD} {T : Prog} {G : List (Str × GK)} (cA : PySem.W.Frag → CA)
    (hn : l.most = some 63) (hdf : d.params.defaults = []) (hr : L2.Room (2 * m) callerA) (law : LawOk T m)
    (F : ∀ (K : PySem.W.Frag) (mg : Str → Option Value) (f : Addr) (h : Heap), K.In h → He.SaysD fa fn K → h.Ns mainGlobals mg → mg d.name = some (.ref f) →
      CF (cA K) T K ∧ (∀ y g, G.lookup y = some g → GOkB (cA K) T K mg G y g) ∧ ∃ fd, DefAt (cA K) T K G "law" f fd [x] ∧ ∀ (s : Shared) (u : Value), BindsTo s fd ⟨[u], []⟩ [(x, u)]) :
    PySem.W.WalkO q loose XP (fun _ h => ∃ K : PySem.W.Frag, K.In h ∧ (∀ a o, K.lookup a = some o → o.cls ≠ .type "list") ∧ He.SaysD fa fn K) l.row.toRowW d [] (fun f vs => PySem.call f vs) := by
  refine L2.walk_ofE (l := l) (n := 63) (k := 2 * m) (x := x) (CX := CXu) hn (by rw [sizeLine_eq]; decide) hdf hr (fun w mg f h Y hns hf => ?_) fun H s e s' ⟨P, w, h⟩ => ?_
  · obtain ⟨K, KX, nl, c⟩ := Y
    obtain ⟨cf, gb, fd, D, B⟩ := F K mg f h KX c hns hf
    refine ⟨K, fd, spI (cA K) T m "law", KX, B, fun H a ns hl hO hS => ?_, fun base hb hbn => FnOk.cxu (fn_all (P := l.prog) (w := w) (base := base) cf gb m "law" f fd [x] D).ok.1⟩
    have hfz : ∃ o, H a = some (.frz o (.lst (ns.map L2.V.int))) := by
      rcases hS with hS | ⟨o, its, n', e, z, _⟩
      · rcases hO a with e | ⟨o, xs, e⟩
        · rcases hS with q | ⟨o, q⟩ <;> rw [e] at q <;> cases q
        · rcases hS with q | ⟨o2, q⟩
          · rw [e] at q; cases q
          · rw [e] at q; cases q; exact ⟨_, e⟩
      · exact (nl a o e z).elim
    obtain ⟨o, hfz⟩ := hfz
    obtain ⟨h', hrun⟩ := law ns hl
    have hints : ∀ ns : List Int, RWs [a] H (ns.map .int) (ns.map L2.V.int) := by
      intro ns
      induction ns with
      | nil => rfl
      | cons i ns ih => exact ⟨_, _, rfl, rfl, ih⟩
    refine ⟨[a], [0], [0], [.lst (ns.map .int)], [.ref 0], fun m hm => hm, ⟨rfl, by simp, fun n ob b e1 e2 => ?_⟩, ⟨_, _, rfl, ⟨a, rfl, rfl⟩, rfl⟩, ?_⟩
    · cases n with
      | zero =>
        simp at e1 e2
        subst e1 e2
        exact ⟨_, hints ns, .inr ⟨by simp, o, hfz⟩⟩
      | succ n => simp at e1
    · rw [hrun]
      exact fun ρ' v H' _ _ rv => rv
  · obtain ⟨_, _, _, _, _, _, _, _, _, _, _, _, z⟩ := h
    exact z.elim
end MP
namespace MP
open PySem PySem.Spec PyProof.Rows
theorem funD_fun {K : PySem.W.Frag} {x qual : Str} {st : Stmt} {f : Addr} {fd : FuncData} (F : L2.FunD K x qual (L2.defArgs st) (L2.defBody st) (L2.defScope st) [] [] f fd) : L2.Fun K x qual st f fd := by
  obtain ⟨oc, od, dV, kV, doc, pm, an, cdv, ct, osl, e, lk, hcd, hD, hK⟩ := F.ex
  rcases hD with ⟨_, rfl⟩ | ⟨z, _⟩
  · exact ⟨⟨oc, od, kV, doc, pm, an, cdv, ct, osl, e, lk, hcd⟩, F.kp⟩
  · exact absurd rfl z
theorem mem_cons_of {α : Type} {P : α → Prop} {a : α} {l : List α} (h : P a) (t : ∀ p ∈ l, P p) : ∀ p ∈ a :: l, P p := fun p hp => (List.mem_cons.mp hp).elim (fun e => e ▸ h) (t p)
theorem lookup_memS {α : Type} {a : Str} {o : α} : ∀ {l : List (Str × α)}, l.lookup a = some o → (a, o) ∈ l
  | [], e => by cases e
  | (b, u) :: r, e => by
    rw [List.lookup_cons] at e
    cases h : a == b with
    | true =>
      rw [h] at e
      cases e
      rw [eq_of_beq h]
      exact List.mem_cons_self
    | false => rw [h] at e; exact List.mem_cons_of_mem _ (lookup_memS e)
theorem cf_nil {cA : CA} {T : Prog} {K : PySem.W.Frag} (h : cA.cls = []) : CF cA T K :=
  ⟨(fun c hc => by rw [h] at hc; cases hc), (fun c hc => by rw [h] at hc; cases hc), (fun c hc => by rw [h] at hc; cases hc), (fun n _ c hc => by rw [h] at hc; cases hc), (fun c hc => by rw [h] at hc; cases hc)⟩
end MP

/-! The little language with values in the place of cells: a second reading of the same trees. -/
namespace BP
open MP

inductive V where
  | non | bl (b : Bool) | int (i : Int) | str (s : List Nat) | tup (xs : List V) | lst (xs : List V) | dct (kvs : List (V × V)) | ref (b : Nat)
  deriving Inhabited, Repr
mutual
@[simp] def tw : V → W
  | .non => .non | .bl b => .bl b | .int i => .int i | .str s => .str s
  | .tup xs => .tup (tws xs)
  | .lst _ => .non | .dct _ => .non | .ref _ => .non
@[simp] def tws : List V → List W
  | [] => []
  | x :: r => tw x :: tws r
end
mutual
/-- no cells within -/
@[simp] def cf : V → Bool
  | .non => true | .bl _ => true | .int _ => true | .str _ => true
  | .tup xs => cfs xs
  | .lst _ => false | .dct _ => false | .ref _ => false
@[simp] def cfs : List V → Bool
  | [] => true
  | x :: r => cf x && cfs r
end
inductive Md where
  | fz | own | lkd
  deriving DecidableEq, Repr, Inhabited
structure Sl where
  m : Md
  v : V
  arg : Bool := false
  deriving Inhabited, Repr
inductive Bx where
  | ins (c : String) (fs : List (String × Sl))
  | con (m : Md) (v : V)
  deriving Inhabited, Repr
abbrev HB := List Bx
abbrev EB := List (Option Sl)
structure BX where
  c : String
  fs : List (String × V)
  deriving Inhabited, Repr
inductive Pl where
  | sl (i : Nat) | fd (b : Nat) (f : String) | cn (b : Nat)
  deriving Repr, DecidableEq
inductive RV where
  | val (v : V) | tmp (v : V) | pl (p : Pl)
  deriving Repr
inductive B (α : Type) where
  | bad | ok (a : α) (E : EB) (H : HB) | exc (x : BX) (E : EB) (H : HB)
def B.bind {α β : Type} (r : B α) (f : α → EB → HB → B β) : B β :=
  match r with
  | .ok a E H => f a E H
  | .exc x E H => .exc x E H
  | .bad => .bad
def B.of {α : Type} (o : Option α) (E : EB) (H : HB) : B α :=
  match o with
  | some a => .ok a E H
  | none => .bad
def B.calm {α : Type} (r : B α) : B α :=
  match r with
  | .ok a E H => .ok a E H
  | _ => .bad
def thenB {α β : Type} (o : Option α) (f : α → B β) : B β :=
  match o with
  | some a => f a
  | none => .bad
def guardB {β : Type} (b : Bool) (r : B β) : B β := if b then r else .bad
def guardO {α : Type} (b : Bool) (r : Option α) : Option α := if b then r else none
section
variable {α β : Type} {a : α} {E : EB} {H : HB} {f : α → EB → HB → B β} {x : BX} {g : α → B β} {r : B β} {q : Option α}
@[simp] theorem B.bind_ok : (B.ok a E H).bind f = f a E H := rfl
@[simp] theorem B.bind_exc : (B.exc x E H).bind f = .exc x E H := rfl
@[simp] theorem B.bind_bad : (B.bad : B α).bind f = .bad := rfl
@[simp] theorem B.of_some : B.of (some a) E H = .ok a E H := rfl
@[simp] theorem B.of_none : B.of (none : Option α) E H = .bad := rfl
@[simp] theorem B.calm_ok : (B.ok a E H).calm = .ok a E H := rfl
@[simp] theorem B.calm_exc : (B.exc x E H : B α).calm = .bad := rfl
@[simp] theorem B.calm_bad : (B.bad : B α).calm = .bad := rfl
@[simp] theorem thenB_some : thenB (some a) g = g a := rfl
@[simp] theorem thenB_none : thenB (none : Option α) g = .bad := rfl
@[simp] theorem guardB_true : guardB true r = r := rfl
@[simp] theorem guardB_false : guardB false r = .bad := rfl
@[simp] theorem guardO_true : guardO true q = q := rfl
@[simp] theorem guardO_false : guardO false q = none := rfl
end

/-! ### places -/
@[simp] def der (H : HB) : V → V
  | .ref b => match H[b]? with
    | some (.con _ v) => v
    | _ => .ref b
  | .non => .non | .bl b => .bl b | .int i => .int i | .str s => .str s | .tup xs => .tup xs | .lst xs => .lst xs | .dct xs => .dct xs
@[simp] def fdS (f : String) : Option Bx → Option Sl
  | some (.ins _ fs) => fs.lookup f
  | _ => none
@[simp] def cnS : Option Bx → Option Sl
  | some (.con m v) => some ⟨m, v, false⟩
  | _ => none
/-- what stands at a place -/
@[simp] def at_ (E : EB) (H : HB) : Pl → Option Sl
  | .sl i => E[i]?.join
  | .fd b f => fdS f H[b]?
  | .cn b => cnS H[b]?
@[simp] def cont (E : EB) (H : HB) : RV → Option V
  | .val v => some (der H v)
  | .tmp v => some v
  | .pl p => (at_ E H p).map fun s => der H s.v
@[simp] def putF (f : String) (s : Sl) : List (String × Sl) → List (String × Sl)
  | [] => [(f, s)]
  | (g, u) :: r => if f = g then (g, s) :: r else (g, u) :: putF f s r
@[simp] def setFd (f : String) (s : Sl) (b : Nat) (H : HB) : Option Bx → Option HB
  | some (.ins c fs) => some (H.set b (.ins c (putF f s fs)))
  | _ => none
/-- what stands at a place is changed -/
@[simp] def put (E : EB) (H : HB) (s : Sl) : Pl → Option (EB × HB)
  | .sl i => some (E.set i (some s), H)
  | .fd b f => (setFd f s b H H[b]?).map fun H => (E, H)
  | .cn b => some (E, H.set b (.con s.m s.v))
/-- new content for what stands there and is not locked -/
@[simp] def newC (E : EB) (H : HB) (v : V) (p : Pl) : Option (EB × HB) :=
  (at_ E H p).bind fun s => match s.m with
    | .own => put E H ⟨.own, v, s.arg⟩ p
    | _ => none
@[simp] def mutS (E : EB) (H : HB) (v : V) (p : Pl) (s : Sl) : Option (EB × HB) :=
  match s.v with
  | .ref b => newC E H v (.cn b)
  | _ => newC E H v p
/-- new content for what was answered -/
@[simp] def mutR (E : EB) (H : HB) (v : V) : RV → Option (EB × HB)
  | .tmp _ => some (E, H)
  | .val (.ref b) => newC E H v (.cn b)
  | .val _ => none
  | .pl p => (at_ E H p).bind fun s => mutS E H v p s
/-- what was answered is to be stored -/
@[simp] def sealS (E : EB) (H : HB) (i : Nat) (s : Sl) : B V :=
  match s.m with
  | .fz => .ok s.v E H
  | .own => .ok s.v (E.set i (some ⟨.fz, s.v, s.arg⟩)) H
  | .lkd => .bad
@[simp] def sealF (E : EB) (H : HB) (s : Sl) : B V :=
  match s.m with
  | .fz => .ok s.v E H
  | _ => .bad
@[simp] def sealR (E : EB) (H : HB) : RV → B V
  | .val v => .ok v E H
  | .tmp v => .ok v E H
  | .pl (.sl i) => thenB (E[i]?.join) (sealS E H i)
  | .pl (.fd b f) => thenB (fdS f H[b]?) (sealF E H)
  | .pl (.cn _) => .bad
/-- an operand that waits for others; later ones are simple or not -/
@[simp] def fixR (later : Bool) : RV → Option RV
  | .val v => some (.val v)
  | .tmp v => some (.val v)
  | .pl (.sl i) => some (.pl (.sl i))
  | .pl (.fd b f) => if later then some (.pl (.fd b f)) else none
  | .pl (.cn _) => none
/-- the same where a fresh one may wait -/
@[simp] def fixT (later : Bool) : RV → Option RV
  | .tmp v => some (.tmp v)
  | .val v => some (.val v)
  | .pl (.sl i) => some (.pl (.sl i))
  | .pl (.fd b f) => if later then some (.pl (.fd b f)) else none
  | .pl (.cn _) => none
@[simp] def lockM : Md → Md
  | .fz => .fz
  | .own => .lkd
  | .lkd => .lkd
@[simp] def lockOf (v : V) (p : Pl) : Pl := match v with
  | .ref b => .cn b
  | _ => p
/-- which places stand still while it is walked -/
@[simp] def locks (E : EB) (H : HB) : RV → List Pl
  | .tmp _ => []
  | .val (.ref b) => [.cn b]
  | .val _ => []
  | .pl p => match at_ E H p with
    | some s => [lockOf s.v p]
    | none => []
@[simp] def modes (E : EB) (H : HB) : List Pl → Option (List Md)
  | [] => some []
  | p :: r => (at_ E H p).bind fun s => guardO (decide (p ∉ r)) ((modes E H r).map fun l => s.m :: l)
@[simp] def lockP (E : EB) (H : HB) : List Pl → Option (EB × HB)
  | [] => some (E, H)
  | p :: r => (at_ E H p).bind fun s => (put E H ⟨lockM s.m, s.v, s.arg⟩ p).bind fun q => lockP q.1 q.2 r
@[simp] def unlockP (E : EB) (H : HB) : List Pl → List Md → Option (EB × HB)
  | p :: r, m :: ms => (unlockP E H r ms).bind fun q => (at_ q.1 q.2 p).bind fun s => guardO (decide (s.m = lockM m)) (put q.1 q.2 ⟨m, s.v, s.arg⟩ p)
  | _, _ => some (E, H)

/-! ### equality, order, keys -/
@[simp] def veqs (f : V → V → Option Bool) : List V → List V → Option Bool
  | x :: xs, y :: ys => (f x y).bind fun a => (veqs f xs ys).map fun b => a && b
  | _, _ => some true
def veqS : V → V → Option Bool
  | .non, .non => some true
  | .bl a, .bl b => some (a == b)
  | .int a, .int b => some (a == b)
  | .bl a, .int b => some ((if a then 1 else 0) == b)
  | .int a, .bl b => some (a == (if b then 1 else 0))
  | .str a, .str b => some (a == b)
  | .tup _, .tup _ => none
  | .lst _, _ => none
  | _, .lst _ => none
  | .dct _, _ => none
  | _, .dct _ => none
  | .ref _, _ => none
  | _, .ref _ => none
  | _, _ => some false
@[simp] def kindV (v : V) : Nat := if cf v then kind (tw v) else 0
@[simp] def keqV (a b : V) : Bool := keq (tw a) (tw b)
def keyInV (k : V) (kvs : List (V × V)) : Bool := kindV k != 0 && kvs.all fun p => kindV p.1 == kindV k
def dgetV (k : V) : List (V × V) → Option V
  | [] => none
  | (k', v) :: r => if keqV k' k then some v else dgetV k r
def dputV (k v : V) : List (V × V) → List (V × V)
  | [] => [(k, v)]
  | (k', u) :: r => if keqV k' k then (k', v) :: r else (k', u) :: dputV k v r
def ddelV (k : V) : List (V × V) → List (V × V)
  | [] => []
  | (k', u) :: r => if keqV k' k then r else (k', u) :: ddelV k r
def dmergeV (xs : List (V × V)) : List (V × V) → List (V × V)
  | [] => xs
  | (k, v) :: r => dmergeV (dputV k v xs) r
@[simp] def flatV (v : V) : Bool := cf v && isFlat (tw v)
@[simp] def veqD (f : V → V → Option Bool) (ys : List (V × V)) : List (V × V) → Option Bool
  | [] => some true
  | (k, v) :: r =>
    match dgetV k ys with
    | none => (veqD f ys r).map fun _ => false
    | some u => (f v u).bind fun a => (veqD f ys r).map fun b => a && b
def veqN : Nat → V → V → Option Bool
  | n + 1, .tup xs, .tup ys => (veqs (veqN n) xs ys).map fun b => b && decide (xs.length = ys.length)
  | n + 1, .lst xs, .lst ys => if xs.length = ys.length then veqs (veqN n) xs ys else some false
  | n + 1, .dct xs, .dct ys => if xs.all (fun p => flatV p.1) && ys.all (fun p => flatV p.1) then (veqD (veqN n) ys xs).map fun b => decide (xs.length = ys.length) && b else none
  | _, x, y => veqS x y
def veq (x y : V) : Option Bool := veqN 20 x y
@[simp] def wltV (x y : V) : Option Bool := if cf x && cf y then wlt (tw x) (tw y) else none
def wleV (x y : V) : Bool := match wltV y x with
  | some b => !b
  | none => false
def wltOkV (xs : List V) : Bool := cfs xs && wltOk (tws xs)
def sortV (xs : List V) : Option (List V) := if wltOkV xs then some (MP.msort wleV xs) else none
def sortPV (ps : List (V × V)) : Option (List V) :=
  if wltOkV (ps.map (·.1)) then some ((MP.msort (fun p q => wleV p.1 q.1) ps).map (·.2)) else none
def minPV : List (V × V) → Option (V × V)
  | [] => none
  | p :: r => if wltOkV ((p :: r).map (·.1)) then r.foldl (fun m q => m.bind fun m => (wltV q.1 m.1).map fun b => if b then q else m) (some p) else none

/-! ### operators -/
def vbin : BinOp → V → V → Option RV
  | .add, .int i, .int j => some (.val (.int (i + j)))
  | .sub, .int i, .int j => some (.val (.int (i - j)))
  | .mul, .int i, .int j => guardO (mulOk i j) (some (.val (.int (i * j))))
  | .fdiv, .int i, .int j => guardO (divOk j) (some (.val (.int (i / j))))
  | .mod, .int i, .int j => guardO (decide (0 < j)) (some (.val (.int (i % j))))
  | .pow, .int i, .int j => guardO (powOk i j) (some (.val (.int (i ^ j.toNat))))
  | .shl, .int i, .int j => guardO (powOk i j) (some (.val (.int (i * 2 ^ j.toNat))))
  | .shr, .int i, .int j => guardO (decide (0 ≤ j)) (some (.val (.int (i / 2 ^ j.toNat))))
  | .band, .int i, .int j => guardO (decide (0 ≤ i) && decide (0 ≤ j)) (some (.val (.int ((i.toNat &&& j.toNat : Nat) : Int))))
  | .bor, .int i, .int j => guardO (decide (0 ≤ i) && decide (0 ≤ j)) (some (.val (.int ((i.toNat ||| j.toNat : Nat) : Int))))
  | .add, .str a, .str b => guardO (decide (a.length + b.length ≤ LINE)) (some (.val (.str (a ++ b))))
  | .add, .tup a, .tup b => guardO (decide (a.length + b.length ≤ LINE)) (some (.val (.tup (a ++ b))))
  | .mul, .str a, .int j => guardO (decide (a.length * j.toNat ≤ LINE) && decide (j.natAbs < 2 ^ 62)) (some (.val (.str (List.replicate j.toNat a).flatten)))
  | .add, .lst a, .lst b => guardO (decide (a.length + b.length ≤ LINE)) (some (.tmp (.lst (a ++ b))))
  | _, _, _ => none
def vibin : BinOp → V → V → Option V
  | .add, .int i, .int j => some (.int (i + j))
  | _, _, _ => none
def memV (x : V) (ys : List V) : Option Bool := if cf x && cfs ys then memW (tw x) (tws ys) else none
def visIn : V → V → Option Bool
  | .str a, .str b => some (sIn a b)
  | x, .tup ys => memV x ys
  | x, .lst ys => memV x ys
  | x, .dct kvs => if keyInV x kvs then some (dgetV x kvs).isSome else none
  | _, _ => none
def vnon : V → Bool
  | .non => true
  | _ => false
def vints : List V → Option (List Int)
  | [] => some []
  | .int s :: r => (vints r).map (s :: ·)
  | _ => none
def vcmp : CmpOp → V → V → Option Bool
  | .eq, x, y => veq x y
  | .ne, x, y => (veq x y).map (!·)
  | .lt, .int i, .int j => some (decide (i < j))
  | .le, .int i, .int j => some (decide (i ≤ j))
  | .gt, .int i, .int j => some (decide (j < i))
  | .ge, .int i, .int j => some (decide (j ≤ i))
  | .lt, .str a, .str b => some (slt a b)
  | .le, .str a, .str b => some (!slt b a)
  | .gt, .str a, .str b => some (slt b a)
  | .ge, .str a, .str b => some (!slt a b)
  | .lt, .tup a, .tup b => (vints a).bind fun ns => (vints b).map fun ms => lexI ns ms
  | .le, .tup a, .tup b => (vints a).bind fun ns => (vints b).map fun ms => lexE ns ms
  | .isin, x, y => visIn x y
  | .notin, x, y => (visIn x y).map (!·)
  | .is, x, .non => some (vnon x)
  | .isnot, x, .non => some (!vnon x)
  | .is, .bl a, .bl b => some (a == b)
  | .isnot, .bl a, .bl b => some (a != b)
  | _, _, _ => none
def vitem : V → V → Option V
  | .str s, .int i => (atI s i).map fun c => .str [c]
  | .tup xs, .int i => atI xs i
  | .lst xs, .int i => atI xs i
  | .dct kvs, y => if keyInV y kvs then dgetV y kvs else none
  | _, _ => none
def vslice : V → Option Int → Option Int → Option RV
  | .str s, lo, hi => some (.val (.str (cutL s lo hi)))
  | .tup xs, lo, hi => some (.val (.tup (cutL xs lo hi)))
  | .lst xs, lo, hi => some (.tmp (.lst (cutL xs lo hi)))
  | _, _, _ => none
def vsetIx : V → V → V → Option V
  | .lst xs, .int i, v => (ixN xs.length i).map fun j => .lst (xs.set j v)
  | .dct kvs, y, v => guardO (keyInV y kvs && decide (kvs.length < LINE)) (some (.dct (dputV y v kvs)))
  | _, _, _ => none
def vneg : V → Option V
  | .int i => some (.int (-i))
  | _ => none
def vpart : V → Option Int
  | .int i => some i
  | _ => none
def vbool : V → Option Bool
  | .bl b => some b
  | _ => none

/-! ### what is walked -/
def vwalk : V → Option (List V)
  | .str s => some (s.map fun c => .str [c])
  | .tup xs => some xs
  | .lst xs => some xs
  | _ => none
def vwalk2 : V → V → Option (List V × List V)
  | .tup xs, .tup ys => some (xs, ys)
  | .lst xs, .lst ys => some (xs, ys)
  | _, _ => none
def vlot : V → Option (List V)
  | .tup xs => some xs
  | .lst xs => some xs
  | _ => none
def vlst : V → Option (List V)
  | .lst xs => some xs
  | _ => none
def vkeys : V → Option (List V)
  | .dct kvs => guardO (kvs.all fun p => flatV p.1) (some (kvs.map (·.1)))
  | _ => none
def vitems : V → Option (List V)
  | .dct kvs => guardO (kvs.all fun p => flatV p.1) (some (kvs.map fun p => .tup [p.1, p.2]))
  | _ => none
def vvals : V → Option (List V)
  | .dct kvs => guardO (kvs.all fun p => flatV p.1) (some (kvs.map (·.2)))
  | _ => none
def rangeV (lo hi : Int) : List V := (List.range (hi - lo).toNat).map fun (k : Nat) => V.int (lo + (k : Int))
def rangeSV (lo hi st : Int) : List V := (List.range ((hi - lo + st - 1) / st).toNat).map fun (k : Nat) => V.int (lo + st * (k : Int))
def vrng1 : V → Option (List V)
  | .int n => if small62 n then some (rangeV 0 n) else none
  | _ => none
def vrng2 : V → V → Option (List V)
  | .int i, .int j => if small62 i && small62 j then some (rangeV i j) else none
  | _, _ => none
def vrng3 : V → V → V → Option (List V)
  | .int i, .int j, .int s => if small62 i && small62 j && decide (0 < s) && decide (s < 2 ^ 20) then some (rangeSV i j s) else none
  | _, _, _ => none
def enumV (ys : List V) : List V := ys.zipIdx.map fun p => .tup [.int ((p.2 : Nat) : Int), p.1]
def zipV (xs ys : List V) : List V := (xs.zip ys).map fun z => .tup [z.1, z.2]
def zip3V (xs ys zs : List V) : List V := (xs.zip (ys.zip zs)).map fun z => .tup [z.1, z.2.1, z.2.2]

/-! ### built-in functions and methods -/
def vstrs : List V → Option (List (List Nat))
  | [] => some []
  | .str s :: r => (vstrs r).map (s :: ·)
  | _ => none
def vbls : List V → Option (List Bool)
  | [] => some []
  | .bl s :: r => (vbls r).map (s :: ·)
  | _ => none
def vlen : V → Option Nat
  | .str s => some s.length
  | .tup s => some s.length
  | .lst s => some s.length
  | .dct s => some s.length
  | _ => none
def vseq : V → Option (List V)
  | .tup xs => some xs
  | .lst xs => some xs
  | .dct kvs => some (kvs.map (·.1))
  | _ => none
def vblt : Blt → List V → Option RV
  | .len, [x] => (vlen x).map fun (n : Nat) => .val (.int (n : Int))
  | .int, [.int i] => some (.val (.int i))
  | .int, [.bl b] => some (.val (.int (if b then 1 else 0)))
  | .str, [.int i] => guardO (decide (i.natAbs < 2 ^ 1900)) (some (.val (.str (intText i))))
  | .str, [.str s] => some (.val (.str s))
  | .list, [x] => (vseq x).map fun l => .tmp (.lst l)
  | .tuple, [x] => (vlot x).map fun l => .val (.tup l)
  | .dict, [.dct kvs] => guardO (kvs.all fun p => flatV p.1) (some (.tmp (.dct kvs)))
  | .sorted, [x] => (vseq x).bind fun l => (sortV l).map fun l => .tmp (.lst l)
  | .min2, [.int i, .int j] => some (.val (.int (if j < i then j else i)))
  | .max2, [.int i, .int j] => some (.val (.int (if i < j then j else i)))
  | .min, [x] => (vlst x).bind fun l => (vints l).bind fun l => (minI l).map fun i => .val (.int i)
  | .max, [x] => (vlst x).bind fun l => (vints l).bind fun l => (maxI l).map fun i => .val (.int i)
  | .sum, [x] => (vlst x).bind fun l => (vints l).map fun l => .val (.int l.sum)
  | .any, [x] => (vwalk x).bind fun l => (vbls l).map fun l => .val (.bl (l.any id))
  | .lenset, [x] => (vwalk x).map fun l => .val (.int ((once (tws l)).length : Nat))
  | .divmod, [.int i, .int j] => guardO (divOk j) (some (.val (.tup [.int (i / j), .int (i % j)])))
  | _, _ => none

inductive MR where
  | pure (r : RV) | mut (v r : V)
def partV (c : Nat) (s : List Nat) : V :=
  let p := cutAt c s
  if p.2.1 then .tup [.str p.1, .str [c], .str p.2.2] else .tup [.str s, .str [], .str []]
def rpartV (c : Nat) (s : List Nat) : V :=
  let p := cutAt c s.reverse
  if p.2.1 then .tup [.str p.2.2.reverse, .str [c], .str p.1.reverse] else .tup [.str [], .str [], .str s]
def vmS (s : List Nat) : String → List V → Option MR
  | "join", [y] => (vlot y).bind fun p => (vstrs p).bind fun zs => guardO (decide ((zs.map List.length).sum + zs.length * s.length ≤ LINE)) (some (.pure (.val (.str (joinS s zs)))))
  | "split", [.str [c]] => some (.pure (.tmp (.lst ((splitOn c s).map .str))))
  | "partition", [.str [c]] => some (.pure (.val (partV c s)))
  | "rpartition", [.str [c]] => some (.pure (.val (rpartV c s)))
  | "index", [.str [c]] => (s.findIdx? (· == c)).map fun (n : Nat) => .pure (.val (.int (n : Int)))
  | _, _ => none
def vmL (ys : List V) : String → List V → Option MR
  | "append", [y] => guardO (decide (ys.length < LINE)) (some (.mut (.lst (ys ++ [y])) .non))
  | "extend", [.lst zs] => guardO (decide (ys.length + zs.length ≤ LINE)) (some (.mut (.lst (ys ++ zs)) .non))
  | "clear", [] => some (.mut (.lst []) .non)
  | "copy", [] => some (.pure (.tmp (.lst ys)))
  | "pop", [] => (ys.getLast?).map fun y => .mut (.lst ys.dropLast) y
  | "pop", [.int i] => (ixN ys.length i).bind fun j => (ys[j]?).map fun y => .mut (.lst (ys.eraseIdx j)) y
  | "remove", [y] => guardO (ys.all fun z => sameF (tw z) (tw y)) ((ys.findIdx? (fun z => keqb (tw z) (tw y))).map fun j => .mut (.lst (ys.eraseIdx j)) .non)
  | _, _ => none
def popV (kvs : List (V × V)) (k : V) (d : Option MR) : Option V → Option MR
  | some v => some (.mut (.dct (ddelV k kvs)) v)
  | none => d
def setV (kvs : List (V × V)) (k d : V) : Option V → MR
  | some v => .pure (.val v)
  | none => .mut (.dct (dputV k d kvs)) d
def vmD (kvs : List (V × V)) : String → List V → Option MR
  | "get", [k] => guardO (keyInV k kvs) (some (.pure (.val ((dgetV k kvs).getD .non))))
  | "get", [k, d] => guardO (keyInV k kvs) (some (.pure (.val ((dgetV k kvs).getD d))))
  | "pop", [k] => guardO (keyInV k kvs) (popV kvs k none (dgetV k kvs))
  | "pop", [k, d] => guardO (keyInV k kvs) (popV kvs k (some (.pure (.val d))) (dgetV k kvs))
  | "setdefault", [k, d] => guardO (keyInV k kvs && decide (kvs.length < LINE)) (some (setV kvs k d (dgetV k kvs)))
  | "copy", [] => guardO (kvs.all fun p => flatV p.1) (some (.pure (.tmp (.dct kvs))))
  | "clear", [] => some (.mut (.dct []) .non)
  | "update", [.dct zs] => guardO (zs.all (fun p => keyInV p.1 kvs && keyInV p.1 zs) && decide (kvs.length + zs.length < LINE)) (some (.mut (.dct (dmergeV kvs zs)) .non))
  | _, _ => none
def vmI (i : Int) : String → List V → Option MR
  | "bit_length", [] => some (.pure (.val (.int (if i = 0 then 0 else (i.natAbs.log2 + 1 : Nat)))))
  | _, _ => none
def vm : V → String → List V → Option MR
  | .str s, m, xs => vmS s m xs
  | .int i, m, xs => vmI i m xs
  | .lst ys, m, xs => vmL ys m xs
  | .dct kvs, m, xs => vmD kvs m xs
  | _, _, _ => none
/-- arguments that are read, not stored -/
def readM : List String := ["extend", "update", "join"]
def insTy (T : Prog) (c : String) : Option Bx → Option Bool
  | some (.ins d _) => some (T.sub d c)
  | _ => none
def visTy (T : Prog) (H : HB) : V → Ty → Option Bool
  | .int _, .int => some true
  | .bl _, .int => some true
  | .bl _, .bool => some true
  | .str _, .str => some true
  | .tup _, .tuple => some true
  | .lst _, .list => some true
  | .dct _, .dict => some true
  | .ref b, .own c => insTy T c H[b]?
  | .ref b, .list => insTy ⟨fun _ => none, fun _ _ => none, fun _ _ => false, fun _ => none⟩ "" H[b]?
  | .ref b, .dict => insTy ⟨fun _ => none, fun _ _ => none, fun _ _ => false, fun _ => none⟩ "" H[b]?
  | _, _ => some false
inductive MthB where
  | own (f : String) (b : Nat) | blt
def mthI (T : Prog) (m : String) (b : Nat) : Option Bx → Option MthB
  | some (.ins c fs) => if (fs.lookup m).isNone then (T.mt c m).map fun f => .own f b else none
  | _ => none
def mthB (T : Prog) (m : String) (H : HB) : V → Option MthB
  | .ref b => mthI T m b H[b]?
  | .str _ => if m ∈ strM then some .blt else none
  | .int _ => if m = "bit_length" then some .blt else none
  | .lst _ => if m ∈ lstM then some .blt else none
  | .dct _ => if m ∈ dctM then some .blt else none
  | _ => none
def fmtV : V → Option (List Nat)
  | .int i => if i.natAbs < 2 ^ 1900 then some (intText i) else none
  | .str s => some s
  | _ => none

/-! ### targets -/
def vunpack : V → Option (List V)
  | .tup vs => some vs
  | .lst vs => some vs
  | _ => none
@[simp] def free (E : EB) (i : Nat) : Bool := match E[i]? with
  | some (some s) => !s.arg && decide (s.m ≠ .lkd)
  | some none => true
  | none => false
@[simp] def setB (E : EB) (i : Nat) (s : Sl) : Option EB := guardO (free E i) (some (E.set i (some s)))
@[simp] def setAllB : EB → List Nat → List V → Option EB
  | E, [], [] => some E
  | E, i :: is, v :: vs => (setB E i ⟨.fz, v, false⟩).bind fun E => setAllB E is vs
  | _, _, _ => none
@[simp] def bindB : Tg → V → EB → HB → Option EB
  | .name i, v, E, _ => setB E i ⟨.fz, v, false⟩
  | .tup is, v, E, H => (vunpack (der H v)).bind fun vs => setAllB E is vs
@[simp] def tgIn (own : List Nat) : Tg → Bool
  | .name i => decide (i ∈ own)
  | .tup is => is.all fun i => decide (i ∈ own)
@[simp] def wipeB (E : EB) : List Nat → EB
  | [] => E
  | i :: is => (wipeB E is).set i none
/-- slots that may be put aside -/
@[simp] def asideOk (E : EB) : List Nat → Bool
  | [] => true
  | i :: is => (match E[i]?.join with
    | some s => decide (s.m = .fz)
    | none => true) && asideOk E is
@[simp] def restB (E0 : EB) (E : EB) : List Nat → EB
  | [] => E
  | i :: is => (restB E0 E is).set i (E0[i]?.join)

/-! ### simple expressions -/
mutual
@[simp] def simple : Ex → Bool
  | .non => true | .bl _ => true | .int _ => true | .str _ => true | .var _ => true
  | .bin _ a b => simple a && simple b
  | .neg a => simple a
  | .cmp _ a b => simple a && simple b
  | .chain _ _ a b c => simple a && simple b && simple c
  | .and a b => simple a && simple b
  | .or a b => simple a && simple b
  | .not a => simple a
  | .ife c a b => simple c && simple a && simple b
  | .fld o _ => simple o
  | .ix o i => simple o && simple i
  | .tup es => simples es
  | .lst es => simples es
  | .dct kvs => simplep kvs
  | .blt _ es => simples es
  | .isi e _ => simple e
  | .curFld _ => true
  | .curIs _ => true
  | _ => false
@[simp] def simples : List Ex → Bool
  | [] => true
  | e :: es => simple e && simples es
@[simp] def simplep : List (Ex × Ex) → Bool
  | [] => true
  | (a, b) :: es => simple a && simple b && simplep es
end
@[simp] def simpleO : Option Ex → Bool
  | none => true
  | some e => simple e

/-! ### the second reading -/
/-- which fresh cells become boxes: of fields (0 its own cell, 1 a box, 2 a value); of names; of the i-th item of a list (0), a dict (1), a method's arguments (2), a tuple (5), of a value set at a place (3), of a comprehension's items (4), by the def that stands around it -/
structure Orc where
  fld : String → Nat
  var : String → Nat → Bool
  box : String → Nat → Nat → Bool
inductive FR where
  | bad | ok (r : Sl) (as : List Sl) (H : HB) | exc (x : BX) (as : List Sl) (H : HB)
structure BCx where
  T : Prog
  call : String → List Sl → HB → FR
  O : Orc
  fn : String
  cur : Option BX := none

def argS (s : Sl) : Sl := ⟨s.m, s.v, false⟩
/-- the arguments' slots at the call -/
def slotsOf (E : EB) : List RV → Option (List Sl)
  | [] => some []
  | .pl (.sl i) :: r => (E[i]?.join).bind fun s => (slotsOf E r).map fun l => argS s :: l
  | .val v :: r => (slotsOf E r).map fun l => ⟨.fz, v, false⟩ :: l
  | _ => none
def isSl (i : Nat) : RV → Bool
  | .pl (.sl j) => i == j
  | _ => false
def isFz (E : EB) (i : Nat) : Bool := match E[i]?.join with
  | some s => decide (s.m = .fz)
  | none => false
def okIdx (E : EB) : List RV → Bool
  | [] => true
  | .pl (.sl i) :: r => (!(r.any (isSl i)) || isFz E i) && okIdx E r
  | _ :: r => okIdx E r
/-- what the callee made of them -/
def backS (E : EB) : List RV → List Sl → EB
  | .pl (.sl i) :: r, s :: ss => match E[i]?.join with
    | some s0 => backS (E.set i (some ⟨s.m, s.v, s0.arg⟩)) r ss
    | none => backS E r ss
  | _ :: r, _ :: ss => backS E r ss
  | _, _ => E
def resR (s : Sl) : RV := match s.m with
  | .fz => .val s.v
  | _ => .tmp s.v
def FR.on (r : FR) (E : EB) (k : Nat) (rs : List RV) : B RV :=
  match r with
  | .bad => .bad
  | .ok r as H => .ok (resR r) (backS E rs (as.drop k)) H
  | .exc x as H => .exc x (backS E rs (as.drop k)) H
/-- a call: some values ahead, then arguments -/
def callB (X : BCx) (f : String) (pre : List V) (rs : List RV) (E : EB) (H : HB) : B RV :=
  thenB (slotsOf E rs) fun ss => guardB (okIdx E rs) ((X.call f (pre.map (fun v => ⟨.fz, v, false⟩) ++ ss) H).on E pre.length rs)
def bx (E : EB) (H : HB) (v : V) : B V := .ok (.ref H.length) E (H ++ [.con .own v])
@[simp] def isTmp : RV → Bool
  | .tmp _ => true
  | _ => false
def fldR (E : EB) (H : HB) (f : String) : V → Option RV
  | .ref b => (fdS f H[b]?).map fun s => match s.m with
    | .fz => .val s.v
    | _ => .pl (.fd b f)
  | _ => none
def two (E : EB) (H : HB) (r1 r2 : RV) (f : V → V → Option RV) : B RV := B.of ((cont E H r1).bind fun x => (cont E H r2).bind fun y => f x y) E H
def bcomp (f : V → EB → HB → B (Option V)) : List V → List V → EB → HB → B (List V)
  | [], acc, E, H => .ok acc E H
  | x :: r, acc, E, H => (f x E H).calm.bind fun o E H => guardB (decide (acc.length < LINE)) (bcomp f r (acc ++ o.toList) E H)
def bkeys (f : V → EB → HB → B V) : List V → EB → HB → B (List (V × V))
  | [], E, H => .ok [] E H
  | x :: r, E, H => (f x E H).calm.bind fun k E H => (bkeys f r E H).bind fun l E H => .ok ((k, x) :: l) E H
/-- with some places locked and some slots put aside -/
def locked {α : Type} (ps : List Pl) (own : List Nat) (E : EB) (H : HB) (f : EB → HB → B α) : B α :=
  guardB (asideOk E own) <| thenB (modes E H ps) fun ms => thenB (lockP E H ps) fun q => (f q.1 q.2).calm.bind fun a E' H' =>
    guardB (asideOk E' own) <| thenB (unlockP (restB E E' own) H' ps ms) fun q => .ok a q.1 q.2
@[simp] def eltB (elt : EB → HB → B V) (E : EB) (H : HB) : B (Option V) := (elt E H).bind fun y E H => .ok (some y) E H
@[simp] def condB (c : EB → HB → B V) (elt : EB → HB → B V) (E : EB) (H : HB) : B (Option V) :=
  (c E H).bind fun b E H => thenB (vbool b) fun b => if b then eltB elt E H else .ok none E H
@[simp] def turnCB (tg : Tg) (own : List Nat) (g : EB → HB → B (Option V)) (x : V) (E : EB) (H : HB) : B (Option V) := guardB (asideOk E own) <| thenB (bindB tg x (wipeB E own) H) fun E => g E H
@[simp] def keyB (i : Nat) (key : EB → HB → B V) (y : V) (E : EB) (H : HB) : B V := guardB (asideOk E [i]) <| thenB (setB (wipeB E [i]) i ⟨.fz, y, false⟩) fun E => key E H
@[simp] def sealB (r : B RV) : B V := r.bind fun r E H => sealR E H r
@[simp] def storeR (X : BCx) (k i : Nat) (r : RV) (E : EB) (H : HB) : B V :=
  if isTmp r && X.O.box X.fn k i then (sealR E H r).bind fun v E H => bx E H v else sealR E H r
@[simp] def storeB (X : BCx) (k i : Nat) (r : B RV) : B V := r.bind fun r E H => storeR X k i r E H
@[simp] def contB (r : B RV) : B V := r.bind fun r E H => B.of (cont E H r) E H
def doM (x : RV) (E : EB) (H : HB) : MR → B RV
  | .pure r => .ok r E H
  | .mut v r => thenB (mutR E H v x) fun q => .ok (.val r) q.1 q.2

mutual
@[simp] def bev (X : BCx) : Ex → EB → HB → B RV
  | .non, E, H => .ok (.val .non) E H
  | .bl b, E, H => .ok (.val (.bl b)) E H
  | .int i, E, H => .ok (.val (.int i)) E H
  | .str s, E, H => .ok (.val (.str s)) E H
  | .var i, E, H => B.of ((E[i]?.join).map fun _ => RV.pl (.sl i)) E H
  | .bin op a b, E, H => (bev X a E H).bind fun r1 E H => thenB (fixR (simple b) r1) fun r1 => (bev X b E H).bind fun r2 E H => two E H r1 r2 (vbin op)
  | .neg a, E, H => (bev X a E H).bind fun r E H => B.of (((cont E H r).bind vneg).map RV.val) E H
  | .cmp op a b, E, H => (bev X a E H).bind fun r1 E H => thenB (fixR (simple b) r1) fun r1 => (bev X b E H).bind fun r2 E H => two E H r1 r2 fun x y => (vcmp op x y).map fun b => .val (.bl b)
  | .chain op op' a b c, E, H => (bev X a E H).bind fun r1 E H => thenB (fixR (simple b) r1) fun r1 => (bev X b E H).bind fun r2 E H =>
      thenB (fixR (simple c) r2) fun r2 => thenB ((cont E H r1).bind fun x => (cont E H r2).bind fun y => vcmp op x y) fun k =>
      if k then (bev X c E H).bind fun r3 E H => two E H r2 r3 fun x y => (vcmp op' x y).map fun b => .val (.bl b) else .ok (.val (.bl false)) E H
  | .and a b, E, H => (bev X a E H).bind fun r E H => thenB ((cont E H r).bind vbool) fun k => if k then bev X b E H else .ok (.val (.bl false)) E H
  | .or a b, E, H => (bev X a E H).bind fun r E H => thenB ((cont E H r).bind vbool) fun k => if k then .ok (.val (.bl true)) E H else bev X b E H
  | .not a, E, H => (bev X a E H).bind fun r E H => B.of (((cont E H r).bind vbool).map fun b => .val (.bl (!b))) E H
  | .ife c a b, E, H => (bev X c E H).bind fun r E H => thenB ((cont E H r).bind vbool) fun k => if k then bev X a E H else bev X b E H
  | .fld o f, E, H => (bev X o E H).bind fun r E H => B.of ((cont E H r).bind (fldR E H f)) E H
  | .ix o i, E, H => (bev X o E H).bind fun r1 E H => thenB (fixR (simple i) r1) fun r1 => (bev X i E H).bind fun r2 E H => two E H r1 r2 fun x y => (vitem x y).map .val
  | .sl o lo hi, E, H => (bev X o E H).bind fun r E H => thenB (fixR (simpleO lo && simpleO hi) r) fun r => (bevO X lo E H).bind fun l E H => (bevO X hi E H).bind fun u E H =>
      B.of ((cont E H r).bind fun x => vslice x l u) E H
  | .tup es, E, H => (bevs X 5 0 es E H).bind fun xs E H => .ok (.val (.tup xs)) E H
  | .lst es, E, H => (bevs X 0 0 es E H).bind fun xs E H => .ok (.tmp (.lst xs)) E H
  | .dct kvs, E, H => (bevp X 0 kvs E H).bind fun ps E H => guardB (ps.all fun p => flatV p.1) (.ok (.tmp (.dct (dmergeV [] ps))) E H)
  | .call f es, E, H => (barg X es E H).bind fun rs E H => callB X f [] rs E H
  | .new c es, E, H => thenB (X.T.mt c "__init__") fun f => (barg X es E H).bind fun rs E H =>
      (callB X f [.ref H.length] rs E (H ++ [.ins c []])).bind fun _ E' H' => .ok (.val (.ref H.length)) E' H'
  | .meth o m es, E, H => (bev X o E H).bind fun r E H => thenB ((cont E H r).bind (mthB X.T m H)) fun t =>
      match t with
      | .own f b => (barg X es E H).bind fun rs E H => callB X f [.ref b] rs E H
      | .blt => thenB (fixT (simples es) r) fun r => if m ∈ readM
        then (bops X es E H).bind fun rs E H => thenB ((cont E H r).bind fun x => (rs.mapM (cont E H)).bind fun ys => vm x m ys) (doM r E H)
        else (bevs X 2 0 es E H).bind fun ys E H => thenB ((cont E H r).bind fun x => vm x m ys) (doM r E H)
  | .sup c m es, E, H => thenB (X.T.mt c m) fun f => (barg X es E H).bind fun rs E H => callB X f [] rs E H
  | .blt b es, E, H => (bops X es E H).bind fun rs E H => B.of ((rs.mapM (cont E H)).bind (vblt b)) E H
  | .isi e t, E, H => (bev X e E H).bind fun r E H => B.of (((cont E H r).bind fun x => visTy X.T H x t).map fun b => .val (.bl b)) E H
  | .comp own elt tg it none, E, H => (bwalk X it E H).bind fun p E H =>
      guardB (tgIn own tg) <| (locked p.2 own E H (bcomp (turnCB tg own (eltB fun E H => storeB X 4 0 (bev X elt E H))) p.1 [])).bind fun ys E H => .ok (.tmp (.lst ys)) E H
  | .comp own elt tg it (some c), E, H => (bwalk X it E H).bind fun p E H =>
      guardB (tgIn own tg) <| (locked p.2 own E H (bcomp (turnCB tg own (condB (fun E H => contB (bev X c E H)) fun E H => storeB X 4 0 (bev X elt E H))) p.1 [])).bind fun ys E H => .ok (.tmp (.lst ys)) E H
  | .listOf it, E, H => (bwalk X it E H).bind fun p E H => guardB (decide (p.1.length ≤ LINE)) (.ok (.tmp (.lst p.1)) E H)
  | .tupOf it, E, H => (bwalk X it E H).bind fun p E H => .ok (.val (.tup p.1)) E H
  | .sortK src i key, E, H => (bev X src E H).bind fun r E H => thenB ((cont E H r).bind vseq) fun xs =>
      (locked [] [i] E H (bkeys (keyB i fun E H => sealB (bev X key E H)) xs)).bind fun ps E H => B.of ((sortPV ps).map fun l => .tmp (.lst l)) E H
  | .minK src i key, E, H => (bev X src E H).bind fun r E H => thenB ((cont E H r).bind vlst) fun xs =>
      (locked (locks E H r) [i] E H (bkeys (keyB i fun E H => sealB (bev X key E H)) xs)).bind fun ps E H => B.of ((minPV ps).map fun p => .val p.2) E H
  | .fstr es, E, H => (bfm X es E H).bind fun ys E H => guardB (decide ((ys.map List.length).sum ≤ LINE)) (.ok (.val (.str ys.flatten)) E H)
  | .curFld f, E, H => .of (X.cur.bind fun x => (x.fs.lookup f).map .val) E H
  | .curIs c, E, H => .of (X.cur.map fun x => .val (.bl (X.T.sub x.c c))) E H
@[simp] def bevO (X : BCx) : Option Ex → EB → HB → B (Option Int)
  | none, E, H => .ok none E H
  | some e, E, H => (bev X e E H).bind fun r E H => B.of (((cont E H r).bind vpart).map some) E H
/-- values to be stored -/
@[simp] def bevs (X : BCx) (k : Nat) : Nat → List Ex → EB → HB → B (List V)
  | _, [], E, H => .ok [] E H
  | i, e :: es, E, H => (storeB X k i (bev X e E H)).bind fun x E H => (bevs X k (i + 1) es E H).bind fun xs E H => .ok (x :: xs) E H
/-- operands to be read -/
@[simp] def bops (X : BCx) : List Ex → EB → HB → B (List RV)
  | [], E, H => .ok [] E H
  | e :: es, E, H => (bev X e E H).bind fun r E H => thenB (fixR (simples es) r) fun r => (bops X es E H).bind fun rs E H => .ok (r :: rs) E H
/-- the parts of an f-string -/
@[simp] def bfm (X : BCx) : List Ex → EB → HB → B (List (List Nat))
  | [], E, H => .ok [] E H
  | e :: es, E, H => (bev X e E H).bind fun r E H => thenB ((cont E H r).bind fmtV) fun y => (bfm X es E H).bind fun ys E H => .ok (y :: ys) E H
/-- arguments -/
@[simp] def barg (X : BCx) : List Ex → EB → HB → B (List RV)
  | [], E, H => .ok [] E H
  | e :: es, E, H => (bev X e E H).bind fun r E H => thenB (fixR false r) fun r => (barg X es E H).bind fun rs E H => .ok (r :: rs) E H
@[simp] def bevp (X : BCx) : Nat → List (Ex × Ex) → EB → HB → B (List (V × V))
  | _, [], E, H => .ok [] E H
  | i, (a, b) :: r, E, H => (sealB (bev X a E H)).bind fun x E H => (storeB X 1 i (bev X b E H)).bind fun y E H =>
      (bevp X (i + 1) r E H).bind fun ps E H => .ok ((x, y) :: ps) E H
@[simp] def bwalk (X : BCx) : It → EB → HB → B (List V × List Pl)
  | .val e, E, H => (bev X e E H).bind fun r E H => B.of (((cont E H r).bind vwalk).map fun l => (l, locks E H r)) E H
  | .rng a, E, H => (bev X a E H).bind fun r E H => B.of (((cont E H r).bind vrng1).map fun l => (l, [])) E H
  | .rng2 a b, E, H => (bev X a E H).bind fun r1 E H => thenB (fixR (simple b) r1) fun r1 => (bev X b E H).bind fun r2 E H =>
      B.of (((cont E H r1).bind fun x => (cont E H r2).bind fun y => vrng2 x y).map fun l => (l, [])) E H
  | .rng3 a b c, E, H => (bev X a E H).bind fun r1 E H => thenB (fixR (simple b && simple c) r1) fun r1 => (bev X b E H).bind fun r2 E H => thenB (fixR (simple c) r2) fun r2 => (bev X c E H).bind fun r3 E H =>
      B.of (((cont E H r1).bind fun x => (cont E H r2).bind fun y => (cont E H r3).bind fun z => vrng3 x y z).map fun l => (l, [])) E H
  | .items e, E, H => (bev X e E H).bind fun r E H => B.of (((cont E H r).bind vitems).map fun l => (l, locks E H r)) E H
  | .vals e, E, H => (bev X e E H).bind fun r E H => B.of (((cont E H r).bind vvals).map fun l => (l, locks E H r)) E H
  | .keys e, E, H => (bev X e E H).bind fun r E H => B.of (((cont E H r).bind vkeys).map fun l => (l, locks E H r)) E H
  | .enum e, E, H => (bev X e E H).bind fun r E H => B.of (((cont E H r).bind vlst).map fun l => (enumV l, locks E H r)) E H
  | .zip a b, E, H => (bev X a E H).bind fun r1 E H => thenB (fixR (simple b) r1) fun r1 => (bev X b E H).bind fun r2 E H =>
      B.of (((cont E H r1).bind fun x => (cont E H r2).bind fun y => vwalk2 x y).map fun p => (zipV p.1 p.2, locks E H r1 ++ locks E H r2)) E H
  | .zip3 a b c, E, H => (bev X a E H).bind fun r1 E H => thenB (fixR (simple b && simple c) r1) fun r1 => (bev X b E H).bind fun r2 E H => thenB (fixR (simple c) r2) fun r2 => (bev X c E H).bind fun r3 E H =>
      B.of ((((cont E H r1).bind vwalk).bind fun x => ((cont E H r2).bind vwalk).bind fun y => ((cont E H r3).bind vwalk).map fun z => (zip3V x y z, locks E H r1 ++ locks E H r2 ++ locks E H r3))) E H
  | .rev e, E, H => (bev X e E H).bind fun r E H => B.of (((cont E H r).bind vlst).map fun l => (l.reverse, locks E H r)) E H
end

/-! ### statements -/
inductive FlB where
  | nx | bk | ct | rt (r : Sl)
  deriving Inhabited, Repr
inductive SB where
  | bad | ok (f : FlB) (E : EB) (H : HB) | exc (x : BX) (E : EB) (H : HB)
  deriving Inhabited, Repr
def B.on {α : Type} (r : B α) (f : α → EB → HB → SB) : SB :=
  match r with
  | .ok a E H => f a E H
  | .exc x E H => .exc x E H
  | .bad => .bad
def SB.then (r : SB) (f : EB → HB → SB) : SB :=
  match r with
  | .ok .nx E H => f E H
  | r => r
def SB.turn (r : SB) (f : EB → HB → SB) : SB :=
  match r with
  | .ok .nx E H => f E H
  | .ok .ct E H => f E H
  | .ok .bk E H => .ok .nx E H
  | r => r
def thenSB {α : Type} (o : Option α) (f : α → SB) : SB :=
  match o with
  | some a => f a
  | none => .bad
section
variable {α : Type} {a : α} {E : EB} {H : HB} {f : α → EB → HB → SB} {x : BX} {g : EB → HB → SB} {k : α → SB} {r : Sl}
@[simp] theorem B.on_ok : (B.ok a E H).on f = f a E H := rfl
@[simp] theorem B.on_exc : (B.exc x E H : B α).on f = .exc x E H := rfl
@[simp] theorem B.on_bad : (B.bad : B α).on f = .bad := rfl
@[simp] theorem SB.then_nx : (SB.ok .nx E H).then g = g E H := rfl
@[simp] theorem SB.then_rt : (SB.ok (.rt r) E H).then g = .ok (.rt r) E H := rfl
@[simp] theorem SB.then_bk : (SB.ok .bk E H).then g = .ok .bk E H := rfl
@[simp] theorem SB.then_ct : (SB.ok .ct E H).then g = .ok .ct E H := rfl
@[simp] theorem SB.then_exc : (SB.exc x E H).then g = .exc x E H := rfl
@[simp] theorem SB.then_bad : SB.bad.then g = .bad := rfl
@[simp] theorem SB.turn_nx : (SB.ok .nx E H).turn g = g E H := rfl
@[simp] theorem SB.turn_ct : (SB.ok .ct E H).turn g = g E H := rfl
@[simp] theorem SB.turn_bk : (SB.ok .bk E H).turn g = .ok .nx E H := rfl
@[simp] theorem SB.turn_rt : (SB.ok (.rt r) E H).turn g = .ok (.rt r) E H := rfl
@[simp] theorem SB.turn_exc : (SB.exc x E H).turn g = .exc x E H := rfl
@[simp] theorem SB.turn_bad : SB.bad.turn g = .bad := rfl
@[simp] theorem thenSB_some : thenSB (some a) k = k a := rfl
@[simp] theorem thenSB_none : thenSB (none : Option α) k = .bad := rfl
end
def forB (f : V → EB → HB → SB) : List V → EB → HB → SB
  | [], E, H => .ok .nx E H
  | x :: r, E, H => (f x E H).turn fun E H => forB f r E H
@[simp] def turnB (tg : Tg) (g : EB → HB → SB) (x : V) (E : EB) (H : HB) : SB := thenSB (bindB tg x E H) fun E => g E H
def whileB (c : EB → HB → B V) (f : EB → HB → SB) : Nat → EB → HB → SB
  | 0, _, _ => .bad
  | n + 1, E, H => (c E H).on fun x E H => thenSB (vbool x) fun b => if b then (f E H).turn fun E H => whileB c f n E H else .ok .nx E H
def SB.unl (r : SB) (ps : List Pl) (ms : List Md) : SB :=
  match r with
  | .ok f E H => thenSB (unlockP E H ps ms) fun q => .ok f q.1 q.2
  | .exc x E H => thenSB (unlockP E H ps ms) fun q => .exc x q.1 q.2
  | .bad => .bad
@[simp] theorem SB.unl_ok {f : FlB} {E : EB} {H : HB} {ps : List Pl} {ms : List Md} : (SB.ok f E H).unl ps ms = thenSB (unlockP E H ps ms) fun q => .ok f q.1 q.2 := rfl
@[simp] theorem SB.unl_exc {x : BX} {E : EB} {H : HB} {ps : List Pl} {ms : List Md} : (SB.exc x E H).unl ps ms = thenSB (unlockP E H ps ms) fun q => .exc x q.1 q.2 := rfl
@[simp] theorem SB.unl_bad {ps : List Pl} {ms : List Md} : SB.bad.unl ps ms = .bad := rfl
def lockedS (ps : List Pl) (E : EB) (H : HB) (f : EB → HB → SB) : SB :=
  thenSB (modes E H ps) fun ms => thenSB (lockP E H ps) fun q => (f q.1 q.2).unl ps ms
/-- what a return answers -/
@[simp] def retS (E : EB) (H : HB) (i : Nat) (s : Sl) : SB :=
  match s.m with
  | .fz => .ok (.rt ⟨.fz, s.v, false⟩) E H
  | .own => if s.arg then .ok (.rt ⟨.fz, s.v, false⟩) (E.set i (some ⟨.fz, s.v, true⟩)) H else .ok (.rt ⟨.own, s.v, false⟩) (E.set i none) H
  | .lkd => .bad
@[simp] def retR (E : EB) (H : HB) : RV → SB
  | .val v => .ok (.rt ⟨.fz, v, false⟩) E H
  | .tmp v => .ok (.rt ⟨.own, v, false⟩) E H
  | .pl (.sl i) => thenSB (E[i]?.join) (retS E H i)
  | .pl _ => .bad
/-- a name is set -/
@[simp] def setR (box : Bool) (E : EB) (H : HB) (i : Nat) : RV → SB
  | .val v => thenSB (setB E i ⟨.fz, v, false⟩) fun E => .ok .nx E H
  | .tmp v => if box then (bx E H v).on fun v E H => thenSB (setB E i ⟨.fz, v, false⟩) fun E => .ok .nx E H else thenSB (setB E i ⟨.own, v, false⟩) fun E => .ok .nx E H
  | .pl p => (sealR E H (.pl p)).on fun v E H => thenSB (setB E i ⟨.fz, v, false⟩) fun E => .ok .nx E H
@[simp] def freeF (f : String) (b : Nat) (H : HB) : Bool := match fdS f H[b]? with
  | some s => decide (s.m ≠ .lkd)
  | none => true
@[simp] def setFB (f : String) (s : Sl) (E : EB) (H : HB) : V → SB
  | .ref b => thenSB (guardO (freeF f b H) (setFd f s b H H[b]?)) fun H => .ok .nx E H
  | _ => .bad
/-- a field is set -/
@[simp] def setFR (mode : Nat) (f : String) (o : V) (E : EB) (H : HB) : RV → SB
  | .val v => setFB f ⟨.fz, v, false⟩ E H o
  | .tmp v => if mode = 0 then setFB f ⟨.own, v, false⟩ E H o else if mode = 1 then (bx E H v).on fun v E H => setFB f ⟨.fz, v, false⟩ E H o else setFB f ⟨.fz, v, false⟩ E H o
  | .pl p => (sealR E H (.pl p)).on fun v E H => setFB f ⟨.fz, v, false⟩ E H o
def bfst : Option BX → Option BX := id

mutual
@[simp] def bex (X : BCx) : St → EB → HB → SB
  | .expr e, E, H => (bev X e E H).on fun _ E H => .ok .nx E H
  | .set (.tg (.name i)) e, E, H => (bev X e E H).on fun r E H => setR (X.O.var X.fn i) E H i r
  | .set (.tg (.tup is)) e, E, H => (bev X e E H).on fun r E H => thenSB ((cont E H r).bind vunpack) fun vs => thenSB (setAllB E is vs) fun E => .ok .nx E H
  | .set (.fld o f) e, E, H => (bev X e E H).on fun r E H => thenSB (fixT false r) fun r => (bev X o E H).on fun q E H => thenSB (cont E H q) fun o => setFR (X.O.fld f) f o E H r
  | .set (.ix o i) e, E, H => (storeB X 3 0 (bev X e E H)).on fun v E H => (bev X o E H).on fun r E H => thenSB (fixR (simple i) r) fun r => (sealB (bev X i E H)).on fun y E H =>
      thenSB ((cont E H r).bind fun x => vsetIx x y v) fun x => thenSB (mutR E H x r) fun q => .ok .nx q.1 q.2
  | .aug i op e, E, H => (B.of ((E[i]?.join).map Sl.v) E H).on fun x E H => (contB (bev X e E H)).on fun y E H => thenSB (vibin op x y) fun v => thenSB (setB E i ⟨.fz, v, false⟩) fun E => .ok .nx E H
  | .augF o f op e, E, H => (contB (bev X o E H)).on fun q E H => thenSB ((fldR E H f q).bind fun r => match r with | .val v => some v | _ => none) fun x => (contB (bev X e E H)).on fun y E H => thenSB (vibin op x y) fun v => setFB f ⟨.fz, v, false⟩ E H q
  | .ite c a b, E, H => (contB (bev X c E H)).on fun x E H => thenSB (vbool x) fun k => if k then bexs X a E H else bexs X b E H
  | .while c b, E, H => whileB (fun E H => contB (bev X c E H)) (fun E H => bexs X b E H) TURNS E H
  | .for tg it b, E, H => (bwalk X it E H).on fun p E H => lockedS p.2 E H (forB (turnB tg fun E H => bexs X b E H) p.1)
  | .ret e, E, H => (bev X e E H).on fun r E H => retR E H r
  | .brk, E, H => .ok .bk E H
  | .cont, E, H => .ok .ct E H
  | .pass, E, H => .ok .nx E H
  | .raise c es, E, H => (bevs X 6 0 es E H).on fun xs E H => thenSB (X.T.exc c) fun fs => .exc ⟨c, fs.zip xs⟩ E H
  | .try b hs, E, H => match bexs X b E H with
    | .exc x E H => bhnd X x hs E H
    | r => r
@[simp] def bexs (X : BCx) : List St → EB → HB → SB
  | [], E, H => .ok .nx E H
  | s :: r, E, H => (bex X s E H).then fun E H => bexs X r E H
def bhnd (X : BCx) (x : BX) : List (String × List St) → EB → HB → SB
  | [], E, H => .exc x E H
  | (c, b) :: r, E, H => if X.T.sub x.c c then bexs { X with cur := some x } b E H else bhnd X x r E H
end

/-! ### what is left behind a call -/
mutual
@[simp] def beqV : V → V → Bool
  | .non, .non => true
  | .bl a, .bl b => a == b
  | .int a, .int b => a == b
  | .str a, .str b => a == b
  | .tup xs, .tup ys => beqVs xs ys
  | .lst xs, .lst ys => beqVs xs ys
  | .dct xs, .dct ys => beqVp xs ys
  | .ref a, .ref b => a == b
  | _, _ => false
@[simp] def beqVs : List V → List V → Bool
  | [], [] => true
  | x :: xs, y :: ys => beqV x y && beqVs xs ys
  | _, _ => false
@[simp] def beqVp : List (V × V) → List (V × V) → Bool
  | [], [] => true
  | (a, b) :: xs, (c, d) :: ys => beqV a c && beqV b d && beqVp xs ys
  | _, _ => false
end
mutual
/-- only boxes below n -/
@[simp] def below (n : Nat) : V → Bool
  | .non => true | .bl _ => true | .int _ => true | .str _ => true
  | .tup xs => belows n xs
  | .lst xs => belows n xs
  | .dct xs => belowp n xs
  | .ref b => decide (b < n)
@[simp] def belows (n : Nat) : List V → Bool
  | [] => true
  | x :: xs => below n x && belows n xs
@[simp] def belowp (n : Nat) : List (V × V) → Bool
  | [] => true
  | (a, b) :: xs => below n a && below n b && belowp n xs
end
@[simp] def beqSl (s u : Sl) : Bool := decide (s.m = u.m) && beqV s.v u.v && (s.arg == u.arg)
@[simp] def beqF : List (String × Sl) → List (String × Sl) → Bool
  | [], [] => true
  | (f, s) :: r, (g, u) :: q => decide (f = g) && beqSl s u && beqF r q
  | _, _ => false
@[simp] def beqBx : Bx → Bx → Bool
  | .ins c fs, .ins d gs => decide (c = d) && beqF fs gs
  | .con m v, .con k u => decide (m = k) && beqV v u
  | _, _ => false
@[simp] def belowBx (n : Nat) : Bx → Bool
  | .ins _ fs => fs.all fun p => below n p.2.v
  | .con _ v => below n v
/-- of the boxes that were there: each as it was, or with no new ones in it -/
@[simp] def oldOk (n : Nat) : HB → HB → Bool
  | [], _ => true
  | x :: H, y :: H' => (beqBx x y || belowBx n y) && oldOk n H H'
  | _, _ => false
/-- new boxes that nobody can name are left out -/
def leave (H H' : HB) (ok : Bool) : HB := if ok && oldOk H.length H H' then H'.take H.length else H'
/-- the arguments behind the call -/
def finS (E : EB) : Nat → List Sl → Option (List Sl)
  | _, [] => some []
  | k, s :: ss => (match s.m with
    | .fz => some s
    | _ => (E[k]?.join).bind fun (u : Sl) => guardO u.arg (some ⟨u.m, u.v, false⟩)).bind fun u => (finS E (k + 1) ss).map fun l => u :: l
def belowS (n : Nat) (l : List Sl) : Bool := l.all fun s => below n s.v
def outB (as : List Sl) (H0 : HB) : SB → FR
  | .ok .nx E H => match finS E 0 as with
    | some l => .ok ⟨.fz, .non, false⟩ l (leave H0 H (belowS H0.length l))
    | none => .bad
  | .ok (.rt r) E H => match finS E 0 as with
    | some l => .ok r l (leave H0 H (below H0.length r.v && belowS H0.length l))
    | none => .bad
  | .exc x E H => match finS E 0 as with
    | some l => .exc x l (leave H0 H (x.fs.all (fun p => below H0.length p.2) && belowS H0.length l))
    | none => .bad
  | _ => .bad
def inS (s : Sl) : Sl := ⟨s.m, s.v, decide (s.m ≠ .fz)⟩
def brun (T : Prog) (O : Orc) : Nat → String → List Sl → HB → FR
  | 0, _, _, _ => .bad
  | n + 1, f, as, H => match T.fd f with
    | none => .bad
    | some fd => if as.length = fd.np then outB as H (bexs ⟨T, brun T O n, O, f, none⟩ fd.body (as.map (fun s => some (inS s)) ++ List.replicate (fd.ns - fd.np) none) H) else .bad
end BP

/-! What the second reading says of the first: relations. -/
namespace BP
open MP (W O Hp Env Exn R rd)

/-- whose a cell is -/
inductive Own where
  | frz | box (b : Nat) | slot (d i : Nat) | fld (b : Nat) (f : String) | tmp | gar | lck (l : Own)
  deriving DecidableEq
abbrev K := Nat → Own
def upd (κ : K) (a : Nat) (o : Own) : K := fun x => if x = a then o else κ x
@[simp] theorem upd_same {κ : K} {a : Nat} {o : Own} : upd κ a o a = o := by simp [upd]
theorem upd_ne {κ : K} {a x : Nat} {o : Own} (h : x ≠ a) : upd κ a o x = κ x := by simp [upd, h]

/-- each key once -/
def nodupK : List (V × V) → Bool
  | [] => true
  | (k, _) :: r => r.all (fun p => !keqV k p.1) && nodupK r
mutual
def DV (κ : K) (h : Hp) : V → W → Prop
  | .non, w => w = .non
  | .bl b, w => w = .bl b
  | .int i, w => w = .int i
  | .str s, w => w = .str s
  | .tup xs, w => ∃ ws, w = .tup ws ∧ DVs κ h xs ws
  | .lst xs, w => ∃ a ws, w = .ref a ∧ κ a = .frz ∧ rd h a = some (.lst ws) ∧ DVs κ h xs ws
  | .dct xs, w => ∃ a ws, w = .ref a ∧ κ a = .frz ∧ rd h a = some (.dct ws) ∧ nodupK xs = true ∧ DVp κ h xs ws
  | .ref b, w => ∃ a, w = .ref a ∧ κ a = .box b ∧ a < h.length
def DVs (κ : K) (h : Hp) : List V → List W → Prop
  | [], ws => ws = []
  | x :: xs, ws => ∃ w r, ws = w :: r ∧ DV κ h x w ∧ DVs κ h xs r
def DVp (κ : K) (h : Hp) : List (V × V) → List (W × W) → Prop
  | [], ws => ws = []
  | (a, b) :: xs, ws => ∃ u v r, ws = (u, v) :: r ∧ DV κ h a u ∧ DV κ h b v ∧ DVp κ h xs r
end
/-- what a cell holds -/
def CR (κ : K) (h : Hp) (v : V) (o : O) : Prop := match v with
  | .lst xs => ∃ ws, o = .lst ws ∧ DVs κ h xs ws
  | .dct xs => ∃ ws, o = .dct ws ∧ nodupK xs = true ∧ DVp κ h xs ws
  | _ => False
def OwnC (κ : K) (h : Hp) (v : V) (a : Nat) : Prop := ∃ o, rd h a = some o ∧ CR κ h v o
/-- what can be read now -/
def Cn (κ : K) (h : Hp) (v : V) (w : W) : Prop := match v with
  | .lst xs => ∃ a ws, w = .ref a ∧ rd h a = some (.lst ws) ∧ DVs κ h xs ws
  | .dct xs => ∃ a ws, w = .ref a ∧ rd h a = some (.dct ws) ∧ nodupK xs = true ∧ DVp κ h xs ws
  | v => DV κ h v w
theorem rd_lt {h : Hp} {a : Nat} {o : O} (e : rd h a = some o) : a < h.length := (List.getElem?_eq_some_iff.mp e).1
theorem DV.cn {κ : K} {h : Hp} {v : V} {w : W} (e : DV κ h v w) : Cn κ h v w := by
  cases v <;> first | exact e | skip
  · obtain ⟨a, ws, e1, _, e2, e3⟩ := e; exact ⟨a, ws, e1, e2, e3⟩
  · obtain ⟨a, ws, e1, _, e2, e3⟩ := e; exact ⟨a, ws, e1, e2, e3⟩
theorem OwnC.cn {κ : K} {h : Hp} {v : V} {a : Nat} (e : OwnC κ h v a) : Cn κ h v (.ref a) := by
  obtain ⟨o, e1, e2⟩ := e
  cases v <;> first | exact e2.elim | skip
  · obtain ⟨ws, rfl, e3⟩ := e2; exact ⟨a, ws, rfl, e1, e3⟩
  · obtain ⟨ws, rfl, e3⟩ := e2; exact ⟨a, ws, rfl, e1, e3⟩
theorem OwnC.dv {κ : K} {h : Hp} {v : V} {a : Nat} (e : OwnC κ h v a) (k : κ a = .frz) : DV κ h v (.ref a) := by
  obtain ⟨o, e1, e2⟩ := e
  cases v <;> first | exact e2.elim | skip
  · obtain ⟨ws, rfl, e3⟩ := e2; exact ⟨a, ws, rfl, k, e1, e3⟩
  · obtain ⟨ws, rfl, e3⟩ := e2; exact ⟨a, ws, rfl, k, e1, e3⟩
theorem OwnC.lt {κ : K} {h : Hp} {v : V} {a : Nat} (e : OwnC κ h v a) : a < h.length := rd_lt e.choose_spec.1
def SlR (κ : K) (lk : List Nat) (h : Hp) (l : Own) (s : Sl) (w : W) : Prop := match s.m with
  | .fz => DV κ h s.v w
  | .own => ∃ a, w = .ref a ∧ κ a = l ∧ a ∉ lk ∧ OwnC κ h s.v a
  | .lkd => ∃ a, w = .ref a ∧ κ a = .lck l ∧ OwnC κ h s.v a
def FsR (κ : K) (lk : List Nat) (h : Hp) (b : Nat) (fs : List (String × Sl)) (gs : List (String × W)) : Prop :=
  ∀ f, match fs.lookup f with
    | some s => ∃ w, gs.lookup f = some w ∧ SlR κ lk h (.fld b f) s w
    | none => gs.lookup f = none
def BxR (κ : K) (lk : List Nat) (h : Hp) (b a : Nat) (x : Bx) (o : O) : Prop := match x with
  | .ins c fs => a ∉ lk ∧ ∃ gs, o = .ins c gs ∧ FsR κ lk h b fs gs
  | .con m v => (m = .own → a ∉ lk) ∧ OwnC κ h v a
structure HInv (lk : List Nat) (κ : K) (h : Hp) (H : HB) : Prop where
  box : ∀ a b, κ a = .box b → ∃ x o, H[b]? = some x ∧ rd h a = some o ∧ BxR κ lk h b a x o
  inj : ∀ a a' b, κ a = .box b → κ a' = .box b → a = a'
  ex : ∀ b, b < H.length → ∃ a, κ a = .box b
  lkb : ∀ a ∈ lk, a < h.length
  lc : ∀ a b f, κ a = .lck (.fld b f) → ∃ c fs s a' gs, H[b]? = some (.ins c fs) ∧ fs.lookup f = some s ∧ s.m = .lkd ∧ κ a' = .box b ∧ rd h a' = some (.ins c gs) ∧ gs.lookup f = some (.ref a)
structure EInv (d : Nat) (lk : List Nat) (as : List W) (κ : K) (env : Env) (E : EB) (h : Hp) : Prop where
  sl : ∀ i s, E[i]?.join = some s → ∃ w, env[i]? = some (some w) ∧ SlR κ lk h (.slot d i) s w ∧ (s.arg = true → as[i]? = some w)
  len : E.length = env.length
  lc : ∀ a i, κ a = .lck (.slot d i) → ∃ s, E[i]?.join = some s ∧ s.m = .lkd ∧ env[i]? = some (some (.ref a))
/-- values live on -/
structure M (κ κ' : K) (h h' : Hp) : Prop where
  len : h.length ≤ h'.length
  frz : ∀ a, a < h.length → κ a = .frz → κ' a = .frz ∧ rd h' a = rd h a
  box : ∀ a b, a < h.length → κ a = .box b → κ' a = .box b
/-- the cells of one place stay -/
def Keep (κ κ' : K) (h h' : Hp) (l : Own) : Prop := ∀ a, a < h.length → κ a = l → κ' a = l ∧ rd h' a = rd h a
def okL (d : Nat) : Own → Prop
  | .slot d' _ => d' ≤ d
  | _ => True
/-- no temporary cell of before -/
def Bs (κ0 : K) (h0 : Hp) (a : Nat) : Prop := a < h0.length → κ0 a ≠ .tmp
structure Ev (d : Nat) (κ κ' : K) (h h' : Hp) : Prop extends M κ κ' h h' where
  slot : ∀ d' i, d' < d → Keep κ κ' h h' (.slot d' i)
  tmp : Keep κ κ' h h' .tmp
  lck : ∀ l, okL d l → Keep κ κ' h h' (.lck l)
  lckr : ∀ a d' i, d' < d → κ' a = .lck (.slot d' i) → κ a = .lck (.slot d' i)
theorem M.refl {κ : K} {h : Hp} : M κ κ h h := ⟨Nat.le_refl _, fun _ _ e => ⟨e, rfl⟩, fun _ _ _ e => e⟩
theorem M.trans {κ κ1 κ2 : K} {h h1 h2 : Hp} (a : M κ κ1 h h1) (b : M κ1 κ2 h1 h2) : M κ κ2 h h2 :=
  ⟨Nat.le_trans a.len b.len, fun x hx e => by
    obtain ⟨e1, e2⟩ := a.frz x hx e
    obtain ⟨e3, e4⟩ := b.frz x (Nat.lt_of_lt_of_le hx a.len) e1
    exact ⟨e3, e4.trans e2⟩, fun x y hx e => b.box x y (Nat.lt_of_lt_of_le hx a.len) (a.box x y hx e)⟩
theorem Keep.trans {κ κ1 κ2 : K} {h h1 h2 : Hp} {l : Own} (hl : h.length ≤ h1.length) (a : Keep κ κ1 h h1 l) (b : Keep κ1 κ2 h1 h2 l) : Keep κ κ2 h h2 l := fun x hx e => by
  obtain ⟨e1, e2⟩ := a x hx e
  obtain ⟨e3, e4⟩ := b x (Nat.lt_of_lt_of_le hx hl) e1
  exact ⟨e3, e4.trans e2⟩
theorem Keep.refl {κ : K} {h : Hp} {l : Own} : Keep κ κ h h l := fun _ _ e => ⟨e, rfl⟩
theorem Ev.refl {d : Nat} {κ : K} {h : Hp} : Ev d κ κ h h := ⟨M.refl, fun _ _ _ => Keep.refl, Keep.refl, fun _ _ => Keep.refl, fun _ _ _ _ q => q⟩
theorem Ev.trans {d : Nat} {κ κ1 κ2 : K} {h h1 h2 : Hp} (a : Ev d κ κ1 h h1) (b : Ev d κ1 κ2 h1 h2) : Ev d κ κ2 h h2 :=
  ⟨a.toM.trans b.toM, fun d' i hd => (a.slot d' i hd).trans a.len (b.slot d' i hd), a.tmp.trans a.len b.tmp, fun l hl => (a.lck l hl).trans a.len (b.lck l hl), fun x d' i hd q => a.lckr x d' i hd (b.lckr x d' i hd q)⟩
theorem Ev.bs {d : Nat} {κ0 κ : K} {h0 h : Hp} (ev : Ev d κ0 κ h0 h) {a : Nat} (b : Bs κ h a) : Bs κ0 h0 a := fun hl q => b (Nat.lt_of_lt_of_le hl ev.len) (ev.tmp a hl q).1
theorem Ev.weak {d d' : Nat} {κ κ' : K} {h h' : Hp} (a : Ev d κ κ' h h') (l : d' ≤ d) : Ev d' κ κ' h h' := ⟨a.toM, fun x i hx => a.slot x i (Nat.lt_of_lt_of_le hx l), a.tmp, fun x hx => a.lck x (by cases x <;> simp_all [okL]; omega), fun x d' i hd => a.lckr x d' i (Nat.lt_of_lt_of_le hd l)⟩
section
variable {κ κ' : K} {h h' : Hp}
mutual
theorem DV.mono (m : M κ κ' h h') : ∀ {v : V} {w : W}, DV κ h v w → DV κ' h' v w
  | .non, w, e => e
  | .bl _, w, e => e
  | .int _, w, e => e
  | .str _, w, e => e
  | .tup xs, w, e => by
    unfold DV at e ⊢
    obtain ⟨ws, e1, e2⟩ := e
    exact ⟨ws, e1, DVs.mono m e2⟩
  | .lst xs, w, e => by
    unfold DV at e ⊢
    obtain ⟨a, ws, e1, e2, e3, e4⟩ := e
    obtain ⟨k1, k2⟩ := m.frz a (rd_lt e3) e2
    exact ⟨a, ws, e1, k1, k2.trans e3, DVs.mono m e4⟩
  | .dct xs, w, e => by
    unfold DV at e ⊢
    obtain ⟨a, ws, e1, e2, e3, e4, e5⟩ := e
    obtain ⟨k1, k2⟩ := m.frz a (rd_lt e3) e2
    exact ⟨a, ws, e1, k1, k2.trans e3, e4, DVp.mono m e5⟩
  | .ref b, w, e => by
    unfold DV at e ⊢
    obtain ⟨a, e1, e2, e3⟩ := e
    exact ⟨a, e1, m.box a b e3 e2, Nat.lt_of_lt_of_le e3 m.len⟩
theorem DVs.mono (m : M κ κ' h h') : ∀ {v : List V} {w : List W}, DVs κ h v w → DVs κ' h' v w
  | [], w, e => by unfold DVs at e ⊢; exact e
  | x :: xs, w, e => by
    unfold DVs at e ⊢
    obtain ⟨u, r, e1, e2, e3⟩ := e
    exact ⟨u, r, e1, DV.mono m e2, DVs.mono m e3⟩
theorem DVp.mono (m : M κ κ' h h') : ∀ {v : List (V × V)} {w : List (W × W)}, DVp κ h v w → DVp κ' h' v w
  | [], w, e => by unfold DVp at e ⊢; exact e
  | (x, y) :: xs, w, e => by
    unfold DVp at e ⊢
    obtain ⟨u, v, r, e1, e2, e3, e4⟩ := e
    exact ⟨u, v, r, e1, DV.mono m e2, DV.mono m e3, DVp.mono m e4⟩
end
theorem CR.mono (m : M κ κ' h h') {v : V} {o : O} (e : CR κ h v o) : CR κ' h' v o := by
  cases v <;> first | exact e.elim | skip
  · obtain ⟨ws, e1, e2⟩ := e; exact ⟨ws, e1, e2.mono m⟩
  · obtain ⟨ws, e1, e2, e3⟩ := e; exact ⟨ws, e1, e2, e3.mono m⟩
theorem OwnC.mono (m : M κ κ' h h') {v : V} {a : Nat} (k : rd h' a = rd h a) (e : OwnC κ h v a) : OwnC κ' h' v a := by
  obtain ⟨o, e1, e2⟩ := e; exact ⟨o, k.trans e1, e2.mono m⟩
theorem SlR.mono (m : M κ κ' h h') {lk : List Nat} {l : Own} {s : Sl} {w : W} (k : Keep κ κ' h h' l) (kl : Keep κ κ' h h' (.lck l)) (e : SlR κ lk h l s w) : SlR κ' lk h' l s w := by
  unfold SlR at e ⊢
  split at e
  · exact e.mono m
  · obtain ⟨a, e1, e2, e3, e4⟩ := e
    obtain ⟨k1, k2⟩ := k a e4.lt e2
    exact ⟨a, e1, k1, e3, e4.mono m k2⟩
  · obtain ⟨a, e1, e2, e4⟩ := e
    obtain ⟨k1, k2⟩ := kl a e4.lt e2
    exact ⟨a, e1, k1, e4.mono m k2⟩
theorem FsR.mono (m : M κ κ' h h') {lk : List Nat} {b : Nat} {fs : List (String × Sl)} {gs : List (String × W)} (k : ∀ f, Keep κ κ' h h' (.fld b f)) (kl : ∀ f, Keep κ κ' h h' (.lck (.fld b f))) (e : FsR κ lk h b fs gs) : FsR κ' lk h' b fs gs := fun f => by
  have := e f
  split at this
  · obtain ⟨w, e1, e2⟩ := this; exact ⟨w, e1, e2.mono m (k f) (kl f)⟩
  · exact this
theorem BxR.mono (m : M κ κ' h h') {lk : List Nat} {b a : Nat} {x : Bx} {o : O} (k : ∀ f, Keep κ κ' h h' (.fld b f)) (kl : ∀ f, Keep κ κ' h h' (.lck (.fld b f))) (r : rd h' a = rd h a) (e : BxR κ lk h b a x o) : BxR κ' lk h' b a x o := by
  cases x with
  | ins c fs => obtain ⟨nl, gs, e1, e2⟩ := e; exact ⟨nl, gs, e1, e2.mono m k kl⟩
  | con md v => exact ⟨e.1, e.2.mono m r⟩
theorem HInv.mono (m : M κ κ' h h') {lk : List Nat} {H : HB} (kf : ∀ b f, Keep κ κ' h h' (.fld b f)) (kl : ∀ b f, Keep κ κ' h h' (.lck (.fld b f))) (kb : ∀ b, Keep κ κ' h h' (.box b)) (nb : ∀ a b, κ' a = .box b → κ a = .box b) (nl : ∀ a b f, κ' a = .lck (.fld b f) → κ a = .lck (.fld b f)) (i : HInv lk κ h H) : HInv lk κ' h' H :=
  ⟨fun a b e => by
    obtain ⟨x, o, e1, e2, e3⟩ := i.box a b (nb a b e)
    obtain ⟨k1, k2⟩ := kb b a (rd_lt e2) (nb a b e)
    exact ⟨x, o, e1, k2.trans e2, e3.mono m (kf b) (kl b) k2⟩,
   fun a a' b e e' => i.inj a a' b (nb a b e) (nb a' b e'), fun b hb => by
    obtain ⟨a, e⟩ := i.ex b hb
    obtain ⟨x, o, _, e2, _⟩ := i.box a b e
    exact ⟨a, m.box a b (rd_lt e2) e⟩, fun a ha => Nat.lt_of_lt_of_le (i.lkb a ha) m.len, fun a b f e => by
    obtain ⟨c, fs, s, a', gs, e1, e2, e3, e4, e5, e6⟩ := i.lc a b f (nl a b f e)
    obtain ⟨k1, k2⟩ := kb b a' (rd_lt e5) e4
    exact ⟨c, fs, s, a', gs, e1, e2, e3, k1, k2.trans e5, e6⟩⟩
theorem EInv.mono (m : M κ κ' h h') {d : Nat} {lk : List Nat} {as : List W} {env : Env} {E : EB} (k : ∀ i, Keep κ κ' h h' (.slot d i)) (kl : ∀ i, Keep κ κ' h h' (.lck (.slot d i))) (nl : ∀ a i, κ' a = .lck (.slot d i) → κ a = .lck (.slot d i)) (e : EInv d lk as κ env E h) : EInv d lk as κ' env E h' :=
  ⟨fun i s hs => by
    obtain ⟨w, e1, e2, e3⟩ := e.sl i s hs
    exact ⟨w, e1, e2.mono m (k i) (kl i), e3⟩, e.len, fun a i h => e.lc a i (nl a i h)⟩
end
/-- all that was there stays as it was -/
structure Same (κ κ' : K) (h h' : Hp) : Prop where
  len : h.length ≤ h'.length
  at_ : ∀ a, a < h.length → κ' a = κ a ∧ rd h' a = rd h a
  nb : ∀ a b, κ' a = .box b → κ a = .box b
  nl : ∀ a l, κ' a = .lck l → κ a = .lck l
section
variable {κ κ' : K} {h h' : Hp}
theorem Same.keep (s : Same κ κ' h h') (l : Own) : Keep κ κ' h h' l := fun a ha e => ⟨(s.at_ a ha).1.trans e, (s.at_ a ha).2⟩
theorem Same.m (s : Same κ κ' h h') : M κ κ' h h' := ⟨s.len, fun a ha e => s.keep .frz a ha e, fun a b ha e => (s.keep (.box b) a ha e).1⟩
theorem Same.ev (s : Same κ κ' h h') {d : Nat} : Ev d κ κ' h h' := ⟨s.m, fun d' i _ => s.keep _, s.keep _, fun _ _ => s.keep _, fun a d' i _ => s.nl a _⟩
theorem Same.hinv (s : Same κ κ' h h') {lk : List Nat} {H : HB} (i : HInv lk κ h H) : HInv lk κ' h' H := i.mono s.m (fun _ _ => s.keep _) (fun _ _ => s.keep _) (fun _ => s.keep _) s.nb fun a b f => s.nl a _
theorem Same.einv (s : Same κ κ' h h') {d : Nat} {lk : List Nat} {as : List W} {env : Env} {E : EB} (i : EInv d lk as κ env E h) : EInv d lk as κ' env E h' := i.mono s.m (fun _ => s.keep _) (fun _ => s.keep _) fun a i => s.nl a _
theorem Same.refl : Same κ κ h h := ⟨Nat.le_refl _, fun _ _ => ⟨rfl, rfl⟩, fun _ _ e => e, fun _ _ e => e⟩
/-- a new cell -/
theorem Same.new {o : O} {l : Own} (hl : ∀ b, l ≠ .box b) (hl' : ∀ b, l ≠ .lck b) : Same κ (upd κ h.length l) h (h ++ [o]) :=
  ⟨by simp, fun a ha => ⟨upd_ne (by omega), List.getElem?_append_left ha⟩, fun a b e => by
    unfold upd at e
    split at e
    · exact absurd e (hl b)
    · exact e, fun a b e => by
    unfold upd at e
    split at e
    · exact absurd e (hl' b)
    · exact e⟩
theorem Same.app (l : Hp) : Same κ κ h (h ++ l) := ⟨by simp, fun a ha => ⟨rfl, List.getElem?_append_left ha⟩, fun _ _ e => e, fun _ _ e => e⟩
end
/-- one cell that is nobody's any more, or is given away -/
theorem M.relab {κ : K} {h : Hp} {a : Nat} {l : Own} (h1 : κ a ≠ .frz) (h2 : ∀ b, κ a ≠ .box b) : M κ (upd κ a l) h h :=
  ⟨Nat.le_refl _, fun x _ e => ⟨by rw [upd_ne (fun q => h1 (by rw [← q]; exact e))]; exact e, rfl⟩, fun x b _ e => by rw [upd_ne (fun q => h2 b (by rw [← q]; exact e))]; exact e⟩
theorem Keep.relab {κ : K} {h : Hp} {a : Nat} {l l' : Own} (h1 : κ a ≠ l') : Keep κ (upd κ a l) h h l' := fun x _ e => ⟨by rw [upd_ne (fun q => h1 (by rw [← q]; exact e))]; exact e, rfl⟩
end BP

namespace BP
open MP (W O Hp Env Exn R rd BinOp CmpOp)
variable {κ : K} {h : Hp}
/-! ### values without cells -/
mutual
theorem DV.tw : ∀ {v : V} {w : W}, DV κ h v w → cf v = true → w = tw v
  | .non, w, e, _ => e
  | .bl _, w, e, _ => e
  | .int _, w, e, _ => e
  | .str _, w, e, _ => e
  | .tup xs, w, e, c => by
    unfold DV at e
    obtain ⟨ws, e1, e2⟩ := e
    rw [e1, DVs.tw e2 c]
    simp
  | .lst xs, w, e, c => by cases c
  | .dct xs, w, e, c => by cases c
  | .ref b, w, e, c => by cases c
theorem DVs.tw : ∀ {v : List V} {w : List W}, DVs κ h v w → cfs v = true → w = tws v
  | [], w, e, _ => e
  | x :: xs, w, e, c => by
    unfold DVs at e
    obtain ⟨u, r, e1, e2, e3⟩ := e
    simp only [cfs, Bool.and_eq_true] at c
    rw [e1, DV.tw e2 c.1, DVs.tw e3 c.2]
    simp
end
theorem Cn.tw {v : V} {w : W} (e : Cn κ h v w) (c : cf v = true) : w = tw v := by
  cases v <;> first | exact DV.tw (κ := κ) (h := h) e c | cases c
mutual
theorem tw_dv : ∀ {v : V}, cf v = true → DV κ h v (BP.tw v)
  | .non, _ => by simp [DV]
  | .bl _, _ => by simp [DV]
  | .int _, _ => by simp [DV]
  | .str _, _ => by simp [DV]
  | .tup xs, c => by
    unfold DV
    exact ⟨tws xs, by simp, tws_dv c⟩
  | .lst xs, c => by cases c
  | .dct xs, c => by cases c
  | .ref b, c => by cases c
theorem tws_dv : ∀ {v : List V}, cfs v = true → DVs κ h v (tws v)
  | [], _ => by simp [DVs]
  | x :: xs, c => by
    simp only [cfs, Bool.and_eq_true] at c
    unfold DVs
    exact ⟨_, _, by simp only [tws], tw_dv c.1, tws_dv c.2⟩
end
/-! one cell, one value -/
theorem DV.non_inv {v : V} (e : DV κ h v .non) : v = .non := by cases v <;> simp_all [DV]
theorem DV.bl_inv {v : V} {b : Bool} (e : DV κ h v (.bl b)) : v = .bl b := by cases v <;> simp_all [DV]
theorem DV.int_inv {v : V} {b : Int} (e : DV κ h v (.int b)) : v = .int b := by cases v <;> simp_all [DV]
theorem DV.str_inv {v : V} {b : List Nat} (e : DV κ h v (.str b)) : v = .str b := by cases v <;> simp_all [DV]
theorem DV.tup_inv {v : V} {ws : List W} (e : DV κ h v (.tup ws)) : ∃ xs, v = .tup xs ∧ DVs κ h xs ws := by cases v <;> simp_all [DV]
theorem DV.ref_inv {v : V} {a : Nat} (e : DV κ h v (.ref a)) : (∃ b, v = .ref b ∧ κ a = .box b ∧ a < h.length) ∨ (∃ xs ws, v = .lst xs ∧ κ a = .frz ∧ rd h a = some (.lst ws) ∧ DVs κ h xs ws) ∨ (∃ xs ws, v = .dct xs ∧ κ a = .frz ∧ rd h a = some (.dct ws) ∧ nodupK xs = true ∧ DVp κ h xs ws) := by
  cases v <;> simp only [DV] at e
  all_goals first | (cases e; done) | (obtain ⟨_, q, _⟩ := e; cases q; done) | skip
  · obtain ⟨a', ws, q, e1, e2, e3⟩ := e; cases q; exact .inr (.inl ⟨_, ws, rfl, e1, e2, e3⟩)
  · obtain ⟨a', ws, q, e1, e2, n, e3⟩ := e; cases q; exact .inr (.inr ⟨_, ws, rfl, e1, e2, n, e3⟩)
  · obtain ⟨a', q, e1, e2⟩ := e; cases q; exact .inl ⟨_, rfl, e1, e2⟩
mutual
theorem DV.fn : ∀ {v v' : V} {w : W}, DV κ h v w → DV κ h v' w → v = v'
  | .non, v', w, e, e' => by unfold DV at e; subst e; exact e'.non_inv.symm
  | .bl _, v', w, e, e' => by unfold DV at e; subst e; exact e'.bl_inv.symm
  | .int _, v', w, e, e' => by unfold DV at e; subst e; exact e'.int_inv.symm
  | .str _, v', w, e, e' => by unfold DV at e; subst e; exact e'.str_inv.symm
  | .tup xs, v', w, e, e' => by
    unfold DV at e
    obtain ⟨ws, rfl, e1⟩ := e
    obtain ⟨ys, rfl, e2⟩ := e'.tup_inv
    rw [DVs.fn e1 e2]
  | .lst xs, v', w, e, e' => by
    unfold DV at e
    obtain ⟨a, ws, rfl, k, e1, e2⟩ := e
    rcases e'.ref_inv with ⟨b, rfl, k', _⟩ | ⟨ys, ws', rfl, k', e1', e2'⟩ | ⟨ys, ws', rfl, k', e1', _, e2'⟩
    · rw [k] at k'; cases k'
    · rw [e1] at e1'; cases e1'; rw [DVs.fn e2 e2']
    · rw [e1] at e1'; cases e1'
  | .dct xs, v', w, e, e' => by
    unfold DV at e
    obtain ⟨a, ws, rfl, k, e1, n, e2⟩ := e
    rcases e'.ref_inv with ⟨b, rfl, k', _⟩ | ⟨ys, ws', rfl, k', e1', e2'⟩ | ⟨ys, ws', rfl, k', e1', _, e2'⟩
    · rw [k] at k'; cases k'
    · rw [e1] at e1'; cases e1'
    · rw [e1] at e1'; cases e1'; rw [DVp.fn e2 e2']
  | .ref b, v', w, e, e' => by
    unfold DV at e
    obtain ⟨a, rfl, k, _⟩ := e
    rcases e'.ref_inv with ⟨b, rfl, k', _⟩ | ⟨ys, ws', rfl, k', e1', e2'⟩ | ⟨ys, ws', rfl, k', e1', _, e2'⟩
    · rw [k] at k'; cases k'; rfl
    · rw [k] at k'; cases k'
    · rw [k] at k'; cases k'
theorem DVs.fn : ∀ {v v' : List V} {w : List W}, DVs κ h v w → DVs κ h v' w → v = v'
  | [], [], w, e, e' => rfl
  | [], _ :: _, w, e, e' => by unfold DVs at e e'; subst e; obtain ⟨_, _, q, _⟩ := e'; cases q
  | _ :: _, [], w, e, e' => by unfold DVs at e e'; subst e'; obtain ⟨_, _, q, _⟩ := e; cases q
  | x :: xs, y :: ys, w, e, e' => by
    unfold DVs at e e'
    obtain ⟨u, r, e1, e2, e3⟩ := e; obtain ⟨u', r', e1', e2', e3'⟩ := e'
    rw [e1] at e1'; cases e1'
    rw [DV.fn e2 e2', DVs.fn e3 e3']
theorem DVp.fn : ∀ {v v' : List (V × V)} {w : List (W × W)}, DVp κ h v w → DVp κ h v' w → v = v'
  | [], [], w, e, e' => rfl
  | [], (_, _) :: _, w, e, e' => by unfold DVp at e e'; subst e; obtain ⟨_, _, _, q, _⟩ := e'; cases q
  | (_, _) :: _, [], w, e, e' => by unfold DVp at e e'; subst e'; obtain ⟨_, _, _, q, _⟩ := e; cases q
  | (a, b) :: xs, (c, d) :: ys, w, e, e' => by
    unfold DVp at e e'
    obtain ⟨u, v, r, e1, e2, e3, e4⟩ := e; obtain ⟨u', v', r', e1', e2', e3', e4'⟩ := e'
    rw [e1] at e1'; cases e1'
    rw [DV.fn e2 e2', DV.fn e3 e3', DVp.fn e4 e4']
end
theorem DVs.len : ∀ {v : List V} {w : List W}, DVs κ h v w → w.length = v.length
  | [], w, e => by unfold DVs at e; subst e; rfl
  | x :: xs, w, e => by
    unfold DVs at e
    obtain ⟨u, r, rfl, e2, e3⟩ := e
    simp [DVs.len e3]
theorem DVp.len : ∀ {v : List (V × V)} {w : List (W × W)}, DVp κ h v w → w.length = v.length
  | [], w, e => by unfold DVp at e; subst e; rfl
  | (x, y) :: xs, w, e => by
    unfold DVp at e
    obtain ⟨u, v, r, rfl, e2, e3, e4⟩ := e
    simp [DVp.len e4]
theorem DVs.app : ∀ {a b : List V} {u v : List W}, DVs κ h a u → DVs κ h b v → DVs κ h (a ++ b) (u ++ v)
  | [], b, u, v, e, e' => by unfold DVs at e; subst e; exact e'
  | x :: a, b, u, v, e, e' => by
    unfold DVs at e
    obtain ⟨w, r, rfl, e2, e3⟩ := e
    simp only [List.cons_append]
    unfold DVs
    exact ⟨w, r ++ v, rfl, e2, DVs.app e3 e'⟩
theorem DVs.get : ∀ {xs : List V} {ws : List W}, DVs κ h xs ws → ∀ n : Nat, match xs[n]? with | some x => ∃ w, ws[n]? = some w ∧ DV κ h x w | none => ws[n]? = none
  | [], ws, e, n => by unfold DVs at e; subst e; simp
  | x :: xs, ws, e, n => by
    unfold DVs at e
    obtain ⟨w, r, rfl, e2, e3⟩ := e
    cases n with
    | zero => simp; exact e2
    | succ n => simpa using DVs.get e3 n
theorem DVs.get_some {xs : List V} {ws : List W} (e : DVs κ h xs ws) {n : Nat} {x : V} (q : xs[n]? = some x) : ∃ w, ws[n]? = some w ∧ DV κ h x w := by
  have := e.get n; rw [q] at this; exact this
theorem DVs.take : ∀ {xs : List V} {ws : List W} (n : Nat), DVs κ h xs ws → DVs κ h (xs.take n) (ws.take n)
  | [], ws, n, e => by unfold DVs at e; subst e; simp [DVs]
  | x :: xs, ws, n, e => by
    cases n with
    | zero => simp [DVs]
    | succ n =>
      unfold DVs at e
      obtain ⟨w, r, rfl, e2, e3⟩ := e
      simp only [List.take_succ_cons]
      unfold DVs
      exact ⟨w, r.take n, rfl, e2, e3.take n⟩
theorem DVs.drop : ∀ {xs : List V} {ws : List W} (n : Nat), DVs κ h xs ws → DVs κ h (xs.drop n) (ws.drop n)
  | [], ws, n, e => by unfold DVs at e; subst e; simp [DVs]
  | x :: xs, ws, n, e => by
    cases n with
    | zero => exact e
    | succ n =>
      unfold DVs at e
      obtain ⟨w, r, rfl, e2, e3⟩ := e
      simpa using e3.drop n
theorem DVs.set : ∀ {xs : List V} {ws : List W} (n : Nat) {x : V} {w : W}, DVs κ h xs ws → DV κ h x w → DVs κ h (xs.set n x) (ws.set n w)
  | [], ws, n, x, w, e, _ => by unfold DVs at e; subst e; simp [DVs]
  | y :: xs, ws, n, x, w, e, q => by
    unfold DVs at e
    obtain ⟨u, r, rfl, e2, e3⟩ := e
    cases n with
    | zero => simp only [List.set_cons_zero]; unfold DVs; exact ⟨w, r, rfl, q, e3⟩
    | succ n => simp only [List.set_cons_succ]; unfold DVs; exact ⟨u, r.set n w, rfl, e2, e3.set n q⟩
theorem DVs.erase : ∀ {xs : List V} {ws : List W} (n : Nat), DVs κ h xs ws → DVs κ h (xs.eraseIdx n) (ws.eraseIdx n)
  | [], ws, n, e => by unfold DVs at e; subst e; simp [DVs]
  | y :: xs, ws, n, e => by
    unfold DVs at e
    obtain ⟨u, r, rfl, e2, e3⟩ := e
    cases n with
    | zero => simpa using e3
    | succ n => simp only [List.eraseIdx_cons_succ]; unfold DVs; exact ⟨u, _, rfl, e2, e3.erase n⟩
theorem DVs.rev : ∀ {xs : List V} {ws : List W}, DVs κ h xs ws → DVs κ h xs.reverse ws.reverse
  | [], ws, e => by unfold DVs at e; subst e; simp [DVs]
  | y :: xs, ws, e => by
    unfold DVs at e
    obtain ⟨u, r, rfl, e2, e3⟩ := e
    simp only [List.reverse_cons]
    exact e3.rev.app (by unfold DVs; exact ⟨u, [], rfl, e2, by simp [DVs]⟩)
theorem DVs.one {x : V} {w : W} (e : DV κ h x w) : DVs κ h [x] [w] := by unfold DVs; exact ⟨w, [], rfl, e, by simp [DVs]⟩
theorem DVs.nil : DVs κ h [] [] := by simp [DVs]
theorem DVs.cons {x : V} {w : W} {xs : List V} {ws : List W} (e : DV κ h x w) (e2 : DVs κ h xs ws) : DVs κ h (x :: xs) (w :: ws) := by unfold DVs; exact ⟨w, ws, rfl, e, e2⟩
theorem DVs.cons_inv {x : V} {xs : List V} {ws : List W} (e : DVs κ h (x :: xs) ws) : ∃ w r, ws = w :: r ∧ DV κ h x w ∧ DVs κ h xs r := by unfold DVs at e; exact e
theorem DVs.nil_inv {ws : List W} (e : DVs κ h [] ws) : ws = [] := by unfold DVs at e; exact e
theorem DVp.nil : DVp κ h [] [] := by simp [DVp]
theorem DVp.cons {x y : V} {w u : W} {xs : List (V × V)} {ws : List (W × W)} (e : DV κ h x w) (e1 : DV κ h y u) (e2 : DVp κ h xs ws) : DVp κ h ((x, y) :: xs) ((w, u) :: ws) := by unfold DVp; exact ⟨w, u, ws, rfl, e, e1, e2⟩
theorem DVp.cons_inv {x y : V} {xs : List (V × V)} {ws : List (W × W)} (e : DVp κ h ((x, y) :: xs) ws) : ∃ w u r, ws = (w, u) :: r ∧ DV κ h x w ∧ DV κ h y u ∧ DVp κ h xs r := by unfold DVp at e; exact e
theorem DVp.nil_inv {ws : List (W × W)} (e : DVp κ h [] ws) : ws = [] := by unfold DVp at e; exact e
theorem DVs.getLast {xs : List V} {ws : List W} (e : DVs κ h xs ws) {x : V} (q : xs.getLast? = some x) : ∃ w, ws.getLast? = some w ∧ DV κ h x w := by
  rw [List.getLast?_eq_getElem?] at q ⊢
  rw [e.len]; exact e.get_some q
theorem DVs.dropLast {xs : List V} {ws : List W} (e : DVs κ h xs ws) : DVs κ h xs.dropLast ws.dropLast := by
  rw [List.dropLast_eq_take, List.dropLast_eq_take, e.len]; exact e.take _
theorem DVp.keys : ∀ {xs : List (V × V)} {ws : List (W × W)}, DVp κ h xs ws → DVs κ h (xs.map (·.1)) (ws.map (·.1))
  | [], ws, e => by rw [e.nil_inv]; exact DVs.nil
  | (x, y) :: xs, ws, e => by
    obtain ⟨w, u, r, rfl, e1, e2, e3⟩ := e.cons_inv
    exact DVs.cons e1 e3.keys
theorem DVp.vals : ∀ {xs : List (V × V)} {ws : List (W × W)}, DVp κ h xs ws → DVs κ h (xs.map (·.2)) (ws.map (·.2))
  | [], ws, e => by rw [e.nil_inv]; exact DVs.nil
  | (x, y) :: xs, ws, e => by
    obtain ⟨w, u, r, rfl, e1, e2, e3⟩ := e.cons_inv
    exact DVs.cons e2 e3.vals
theorem DVp.items : ∀ {xs : List (V × V)} {ws : List (W × W)}, DVp κ h xs ws → DVs κ h (xs.map fun p => .tup [p.1, p.2]) (ws.map fun p => .tup [p.1, p.2])
  | [], ws, e => by rw [e.nil_inv]; exact DVs.nil
  | (x, y) :: xs, ws, e => by
    obtain ⟨w, u, r, rfl, e1, e2, e3⟩ := e.cons_inv
    exact DVs.cons (by unfold DV; exact ⟨_, rfl, .cons e1 (.cons e2 .nil)⟩) e3.items
end BP

namespace BP
open MP (W O Hp Env Exn R rd BinOp CmpOp)
variable {κ : K} {h : Hp}
/-! ### keys -/
theorem kind_cf {v : V} (e : kindV v ≠ 0) : cf v = true := by
  unfold kindV at e
  split at e
  · assumption
  · exact absurd rfl e
theorem kind_tw {v : V} {w : W} (d : DV κ h v w) (e : kindV v ≠ 0) : w = tw v ∧ MP.kind w = kindV v := by
  have c := kind_cf e
  have t := d.tw c
  refine ⟨t, ?_⟩
  rw [t]; unfold kindV; rw [if_pos c]
theorem keyIn_ok {k : V} {wk : W} (d : DV κ h k wk) : ∀ {kvs : List (V × V)} {ws : List (W × W)}, DVp κ h kvs ws → keyInV k kvs = true → MP.keyIn wk ws = true ∧ wk = tw k ∧ ∀ p ∈ kvs, cf p.1 = true := by
  intro kvs ws dp e
  unfold keyInV at e
  simp only [Bool.and_eq_true, bne_iff_ne, ne_eq, List.all_eq_true, beq_iff_eq] at e
  obtain ⟨e0, e1⟩ := e
  obtain ⟨t, kk⟩ := kind_tw d e0
  refine ⟨?_, t, fun p hp => kind_cf (by rw [e1 p hp]; exact e0)⟩
  unfold MP.keyIn MP.isKey
  rw [kk]
  simp only [Bool.and_eq_true, bne_iff_ne, ne_eq]
  refine ⟨e0, ?_⟩
  induction kvs generalizing ws with
  | nil => rw [dp.nil_inv]; rfl
  | cons p kvs ih =>
    obtain ⟨x, y⟩ := p
    obtain ⟨w, u, r, rfl, d1, d2, d3⟩ := dp.cons_inv
    rw [List.all_cons, Bool.and_eq_true]
    have q := e1 (x, y) List.mem_cons_self
    exact ⟨by rw [(kind_tw d1 (by rw [q]; exact e0)).2, q]; simp, ih d3 fun p hp => e1 p (List.mem_cons_of_mem _ hp)⟩
theorem dget_ok {k : V} : ∀ {kvs : List (V × V)} {ws : List (W × W)}, DVp κ h kvs ws → (∀ p ∈ kvs, cf p.1 = true) → match dgetV k kvs with | some v => ∃ w, MP.dget (tw k) ws = some w ∧ DV κ h v w | none => MP.dget (tw k) ws = none
  | [], ws, e, c => by rw [e.nil_inv]; simp [dgetV, MP.dget]
  | (x, y) :: xs, ws, e, c => by
    obtain ⟨w, u, r, rfl, e1, e2, e3⟩ := e.cons_inv
    have t := e1.tw (c (x, y) List.mem_cons_self)
    unfold dgetV MP.dget
    rw [t]
    unfold keqV
    cases q : MP.keq (tw x) (tw k) with
    | true => simp only [if_pos]; exact ⟨u, rfl, e2⟩
    | false => simpa using dget_ok (k := k) e3 fun p hp => c p (List.mem_cons_of_mem _ hp)
theorem dput_ok {k v : V} {u : W} (d : DV κ h v u) (ck : cf k = true) : ∀ {kvs : List (V × V)} {ws : List (W × W)}, DVp κ h kvs ws → (∀ p ∈ kvs, cf p.1 = true) → DVp κ h (dputV k v kvs) (MP.dput (tw k) u ws)
  | [], ws, e, c => by rw [e.nil_inv]; exact DVp.cons (tw_dv ck) d .nil
  | (x, y) :: xs, ws, e, c => by
    obtain ⟨w, z, r, rfl, e1, e2, e3⟩ := e.cons_inv
    have t := e1.tw (c (x, y) List.mem_cons_self)
    subst t
    unfold dputV MP.dput keqV
    cases q : MP.keq (tw x) (tw k) with
    | true => simp only [if_pos]; exact DVp.cons e1 d e3
    | false => simpa using DVp.cons e1 e2 (dput_ok d ck e3 fun p hp => c p (List.mem_cons_of_mem _ hp))
theorem ddel_ok {k : V} : ∀ {kvs : List (V × V)} {ws : List (W × W)}, DVp κ h kvs ws → (∀ p ∈ kvs, cf p.1 = true) → DVp κ h (ddelV k kvs) (MP.ddel (tw k) ws)
  | [], ws, e, c => by rw [e.nil_inv]; exact DVp.nil
  | (x, y) :: xs, ws, e, c => by
    obtain ⟨w, z, r, rfl, e1, e2, e3⟩ := e.cons_inv
    have t := e1.tw (c (x, y) List.mem_cons_self)
    subst t
    unfold ddelV MP.ddel keqV
    cases q : MP.keq (tw x) (tw k) with
    | true => simpa using e3
    | false => simpa using DVp.cons e1 e2 (ddel_ok e3 fun p hp => c p (List.mem_cons_of_mem _ hp))
theorem dput_keys {k v : V} : ∀ {kvs : List (V × V)} {p : V × V}, p ∈ dputV k v kvs → (∃ q ∈ kvs, p.1 = q.1) ∨ p.1 = k
  | [], p, hp => by
    unfold dputV at hp
    rw [List.mem_singleton] at hp
    rw [hp]; exact .inr rfl
  | (x, y) :: xs, p, hp => by
    unfold dputV at hp
    split at hp
    · rcases List.mem_cons.mp hp with rfl | hp
      · exact .inl ⟨(x, y), List.mem_cons_self, rfl⟩
      · exact .inl ⟨p, List.mem_cons_of_mem _ hp, rfl⟩
    · rcases List.mem_cons.mp hp with rfl | hp
      · exact .inl ⟨(x, y), List.mem_cons_self, rfl⟩
      · rcases dput_keys hp with ⟨q, hq, e⟩ | e
        · exact .inl ⟨q, List.mem_cons_of_mem _ hq, e⟩
        · exact .inr e
/-! each key once -/
theorem dput_nodup {k v : V} : ∀ {kvs : List (V × V)}, nodupK kvs = true → nodupK (dputV k v kvs) = true
  | [], _ => rfl
  | (x, y) :: xs, n => by
    unfold nodupK at n
    rw [Bool.and_eq_true] at n
    unfold dputV
    cases q : keqV x k with
    | true => simp only [if_pos]; unfold nodupK; rw [Bool.and_eq_true]; exact n
    | false =>
      simp only [Bool.false_eq_true, if_false]
      unfold nodupK
      rw [Bool.and_eq_true]
      refine ⟨?_, dput_nodup n.2⟩
      rw [List.all_eq_true]
      intro p hp
      rcases dput_keys hp with ⟨r, hr, e⟩ | e
      · rw [e]; exact List.all_eq_true.mp n.1 r hr
      · rw [e, q]; rfl
theorem ddel_mem {k : V} : ∀ {kvs : List (V × V)} {p : V × V}, p ∈ ddelV k kvs → p ∈ kvs
  | [], p, hp => hp
  | (x, y) :: xs, p, hp => by
    unfold ddelV at hp
    split at hp
    · exact List.mem_cons_of_mem _ hp
    · rcases List.mem_cons.mp hp with rfl | hp
      · exact List.mem_cons_self
      · exact List.mem_cons_of_mem _ (ddel_mem hp)
theorem ddel_nodup {k : V} : ∀ {kvs : List (V × V)}, nodupK kvs = true → nodupK (ddelV k kvs) = true
  | [], _ => rfl
  | (x, y) :: xs, n => by
    unfold nodupK at n
    rw [Bool.and_eq_true] at n
    unfold ddelV
    cases q : keqV x k with
    | true => simpa using n.2
    | false =>
      simp only [Bool.false_eq_true, if_false]
      unfold nodupK
      rw [Bool.and_eq_true]
      exact ⟨List.all_eq_true.mpr fun p hp => List.all_eq_true.mp n.1 p (ddel_mem hp), ddel_nodup n.2⟩
theorem dmerge_nodup : ∀ {ys kvs : List (V × V)}, nodupK kvs = true → nodupK (dmergeV kvs ys) = true
  | [], _, n => n
  | (x, y) :: ys, kvs, n => by unfold dmergeV; exact dmerge_nodup (dput_nodup n)
theorem dmerge_ok : ∀ {ys kvs : List (V × V)} {us ws : List (W × W)}, DVp κ h kvs ws → (∀ p ∈ kvs, cf p.1 = true) → DVp κ h ys us → (∀ p ∈ ys, cf p.1 = true) → DVp κ h (dmergeV kvs ys) (MP.dmerge ws us)
  | [], kvs, us, ws, e, c, e', c' => by rw [e'.nil_inv]; exact e
  | (x, y) :: ys, kvs, us, ws, e, c, e', c' => by
    obtain ⟨w, z, r, rfl, e1, e2, e3⟩ := e'.cons_inv
    have cx := c' (x, y) List.mem_cons_self
    have t := e1.tw cx
    subst t
    unfold dmergeV MP.dmerge
    exact dmerge_ok (dput_ok e2 cx e c) (fun p hp => by
      rcases dput_keys hp with ⟨q, hq, e⟩ | e
      · rw [e]; exact c q hq
      · rw [e]; exact cx) e3 fun p hp => c' p (List.mem_cons_of_mem _ hp)
/-! ### equality -/
theorem flat_kind {v : V} (e : flatV v = true) : cf v = true ∧ MP.isFlat (tw v) = true := by
  unfold flatV at e; rwa [Bool.and_eq_true] at e
theorem flat_self {v : V} (e : flatV v = true) : keqV v v = true := by
  cases v <;> simp_all [flatV, MP.isFlat, keqV, MP.keq]
theorem dget_self {f : V → V → Option Bool} : ∀ {kvs : List (V × V)} {k v : V}, nodupK kvs = true → (∀ p ∈ kvs, flatV p.1 = true) → (k, v) ∈ kvs → dgetV k kvs = some v
  | (x, y) :: xs, k, v, n, c, hm => by
    unfold nodupK at n
    rw [Bool.and_eq_true] at n
    unfold dgetV
    rcases List.mem_cons.mp hm with e | hm'
    · cases e
      rw [flat_self (c _ List.mem_cons_self)]; simp
    · have := List.all_eq_true.mp n.1 (k, v) hm'
      simp only [Bool.not_eq_true'] at this
      rw [this]
      simpa using dget_self (f := f) n.2 (fun p hp => c p (List.mem_cons_of_mem _ hp)) hm'
theorem veqs_refl {f : V → V → Option Bool} : ∀ {xs : List V} {ws : List W}, DVs κ h xs ws → (∀ x w, DV κ h x w → ∀ t, f x x = some t → t = true) → ∀ t, veqs f xs xs = some t → t = true
  | [], _, _, _, t, e => by simp at e; first | exact e | exact e.symm
  | x :: xs, ws, d, hf, t, e => by
    obtain ⟨w, r, rfl, d1, d2⟩ := d.cons_inv
    simp only [veqs, Option.bind_eq_some_iff, Option.map_eq_some_iff] at e
    obtain ⟨a, e1, b, e2, rfl⟩ := e
    rw [hf x w d1 a e1, veqs_refl d2 hf b e2]; rfl
theorem veqD_refl {f : V → V → Option Bool} {kvs : List (V × V)} (n : nodupK kvs = true) (c : ∀ p ∈ kvs, flatV p.1 = true) (hf : ∀ x w, DV κ h x w → ∀ t, f x x = some t → t = true) :
    ∀ {xs : List (V × V)} {ws : List (W × W)}, (∀ p ∈ xs, p ∈ kvs) → DVp κ h xs ws → ∀ t, veqD f kvs xs = some t → t = true
  | [], _, _, _, t, e => by simp at e; first | exact e | exact e.symm
  | (x, y) :: xs, ws, hs, d, t, e => by
    obtain ⟨w, u, r, rfl, d1, d2, d3⟩ := d.cons_inv
    unfold veqD at e
    rw [dget_self (f := f) n c (hs (x, y) List.mem_cons_self)] at e
    simp only [Option.bind_eq_some_iff, Option.map_eq_some_iff] at e
    obtain ⟨a, e1, b, e2, rfl⟩ := e
    rw [hf y u d2 a e1, veqD_refl n c hf (fun p hp => hs p (List.mem_cons_of_mem _ hp)) d3 b e2]; rfl
theorem veq_refl : ∀ (n : Nat) {v : V} {w : W}, DV κ h v w → ∀ t, veqN n v v = some t → t = true := by
  intro n
  induction n with
  | zero =>
    intro v w d t e
    cases v <;> simp_all [veqN, veqS]
  | succ n ih =>
    intro v w d t e
    cases v with
    | tup xs =>
      unfold DV at d
      obtain ⟨ws, rfl, d⟩ := d
      simp only [veqN, Option.map_eq_some_iff] at e
      obtain ⟨b, e1, rfl⟩ := e
      rw [veqs_refl d (fun x w d t => ih d t) b e1]; simp
    | lst xs =>
      unfold DV at d
      obtain ⟨a, ws, rfl, _, _, d⟩ := d
      simp only [veqN, if_pos] at e
      exact veqs_refl d (fun x w d t => ih d t) t e
    | dct xs =>
      unfold DV at d
      obtain ⟨a, ws, rfl, _, _, nd, d⟩ := d
      simp only [veqN] at e
      split at e
      · rename_i c
        rw [Bool.and_eq_true] at c
        simp only [Option.map_eq_some_iff] at e
        obtain ⟨b, e1, rfl⟩ := e
        rw [veqD_refl nd (List.all_eq_true.mp c.1) (fun x w d t => ih d t) (fun p hp => hp) d b e1]; simp
      · cases e
    | _ => simp_all [veqN, veqS]
theorem veqs_ok {f : V → V → Option Bool} {g : W → W → Option Bool} (hf : ∀ x y u v t, DV κ h x u → DV κ h y v → f x y = some t → g u v = some t) :
    ∀ {xs ys : List V} {us vs : List W}, DVs κ h xs us → DVs κ h ys vs → ∀ t, veqs f xs ys = some t → MP.eqs g us vs = some t
  | [], ys, us, vs, d, d', t, e => by rw [d.nil_inv]; simpa [MP.eqs] using e
  | x :: xs, [], us, vs, d, d', t, e => by
    rw [d'.nil_inv]
    obtain ⟨w, r, rfl, d1, d2⟩ := d.cons_inv
    simpa [MP.eqs] using e
  | x :: xs, y :: ys, us, vs, d, d', t, e => by
    obtain ⟨w, r, rfl, d1, d2⟩ := d.cons_inv
    obtain ⟨w', r', rfl, d1', d2'⟩ := d'.cons_inv
    simp only [veqs, Option.bind_eq_some_iff, Option.map_eq_some_iff] at e
    obtain ⟨a, e1, b, e2, rfl⟩ := e
    unfold MP.eqs
    rw [hf x y w w' a d1 d1' e1]
    simp only [Option.bind_some]
    rw [veqs_ok hf d2 d2' b e2]; rfl
theorem veqD_ok {f : V → V → Option Bool} {g : W → W → Option Bool} (hf : ∀ x y u v t, DV κ h x u → DV κ h y v → f x y = some t → g u v = some t)
    {ys : List (V × V)} {vs : List (W × W)} (dy : DVp κ h ys vs) (cy : ∀ p ∈ ys, cf p.1 = true) :
    ∀ {xs : List (V × V)} {us : List (W × W)}, DVp κ h xs us → (∀ p ∈ xs, cf p.1 = true) → ∀ t, veqD f ys xs = some t → MP.eqD g vs us = some t
  | [], us, d, _, t, e => by rw [d.nil_inv]; simpa [MP.eqD] using e
  | (x, y) :: xs, us, d, cx, t, e => by
    obtain ⟨w, u, r, rfl, d1, d2, d3⟩ := d.cons_inv
    have tx := d1.tw (cx (x, y) List.mem_cons_self)
    subst tx
    have ih := fun t => veqD_ok hf dy cy d3 (fun p hp => cx p (List.mem_cons_of_mem _ hp)) t
    have q := dget_ok (k := x) dy cy
    unfold veqD at e
    unfold MP.eqD
    cases z : dgetV x ys with
    | none =>
      rw [z] at e q
      simp only at q e
      rw [q]
      simp only [Option.map_eq_some_iff] at e ⊢
      obtain ⟨b, e1, rfl⟩ := e
      exact ⟨b, ih b e1, rfl⟩
    | some v =>
      rw [z] at e q
      simp only at q e
      obtain ⟨wv, q1, q2⟩ := q
      rw [q1]
      simp only [Option.bind_eq_some_iff, Option.map_eq_some_iff] at e ⊢
      obtain ⟨a, e1, b, e2, rfl⟩ := e
      exact ⟨a, hf _ _ _ _ a d2 q2 e1, b, ih b e2, rfl⟩
theorem flat_all : ∀ {xs : List (V × V)} {us : List (W × W)}, DVp κ h xs us → xs.all (fun p => flatV p.1) = true → us.all (fun p => MP.isFlat p.1) = true ∧ ∀ p ∈ xs, cf p.1 = true
  | [], us, d, _ => by rw [d.nil_inv]; simp
  | (x, y) :: xs, us, d, e => by
    obtain ⟨w, u, r, rfl, d1, d2, d3⟩ := d.cons_inv
    rw [List.all_cons, Bool.and_eq_true] at e
    obtain ⟨c, f⟩ := flat_kind e.1
    obtain ⟨i1, i2⟩ := flat_all d3 e.2
    rw [List.all_cons, Bool.and_eq_true]
    refine ⟨⟨?_, i1⟩, fun p hp => ?_⟩
    · rw [d1.tw c]; exact f
    · rcases List.mem_cons.mp hp with rfl | hp
      · exact c
      · exact i2 p hp
theorem veqS_ok {x y : V} {u v : W} {t : Bool} (d : DV κ h x u) (d' : DV κ h y v) (e : veqS x y = some t) : MP.eqS u v = some t := by
  cases x <;> cases y <;> simp only [veqS] at e <;> (try (cases e; done)) <;> simp only [DV] at d d' <;>
    first
    | (subst d; subst d'; exact e)
    | (obtain ⟨ws, rfl, _⟩ := d; subst d'; exact e)
    | (obtain ⟨ws, rfl, _⟩ := d'; subst d; exact e)
theorem eqO_ok {f : V → V → Option Bool} {g : W → W → Option Bool} (hf : ∀ x y u v t, DV κ h x u → DV κ h y v → f x y = some t → g u v = some t)
    {x y : V} {o p : O} (d : CR κ h x o) (d' : CR κ h y p) {t : Bool}
    (e : (match x, y with
      | .lst xs, .lst ys => if xs.length = ys.length then veqs f xs ys else some false
      | .dct xs, .dct ys => if xs.all (fun p => flatV p.1) && ys.all (fun p => flatV p.1) then (veqD f ys xs).map fun b => decide (xs.length = ys.length) && b else none
      | _, _ => none) = some t) : MP.eqO g (some o) (some p) = some t := by
  cases x <;> first | exact d.elim | skip
  · cases y <;> first | exact d'.elim | skip
    · obtain ⟨us, rfl, d⟩ := d; obtain ⟨vs, rfl, d'⟩ := d'
      unfold MP.eqO
      simp only at e ⊢
      rw [d.len, d'.len]
      split at e
      · rename_i hl; rw [if_pos hl]; exact veqs_ok hf d d' t e
      · rename_i hl; rw [if_neg hl]; exact e
    · cases e
  · cases y <;> first | exact d'.elim | skip
    · cases e
    · obtain ⟨us, rfl, _, d⟩ := d; obtain ⟨vs, rfl, _, d'⟩ := d'
      simp only at e
      unfold MP.eqO
      simp only
      split at e
      · rename_i c
        rw [Bool.and_eq_true] at c
        obtain ⟨f1, c1⟩ := flat_all d c.1
        obtain ⟨f2, c2⟩ := flat_all d' c.2
        rw [f1, f2]
        simp only [Option.map_eq_some_iff, Bool.and_self, if_pos] at e ⊢
        obtain ⟨b, e1, rfl⟩ := e
        exact ⟨b, veqD_ok hf d' c2 d c1 b e1, by rw [d.len, d'.len]⟩
      · cases e
theorem veqN_ok : ∀ (n : Nat) (x y : V) (u v : W) (t : Bool), DV κ h x u → DV κ h y v → veqN n x y = some t → MP.eqW n h u v = some t := by
  intro n
  induction n with
  | zero =>
    intro x y u v t d d' e
    have e' : veqS x y = some t := by unfold veqN at e; exact e
    unfold MP.eqW
    exact veqS_ok d d' e'
  | succ n ih =>
    intro x y u v t d d' e
    by_cases hs : veqN (n + 1) x y = veqS x y
    · rw [hs] at e
      have q := veqS_ok d d' e
      cases u <;> cases v <;> first | exact q | (simp [MP.eqS] at q; done)
    · cases x <;> cases y <;> first | (exact absurd rfl hs) | skip
      · unfold DV at d d'
        obtain ⟨us, rfl, d⟩ := d; obtain ⟨vs, rfl, d'⟩ := d'
        simp only [veqN, Option.map_eq_some_iff] at e
        obtain ⟨b, e1, rfl⟩ := e
        unfold MP.eqW
        rw [veqs_ok ih d d' b e1, d.len, d'.len]; rfl
      · have dv := d; have dv' := d'
        unfold DV at d d'
        obtain ⟨a, us, rfl, _, r1, d⟩ := d; obtain ⟨a', vs, rfl, _, r2, d'⟩ := d'
        unfold MP.eqW
        split
        · rename_i hc
          have : V.lst _ = V.lst _ := DV.fn dv (by rw [hc.1]; exact dv')
          rw [← this] at e
          rw [veq_refl (n + 1) dv t e]
        · rw [r1, r2]
          exact eqO_ok (x := .lst _) (y := .lst _) ih ⟨_, rfl, d⟩ ⟨_, rfl, d'⟩ (by simpa [veqN] using e)
      · have dv := d; have dv' := d'
        unfold DV at d d'
        obtain ⟨a, us, rfl, _, r1, nd, d⟩ := d; obtain ⟨a', vs, rfl, _, r2, nd', d'⟩ := d'
        unfold MP.eqW
        split
        · rename_i hc
          have : V.dct _ = V.dct _ := DV.fn dv (by rw [hc.1]; exact dv')
          rw [← this] at e
          rw [veq_refl (n + 1) dv t e]
        · rw [r1, r2]
          exact eqO_ok (x := .dct _) (y := .dct _) ih ⟨_, rfl, nd, d⟩ ⟨_, rfl, nd', d'⟩ (by simpa [veqN] using e)
theorem veq_ok {x y : V} {u v : W} {t : Bool} (d : Cn κ h x u) (d' : Cn κ h y v) (e : veq x y = some t) : MP.weq h u v = some t := by
  unfold veq at e
  by_cases hs : veqN 20 x y = veqS x y
  · rw [hs] at e
    have dx : DV κ h x u := by cases x <;> first | exact d | (cases y <;> simp [veqS] at e)
    have dy : DV κ h y v := by cases y <;> first | exact d' | (cases x <;> simp [veqS] at e)
    have q := veqS_ok dx dy e
    cases u <;> cases v <;> first | exact q | (simp [MP.eqS] at q; done)
  · cases x <;> cases y <;> first | (exact absurd rfl hs) | skip
    · simp only [Cn, DV] at d d'
      obtain ⟨us, rfl, d⟩ := d; obtain ⟨vs, rfl, d'⟩ := d'
      simp only [veqN, Option.map_eq_some_iff] at e
      obtain ⟨b, e1, rfl⟩ := e
      simp only [MP.weq]
      rw [veqs_ok (veqN_ok 19) d d' b e1, d.len, d'.len]; rfl
    · obtain ⟨a, us, rfl, r1, d⟩ := d; obtain ⟨a', vs, rfl, r2, d'⟩ := d'
      simp only [MP.weq]
      rw [r1, r2]
      exact eqO_ok (x := .lst _) (y := .lst _) (veqN_ok 19) ⟨_, rfl, d⟩ ⟨_, rfl, d'⟩ (by simpa [veqN] using e)
    · obtain ⟨a, us, rfl, r1, nd, d⟩ := d; obtain ⟨a', vs, rfl, r2, nd', d'⟩ := d'
      simp only [MP.weq]
      rw [r1, r2]
      exact eqO_ok (x := .dct _) (y := .dct _) (veqN_ok 19) ⟨_, rfl, nd, d⟩ ⟨_, rfl, nd', d'⟩ (by simpa [veqN] using e)
end BP

namespace BP
open MP (W O Hp Env Exn R rd BinOp CmpOp Blt Ty)
variable {κ : K} {h : Hp}
/-! ### what a step without changes answers -/
def PR (κ : K) (h : Hp) (r : RV) (m : R W) : Prop := match r with
  | .val v => ∃ w, m = .ok w h ∧ DV κ h v w
  | .tmp v => ∃ o, m = .ok (.ref h.length) (h ++ [o]) ∧ CR κ h v o
  | .pl _ => False
def Cns (κ : K) (h : Hp) : List V → List W → Prop
  | [], ws => ws = []
  | x :: xs, ws => ∃ w r, ws = w :: r ∧ Cn κ h x w ∧ Cns κ h xs r
theorem DVs.cns : ∀ {xs : List V} {ws : List W}, DVs κ h xs ws → Cns κ h xs ws
  | [], _, e => e.nil_inv
  | x :: xs, ws, e => by
    obtain ⟨w, r, rfl, e1, e2⟩ := e.cons_inv
    exact ⟨w, r, rfl, e1.cn, e2.cns⟩
theorem guardO_some {α : Type} {b : Bool} {q : Option α} {x : α} (e : guardO b q = some x) : b = true ∧ q = some x := by
  unfold guardO at e
  split at e
  · exact ⟨by assumption, e⟩
  · cases e
theorem PR.int {i : Int} : PR κ h (.val (.int i)) (.ok (.int i) h) := ⟨_, rfl, by simp [DV]⟩
theorem PR.str {i : List Nat} : PR κ h (.val (.str i)) (.ok (.str i) h) := ⟨_, rfl, by simp [DV]⟩
theorem PR.bl {i : Bool} : PR κ h (.val (.bl i)) (.ok (.bl i) h) := ⟨_, rfl, by simp [DV]⟩
theorem PR.g {b : Bool} {m : R W} {w : W} {v : V} (c : b = true) (hm : m = MP.guardR b (.ok w h)) (d : DV κ h v w) : PR κ h (.val v) m := ⟨w, by rw [hm, c]; rfl, d⟩
theorem bin_ok {op : BinOp} {x y : V} {u v : W} {r : RV} (d : Cn κ h x u) (d' : Cn κ h y v) (e : vbin op x y = some r) : PR κ h r (MP.bin op u v h) := by
  unfold vbin at e
  split at e
  all_goals first
    | (simp only [Cn, DV] at d d'; subst d; subst d'; cases e; exact PR.int)
    | (simp only [Cn, DV] at d d'; subst d; subst d'; obtain ⟨c, e⟩ := guardO_some e; cases e
       exact PR.g c rfl (by simp [DV]))
    | skip
  · simp only [Cn, DV] at d d'
    obtain ⟨us, rfl, d⟩ := d; obtain ⟨vs, rfl, d'⟩ := d'
    obtain ⟨c, e⟩ := guardO_some e; cases e
    rw [← d.len, ← d'.len] at c
    exact PR.g c rfl (by unfold DV; exact ⟨_, rfl, d.app d'⟩)
  · obtain ⟨a, us, rfl, r1, d⟩ := d; obtain ⟨b, vs, rfl, r2, d'⟩ := d'
    obtain ⟨c, e⟩ := guardO_some e; cases e
    refine ⟨.lst (us ++ vs), ?_, _, rfl, d.app d'⟩
    simp only [MP.bin, MP.addO]
    rw [r1, r2]
    simp only
    rw [d.len, d'.len, c]; rfl
  · cases e
theorem ibin_ok {op : BinOp} {x y z : V} {u v : W} (d : Cn κ h x u) (d' : Cn κ h y v) (e : vibin op x y = some z) : ∃ w, MP.ibin op u v h = .ok w h ∧ DV κ h z w := by
  unfold vibin at e
  split at e
  · simp only [Cn, DV] at d d'; subst d; subst d'; cases e; exact ⟨_, rfl, by simp [DV]⟩
  · cases e
theorem mem_ok {x : V} {ys : List V} {u : W} {vs : List W} {t : Bool} (d : Cn κ h x u) (d' : DVs κ h ys vs) (e : memV x ys = some t) : MP.memW u vs = some t := by
  unfold memV at e
  split at e
  · rename_i c
    rw [Bool.and_eq_true] at c
    rw [d.tw c.1, d'.tw c.2]; exact e
  · cases e
theorem isIn_ok {x y : V} {u v : W} {t : Bool} (d : Cn κ h x u) (d' : Cn κ h y v) (e : visIn x y = some t) : MP.isIn u v h = some t := by
  unfold visIn at e
  split at e
  · simp only [Cn, DV] at d d'; subst d; subst d'; exact e
  · simp only [Cn, DV] at d'
    obtain ⟨vs, rfl, d'⟩ := d'
    have q := mem_ok d d' e
    unfold MP.isIn
    cases u <;> exact q
  · obtain ⟨a, vs, rfl, r1, d'⟩ := d'
    have q := mem_ok d d' e
    have : MP.isIn u (.ref a) h = MP.inO u (rd h a) := by cases u <;> rfl
    rw [this, r1]; exact q
  · obtain ⟨a, vs, rfl, r1, _, d'⟩ := d'
    have : MP.isIn u (.ref a) h = MP.inO u (rd h a) := by cases u <;> rfl
    rw [this, r1]
    split at e
    · rename_i c
      have hk : kindV x ≠ 0 := by unfold keyInV at c; simp only [Bool.and_eq_true, bne_iff_ne] at c; exact c.1
      have tx := d.tw (kind_cf hk)
      obtain ⟨k1, _, k3⟩ := keyIn_ok (tw_dv (kind_cf hk)) d' c
      have g := dget_ok (k := x) d' k3
      unfold MP.inO
      simp only
      rw [tx, k1, if_pos rfl]
      cases z : dgetV x _ with
      | none => rw [z] at g e; simp only at g; rw [g]; exact e
      | some q => rw [z] at g e; simp only at g; obtain ⟨w, g1, _⟩ := g; rw [g1]; exact e
    · cases e
  · cases e
theorem isNon_ok {x : V} {u : W} (d : Cn κ h x u) : MP.isNon u = vnon x := by
  cases x <;> simp only [Cn, DV] at d
  all_goals first | (subst d; rfl) | (obtain ⟨_, rfl, _⟩ := d; rfl) | (obtain ⟨_, _, rfl, _⟩ := d; rfl)
theorem cmp_is {u : W} : MP.cmp .is u .non h = some (MP.isNon u) := by cases u <;> rfl
theorem cmp_isnot {u : W} : MP.cmp .isnot u .non h = some (!MP.isNon u) := by cases u <;> rfl
theorem wlt_ok {x y : V} {u v : W} {t : Bool} (d : Cn κ h x u) (d' : Cn κ h y v) (e : wltV x y = some t) : MP.wlt u v = some t := by
  unfold wltV at e
  split at e
  · rename_i c
    rw [Bool.and_eq_true] at c
    rw [d.tw c.1, d'.tw c.2]; exact e
  · cases e
theorem ints_ok : ∀ {l : List V} {ws : List W} {is : List Int}, DVs κ h l ws → vints l = some is → MP.intsV ws = some is
  | [], ws, is, d, e => by rw [d.nil_inv]; exact e
  | x :: l, ws, is, d, e => by
    obtain ⟨w, r, rfl, d1, d2⟩ := d.cons_inv
    cases x <;> simp only [vints] at e <;> (try (cases e; done))
    simp only [DV] at d1; subst d1
    simp only [Option.map_eq_some_iff] at e
    obtain ⟨js, e1, rfl⟩ := e
    unfold MP.intsV; rw [ints_ok d2 e1]; rfl
theorem cmp_ok {op : CmpOp} {x y : V} {u v : W} {t : Bool} (d : Cn κ h x u) (d' : Cn κ h y v) (e : vcmp op x y = some t) : MP.cmp op u v h = some t := by
  unfold vcmp at e
  split at e
  · exact veq_ok d d' e
  · simp only [Option.map_eq_some_iff] at e
    obtain ⟨b, e, rfl⟩ := e
    simp only [MP.cmp, veq_ok d d' e]; rfl
  all_goals first
    | (simp only [Cn, DV] at d d'; subst d; subst d'; exact e)
    | skip
  · simp only [Option.bind_eq_some_iff, Option.map_eq_some_iff] at e
    obtain ⟨ns, e1, ms, e2, rfl⟩ := e
    simp only [Cn, DV] at d d'; obtain ⟨_, rfl, d⟩ := d; obtain ⟨_, rfl, d'⟩ := d'
    simp [MP.cmp, ints_ok d e1, ints_ok d' e2]
  · simp only [Option.bind_eq_some_iff, Option.map_eq_some_iff] at e
    obtain ⟨ns, e1, ms, e2, rfl⟩ := e
    simp only [Cn, DV] at d d'; obtain ⟨_, rfl, d⟩ := d; obtain ⟨_, rfl, d'⟩ := d'
    simp [MP.cmp, ints_ok d e1, ints_ok d' e2]
  · exact isIn_ok d d' e
  · simp only [Option.map_eq_some_iff] at e
    obtain ⟨b, e, rfl⟩ := e
    simp only [MP.cmp, isIn_ok d d' e]; rfl
  · simp only [Cn, DV] at d'; subst d'
    rw [cmp_is, isNon_ok d]; exact e
  · simp only [Cn, DV] at d'; subst d'
    rw [cmp_isnot, isNon_ok d]; exact e
  · cases e
theorem atI_ok {xs : List V} {ws : List W} {i : Int} {z : V} (d : DVs κ h xs ws) (e : MP.atI xs i = some z) : ∃ w, MP.atI ws i = some w ∧ DV κ h z w := by
  unfold MP.atI at e ⊢
  rw [d.len]
  simp only [Option.bind_eq_some_iff] at e
  obtain ⟨j, e1, e2⟩ := e
  rw [e1]
  exact d.get_some e2
theorem item_ok {x y z : V} {u v : W} (d : Cn κ h x u) (d' : Cn κ h y v) (e : vitem x y = some z) : ∃ w, MP.item u v h = some w ∧ DV κ h z w := by
  unfold vitem at e
  split at e
  · simp only [Cn, DV] at d d'; subst d; subst d'
    simp only [Option.map_eq_some_iff] at e
    obtain ⟨c, e1, rfl⟩ := e
    exact ⟨.str [c], by simp [MP.item, e1], by simp [DV]⟩
  · simp only [Cn, DV] at d d'; subst d'; obtain ⟨us, rfl, d⟩ := d
    exact atI_ok d e
  · simp only [Cn, DV] at d'; subst d'; obtain ⟨a, us, rfl, r1, d⟩ := d
    simp only [MP.item, r1, MP.itemO]
    exact atI_ok d e
  · obtain ⟨a, us, rfl, r1, _, d⟩ := d
    split at e
    · rename_i c
      have hk : kindV y ≠ 0 := by unfold keyInV at c; simp only [Bool.and_eq_true, bne_iff_ne] at c; exact c.1
      have tx := d'.tw (kind_cf hk)
      obtain ⟨k1, _, k3⟩ := keyIn_ok (tw_dv (kind_cf hk)) d c
      have g := dget_ok (k := y) d k3
      rw [e] at g
      obtain ⟨w, g1, g2⟩ := g
      refine ⟨w, ?_, g2⟩
      have : MP.item (.ref a) v h = MP.itemO v (rd h a) := by cases v <;> rfl
      rw [this, r1]
      unfold MP.itemO
      simp only
      rw [tx, k1, if_pos rfl, g1]
    · cases e
  · cases e
theorem cutL_ok {xs : List V} {ws : List W} (lo hi : Option Int) (d : DVs κ h xs ws) : DVs κ h (MP.cutL xs lo hi) (MP.cutL ws lo hi) := by
  unfold MP.cutL
  rw [d.len]
  exact (d.take _).drop _
theorem slice_ok {x : V} {u : W} {lo hi : Option Int} {r : RV} (d : Cn κ h x u) (e : vslice x lo hi = some r) : PR κ h r (MP.slice u lo hi h) := by
  unfold vslice at e
  split at e
  · simp only [Cn, DV] at d; subst d; cases e; exact PR.str
  · simp only [Cn, DV] at d; obtain ⟨us, rfl, d⟩ := d; cases e
    exact ⟨.tup (MP.cutL us lo hi), rfl, by unfold DV; exact ⟨_, rfl, cutL_ok lo hi d⟩⟩
  · obtain ⟨a, us, rfl, r1, d⟩ := d; cases e
    refine ⟨.lst (MP.cutL us lo hi), ?_, _, rfl, cutL_ok lo hi d⟩
    simp only [MP.slice, r1, MP.sliceO]; rfl
  · cases e
theorem bool_ok {x : V} {u : W} {b : Bool} (d : Cn κ h x u) (e : vbool x = some b) : MP.asBool u = some b := by
  unfold vbool at e
  split at e
  · simp only [Cn, DV] at d; subst d; exact e
  · cases e
theorem neg_ok {x z : V} {u : W} (d : Cn κ h x u) (e : vneg x = some z) : ∃ w, MP.neg u h = .ok w h ∧ DV κ h z w := by
  unfold vneg at e
  split at e
  · simp only [Cn, DV] at d; subst d; cases e; exact ⟨_, rfl, by simp [DV]⟩
  · cases e
theorem part_ok {x : V} {u : W} {i : Int} (d : Cn κ h x u) (e : vpart x = some i) : MP.part u h = .ok (some i) h := by
  unfold vpart at e
  split at e
  · simp only [Cn, DV] at d; subst d; cases e; rfl
  · cases e
/-! ### what is walked -/
theorem strs_dv (s : List Nat) : DVs κ h (s.map fun c => .str [c]) (s.map fun c => .str [c]) := by
  induction s with
  | nil => exact .nil
  | cons c s ih => exact .cons (by simp [DV]) ih
/-- the cells that stand still -/
def lkOf : W → List Nat
  | .ref a => [a]
  | _ => []
theorem walk_ok {x : V} {u : W} {l : List V} (d : Cn κ h x u) (e : vwalk x = some l) : ∃ ws, MP.walkV u h = some (ws, lkOf u) ∧ DVs κ h l ws := by
  unfold vwalk at e
  split at e
  · simp only [Cn, DV] at d; subst d; cases e; exact ⟨_, rfl, strs_dv _⟩
  · simp only [Cn, DV] at d; obtain ⟨us, rfl, d⟩ := d; cases e; exact ⟨_, rfl, d⟩
  · obtain ⟨a, us, rfl, r1, d⟩ := d; cases e
    exact ⟨us, by simp only [MP.walkV, r1, MP.walkO, lkOf], d⟩
  · cases e
theorem walkL_ok {x : V} {u : W} {l : List V} (d : Cn κ h x u) (e : vlst x = some l) : ∃ ws, MP.walkL u h = some (ws, lkOf u) ∧ DVs κ h l ws := by
  unfold vlst at e
  split at e
  · obtain ⟨a, us, rfl, r1, d⟩ := d; cases e
    exact ⟨us, by simp only [MP.walkL, r1, MP.walkO, lkOf], d⟩
  · cases e
theorem walk2_ok {x y : V} {u v : W} {p : List V × List V} (d : Cn κ h x u) (d' : Cn κ h y v) (e : vwalk2 x y = some p) : ∃ ws us, MP.walk2 u v h = some ((ws, lkOf u), (us, lkOf v)) ∧ DVs κ h p.1 ws ∧ DVs κ h p.2 us := by
  unfold vwalk2 at e
  split at e
  · simp only [Cn, DV] at d d'; obtain ⟨us, rfl, d⟩ := d; obtain ⟨vs, rfl, d'⟩ := d'; cases e; exact ⟨_, _, rfl, d, d'⟩
  · obtain ⟨a, us, rfl, r1, d⟩ := d; obtain ⟨b, vs, rfl, r2, d'⟩ := d'; cases e
    exact ⟨us, vs, by simp only [MP.walk2, r1, r2, MP.walkO, lkOf, Option.bind_some, Option.map_some], d, d'⟩
  · cases e
theorem keys_ok {x : V} {u : W} {l : List V} (d : Cn κ h x u) (e : vkeys x = some l) : ∃ ws, MP.keysD u h = some (ws, lkOf u) ∧ DVs κ h l ws := by
  unfold vkeys at e
  split at e
  · obtain ⟨a, us, rfl, r1, _, d⟩ := d
    obtain ⟨c, e⟩ := guardO_some e; cases e
    exact ⟨_, by simp only [MP.keysD, r1, MP.dKeys, lkOf, (flat_all d c).1, if_true], d.keys⟩
  · cases e
theorem items_ok {x : V} {u : W} {l : List V} (d : Cn κ h x u) (e : vitems x = some l) : ∃ ws, MP.itemsD u h = some (ws, lkOf u) ∧ DVs κ h l ws := by
  unfold vitems at e
  split at e
  · obtain ⟨a, us, rfl, r1, _, d⟩ := d
    obtain ⟨c, e⟩ := guardO_some e; cases e
    exact ⟨_, by simp only [MP.itemsD, r1, MP.dItems, lkOf, (flat_all d c).1, if_true], d.items⟩
  · cases e
theorem vals_ok {x : V} {u : W} {l : List V} (d : Cn κ h x u) (e : vvals x = some l) : ∃ ws, MP.valsD u h = some (ws, lkOf u) ∧ DVs κ h l ws := by
  unfold vvals at e
  split at e
  · obtain ⟨a, us, rfl, r1, _, d⟩ := d
    obtain ⟨c, e⟩ := guardO_some e; cases e
    exact ⟨_, by simp only [MP.valsD, r1, MP.dVals, lkOf, (flat_all d c).1, if_true], d.vals⟩
  · cases e
theorem map_dv {α : Type} {f : α → V} {g : α → W} (e : ∀ x, DV κ h (f x) (g x)) (l : List α) : DVs κ h (l.map f) (l.map g) := by
  induction l with
  | nil => exact .nil
  | cons x l ih => exact .cons (e x) ih
theorem rng1_ok {x : V} {u : W} {l : List V} (d : Cn κ h x u) (e : vrng1 x = some l) : ∃ ws, MP.rng1 u = some ws ∧ DVs κ h l ws := by
  unfold vrng1 at e
  split at e
  · simp only [Cn, DV] at d; subst d
    split at e
    · rename_i c; cases e
      exact ⟨MP.rangeW 0 _, by simp only [MP.rng1, c, if_pos], map_dv (fun k => by simp [DV]) _⟩
    · cases e
  · cases e
theorem rng2_ok {x y : V} {u v : W} {l : List V} (d : Cn κ h x u) (d' : Cn κ h y v) (e : vrng2 x y = some l) : ∃ ws, MP.rng2 u v = some ws ∧ DVs κ h l ws := by
  unfold vrng2 at e
  split at e
  · simp only [Cn, DV] at d d'; subst d; subst d'
    split at e
    · rename_i c; cases e
      exact ⟨MP.rangeW _ _, by simp only [MP.rng2, c, if_pos], map_dv (fun k => by simp [DV]) _⟩
    · cases e
  · cases e
theorem rng3_ok {x y z : V} {u v w : W} {l : List V} (d : Cn κ h x u) (d' : Cn κ h y v) (d2 : Cn κ h z w) (e : vrng3 x y z = some l) : ∃ ws, MP.rng3 u v w = some ws ∧ DVs κ h l ws := by
  unfold vrng3 at e
  split at e
  · simp only [Cn, DV] at d d' d2; subst d; subst d'; subst d2
    split at e
    · rename_i c; cases e
      exact ⟨MP.rangeS _ _ _, by simp only [MP.rng3, c, if_pos], map_dv (fun k => by simp [DV]) _⟩
    · cases e
  · cases e
theorem tup2_dv {a b : V} {u v : W} (d : DV κ h a u) (d' : DV κ h b v) : DV κ h (.tup [a, b]) (.tup [u, v]) := by unfold DV; exact ⟨_, rfl, .cons d (.one d')⟩
theorem enum_ok' : ∀ {l : List V} {ws : List W} (n : Nat), DVs κ h l ws → DVs κ h ((l.zipIdx n).map fun p => .tup [.int ((p.2 : Nat) : Int), p.1]) ((ws.zipIdx n).map fun p => .tup [.int ((p.2 : Nat) : Int), p.1])
  | [], ws, n, d => by rw [d.nil_inv]; exact .nil
  | x :: l, ws, n, d => by
    obtain ⟨w, r, rfl, d1, d2⟩ := d.cons_inv
    exact .cons (tup2_dv (by simp [DV]) d1) (enum_ok' (n + 1) d2)
theorem enum_ok {l : List V} {ws : List W} (d : DVs κ h l ws) : DVs κ h (enumV l) (MP.enumW ws) := enum_ok' 0 d
theorem zip_ok : ∀ {l l' : List V} {ws ws' : List W}, DVs κ h l ws → DVs κ h l' ws' → DVs κ h (zipV l l') ((ws.zip ws').map fun z => .tup [z.1, z.2])
  | [], l', ws, ws', d, d' => by rw [d.nil_inv]; exact .nil
  | x :: l, [], ws, ws', d, d' => by
    obtain ⟨w, r, rfl, d1, d2⟩ := d.cons_inv
    rw [d'.nil_inv]; exact .nil
  | x :: l, y :: l', ws, ws', d, d' => by
    obtain ⟨w, r, rfl, d1, d2⟩ := d.cons_inv
    obtain ⟨w', r', rfl, d1', d2'⟩ := d'.cons_inv
    exact .cons (tup2_dv d1 d1') (zip_ok d2 d2')
theorem zip3_ok : ∀ {l l' l2 : List V} {ws ws' ws2 : List W}, DVs κ h l ws → DVs κ h l' ws' → DVs κ h l2 ws2 → DVs κ h (zip3V l l' l2) ((ws.zip (ws'.zip ws2)).map fun z => .tup [z.1, z.2.1, z.2.2])
  | [], l', l2, ws, ws', ws2, d, d', d2 => by rw [d.nil_inv]; exact .nil
  | x :: l, [], l2, ws, ws', ws2, d, d', d2 => by
    obtain ⟨w, r, rfl, d1, d3⟩ := d.cons_inv
    rw [d'.nil_inv]; exact .nil
  | x :: l, y :: l', [], ws, ws', ws2, d, d', d2 => by
    obtain ⟨w, r, rfl, d1, d3⟩ := d.cons_inv
    obtain ⟨w', r', rfl, d1', d3'⟩ := d'.cons_inv
    rw [d2.nil_inv]; exact .nil
  | x :: l, y :: l', z :: l2, ws, ws', ws2, d, d', d2 => by
    obtain ⟨w, r, rfl, d1, d3⟩ := d.cons_inv
    obtain ⟨w', r', rfl, d1', d3'⟩ := d'.cons_inv
    obtain ⟨w2, r2, rfl, d12, d32⟩ := d2.cons_inv
    exact .cons (by unfold DV; exact ⟨_, rfl, .cons d1 (.cons d1' (.one d12))⟩) (zip3_ok d3 d3' d32)
/-! ### order -/
theorem tws_map : ∀ l : List V, tws l = l.map tw
  | [] => rfl
  | x :: l => by simp [tws_map l]
theorem cfs_all : ∀ l : List V, cfs l = l.all cf
  | [] => rfl
  | x :: l => by simp [cfs_all l]
theorem wltOk_cf {xs : List V} (e : wltOkV xs = true) : ∀ x ∈ xs, cf x = true := by
  unfold wltOkV at e
  rw [Bool.and_eq_true, cfs_all] at e
  exact fun x hx => List.all_eq_true.mp e.1 x hx
theorem wleV_tw {x y : V} (cx : cf x = true) (cy : cf y = true) : wleV x y = MP.wle (tw x) (tw y) := by
  unfold wleV MP.wle wltV
  rw [cx, cy]; rfl
theorem wltOk_tw {xs : List V} (e : wltOkV xs = true) : MP.wltOk (tws xs) = true := by
  unfold wltOkV at e
  rw [Bool.and_eq_true] at e
  exact e.2
theorem sort_ok {xs zs : List V} {ws : List W} (d : DVs κ h xs ws) (e : sortV xs = some zs) : ∃ us, MP.sortW ws = some us ∧ DVs κ h zs us := by
  unfold sortV at e
  simp only [MP.msort_eq] at e
  split at e
  · rename_i c
    cases e
    have cc := wltOk_cf c
    have cs : cfs xs = true := by rw [cfs_all]; exact List.all_eq_true.mpr cc
    rw [d.tw cs]
    refine ⟨tws (xs.mergeSort wleV), ?_, tws_dv ?_⟩
    · unfold MP.sortW
      simp only [MP.msort_eq]
      rw [wltOk_tw c, if_pos rfl, tws_map, tws_map]
      rw [List.map_mergeSort (r := wleV) (s := MP.wle) (f := tw) (fun a ha b hb => wleV_tw (cc a ha) (cc b hb))]
    · rw [cfs_all, List.all_eq_true]
      intro x hx
      exact cc x ((List.mergeSort_perm xs wleV).mem_iff.mp hx)
  · cases e
/-- two lists side by side -/
theorem DVp.zip : ∀ {xs : List (V × V)} {ws : List (W × W)}, DVp κ h xs ws → ∃ l : List ((V × V) × (W × W)), xs = l.map (·.1) ∧ ws = l.map (·.2) ∧ ∀ p ∈ l, DV κ h p.1.1 p.2.1 ∧ DV κ h p.1.2 p.2.2
  | [], ws, d => ⟨[], rfl, d.nil_inv, fun p hp => by cases hp⟩
  | (x, y) :: xs, ws, d => by
    obtain ⟨w, u, r, rfl, d1, d2, d3⟩ := d.cons_inv
    obtain ⟨l, rfl, rfl, hl⟩ := DVp.zip d3
    exact ⟨((x, y), (w, u)) :: l, rfl, rfl, fun p hp => by
      rcases List.mem_cons.mp hp with rfl | hp
      · exact ⟨d1, d2⟩
      · exact hl p hp⟩
theorem unzip_dvs : ∀ {l : List ((V × V) × (W × W))}, (∀ p ∈ l, DV κ h p.1.1 p.2.1 ∧ DV κ h p.1.2 p.2.2) → DVs κ h (l.map fun p => p.1.2) (l.map fun p => p.2.2)
  | [], _ => .nil
  | p :: l, e => .cons (e p List.mem_cons_self).2 (unzip_dvs fun q hq => e q (List.mem_cons_of_mem _ hq))
theorem sortP_ok {ps : List (V × V)} {ws : List (W × W)} {zs : List V} (d : DVp κ h ps ws) (e : sortPV ps = some zs) : ∃ us, MP.sortP ws = some us ∧ DVs κ h zs us := by
  unfold sortPV at e
  simp only [MP.msort_eq] at e
  split at e
  · rename_i c
    cases e
    have cc := wltOk_cf c
    obtain ⟨l, rfl, rfl, hl⟩ := d.zip
    have ck : ∀ p ∈ l, cf p.1.1 = true := fun p hp => cc _ (List.mem_map.mpr ⟨p.1, List.mem_map.mpr ⟨p, hp, rfl⟩, rfl⟩)
    have tk : ∀ p ∈ l, p.2.1 = tw p.1.1 := fun p hp => (hl p hp).1.tw (ck p hp)
    let le : ((V × V) × (W × W)) → ((V × V) × (W × W)) → Bool := fun p q => wleV p.1.1 q.1.1
    have e1 : (l.mergeSort le).map (·.1) = (l.map (·.1)).mergeSort fun p q => wleV p.1 q.1 := List.map_mergeSort fun a _ b _ => rfl
    have e2 : (l.mergeSort le).map (·.2) = (l.map (·.2)).mergeSort fun p q => MP.wle p.1 q.1 := List.map_mergeSort fun a ha b hb => by
      rw [tk a ha, tk b hb]; exact wleV_tw (ck a ha) (ck b hb)
    have hm : ∀ p ∈ l.mergeSort le, DV κ h p.1.1 p.2.1 ∧ DV κ h p.1.2 p.2.2 := fun p hp => hl p ((List.mergeSort_perm l le).mem_iff.mp hp)
    refine ⟨(l.mergeSort le).map (fun p => p.2.2), ?_, ?_⟩
    · unfold MP.sortP
      simp only [MP.msort_eq]
      have : (l.map (·.2)).map (·.1) = tws ((l.map (·.1)).map (·.1)) := by
        rw [tws_map]
        simp only [List.map_map]
        exact List.map_congr_left fun p hp => tk p hp
      rw [this, wltOk_tw c, if_pos rfl, ← e2]
      simp only [List.map_map]; rfl
    · rw [← e1]
      simp only [List.map_map]
      exact unzip_dvs hm
  · cases e
theorem minP_ok {ps : List (V × V)} {ws : List (W × W)} {z : V × V} (d : DVp κ h ps ws) (e : minPV ps = some z) : ∃ u, MP.minP ws = some u ∧ DV κ h z.1 u.1 ∧ DV κ h z.2 u.2 := by
  have gen : ∀ {r : List (V × V)} {rs : List (W × W)} {m : V × V} {mw : W × W}, DVp κ h r rs → DV κ h m.1 mw.1 → DV κ h m.2 mw.2 →
      r.foldl (fun m q => m.bind fun m => (wltV q.1 m.1).map fun b => if b then q else m) (some m) = some z →
      ∃ u, rs.foldl (fun m q => m.bind fun m => (MP.wlt q.1 m.1).map fun b => if b then q else m) (some mw) = some u ∧ DV κ h z.1 u.1 ∧ DV κ h z.2 u.2 := by
    intro r
    induction r with
    | nil => intro rs m mw d d1 d2 e; rw [d.nil_inv]; cases e; exact ⟨mw, rfl, d1, d2⟩
    | cons q r ih =>
      intro rs m mw d d1 d2 e
      obtain ⟨x, y⟩ := q
      obtain ⟨w, u, rs, rfl, d3, d4, d5⟩ := d.cons_inv
      rw [List.foldl_cons] at e ⊢
      simp only [Option.bind_some] at e ⊢
      cases hb : wltV x m.1 with
      | none =>
        rw [hb] at e
        simp only [Option.map_none] at e
        exfalso
        have : ∀ l : List (V × V), l.foldl (fun (m : Option (V × V)) q => m.bind fun m => (wltV q.1 m.1).map fun b => if b then q else m) none = none := by
          intro l; induction l with
          | nil => rfl
          | cons a l ih => simpa using ih
        rw [this] at e; cases e
      | some b =>
        rw [hb] at e
        rw [wlt_ok d3.cn d1.cn hb]
        simp only [Option.map_some] at e ⊢
        cases b with
        | true => exact ih d5 d3 d4 e
        | false => exact ih d5 d1 d2 e
  cases ps with
  | nil => cases e
  | cons p r =>
    obtain ⟨x, y⟩ := p
    have e : (if wltOkV (((x, y) :: r).map (·.1)) = true then _ else none) = some z := e
    by_cases c : wltOkV (((x, y) :: r).map (·.1)) = true
    · rw [if_pos c] at e
      obtain ⟨l, e1, rfl, hl⟩ := d.zip
      have cc := wltOk_cf c
      have : (l.map (·.2)).map (·.1) = tws (((x, y) :: r).map (·.1)) := by
        rw [tws_map, e1]
        simp only [List.map_map]
        exact List.map_congr_left fun p hp => (hl p hp).1.tw (cc _ (by rw [e1]; exact List.mem_map.mpr ⟨p.1, List.mem_map.mpr ⟨p, hp, rfl⟩, rfl⟩))
      have c2 := wltOk_tw c
      rw [← this] at c2
      obtain ⟨w, u, rs, e2, d3, d4, d5⟩ := d.cons_inv
      rw [e2] at c2 ⊢
      obtain ⟨z', g1, g2⟩ := gen (m := (x, y)) (mw := (w, u)) d5 d3 d4 e
      refine ⟨z', ?_, g2⟩
      show (if MP.wltOk (((w, u) :: rs).map (·.1)) = true then _ else none) = some z'
      rw [if_pos c2]
      exact g1
    · rw [if_neg c] at e; cases e
/-! ### built-in functions -/
theorem strs_ok : ∀ {l : List V} {ws : List W} {is : List (List Nat)}, DVs κ h l ws → vstrs l = some is → MP.strsV ws = some is
  | [], ws, is, d, e => by rw [d.nil_inv]; exact e
  | x :: l, ws, is, d, e => by
    obtain ⟨w, r, rfl, d1, d2⟩ := d.cons_inv
    cases x <;> simp only [vstrs] at e <;> (try (cases e; done))
    simp only [DV] at d1; subst d1
    simp only [Option.map_eq_some_iff] at e
    obtain ⟨js, e1, rfl⟩ := e
    unfold MP.strsV; rw [strs_ok d2 e1]; rfl
theorem bls_ok : ∀ {l : List V} {ws : List W} {is : List Bool}, DVs κ h l ws → vbls l = some is → MP.bls ws = some is
  | [], ws, is, d, e => by rw [d.nil_inv]; exact e
  | x :: l, ws, is, d, e => by
    obtain ⟨w, r, rfl, d1, d2⟩ := d.cons_inv
    cases x <;> simp only [vbls] at e <;> (try (cases e; done))
    simp only [DV] at d1; subst d1
    simp only [Option.map_eq_some_iff] at e
    obtain ⟨js, e1, rfl⟩ := e
    unfold MP.bls; rw [bls_ok d2 e1]; rfl
theorem len_ok {x : V} {u : W} {n : Nat} (d : Cn κ h x u) (e : vlen x = some n) : MP.lenW u h = some n := by
  unfold vlen at e
  split at e
  · simp only [Cn, DV] at d; subst d; exact e
  · simp only [Cn, DV] at d; obtain ⟨us, rfl, d⟩ := d; cases e; simp [MP.lenW, d.len]
  · obtain ⟨a, us, rfl, r1, d⟩ := d; cases e; simp [MP.lenW, r1, MP.lenO, d.len]
  · obtain ⟨a, us, rfl, r1, _, d⟩ := d; cases e; simp [MP.lenW, r1, MP.lenO, d.len]
  · cases e
theorem seq_ok {x : V} {u : W} {l : List V} (d : Cn κ h x u) (e : vseq x = some l) : ∃ ws, MP.seqV u h = some ws ∧ DVs κ h l ws := by
  unfold vseq at e
  split at e
  · simp only [Cn, DV] at d; obtain ⟨us, rfl, d⟩ := d; cases e; exact ⟨us, rfl, d⟩
  · obtain ⟨a, us, rfl, r1, d⟩ := d; cases e; exact ⟨us, by simp only [MP.seqV, r1, MP.seqO], d⟩
  · obtain ⟨a, us, rfl, r1, _, d⟩ := d; cases e; exact ⟨us.map (·.1), by simp only [MP.seqV, r1, MP.seqO], d.keys⟩
  · cases e
theorem lot_ok {x : V} {u : W} {l : List V} (d : Cn κ h x u) (e : vlot x = some l) : ∃ ws, MP.lotV u h = some ws ∧ DVs κ h l ws := by
  unfold vlot at e
  split at e
  · simp only [Cn, DV] at d; obtain ⟨us, rfl, d⟩ := d; cases e; exact ⟨us, rfl, d⟩
  · obtain ⟨a, us, rfl, r1, d⟩ := d; cases e; exact ⟨us, by simp only [MP.lotV, r1], d⟩
  · cases e
theorem lst_ok {x : V} {u : W} {l : List V} (d : Cn κ h x u) (e : vlst x = some l) : ∃ ws, MP.lstV u h = some ws ∧ DVs κ h l ws := by
  unfold vlst at e
  split at e
  · obtain ⟨a, us, rfl, r1, d⟩ := d; cases e; exact ⟨us, by simp only [MP.lstV, r1], d⟩
  · cases e
theorem keqb_tw : ∀ {x y : V} {u v : W}, DV κ h x u → DV κ h y v → MP.keqb u v = MP.keqb (tw x) (tw y) := by
  have two : (∀ x : V, ∀ (y : V) (u v : W), DV κ h x u → DV κ h y v → MP.keqb u v = MP.keqb (tw x) (tw y)) ∧ (∀ xs : List V, ∀ (ys : List V) (us vs : List W), DVs κ h xs us → DVs κ h ys vs → MP.keqbs us vs = MP.keqbs (tws xs) (tws ys)) := by
    have key : ∀ n : Nat, (∀ x : V, sizeOf x < n → ∀ (y : V) (u v : W), DV κ h x u → DV κ h y v → MP.keqb u v = MP.keqb (tw x) (tw y)) ∧ (∀ xs : List V, sizeOf xs < n → ∀ (ys : List V) (us vs : List W), DVs κ h xs us → DVs κ h ys vs → MP.keqbs us vs = MP.keqbs (tws xs) (tws ys)) := by
      intro n
      induction n with
      | zero => exact ⟨fun x hx => absurd hx (Nat.not_lt_zero _), fun x hx => absurd hx (Nat.not_lt_zero _)⟩
      | succ n ih =>
        refine ⟨fun x hx y u v d d' => ?_, fun xs hx ys us vs d d' => ?_⟩
        · cases x with
          | tup xs =>
            unfold DV at d
            obtain ⟨us, rfl, d⟩ := d
            cases y with
            | tup ys =>
              unfold DV at d'
              obtain ⟨vs, rfl, d'⟩ := d'
              simp only [tw, MP.keqb]
              exact ih.2 xs (by simp at hx; omega) ys us vs d d'
            | _ =>
              simp only [DV] at d'
              first | (subst d'; simp [MP.keqb]) | (obtain ⟨_, rfl, _⟩ := d'; simp [MP.keqb]) | (obtain ⟨_, _, rfl, _⟩ := d'; simp [MP.keqb])
          | _ =>
            simp only [DV] at d
            first
            | (subst d; cases y <;> simp only [DV] at d' <;> first | (subst d'; simp [MP.keqb]; done) | (obtain ⟨_, rfl, _⟩ := d'; simp [MP.keqb]; done) | (obtain ⟨_, _, rfl, _⟩ := d'; simp [MP.keqb]; done))
            | (obtain ⟨_, rfl, _⟩ := d; simp [MP.keqb]; done)
            | (obtain ⟨_, _, rfl, _⟩ := d; simp [MP.keqb]; done)
        · cases xs with
          | nil =>
            rw [d.nil_inv]
            cases ys with
            | nil => rw [d'.nil_inv]; simp [MP.keqbs]
            | cons y ys => obtain ⟨w, r, rfl, _, _⟩ := d'.cons_inv; simp [MP.keqbs]
          | cons x xs =>
            obtain ⟨w, r, rfl, d1, d2⟩ := d.cons_inv
            cases ys with
            | nil => rw [d'.nil_inv]; simp [MP.keqbs]
            | cons y ys =>
              obtain ⟨w', r', rfl, d1', d2'⟩ := d'.cons_inv
              simp only [tws, MP.keqbs]
              simp at hx
              rw [ih.1 x (by omega) y w w' d1 d1', ih.2 xs (by omega) ys r r' d2 d2']
    exact ⟨fun x => (key (sizeOf x + 1)).1 x (by omega), fun x => (key (sizeOf x + 1)).2 x (by omega)⟩
  intro x y u v d d'
  exact two.1 x y u v d d'
theorem once_ok : ∀ {l : List V} {ws : List W}, DVs κ h l ws → (MP.once ws).length = (MP.once (tws l)).length
  | [], ws, d => by rw [d.nil_inv]; rfl
  | x :: l, ws, d => by
    obtain ⟨w, r, rfl, d1, d2⟩ := d.cons_inv
    have ih := once_ok d2
    have any : r.any (fun y => MP.keqb w y) = (tws l).any (fun y => MP.keqb (tw x) y) := by
      clear ih d
      induction l generalizing r with
      | nil => rw [d2.nil_inv]; rfl
      | cons y l ihl =>
        obtain ⟨w', r', rfl, d1', d2'⟩ := d2.cons_inv
        simp only [List.any_cons, tws]
        rw [keqb_tw d1 d1', ihl _ d2']
    simp only [tws]
    unfold MP.once
    rw [any]
    split
    · exact ih
    · simp [ih]
theorem blt_ok {b : Blt} {xs : List V} {ws : List W} {r : RV} (d : Cns κ h xs ws) (e : vblt b xs = some r) : PR κ h r (MP.blt b ws h) := by
  unfold vblt at e
  split at e
  all_goals (try simp only [Cns] at d)
  all_goals first
    | (obtain ⟨w, _, rfl, d, rfl⟩ := d)
    | (obtain ⟨w, _, rfl, d, w', _, rfl, d', rfl⟩ := d)
    | skip
  all_goals first
    | (simp only [Cn, DV] at d; subst d; cases e; first | exact PR.int | exact PR.str)
    | (simp only [Cn, DV] at d d'; subst d; subst d'; cases e; exact PR.int)
    | skip
  · simp only [Option.map_eq_some_iff] at e
    obtain ⟨n, e1, rfl⟩ := e
    simp only [MP.blt, len_ok d e1]; exact PR.int
  · simp only [Cn, DV] at d; subst d
    obtain ⟨c, e⟩ := guardO_some e; cases e
    simp only [MP.blt]; rw [c]; exact PR.str
  · simp only [Option.map_eq_some_iff] at e
    obtain ⟨l, e1, rfl⟩ := e
    obtain ⟨us, e2, e3⟩ := seq_ok d e1
    simp only [MP.blt, e2]
    exact ⟨_, rfl, _, rfl, e3⟩
  · simp only [Option.map_eq_some_iff] at e
    obtain ⟨l, e1, rfl⟩ := e
    obtain ⟨us, e2, e3⟩ := lot_ok d e1
    simp only [MP.blt, e2]
    exact ⟨_, rfl, by unfold DV; exact ⟨_, rfl, e3⟩⟩
  · obtain ⟨a, us, rfl, r1, n, d⟩ := d
    obtain ⟨fl, e⟩ := guardO_some e; cases e
    simp only [MP.blt, r1, MP.dictO, (flat_all d fl).1]
    exact ⟨_, rfl, _, rfl, n, d⟩
  · simp only [Option.bind_eq_some_iff, Option.map_eq_some_iff] at e
    obtain ⟨l, e1, l2, e2, rfl⟩ := e
    obtain ⟨us, e3, e4⟩ := seq_ok d e1
    obtain ⟨vs, e5, e6⟩ := sort_ok e4 e2
    simp only [MP.blt, e3, MP.thenO, e5]
    exact ⟨_, rfl, _, rfl, e6⟩
  · simp only [Option.bind_eq_some_iff, Option.map_eq_some_iff] at e
    obtain ⟨l, e1, l2, e2, i, e3, rfl⟩ := e
    obtain ⟨us, e4, e5⟩ := lst_ok d e1
    simp only [MP.blt, e4, MP.thenO, ints_ok e5 e2, Option.bind_some, e3, Option.map_some]
    exact PR.int
  · simp only [Option.bind_eq_some_iff, Option.map_eq_some_iff] at e
    obtain ⟨l, e1, l2, e2, i, e3, rfl⟩ := e
    obtain ⟨us, e4, e5⟩ := lst_ok d e1
    simp only [MP.blt, e4, MP.thenO, ints_ok e5 e2, Option.bind_some, e3, Option.map_some]
    exact PR.int
  · simp only [Option.bind_eq_some_iff, Option.map_eq_some_iff] at e
    obtain ⟨l, e1, l2, e2, rfl⟩ := e
    obtain ⟨us, e4, e5⟩ := lst_ok d e1
    simp only [MP.blt, e4, MP.thenO, ints_ok e5 e2, Option.map_some]
    exact PR.int
  · simp only [Option.bind_eq_some_iff, Option.map_eq_some_iff] at e
    obtain ⟨l, e1, l2, e2, rfl⟩ := e
    obtain ⟨us, e4, e5⟩ := walk_ok d e1
    simp only [MP.blt, e4, MP.thenO, bls_ok e5 e2, Option.map_some]
    exact PR.bl
  · simp only [Option.map_eq_some_iff] at e
    obtain ⟨l, e1, rfl⟩ := e
    obtain ⟨us, e4, e5⟩ := walk_ok d e1
    simp only [MP.blt, e4, MP.thenO, once_ok e5]
    exact PR.int
  · simp only [Cn, DV] at d d'; subst d; subst d'
    obtain ⟨c, e⟩ := guardO_some e; cases e
    simp only [MP.blt]; rw [c]
    exact ⟨_, rfl, tup2_dv (by simp [DV]) (by simp [DV])⟩
  · cases e
theorem setIx_ok {lk : List Nat} {x y v z : V} {a : Nat} {wy wv : W} (d : Cn κ h x (.ref a)) (dy : DV κ h y wy) (dv : DV κ h v wv) (e : vsetIx x y v = some z) :
    ∃ o, MP.setIx lk (.ref a) wy wv h = MP.put lk a o h ∧ CR κ h z o := by
  unfold vsetIx at e
  split at e
  · obtain ⟨a', us, q, r1, d⟩ := d; cases q
    simp only [DV] at dy; subst dy
    simp only [Option.map_eq_some_iff] at e
    obtain ⟨j, e1, rfl⟩ := e
    refine ⟨.lst (us.set j wv), ?_, _, rfl, d.set j dv⟩
    simp only [MP.setIx, r1, MP.setIxO]
    rw [d.len, e1]; rfl
  · obtain ⟨a', us, q, r1, n, d⟩ := d; cases q
    obtain ⟨c, e⟩ := guardO_some e; cases e
    rw [Bool.and_eq_true] at c
    obtain ⟨k1, k2, k3⟩ := keyIn_ok dy d c.1
    have ck : cf y = true := by
      refine kind_cf fun hk => ?_
      have := c.1; unfold keyInV at this; rw [hk] at this; simp at this
    refine ⟨.dct (MP.dput wy wv us), ?_, _, rfl, dput_nodup n, ?_⟩
    · simp only [MP.setIx, r1, MP.setIxO]
      rw [k1, d.len]
      simp only [Bool.true_and, c.2, MP.guardR_true]
    · rw [k2]; exact dput_ok dv ck d k3
  · cases e
end BP

namespace BP
open MP (W O Hp Env Exn R rd BinOp CmpOp Blt Ty)
variable {κ : K} {h : Hp}
def MRok (κ : K) (h : Hp) (lk : List Nat) (u : W) (mr : MR) (m : R W) : Prop := match mr with
  | .pure r => PR κ h r m
  | .mut v r => ∃ a o w, u = .ref a ∧ m = MP.putV lk a o w h ∧ CR κ h v o ∧ DV κ h r w
theorem Cns.nil_inv {ws : List W} (e : Cns κ h [] ws) : ws = [] := e
theorem Cns.one_inv {x : V} {ws : List W} (e : Cns κ h [x] ws) : ∃ w, ws = [w] ∧ Cn κ h x w := by
  obtain ⟨w, r, rfl, e1, e2⟩ := e; exact ⟨w, by rw [Cns.nil_inv e2], e1⟩
theorem DVs.one_inv {x : V} {ws : List W} (e : DVs κ h [x] ws) : ∃ w, ws = [w] ∧ DV κ h x w := by
  obtain ⟨w, r, rfl, e1, e2⟩ := e.cons_inv; exact ⟨w, by rw [e2.nil_inv], e1⟩
theorem DVs.two_inv {x y : V} {ws : List W} (e : DVs κ h [x, y] ws) : ∃ w u, ws = [w, u] ∧ DV κ h x w ∧ DV κ h y u := by
  obtain ⟨w, r, rfl, e1, e2⟩ := e.cons_inv
  obtain ⟨u, rfl, e3⟩ := e2.one_inv; exact ⟨w, u, rfl, e1, e3⟩
theorem part_ok' (c : Nat) (s : List Nat) : DV κ h (partV c s) (MP.partitionS c s) := by
  unfold partV MP.partitionS
  simp only
  split <;> (unfold DV; exact ⟨_, rfl, .cons (by simp [DV]) (.cons (by simp [DV]) (.one (by simp [DV])))⟩)
theorem rpart_ok (c : Nat) (s : List Nat) : DV κ h (rpartV c s) (MP.rpartitionS c s) := by
  unfold rpartV MP.rpartitionS
  simp only
  split <;> (unfold DV; exact ⟨_, rfl, .cons (by simp [DV]) (.cons (by simp [DV]) (.one (by simp [DV])))⟩)
theorem strsm_dv (l : List (List Nat)) : DVs κ h (l.map .str) (l.map .str) := map_dv (fun c => by simp [DV]) l
theorem vmS_ok {lk : List Nat} {s : List Nat} {m : String} {ys : List V} {ws : List W} {mr : MR} (c : Cns κ h ys ws) (hs : m ∉ readM → DVs κ h ys ws) (e : vmS s m ys = some mr) :
    MRok κ h lk (.str s) mr (MP.bmS m s ws h) := by
  unfold vmS at e
  split at e
  · obtain ⟨w, rfl, c1⟩ := c.one_inv
    simp only [Option.bind_eq_some_iff] at e
    obtain ⟨p, e1, zs, e2, e3⟩ := e
    obtain ⟨g, e3⟩ := guardO_some e3; cases e3
    obtain ⟨us, e4, e5⟩ := lot_ok c1 e1
    simp only [MP.bmS, e4, MP.thenO, strs_ok e5 e2]
    exact PR.g g rfl (by simp [DV])
  · obtain ⟨w, rfl, d⟩ := (hs (by decide)).one_inv
    simp only [DV] at d; subst d; cases e
    exact ⟨_, rfl, _, rfl, strsm_dv _⟩
  · obtain ⟨w, rfl, d⟩ := (hs (by decide)).one_inv
    simp only [DV] at d; subst d; cases e
    exact ⟨_, rfl, part_ok' _ _⟩
  · obtain ⟨w, rfl, d⟩ := (hs (by decide)).one_inv
    simp only [DV] at d; subst d; cases e
    exact ⟨_, rfl, rpart_ok _ _⟩
  · obtain ⟨w, rfl, d⟩ := (hs (by decide)).one_inv
    simp only [DV] at d; subst d
    simp only [Option.map_eq_some_iff] at e
    obtain ⟨n, e1, rfl⟩ := e
    simp only [MP.bmS, e1]
    exact PR.int
  · cases e
theorem vmI_ok {lk : List Nat} {i : Int} {m : String} {ys : List V} {ws : List W} {mr : MR} (c : Cns κ h ys ws) (e : vmI i m ys = some mr) :
    MRok κ h lk (.int i) mr (MP.bmI i m ws h) := by
  unfold vmI at e
  split at e
  · rw [c.nil_inv]; cases e; exact PR.int
  · cases e
theorem findIdx_ok {y : V} {w : W} (d : DV κ h y w) : ∀ {xs : List V} {ws : List W}, DVs κ h xs ws → ws.findIdx? (fun z => MP.keqb z w) = xs.findIdx? (fun z => MP.keqb (tw z) (tw y))
  | [], ws, e => by rw [e.nil_inv]; rfl
  | x :: xs, ws, e => by
    obtain ⟨u, r, rfl, e1, e2⟩ := e.cons_inv
    simp only [List.findIdx?_cons]
    rw [keqb_tw e1 d, findIdx_ok d e2]
theorem sameF_tw {x y : V} {u w : W} (d : DV κ h x u) (d' : DV κ h y w) : MP.sameF u w = MP.sameF (tw x) (tw y) := by
  cases x <;> cases y <;> simp only [DV] at d d' <;> simp only [tw] <;> first
    | (subst d; subst d'; rfl)
    | (subst d; obtain ⟨_, rfl, _⟩ := d'; rfl)
    | (subst d'; obtain ⟨_, rfl, _⟩ := d; rfl)
    | (obtain ⟨_, rfl, _⟩ := d; obtain ⟨_, rfl, _⟩ := d'; rfl)
    | (subst d; obtain ⟨_, _, rfl, _⟩ := d'; rfl)
    | (subst d'; obtain ⟨_, _, rfl, _⟩ := d; rfl)
    | (obtain ⟨_, _, rfl, _⟩ := d; obtain ⟨_, _, rfl, _⟩ := d'; rfl)
    | (obtain ⟨_, _, rfl, _⟩ := d; obtain ⟨_, rfl, _⟩ := d'; rfl)
    | (obtain ⟨_, rfl, _⟩ := d; obtain ⟨_, _, rfl, _⟩ := d'; rfl)
theorem sameF_all {y : V} {w : W} (d : DV κ h y w) : ∀ {xs : List V} {ws : List W}, DVs κ h xs ws → (ws.all fun z => MP.sameF z w) = xs.all fun z => MP.sameF (tw z) (tw y)
  | [], ws, e => by rw [e.nil_inv]; rfl
  | x :: xs, ws, e => by
    obtain ⟨u, r, rfl, e1, e2⟩ := e.cons_inv
    simp only [List.all_cons]
    rw [sameF_tw e1 d, sameF_all d e2]
theorem non_dv : DV κ h .non .non := by simp [DV]
theorem put_g {b : Bool} {lk : List Nat} {a : Nat} {o : O} {w : W} {m : R W} (c : b = true) (e : m = MP.guardR b (MP.putV lk a o w h)) : m = MP.putV lk a o w h := by rw [e, c]; rfl
theorem vmL_ok {lk : List Nat} {a : Nat} {xs : List V} {us : List W} (r1 : rd h a = some (.lst us)) (d : DVs κ h xs us) {m : String} {ys : List V} {ws : List W} {mr : MR} (c : Cns κ h ys ws) (hs : m ∉ readM → DVs κ h ys ws) (e : vmL xs m ys = some mr) :
    MRok κ h lk (.ref a) mr (MP.bmL lk a us m ws h) := by
  unfold vmL at e
  split at e
  · obtain ⟨w, rfl, d'⟩ := (hs (by decide)).one_inv
    obtain ⟨g, e⟩ := guardO_some e; cases e
    rw [← d.len] at g
    exact ⟨a, _, _, rfl, put_g g rfl, ⟨_, rfl, d.app (.one d')⟩, non_dv⟩
  · obtain ⟨w, rfl, c1⟩ := c.one_inv
    obtain ⟨a', vs, rfl, r2, d'⟩ := c1
    obtain ⟨g, e⟩ := guardO_some e; cases e
    rw [← d.len, ← d'.len] at g
    refine ⟨a, .lst (us ++ vs), .non, rfl, ?_, ⟨_, rfl, d.app d'⟩, non_dv⟩
    simp only [MP.bmL, r2, MP.extO]
    rw [g]; rfl
  · rw [c.nil_inv]; cases e
    exact ⟨a, _, _, rfl, rfl, ⟨_, rfl, .nil⟩, non_dv⟩
  · rw [c.nil_inv]; cases e
    exact ⟨_, rfl, _, rfl, d⟩
  · rw [c.nil_inv]
    simp only [Option.map_eq_some_iff] at e
    obtain ⟨y, e1, rfl⟩ := e
    obtain ⟨w, e2, e3⟩ := d.getLast e1
    refine ⟨a, .lst us.dropLast, w, rfl, ?_, ⟨_, rfl, d.dropLast⟩, e3⟩
    simp only [MP.bmL, e2]; rfl
  · obtain ⟨w, rfl, d'⟩ := (hs (by decide)).one_inv
    simp only [DV] at d'; subst d'
    simp only [Option.bind_eq_some_iff, Option.map_eq_some_iff] at e
    obtain ⟨j, e1, y, e2, rfl⟩ := e
    obtain ⟨w, e3, e4⟩ := d.get_some e2
    refine ⟨a, .lst (us.eraseIdx j), w, rfl, ?_, ⟨_, rfl, d.erase j⟩, e4⟩
    simp only [MP.bmL]
    rw [d.len, e1]
    simp only [MP.thenO, e3]
  · obtain ⟨w, rfl, d'⟩ := (hs (by decide)).one_inv
    obtain ⟨c1, e⟩ := guardO_some e
    simp only [Option.map_eq_some_iff] at e
    obtain ⟨j, e1, rfl⟩ := e
    refine ⟨a, .lst (us.eraseIdx j), .non, rfl, ?_, ⟨_, rfl, d.erase j⟩, non_dv⟩
    simp only [MP.bmL]
    rw [sameF_all d' d, c1, findIdx_ok d' d, e1]; rfl
  · cases e
theorem keyIn_ok2 {k : V} {wk : W} (d : DV κ h k wk) {kvs : List (V × V)} {ws : List (W × W)} (dp : DVp κ h kvs ws) (e : keyInV k kvs = true) :
    MP.keyIn wk ws = true ∧ wk = tw k ∧ cf k = true ∧ (∀ p ∈ kvs, cf p.1 = true) := by
  obtain ⟨a, b, c⟩ := keyIn_ok d dp e
  refine ⟨a, b, kind_cf fun hk => ?_, c⟩
  unfold keyInV at e; rw [hk] at e; simp at e
theorem dget_ok2 {k : V} {wk : W} (d : DV κ h k wk) {kvs : List (V × V)} {ws : List (W × W)} (dp : DVp κ h kvs ws) (e : keyInV k kvs = true) :
    match dgetV k kvs with | some v => ∃ w, MP.dget wk ws = some w ∧ DV κ h v w | none => MP.dget wk ws = none := by
  obtain ⟨_, k2, _, k4⟩ := keyIn_ok2 d dp e
  rw [k2]; exact dget_ok dp k4
theorem allKeyIn {kvs zs : List (V × V)} {us vs : List (W × W)} (d : DVp κ h kvs us) (dz : DVp κ h zs vs) : ∀ {l : List (V × V)} {ls : List (W × W)}, DVp κ h l ls → l.all (fun p => keyInV p.1 kvs && keyInV p.1 zs) = true → ls.all (fun p => MP.keyIn p.1 us && MP.keyIn p.1 vs) = true ∧ ∀ p ∈ l, cf p.1 = true
  | [], ls, e, _ => by rw [e.nil_inv]; simp
  | (x, y) :: l, ls, e, c => by
    obtain ⟨w, u, r, rfl, e1, e2, e3⟩ := e.cons_inv
    rw [List.all_cons, Bool.and_eq_true, Bool.and_eq_true] at c
    obtain ⟨k1, _, cx, _⟩ := keyIn_ok2 e1 d c.1.1
    obtain ⟨k2, _, _, _⟩ := keyIn_ok2 e1 dz c.1.2
    obtain ⟨i1, i2⟩ := allKeyIn d dz e3 c.2
    rw [List.all_cons, k1, k2, i1]
    refine ⟨rfl, fun p hp => ?_⟩
    rcases List.mem_cons.mp hp with rfl | hp
    · exact cx
    · exact i2 p hp
theorem merge_ok {kvs zs : List (V × V)} {us vs : List (W × W)} (d : DVp κ h kvs us) (d' : DVp κ h zs vs) (e : zs.all (fun p => keyInV p.1 kvs && keyInV p.1 zs) = true) : DVp κ h (dmergeV kvs zs) (MP.dmerge us vs) := by
  have i2 := (allKeyIn d d' d' e).2
  cases zs with
  | nil => rw [d'.nil_inv]; exact d
  | cons p zs =>
    obtain ⟨w, u, r, rfl, e1, e2, e3⟩ := d'.cons_inv
    rw [List.all_cons, Bool.and_eq_true, Bool.and_eq_true] at e
    exact dmerge_ok d (keyIn_ok2 e1 d e.1.1).2.2.2 d' i2
theorem vmD_ok {lk : List Nat} {a : Nat} {xs : List (V × V)} {us : List (W × W)} (r1 : rd h a = some (.dct us)) (n : nodupK xs = true) (d : DVp κ h xs us) {m : String} {ys : List V} {ws : List W} {mr : MR} (c : Cns κ h ys ws) (hs : m ∉ readM → DVs κ h ys ws) (e : vmD xs m ys = some mr) :
    MRok κ h lk (.ref a) mr (MP.bmD lk a us m ws h) := by
  unfold vmD at e
  split at e
  · obtain ⟨w, rfl, d'⟩ := (hs (by decide)).one_inv
    obtain ⟨g, e⟩ := guardO_some e; cases e
    obtain ⟨k1, k2, k3, k4⟩ := keyIn_ok2 d' d g
    have q := dget_ok2 d' d g
    simp only [MP.bmD, k1]
    cases z : dgetV _ xs with
    | none => rw [z] at q; simp only at q; rw [q]; exact ⟨_, rfl, non_dv⟩
    | some v => rw [z] at q; simp only at q; obtain ⟨u, q1, q2⟩ := q; rw [q1]; exact ⟨_, rfl, q2⟩
  · obtain ⟨w, u, rfl, d', d2⟩ := (hs (by decide)).two_inv
    obtain ⟨g, e⟩ := guardO_some e; cases e
    obtain ⟨k1, k2, k3, k4⟩ := keyIn_ok2 d' d g
    have q := dget_ok2 d' d g
    simp only [MP.bmD, k1]
    cases z : dgetV _ xs with
    | none => rw [z] at q; simp only at q; rw [q]; exact ⟨_, rfl, d2⟩
    | some v => rw [z] at q; simp only at q; obtain ⟨u, q1, q2⟩ := q; rw [q1]; exact ⟨_, rfl, q2⟩
  · obtain ⟨w, rfl, d'⟩ := (hs (by decide)).one_inv
    obtain ⟨g, e⟩ := guardO_some e
    obtain ⟨k1, k2, k3, k4⟩ := keyIn_ok2 d' d g
    have q := dget_ok2 d' d g
    simp only [MP.bmD, k1]
    cases z : dgetV _ xs with
    | none => rw [z] at e; cases e
    | some v =>
      rw [z] at q e; simp only at q; obtain ⟨u, q1, q2⟩ := q; cases e; rw [q1]
      exact ⟨a, _, _, rfl, rfl, ⟨_, rfl, ddel_nodup n, by rw [k2]; exact ddel_ok d k4⟩, q2⟩
  · obtain ⟨w, u, rfl, d', d2⟩ := (hs (by decide)).two_inv
    obtain ⟨g, e⟩ := guardO_some e
    obtain ⟨k1, k2, k3, k4⟩ := keyIn_ok2 d' d g
    have q := dget_ok2 d' d g
    simp only [MP.bmD, k1]
    cases z : dgetV _ xs with
    | none => rw [z] at q e; simp only at q; cases e; rw [q]; exact ⟨_, rfl, d2⟩
    | some v =>
      rw [z] at q e; simp only at q; obtain ⟨u, q1, q2⟩ := q; cases e; rw [q1]
      exact ⟨a, _, _, rfl, rfl, ⟨_, rfl, ddel_nodup n, by rw [k2]; exact ddel_ok d k4⟩, q2⟩
  · obtain ⟨w, u, rfl, d', d2⟩ := (hs (by decide)).two_inv
    obtain ⟨g, e⟩ := guardO_some e; cases e
    rw [Bool.and_eq_true] at g
    obtain ⟨k1, k2, k3, k4⟩ := keyIn_ok2 d' d g.1
    have q := dget_ok2 d' d g.1
    rw [← d.len] at g
    simp only [MP.bmD, k1, g.2]
    cases z : dgetV _ xs with
    | none =>
      rw [z] at q; simp only at q; rw [q]
      exact ⟨a, _, _, rfl, rfl, ⟨_, rfl, dput_nodup n, by rw [k2]; exact dput_ok d2 k3 d k4⟩, d2⟩
    | some v =>
      rw [z] at q; simp only at q; obtain ⟨u, q1, q2⟩ := q; rw [q1]
      exact ⟨_, rfl, q2⟩
  · rw [c.nil_inv]
    obtain ⟨fl, e⟩ := guardO_some e; cases e
    simp only [MP.bmD, (flat_all d fl).1]
    exact ⟨_, rfl, _, rfl, n, d⟩
  · rw [c.nil_inv]; cases e
    exact ⟨a, _, _, rfl, rfl, ⟨_, rfl, rfl, .nil⟩, non_dv⟩
  · obtain ⟨w, rfl, c1⟩ := c.one_inv
    obtain ⟨a', vs, rfl, r2, n2, d'⟩ := c1
    obtain ⟨g, e⟩ := guardO_some e; cases e
    rw [Bool.and_eq_true] at g
    obtain ⟨i1, i2⟩ := allKeyIn d d' d' g.1
    have g2 := g.2
    rw [← d.len, ← d'.len] at g2
    have mrg := merge_ok d d' g.1
    refine ⟨a, .dct (MP.dmerge us vs), .non, rfl, ?_, ⟨_, rfl, dmerge_nodup n, mrg⟩, non_dv⟩
    simp only [MP.bmD, r2, MP.updO]
    rw [i1, g2]; rfl
  · cases e
theorem vm_ok {lk : List Nat} {x : V} {u : W} (d : Cn κ h x u) {m : String} {ys : List V} {ws : List W} {mr : MR} (c : Cns κ h ys ws) (hs : m ∉ readM → DVs κ h ys ws) (e : vm x m ys = some mr) :
    MRok κ h lk u mr (MP.bm lk u m ws h) := by
  unfold vm at e
  split at e
  · simp only [Cn, DV] at d; subst d; exact vmS_ok c hs e
  · simp only [Cn, DV] at d; subst d; exact vmI_ok c e
  · obtain ⟨a, us, rfl, r1, d⟩ := d
    simp only [MP.bm, r1, MP.bmO]
    exact vmL_ok r1 d c hs e
  · obtain ⟨a, us, rfl, r1, n, d⟩ := d
    simp only [MP.bm, r1, MP.bmO]
    exact vmD_ok r1 n d c hs e
  · cases e
end BP

namespace BP
open MP (W O Hp Env Exn R rd BinOp CmpOp Blt Ty Ex)
/-! ### both readings side by side -/
structure Inv (d : Nat) (lk : List Nat) (as : List W) (κ : K) (env : Env) (E : EB) (h : Hp) (H : HB) : Prop where
  e : EInv d lk as κ env E h
  b : HInv lk κ h H
def RR (lk : List Nat) (n0 : Nat → Prop) (κ : K) (env : Env) (h : Hp) (r : RV) (w : W) : Prop := match r with
  | .val v => DV κ h v w
  | .tmp v => ∃ a, w = .ref a ∧ κ a = .tmp ∧ n0 a ∧ a ∉ lk ∧ OwnC κ h v a
  | .pl (.sl i) => env[i]? = some (some w)
  | .pl (.fd b f) => ∃ a c gs, κ a = .box b ∧ rd h a = some (.ins c gs) ∧ gs.lookup f = some w
  | .pl (.cn _) => False
/-- what may wait for others -/
def WR (l : Bool) (κ : K) (env : Env) (h : Hp) (r : RV) (w : W) : Prop := match r with
  | .val v => DV κ h v w
  | .tmp _ => False
  | .pl (.sl i) => env[i]? = some (some w)
  | .pl (.fd b f) => l = true ∧ ∃ a c gs, κ a = .box b ∧ rd h a = some (.ins c gs) ∧ gs.lookup f = some w
  | .pl (.cn _) => False
def WT (lk : List Nat) (n0 : Nat → Prop) (l : Bool) (κ : K) (env : Env) (h : Hp) (r : RV) (w : W) : Prop := match r with
  | .tmp v => ∃ a, w = .ref a ∧ κ a = .tmp ∧ n0 a ∧ a ∉ lk ∧ OwnC κ h v a
  | r => WR l κ env h r w
section
variable {d : Nat} {lk : List Nat} {as : List W} {κ : K} {env : Env} {E : EB} {h : Hp} {H : HB}
theorem der_own {v : V} {a : Nat} (o : OwnC κ h v a) : der H v = v := by
  obtain ⟨_, _, o⟩ := o
  cases v <;> first | rfl | exact o.elim
theorem dv_cont (i : HInv lk κ h H) {v : V} {w : W} (e : DV κ h v w) : Cn κ h (der H v) w := by
  cases v <;> first | exact e.cn | skip
  rename_i b
  have e' := e
  unfold DV at e
  obtain ⟨a, rfl, k, hl⟩ := e
  obtain ⟨x, o, h1, h2, h3⟩ := i.box a b k
  simp only [der, h1]
  cases x with
  | ins c fs => exact e'.cn
  | con m v => exact h3.2.cn
theorem Cn.mono {κ' : K} {v : V} {w : W} (m : M κ κ' h h) (c : Cn κ h v w) : Cn κ' h v w := by
  cases v with
  | lst xs => obtain ⟨a, ws, e1, e2, e3⟩ := c; exact ⟨a, ws, e1, e2, e3.mono m⟩
  | dct xs => obtain ⟨a, ws, e1, e2, e4, e3⟩ := c; exact ⟨a, ws, e1, e2, e4, e3.mono m⟩
  | _ => exact DV.mono m c
theorem sl_cont (i : HInv lk κ h H) {l : Own} {s : Sl} {w : W} (e : SlR κ lk h l s w) : Cn κ h (der H s.v) w := by
  unfold SlR at e
  split at e
  · exact dv_cont i e
  · obtain ⟨a, rfl, _, _, o⟩ := e; rw [der_own o]; exact o.cn
  · obtain ⟨a, rfl, _, o⟩ := e; rw [der_own o]; exact o.cn
theorem fd_at (i : HInv lk κ h H) {b : Nat} {f : String} {w : W} (e : ∃ a c gs, κ a = .box b ∧ rd h a = some (.ins c gs) ∧ gs.lookup f = some w) {s : Sl} (es : fdS f H[b]? = some s) : SlR κ lk h (.fld b f) s w := by
  obtain ⟨a, c, gs, k, r1, r2⟩ := e
  obtain ⟨x, o, h1, h2, h3⟩ := i.box a b k
  rw [h1] at es
  rw [h2] at r1; cases r1
  cases x with
  | con m v => cases es
  | ins c' fs =>
    obtain ⟨_, gs', q, h3⟩ := h3
    cases q
    have := h3 f
    simp only [fdS] at es
    rw [es] at this
    obtain ⟨w', q1, q2⟩ := this
    rw [r2] at q1; cases q1
    exact q2
theorem cont_ok (i : Inv d lk as κ env E h H) {n0 : Nat → Prop} {r : RV} {w : W} (e : RR lk n0 κ env h r w) {v : V} (c : cont E H r = some v) : Cn κ h v w := by
  cases r with
  | val v => cases c; exact dv_cont i.b e
  | tmp v => cases c; obtain ⟨a, rfl, _, _, _, o⟩ := e; exact o.cn
  | pl p =>
    cases p with
    | cn b => exact e.elim
    | sl j =>
      simp only [cont, at_, Option.map_eq_some_iff] at c
      obtain ⟨s, c1, rfl⟩ := c
      obtain ⟨w', e1, e2, _⟩ := i.e.sl j s c1
      have e' : env[j]? = some (some w) := e
      rw [e'] at e1; cases e1
      exact sl_cont i.b e2
    | fd b f =>
      simp only [cont, at_, Option.map_eq_some_iff] at c
      obtain ⟨s, c1, rfl⟩ := c
      exact sl_cont i.b (fd_at i.b e c1)
theorem WR.rr {l : Bool} {n0 : Nat → Prop} {r : RV} {w : W} (e : WR l κ env h r w) : RR lk n0 κ env h r w := by
  cases r with
  | val v => exact e
  | tmp v => exact e.elim
  | pl p => cases p with
    | cn b => exact e.elim
    | sl j => exact e
    | fd b f => exact e.2
theorem WT.rr {l : Bool} {n0 : Nat → Prop} {r : RV} {w : W} (e : WT lk n0 l κ env h r w) : RR lk n0 κ env h r w := by
  cases r with
  | val v => exact e
  | tmp v => exact e
  | pl p => cases p with
    | cn b => exact e.elim
    | sl j => exact e
    | fd b f => exact e.2
/-- old cells hold what they held -/
def Frame (h h' : Hp) : Prop := h.length ≤ h'.length ∧ ∀ a, a < h.length → rd h' a = rd h a
theorem Frame.refl : Frame h h := ⟨Nat.le_refl _, fun _ _ => rfl⟩
theorem Frame.trans {h1 h2 : Hp} (a : Frame h h1) (b : Frame h1 h2) : Frame h h2 := ⟨Nat.le_trans a.1 b.1, fun x hx => (b.2 x (Nat.lt_of_lt_of_le hx a.1)).trans (a.2 x hx)⟩
theorem WR.later {l : Bool} {κ' : K} {h' : Hp} (ev : Ev d κ κ' h h') (fr : l = true → Frame h h') {r : RV} {w : W} (e : WR l κ env h r w) : WR l κ' env h' r w := by
  cases r with
  | val v => exact DV.mono ev.toM e
  | tmp v => exact e.elim
  | pl p => cases p with
    | cn b => exact e.elim
    | sl j => exact e
    | fd b f =>
      obtain ⟨hl, a, c, gs, k, r1, r2⟩ := e
      have := rd_lt r1
      exact ⟨hl, a, c, gs, ev.box a b this k, ((fr hl).2 a this).trans r1, r2⟩
theorem WR.mono {l : Bool} {κ' : K} (m : M κ κ' h h) {r : RV} {w : W} (e : WR l κ env h r w) : WR l κ' env h r w := by
  cases r with
  | val v => exact DV.mono m e
  | tmp v => exact e.elim
  | pl p => cases p with
    | cn b => exact e.elim
    | sl j => exact e
    | fd b f =>
      obtain ⟨hl, a, c, gs, k, r1, r2⟩ := e
      exact ⟨hl, a, c, gs, m.box a b (rd_lt r1) k, r1, r2⟩
theorem WR.weak {l l' : Bool} (hl : l = true → l' = true) {r : RV} {w : W} (e : WR l κ env h r w) : WR l' κ env h r w := by
  cases r with
  | val v => exact e
  | tmp v => exact e.elim
  | pl p => cases p with
    | cn b => exact e.elim
    | sl j => exact e
    | fd b f => exact ⟨hl e.1, e.2⟩
theorem WT.later {l : Bool} {n0 : Nat → Prop} {κ' : K} {h' : Hp} (ev : Ev d κ κ' h h') (fr : l = true → Frame h h') {r : RV} {w : W} (e : WT lk n0 l κ env h r w) : WT lk n0 l κ' env h' r w := by
  cases r with
  | val v => exact WR.later (env := env) ev fr (r := .val v) e
  | tmp v =>
    obtain ⟨a, e1, e2, e3, e4, e5⟩ := e
    obtain ⟨k1, k2⟩ := ev.tmp a e5.lt e2
    exact ⟨a, e1, k1, e3, e4, e5.mono ev.toM k2⟩
  | pl p => exact WR.later (env := env) ev fr (r := .pl p) e
/-! sealing -/
/-- what goes on for places that do not change -/
structure Go (κ κ' : K) (h h' : Hp) (P : Own → Prop) : Prop where
  m : M κ κ' h h'
  k : ∀ l, P l → Keep κ κ' h h' l
  nb : ∀ a b, κ' a = .box b → κ a = .box b
  nl : ∀ a l, κ' a = .lck l → P (.lck l) → κ a = .lck l
/-- one cell gets another owner -/
theorem Go.relab {κ : K} {h : Hp} {a : Nat} {l : Own} {P : Own → Prop} (hz : κ a ≠ .frz) (hb : ∀ b, κ a ≠ .box b) (hp : ¬ P (κ a)) (hl : ∀ b, l ≠ .box b) (hl' : ∀ b, l = .lck b → ¬ P l) : Go κ (upd κ a l) h h P :=
  ⟨M.relab hz hb, fun l' h' => Keep.relab fun q => hp (by rw [q]; exact h'), fun x b q => by
    unfold upd at q; split at q
    · exact absurd q (hl b)
    · exact q, fun x b q p => by
    unfold upd at q; split at q
    · exact absurd (by rw [q]; exact p) (hl' b q)
    · exact q⟩
theorem Go.inv {κ' : K} {h' : Hp} (i : Inv d lk as κ env E h H) {P : Own → Prop} (g : Go κ κ' h h' P) (hs : ∀ j, P (.slot d j) ∧ P (.lck (.slot d j))) (hf : ∀ b f, P (.fld b f) ∧ P (.lck (.fld b f))) (hb : ∀ b, P (.box b)) : Inv d lk as κ' env E h' H :=
  ⟨i.e.mono g.m (fun j => g.k _ (hs j).1) (fun j => g.k _ (hs j).2) fun a j q => g.nl a _ q (hs j).2,
   i.b.mono g.m (fun b f => g.k _ (hf b f).1) (fun b f => g.k _ (hf b f).2) (fun b => g.k _ (hb b)) g.nb fun a b f q => g.nl a _ q (hf b f).2⟩
theorem ev_relab {κ0 : K} {h0 : Hp} (ev : Ev d κ0 κ h0 h) {a : Nat} {l : Own} (hs : ∀ d' j, d' < d → a < h0.length → κ a ≠ .slot d' j) (hb : ∀ b, κ a ≠ .box b) (hz : κ a ≠ .frz) (ht : κ a = .tmp → Bs κ0 h0 a) (hk : ∀ b, κ a ≠ .lck b) (hl : ∀ d' j, d' < d → l ≠ .lck (.slot d' j)) : Ev d κ0 (upd κ a l) h0 h := by
  refine ⟨⟨ev.len, fun x hx e => ?_, fun x b hx e => ?_⟩, fun d' j hd x hx e => ?_, fun x hx e => ?_, fun b hb' x hx e => ?_, fun x d' j hd e => ?_⟩
  · obtain ⟨k1, k2⟩ := ev.frz x hx e
    exact ⟨by rw [upd_ne (fun q => hz (by rw [← q]; exact k1))]; exact k1, k2⟩
  · have k1 := ev.box x b hx e
    rw [upd_ne (fun q => hb b (by rw [← q]; exact k1))]; exact k1
  · obtain ⟨k1, k2⟩ := ev.slot d' j hd x hx e
    by_cases q : x = a
    · subst q; exact absurd k1 (hs d' j hd hx)
    · exact ⟨by rw [upd_ne q]; exact k1, k2⟩
  · obtain ⟨k1, k2⟩ := ev.tmp x hx e
    by_cases q : x = a
    · subst q; exact absurd e (ht k1 hx)
    · exact ⟨by rw [upd_ne q]; exact k1, k2⟩
  · obtain ⟨k1, k2⟩ := ev.lck b hb' x hx e
    by_cases q : x = a
    · subst q; exact absurd k1 (hk b)
    · exact ⟨by rw [upd_ne q]; exact k1, k2⟩
  · unfold upd at e
    split at e
    · exact absurd e (hl d' j hd)
    · exact ev.lckr x d' j hd e
/-- a fresh cell becomes a value -/
theorem tmp_val {κ0 : K} {h0 : Hp} (ev : Ev d κ0 κ h0 h) (i : Inv d lk as κ env E h H) {v : V} {a : Nat} (k : κ a = .tmp) (n : Bs κ0 h0 a) (o : OwnC κ h v a) :
    Ev d κ0 (upd κ a .frz) h0 h ∧ Inv d lk as (upd κ a .frz) env E h H ∧ DV (upd κ a .frz) h v (.ref a) := by
  refine ⟨ev_relab ev (fun _ _ _ _ => by rw [k]; simp) (fun _ => by rw [k]; simp) (by rw [k]; simp) (fun _ => n) (fun _ => by rw [k]; simp) (by simp), Go.inv i (P := fun l => l ≠ .tmp) (Go.relab (by rw [k]; simp) (fun _ => by rw [k]; simp) (by simp [k]) (by simp) (by simp)) (by simp) (by simp) (by simp), ?_⟩
  exact (o.mono (M.relab (by rw [k]; simp) (fun _ => by rw [k]; simp)) rfl).dv upd_same
theorem fix_ok {κ0 : K} {h0 : Hp} (ev : Ev d κ0 κ h0 h) (i : Inv d lk as κ env E h H) {l : Bool} {r r' : RV} {w : W} (e : RR lk (Bs κ0 h0) κ env h r w) (f : fixR l r = some r') :
    ∃ κ', Ev d κ0 κ' h0 h ∧ Inv d lk as κ' env E h H ∧ WR l κ' env h r' w ∧ M κ κ' h h := by
  cases r with
  | val v => cases f; exact ⟨κ, ev, i, e, .refl⟩
  | tmp v =>
    cases f
    obtain ⟨a, rfl, k, n, _, o⟩ := e
    obtain ⟨q1, q2, q3⟩ := tmp_val ev i k n o
    exact ⟨_, q1, q2, q3, M.relab (by rw [k]; simp) (fun _ => by rw [k]; simp)⟩
  | pl p => cases p with
    | cn b => cases f
    | sl j => cases f; exact ⟨κ, ev, i, e, .refl⟩
    | fd b f' =>
      simp only [fixR] at f
      split at f
      · rename_i hl; cases f; exact ⟨κ, ev, i, ⟨hl, e⟩, .refl⟩
      · cases f
theorem fixT_ok {l : Bool} {n0 : Nat → Prop} {r r' : RV} {w : W} (e : RR lk n0 κ env h r w) (f : fixT l r = some r') : WT lk n0 l κ env h r' w := by
  cases r with
  | val v => cases f; exact e
  | tmp v => cases f; exact e
  | pl p => cases p with
    | cn b => cases f
    | sl j => cases f; exact e
    | fd b f' =>
      simp only [fixT] at f
      split at f
      · rename_i hl; cases f; exact ⟨hl, e⟩
      · cases f
/-- one slot changes, nothing else -/
theorem slot_set {h' : Hp} {i0 : Nat} (i : Inv d lk as κ env E h H) {κ' : K} {env' : Env} (g : Go κ κ' h h' fun l => l ≠ .slot d i0 ∧ l ≠ .lck (.slot d i0) ∧ l ≠ .tmp)
    (he : ∀ j, j ≠ i0 → env'[j]? = env[j]?) (hl : env'.length = env.length) {s : Option Sl}
    (hs : ∀ u, s = some u → ∃ w, env'[i0]? = some (some w) ∧ SlR κ' lk h' (.slot d i0) u w ∧ (u.arg = true → as[i0]? = some w))
    (hk : ∀ a, κ' a = .lck (.slot d i0) → ∃ u, s = some u ∧ u.m = .lkd ∧ env'[i0]? = some (some (.ref a))) : Inv d lk as κ' env' (E.set i0 s) h' H := by
  refine ⟨⟨fun j u hu => ?_, by rw [List.length_set, hl]; exact i.e.len, fun a j hj => ?_⟩, i.b.mono g.m (fun b f => g.k _ (by simp)) (fun b f => g.k _ (by simp)) (fun b => g.k _ (by simp)) g.nb fun a b f q => g.nl a _ q (by simp)⟩
  · by_cases q : j = i0
    · subst q
      rw [List.getElem?_set_self'] at hu
      cases hj : E[j]? with
      | none => rw [hj] at hu; cases hu
      | some x => rw [hj] at hu; exact hs u hu
    · rw [List.getElem?_set_ne (fun z => q z.symm)] at hu
      obtain ⟨w, e1, e2, e3⟩ := i.e.sl j u hu
      exact ⟨w, by rw [he j q]; exact e1, e2.mono g.m (g.k _ (by simp [q])) (g.k _ (by simp [q])), e3⟩
  · by_cases q : j = i0
    · subst q
      obtain ⟨u, rfl, h1, h2⟩ := hk a hj
      have hlt : j < E.length := by
        rw [i.e.len, ← hl]; exact (List.getElem?_eq_some_iff.mp h2).1
      exact ⟨u, by rw [List.getElem?_set_self hlt]; rfl, h1, h2⟩
    · obtain ⟨u, h1, h2, h3⟩ := i.e.lc a j (g.nl a _ hj (by simp [q]))
      exact ⟨u, by rw [List.getElem?_set_ne (fun z => q z.symm)]; exact h1, h2, by rw [he j q]; exact h3⟩
theorem seal_ok {κ0 : K} {h0 : Hp} (ev : Ev d κ0 κ h0 h) (i : Inv d lk as κ env E h H) {r : RV} {w : W} (e : RR lk (Bs κ0 h0) κ env h r w) {v : V} {E' : EB} {H' : HB} (f : sealR E H r = .ok v E' H') :
    ∃ κ', Ev d κ0 κ' h0 h ∧ Inv d lk as κ' env E' h H' ∧ DV κ' h v w ∧ M κ κ' h h := by
  cases r with
  | val v => cases f; exact ⟨κ, ev, i, e, .refl⟩
  | tmp v =>
    cases f
    obtain ⟨a, rfl, k, n, _, o⟩ := e
    obtain ⟨q1, q2, q3⟩ := tmp_val ev i k n o
    exact ⟨_, q1, q2, q3, M.relab (by rw [k]; simp) (fun _ => by rw [k]; simp)⟩
  | pl p => cases p with
    | cn b => cases f
    | sl j =>
      simp only [sealR] at f
      cases hj : E[j]?.join with
      | none => rw [hj] at f; cases f
      | some s =>
        rw [hj] at f
        simp only [thenB_some, sealS] at f
        obtain ⟨w', e1, e2, e3⟩ := i.e.sl j s hj
        have e' : env[j]? = some (some w) := e
        rw [e'] at e1; cases e1
        unfold SlR at e2
        split at f
        · rename_i hm
          cases f
          rw [hm] at e2
          exact ⟨κ, ev, i, e2, .refl⟩
        · rename_i hm
          cases f
          rw [hm] at e2
          obtain ⟨a, rfl, k, hlk, o⟩ := e2
          have hz : κ a ≠ .frz := by rw [k]; simp
          have hb : ∀ b, κ a ≠ .box b := fun _ => by rw [k]; simp
          have m : M κ (upd κ a .frz) h h := M.relab hz hb
          have dv : DV (upd κ a .frz) h s.v (.ref a) := (o.mono m rfl).dv upd_same
          refine ⟨upd κ a .frz, ev_relab ev (fun d' x hd _ => by rw [k]; intro q; cases q; omega) hb hz (fun q => by rw [k] at q; cases q) (fun _ => by rw [k]; simp) (by simp), ?_, dv, m⟩
          refine slot_set i (Go.relab hz hb (by simp [k]) (by simp) (by simp)) (fun _ _ => rfl) rfl (fun u hu => by cases hu; exact ⟨_, e', dv, e3⟩) fun x hx => ?_
          unfold upd at hx
          split at hx
          · cases hx
          · obtain ⟨u, q1, q2, _⟩ := i.e.lc x j hx
            rw [hj] at q1; cases q1; rw [hm] at q2; cases q2
        · cases f
    | fd b f' =>
      simp only [sealR] at f
      cases hj : fdS f' H[b]? with
      | none => rw [hj] at f; cases f
      | some s =>
        rw [hj] at f
        simp only [thenB_some, sealF] at f
        have q := fd_at i.b e hj
        unfold SlR at q
        split at f
        · rename_i hm; cases f; rw [hm] at q; exact ⟨κ, ev, i, q, .refl⟩
        · cases f
theorem free_ok {E : EB} {j : Nat} (c : free E j = true) : j < E.length ∧ ∀ s, E[j]?.join = some s → s.m ≠ .lkd ∧ s.arg = false := by
  unfold free at c
  cases q : E[j]? with
  | none => rw [q] at c; cases c
  | some x =>
    refine ⟨(List.getElem?_eq_some_iff.mp q).1, fun s hs => ?_⟩
    cases x with
    | none => cases hs
    | some u =>
      cases hs
      rw [q] at c
      simp only [Bool.and_eq_true, Bool.not_eq_true', decide_eq_true_eq] at c
      exact ⟨c.2, c.1⟩
/-- no cell of it is locked -/
theorem no_lck (i : Inv d lk as κ env E h H) {j : Nat} (c : free E j = true) (a : Nat) : κ a ≠ .lck (.slot d j) := fun q => by
  obtain ⟨u, q1, q2, _⟩ := i.e.lc a j q
  exact ((free_ok c).2 u q1).1 q2
/-- a name is set to a value -/
theorem setB_val (i : Inv d lk as κ env E h H) {j : Nat} {v : V} {w : W} (dv : DV κ h v w) {E' : EB} (f : setB E j ⟨.fz, v, false⟩ = some E') : Inv d lk as κ (env.set j (some w)) E' h H := by
  obtain ⟨c, f⟩ := guardO_some f
  cases f
  have hj : j < env.length := by rw [← i.e.len]; exact (free_ok c).1
  exact slot_set i ⟨M.refl, fun _ _ => Keep.refl, fun _ _ q => q, fun _ _ q _ => q⟩ (fun x hx => List.getElem?_set_ne (fun z => hx z.symm)) (by simp) (fun u hu => by
    cases hu
    exact ⟨w, by rw [List.getElem?_set_self hj], dv, fun q => by cases q⟩) fun a q => absurd q (no_lck i c a)
/-- a name is set to a fresh cell -/
theorem setB_own {κ0 : K} {h0 : Hp} (ev : Ev d κ0 κ h0 h) (i : Inv d lk as κ env E h H) {j : Nat} {v : V} {a : Nat} (k : κ a = .tmp) (n : Bs κ0 h0 a) (nl : a ∉ lk) (o : OwnC κ h v a) {E' : EB} (f : setB E j ⟨.own, v, false⟩ = some E') :
    Ev d κ0 (upd κ a (.slot d j)) h0 h ∧ Inv d lk as (upd κ a (.slot d j)) (env.set j (some (.ref a))) E' h H := by
  obtain ⟨c, f⟩ := guardO_some f
  cases f
  have hj : j < env.length := by rw [← i.e.len]; exact (free_ok c).1
  have hz : κ a ≠ .frz := by rw [k]; simp
  have hb : ∀ b, κ a ≠ .box b := fun _ => by rw [k]; simp
  refine ⟨ev_relab ev (fun _ _ _ _ => by rw [k]; simp) hb hz (fun _ => n) (fun _ => by rw [k]; simp) (by simp), ?_⟩
  have m : M κ (upd κ a (.slot d j)) h h := M.relab hz hb
  exact slot_set i (Go.relab hz hb (by simp [k]) (by simp) (by simp)) (fun x hx => List.getElem?_set_ne (fun z => hx z.symm)) (by simp) (fun u hu => by
    cases hu
    exact ⟨_, by rw [List.getElem?_set_self hj], ⟨a, rfl, upd_same, nl, o.mono m rfl⟩, fun q => by cases q⟩) fun x hx => by
    unfold upd at hx; split at hx
    · cases hx
    · exact absurd hx (no_lck i c x)
end
end BP

namespace BP
open MP (W O Hp Env Exn R rd BinOp CmpOp Blt Ty Ex)
/-! ### places -/
theorem lookup_put (f g : String) (s : Sl) : ∀ fs : List (String × Sl), (putF f s fs).lookup g = if g = f then some s else fs.lookup g
  | [] => by
    simp only [putF, List.lookup_cons, List.lookup_nil]
    by_cases h : g = f
    · simp [h]
    · have : (g == f) = false := by simpa using h
      rw [this]; simp [h]
  | (k, u) :: r => by
    simp only [putF]
    by_cases hk : f = k
    · subst hk
      simp only [if_pos, List.lookup_cons]
      by_cases h : g = f
      · simp [h]
      · have : (g == f) = false := by simpa using h
        rw [this]; simp [h]
    · simp only [if_neg hk, List.lookup_cons]
      cases hgk : g == k with
      | true =>
        have : g = k := by simpa using hgk
        have : g ≠ f := fun z => hk (by rw [← z, this])
        simp [this]
      | false => exact lookup_put f g s r
theorem lookup_putW (f g : String) (s : W) : ∀ fs : List (String × W), (MP.putF f s fs).lookup g = if g = f then some s else fs.lookup g
  | [] => by
    simp only [MP.putF, List.lookup_cons, List.lookup_nil]
    by_cases h : g = f
    · simp [h]
    · have : (g == f) = false := by simpa using h
      rw [this]; simp [h]
  | (k, u) :: r => by
    simp only [MP.putF]
    by_cases hk : f = k
    · subst hk
      simp only [if_pos, List.lookup_cons]
      by_cases h : g = f
      · simp [h]
      · have : (g == f) = false := by simpa using h
        rw [this]; simp [h]
    · simp only [if_neg hk, List.lookup_cons]
      cases hgk : g == k with
      | true =>
        have : g = k := by simpa using hgk
        have : g ≠ f := fun z => hk (by rw [← z, this])
        simp [this]
      | false => exact lookup_putW f g s r
def lab (d : Nat) : Pl → Own
  | .sl j => .slot d j
  | .fd b f => .fld b f
  | .cn b => .box b
/-- what stands at a place, on both sides -/
def PlR (d : Nat) (lk : List Nat) (as : List W) (κ : K) (env : Env) (h : Hp) (p : Pl) (s : Sl) : Prop := match p with
  | .sl j => ∃ w, env[j]? = some (some w) ∧ SlR κ lk h (.slot d j) s w ∧ (s.arg = true → as[j]? = some w)
  | .fd b f => ∃ a c gs w, κ a = .box b ∧ rd h a = some (.ins c gs) ∧ gs.lookup f = some w ∧ SlR κ lk h (.fld b f) s w
  | .cn b => ∃ a, κ a = .box b ∧ OwnC κ h s.v a ∧ (s.m = .own → a ∉ lk)
/-- the cell at a place -/
def At (κ : K) (env : Env) (h : Hp) (p : Pl) (a : Nat) : Prop := match p with
  | .sl j => env[j]? = some (some (.ref a))
  | .fd b f => ∃ a' c gs, κ a' = .box b ∧ rd h a' = some (.ins c gs) ∧ gs.lookup f = some (.ref a)
  | .cn b => κ a = .box b
section
variable {d : Nat} {lk : List Nat} {as : List W} {κ : K} {env : Env} {E : EB} {h : Hp} {H : HB}
theorem at_rel (i : Inv d lk as κ env E h H) {p : Pl} {s : Sl} (e : at_ E H p = some s) : PlR d lk as κ env h p s := by
  cases p with
  | sl j => exact i.e.sl j s e
  | fd b f =>
    simp only [at_] at e
    cases hb : H[b]? with
    | none => rw [hb] at e; cases e
    | some x =>
      rw [hb] at e
      obtain ⟨a, ka⟩ := i.b.ex b (List.getElem?_eq_some_iff.mp hb).1
      obtain ⟨x', o, e1, e2, e3⟩ := i.b.box a b ka
      rw [hb] at e1; cases e1
      cases x with
      | con m v => cases e
      | ins c fs =>
        obtain ⟨nl, gs, rfl, e4⟩ := e3
        have q := e4 f
        simp only [fdS] at e
        rw [e] at q
        obtain ⟨w, q1, q2⟩ := q
        exact ⟨a, c, gs, w, ka, e2, q1, q2⟩
  | cn b =>
    simp only [at_] at e
    cases hb : H[b]? with
    | none => rw [hb] at e; cases e
    | some x =>
      rw [hb] at e
      obtain ⟨a, ka⟩ := i.b.ex b (List.getElem?_eq_some_iff.mp hb).1
      obtain ⟨x', o, e1, e2, e3⟩ := i.b.box a b ka
      rw [hb] at e1; cases e1
      cases x with
      | ins c fs => cases e
      | con m v => cases e; exact ⟨a, ka, e3.2, e3.1⟩
theorem box_set (i : HInv lk κ h H) {b : Nat} {x : Bx} (hlt : b < H.length) {κ' : K} {h' : Hp} {P : Own → Prop} (g : Go κ κ' h h' P) (hf : ∀ b' f, b' ≠ b → P (.fld b' f) ∧ P (.lck (.fld b' f))) (hb : ∀ b', b' ≠ b → P (.box b'))
    (hx : ∀ a, κ' a = .box b → ∃ o, rd h' a = some o ∧ BxR κ' lk h' b a x o)
    (hlc : ∀ a f, κ' a = .lck (.fld b f) → ∃ c fs s a' gs, x = .ins c fs ∧ fs.lookup f = some s ∧ s.m = .lkd ∧ κ' a' = .box b ∧ rd h' a' = some (.ins c gs) ∧ gs.lookup f = some (.ref a)) : HInv lk κ' h' (H.set b x) := by
  refine ⟨fun a b' e => ?_, fun a a' b' e e' => i.inj a a' b' (g.nb a b' e) (g.nb a' b' e'), fun b' hb' => ?_, fun a ha => Nat.lt_of_lt_of_le (i.lkb a ha) g.m.len, fun a b' f e => ?_⟩
  · by_cases q : b' = b
    · subst q
      obtain ⟨o, h1, h2⟩ := hx a e
      exact ⟨x, o, by rw [List.getElem?_set_self hlt], h1, h2⟩
    · obtain ⟨x', o, h1, h2, h3⟩ := i.box a b' (g.nb a b' e)
      obtain ⟨k1, k2⟩ := g.k _ (hb b' q) a (rd_lt h2) (g.nb a b' e)
      exact ⟨x', o, by rw [List.getElem?_set_ne (fun z => q z.symm)]; exact h1, k2.trans h2, h3.mono g.m (fun f => g.k _ (hf b' f q).1) (fun f => g.k _ (hf b' f q).2) k2⟩
  · rw [List.length_set] at hb'
    obtain ⟨a, e⟩ := i.ex b' hb'
    obtain ⟨x', o, _, e2, _⟩ := i.box a b' e
    exact ⟨a, g.m.box a b' (rd_lt e2) e⟩
  · by_cases q : b' = b
    · subst q
      obtain ⟨c, fs, s, a', gs, rfl, r⟩ := hlc a f e
      exact ⟨c, fs, s, a', gs, by rw [List.getElem?_set_self hlt], r⟩
    · obtain ⟨c, fs, s, a', gs, h1, h2, h3, h4, h5, h6⟩ := i.lc a b' f (g.nl a _ e (hf b' f q).2)
      obtain ⟨k1, k2⟩ := g.k _ (hb b' q) a' (rd_lt h5) h4
      exact ⟨c, fs, s, a', gs, by rw [List.getElem?_set_ne (fun z => q z.symm)]; exact h1, h2, h3, k1, k2.trans h5, h6⟩
theorem FsR.put {b : Nat} {f : String} {s : Sl} {w : W} {fs : List (String × Sl)} {gs : List (String × W)} (e : FsR κ lk h b fs gs) (hw : gs.lookup f = some w) {κ' : K} {h' : Hp} (m : M κ κ' h h') (k : ∀ g, g ≠ f → Keep κ κ' h h' (.fld b g) ∧ Keep κ κ' h h' (.lck (.fld b g)))
    (hs : SlR κ' lk h' (.fld b f) s w) : FsR κ' lk h' b (putF f s fs) gs := fun g => by
  rw [lookup_put]
  by_cases q : g = f
  · subst q
    simp only [if_pos]
    exact ⟨w, hw, hs⟩
  · simp only [if_neg q]
    have := e g
    split at this
    · rename_i u hu; obtain ⟨w', h1, h2⟩ := this; exact ⟨w', h1, h2.mono m (k g q).1 (k g q).2⟩
    · exact this
theorem put_ok (i : Inv d lk as κ env E h H) {p : Pl} {s s' : Sl} (hs : at_ E H p = some s) {E' : EB} {H' : HB} (hp : put E H s' p = some (E', H')) {κ' : K} {h' : Hp}
    (g : Go κ κ' h h' fun l => l ≠ lab d p ∧ l ≠ .lck (lab d p) ∧ l ≠ .tmp) (hr : PlR d lk as κ' env h' p s') (hk : (∀ b, p ≠ .cn b) → ∀ a, κ' a = .lck (lab d p) → s'.m = .lkd ∧ At κ' env h' p a) : Inv d lk as κ' env E' h' H' := by
  cases p with
  | sl j =>
    cases hp
    exact slot_set i g (fun _ _ => rfl) rfl (fun u hu => by cases hu; exact hr) fun a q => ⟨s', rfl, hk (fun _ => by simp) a q⟩
  | fd b f =>
    simp only [put, Option.map_eq_some_iff] at hp
    obtain ⟨H1, hp, q⟩ := hp
    cases q
    simp only [at_] at hs
    cases hb : H[b]? with
    | none => rw [hb] at hs; cases hs
    | some x =>
      rw [hb] at hs hp
      cases x with
      | con m v => cases hs
      | ins c fs =>
        cases hp
        refine ⟨i.e.mono g.m (fun j => g.k _ (by simp [lab])) (fun j => g.k _ (by simp [lab])) (fun a j q => g.nl a _ q (by simp [lab])), box_set i.b (List.getElem?_eq_some_iff.mp hb).1 g (fun b' f' hb' => by simp [lab, hb']) (fun b' hb' => by simp [lab]) (fun a ha => ?_) fun a f' ha => ?_⟩
        · have ka := g.nb a b ha
          obtain ⟨x', o, e1, e2, e3⟩ := i.b.box a b ka
          rw [hb] at e1; cases e1
          obtain ⟨nl, gs, rfl, e4⟩ := e3
          obtain ⟨_, k2⟩ := g.k (.box b) (by simp [lab]) a (rd_lt e2) ka
          obtain ⟨a1, c1, gs1, w, r1, r2, r3, r4⟩ := hr
          have := i.b.inj a1 a b (g.nb a1 b r1) ka
          subst this
          rw [k2, e2] at r2; cases r2
          exact ⟨_, k2.trans e2, nl, gs, rfl, e4.put r3 g.m (fun g' hg => ⟨g.k _ (by simp [lab, hg]), g.k _ (by simp [lab, hg])⟩) r4⟩
        · by_cases q : f' = f
          · subst q
            obtain ⟨hm, a1, c1, gs1, k1, k2, k3⟩ := hk (fun _ => by simp) a ha
            have ka := g.nb a1 b k1
            obtain ⟨x', o, e1, e2, e3⟩ := i.b.box a1 b ka
            rw [hb] at e1; cases e1
            obtain ⟨nl, gs, rfl, e4⟩ := e3
            obtain ⟨_, k4⟩ := g.k (.box b) (by simp [lab]) a1 (rd_lt e2) ka
            rw [k4, e2] at k2; cases k2
            exact ⟨c, _, s', a1, _, rfl, by rw [lookup_put]; simp, hm, k1, k4.trans e2, k3⟩
          · obtain ⟨c', fs', u, a1, gs, e1, e2, e3, e4, e5, e6⟩ := i.b.lc a b f' (g.nl a _ ha (by simp [lab, q]))
            rw [hb] at e1; cases e1
            obtain ⟨k3, k4⟩ := g.k (.box b) (by simp [lab]) a1 (rd_lt e5) e4
            exact ⟨c, _, u, a1, gs, rfl, by rw [lookup_put]; simp [q, e2], e3, k3, k4.trans e5, e6⟩
  | cn b =>
    cases hp
    simp only [at_] at hs
    cases hb : H[b]? with
    | none => rw [hb] at hs; cases hs
    | some x =>
      rw [hb] at hs
      cases x with
      | ins c fs => cases hs
      | con m v =>
        refine ⟨i.e.mono g.m (fun j => g.k _ (by simp [lab])) (fun j => g.k _ (by simp [lab])) (fun a j q => g.nl a _ q (by simp [lab])), box_set i.b (List.getElem?_eq_some_iff.mp hb).1 g (fun b' f' hb' => by simp [lab]) (fun b' hb' => by simp [lab, hb']) (fun a ha => ?_) fun a f' ha => ?_⟩
        · obtain ⟨a1, r1, r2, r3⟩ := hr
          have := i.b.inj a1 a b (g.nb a1 b r1) (g.nb a b ha)
          subst this
          obtain ⟨o, r4, r5⟩ := r2
          exact ⟨o, r4, r3, o, r4, r5⟩
        · obtain ⟨c', fs', u, a1, gs, e1, _⟩ := i.b.lc a b f' (g.nl a _ ha (by simp [lab]))
          rw [hb] at e1; cases e1
/-! changes -/
theorem rd_set {h : Hp} {a x : Nat} {o : O} (q : x ≠ a) : rd (h.set a o) x = rd h x := by unfold rd; exact List.getElem?_set_ne fun z => q z.symm
theorem rd_set_self {h : Hp} {a : Nat} {o : O} (q : a < h.length) : rd (h.set a o) a = some o := by unfold rd; exact List.getElem?_set_self q
theorem Go.set {a : Nat} {o : O} {P : Own → Prop} (hz : κ a ≠ .frz) (hp : ¬ P (κ a)) : Go κ κ h (h.set a o) P :=
  ⟨⟨by simp, fun x hx e => ⟨e, rd_set fun q => hz (by rw [← q]; exact e)⟩, fun _ _ _ e => e⟩, fun l hl x hx e => ⟨e, rd_set fun q => hp (by rw [← q, e]; exact hl)⟩, fun _ _ e => e, fun _ _ e _ => e⟩
theorem ev_set {κ0 : K} {h0 : Hp} (ev : Ev d κ0 κ h0 h) {a : Nat} {o : O} (hs : ∀ d' j, d' < d → a < h0.length → κ a ≠ .slot d' j) (hz : κ a ≠ .frz) (ht : κ a = .tmp → Bs κ0 h0 a) (hk : ∀ b, κ a ≠ .lck b) : Ev d κ0 κ h0 (h.set a o) := by
  refine ⟨⟨by rw [List.length_set]; exact ev.len, fun x hx e => ?_, fun x b hx e => ev.box x b hx e⟩, fun d' j hd x hx e => ?_, fun x hx e => ?_, fun b hb x hx e => ?_, ev.lckr⟩
  · obtain ⟨k1, k2⟩ := ev.frz x hx e
    exact ⟨k1, (rd_set fun q => hz (by rw [← q]; exact k1)).trans k2⟩
  · obtain ⟨k1, k2⟩ := ev.slot d' j hd x hx e
    exact ⟨k1, (rd_set fun q => hs d' j hd (by rw [← q]; exact hx) (by rw [← q]; exact k1)).trans k2⟩
  · obtain ⟨k1, k2⟩ := ev.tmp x hx e
    exact ⟨k1, (rd_set fun q => by subst q; exact absurd e (ht k1 hx)).trans k2⟩
  · obtain ⟨k1, k2⟩ := ev.lck b hb x hx e
    exact ⟨k1, (rd_set fun q => hk b (by rw [← q]; exact k1)).trans k2⟩
theorem OwnC.set {v : V} {a : Nat} {o : O} (c : CR κ h v o) (hz : κ a ≠ .frz) (hl : a < h.length) : OwnC κ (h.set a o) v a :=
  ⟨o, rd_set_self hl, c.mono (Go.set (P := fun _ => False) hz (by simp)).m⟩
theorem newC_ok {κ0 : K} {h0 : Hp} (ev : Ev d κ0 κ h0 h) (i : Inv d lk as κ env E h H) {p : Pl} {v : V} {E' : EB} {H' : HB} (e : newC E H v p = some (E', H')) {a : Nat} (at' : At κ env h p a) {o : O} (c : CR κ h v o) :
    a ∉ lk ∧ a < h.length ∧ κ a ≠ .frz ∧ Ev d κ0 κ h0 (h.set a o) ∧ Inv d lk as κ env E' (h.set a o) H' := by
  simp only [newC, Option.bind_eq_some_iff] at e
  obtain ⟨s, hs, e⟩ := e
  split at e
  · rename_i hm
    have r := at_rel i hs
    have fin : ∀ l, κ a = l → l = lab d p → a ∉ lk → a < h.length → PlR d lk as κ env (h.set a o) p ⟨.own, v, s.arg⟩ → a ∉ lk ∧ a < h.length ∧ κ a ≠ .frz ∧ Ev d κ0 κ h0 (h.set a o) ∧ Inv d lk as κ env E' (h.set a o) H' := by
      intro l k q nl hl pr
      have hz : κ a ≠ .frz := by rw [k, q]; cases p <;> simp [lab]
      refine ⟨nl, hl, hz, ev_set ev (fun d' j hd _ => by rw [k, q]; cases p <;> simp [lab]; omega) hz (by rw [k, q]; cases p <;> simp [lab]) (fun b => by rw [k, q]; cases p <;> simp [lab]), put_ok i hs e (Go.set hz (by rw [k, q]; simp)) pr fun np x hx => ?_⟩
      exfalso
      cases p with
      | sl j =>
        obtain ⟨u, h1, h2, _⟩ := i.e.lc x j hx
        have hs' : E[j]?.join = some s := hs
        rw [hs'] at h1; cases h1; rw [hm] at h2; cases h2
      | fd b f =>
        obtain ⟨c', fs, u, a1, gs, h1, h2, h3, _⟩ := i.b.lc x b f hx
        simp only [at_, h1, fdS] at hs
        rw [h2] at hs; cases hs; rw [hm] at h3; cases h3
      | cn b => exact np b rfl
    cases p with
    | sl j =>
      obtain ⟨w, h1, h2, h3⟩ := r
      have at1 : env[j]? = some (some (.ref a)) := at'
      rw [at1] at h1; cases h1
      unfold SlR at h2
      rw [hm] at h2
      obtain ⟨a1, q, k, nl, oc⟩ := h2
      cases q
      refine fin _ k rfl nl oc.lt ⟨_, at1, ⟨a, rfl, k, nl, OwnC.set c (by rw [k]; simp) oc.lt⟩, h3⟩
    | fd b f =>
      obtain ⟨a1, c1, gs, w, k1, k2, k3, h2⟩ := r
      obtain ⟨a2, c2, gs2, k4, k5, k6⟩ := at'
      have := i.b.inj a1 a2 b k1 k4
      subst this
      rw [k2] at k5; cases k5
      rw [k3] at k6; cases k6
      unfold SlR at h2
      rw [hm] at h2
      obtain ⟨a3, q, k, nl, oc⟩ := h2
      cases q
      have ne : a1 ≠ a := fun z => by rw [z, k] at k1; cases k1
      exact fin _ k rfl nl oc.lt ⟨a1, c1, gs, _, k1, (rd_set ne).trans k2, k3, a, rfl, k, nl, OwnC.set c (by rw [k]; simp) oc.lt⟩
    | cn b =>
      obtain ⟨a1, k1, oc, nl⟩ := r
      have k2 : κ a = .box b := at'
      have := i.b.inj a1 a b k1 k2
      subst this
      exact fin _ k1 rfl (nl hm) oc.lt ⟨a1, k1, OwnC.set c (by rw [k1]; simp) oc.lt, fun _ => nl hm⟩
  · cases e
end
end BP

namespace BP
open MP (W O Hp Env Exn R rd BinOp CmpOp Blt Ty Ex)
section
variable {d : Nat} {lk : List Nat} {as : List W} {κ : K} {env : Env} {E : EB} {h : Hp} {H : HB}
theorem mut_ok {κ0 : K} {h0 : Hp} (ev : Ev d κ0 κ h0 h) (i : Inv d lk as κ env E h H) {r : RV} {l : Bool} {a : Nat} (e : WT lk (Bs κ0 h0) l κ env h r (.ref a)) {v : V} {E' : EB} {H' : HB} (f : mutR E H v r = some (E', H')) {o : O} (c : CR κ h v o) :
    a ∉ lk ∧ a < h.length ∧ κ a ≠ .frz ∧ Ev d κ0 κ h0 (h.set a o) ∧ Inv d lk as κ env E' (h.set a o) H' := by
  have viaRef : ∀ b, DV κ h (.ref b) (.ref a) → newC E H v (.cn b) = some (E', H') → a ∉ lk ∧ a < h.length ∧ κ a ≠ .frz ∧ Ev d κ0 κ h0 (h.set a o) ∧ Inv d lk as κ env E' (h.set a o) H' := fun b dv f => by
    unfold DV at dv
    obtain ⟨a', q, k, _⟩ := dv
    cases q
    exact newC_ok ev i f (p := .cn b) k c
  cases r with
  | val u =>
    cases u <;> simp only [mutR] at f <;> (try (cases f; done))
    exact viaRef _ e f
  | tmp u =>
    cases f
    obtain ⟨a', q, k, n, nl, oc⟩ := e
    cases q
    have hz : κ a ≠ .frz := by rw [k]; simp
    exact ⟨nl, oc.lt, hz, ev_set ev (fun _ _ _ _ => by rw [k]; simp) hz (fun _ => n) (fun _ => by rw [k]; simp), Go.inv i (P := fun l => l ≠ .tmp) (Go.set hz (by simp [k])) (by simp) (by simp) (by simp)⟩
  | pl p =>
    simp only [mutR, Option.bind_eq_some_iff] at f
    obtain ⟨s, hs, f⟩ := f
    have at' : At κ env h p a ∨ ∃ b, s.v = .ref b ∧ DV κ h (.ref b) (.ref a) := by
      have r := at_rel i hs
      cases p with
      | cn b => exact e.elim
      | sl j => exact .inl e
      | fd b f' =>
        obtain ⟨_, a1, c1, gs, k1, k2, k3⟩ := e
        exact .inl ⟨a1, c1, gs, k1, k2, k3⟩
    unfold mutS at f
    split at f
    · rename_i b hb
      have r := at_rel i hs
      refine viaRef b ?_ f
      have key : ∀ l w, SlR κ lk h l s w → DV κ h (.ref b) w := fun l w q => by
        unfold SlR at q
        split at q
        · rw [← hb]; exact q
        · obtain ⟨_, _, _, _, oc⟩ := q; rw [hb] at oc; obtain ⟨_, _, oc⟩ := oc; exact oc.elim
        · obtain ⟨_, _, _, oc⟩ := q; rw [hb] at oc; obtain ⟨_, _, oc⟩ := oc; exact oc.elim
      cases p with
      | cn b => exact e.elim
      | sl j =>
        obtain ⟨w, h1, h2, _⟩ := r
        have e' : env[j]? = some (some (.ref a)) := e
        rw [e'] at h1; cases h1
        exact key _ _ h2
      | fd b f' =>
        obtain ⟨_, a1, c1, gs, k1, k2, k3⟩ := e
        obtain ⟨a2, c2, gs2, w, k4, k5, k6, h2⟩ := r
        have := i.b.inj a1 a2 b k1 k4
        subst this
        rw [k2] at k5; cases k5
        rw [k3] at k6; cases k6
        exact key _ _ h2
    · rename_i hb
      rcases at' with q | ⟨b, q, _⟩
      · exact newC_ok ev i f q c
      · exact absurd q (hb b)
/-! ### locking -/
def slP (p : Pl) (s : Sl) : Sl := match p with
  | .cn _ => ⟨s.m, s.v, false⟩
  | _ => s
@[simp] theorem slP_m (p : Pl) (s : Sl) : (slP p s).m = s.m := by cases p <;> rfl
@[simp] theorem slP_v (p : Pl) (s : Sl) : (slP p s).v = s.v := by cases p <;> rfl
theorem modes_cons {p : Pl} {ps : List Pl} {l : List Md} (e : modes E H (p :: ps) = some l) : ∃ u l2, at_ E H p = some u ∧ modes E H ps = some l2 ∧ l = u.m :: l2 ∧ p ∉ ps := by
  simp only [modes, Option.bind_eq_some_iff] at e
  obtain ⟨u, hu, e⟩ := e
  obtain ⟨c, e⟩ := guardO_some e
  simp only [Option.map_eq_some_iff] at e
  obtain ⟨l2, hl2, rfl⟩ := e
  exact ⟨u, l2, hu, hl2, rfl, by simpa using c⟩
theorem modes_mem : ∀ {ps : List Pl} {l : List Md}, modes E H ps = some l → ∀ {q : Pl} {m : Md}, (q, m) ∈ ps.zip l → q ∈ ps ∧ ∃ u, at_ E H q = some u ∧ u.m = m
  | [], l, e, q, m, hq => by cases hq
  | p :: ps, l, e, q, m, hq => by
    obtain ⟨u, l2, hu, hl2, rfl, _⟩ := modes_cons e
    rw [List.zip_cons_cons] at hq
    rcases List.mem_cons.mp hq with e | hq
    · cases e; exact ⟨List.mem_cons_self, u, hu, rfl⟩
    · obtain ⟨h1, h2⟩ := modes_mem hl2 hq; exact ⟨List.mem_cons_of_mem _ h1, h2⟩
theorem modes_zip : ∀ {ps : List Pl} {l : List Md}, modes E H ps = some l → ∀ {q : Pl} {u : Sl}, q ∈ ps → at_ E H q = some u → (q, u.m) ∈ ps.zip l
  | p :: ps, l, e, q, v, hq, hv => by
    obtain ⟨u, l2, hu, hl2, rfl, _⟩ := modes_cons e
    rw [List.zip_cons_cons]
    rcases List.mem_cons.mp hq with rfl | hq
    · rw [hu] at hv; cases hv; exact List.mem_cons_self
    · exact List.mem_cons_of_mem _ (modes_zip hl2 hq hv)
theorem at_put {p : Pl} {s s' : Sl} (hs : at_ E H p = some s) {E' : EB} {H' : HB} (hp : put E H s' p = some (E', H')) (q : Pl) :
    at_ E' H' q = if q = p then some (slP p s') else at_ E H q := by
  cases p with
  | sl j =>
    cases hp
    have hlt : j < E.length := by
      simp only [at_] at hs
      cases hj : E[j]? with
      | none => rw [hj] at hs; cases hs
      | some x => exact (List.getElem?_eq_some_iff.mp hj).1
    cases q with
    | sl k =>
      simp only [at_]
      by_cases z : k = j
      · subst z; simp [List.getElem?_set_self hlt, slP]
      · rw [List.getElem?_set_ne (fun y => z y.symm)]; simp [z]
    | fd b f => simp
    | cn b => simp
  | fd b f =>
    simp only [put, Option.map_eq_some_iff] at hp
    obtain ⟨H1, hp, q'⟩ := hp
    cases q'
    simp only [at_] at hs
    cases hb : H[b]? with
    | none => rw [hb] at hs; cases hs
    | some x =>
      rw [hb] at hs hp
      cases x with
      | con m v => cases hs
      | ins c fs =>
        cases hp
        have hlt := (List.getElem?_eq_some_iff.mp hb).1
        cases q with
        | sl k => simp
        | fd b' f' =>
          simp only [at_]
          by_cases z : b' = b
          · subst z
            rw [List.getElem?_set_self hlt, hb]
            simp only [fdS, lookup_put]
            by_cases y : f' = f
            · simp [y, slP]
            · simp [y]
          · rw [List.getElem?_set_ne (fun y => z y.symm)]; simp [z]
        | cn b' =>
          simp only [at_]
          by_cases z : b' = b
          · subst z
            rw [List.getElem?_set_self hlt, hb]; simp
          · rw [List.getElem?_set_ne (fun y => z y.symm)]; simp
  | cn b =>
    cases hp
    simp only [at_] at hs
    cases hb : H[b]? with
    | none => rw [hb] at hs; cases hs
    | some x =>
      rw [hb] at hs
      cases x with
      | ins c fs => cases hs
      | con m v =>
        have hlt := (List.getElem?_eq_some_iff.mp hb).1
        cases q with
        | sl k => simp
        | fd b' f' =>
          simp only [at_]
          by_cases z : b' = b
          · subst z
            rw [List.getElem?_set_self hlt, hb]; simp
          · rw [List.getElem?_set_ne (fun y => z y.symm)]; simp
        | cn b' =>
          simp only [at_]
          by_cases z : b' = b
          · subst z
            rw [List.getElem?_set_self hlt]; simp [slP]
          · rw [List.getElem?_set_ne (fun y => z y.symm)]; simp [z]
/-- what is known of a place that was locked, for its unlocking -/
def Rec (d : Nat) (lk : List Nat) (κp κ : K) (h : Hp) (p : Pl) (m : Md) : Prop := m = .own → ∃ a, a < h.length ∧ a ∉ lk ∧ (∀ l, κp a ≠ .lck l) ∧ (match p with | .cn b => κ a = .box b | _ => κ a = .lck (lab d p))
def Unown (E : EB) (H : HB) (p : Pl) : Prop := ∀ s, at_ E H p = some s → s.m ≠ .own
theorem lockM_own (m : Md) : lockM m ≠ .own := by cases m <;> simp
/-- a place is locked -/
theorem lock1 {κ0 : K} {h0 : Hp} (ev : Ev d κ0 κ h0 h) (i : Inv d lk as κ env E h H) {p : Pl} {s : Sl} (hs : at_ E H p = some s) {E' : EB} {H' : HB} (hp : put E H ⟨lockM s.m, s.v, s.arg⟩ p = some (E', H')) :
    ∃ κ', Ev d κ0 κ' h0 h ∧ Inv d lk as κ' env E' h H' ∧ Rec d lk κ κ' h p s.m ∧ (∀ a l, κ a = .lck l → κ' a = .lck l) ∧ (∀ a l, κ a = .box l → κ' a = .box l) ∧ (∀ a, κ a = .frz → κ' a = .frz) ∧ (∀ a, κ a = .tmp → κ' a = .tmp) := by
  have r := at_rel i hs
  cases hm : s.m with
  | fz =>
    rw [hm] at hp
    refine ⟨κ, ev, put_ok i hs hp ⟨M.refl, fun _ _ => Keep.refl, fun _ _ q => q, fun _ _ q _ => q⟩ ?_ ?_, fun q => (by cases q), fun _ _ q => q, fun _ _ q => q, fun _ q => q, fun _ q => q⟩
    · cases p with
      | sl j => obtain ⟨w, h1, h2, h3⟩ := r; unfold SlR at h2; rw [hm] at h2; exact ⟨w, h1, h2, h3⟩
      | fd b f => obtain ⟨a, c, gs, w, h1, h2, h3, h4⟩ := r; unfold SlR at h4; rw [hm] at h4; exact ⟨a, c, gs, w, h1, h2, h3, h4⟩
      | cn b => obtain ⟨a, h1, h2, h3⟩ := r; exact ⟨a, h1, h2, fun q => by cases q⟩
    · intro np x hx
      exfalso
      cases p with
      | sl j => obtain ⟨u, h1, h2, _⟩ := i.e.lc x j hx; simp only [at_] at hs; rw [hs] at h1; cases h1; rw [hm] at h2; cases h2
      | fd b f =>
        obtain ⟨c', fs, u, a1, gs, h1, h2, h3, _⟩ := i.b.lc x b f hx
        simp only [at_, h1, fdS] at hs
        rw [h2] at hs; cases hs; rw [hm] at h3; cases h3
      | cn b => exact np b rfl
  | lkd =>
    rw [hm] at hp
    refine ⟨κ, ev, put_ok i hs hp ⟨M.refl, fun _ _ => Keep.refl, fun _ _ q => q, fun _ _ q _ => q⟩ ?_ ?_, fun q => (by cases q), fun _ _ q => q, fun _ _ q => q, fun _ q => q, fun _ q => q⟩
    · cases p with
      | sl j => obtain ⟨w, h1, h2, h3⟩ := r; unfold SlR at h2; rw [hm] at h2; exact ⟨w, h1, h2, h3⟩
      | fd b f => obtain ⟨a, c, gs, w, h1, h2, h3, h4⟩ := r; unfold SlR at h4; rw [hm] at h4; exact ⟨a, c, gs, w, h1, h2, h3, h4⟩
      | cn b => obtain ⟨a, h1, h2, h3⟩ := r; exact ⟨a, h1, h2, fun q => by cases q⟩
    · intro np x hx
      refine ⟨rfl, ?_⟩
      cases p with
      | sl j => obtain ⟨u, h1, h2, h3⟩ := i.e.lc x j hx; exact h3
      | fd b f =>
        obtain ⟨c', fs, u, a1, gs, h1, h2, h3, h4, h5, h6⟩ := i.b.lc x b f hx
        exact ⟨a1, _, _, h4, h5, h6⟩
      | cn b => exact absurd rfl (np b)
  | own =>
    rw [hm] at hp
    cases p with
    | cn b =>
      obtain ⟨a, h1, h2, h3⟩ := r
      exact ⟨κ, ev, put_ok i hs hp ⟨M.refl, fun _ _ => Keep.refl, fun _ _ q => q, fun _ _ q _ => q⟩ ⟨a, h1, h2, fun q => by cases q⟩ (fun np => absurd rfl (np b)), fun _ => ⟨a, h2.lt, h3 hm, fun l => by rw [h1]; simp, h1⟩, fun _ _ q => q, fun _ _ q => q, fun _ q => q, fun _ q => q⟩
    | sl j =>
      obtain ⟨w, h1, h2, h3⟩ := r
      unfold SlR at h2; rw [hm] at h2
      obtain ⟨a, rfl, k, nl, oc⟩ := h2
      have hz : κ a ≠ .frz := by rw [k]; simp
      have hb : ∀ b, κ a ≠ .box b := fun _ => by rw [k]; simp
      have hk : ∀ b, κ a ≠ .lck b := fun _ => by rw [k]; simp
      have m : M κ (upd κ a (.lck (.slot d j))) h h := M.relab hz hb
      refine ⟨upd κ a (.lck (.slot d j)), ev_relab ev (fun d' x hd _ => by rw [k]; intro q; cases q; omega) hb hz (fun q => by rw [k] at q; cases q) hk (fun d' x hd => by simp; try omega), ?_, fun _ => ⟨a, oc.lt, nl, hk, upd_same⟩, fun x l q => by rw [upd_ne (fun z => hk l (by rw [← z]; exact q))]; exact q, fun x l q => by rw [upd_ne (fun z => hb l (by rw [← z]; exact q))]; exact q, fun x q => by rw [upd_ne (fun z => hz (by rw [← z]; exact q))]; exact q, fun x q => by rw [upd_ne (fun z => by rw [z, k] at q; cases q)]; exact q⟩
      refine put_ok i hs hp (Go.relab hz hb (by simp [k, lab]) (by simp) (by simp [lab])) ⟨_, h1, ⟨a, rfl, upd_same, oc.mono m rfl⟩, h3⟩ fun _ x hx => ⟨rfl, ?_⟩
      unfold upd at hx
      split at hx
      · rename_i q; rw [q]; exact h1
      · obtain ⟨u, q1, q2, _⟩ := i.e.lc x j hx
        simp only [at_] at hs; rw [hs] at q1; cases q1; rw [hm] at q2; cases q2
    | fd b f =>
      obtain ⟨a1, c, gs, w, k1, k2, k3, h2⟩ := r
      unfold SlR at h2; rw [hm] at h2
      obtain ⟨a, rfl, k, nl, oc⟩ := h2
      have hz : κ a ≠ .frz := by rw [k]; simp
      have hb : ∀ b, κ a ≠ .box b := fun _ => by rw [k]; simp
      have hk : ∀ b, κ a ≠ .lck b := fun _ => by rw [k]; simp
      have m : M κ (upd κ a (.lck (.fld b f))) h h := M.relab hz hb
      have ne : a1 ≠ a := fun z => by rw [z, k] at k1; cases k1
      have k1' : upd κ a (.lck (.fld b f)) a1 = .box b := by rw [upd_ne ne]; exact k1
      refine ⟨upd κ a (.lck (.fld b f)), ev_relab ev (fun d' x hd _ => by rw [k]; simp) hb hz (fun q => by rw [k] at q; cases q) hk (fun d' x hd => by simp; try omega), ?_, fun _ => ⟨a, oc.lt, nl, hk, upd_same⟩, fun x l q => by rw [upd_ne (fun z => hk l (by rw [← z]; exact q))]; exact q, fun x l q => by rw [upd_ne (fun z => hb l (by rw [← z]; exact q))]; exact q, fun x q => by rw [upd_ne (fun z => hz (by rw [← z]; exact q))]; exact q, fun x q => by rw [upd_ne (fun z => by rw [z, k] at q; cases q)]; exact q⟩
      refine put_ok i hs hp (Go.relab hz hb (by simp [k, lab]) (by simp) (by simp [lab])) ⟨a1, c, gs, _, k1', k2, k3, a, rfl, upd_same, oc.mono m rfl⟩ fun _ x hx => ⟨rfl, ?_⟩
      unfold upd at hx
      split at hx
      · rename_i q; rw [q]; exact ⟨a1, c, gs, k1', k2, k3⟩
      · obtain ⟨c', fs, u, a2, gs2, q1, q2, q3, _⟩ := i.b.lc x b f hx
        simp only [at_, q1, fdS] at hs
        rw [q2] at hs; cases hs; rw [hm] at q3; cases q3
theorem Rec.mono {κp κq κ' : K} {h' : Hp} {p : Pl} {m : Md} (hl : h.length ≤ h'.length) (k : ∀ a l, okL d l → a < h.length → κ a = .lck l → κ' a = .lck l) (kb : ∀ a l, a < h.length → κ a = .box l → κ' a = .box l) (kp : ∀ a l, κq a = .lck l → κp a = .lck l) (r : Rec d lk κp κ h p m) : Rec d lk κq κ' h' p m := fun q => by
  obtain ⟨a, h1, h2, h4, h3⟩ := r q
  refine ⟨a, Nat.lt_of_lt_of_le h1 hl, h2, fun l z => h4 l (kp a l z), ?_⟩
  cases p with
  | cn b => exact kb a b h1 h3
  | sl j => exact k a _ (Nat.le_refl d) h1 h3
  | fd b f => exact k a _ trivial h1 h3
/-- places are locked, one behind the other -/
theorem lockP_ok {κ0 : K} {h0 : Hp} : ∀ {ps : List Pl} {κ : K} {E : EB} {H : HB} (ev : Ev d κ0 κ h0 h) (i : Inv d lk as κ env E h H) {ms : List Md} {E1 : EB} {H1 : HB}, modes E H ps = some ms → lockP E H ps = some (E1, H1) →
    ∃ κ', Ev d κ0 κ' h0 h ∧ Inv d lk as κ' env E1 h H1 ∧ (∀ p m, (p, m) ∈ ps.zip ms → Rec d lk κ κ' h p m) ∧ (∀ p ∈ ps, Unown E1 H1 p) ∧ (∀ p, (at_ E1 H1 p).map (fun s => s.v) = (at_ E H p).map fun s => s.v) ∧ (∀ p, Unown E H p → Unown E1 H1 p) ∧
    (∀ a l, κ a = .lck l → κ' a = .lck l) ∧ (∀ a l, κ a = .box l → κ' a = .box l) ∧ (∀ a, κ a = .frz → κ' a = .frz) ∧ (∀ a, κ a = .tmp → κ' a = .tmp)
  | [], κ, E, H, ev, i, ms, E1, H1, hm, hp => by
    cases hp
    exact ⟨κ, ev, i, fun p m q => (by cases q), fun p q => (by cases q), fun _ => rfl, fun _ q => q, fun _ _ q => q, fun _ _ q => q, fun _ q => q, fun _ q => q⟩
  | p :: ps, κ, E, H, ev, i, ms, E1, H1, hm, hp => by
    obtain ⟨s, l, hs, hl, rfl, np0⟩ := modes_cons hm
    simp only [lockP, Option.bind_eq_some_iff] at hp
    obtain ⟨s', hs', ⟨E2, H2⟩, hp1, hp2⟩ := hp
    rw [hs] at hs'; cases hs'
    obtain ⟨κ2, ev2, i2, rec2, kl2, kb2, kz2, kt2⟩ := lock1 ev i hs hp1
    have ap := at_put hs hp1
    have hv : ∀ q, (at_ E2 H2 q).map (fun s => s.v) = (at_ E H q).map fun s => s.v := fun q => by
      rw [ap q]
      by_cases z : q = p
      · subst z; rw [hs]; simp
      · simp [z]
    have un : ∀ q, Unown E H q ∨ q = p → Unown E2 H2 q := fun q hq u hu => by
      rw [ap q] at hu
      by_cases z : q = p
      · subst z; simp only [if_pos] at hu; cases hu; rw [slP_m]; exact lockM_own _
      · simp only [if_neg z] at hu
        rcases hq with hq | hq
        · exact hq u hu
        · exact absurd hq z
    have hm2 : ∃ ms2, modes E2 H2 ps = some ms2 := by
      clear hp2 np0 hm
      induction ps generalizing l with
      | nil => exact ⟨[], rfl⟩
      | cons q ps ih =>
        obtain ⟨u, l2, hu, hl2, rfl, np⟩ := modes_cons hl
        obtain ⟨ms2, e⟩ := ih l2 hl2
        have := hv q
        rw [hu] at this
        simp only [Option.map_some, Option.map_eq_some_iff] at this
        obtain ⟨u2, hu2, _⟩ := this
        exact ⟨u2.m :: ms2, by unfold modes; rw [hu2, e]; simp [np]⟩
    obtain ⟨ms2, hm2⟩ := hm2
    obtain ⟨κ', ev', i', rec', un', hv', um', kl', kb', kz', kt'⟩ := lockP_ok ev2 i2 hm2 hp2
    refine ⟨κ', ev', i', fun q m hq => ?_, fun q hq => ?_, fun q => (hv' q).trans (hv q), fun q hq => um' q (un q (.inl hq)), fun a l q => kl' a l (kl2 a l q), fun a l q => kb' a l (kb2 a l q), fun a q => kz' a (kz2 a q), fun a q => kt' a (kt2 a q)⟩
    · rw [List.zip_cons_cons] at hq
      rcases List.mem_cons.mp hq with e | hq
      · cases e
        exact rec2.mono (Nat.le_refl _) (fun a l _ _ => kl' a l) (fun a l _ => kb' a l) (fun _ _ q => q)
      · obtain ⟨hq1, u, hu, rfl⟩ := modes_mem hl hq
        by_cases z : q = p
        · subst z; rw [hs] at hu; cases hu
          exact rec2.mono (Nat.le_refl _) (fun a l _ _ => kl' a l) (fun a l _ => kb' a l) (fun _ _ q => q)
        · exact (rec' _ _ (modes_zip hm2 hq1 (by rw [ap q, if_neg z]; exact hu))).mono (Nat.le_refl _) (fun _ _ _ _ q => q) (fun _ _ _ q => q) kl2
    · rcases List.mem_cons.mp hq with rfl | hq
      · exact um' _ (un _ (.inr rfl))
      · exact un' q hq
end
end BP

namespace BP
open MP (W O Hp Env Exn R rd BinOp CmpOp Blt Ty Ex)
section
variable {d : Nat} {lk : List Nat} {as : List W} {κ : K} {env : Env} {E : EB} {h : Hp} {H : HB}
/-! ### unlocking -/
theorem SlR.less {lk' : List Nat} {l : Own} {s : Sl} {w : W} (hl : ∀ a ∈ lk', a ∈ lk) (e : SlR κ lk h l s w) : SlR κ lk' h l s w := by
  unfold SlR at e ⊢
  split at e
  · exact e
  · obtain ⟨a, e1, e2, e3, e4⟩ := e; exact ⟨a, e1, e2, fun q => e3 (hl a q), e4⟩
  · exact e
theorem Inv.less {lk' : List Nat} (hl : ∀ a ∈ lk', a ∈ lk) (i : Inv d lk as κ env E h H) : Inv d lk' as κ env E h H :=
  ⟨⟨fun j s hs => by obtain ⟨w, h1, h2, h3⟩ := i.e.sl j s hs; exact ⟨w, h1, h2.less hl, h3⟩, i.e.len, i.e.lc⟩,
   ⟨fun a b e => by
      obtain ⟨x, o, h1, h2, h3⟩ := i.b.box a b e
      refine ⟨x, o, h1, h2, ?_⟩
      cases x with
      | ins c fs =>
        obtain ⟨nl, gs, e1, e2⟩ := h3
        refine ⟨fun q => nl (hl a q), gs, e1, fun f => ?_⟩
        have := e2 f
        split at this
        · obtain ⟨w, q1, q2⟩ := this; exact ⟨w, q1, q2.less hl⟩
        · exact this
      | con m v => exact ⟨fun q z => h3.1 q (hl a z), h3.2⟩, i.b.inj, i.b.ex, fun a ha => i.b.lkb a (hl a ha), i.b.lc⟩⟩
/-- cells that may be locked -/
def Safe (d : Nat) (κ : K) (E : EB) (H : HB) (a : Nat) : Prop :=
  (∀ j s, κ a = .slot d j → E[j]?.join = some s → s.m ≠ .own) ∧ (∀ b f c fs s, κ a = .fld b f → H[b]? = some (.ins c fs) → fs.lookup f = some s → s.m ≠ .own) ∧ (∀ b x, κ a = .box b → H[b]? = some x → ∃ m v, x = .con m v ∧ m ≠ .own)
theorem SlR.more {as' : List Nat} {l : Own} {s : Sl} {w : W} (hs : s.m = .own → ∀ a ∈ as', κ a ≠ l) (e : SlR κ lk h l s w) : SlR κ (as' ++ lk) h l s w := by
  unfold SlR at e ⊢
  split at e
  · exact e
  · rename_i hm
    obtain ⟨a, e1, e2, e3, e4⟩ := e
    exact ⟨a, e1, e2, fun q => by
      rcases List.mem_append.mp q with q | q
      · exact hs hm a q e2
      · exact e3 q, e4⟩
  · exact e
theorem Inv.more {as' : List Nat} (i : Inv d lk as κ env E h H) (sf : ∀ a ∈ as', a < h.length ∧ Safe d κ E H a) : Inv d (as' ++ lk) as κ env E h H :=
  ⟨⟨fun j s hs => by
      obtain ⟨w, h1, h2, h3⟩ := i.e.sl j s hs
      exact ⟨w, h1, h2.more fun hm a ha q => (sf a ha).2.1 j s q hs hm, h3⟩, i.e.len, i.e.lc⟩,
   ⟨fun a b e => by
      obtain ⟨x, o, h1, h2, h3⟩ := i.b.box a b e
      refine ⟨x, o, h1, h2, ?_⟩
      cases x with
      | ins c fs =>
        obtain ⟨nl, gs, e1, e2⟩ := h3
        refine ⟨fun q => ?_, gs, e1, fun f => ?_⟩
        · rcases List.mem_append.mp q with q | q
          · obtain ⟨m, v, z, _⟩ := (sf a q).2.2.2 b _ e h1; cases z
          · exact nl q
        · have := e2 f
          split at this
          · rename_i s hs
            obtain ⟨w, q1, q2⟩ := this
            exact ⟨w, q1, q2.more fun hm a' ha q => (sf a' ha).2.2.1 b f c fs s q h1 hs hm⟩
          · exact this
      | con m v =>
        refine ⟨fun hm q => ?_, h3.2⟩
        rcases List.mem_append.mp q with q | q
        · obtain ⟨m', v', z, hm'⟩ := (sf a q).2.2.2 b _ e h1; cases z; exact hm' hm
        · exact h3.1 hm q, i.b.inj, i.b.ex, fun a ha => by
      rcases List.mem_append.mp ha with q | q
      · exact (sf a q).1
      · exact i.b.lkb a q, i.b.lc⟩⟩
theorem ev_unlock {κ0 κp : K} {h0 : Hp} (ev0 : Ev d κ0 κp h0 h0') (ev : Ev d κ0 κ h0 h) {a : Nat} {l l' : Own} (k : κ a = .lck l) (kp : ∀ l, κp a ≠ .lck l) (hl' : ∀ b, l' ≠ .lck b) : Ev d κ0 (upd κ a l') h0 h := by
  refine ⟨⟨ev.len, fun x hx e => ?_, fun x b hx e => ?_⟩, fun d' j hd x hx e => ?_, fun x hx e => ?_, fun b hb x hx e => ?_, fun x d' j hd e => ?_⟩
  · obtain ⟨k1, k2⟩ := ev.frz x hx e
    exact ⟨by rw [upd_ne (fun q => by rw [q, k] at k1; cases k1)]; exact k1, k2⟩
  · have k1 := ev.box x b hx e
    rw [upd_ne (fun q => by rw [q, k] at k1; cases k1)]; exact k1
  · obtain ⟨k1, k2⟩ := ev.slot d' j hd x hx e
    exact ⟨by rw [upd_ne (fun q => by rw [q, k] at k1; cases k1)]; exact k1, k2⟩
  · obtain ⟨k1, k2⟩ := ev.tmp x hx e
    exact ⟨by rw [upd_ne (fun q => by rw [q, k] at k1; cases k1)]; exact k1, k2⟩
  · obtain ⟨k1, k2⟩ := ev.lck b hb x hx e
    have : x ≠ a := fun q => by
      have := (ev0.lck b hb x hx e).1
      rw [q] at this
      exact kp b this
    exact ⟨by rw [upd_ne this]; exact k1, k2⟩
  · unfold upd at e
    split at e
    · exact absurd e (hl' _)
    · exact ev.lckr x d' j hd e
theorem unlock1 {κ0 κp : K} {h0 h0' : Hp} (ev0 : Ev d κ0 κp h0 h0') (ev : Ev d κ0 κ h0 h) (i : Inv d lk as κ env E h H) {p : Pl} {m : Md} (r : Rec d lk κp κ h p m) {s : Sl} (hs : at_ E H p = some s) (hm : s.m = lockM m) {E' : EB} {H' : HB} (hp : put E H ⟨m, s.v, s.arg⟩ p = some (E', H')) :
    ∃ κ', Ev d κ0 κ' h0 h ∧ Inv d lk as κ' env E' h H' ∧ M κ κ' h h ∧ (∀ a, κ a = .tmp → κ' a = .tmp) ∧ (∀ a l, κ a = .lck l → (m = .own → l ≠ lab d p) → κ' a = .lck l) ∧ (∀ a l, κ a = .box l → κ' a = .box l) := by
  have pr := at_rel i hs
  cases hm' : m with
  | own =>
    rw [hm'] at hm hp
    simp only [lockM] at hm
    obtain ⟨a, hl, nl, kp, ka⟩ := r hm'
    cases p with
    | cn b =>
      obtain ⟨a1, k1, oc, _⟩ := pr
      have := i.b.inj a1 a b k1 ka
      subst this
      exact ⟨κ, ev, put_ok i hs hp ⟨M.refl, fun _ _ => Keep.refl, fun _ _ q => q, fun _ _ q _ => q⟩ ⟨a1, k1, oc, fun _ => nl⟩ (fun np => absurd rfl (np b)), M.refl, fun _ q => q, fun _ _ q _ => q, fun _ _ q => q⟩
    | sl j =>
      obtain ⟨w, h1, h2, h3⟩ := pr
      unfold SlR at h2; rw [hm] at h2
      obtain ⟨a1, rfl, k1, oc⟩ := h2
      obtain ⟨u, q1, q2, q3⟩ := i.e.lc a j ka
      have : a1 = a := by rw [h1] at q3; injection q3 with q3; injection q3 with q3; injection q3
      subst this
      have hz : κ a1 ≠ .frz := by rw [k1]; simp
      have hb : ∀ b, κ a1 ≠ .box b := fun _ => by rw [k1]; simp
      have mm : M κ (upd κ a1 (.slot d j)) h h := M.relab hz hb
      refine ⟨upd κ a1 (.slot d j), ev_unlock ev0 ev k1 kp (by simp), ?_, mm, fun x q => by rw [upd_ne (fun z => by rw [z, k1] at q; cases q)]; exact q, fun x l q hl => by rw [upd_ne (fun z => by rw [z, k1] at q; cases q; exact hl rfl rfl)]; exact q, fun x l q => by rw [upd_ne (fun z => by rw [z, k1] at q; cases q)]; exact q⟩
      refine put_ok i hs hp (Go.relab hz hb (by simp [k1, lab]) (by simp) (by simp)) ⟨_, h1, ⟨a1, rfl, upd_same, nl, oc.mono mm rfl⟩, h3⟩ fun _ x hx => ?_
      unfold upd at hx
      split at hx
      · cases hx
      · rename_i hne
        obtain ⟨u', z1, z2, z3⟩ := i.e.lc x j hx
        rw [h1] at z3; cases z3; exact absurd rfl hne
    | fd b f =>
      obtain ⟨a2, c, gs, w, k2, k3, k4, h2⟩ := pr
      unfold SlR at h2; rw [hm] at h2
      obtain ⟨a1, rfl, k1, oc⟩ := h2
      obtain ⟨c', fs, u, a3, gs', q1, q2, q3, q4, q5, q6⟩ := i.b.lc a b f ka
      have := i.b.inj a2 a3 b k2 q4
      subst this
      rw [k3] at q5; cases q5
      have : a1 = a := by rw [k4] at q6; injection q6 with q6; injection q6
      subst this
      have hz : κ a1 ≠ .frz := by rw [k1]; simp
      have hb : ∀ b, κ a1 ≠ .box b := fun _ => by rw [k1]; simp
      have mm : M κ (upd κ a1 (.fld b f)) h h := M.relab hz hb
      have ne : a2 ≠ a1 := fun z => by rw [z, k1] at k2; cases k2
      refine ⟨upd κ a1 (.fld b f), ev_unlock ev0 ev k1 kp (by simp), ?_, mm, fun x q => by rw [upd_ne (fun z => by rw [z, k1] at q; cases q)]; exact q, fun x l q hl => by rw [upd_ne (fun z => by rw [z, k1] at q; cases q; exact hl rfl rfl)]; exact q, fun x l q => by rw [upd_ne (fun z => by rw [z, k1] at q; cases q)]; exact q⟩
      refine put_ok i hs hp (Go.relab hz hb (by simp [k1, lab]) (by simp) (by simp)) ⟨a2, c, gs, _, by rw [upd_ne ne]; exact k2, k3, k4, a1, rfl, upd_same, nl, oc.mono mm rfl⟩ fun _ x hx => ?_
      unfold upd at hx
      split at hx
      · cases hx
      · rename_i hne
        obtain ⟨c', fs, u, a3, gs', q1, q2, q3, q4, q5, q6⟩ := i.b.lc x b f hx
        have := i.b.inj a2 a3 b k2 q4
        subst this
        rw [k3] at q5; cases q5
        rw [k4] at q6; cases q6; exact absurd rfl hne
  | fz =>
    rw [hm'] at hm hp
    simp only [lockM] at hm
    refine ⟨κ, ev, put_ok i hs hp ⟨M.refl, fun _ _ => Keep.refl, fun _ _ q => q, fun _ _ q _ => q⟩ ?_ ?_, M.refl, fun _ q => q, fun _ _ q _ => q, fun _ _ q => q⟩
    · cases p with
      | sl j => obtain ⟨w, h1, h2, h3⟩ := pr; unfold SlR at h2; rw [hm] at h2; exact ⟨w, h1, h2, h3⟩
      | fd b f => obtain ⟨a, c, gs, w, h1, h2, h3, h4⟩ := pr; unfold SlR at h4; rw [hm] at h4; exact ⟨a, c, gs, w, h1, h2, h3, h4⟩
      | cn b => obtain ⟨a, h1, h2, h3⟩ := pr; exact ⟨a, h1, h2, fun q => by cases q⟩
    · intro np x hx
      exfalso
      cases p with
      | sl j => obtain ⟨u, h1, h2, _⟩ := i.e.lc x j hx; simp only [at_] at hs; rw [hs] at h1; cases h1; rw [hm] at h2; cases h2
      | fd b f =>
        obtain ⟨c', fs, u, a1, gs, h1, h2, h3, _⟩ := i.b.lc x b f hx
        simp only [at_, h1, fdS] at hs
        rw [h2] at hs; cases hs; rw [hm] at h3; cases h3
      | cn b => exact np b rfl
  | lkd =>
    rw [hm'] at hm hp
    simp only [lockM] at hm
    refine ⟨κ, ev, put_ok i hs hp ⟨M.refl, fun _ _ => Keep.refl, fun _ _ q => q, fun _ _ q _ => q⟩ ?_ ?_, M.refl, fun _ q => q, fun _ _ q _ => q, fun _ _ q => q⟩
    · cases p with
      | sl j => obtain ⟨w, h1, h2, h3⟩ := pr; unfold SlR at h2; rw [hm] at h2; exact ⟨w, h1, h2, h3⟩
      | fd b f => obtain ⟨a, c, gs, w, h1, h2, h3, h4⟩ := pr; unfold SlR at h4; rw [hm] at h4; exact ⟨a, c, gs, w, h1, h2, h3, h4⟩
      | cn b => obtain ⟨a, h1, h2, h3⟩ := pr; exact ⟨a, h1, h2, fun q => by cases q⟩
    · intro np x hx
      refine ⟨rfl, ?_⟩
      cases p with
      | sl j => obtain ⟨u, h1, h2, h3⟩ := i.e.lc x j hx; exact h3
      | fd b f =>
        obtain ⟨c', fs, u, a1, gs, h1, h2, h3, h4, h5, h6⟩ := i.b.lc x b f hx
        exact ⟨a1, _, _, h4, h5, h6⟩
      | cn b => exact absurd rfl (np b)
/-- the places are unlocked again, the last one first -/
theorem unlockP_ok {κ0 κp : K} {h0 h0' : Hp} (ev0 : Ev d κ0 κp h0 h0') (ev : Ev d κ0 κ h0 h) (i : Inv d lk as κ env E h H) : ∀ {ps : List Pl} {ms : List Md} {E' : EB} {H' : HB}, ps.Nodup → (∀ p m, (p, m) ∈ ps.zip ms → Rec d lk κp κ h p m) → unlockP E H ps ms = some (E', H') →
    ∃ κ', Ev d κ0 κ' h0 h ∧ Inv d lk as κ' env E' h H' ∧ M κ κ' h h ∧ (∀ a, κ a = .tmp → κ' a = .tmp) ∧ (∀ a l, κ a = .lck l → (∀ p m, (p, m) ∈ ps.zip ms → m = .own → l ≠ lab d p) → κ' a = .lck l) ∧ (∀ a l, κ a = .box l → κ' a = .box l)
  | [], ms, E', H', nd, hr, hp => by
    simp only [unlockP] at hp; cases hp
    exact ⟨κ, ev, i, M.refl, fun _ q => q, fun _ _ q _ => q, fun _ _ q => q⟩
  | p :: ps, [], E', H', nd, hr, hp => by
    simp only [unlockP] at hp; cases hp
    exact ⟨κ, ev, i, M.refl, fun _ q => q, fun _ _ q _ => q, fun _ _ q => q⟩
  | p :: ps, m :: ms, E', H', nd, hr, hp => by
    simp only [unlockP, Option.bind_eq_some_iff] at hp
    obtain ⟨⟨E2, H2⟩, h1, s, hs, h2⟩ := hp
    obtain ⟨hm, h2⟩ := guardO_some h2
    simp only [decide_eq_true_eq] at hm
    rw [List.nodup_cons] at nd
    obtain ⟨κ2, ev2, i2, m2, t2, l2, b2⟩ := unlockP_ok ev0 ev i nd.2 (fun q m' hq => hr q m' (by rw [List.zip_cons_cons]; exact List.mem_cons_of_mem _ hq)) h1
    have r := hr p m (by rw [List.zip_cons_cons]; exact List.mem_cons_self)
    have r2 : Rec d lk κp κ2 h p m := fun hm => by
      obtain ⟨a, q1, q2, q3, q4⟩ := r hm
      refine ⟨a, q1, q2, q3, ?_⟩
      have hne : ∀ q m', (q, m') ∈ ps.zip ms → m' = .own → lab d p ≠ lab d q := fun q m' hq _ z => by
        have : q ∈ ps := (List.of_mem_zip hq).1
        have : p ≠ q := fun y => nd.1 (by rw [y]; exact this)
        cases p <;> cases q <;> simp_all [lab]
      cases p with
      | cn b => exact b2 a b q4
      | sl j => exact l2 a _ q4 hne
      | fd b f => exact l2 a _ q4 hne
    obtain ⟨κ3, ev3, i3, m3, t3, l3, b3⟩ := unlock1 ev0 ev2 i2 r2 hs hm h2
    refine ⟨κ3, ev3, i3, m2.trans m3, fun a q => t3 a (t2 a q), fun a l q hl => l3 a l (l2 a l q fun q' m' hq => hl q' m' (by rw [List.zip_cons_cons]; exact List.mem_cons_of_mem _ hq)) ?_, fun a l q => b3 a l (b2 a l q)⟩
    exact fun z => hl p m (by rw [List.zip_cons_cons]; exact List.mem_cons_self) z
end
end BP

namespace BP
open MP (W O Hp Env Exn R rd BinOp CmpOp Blt Ty Ex)
/-! ### one step of both readings -/
def DVf (κ : K) (h : Hp) : List (String × V) → List (String × W) → Prop
  | [], ws => ws = []
  | (f, v) :: r, ws => ∃ w q, ws = (f, w) :: q ∧ DV κ h v w ∧ DVf κ h r q
def XR (κ : K) (h : Hp) (x : BX) (y : Exn) : Prop := y.c = x.c ∧ DVf κ h x.fs y.fs
abbrev Post (α β : Type) := α → β → K → Hp → EB → HB → Prop
/-- P of a value v, both readings' states before being κ0, h0 -/
def SimR {α β : Type} (d : Nat) (I : K → Hp → EB → HB → Prop) (κ0 : K) (h0 : Hp) (P : Post α β) (r : R β) (b : B α) : Prop := match b with
  | .bad => True
  | .ok x E H => ∃ y h κ, r = .ok y h ∧ Ev d κ0 κ h0 h ∧ I κ h E H ∧ P x y κ h E H
  | .exc x E H => ∃ y h κ, r = .exc y h ∧ Ev d κ0 κ h0 h ∧ I κ h E H ∧ XR κ h x y
abbrev IE (d : Nat) (lk : List Nat) (as : List W) (env : Env) : K → Hp → EB → HB → Prop := fun κ h E H => Inv d lk as κ env E h H
section
variable {I : K → Hp → EB → HB → Prop} {d : Nat} {lk : List Nat} {as : List W} {κ κ0 : K} {env : Env} {E : EB} {h h0 : Hp} {H : HB} {α β γ δ : Type} {P : Post α β} {Q : Post γ δ}
theorem SimR.bind {r : R β} {b : B α} {f : β → Hp → R δ} {g : α → EB → HB → B γ} (s : SimR d I κ0 h0 P r b)
    (k : ∀ x y κ h E H, r = .ok y h → b = .ok x E H → Ev d κ0 κ h0 h → I κ h E H → P x y κ h E H → SimR d I κ0 h0 Q (f y h) (g x E H)) : SimR d I κ0 h0 Q (r.bind f) (b.bind g) := by
  cases b with
  | bad => exact True.intro
  | ok x E H =>
    obtain ⟨y, h, κ, rfl, e1, e2, e3⟩ := s
    exact k x y κ h E H rfl rfl e1 e2 e3
  | exc x E H =>
    obtain ⟨y, h, κ, rfl, e1, e2, e3⟩ := s
    exact ⟨y, h, κ, rfl, e1, e2, e3⟩
theorem SimR.base {r : R β} {b : B α} (ev : Ev d κ0 κ h0 h) (s : SimR d I κ h P r b) (q : ∀ x y κ' h' E H, Ev d κ κ' h h' → P x y κ' h' E H → ∀ P' : Post α β, P' = P → P' x y κ' h' E H) : SimR d I κ0 h0 P r b := by
  cases b with
  | bad => exact True.intro
  | ok x E H => obtain ⟨y, h, κ, rfl, e1, e2, e3⟩ := s; exact ⟨y, h, κ, rfl, ev.trans e1, e2, e3⟩
  | exc x E H => obtain ⟨y, h, κ, rfl, e1, e2, e3⟩ := s; exact ⟨y, h, κ, rfl, ev.trans e1, e2, e3⟩
theorem SimR.up {r : R β} {b : B α} (ev : Ev d κ0 κ h0 h) (s : SimR d I κ h P r b) : SimR d I κ0 h0 P r b := s.base ev fun _ _ _ _ _ _ _ p _ e => e ▸ p
theorem SimR.imp {P' : Post α β} {r : R β} {b : B α} (s : SimR d I κ0 h0 P r b) (q : ∀ x y κ h E H, Ev d κ0 κ h0 h → I κ h E H → P x y κ h E H → P' x y κ h E H) : SimR d I κ0 h0 P' r b := by
  cases b with
  | bad => exact True.intro
  | ok x E H => obtain ⟨y, h, κ, rfl, e1, e2, e3⟩ := s; exact ⟨y, h, κ, rfl, e1, e2, q _ _ _ _ _ _ e1 e2 e3⟩
  | exc x E H => obtain ⟨y, h, κ, rfl, e1, e2, e3⟩ := s; exact ⟨y, h, κ, rfl, e1, e2, e3⟩
theorem SimR.okk {x : α} {y : β} (ev : Ev d κ0 κ h0 h) (i : I κ h E H) (p : P x y κ h E H) : SimR d I κ0 h0 P (.ok y h) (.ok x E H) := ⟨y, h, κ, rfl, ev, i, p⟩
theorem SimR.then {o : Option γ} {r : R β} {g : γ → B α} (k : ∀ x, o = some x → SimR d I κ0 h0 P r (g x)) : SimR d I κ0 h0 P r (thenB o g) := by
  cases o with
  | none => exact True.intro
  | some x => exact k x rfl
theorem SimR.guard {c : Bool} {r : R β} {b : B α} (k : c = true → SimR d I κ0 h0 P r b) : SimR d I κ0 h0 P r (guardB c b) := by
  cases c with
  | false => exact True.intro
  | true => exact k rfl
theorem SimR.of {o : Option α} {r : R β} (k : ∀ x, o = some x → SimR d I κ0 h0 P r (.ok x E H)) : SimR d I κ0 h0 P r (B.of o E H) := by
  cases o with
  | none => exact True.intro
  | some x => exact k x rfl
/-- what an expression answers -/
def PE (lk : List Nat) (n0 : Nat → Prop) (env : Env) : Post RV W := fun r w κ h _ _ => RR lk n0 κ env h r w
def PV : Post V W := fun v w κ h _ _ => DV κ h v w
def PVs : Post (List V) (List W) := fun v w κ h _ _ => DVs κ h v w
theorem PE.up {n0 n1 : Nat → Prop} (hn : ∀ a, n1 a → n0 a) {r : RV} {w : W} (e : RR lk n1 κ env h r w) : RR lk n0 κ env h r w := by
  cases r with
  | val v => exact e
  | tmp v => obtain ⟨a, e1, e2, e3, e4⟩ := e; exact ⟨a, e1, e2, hn _ e3, e4⟩
  | pl p => cases p <;> exact e
/-- an expression within another one -/
theorem SimR.sub {r : R W} {b : B RV} (ev : Ev d κ0 κ h0 h) (s : SimR d (IE d lk as env) κ h (PE lk (Bs κ h) env) r b) : SimR d (IE d lk as env) κ0 h0 (PE lk (Bs κ0 h0) env) r b :=
  (s.imp fun _ _ _ _ _ _ _ _ p => PE.up (fun _ => ev.bs) p).up ev
/-- a step that only answers -/
theorem SimR.pr {r : RV} {m : R W} (ev : Ev d κ0 κ h0 h) (i : Inv d lk as κ env E h H) (p : PR κ h r m) : SimR d (IE d lk as env) κ0 h0 (PE lk (Bs κ0 h0) env) m (.ok r E H) := by
  cases r with
  | pl q => exact p.elim
  | val v => obtain ⟨w, rfl, dv⟩ := p; exact ⟨w, h, κ, rfl, ev, i, dv⟩
  | tmp v =>
    obtain ⟨o, rfl, c⟩ := p
    have s : Same κ (upd κ h.length .tmp) h (h ++ [o]) := Same.new (by simp) (by simp)
    refine ⟨.ref h.length, h ++ [o], upd κ h.length .tmp, rfl, ev.trans s.ev, ⟨s.einv i.e, s.hinv i.b⟩, h.length, rfl, upd_same, fun hl => absurd hl (Nat.not_lt.mpr ev.len), fun q => Nat.lt_irrefl _ (i.b.lkb _ q), o, by simp [rd], c.mono s.m⟩
theorem SimR.val {v : V} {w : W} (ev : Ev d κ0 κ h0 h) (i : Inv d lk as κ env E h H) (dv : DV κ h v w) : SimR d (IE d lk as env) κ0 h0 (PE lk (Bs κ0 h0) env) (.ok w h) (.ok (.val v) E H) := ⟨w, h, κ, rfl, ev, i, dv⟩
theorem SimR.seal {r : R W} {b : B RV} (s : SimR d (IE d lk as env) κ0 h0 (PE lk (Bs κ0 h0) env) r b) : SimR d (IE d lk as env) κ0 h0 PV r (sealB b) := by
  cases b with
  | bad => exact True.intro
  | exc x E H => exact s
  | ok x E H =>
    obtain ⟨y, h, κ, rfl, ev, i, p⟩ := s
    simp only [sealB, B.bind_ok]
    cases q : sealR E H x with
    | bad => exact True.intro
    | exc x' E' H' =>
      exfalso
      cases x with
      | val v => cases q
      | tmp v => cases q
      | pl pp => cases pp with
        | cn b => cases q
        | sl j => simp only [sealR] at q; cases hj : E[j]?.join with
          | none => rw [hj] at q; cases q
          | some s => rw [hj] at q; simp only [thenB_some, sealS] at q; split at q <;> cases q
        | fd b f => simp only [sealR] at q; cases hj : fdS f H[b]? with
          | none => rw [hj] at q; cases q
          | some s => rw [hj] at q; simp only [thenB_some, sealF] at q; split at q <;> cases q
    | ok v E' H' =>
      obtain ⟨κ', ev', i', dv, _⟩ := seal_ok ev i p q
      exact ⟨y, h, κ', rfl, ev', i', dv⟩
/-- a new box -/
theorem box_new (i : Inv d lk as κ env E h H) {a : Nat} {x : Bx} (k : κ a = .tmp) (ho : ∃ o, rd h a = some o ∧ BxR (upd κ a (.box H.length)) lk h H.length a x o) (hlk : ∀ f s, fdS f (some x) = some s → s.m ≠ .lkd) :
    Inv d lk as (upd κ a (.box H.length)) env E h (H ++ [x]) := by
  have hz : κ a ≠ .frz := by rw [k]; simp
  have hb : ∀ b, κ a ≠ .box b := fun _ => by rw [k]; simp
  have m : M κ (upd κ a (.box H.length)) h h := M.relab hz hb
  have nl : ∀ x l, upd κ a (.box H.length) x = .lck l → κ x = .lck l := fun x l q => by
    unfold upd at q; split at q
    · cases q
    · exact q
  have nf : ∀ x, κ x ≠ .box H.length := fun x q => by
    obtain ⟨_, _, e, _⟩ := i.b.box x _ q
    have := (List.getElem?_eq_some_iff.mp e).1
    omega
  refine ⟨i.e.mono m (fun j => Keep.relab (by rw [k]; simp)) (fun j => Keep.relab (by rw [k]; simp)) fun x j q => nl x _ q, fun x b q => ?_, fun x x' b q q' => ?_, fun b hb' => ?_, i.b.lkb, fun x b f q => ?_⟩
  · unfold upd at q
    split at q
    · rename_i z
      cases q; subst z
      obtain ⟨o, h1, h2⟩ := ho
      exact ⟨_, o, by simp, h1, h2⟩
    · obtain ⟨y, o, e1, e2, e3⟩ := i.b.box x b q
      exact ⟨y, o, by rw [List.getElem?_append_left (List.getElem?_eq_some_iff.mp e1).1]; exact e1, e2, e3.mono m (fun f => Keep.relab (by rw [k]; simp)) (fun f => Keep.relab (by rw [k]; simp)) rfl⟩
  · unfold upd at q q'
    split at q <;> split at q'
    · rename_i z z'; rw [z, z']
    · cases q; exact absurd q' (nf _)
    · cases q'; exact absurd q (nf _)
    · exact i.b.inj x x' b q q'
  · rw [List.length_append] at hb'
    simp only [List.length_singleton] at hb'
    by_cases z : b = H.length
    · subst z; exact ⟨a, upd_same⟩
    · obtain ⟨x', e⟩ := i.b.ex b (by omega)
      exact ⟨x', by rw [upd_ne (fun y => hb b (by rw [← y]; exact e))]; exact e⟩
  · obtain ⟨c, fs, s, a', gs, e1, e2, e3, e4, e5, e6⟩ := i.b.lc x b f (nl x _ q)
    exact ⟨c, fs, s, a', gs, by rw [List.getElem?_append_left (List.getElem?_eq_some_iff.mp e1).1]; exact e1, e2, e3, by rw [upd_ne (fun y => hb b (by rw [← y]; exact e4))]; exact e4, e5, e6⟩
theorem ev_box (ev : Ev d κ0 κ h0 h) {a : Nat} {l : Own} (hl : ∀ b, l ≠ .lck b) (k : κ a = .tmp) (n : Bs κ0 h0 a) : Ev d κ0 (upd κ a l) h0 h :=
  ev_relab ev (fun _ _ _ _ => by rw [k]; simp) (fun _ => by rw [k]; simp) (by rw [k]; simp) (fun _ => n) (fun _ => by rw [k]; simp) (fun _ _ _ => hl _)
/-- a fresh cell becomes a box -/
theorem bx_ok (ev : Ev d κ0 κ h0 h) (i : Inv d lk as κ env E h H) {v : V} {a : Nat} (k : κ a = .tmp) (n : Bs κ0 h0 a) (nl : a ∉ lk) (o : OwnC κ h v a) :
    Ev d κ0 (upd κ a (.box H.length)) h0 h ∧ Inv d lk as (upd κ a (.box H.length)) env E h (H ++ [.con .own v]) ∧ DV (upd κ a (.box H.length)) h (.ref H.length) (.ref a) := by
  have hz : κ a ≠ .frz := by rw [k]; simp
  have hb : ∀ b, κ a ≠ .box b := fun _ => by rw [k]; simp
  have m : M κ (upd κ a (.box H.length)) h h := M.relab hz hb
  have o' := o.mono m rfl
  obtain ⟨c, r, _⟩ := o
  exact ⟨ev_box ev (by simp) k n, box_new i k ⟨c, r, fun _ => nl, o'⟩ (fun f s q => by cases q), by unfold DV; exact ⟨a, rfl, upd_same, rd_lt r⟩⟩
theorem store_ok (X : BCx) (kk j : Nat) {r : R W} {b : B RV} (s : SimR d (IE d lk as env) κ0 h0 (PE lk (Bs κ0 h0) env) r b) : SimR d (IE d lk as env) κ0 h0 PV r (storeB X kk j b) := by
  cases b with
  | bad => exact True.intro
  | exc x E H => exact s
  | ok x E H =>
    simp only [storeB, B.bind_ok, storeR]
    split
    · rename_i c
      rw [Bool.and_eq_true] at c
      cases x with
      | val v => cases c.1
      | pl p => cases c.1
      | tmp v =>
        obtain ⟨y, h, κ, rfl, ev, i, a, rfl, k, n, nl, o⟩ := s
        obtain ⟨q1, q2, q3⟩ := bx_ok ev i k n nl o
        exact ⟨.ref a, h, _, rfl, q1, q2, q3⟩
    · exact s.seal
end
end BP

namespace BP
open MP (W O Hp Env Exn R rd BinOp CmpOp Blt Ty Ex)
section
variable {d : Nat} {lk : List Nat} {as : List W} {κ κ0 : K} {env : Env} {E : EB} {h h0 : Hp} {H : HB} {α β γ δ : Type} {P : Post α β} {Q : Post γ δ}
/-! ### slots put aside -/
theorem wipeB_len (E : EB) : ∀ own : List Nat, (wipeB E own).length = E.length
  | [] => rfl
  | i :: is => by simp [wipeB_len E is]
theorem wipe_len (E : Env) : ∀ own : List Nat, (MP.wipe E own).length = E.length
  | [] => rfl
  | i :: is => by simp [wipe_len E is]
theorem join_set {α : Type} (l : List (Option α)) (i j : Nat) (x : Option α) : (l.set i x)[j]?.join = if j = i then (if i < l.length then x else none) else l[j]?.join := by
  by_cases q : j = i
  · subst q
    simp only [if_pos]
    by_cases z : j < l.length
    · rw [List.getElem?_set_self z]; simp [z]
    · rw [List.getElem?_eq_none (by simp; omega)]; simp [z]
  · rw [List.getElem?_set_ne (fun z => q z.symm)]; simp [q]
theorem wipeB_get (E : EB) (j : Nat) : ∀ own : List Nat, (wipeB E own)[j]?.join = if j ∈ own then none else E[j]?.join
  | [] => by simp
  | i :: is => by
    unfold wipeB
    rw [join_set, wipeB_get E j is]
    by_cases q : j = i
    · simp [q]
    · by_cases z : j ∈ is <;> simp [q, z]
theorem wipe_get (E : Env) (j : Nat) : ∀ own : List Nat, j ∉ own → (MP.wipe E own)[j]? = E[j]?
  | [], _ => rfl
  | i :: is, h => by
    unfold MP.wipe
    rw [List.mem_cons, not_or] at h
    rw [List.getElem?_set_ne (fun z => h.1 z.symm)]; exact wipe_get E j is h.2
theorem aside_get : ∀ {own : List Nat}, asideOk E own = true → ∀ j ∈ own, ∀ s, E[j]?.join = some s → s.m = .fz
  | [], _, j, hj, _, _ => by cases hj
  | i :: is, c, j, hj, s, hs => by
    unfold asideOk at c
    rw [Bool.and_eq_true] at c
    rcases List.mem_cons.mp hj with rfl | hj
    · rw [hs] at c; simpa using c.1
    · exact aside_get c.2 j hj s hs
theorem wipe_inv {env'' : Env} (i : Inv d lk as κ env'' E h H) {own : List Nat} (he : ∀ j, j ∉ own → env''[j]? = env[j]?) (hl : env''.length = env.length) (c : asideOk E own = true) : Inv d lk as κ (MP.wipe env own) (wipeB E own) h H := by
  refine ⟨⟨fun j s hs => ?_, by rw [wipeB_len, wipe_len, i.e.len, hl], fun a j q => ?_⟩, i.b⟩
  · rw [wipeB_get] at hs
    split at hs
    · cases hs
    · rename_i nj
      obtain ⟨w, h1, h2, h3⟩ := i.e.sl j s hs
      exact ⟨w, by rw [wipe_get _ _ _ nj, ← he j nj]; exact h1, h2, h3⟩
  · obtain ⟨s, h1, h2, h3⟩ := i.e.lc a j q
    by_cases nj : j ∈ own
    · have := aside_get c j nj s h1
      rw [this] at h2; cases h2
    · exact ⟨s, by rw [wipeB_get]; simp [nj, h1], h2, by rw [wipe_get _ _ _ nj, ← he j nj]; exact h3⟩
theorem restB_len (E0 E : EB) : ∀ own : List Nat, (restB E0 E own).length = E.length
  | [] => rfl
  | i :: is => by simp [restB_len E0 E is]
theorem restB_get (E0 E : EB) (hl : E0.length = E.length) (j : Nat) : ∀ own : List Nat, (restB E0 E own)[j]?.join = if j ∈ own then E0[j]?.join else E[j]?.join
  | [] => by simp
  | i :: is => by
    unfold restB
    rw [join_set, restB_get E0 E hl j is, restB_len]
    by_cases q : j = i
    · subst q
      by_cases z : j < E.length
      · simp [z]
      · rw [List.getElem?_eq_none (by omega : E0.length ≤ j)]; simp [z]
    · by_cases z : j ∈ is <;> simp [q, z]
theorem rest_inv (i0 : Inv d lk0 as κ env E h H) {κ' : K} {h' : Hp} {H' : HB} {E' : EB} {env'' : Env} (m : M κ κ' h h') {own : List Nat} (c0 : asideOk E own = true) (c : asideOk E' own = true)
    (i : Inv d lk as κ' env'' E' h' H') (he : ∀ j, j ∉ own → env''[j]? = env[j]?) (hl : env''.length = env.length) : Inv d lk as κ' env (restB E E' own) h' H' := by
  have hlen : E.length = E'.length := by rw [i0.e.len, i.e.len, hl]
  refine ⟨⟨fun j s hs => ?_, by rw [restB_len, ← hlen, i0.e.len], fun a j q => ?_⟩, i.b⟩
  · rw [restB_get E E' hlen] at hs
    split at hs
    · rename_i nj
      have hm := aside_get c0 j nj s hs
      obtain ⟨w, h1, h2, h3⟩ := i0.e.sl j s hs
      unfold SlR at h2
      rw [hm] at h2
      refine ⟨w, h1, ?_, h3⟩
      unfold SlR; rw [hm]
      exact DV.mono m h2
    · rename_i nj
      obtain ⟨w, h1, h2, h3⟩ := i.e.sl j s hs
      exact ⟨w, by rw [← he j nj]; exact h1, h2, h3⟩
  · obtain ⟨s, h1, h2, h3⟩ := i.e.lc a j q
    by_cases nj : j ∈ own
    · have := aside_get c j nj s h1
      rw [this] at h2; cases h2
    · exact ⟨s, by rw [restB_get E E' hlen]; simp [nj, h1], h2, by rw [← he j nj]; exact h3⟩
/-- behind some turns: the slots put aside may hold anything -/
def IJ (C : K → Hp → Prop) (d : Nat) (lk : List Nat) (as : List W) (env : Env) (own : List Nat) : K → Hp → EB → HB → Prop := fun κ h E H => C κ h ∧ ∃ env'' : Env, (∀ j, j ∉ own → env''[j]? = env[j]?) ∧ env''.length = env.length ∧ Inv d lk as κ env'' E h H
/-- what the lock must know: the cells are safe behind it -/
def WalkS (d : Nat) (lk : List Nat) (as : List W) (κ : K) (env : Env) (h : Hp) (E : EB) (H : HB) (ps : List Pl) (al : List Nat) : Prop :=
  ∀ κ1 E1 H1, Inv d lk as κ1 env E1 h H1 → (∀ a, κ a = .frz → κ1 a = .frz) → (∀ a, κ a = .tmp → κ1 a = .tmp) → (∀ a l, κ a = .box l → κ1 a = .box l) → (∀ p ∈ ps, Unown E1 H1 p) → (∀ p, (at_ E1 H1 p).map (fun s => s.v) = (at_ E H p).map fun s => s.v) → ∀ a ∈ al, a < h.length ∧ Safe d κ1 E1 H1 a
theorem modes_nodup : ∀ {ps : List Pl} {l : List Md}, modes E H ps = some l → ps.Nodup
  | [], _, _ => List.nodup_nil
  | p :: ps, l, e => by
    obtain ⟨u, l2, _, hl2, _, np⟩ := modes_cons e
    exact List.nodup_cons.mpr ⟨np, modes_nodup hl2⟩
theorem M.of (hz : ∀ a, κ a = .frz → κ' a = .frz) (hb : ∀ a l, κ a = .box l → κ' a = .box l) : M κ κ' h h := ⟨Nat.le_refl _, fun a _ e => ⟨hz a e, rfl⟩, fun a b _ e => hb a b e⟩
theorem locked_ok {C : K → Hp → Prop} {ps : List Pl} {own : List Nat} {al : List Nat} {f : EB → HB → B α} {r : R β} (ev : Ev d κ0 κ h0 h) (i : Inv d lk as κ env E h H) (ws : WalkS d lk as κ env h E H ps al)
    (hP : ∀ x y κ κ' h E H E' H', M κ κ' h h → P x y κ h E H → P x y κ' h E' H')
    (k : ∀ κ1 E1 H1, M κ κ1 h h → Inv d (al ++ lk) as κ1 env E1 h H1 → SimR d (IJ C d (al ++ lk) as env own) κ1 h P r (f E1 H1)) :
    SimR d (IE d lk as env) κ0 h0 P r (locked ps own E H f) := by
  refine SimR.guard fun c0 => SimR.then fun ms hm => SimR.then fun q hq => ?_
  obtain ⟨E1, H1⟩ := q
  obtain ⟨κ1, ev1, i1, rec1, un1, hv1, _, kl1, kb1, kz1, kt1⟩ := lockP_ok ev i hm hq
  have i2 : Inv d (al ++ lk) as κ1 env E1 h H1 := i1.more (ws κ1 E1 H1 i1 kz1 kt1 kb1 un1 hv1)
  have s := k κ1 E1 H1 (M.of kz1 kb1) i2
  cases hb : f E1 H1 with
  | bad => exact True.intro
  | exc x E' H' => exact True.intro
  | ok x E' H' =>
    rw [hb] at s
    obtain ⟨y, h', κ2, rfl, ev2, ⟨_, env'', he, hl, i3⟩, p⟩ := s
    simp only [B.calm_ok, B.bind_ok]
    refine SimR.guard fun c => SimR.then fun q hq => ?_
    obtain ⟨E3, H3⟩ := q
    have i4 : Inv d lk as κ2 env (restB E E' own) h' H' := (rest_inv i ((M.of kz1 kb1).trans ev2.toM) c0 c i3 he hl).less fun a ha => List.mem_append_right _ ha
    obtain ⟨κ3, ev3, i5, m3, _, _, _⟩ := unlockP_ok ev (ev1.trans ev2) i4 (modes_nodup hm) (fun p m hpm => (rec1 p m hpm).mono ev2.len (fun a l hk hl q => (ev2.lck l hk a hl q).1) (fun a l hl q => ev2.box a l hl q) fun _ _ q => q) hq
    exact ⟨y, h', κ3, rfl, ev3, i5, hP _ _ _ _ _ _ _ _ _ m3 p⟩
theorem SimR.calm {I : K → Hp → EB → HB → Prop} {r : R β} {b : B α} (s : SimR d I κ0 h0 P r b) : SimR d I κ0 h0 P r.calm b.calm := by
  cases b with
  | bad => exact True.intro
  | exc x E H => exact True.intro
  | ok x E H => obtain ⟨y, h, κ, rfl, e⟩ := s; exact ⟨y, h, κ, rfl, e⟩
def PO : Post (Option V) (Option W) := fun o o' κ h _ _ => match o, o' with
  | some v, some w => DV κ h v w
  | none, none => True
  | _, _ => False
theorem PO.list {o : Option V} {o' : Option W} (p : PO o o' κ h E H) : DVs κ h o.toList o'.toList := by
  cases o with
  | none => cases o' with
    | none => exact .nil
    | some w => exact p.elim
  | some v => cases o' with
    | none => exact p.elim
    | some w => exact .one p
theorem comp_loop {I : K → Hp → EB → HB → Prop} {f : W → Hp → R (Option W)} {g : V → EB → HB → B (Option V)} (st : ∀ x w κ h E H, I κ h E H → DV κ h x w → SimR d I κ h PO (f w h) (g x E H)) :
    ∀ (xs : List V) (ws : List W) (acc : List V) (wacc : List W) (κ : K) (h : Hp) (E : EB) (H : HB), I κ h E H → DVs κ h xs ws → DVs κ h acc wacc → SimR d I κ h PVs (MP.compL f ws wacc h) (bcomp g xs acc E H)
  | [], ws, acc, wacc, κ, h, E, H, i, dx, da => by
    rw [dx.nil_inv]
    exact ⟨wacc, h, κ, rfl, .refl, i, da⟩
  | x :: xs, ws, acc, wacc, κ, h, E, H, i, dx, da => by
    obtain ⟨w, r, rfl, d1, d2⟩ := dx.cons_inv
    unfold MP.compL bcomp
    refine SimR.bind (st x w κ h E H i d1).calm fun o o' κ1 h1 E1 H1 _ _ ev1 i1 p => ?_
    refine SimR.guard fun c => ?_
    have hl : wacc.length = acc.length := da.len
    rw [hl, c]
    exact (comp_loop st xs r (acc ++ o.toList) (wacc ++ o'.toList) κ1 h1 E1 H1 i1 (d2.mono ev1.toM) ((da.mono ev1.toM).app p.list)).up ev1
def PKs : Post (List (V × V)) (List (W × W)) := fun v w κ h _ _ => DVp κ h v w
theorem keys_loop {I : K → Hp → EB → HB → Prop} {f : W → Hp → R W} {g : V → EB → HB → B V} (st : ∀ x w κ h E H, I κ h E H → DV κ h x w → SimR d I κ h PV (f w h) (g x E H)) :
    ∀ (xs : List V) (ws : List W) (κ : K) (h : Hp) (E : EB) (H : HB), I κ h E H → DVs κ h xs ws → SimR d I κ h PKs (MP.mapKeys f ws h) (bkeys g xs E H)
  | [], ws, κ, h, E, H, i, dx => by
    rw [dx.nil_inv]
    exact ⟨[], h, κ, rfl, .refl, i, .nil⟩
  | x :: xs, ws, κ, h, E, H, i, dx => by
    obtain ⟨w, r, rfl, d1, d2⟩ := dx.cons_inv
    unfold MP.mapKeys bkeys
    refine SimR.bind (st x w κ h E H i d1).calm fun k k' κ1 h1 E1 H1 _ _ ev1 i1 p => ?_
    refine SimR.up ev1 (SimR.bind (keys_loop st xs r κ1 h1 E1 H1 i1 (d2.mono ev1.toM)) fun l l' κ2 h2 E2 H2 _ _ ev2 i2 p2 => ?_)
    exact ⟨_, h2, κ2, rfl, .refl |>.trans ev2, i2, DVp.cons (DV.mono ev2.toM p) ((d1.mono ev1.toM).mono ev2.toM) p2⟩
/-! ### targets -/
theorem setB_len {E E' : EB} {j : Nat} {s : Sl} (f : setB E j s = some E') : E'.length = E.length := by
  obtain ⟨_, f⟩ := guardO_some f; cases f; simp
theorem setAll_ok : ∀ {is : List Nat} {vs : List V} {ws : List W} {env : Env} {E E' : EB}, Inv d lk as κ env E h H → DVs κ h vs ws → setAllB E is vs = some E' →
    ∃ env', MP.setAll env is ws = some env' ∧ Inv d lk as κ env' E' h H ∧ (∀ j, j ∉ is → env'[j]? = env[j]?) ∧ env'.length = env.length
  | [], [], ws, env, E, E', i, dv, f => by
    rw [dv.nil_inv]; cases f
    exact ⟨env, rfl, i, fun _ _ => rfl, rfl⟩
  | [], _ :: _, ws, env, E, E', i, dv, f => by cases f
  | _ :: _, [], ws, env, E, E', i, dv, f => by cases f
  | j :: js, v :: vs, ws, env, E, E', i, dv, f => by
    obtain ⟨w, r, rfl, d1, d2⟩ := dv.cons_inv
    simp only [setAllB, Option.bind_eq_some_iff] at f
    obtain ⟨E1, f1, f2⟩ := f
    obtain ⟨env', e1, e2, e3, e4⟩ := setAll_ok (setB_val i d1 f1) d2 f2
    refine ⟨env', e1, e2, fun k hk => ?_, by rw [e4]; simp⟩
    rw [List.mem_cons, not_or] at hk
    rw [e3 k hk.2, List.getElem?_set_ne (fun z => hk.1 z.symm)]
theorem unpack_ok {x : V} {u : W} {l : List V} (dc : Cn κ h x u) (e : vunpack x = some l) : ∃ ws, MP.itemsV u h = some ws ∧ DVs κ h l ws := by
  unfold vunpack at e
  split at e
  · simp only [Cn, DV] at dc; obtain ⟨us, rfl, dc⟩ := dc; cases e; exact ⟨us, rfl, dc⟩
  · obtain ⟨a, us, rfl, r1, dc⟩ := dc; cases e; exact ⟨us, by simp only [MP.itemsV, r1, MP.itemsO], dc⟩
  · cases e
open MP (Tg)
theorem bind_ok {tg : Tg} {v : V} {w : W} {E' : EB} (i : Inv d lk as κ env E h H) (dv : DV κ h v w) (f : bindB tg v E H = some E') :
    ∃ env', MP.bindTg tg w env h = some env' ∧ Inv d lk as κ env' E' h H ∧ (∀ own, tgIn own tg = true → ∀ j, j ∉ own → env'[j]? = env[j]?) ∧ env'.length = env.length := by
  cases tg with
  | name j =>
    refine ⟨env.set j (some w), rfl, setB_val i dv f, fun own ho k hk => ?_, by simp⟩
    simp only [tgIn, decide_eq_true_eq] at ho
    exact List.getElem?_set_ne fun z => hk (by rw [← z]; exact ho)
  | tup is =>
    simp only [bindB, Option.bind_eq_some_iff] at f
    obtain ⟨vs, f1, f2⟩ := f
    obtain ⟨ws, e1, e2⟩ := unpack_ok (dv_cont i.b dv) f1
    obtain ⟨env', e3, e4, e5, e6⟩ := setAll_ok i e2 f2
    refine ⟨env', by simp only [MP.bindTg, e1, Option.bind_some, e3], e4, fun own ho k hk => e5 k fun hm => hk ?_, e6⟩
    simp only [tgIn, List.all_eq_true, decide_eq_true_eq] at ho
    exact ho k hm
/-- a turn of a comprehension -/
theorem turnC_ok {C : K → Hp → Prop} (hC : ∀ κ κ' h h', M κ κ' h h' → C κ h → C κ' h') {tg : Tg} {own : List Nat} (ho : tgIn own tg = true) {f : Env → Hp → R (Option W)} {g : EB → HB → B (Option V)} (st : ∀ env' κ h E H, C κ h → Inv d lk as κ env' E h H → SimR d (IE d lk as env') κ h PO (f env' h) (g E H)) :
    ∀ x w κ h E H, IJ C d lk as env own κ h E H → DV κ h x w → SimR d (IJ C d lk as env own) κ h PO (MP.turnC tg (MP.wipe env own) f w h) (turnCB tg own g x E H) := by
  intro x w κ h E H ⟨cc, env'', he, hl, i⟩ dv
  unfold turnCB
  refine SimR.guard fun c => SimR.then fun E1 hE => ?_
  have i1 := wipe_inv i he hl c
  obtain ⟨env', e1, e2, e3, e4⟩ := bind_ok i1 dv hE
  simp only [MP.turnC, e1, MP.thenO_some]
  have s := st env' κ h E1 H cc e2
  cases hb : g E1 H with
  | bad => exact True.intro
  | ok y E' H' =>
    rw [hb] at s
    obtain ⟨z, h', κ', q1, q2, q3, q4⟩ := s
    exact ⟨z, h', κ', q1, q2, ⟨hC _ _ _ _ q2.toM cc, env', fun j hj => by rw [e3 own ho j hj, wipe_get _ _ _ hj], by rw [e4, wipe_len], q3⟩, q4⟩
  | exc y E' H' =>
    rw [hb] at s
    obtain ⟨z, h', κ', q1, q2, q3, q4⟩ := s
    exact ⟨z, h', κ', q1, q2, ⟨hC _ _ _ _ q2.toM cc, env', fun j hj => by rw [e3 own ho j hj, wipe_get _ _ _ hj], by rw [e4, wipe_len], q3⟩, q4⟩
/-- a key's turn -/
theorem turnK_ok {C : K → Hp → Prop} (hC : ∀ κ κ' h h', M κ κ' h h' → C κ h → C κ' h') {j : Nat} {f : Env → Hp → R W} {g : EB → HB → B V} (st : ∀ env' κ h E H, C κ h → Inv d lk as κ env' E h H → SimR d (IE d lk as env') κ h PV (f env' h) (g E H)) :
    ∀ x w κ h E H, IJ C d lk as env [j] κ h E H → DV κ h x w → SimR d (IJ C d lk as env [j]) κ h PV (MP.keyOf j env f w h) (keyB j g x E H) := by
  intro x w κ h E H ⟨cc, env'', he, hl, i⟩ dv
  unfold keyB
  refine SimR.guard fun c => SimR.then fun E1 hE => ?_
  have i1 := setB_val (wipe_inv i he hl c) dv hE
  have e1 : (MP.wipe env [j]).set j (some w) = env.set j (some w) := by simp [MP.wipe]
  rw [e1] at i1
  have s := st _ κ h E1 H cc i1
  simp only [MP.keyOf]
  have hj : ∀ k, k ∉ [j] → (env.set j (some w))[k]? = env[k]? := fun k hk => List.getElem?_set_ne fun z => hk (by rw [z]; simp)
  cases hb : g E1 H with
  | bad => exact True.intro
  | ok y E' H' =>
    rw [hb] at s
    obtain ⟨z, h', κ', q1, q2, q3, q4⟩ := s
    exact ⟨z, h', κ', q1, q2, ⟨hC _ _ _ _ q2.toM cc, _, hj, by simp, q3⟩, q4⟩
  | exc y E' H' =>
    rw [hb] at s
    obtain ⟨z, h', κ', q1, q2, q3, q4⟩ := s
    exact ⟨z, h', κ', q1, q2, ⟨hC _ _ _ _ q2.toM cc, _, hj, by simp, q3⟩, q4⟩
theorem elt_ok {r : R W} {b : B V} {I : K → Hp → EB → HB → Prop} (s : SimR d I κ0 h0 PV r b) : SimR d I κ0 h0 PO (r.bind fun y h => .ok (some y) h) (b.bind fun y E H => .ok (some y) E H) :=
  SimR.bind s fun x y κ h E H _ _ ev i p => ⟨_, h, κ, rfl, ev, i, p⟩
end
end BP

namespace BP
open MP (W O Hp Env Exn R rd BinOp CmpOp Blt Ty Ex It Cx thenO guardR)
/-! ### simple expressions change no cell -/
def RF {α : Type} (h : Hp) : R α → Prop
  | .ok _ h' => Frame h h'
  | _ => True
section
variable {α β : Type} {h : Hp}
theorem RF.bind {r : R α} {f : α → Hp → R β} (a : RF h r) (b : ∀ x h', RF h' (f x h')) : RF h (r.bind f) := by
  cases r with
  | bad => trivial
  | exc x h' => trivial
  | ok x h' =>
    have := b x h'
    show RF h (f x h')
    generalize f x h' = r2 at this
    cases r2 with
    | bad => trivial
    | ok y h2 => exact Frame.trans a this
    | exc y h2 => trivial
theorem RF.ok {x : α} : RF h (.ok x h) := Frame.refl
theorem RF.bad : RF h (.bad : R α) := trivial
theorem RF.of {o : Option α} : RF h (.of o h) := by cases o <;> first | trivial | exact Frame.refl
theorem RF.thenO {o : Option α} {f : α → R β} (b : ∀ x, RF h (f x)) : RF h (thenO o f) := by cases o <;> first | trivial | exact b _
theorem RF.guardR {b : Bool} {r : R β} (a : RF h r) : RF h (guardR b r) := by cases b <;> first | trivial | exact a
theorem RF.mk {o : O} : RF h (MP.mk o h) := ⟨by simp, fun n hl => List.getElem?_append_left hl⟩
theorem RF.ite {c : Prop} [Decidable c] {r s : R α} (a : RF h r) (b : RF h s) : RF h (if c then r else s) := by split <;> assumption
end
theorem rf_bin (op : BinOp) (x y : W) (h : Hp) : RF h (MP.bin op x y h) := by
  unfold MP.bin
  split
  all_goals first | exact RF.ok | exact RF.guardR RF.ok | exact RF.bad | (unfold MP.addO; split <;> first | exact RF.guardR RF.mk | exact RF.bad)
theorem rf_blt (b : Blt) (xs : List W) (h : Hp) : RF h (MP.blt b xs h) := by
  unfold MP.blt
  split
  all_goals first | exact RF.ok | exact RF.bad | exact RF.of | exact RF.guardR RF.ok | exact RF.thenO fun _ => RF.mk | exact RF.thenO fun _ => RF.ok | exact RF.thenO fun _ => RF.of | exact RF.thenO fun _ => RF.thenO fun _ => RF.mk | (unfold MP.dictO; split <;> first | exact RF.guardR RF.mk | exact RF.bad)
theorem rf_neg (x : W) (h : Hp) : RF h (MP.neg x h) := by unfold MP.neg; split <;> first | exact RF.ok | exact RF.bad
theorem rf_slot (env : Env) (i : Nat) (h : Hp) : RF h (MP.slot env i h) := RF.of
mutual
theorem rf_ev (X : Cx) : ∀ (e : Ex), simple e = true → ∀ (env : Env) (h : Hp), RF h (MP.ev X e env h)
  | .non, _, env, h => RF.ok
  | .bl _, _, env, h => RF.ok
  | .int _, _, env, h => RF.ok
  | .str _, _, env, h => RF.ok
  | .var i, _, env, h => RF.of
  | .bin op a b, c, env, h => by
    simp only [simple, Bool.and_eq_true] at c
    exact RF.bind (rf_ev X a c.1 env h) fun x h => RF.bind (rf_ev X b c.2 env h) fun y h => rf_bin op x y h
  | .neg a, c, env, h => RF.bind (rf_ev X a c env h) fun x h => rf_neg x h
  | .cmp op a b, c, env, h => by
    simp only [simple, Bool.and_eq_true] at c
    exact RF.bind (rf_ev X a c.1 env h) fun x h => RF.bind (rf_ev X b c.2 env h) fun y h => RF.of
  | .chain op op' a b d, c, env, h => by
    simp only [simple, Bool.and_eq_true] at c
    exact RF.bind (rf_ev X a c.1.1 env h) fun x h => RF.bind (rf_ev X b c.1.2 env h) fun y h => RF.thenO fun k => RF.ite (RF.bind (rf_ev X d c.2 env h) fun z h => RF.of) RF.ok
  | .and a b, c, env, h => by
    simp only [simple, Bool.and_eq_true] at c
    exact RF.bind (rf_ev X a c.1 env h) fun x h => RF.thenO fun k => RF.ite (rf_ev X b c.2 env h) RF.ok
  | .or a b, c, env, h => by
    simp only [simple, Bool.and_eq_true] at c
    exact RF.bind (rf_ev X a c.1 env h) fun x h => RF.thenO fun k => RF.ite RF.ok (rf_ev X b c.2 env h)
  | .not a, c, env, h => RF.bind (rf_ev X a c env h) fun x h => RF.of
  | .ife q a b, c, env, h => by
    simp only [simple, Bool.and_eq_true] at c
    exact RF.bind (rf_ev X q c.1.1 env h) fun x h => RF.thenO fun k => RF.ite (rf_ev X a c.1.2 env h) (rf_ev X b c.2 env h)
  | .fld o f, c, env, h => RF.bind (rf_ev X o c env h) fun x h => RF.of
  | .ix o i, c, env, h => by
    simp only [simple, Bool.and_eq_true] at c
    exact RF.bind (rf_ev X o c.1 env h) fun x h => RF.bind (rf_ev X i c.2 env h) fun y h => RF.of
  | .tup es, c, env, h => RF.bind (rf_evs X es c env h) fun x h => RF.ok
  | .lst es, c, env, h => RF.bind (rf_evs X es c env h) fun x h => RF.mk
  | .dct kvs, c, env, h => RF.bind (rf_evp X kvs c env h) fun x h => RF.guardR RF.mk
  | .blt b es, c, env, h => RF.bind (rf_evs X es c env h) fun x h => rf_blt b x h
  | .isi e t, c, env, h => RF.bind (rf_ev X e c env h) fun x h => RF.of
  | .curFld f, c, env, h => RF.of
  | .curIs f, c, env, h => RF.of
  | .sl _ _ _, c, env, h => by cases c
  | .call _ _, c, env, h => by cases c
  | .new _ _, c, env, h => by cases c
  | .meth _ _ _, c, env, h => by cases c
  | .sup _ _ _, c, env, h => by cases c
  | .comp _ _ _ _ _, c, env, h => by cases c
  | .listOf _, c, env, h => by cases c
  | .tupOf _, c, env, h => by cases c
  | .sortK _ _ _, c, env, h => by cases c
  | .minK _ _ _, c, env, h => by cases c
  | .fstr _, c, env, h => by cases c
theorem rf_evs (X : Cx) : ∀ (es : List Ex), simples es = true → ∀ (env : Env) (h : Hp), RF h (MP.evs X es env h)
  | [], _, env, h => RF.ok
  | e :: es, c, env, h => by
    simp only [simples, Bool.and_eq_true] at c
    exact RF.bind (rf_ev X e c.1 env h) fun x h => RF.bind (rf_evs X es c.2 env h) fun y h => RF.ok
theorem rf_evp (X : Cx) : ∀ (es : List (Ex × Ex)), simplep es = true → ∀ (env : Env) (h : Hp), RF h (MP.evp X es env h)
  | [], _, env, h => RF.ok
  | (a, b) :: es, c, env, h => by
    simp only [simplep, Bool.and_eq_true] at c
    exact RF.bind (rf_ev X a c.1.1 env h) fun x h => RF.bind (rf_ev X b c.1.2 env h) fun y h => RF.bind (rf_evp X es c.2 env h) fun z h => RF.ok
end
theorem simple_fr {X : Cx} {e : Ex} {env : Env} {h h' : Hp} {w : W} (q : MP.ev X e env h = .ok w h') (c : simple e = true) : Frame h h' := by
  have := rf_ev X e c env h
  rw [q] at this; exact this
theorem simples_fr {X : Cx} {e : List Ex} {env : Env} {h h' : Hp} {w : List W} (q : MP.evs X e env h = .ok w h') (c : simples e = true) : Frame h h' := by
  have := rf_evs X e c env h
  rw [q] at this; exact this
end BP

namespace BP
open MP (W O Hp Env Exn R rd BinOp CmpOp Blt Ty Ex It Cx Prog)
/-! ### calls -/
def isBr (E : EB) : RV → Option Nat
  | .pl (.sl i) => if isFz E i then none else some i
  | _ => none
def brOf (E : EB) (rs : List RV) : List (Option Nat) := rs.map (isBr E)
def upS (d k : Nat) (br : List (Option Nat)) (d' i : Nat) : Own := if d' = d then (match br.findIdx? (· == some i) with
    | some j => .slot (d + 1) (k + j)
    | none => .slot d i) else if d' = d + 1 then .gar else .slot d' i
def upK (d k : Nat) (br : List (Option Nat)) (d' i : Nat) : Own := if d' = d then (match br.findIdx? (· == some i) with
    | some j => .lck (.slot (d + 1) (k + j))
    | none => .lck (.slot d i)) else if d' = d + 1 then .gar else .lck (.slot d' i)
def upL (d k : Nat) (br : List (Option Nat)) : Own → Own
  | .slot d' i => upS d k br d' i
  | .lck (.slot d' i) => upK d k br d' i
  | o => o
def brAt (k : Nat) (br : List (Option Nat)) (j : Nat) : Option Nat := if k ≤ j then br[j - k]?.join else none
def dnL (d k : Nat) (br : List (Option Nat)) : Own → Own
  | .slot d' j => if d' = d + 1 then (match brAt k br j with
    | some i => .slot d i
    | none => .gar) else .slot d' j
  | .lck (.slot d' j) => if d' = d + 1 then (match brAt k br j with
    | some i => .lck (.slot d i)
    | none => .gar) else .lck (.slot d' j)
  | o => o
structure LMap (g : Own → Own) : Prop where
  frz : g .frz = .frz
  box : ∀ b, g (.box b) = .box b
  fld : ∀ b f, g (.fld b f) = .fld b f
  tmp : g .tmp = .tmp
  lf : ∀ b f, g (.lck (.fld b f)) = .lck (.fld b f)
  rb : ∀ l b, g l = .box b → l = .box b
  rl : ∀ l b f, g l = .lck (.fld b f) → l = .lck (.fld b f)
theorem up_rb {d k : Nat} {br : List (Option Nat)} (l : Own) (b : Nat) (e : upL d k br l = .box b) : l = .box b := by
  cases l <;> simp only [upL, upS, upK] at e <;> (try (exact e))
  · split at e
    · split at e <;> cases e
    · split at e <;> cases e
  · rename_i l
    cases l <;> simp only [upL, upS, upK] at e <;> (try (cases e; done))
    split at e
    · split at e <;> cases e
    · split at e <;> cases e
theorem up_rl {d k : Nat} {br : List (Option Nat)} (l : Own) (b : Nat) (f : String) (e : upL d k br l = .lck (.fld b f)) : l = .lck (.fld b f) := by
  cases l <;> simp only [upL, upS, upK] at e <;> (try (cases e; done))
  · split at e
    · split at e <;> cases e
    · split at e <;> cases e
  · rename_i l
    cases l <;> simp only [upL, upS, upK] at e <;> (try (exact e))
    split at e
    · split at e <;> cases e
    · split at e <;> cases e
theorem dn_rb {d k : Nat} {br : List (Option Nat)} (l : Own) (b : Nat) (e : dnL d k br l = .box b) : l = .box b := by
  cases l <;> simp only [dnL] at e <;> (try (exact e))
  · split at e
    · split at e <;> cases e
    · cases e
  · rename_i l
    cases l <;> simp only [dnL] at e <;> (try (cases e; done))
    split at e
    · split at e <;> cases e
    · cases e
theorem dn_rl {d k : Nat} {br : List (Option Nat)} (l : Own) (b : Nat) (f : String) (e : dnL d k br l = .lck (.fld b f)) : l = .lck (.fld b f) := by
  cases l <;> simp only [dnL] at e <;> (try (cases e; done))
  · split at e
    · split at e <;> cases e
    · cases e
  · rename_i l
    cases l <;> simp only [dnL] at e <;> (try (exact e))
    split at e
    · split at e <;> cases e
    · cases e
theorem up_map {d k : Nat} {br : List (Option Nat)} : LMap (upL d k br) := ⟨rfl, fun _ => rfl, fun _ _ => rfl, rfl, fun _ _ => rfl, up_rb, up_rl⟩
theorem dn_map {d k : Nat} {br : List (Option Nat)} : LMap (dnL d k br) := ⟨rfl, fun _ => rfl, fun _ _ => rfl, rfl, fun _ _ => rfl, dn_rb, dn_rl⟩
section
variable {d : Nat} {lk : List Nat} {as : List W} {κ κ0 : K} {env : Env} {E : EB} {h h0 : Hp} {H : HB} {g : Own → Own}
theorem LMap.m (l : LMap g) : M κ (fun a => g (κ a)) h h := ⟨Nat.le_refl _, fun a _ e => ⟨by show g (κ a) = _; rw [e, l.frz], rfl⟩, fun a b _ e => by show g (κ a) = _; rw [e, l.box]⟩
theorem LMap.hinv (l : LMap g) (i : HInv lk κ h H) : HInv lk (fun a => g (κ a)) h H :=
  i.mono l.m (fun b f a _ e => ⟨by show g (κ a) = _; rw [e, l.fld], rfl⟩) (fun b f a _ e => ⟨by show g (κ a) = _; rw [e, l.lf], rfl⟩) (fun b a _ e => ⟨by show g (κ a) = _; rw [e, l.box], rfl⟩) (fun a b e => l.rb _ _ e) fun a b f e => l.rl _ _ _ e
theorem slotsOf_len : ∀ {rs : List RV} {ss : List Sl}, slotsOf E rs = some ss → ss.length = rs.length
  | [], ss, e => by cases e; rfl
  | r :: rs, ss, e => by
    cases r with
    | val v =>
      simp only [slotsOf, Option.map_eq_some_iff] at e
      obtain ⟨l, e, rfl⟩ := e
      simp [slotsOf_len e]
    | tmp v => cases e
    | pl p => cases p with
      | sl j =>
        simp only [slotsOf, Option.bind_eq_some_iff, Option.map_eq_some_iff] at e
        obtain ⟨s, _, l, e, rfl⟩ := e
        simp [slotsOf_len e]
      | fd b f => cases e
      | cn b => cases e
theorem slotsOf_get : ∀ {rs : List RV} {ss : List Sl}, slotsOf E rs = some ss → ∀ (j : Nat) (r : RV), rs[j]? = some r → (∃ v, r = .val v ∧ ss[j]? = some ⟨.fz, v, false⟩) ∨ (∃ k u, r = .pl (.sl k) ∧ E[k]?.join = some u ∧ ss[j]? = some (argS u))
  | [], ss, e, j, r, hr => by simp at hr
  | q :: rs, ss, e, j, r, hr => by
    cases q with
    | val v =>
      simp only [slotsOf, Option.map_eq_some_iff] at e
      obtain ⟨l, e, rfl⟩ := e
      cases j with
      | zero => simp at hr; subst hr; exact .inl ⟨v, rfl, rfl⟩
      | succ j => simpa using slotsOf_get e j r (by simpa using hr)
    | tmp v => cases e
    | pl p => cases p with
      | sl k =>
        simp only [slotsOf, Option.bind_eq_some_iff, Option.map_eq_some_iff] at e
        obtain ⟨s, hs, l, e, rfl⟩ := e
        cases j with
        | zero => simp at hr; subst hr; exact .inr ⟨k, s, rfl, hs, rfl⟩
        | succ j => simpa using slotsOf_get e j r (by simpa using hr)
      | fd b f => cases e
      | cn b => cases e
theorem okIdx_uniq : ∀ {rs : List RV}, okIdx E rs = true → ∀ {j j' i : Nat}, rs[j]? = some (.pl (.sl i)) → rs[j']? = some (.pl (.sl i)) → isFz E i = false → j = j'
  | [], _, j, j', i, h1, _, _ => by simp at h1
  | r :: rs, c, j, j', i, h1, h2, hf => by
    have c' : okIdx E rs = true := by
      cases r with
      | pl p => cases p with
        | sl k => simp only [okIdx, Bool.and_eq_true] at c; exact c.2
        | fd b f => exact c
        | cn b => exact c
      | val v => exact c
      | tmp v => exact c
    have head : ∀ {x : Nat}, r = .pl (.sl i) → rs[x]? = some (.pl (.sl i)) → False := fun {x} q z => by
      subst q
      simp only [okIdx, Bool.and_eq_true, Bool.or_eq_true, Bool.not_eq_true', List.any_eq_false] at c
      rcases c.1 with c1 | c1
      · have := c1 _ (List.mem_of_getElem? z)
        simp [isSl] at this
      · rw [hf] at c1; cases c1
    cases j with
    | zero =>
      cases j' with
      | zero => rfl
      | succ j' => simp at h1 h2; exact (head h1 h2).elim
    | succ j =>
      cases j' with
      | zero => simp at h1 h2; exact (head h2 h1).elim
      | succ j' => simp at h1 h2; rw [okIdx_uniq c' h1 h2 hf]
theorem br_get {rs : List RV} {j i : Nat} : (brOf E rs)[j]? = some (some i) ↔ rs[j]? = some (.pl (.sl i)) ∧ isFz E i = false := by
  unfold brOf
  rw [List.getElem?_map]
  constructor
  · intro e
    cases hr : rs[j]? with
    | none => rw [hr] at e; cases e
    | some r =>
      rw [hr] at e
      simp only [Option.map_some, Option.some.injEq] at e
      cases r with
      | val v => cases e
      | tmp v => cases e
      | pl p => cases p with
        | fd b f => cases e
        | cn b => cases e
        | sl k =>
          simp only [isBr] at e
          split at e
          · cases e
          · rename_i hf; cases e; exact ⟨rfl, by simpa using hf⟩
  · rintro ⟨e, f⟩
    rw [e]
    simp [isBr, f]
theorem br_idx {rs : List RV} (ok : okIdx E rs = true) {j i : Nat} (e : rs[j]? = some (.pl (.sl i))) (f : isFz E i = false) : (brOf E rs).findIdx? (· == some i) = some j := by
  have b := br_get.mpr ⟨e, f⟩
  cases hx : (brOf E rs).findIdx? (· == some i) with
  | none =>
    rw [List.findIdx?_eq_none_iff] at hx
    have := hx _ (List.mem_of_getElem? b)
    simp at this
  | some j' =>
    rw [List.findIdx?_eq_some_iff_getElem] at hx
    obtain ⟨hl, h1, _⟩ := hx
    have h2 : (brOf E rs)[j']? = some (some i) := by rw [List.getElem?_eq_getElem hl]; simpa using h1
    obtain ⟨e', _⟩ := br_get.mp h2
    rw [okIdx_uniq ok e e' f]
theorem idx_br {rs : List RV} {j i : Nat} (e : (brOf E rs).findIdx? (· == some i) = some j) : rs[j]? = some (.pl (.sl i)) ∧ isFz E i = false := by
  rw [List.findIdx?_eq_some_iff_getElem] at e
  obtain ⟨hl, h1, _⟩ := e
  exact br_get.mp (by rw [List.getElem?_eq_getElem hl]; simpa using h1)
theorem br_at {rs : List RV} {k j i : Nat} : brAt k (brOf E rs) j = some i ↔ k ≤ j ∧ rs[j - k]? = some (.pl (.sl i)) ∧ isFz E i = false := by
  unfold brAt
  split
  · rename_i hk
    constructor
    · intro e
      cases hb : (brOf E rs)[j - k]? with
      | none => rw [hb] at e; cases e
      | some x => rw [hb] at e; cases e; exact ⟨hk, br_get.mp hb⟩
    · rintro ⟨_, e⟩; rw [br_get.mpr e]; rfl
  · rename_i hk
    constructor
    · intro e; cases e
    · rintro ⟨e, _⟩; exact absurd e hk
/-- behind a call: what a slot is -/
theorem backS_get : ∀ {rs : List RV} {ss : List Sl} {E : EB}, ∀ (i : Nat) (s' : Sl), (backS E rs ss)[i]?.join = some s' →
    (∃ s0, E[i]?.join = some s0 ∧ ((∃ (j : Nat) (s : Sl), rs[j]? = some (.pl (.sl i)) ∧ ss[j]? = some s ∧ s' = ⟨s.m, s.v, s0.arg⟩) ∨ ((∀ j : Nat, j < ss.length → rs[j]? ≠ some (.pl (.sl i))) ∧ s' = s0)))
  | [], ss, E, i, s', e => by
    simp only [backS] at e
    exact ⟨s', e, .inr ⟨fun j _ q => by simp at q, rfl⟩⟩
  | r :: rs, [], E, i, s', e => by
    have e' : E[i]?.join = some s' := by cases r with
      | pl p => cases p <;> exact e
      | val v => exact e
      | tmp v => exact e
    exact ⟨s', e', .inr ⟨fun j hj => by simp at hj, rfl⟩⟩
  | r :: rs, s :: ss, E, i, s', e => by
    have skip : (backS E rs ss)[i]?.join = some s' → r ≠ .pl (.sl i) → (∃ s0, E[i]?.join = some s0 ∧ ((∃ (j : Nat) (u : Sl), (r :: rs)[j]? = some (.pl (.sl i)) ∧ (s :: ss)[j]? = some u ∧ s' = ⟨u.m, u.v, s0.arg⟩) ∨ ((∀ j : Nat, j < (s :: ss).length → (r :: rs)[j]? ≠ some (.pl (.sl i))) ∧ s' = s0))) := fun e hr => by
      obtain ⟨s0, h1, h2⟩ := backS_get i s' e
      refine ⟨s0, h1, ?_⟩
      rcases h2 with ⟨j, u, q1, q2, q3⟩ | ⟨q1, q2⟩
      · exact .inl ⟨j + 1, u, by simpa using q1, by simpa using q2, q3⟩
      · refine .inr ⟨fun j hj => ?_, q2⟩
        cases j with
        | zero => simpa using hr
        | succ j => simpa using q1 j (by simpa using hj)
    cases r with
    | val v => exact skip e (by simp)
    | tmp v => exact skip e (by simp)
    | pl p => cases p with
      | fd b f => exact skip e (by simp)
      | cn b => exact skip e (by simp)
      | sl k =>
        simp only [backS] at e
        cases hk : E[k]?.join with
        | none =>
          rw [hk] at e
          by_cases q : k = i
          · subst q
            obtain ⟨s0, h1, h2⟩ := backS_get k s' e
            rw [hk] at h1; cases h1
          · exact skip e (by simpa using q)
        | some u =>
          rw [hk] at e
          obtain ⟨s0, h1, h2⟩ := backS_get i s' e
          rw [join_set] at h1
          by_cases q : i = k
          · subst q
            have hlt : i < E.length := by
              cases z : E[i]? with
              | none => rw [z] at hk; cases hk
              | some x => exact (List.getElem?_eq_some_iff.mp z).1
            simp only [if_pos, hlt] at h1
            cases h1
            refine ⟨u, hk, ?_⟩
            rcases h2 with ⟨j, u', q1, q2, q3⟩ | ⟨q1, q2⟩
            · exact .inl ⟨j + 1, u', by simpa using q1, by simpa using q2, q3⟩
            · exact .inl ⟨0, s, rfl, rfl, q2⟩
          · simp only [if_neg q] at h1
            refine ⟨s0, h1, ?_⟩
            rcases h2 with ⟨j, u', q1, q2, q3⟩ | ⟨q1, q2⟩
            · exact .inl ⟨j + 1, u', by simpa using q1, by simpa using q2, q3⟩
            · refine .inr ⟨fun j hj => ?_, q2⟩
              cases j with
              | zero => simp; exact fun z => q z.symm
              | succ j => simpa using q1 j (by simpa using hj)
theorem backS_len : ∀ {rs : List RV} {ss : List Sl} {E : EB}, (backS E rs ss).length = E.length
  | [], ss, E => by simp [backS]
  | r :: rs, [], E => by cases r with
      | pl p => cases p <;> rfl
      | val v => rfl
      | tmp v => rfl
  | r :: rs, s :: ss, E => by
    cases r with
    | val v => exact backS_len (rs := rs)
    | tmp v => exact backS_len (rs := rs)
    | pl p => cases p with
      | fd b f => exact backS_len (rs := rs)
      | cn b => exact backS_len (rs := rs)
      | sl k =>
        simp only [backS]
        cases hk : E[k]?.join with
        | none => exact backS_len (rs := rs)
        | some u => exact (backS_len (rs := rs)).trans (by simp)
theorem backS_some : ∀ {rs : List RV} {ss : List Sl} {E : EB} {i : Nat} {s0 : Sl}, E[i]?.join = some s0 → ∃ s', (backS E rs ss)[i]?.join = some s'
  | [], ss, E, i, s0, e => ⟨s0, by simpa [backS] using e⟩
  | r :: rs, [], E, i, s0, e => ⟨s0, by cases r with
      | pl p => cases p <;> exact e
      | val v => exact e
      | tmp v => exact e⟩
  | r :: rs, s :: ss, E, i, s0, e => by
    cases r with
    | val v => exact backS_some (rs := rs) e
    | tmp v => exact backS_some (rs := rs) e
    | pl p => cases p with
      | fd b f => exact backS_some (rs := rs) e
      | cn b => exact backS_some (rs := rs) e
      | sl k =>
        simp only [backS]
        cases hk : E[k]?.join with
        | none => exact backS_some (rs := rs) e
        | some u =>
          by_cases q : i = k
          · subst q
            have hlt : i < E.length := by
              cases z : E[i]? with
              | none => rw [z] at hk; cases hk
              | some x => exact (List.getElem?_eq_some_iff.mp z).1
            exact backS_some (rs := rs) (by rw [join_set]; simp only [if_pos, hlt]; rfl)
          · exact backS_some (rs := rs) (by rw [join_set]; simp only [if_neg q]; exact e)
end
end BP

namespace BP
open MP (W O Hp Env Exn R rd BinOp CmpOp Blt Ty Ex It Cx Prog)
/-! ### a call, both ways -/
def RetR (lk : List Nat) (n0 : Nat → Prop) (κ : K) (h : Hp) (s : Sl) (w : W) : Prop := match s.m with
  | .fz => DV κ h s.v w
  | _ => ∃ a, w = .ref a ∧ κ a = .tmp ∧ n0 a ∧ a ∉ lk ∧ OwnC κ h s.v a
structure ARel (d : Nat) (lk : List Nat) (κ : K) (h : Hp) (ws : List W) (ss as' : List Sl) : Prop where
  len : as'.length = ss.length
  sl : ∀ (j : Nat) (s0 s : Sl), ss[j]? = some s0 → as'[j]? = some s → (s0.m = .fz → s = s0) ∧ (s0.m ≠ .fz → ∃ w, ws[j]? = some w ∧ SlR κ lk h (.slot d j) s w)
  lc : ∀ (a j : Nat) (s0 : Sl), κ a = .lck (.slot d j) → ss[j]? = some s0 → s0.m ≠ .fz → ∃ s, as'[j]? = some s ∧ s.m = .lkd ∧ ws[j]? = some (.ref a)
structure AIn (d : Nat) (lk : List Nat) (κ : K) (h : Hp) (ws : List W) (ss : List Sl) : Prop where
  len : ss.length = ws.length
  sl : ∀ (j : Nat) (s : Sl), ss[j]? = some s → ∃ w, ws[j]? = some w ∧ SlR κ lk h (.slot d j) s w
  lc : ∀ (a j : Nat), κ a = .lck (.slot d j) → ∃ s, ss[j]? = some s ∧ s.m = .lkd ∧ ws[j]? = some (.ref a)
def SimF (d : Nat) (lk : List Nat) (κ : K) (h : Hp) (ws : List W) (ss : List Sl) (r : R W) (fr : FR) : Prop := match fr with
  | .bad => True
  | .ok s as' H' => ∃ w h' κ', r = .ok w h' ∧ Ev d κ κ' h h' ∧ HInv lk κ' h' H' ∧ RetR lk (Bs κ h) κ' h' s w ∧ ARel d lk κ' h' ws ss as'
  | .exc x as' H' => ∃ y h' κ', r = .exc y h' ∧ Ev d κ κ' h h' ∧ HInv lk κ' h' H' ∧ XR κ' h' x y ∧ ARel d lk κ' h' ws ss as'
def CallSim (T : Prog) (O : Orc) (n : Nat) : Prop := ∀ f d lk κ h H ws ss, HInv lk κ h H → AIn d lk κ h ws ss → SimF d lk κ h ws ss (MP.run T n lk f ws h) (brun T O n f ss H)
section
variable {d : Nat} {lk : List Nat} {as : List W} {κ κ0 : K} {env : Env} {E : EB} {h h0 : Hp} {H : HB}
/-- arguments that wait -/
def WRs (κ : K) (env : Env) (h : Hp) : List RV → List W → Prop
  | [], ws => ws = []
  | r :: rs, ws => ∃ w q, ws = w :: q ∧ WR false κ env h r w ∧ WRs κ env h rs q
theorem WRs.get : ∀ {rs : List RV} {ws : List W}, WRs κ env h rs ws → ws.length = rs.length ∧ ∀ (j : Nat) (r : RV), rs[j]? = some r → ∃ w, ws[j]? = some w ∧ WR false κ env h r w
  | [], ws, e => by unfold WRs at e; subst e; simp
  | r :: rs, ws, e => by
    unfold WRs at e
    obtain ⟨w, q, rfl, e1, e2⟩ := e
    obtain ⟨h1, h2⟩ := WRs.get e2
    refine ⟨by simp [h1], fun j u hu => ?_⟩
    cases j with
    | zero => simp at hu; subst hu; exact ⟨w, rfl, e1⟩
    | succ j => simpa using h2 j u (by simpa using hu)
theorem DVs.at_ {xs : List V} {ws : List W} (e : DVs κ h xs ws) {j : Nat} (hj : j < xs.length) : ∃ x w, xs[j]? = some x ∧ ws[j]? = some w ∧ DV κ h x w := by
  obtain ⟨w, h1, h2⟩ := e.get_some (List.getElem?_eq_getElem hj)
  exact ⟨_, w, List.getElem?_eq_getElem hj, h1, h2⟩
theorem XR.mono {κ' : K} {h' : Hp} (m : M κ κ' h h') {x : BX} {y : Exn} (e : XR κ h x y) : XR κ' h' x y := by
  refine ⟨e.1, ?_⟩
  have := e.2
  generalize x.fs = l at this
  generalize y.fs = l' at this
  clear e
  induction l generalizing l' with
  | nil => exact this
  | cons p l ih =>
    obtain ⟨f, v⟩ := p
    obtain ⟨w, q, rfl, e1, e2⟩ := this
    exact ⟨w, q, rfl, DV.mono m e1, ih _ e2⟩
variable {rs : List RV} {wrs : List W} {pre : List V} {wpre : List W} {ss : List Sl}
/-- the callee's side at the call -/
theorem call_in (i : Inv d lk as κ env E h H) (dp : DVs κ h pre wpre) (wr : WRs κ env h rs wrs) (hs : slotsOf E rs = some ss) (ok : okIdx E rs = true) :
    HInv lk (fun a => upL d pre.length (brOf E rs) (κ a)) h H ∧ AIn (d + 1) lk (fun a => upL d pre.length (brOf E rs) (κ a)) h (wpre ++ wrs) (pre.map (fun v => (⟨.fz, v, false⟩ : Sl)) ++ ss) := by
  have m : M κ (fun a => upL d pre.length (brOf E rs) (κ a)) h h := up_map.m
  obtain ⟨wl, wg⟩ := wr.get
  have lp := dp.len
  refine ⟨up_map.hinv i.b, ⟨by simp [slotsOf_len hs, lp, wl], fun j s hj => ?_, fun a j ha => ?_⟩⟩
  · by_cases q : j < pre.length
    · rw [List.getElem?_append_left (by simpa using q)] at hj
      rw [List.getElem?_append_left (by rw [lp]; exact q)]
      obtain ⟨x, w, h1, h2, h3⟩ := dp.at_ q
      rw [List.getElem?_map, h1] at hj
      cases hj
      exact ⟨w, h2, DV.mono m h3⟩
    · rw [List.getElem?_append_right (by simpa using Nat.le_of_not_lt q)] at hj
      rw [List.getElem?_append_right (by rw [lp]; exact Nat.le_of_not_lt q)]
      simp only [List.length_map] at hj
      rw [lp]
      have hlt : j - pre.length < rs.length := by
        have := (List.getElem?_eq_some_iff.mp hj).1
        rw [slotsOf_len hs] at this; exact this
      obtain ⟨w, h1, h2⟩ := wg _ _ (List.getElem?_eq_getElem hlt)
      have hr := List.getElem?_eq_getElem hlt
      refine ⟨w, h1, ?_⟩
      rcases slotsOf_get hs _ _ hr with ⟨v, e1, e2⟩ | ⟨k, u, e1, e2, e3⟩
      · rw [hj] at e2; cases e2
        rw [e1] at h2
        exact DV.mono m h2
      · rw [hj] at e3; cases e3
        rw [e1] at h2 hr
        obtain ⟨w', q1, q2, _⟩ := i.e.sl k u e2
        have h2' : env[k]? = some (some w) := h2
        rw [h2'] at q1; cases q1
        unfold SlR at q2 ⊢
        have lab : u.m ≠ .fz → ∀ a, κ a = .slot d k → upL d pre.length (brOf E rs) (κ a) = .slot (d + 1) j := fun hu a ha => by
          have hf : isFz E k = false := by unfold isFz; rw [e2]; simpa using hu
          rw [ha]
          simp only [upL, upS, if_pos, br_idx ok hr hf]
          congr 1; omega
        have labk : u.m ≠ .fz → ∀ a, κ a = .lck (.slot d k) → upL d pre.length (brOf E rs) (κ a) = .lck (.slot (d + 1) j) := fun hu a ha => by
          have hf : isFz E k = false := by unfold isFz; rw [e2]; simpa using hu
          rw [ha]
          simp only [upL, upK, if_pos, br_idx ok hr hf]
          congr 2; omega
        show (match u.m with | .fz => _ | .own => _ | .lkd => _)
        cases hm : u.m with
        | fz => rw [hm] at q2; exact DV.mono m q2
        | own =>
          rw [hm] at q2
          obtain ⟨a, z1, z2, z3, z4⟩ := q2
          exact ⟨a, z1, lab (by rw [hm]; simp) a z2, z3, z4.mono m rfl⟩
        | lkd =>
          rw [hm] at q2
          obtain ⟨a, z1, z2, z4⟩ := q2
          exact ⟨a, z1, labk (by rw [hm]; simp) a z2, z4.mono m rfl⟩
  · -- a locked cell of the callee's was one of the caller's
    have ha' : upL d pre.length (brOf E rs) (κ a) = .lck (.slot (d + 1) j) := ha
    cases hk : κ a with
    | lck l =>
      rw [hk] at ha'
      cases l with
      | slot d' k =>
        simp only [upL, upK] at ha'
        split at ha'
        · rename_i hd
          split at ha'
          · rename_i j' hx
            cases ha'
            obtain ⟨hr, hf⟩ := idx_br hx
            subst hd
            obtain ⟨s, q1, q2, q3⟩ := i.e.lc a k hk
            obtain ⟨w, z1, z2⟩ := wg _ _ hr
            have z2' : env[k]? = some (some w) := z2
            rw [z2'] at q3; cases q3
            rcases slotsOf_get hs _ _ hr with ⟨v, e1, e2⟩ | ⟨k', u, e1, e2, e3⟩
            · cases e1
            · cases e1
              rw [q1] at e2; cases e2
              refine ⟨argS s, ?_, q2, ?_⟩
              · rw [List.getElem?_append_right (by simp)]; simpa using e3
              · rw [List.getElem?_append_right (by rw [lp]; omega), lp]; simpa using z1
          · first | (cases ha'; done) | (cases ha'; omega)
        · split at ha'
          · cases ha'
          · first | (cases ha'; done) | (cases ha'; omega)
      | _ => simp [upL] at ha'
    | slot d' k => rw [hk] at ha'; simp only [upL, upS] at ha'; split at ha' <;> (try split at ha') <;> cases ha'
    | _ => rw [hk] at ha'; simp [upL] at ha'
/-- the caller's side behind it -/
theorem call_out (i : Inv d lk as κ env E h H) (dp : DVs κ h pre wpre) (wr : WRs κ env h rs wrs) (hs : slotsOf E rs = some ss) (ok : okIdx E rs = true) {κ' : K} {h' : Hp} {H' : HB}
    (ev : Ev (d + 1) (fun a => upL d pre.length (brOf E rs) (κ a)) κ' h h') (hi : HInv lk κ' h' H') {as' : List Sl} (ar : ARel (d + 1) lk κ' h' (wpre ++ wrs) (pre.map (fun v => (⟨.fz, v, false⟩ : Sl)) ++ ss) as') :
    Ev d κ (fun a => dnL d pre.length (brOf E rs) (κ' a)) h h' ∧ Inv d lk as (fun a => dnL d pre.length (brOf E rs) (κ' a)) env (backS E rs (as'.drop pre.length)) h' H' := by
  obtain ⟨wl, wg⟩ := wr.get
  have lp := dp.len
  have dm : M κ' (fun a => dnL d pre.length (brOf E rs) (κ' a)) h' h' := dn_map.m
  have mm : M κ (fun a => dnL d pre.length (brOf E rs) (κ' a)) h h' := (up_map.m (g := upL d pre.length (brOf E rs))).trans (ev.toM.trans dm)
  have e1 : Ev d κ (fun a => dnL d pre.length (brOf E rs) (κ' a)) h h' := by
    refine ⟨mm, fun d' j hd a ha e => ?_, fun a ha e => ?_, fun l hl a ha e => ?_, fun a d' j hd e => ?_⟩
    · obtain ⟨k1, k2⟩ := ev.slot d' j (by omega) a ha (by show upL d pre.length (brOf E rs) (κ a) = _; rw [e]; simp only [upL, upS]; rw [if_neg (by omega), if_neg (by omega)])
      exact ⟨by show dnL d pre.length (brOf E rs) (κ' a) = _; rw [k1]; simp only [dnL]; rw [if_neg (by omega)], k2⟩
    · obtain ⟨k1, k2⟩ := ev.tmp a ha (by show upL d pre.length (brOf E rs) (κ a) = _; rw [e]; rfl)
      exact ⟨by show dnL d pre.length (brOf E rs) (κ' a) = _; rw [k1]; rfl, k2⟩
    · by_cases hs : ∃ d' k, l = .slot d' k
      · obtain ⟨d', k, rfl⟩ := hs
        by_cases hd : d' = d
        · subst hd
          cases hx : (brOf E rs).findIdx? (· == some k) with
          | none =>
            obtain ⟨k1, k2⟩ := ev.lck (.slot d' k) (by simp [okL]) a ha (by show upL d' pre.length (brOf E rs) (κ a) = _; rw [e]; simp only [upL, upK, if_pos, hx])
            exact ⟨by show dnL d' pre.length (brOf E rs) (κ' a) = _; rw [k1]; simp only [dnL]; rw [if_neg (by omega)], k2⟩
          | some j =>
            obtain ⟨k1, k2⟩ := ev.lck (.slot (d' + 1) (pre.length + j)) (by simp [okL]) a ha (by show upL d' pre.length (brOf E rs) (κ a) = _; rw [e]; simp only [upL, upK, if_pos, hx])
            have hb : brAt pre.length (brOf E rs) (pre.length + j) = some k := by
              rw [br_at]; obtain ⟨q1, q2⟩ := idx_br hx; exact ⟨by omega, by simpa using q1, q2⟩
            exact ⟨by show dnL d' pre.length (brOf E rs) (κ' a) = _; rw [k1]; simp only [dnL, if_pos, hb], k2⟩
        · have hd' : d' < d := by have : d' ≤ d := hl; omega
          obtain ⟨k1, k2⟩ := ev.lck (.slot d' k) (by simp [okL]; omega) a ha (by show upL d pre.length (brOf E rs) (κ a) = _; rw [e]; simp only [upL, upK]; rw [if_neg hd, if_neg (by omega)])
          exact ⟨by show dnL d pre.length (brOf E rs) (κ' a) = _; rw [k1]; simp only [dnL]; rw [if_neg (by omega)], k2⟩
      · obtain ⟨k1, k2⟩ := ev.lck l (by cases l <;> first | trivial | exact absurd ⟨_, _, rfl⟩ hs) a ha (by show upL d pre.length (brOf E rs) (κ a) = _; rw [e]; cases l <;> first | rfl | exact absurd ⟨_, _, rfl⟩ hs)
        exact ⟨by show dnL d pre.length (brOf E rs) (κ' a) = _; rw [k1]; cases l <;> first | rfl | exact absurd ⟨_, _, rfl⟩ hs, k2⟩
    · have e' : dnL d pre.length (brOf E rs) (κ' a) = .lck (.slot d' j) := e
      have hk : κ' a = .lck (.slot d' j) := by
        cases hk : κ' a with
        | lck l =>
          rw [hk] at e'
          cases l with
          | slot d2 j2 =>
            simp only [dnL] at e'
            split at e'
            · split at e' <;> cases e'; omega
            · exact e'
          | _ => simp [dnL] at e'
        | slot d2 j2 => rw [hk] at e'; simp only [dnL] at e'; split at e' <;> (try split at e') <;> cases e'
        | _ => rw [hk] at e'; simp [dnL] at e'
      have z : upL d pre.length (brOf E rs) (κ a) = .lck (.slot d' j) := ev.lckr a d' j (by omega) hk
      cases hq : κ a with
      | lck l =>
        rw [hq] at z
        cases l with
        | slot d2 j2 =>
          simp only [upL, upK] at z
          split at z
          · split at z
            · cases z; omega
            · cases z; omega
          · split at z
            · cases z
            · exact z
        | _ => simp [upL] at z
      | slot d2 j2 => rw [hq] at z; simp only [upL, upS] at z; split at z <;> (try split at z) <;> cases z
      | _ => rw [hq] at z; simp [upL] at z
  refine ⟨e1, ⟨⟨fun k s' hk => ?_, by rw [backS_len]; exact i.e.len, fun a k ha => ?_⟩, dn_map.hinv hi⟩⟩
  · obtain ⟨s0, h0, hc⟩ := backS_get k s' hk
    obtain ⟨w, q1, q2, q3⟩ := i.e.sl k s0 h0
    refine ⟨w, q1, ?_⟩
    rcases hc with ⟨j, s, z1, z2, rfl⟩ | ⟨z1, rfl⟩
    · rw [List.getElem?_drop] at z2
      refine ⟨?_, q3⟩
      obtain ⟨w', y1, y2⟩ := wg _ _ z1
      have y2' : env[k]? = some (some w') := y2
      rw [q1] at y2'; cases y2'
      rcases slotsOf_get hs _ _ z1 with ⟨v, x1, x2⟩ | ⟨k', u, x1, x2, x3⟩
      · cases x1
      · cases x1
        rw [h0] at x2; cases x2
        have hss : (pre.map (fun v => (⟨.fz, v, false⟩ : Sl)) ++ ss)[pre.length + j]? = some (argS s0) := by
          rw [List.getElem?_append_right (by simp)]; simpa using x3
        obtain ⟨a1, a2⟩ := ar.sl _ _ _ hss z2
        by_cases hf : s0.m = .fz
        · have := a1 hf; subst this
          unfold SlR at q2 ⊢
          rw [hf] at q2
          show (match s0.m with | .fz => _ | .own => _ | .lkd => _)
          rw [hf]
          exact DV.mono mm q2
        · obtain ⟨w2, b1, b2⟩ := a2 hf
          rw [List.getElem?_append_right (by rw [lp]; omega), lp] at b1
          simp only [Nat.add_sub_cancel_left] at b1
          rw [y1] at b1; cases b1
          have hfz : isFz E k = false := by unfold isFz; rw [h0]; simpa using hf
          have hb : brAt pre.length (brOf E rs) (pre.length + j) = some k := by rw [br_at]; exact ⟨by omega, by simpa using z1, hfz⟩
          unfold SlR at b2 ⊢
          show (match s.m with | .fz => _ | .own => _ | .lkd => _)
          cases hm : s.m with
          | fz => rw [hm] at b2; exact DV.mono dm b2
          | own =>
            rw [hm] at b2
            obtain ⟨a, c1, c2, c3, c4⟩ := b2
            exact ⟨a, c1, by show dnL d pre.length (brOf E rs) (κ' a) = _; rw [c2]; simp only [dnL, if_pos, hb], c3, c4.mono dm rfl⟩
          | lkd =>
            rw [hm] at b2
            obtain ⟨a, c1, c2, c4⟩ := b2
            exact ⟨a, c1, by show dnL d pre.length (brOf E rs) (κ' a) = _; rw [c2]; simp only [dnL, if_pos, hb], c4.mono dm rfl⟩
    · -- a slot that was not handed over
      refine ⟨?_, q3⟩
      have hn : ∀ j : Nat, rs[j]? ≠ some (.pl (.sl k)) := fun j q => by
        refine z1 j ?_ q
        rw [List.length_drop, ar.len, List.length_append, List.length_map, slotsOf_len hs]
        have := (List.getElem?_eq_some_iff.mp q).1
        omega
      have hx : (brOf E rs).findIdx? (· == some k) = none := by
        cases hx : (brOf E rs).findIdx? (· == some k) with
        | none => rfl
        | some j => exact absurd (idx_br hx).1 (hn j)
      refine q2.mono mm (fun a ha e => ?_) fun a ha e => ?_
      · obtain ⟨k1, k2⟩ := ev.slot d k (by omega) a ha (by show upL d pre.length (brOf E rs) (κ a) = _; rw [e]; simp only [upL, upS, if_pos, hx])
        exact ⟨by show dnL d pre.length (brOf E rs) (κ' a) = _; rw [k1]; simp only [dnL]; rw [if_neg (by omega)], k2⟩
      · exact e1.lck (.slot d k) (Nat.le_refl d) a ha e
  · have ha' : dnL d pre.length (brOf E rs) (κ' a) = .lck (.slot d k) := ha
    cases hq : κ' a with
    | lck l =>
      rw [hq] at ha'
      cases l with
      | slot d2 j2 =>
        simp only [dnL] at ha'
        split at ha'
        · rename_i hd
          split at ha'
          · rename_i i' hb
            cases ha'
            obtain ⟨b1, b2, b3⟩ := br_at.mp hb
            obtain ⟨j, rfl⟩ : ∃ j, j2 = pre.length + j := ⟨j2 - pre.length, by omega⟩
            simp only [Nat.add_sub_cancel_left] at b2
            rcases slotsOf_get hs _ _ b2 with ⟨v, x1, x2⟩ | ⟨k', u, x1, x2, x3⟩
            · cases x1
            · cases x1
              have hss : (pre.map (fun v => (⟨.fz, v, false⟩ : Sl)) ++ ss)[pre.length + j]? = some (argS u) := by
                rw [List.getElem?_append_right (by simp)]; simpa using x3
              have hf : u.m ≠ .fz := by unfold isFz at b3; rw [x2] at b3; simpa using b3
              subst hd
              obtain ⟨s, c1, c2, c3⟩ := ar.lc a _ _ hq hss hf
              obtain ⟨w, y1, y2⟩ := wg _ _ b2
              have y2' : env[k]? = some (some w) := y2
              rw [List.getElem?_append_right (by rw [lp]; omega), lp] at c3
              simp only [Nat.add_sub_cancel_left] at c3
              rw [y1] at c3; cases c3
              obtain ⟨s', hs'⟩ := backS_some (rs := rs) (ss := as'.drop pre.length) x2
              refine ⟨s', hs', ?_, y2'⟩
              obtain ⟨s0, h0, hc⟩ := backS_get k s' hs'
              rcases hc with ⟨j', t, z1, z2, rfl⟩ | ⟨z1, _⟩
              · have := okIdx_uniq ok b2 z1 b3
                subst this
                rw [List.getElem?_drop, c1] at z2; cases z2
                exact c2
              · exfalso
                refine z1 j ?_ b2
                rw [List.length_drop, ar.len, List.length_append, List.length_map, slotsOf_len hs]
                have := (List.getElem?_eq_some_iff.mp b2).1
                omega
          · cases ha'
        · cases ha'
          have z : upL d pre.length (brOf E rs) (κ a) = .lck (.slot d k) := ev.lckr a d k (by omega) hq
          have hk : κ a = .lck (.slot d k) ∧ (brOf E rs).findIdx? (· == some k) = none := by
            cases hq2 : κ a with
            | lck l =>
              rw [hq2] at z
              cases l with
              | slot d2 j2 =>
                simp only [upL, upK] at z
                split at z
                · rename_i hd; split at z
                  · first | (cases z; done) | (cases z; omega)
                  · rename_i hx; subst hd; cases z; exact ⟨rfl, hx⟩
                · split at z
                  · cases z
                  · cases z; rename_i hd _; exact absurd rfl hd
              | _ => simp [upL] at z
            | slot d2 j2 => rw [hq2] at z; simp only [upL, upS] at z; split at z <;> (try split at z) <;> cases z
            | _ => rw [hq2] at z; simp [upL] at z
          obtain ⟨s, c1, c2, c3⟩ := i.e.lc a k hk.1
          obtain ⟨s', hs'⟩ := backS_some (rs := rs) (ss := as'.drop pre.length) c1
          refine ⟨s', hs', ?_, c3⟩
          obtain ⟨s0, h0, hc⟩ := backS_get k s' hs'
          rw [c1] at h0; cases h0
          rcases hc with ⟨j', t, z1, z2, rfl⟩ | ⟨z1, rfl⟩
          · exfalso
            have hf : isFz E k = false := by unfold isFz; rw [c1]; simp [c2]
            rw [br_idx ok z1 hf] at hk; cases hk.2
          · exact c2
      | _ => simp [dnL] at ha'
    | slot d2 j2 => rw [hq] at ha'; simp only [dnL] at ha'; split at ha' <;> (try split at ha') <;> cases ha'
    | _ => rw [hq] at ha'; simp [dnL] at ha'
theorem resR_ok {n0 : Nat → Prop} {s : Sl} {w : W} (r : RetR lk n0 κ h s w) : RR lk n0 κ env h (resR s) w := by
  unfold RetR at r
  unfold resR
  cases hm : s.m <;> rw [hm] at r <;> exact r
theorem callB_ok {X : BCx} {n : Nat} (hc : CallSim X.T X.O n) (hX : X.call = brun X.T X.O n) {f : String} (i : Inv d lk as κ env E h H) (dp : DVs κ h pre wpre) (wr : WRs κ env h rs wrs) :
    SimR d (IE d lk as env) κ h (PE lk (Bs κ h) env) (MP.run X.T n lk f (wpre ++ wrs) h) (callB X f pre rs E H) := by
  unfold callB
  refine SimR.then fun ss hs => SimR.guard fun ok => ?_
  obtain ⟨hi, ain⟩ := call_in i dp wr hs ok
  have s := hc f (d + 1) lk _ h H _ _ hi ain
  rw [hX]
  cases hf : brun X.T X.O n f (pre.map (fun v => (⟨.fz, v, false⟩ : Sl)) ++ ss) H with
  | bad => exact True.intro
  | ok r as' H' =>
    rw [hf] at s
    obtain ⟨w, h', κ', q1, q2, q3, q4, q5⟩ := s
    obtain ⟨e1, e2⟩ := call_out i dp wr hs ok q2 q3 q5
    refine ⟨w, h', _, q1, e1, e2, resR_ok ?_⟩
    unfold RetR at q4 ⊢
    cases hm : r.m with
    | fz => rw [hm] at q4; exact DV.mono dn_map.m q4
    | own => rw [hm] at q4; obtain ⟨a, z1, z2, z3, z4, z5⟩ := q4; exact ⟨a, z1, by show dnL _ _ _ (κ' a) = _; rw [z2]; rfl, fun hl q => z3 hl (by show upL _ _ _ (κ a) = _; rw [q]; rfl), z4, z5.mono dn_map.m rfl⟩
    | lkd => rw [hm] at q4; obtain ⟨a, z1, z2, z3, z4, z5⟩ := q4; exact ⟨a, z1, by show dnL _ _ _ (κ' a) = _; rw [z2]; rfl, fun hl q => z3 hl (by show upL _ _ _ (κ a) = _; rw [q]; rfl), z4, z5.mono dn_map.m rfl⟩
  | exc x as' H' =>
    rw [hf] at s
    obtain ⟨y, h', κ', q1, q2, q3, q4, q5⟩ := s
    obtain ⟨e1, e2⟩ := call_out i dp wr hs ok q2 q3 q5
    exact ⟨y, h', _, q1, e1, e2, q4.mono dn_map.m⟩
end
end BP

namespace BP
open MP (W O Hp Env Exn R rd BinOp CmpOp Blt Ty Ex It Cx Prog)
section
variable {d : Nat} {lk : List Nat} {as : List W} {κ κ0 : K} {env : Env} {E : EB} {h h0 : Hp} {H : HB} {α β : Type}
/-! ### operands that wait -/
def WRl (κ : K) (env : Env) (h : Hp) : List RV → List W → Prop
  | [], ws => ws = []
  | r :: rs, ws => ∃ w q, ws = w :: q ∧ WR true κ env h r w ∧ WRl κ env h rs q
theorem WRl.conts (i : Inv d lk as κ env E h H) : ∀ {rs : List RV} {ws : List W} {xs : List V}, WRl κ env h rs ws → rs.mapM (cont E H) = some xs → Cns κ h xs ws
  | [], ws, xs, e, c => by unfold WRl at e; subst e; simp at c; subst c; rfl
  | r :: rs, ws, xs, e, c => by
    unfold WRl at e
    obtain ⟨w, q, rfl, e1, e2⟩ := e
    rw [List.mapM_cons] at c
    simp only [Option.bind_eq_bind, Option.pure_def, Option.bind_eq_some_iff] at c
    obtain ⟨x, c1, l, c2, c3⟩ := c
    cases c3
    exact ⟨w, q, rfl, cont_ok i (n0 := fun _ => True) (WR.rr (lk := lk) e1) c1, WRl.conts i e2 c2⟩
theorem op2 {Q : Post α β} {ra : R W} {ba : B RV} {κ : K} {h : Hp} {sim : Bool} (sa : SimR d (IE d lk as env) κ h (PE lk (Bs κ h) env) ra ba) {fb : Hp → R W} {gb : EB → HB → B RV}
    (sb : ∀ κ1 h1 E1 H1, Ev d κ κ1 h h1 → Inv d lk as κ1 env E1 h1 H1 → SimR d (IE d lk as env) κ1 h1 (PE lk (Bs κ1 h1) env) (fb h1) (gb E1 H1)) (fr : ∀ h1 w h2, sim = true → fb h1 = .ok w h2 → Frame h1 h2)
    {k : W → W → Hp → R β} {g : RV → RV → EB → HB → B α}
    (kk : ∀ κ2 h2 E2 H2 r1 r2 w1 w2 n2, Ev d κ κ2 h h2 → Inv d lk as κ2 env E2 h2 H2 → WR sim κ2 env h2 r1 w1 → RR lk n2 κ2 env h2 r2 w2 → (∀ a, n2 a → Bs κ h a) → SimR d (IE d lk as env) κ h Q (k w1 w2 h2) (g r1 r2 E2 H2)) :
    SimR d (IE d lk as env) κ h Q (ra.bind fun x h => (fb h).bind fun y h => k x y h) (ba.bind fun r1 E H => thenB (fixR sim r1) fun r1 => (gb E H).bind fun r2 E H => g r1 r2 E H) := by
  refine SimR.bind sa fun r1 w1 κ1 h1 E1 H1 _ _ ev1 i1 p1 => SimR.then fun r1' f1 => ?_
  obtain ⟨κ1', ev1', i1', wr, _⟩ := fix_ok ev1 i1 p1 f1
  have s := sb κ1' h1 E1 H1 ev1' i1'
  cases hg : gb E1 H1 with
  | bad => exact True.intro
  | exc x E' H' =>
    rw [hg] at s
    obtain ⟨y, h2, κ2, q1, q2, q3, q4⟩ := s
    rw [q1]
    exact ⟨y, h2, κ2, rfl, ev1'.trans q2, q3, q4⟩
  | ok r2 E2 H2 =>
    rw [hg] at s
    obtain ⟨w2, h2, κ2, q1, q2, q3, q4⟩ := s
    rw [q1]
    exact kk κ2 h2 E2 H2 r1' r2 w1 w2 _ (ev1'.trans q2) q3 (wr.later q2 fun hs => fr h1 w2 h2 hs q1) q4 (fun _ => ev1'.bs)
/-! ### walks -/
theorem walkS_app {ps ps' : List Pl} {al al' : List Nat} (a : WalkS d lk as κ env h E H ps al) (b : WalkS d lk as κ env h E H ps' al') : WalkS d lk as κ env h E H (ps ++ ps') (al ++ al') := fun κ1 E1 H1 i z t bx un v x hx => by
  rcases List.mem_append.mp hx with hx | hx
  · exact a κ1 E1 H1 i z t bx (fun p hp => un p (List.mem_append_left _ hp)) v x hx
  · exact b κ1 E1 H1 i z t bx (fun p hp => un p (List.mem_append_right _ hp)) v x hx
theorem walkS_nil : WalkS d lk as κ env h E H [] [] := fun _ _ _ _ _ _ _ _ _ x hx => by cases hx
theorem safe_frz {κ : K} {a : Nat} (k : κ a = .frz) : Safe d κ E H a := ⟨fun _ _ q => (by rw [k] at q; cases q), fun _ _ _ _ _ q => (by rw [k] at q; cases q), fun _ _ q => (by rw [k] at q; cases q)⟩
theorem safe_tmp {κ : K} {a : Nat} (k : κ a = .tmp) : Safe d κ E H a := ⟨fun _ _ q => (by rw [k] at q; cases q), fun _ _ _ _ _ q => (by rw [k] at q; cases q), fun _ _ q => (by rw [k] at q; cases q)⟩
theorem safe_lck {κ : K} {a : Nat} {l : Own} (k : κ a = .lck l) : Safe d κ E H a := ⟨fun _ _ q => (by rw [k] at q; cases q), fun _ _ _ _ _ q => (by rw [k] at q; cases q), fun _ _ q => (by rw [k] at q; cases q)⟩
def notRef (x : V) : Prop := ∀ b, x ≠ .ref b
theorem safe_box {κ1 : K} {E1 : EB} {H1 : HB} {b a : Nat} (k : κ1 a = .box b) (ha : (at_ E1 H1 (.cn b)).isSome) (un : Unown E1 H1 (.cn b)) : Safe d κ1 E1 H1 a :=
  ⟨fun _ _ q => (by rw [k] at q; cases q), fun _ _ _ _ _ q => (by rw [k] at q; cases q), fun b' x q hx => by
    rw [k] at q; cases q
    simp only [at_, hx] at ha
    cases x with
    | ins c fs => cases ha
    | con m v => exact ⟨m, v, rfl, un ⟨m, v, false⟩ (by simp [at_, hx])⟩⟩
/-- the cells behind a value: safe -/
theorem safe_val {κ1 : K} {E1 : EB} {H1 : HB} {v : V} {w : W} (dv : DV κ1 h v w) (hb : ∀ b, v = .ref b → (at_ E1 H1 (.cn b)).isSome ∧ Unown E1 H1 (.cn b)) : ∀ a ∈ lkOf w, a < h.length ∧ Safe d κ1 E1 H1 a := by
  intro a ha
  cases w with
  | ref a' =>
    simp only [lkOf, List.mem_singleton] at ha
    subst ha
    rcases dv.ref_inv with ⟨b, rfl, k, hl⟩ | ⟨xs, ws, rfl, k, r, _⟩ | ⟨xs, ws, rfl, k, r, _⟩
    · obtain ⟨q1, q2⟩ := hb b rfl
      exact ⟨hl, safe_box k q1 q2⟩
    · exact ⟨rd_lt r, safe_frz k⟩
    · exact ⟨rd_lt r, safe_frz k⟩
  | _ => cases ha
theorem cn_some (i : Inv d lk as κ env E h H) {b : Nat} (hx : notRef (der H (.ref b))) : (at_ E H (.cn b)).isSome := by
  simp only [der] at hx
  cases hb : H[b]? with
  | none => rw [hb] at hx; exact absurd rfl (hx b)
  | some x =>
    rw [hb] at hx
    cases x with
    | ins c fs => exact absurd rfl (hx b)
    | con m v => simp [at_, hb]
theorem safe_sl {κ1 : K} {E1 : EB} {H1 : HB} {l : Own} {s : Sl} {w : W} {p : Pl} (e : SlR κ1 lk h l s w) (ps : List Pl) (hps : ps = [lockOf s.v p]) (hp : at_ E1 H1 p = some s) (un : ∀ q ∈ ps, Unown E1 H1 q) (hb : ∀ b, s.v = .ref b → (at_ E1 H1 (.cn b)).isSome) : ∀ a ∈ lkOf w, a < h.length ∧ Safe d κ1 E1 H1 a := by
  subst hps
  have hno : ∀ {a : Nat}, OwnC κ1 h s.v a → lockOf s.v p = p := fun o => by
    obtain ⟨_, _, o⟩ := o
    cases hv : s.v <;> rw [hv] at o <;> first | rfl | exact o.elim
  unfold SlR at e
  split at e
  · exact safe_val e fun b hv => ⟨hb b hv, un _ (by rw [hv]; simp [lockOf])⟩
  · rename_i hm
    obtain ⟨a, rfl, k, nl, o⟩ := e
    exact absurd hm (un _ (by rw [hno o]; simp) s hp)
  · obtain ⟨a, rfl, k, o⟩ := e
    intro a' ha
    simp only [lkOf, List.mem_singleton] at ha
    subst ha
    exact ⟨o.lt, safe_lck k⟩
theorem at_some_of {p : Pl} {E1 : EB} {H1 : HB} (v : (at_ E1 H1 p).map (fun s => s.v) = (at_ E H p).map fun s => s.v) {s : Sl} (hs : at_ E H p = some s) : ∃ s1, at_ E1 H1 p = some s1 ∧ s1.v = s.v := by
  rw [hs] at v
  simp only [Option.map_some, Option.map_eq_some_iff] at v
  exact v
theorem walkS_of (i : Inv d lk as κ env E h H) {n0 : Nat → Prop} {r : RV} {w : W} (e : RR lk n0 κ env h r w) {x : V} (c : cont E H r = some x) (hx : notRef x) : WalkS d lk as κ env h E H (locks E H r) (lkOf w) := by
  intro κ1 E1 H1 i1 z t bx un v
  have m : M κ κ1 h h := M.of z bx
  have cn1 : ∀ b, (at_ E H (.cn b)).isSome → (at_ E1 H1 (.cn b)).isSome := fun b hb => by
    obtain ⟨s, hs⟩ := Option.isSome_iff_exists.mp hb
    obtain ⟨s1, h1, _⟩ := at_some_of (v _) hs
    rw [h1]; rfl
  cases r with
  | tmp u =>
    obtain ⟨a, rfl, k, _, _, o⟩ := e
    intro a' ha
    simp only [lkOf, List.mem_singleton] at ha
    subst ha
    exact ⟨o.lt, safe_tmp (t _ k)⟩
  | val u =>
    cases c
    refine safe_val (DV.mono m e) fun b hb => ?_
    subst hb
    exact ⟨cn1 b (cn_some i hx), un _ (by simp [locks])⟩
  | pl p =>
    simp only [cont, Option.map_eq_some_iff] at c
    obtain ⟨s, hs, rfl⟩ := c
    obtain ⟨s1, h1, hv⟩ := at_some_of (v p) hs
    have hl : locks E H (.pl p) = [lockOf s1.v p] := by simp only [locks, hs, hv]
    have hb : ∀ b, s1.v = .ref b → (at_ E1 H1 (.cn b)).isSome := fun b q => by
      rw [hv] at q
      rw [q] at hx
      exact cn1 b (cn_some i hx)
    cases p with
    | cn b => exact e.elim
    | sl j =>
      obtain ⟨w', q1, q2, _⟩ := i1.e.sl j s1 h1
      have e' : env[j]? = some (some w) := e
      rw [e'] at q1; cases q1
      exact safe_sl q2 _ hl h1 un hb
    | fd b f =>
      obtain ⟨a, cc, gs, k, r1, r2⟩ := e
      exact safe_sl (fd_at i1.b ⟨a, cc, gs, bx _ _ k, r1, r2⟩ h1) _ hl h1 un hb
def PW (d : Nat) (lk : List Nat) (as : List W) (env : Env) : Post (List V × List Pl) (List W × List Nat) := fun p q κ h E H => DVs κ h p.1 q.1 ∧ WalkS d lk as κ env h E H p.2 q.2
theorem walk_nr {x : V} {l : List V} (e : vwalk x = some l) : notRef x := fun b q => by subst q; cases e
theorem lst_nr {x : V} {l : List V} (e : vlst x = some l) : notRef x := fun b q => by subst q; cases e
theorem lot_nr {x : V} {l : List V} (e : vlot x = some l) : notRef x := fun b q => by subst q; cases e
theorem walk2_nr {x y : V} {l : List V × List V} (e : vwalk2 x y = some l) : notRef x ∧ notRef y := ⟨(by intro b q; subst q; cases e), (by intro b q; subst q; cases x <;> cases e)⟩
theorem keys_nr {x : V} {l : List V} (e : vkeys x = some l) : notRef x := fun b q => by subst q; cases e
theorem items_nr {x : V} {l : List V} (e : vitems x = some l) : notRef x := fun b q => by subst q; cases e
theorem vals_nr {x : V} {l : List V} (e : vvals x = some l) : notRef x := fun b q => by subst q; cases e
/-! ### methods -/
theorem doM_ok {κ0 : K} {h0 : Hp} {l : Bool} (ev : Ev d κ0 κ h0 h) (i : Inv d lk as κ env E h H) {r : RV} {u : W} (e : WT lk (Bs κ0 h0) l κ env h r u) {mr : MR} {m : R W} (p : MRok κ h lk u mr m) : SimR d (IE d lk as env) κ0 h0 (PE lk (Bs κ0 h0) env) m (doM r E H mr) := by
  cases mr with
  | pure q => exact SimR.pr ev i p
  | «mut» v q =>
    obtain ⟨a, o, w, rfl, rfl, c, dv⟩ := p
    refine SimR.then fun st hst => ?_
    obtain ⟨E', H'⟩ := st
    obtain ⟨nl, hl, hz, ev', i'⟩ := mut_ok ev i e hst c
    refine ⟨w, h.set a o, κ, ?_, ev', i', ?_⟩
    · unfold MP.putV MP.put
      rw [if_pos ⟨hl, nl⟩]; rfl
    · exact DV.mono (Go.set (P := fun _ => False) hz (by simp)).m dv
end
end BP

namespace BP
open MP (W O Hp Env Exn R rd BinOp CmpOp Blt Ty Ex It Cx Prog Tg)
def CurR (x : Option BX) (y : Option Exn) (κ : K) (h : Hp) : Prop := match x, y with
  | none, none => True
  | some x, some y => XR κ h x y
  | _, _ => False
theorem CurR.mono {x : Option BX} {y : Option Exn} : ∀ κ κ' h h', M κ κ' h h' → CurR x y κ h → CurR x y κ' h' := fun κ κ' h h' m c => by
  cases x <;> cases y <;> first | exact c | exact XR.mono m c
abbrev mx (X : BCx) (n : Nat) (lk : List Nat) (c : Option Exn) : Cx := ⟨X.T, MP.run X.T n, lk, c⟩
section
variable {d : Nat} {lk : List Nat} {as : List W} {κ κ0 : K} {env : Env} {E : EB} {h h0 : Hp} {H : HB} {α β : Type}
theorem bind_some {α β : Type} {o : Option α} {f : α → Option β} {y : β} (e : o.bind f = some y) : ∃ x, o = some x ∧ f x = some y := by
  simpa [Option.bind_eq_some_iff] using e
theorem map_some {α β : Type} {o : Option α} {f : α → β} {y : β} (e : o.map f = some y) : ∃ x, o = some x ∧ f x = y := by
  simpa [Option.map_eq_some_iff] using e
theorem two_ok (ev : Ev d κ0 κ h0 h) (i : Inv d lk as κ env E h H) {l : Bool} {n2 : Nat → Prop} {r1 r2 : RV} {w1 w2 : W} (wr : WR l κ env h r1 w1) (rr : RR lk n2 κ env h r2 w2) {f : V → V → Option RV} {m : R W}
    (pp : ∀ x y r, Cn κ h x w1 → Cn κ h y w2 → f x y = some r → PR κ h r m) : SimR d (IE d lk as env) κ0 h0 (PE lk (Bs κ0 h0) env) m (two E H r1 r2 f) := by
  refine SimR.of fun r hr => ?_
  obtain ⟨x, c1, hr⟩ := bind_some hr
  obtain ⟨y, c2, hr⟩ := bind_some hr
  exact SimR.pr ev i (pp x y r (cont_ok i (wr.rr (lk := lk) (n0 := fun _ => True)) c1) (cont_ok i rr c2) hr)
/-- an answer of one operand -/
theorem one_ok (ev : Ev d κ0 κ h0 h) (i : Inv d lk as κ env E h H) {n2 : Nat → Prop} {r1 : RV} {w1 : W} (rr : RR lk n2 κ env h r1 w1) {f : V → Option RV} {m : R W}
    (pp : ∀ x r, Cn κ h x w1 → f x = some r → PR κ h r m) : SimR d (IE d lk as env) κ0 h0 (PE lk (Bs κ0 h0) env) m (B.of ((cont E H r1).bind f) E H) := by
  refine SimR.of fun r hr => ?_
  obtain ⟨x, c1, hr⟩ := bind_some hr
  exact SimR.pr ev i (pp x r (cont_ok i rr c1) hr)
theorem PR.tmp {v : V} {o : O} (c : CR κ h v o) : PR κ h (.tmp v) (MP.mk o h) := ⟨o, rfl, c⟩
theorem isTy_ok (i : Inv d lk as κ env E h H) {T : Prog} {x : V} {w : W} {t : Ty} {b : Bool} (c : Cn κ h x w) (e : visTy T H x t = some b) : MP.isTy T w t h = some b := by
  unfold visTy at e
  have key : ∀ {bb : Nat} {T' : Prog} {cc : String} {a : Nat}, κ a = .box bb → insTy T' cc H[bb]? = some b → ∃ dd gs, rd h a = some (.ins dd gs) ∧ T'.sub dd cc = b := fun {bb T' cc a} k e => by
    obtain ⟨x', o, h1, h2, h3⟩ := i.b.box a bb k
    rw [h1] at e
    cases x' with
    | con m v => cases e
    | ins dd fs =>
      obtain ⟨_, gs, rfl, _⟩ := h3
      cases e
      exact ⟨dd, gs, h2, rfl⟩
  split at e
  all_goals first
    | (simp only [Cn, DV] at c; subst c; exact e)
    | (simp only [Cn, DV] at c; obtain ⟨_, rfl, _⟩ := c; exact e)
    | skip
  · obtain ⟨a, us, rfl, r1, _⟩ := c; simpa [MP.isTy, r1, MP.isLst] using e
  · obtain ⟨a, us, rfl, r1, _⟩ := c; simpa [MP.isTy, r1, MP.isDct] using e
  · simp only [Cn, DV] at c
    obtain ⟨a, rfl, k, _⟩ := c
    obtain ⟨dd, gs, h1, h2⟩ := key k e
    simp [MP.isTy, h1, MP.isOwn, h2]
  · simp only [Cn, DV] at c
    obtain ⟨a, rfl, k, _⟩ := c
    obtain ⟨dd, gs, h1, h2⟩ := key k e
    simp only at h2
    simp [MP.isTy, h1, MP.isLst, h2]
  · simp only [Cn, DV] at c
    obtain ⟨a, rfl, k, _⟩ := c
    obtain ⟨dd, gs, h1, h2⟩ := key k e
    simp only at h2
    simp [MP.isTy, h1, MP.isDct, h2]
  · cases e
    rename_i n1 n2 n3 n4 n5 n6 n7 n8 n9 n10
    cases x with
    | lst xs =>
      obtain ⟨a, us, rfl, r1, _⟩ := c
      cases t with
      | list => exact absurd rfl (n6 xs rfl)
      | _ => simp [MP.isTy, r1, MP.isDct, MP.isOwn]
    | dct xs =>
      obtain ⟨a, us, rfl, r1, _⟩ := c
      cases t with
      | dict => exact absurd rfl (n7 xs rfl)
      | _ => simp [MP.isTy, r1, MP.isLst, MP.isOwn]
    | ref b =>
      simp only [Cn, DV] at c
      obtain ⟨a, rfl, k, _⟩ := c
      cases t with
      | own cc => exact absurd rfl (n8 b cc rfl)
      | list => exact absurd rfl (n9 b rfl)
      | dict => exact absurd rfl (n10 b rfl)
      | _ => rfl
    | int j => simp only [Cn, DV] at c; subst c; cases t with
      | int => exact absurd rfl (n1 j rfl)
      | _ => rfl
    | bl j => simp only [Cn, DV] at c; subst c; cases t with
      | int => exact absurd rfl (n2 j rfl)
      | bool => exact absurd rfl (n3 j rfl)
      | _ => rfl
    | str j => simp only [Cn, DV] at c; subst c; cases t with
      | str => exact absurd rfl (n4 j rfl)
      | _ => rfl
    | tup j => simp only [Cn, DV] at c; obtain ⟨_, rfl, _⟩ := c; cases t with
      | tuple => exact absurd rfl (n5 j rfl)
      | _ => rfl
    | non => simp only [Cn, DV] at c; subst c; cases t <;> rfl
theorem fmt_ok {x : V} {w : W} {y : List Nat} (c1 : Cn κ h x w) (e0 : fmtV x = some y) : MP.fmtS w = some y := by
  cases x <;> simp only [fmtV] at e0 <;> (try (cases e0; done))
  all_goals
    simp only [Cn, DV] at c1
    subst c1
    exact e0
/-- equal ones -/
def PEq {α : Type} : Post α α := fun x y _ _ _ _ => x = y
theorem XRf.get : ∀ {l : List (String × V)} {l' : List (String × W)} {f : String} {v : V}, DVf κ h l l' → l.lookup f = some v → ∃ w, l'.lookup f = some w ∧ DV κ h v w
  | [], l', f, v, c, e => by cases e
  | (g, u) :: l, l', f, v, c, e => by
    obtain ⟨w, q, rfl, c1, c2⟩ := c
    rw [List.lookup_cons] at e ⊢
    cases hg : f == g with
    | true => rw [hg] at e; cases e; exact ⟨w, rfl, c1⟩
    | false => rw [hg] at e; exact XRf.get c2 e
def PR2 (env : Env) : Post (List RV) (List W) := fun r w κ h _ _ => WRl κ env h r w
def PRA (env : Env) : Post (List RV) (List W) := fun r w κ h _ _ => WRs κ env h r w
def POI : Post (Option Int) (Option Int) := fun a b _ _ _ _ => a = b
theorem WRs.later {κ' : K} {h' : Hp} (ev : Ev d κ κ' h h') : ∀ {rs : List RV} {ws : List W}, WRs κ env h rs ws → WRs κ' env h' rs ws
  | [], ws, e => e
  | r :: rs, ws, e => by
    obtain ⟨w, q, rfl, e1, e2⟩ := e
    exact ⟨w, q, rfl, e1.later ev (fun z => by cases z), e2.later ev⟩
theorem Same.wrs {κ' : K} {h' : Hp} (s : Same κ κ' h h') {rs : List RV} {ws : List W} (e : WRs κ env h rs ws) : WRs κ' env h' rs ws := e.later (d := 0) s.ev
/-- a new instance -/
theorem ins_new (i : Inv d lk as κ env E h H) (cl : String) : ∃ κ', Ev d κ κ' h (h ++ [.ins cl []]) ∧ Inv d lk as κ' env E (h ++ [.ins cl []]) (H ++ [.ins cl []]) ∧ DV κ' (h ++ [.ins cl []]) (.ref H.length) (.ref h.length) := by
  have s : Same κ (upd κ h.length .tmp) h (h ++ [.ins cl []]) := Same.new (by simp) (by simp)
  have i1 : Inv d lk as (upd κ h.length .tmp) env E (h ++ [.ins cl []]) H := ⟨s.einv i.e, s.hinv i.b⟩
  have r : rd (h ++ [O.ins cl []]) h.length = some (.ins cl []) := by simp [rd]
  have i2 := box_new (x := .ins cl []) i1 upd_same ⟨_, r, fun q => Nat.lt_irrefl _ (i.b.lkb _ q), [], rfl, fun f => by simp⟩ (fun f s q => by simp [fdS] at q)
  exact ⟨_, ev_box s.ev (by simp) upd_same (fun hl => absurd hl (Nat.lt_irrefl _)), i2, by unfold DV; exact ⟨_, rfl, upd_same, by simp⟩⟩
end
theorem SimR.bindE {d : Nat} {I : K → Hp → EB → HB → Prop} {κ0 κ : K} {h0 h : Hp} {α β γ δ : Type} {P : Post α β} {Q : Post γ δ} {r : R β} {b : B α} {f : β → Hp → R δ} {g : α → EB → HB → B γ} (ev : Ev d κ0 κ h0 h) (s : SimR d I κ h P r b)
    (k : ∀ x y κ' h' E' H', r = .ok y h' → Ev d κ κ' h h' → Ev d κ0 κ' h0 h' → I κ' h' E' H' → P x y κ' h' E' H' → SimR d I κ0 h0 Q (f y h') (g x E' H')) : SimR d I κ0 h0 Q (r.bind f) (b.bind g) := by
  cases b with
  | bad => exact True.intro
  | ok x E H =>
    obtain ⟨y, h, κ, rfl, e1, e2, e3⟩ := s
    exact k x y κ h E H rfl e1 (ev.trans e1) e2 e3
  | exc x E H =>
    obtain ⟨y, h, κ, rfl, e1, e2, e3⟩ := s
    exact ⟨y, h, κ, rfl, ev.trans e1, e2, e3⟩
theorem DVs.cns' {κ : K} {h : Hp} {xs : List V} {ws : List W} (e : DVs κ h xs ws) : Cns κ h xs ws := e.cns
theorem rf_evO (X : Cx) : ∀ (e : Option Ex), simpleO e = true → ∀ (env : Env) (h : Hp), RF h (MP.evO X e env h)
  | none, _, env, h => RF.ok
  | some e, c, env, h => RF.bind (rf_ev X e c env h) fun x h => by unfold MP.part; split <;> first | exact RF.ok | exact RF.bad
theorem B.bind_assoc {α β γ : Type} (b : B α) (f : α → EB → HB → B β) (g : β → EB → HB → B γ) : (b.bind f).bind g = b.bind fun x E H => (f x E H).bind g := by cases b <;> rfl
variable {X : BCx} {n : Nat} (hc : CallSim X.T X.O n) (hX : X.call = brun X.T X.O n)
include hc hX
mutual
theorem ev_ok : ∀ (e : Ex) {d : Nat} {lk : List Nat} {as : List W} {κ : K} {env : Env} {E : EB} {h : Hp} {H : HB} {c : Option Exn}, CurR X.cur c κ h → Inv d lk as κ env E h H → SimR d (IE d lk as env) κ h (PE lk (Bs κ h) env) (MP.ev (mx X n lk c) e env h) (bev X e E H)
  | .non, d, lk, as, κ, env, E, h, H, c, cr, i => SimR.val .refl i non_dv
  | .bl b, d, lk, as, κ, env, E, h, H, c, cr, i => SimR.val .refl i (by simp [DV])
  | .int j, d, lk, as, κ, env, E, h, H, c, cr, i => SimR.val .refl i (by simp [DV])
  | .str s, d, lk, as, κ, env, E, h, H, c, cr, i => SimR.val .refl i (by simp [DV])
  | .var j, d, lk, as, κ, env, E, h, H, c, cr, i => by
    show SimR _ _ _ _ _ (MP.slot env j h) (B.of ((E[j]?.join).map fun _ => RV.pl (.sl j)) E H)
    refine SimR.of fun x hx => ?_
    obtain ⟨s, hs, rfl⟩ := map_some hx
    obtain ⟨w, q1, _, _⟩ := i.e.sl j s hs
    exact ⟨w, h, κ, by unfold MP.slot; rw [q1]; rfl, .refl, i, q1⟩
  | .bin op a b, d, lk, as, κ, env, E, h, H, c, cr, i =>
    op2 (ev_ok a cr i) (fun κ1 h1 E1 H1 ev1 i1 => ev_ok b (CurR.mono _ _ _ _ ev1.toM cr) i1) (fun h1 w h2 hs q => simple_fr q hs) fun κ2 h2 E2 H2 r1 r2 w1 w2 n2 ev2 i2 wr rr _ => two_ok ev2 i2 wr rr fun x y r cx cy hr => bin_ok cx cy hr
  | .neg a, d, lk, as, κ, env, E, h, H, c, cr, i =>
    SimR.bind (ev_ok a cr i) fun r w κ1 h1 E1 H1 _ _ ev1 i1 p1 => by
      refine SimR.of fun q hq => ?_
      obtain ⟨z, hz, rfl⟩ := map_some hq
      obtain ⟨x, c1, c2⟩ := bind_some hz
      obtain ⟨u, e1, e2⟩ := neg_ok (cont_ok i1 p1 c1) c2
      exact ⟨u, h1, κ1, e1, ev1, i1, e2⟩
  | .cmp op a b, d, lk, as, κ, env, E, h, H, c, cr, i =>
    op2 (ev_ok a cr i) (fun κ1 h1 E1 H1 ev1 i1 => ev_ok b (CurR.mono _ _ _ _ ev1.toM cr) i1) (fun h1 w h2 hs q => simple_fr q hs) fun κ2 h2 E2 H2 r1 r2 w1 w2 n2 ev2 i2 wr rr _ => two_ok ev2 i2 wr rr fun x y r cx cy hr => by
      obtain ⟨b, hb, rfl⟩ := map_some hr
      rw [cmp_ok cx cy hb]; exact PR.bl
  | .chain op op' a b e, d, lk, as, κ, env, E, h, H, c, cr, i =>
    op2 (ev_ok a cr i) (fun κ1 h1 E1 H1 ev1 i1 => ev_ok b (CurR.mono _ _ _ _ ev1.toM cr) i1) (fun h1 w h2 hs q => simple_fr q hs) fun κ2 h2 E2 H2 r1 r2 w1 w2 n2 ev2 i2 wr rr hn => by
      refine SimR.then fun r2' f2 => ?_
      obtain ⟨κ2', ev2', i2', wr2, mm⟩ := fix_ok ev2 i2 (PE.up hn rr) f2
      refine SimR.then fun k hk => ?_
      obtain ⟨x, c1, hk⟩ := bind_some hk
      obtain ⟨y, c2, hk⟩ := bind_some hk
      rw [cmp_ok (cont_ok i2' ((wr.mono mm).rr (lk := lk) (n0 := fun _ => True)) c1) (cont_ok i2' (wr2.rr (lk := lk) (n0 := fun _ => True)) c2) hk]
      simp only [MP.thenO_some]
      cases k with
      | false => exact SimR.val ev2' i2' (by simp [DV])
      | true =>
        refine SimR.sub ev2' (SimR.bind (ev_ok e (CurR.mono _ _ _ _ ev2'.toM cr) i2') fun r3 w3 κ3 h3 E3 H3 hr hb ev3 i3 p3 => ?_)
        exact two_ok ev3 i3 (wr2.later ev3 fun hs => simple_fr hr hs) p3 fun x y r cx cy hr => by
          obtain ⟨b, hb, rfl⟩ := map_some hr
          rw [cmp_ok cx cy hb]; exact PR.bl
  | .and a b, d, lk, as, κ, env, E, h, H, c, cr, i =>
    SimR.bind (ev_ok a cr i) fun r w κ1 h1 E1 H1 _ _ ev1 i1 p1 => by
      refine SimR.then fun k hk => ?_
      obtain ⟨x, c1, c2⟩ := bind_some hk
      rw [bool_ok (cont_ok i1 p1 c1) c2]
      simp only [MP.thenO_some]
      cases k with
      | false => exact SimR.val ev1 i1 (by simp [DV])
      | true => exact SimR.sub ev1 (ev_ok b (CurR.mono _ _ _ _ ev1.toM cr) i1)
  | .or a b, d, lk, as, κ, env, E, h, H, c, cr, i =>
    SimR.bind (ev_ok a cr i) fun r w κ1 h1 E1 H1 _ _ ev1 i1 p1 => by
      refine SimR.then fun k hk => ?_
      obtain ⟨x, c1, c2⟩ := bind_some hk
      rw [bool_ok (cont_ok i1 p1 c1) c2]
      simp only [MP.thenO_some]
      cases k with
      | true => exact SimR.val ev1 i1 (by simp [DV])
      | false => exact SimR.sub ev1 (ev_ok b (CurR.mono _ _ _ _ ev1.toM cr) i1)
  | .not a, d, lk, as, κ, env, E, h, H, c, cr, i =>
    SimR.bind (ev_ok a cr i) fun r w κ1 h1 E1 H1 _ _ ev1 i1 p1 => by
      refine SimR.of fun q hq => ?_
      obtain ⟨z, hz, rfl⟩ := map_some hq
      obtain ⟨x, c1, c2⟩ := bind_some hz
      rw [bool_ok (cont_ok i1 p1 c1) c2]
      exact SimR.val ev1 i1 (by simp [DV])
  | .ife q a b, d, lk, as, κ, env, E, h, H, c, cr, i =>
    SimR.bind (ev_ok q cr i) fun r w κ1 h1 E1 H1 _ _ ev1 i1 p1 => by
      refine SimR.then fun k hk => ?_
      obtain ⟨x, c1, c2⟩ := bind_some hk
      rw [bool_ok (cont_ok i1 p1 c1) c2]
      simp only [MP.thenO_some]
      cases k with
      | true => exact SimR.sub ev1 (ev_ok a (CurR.mono _ _ _ _ ev1.toM cr) i1)
      | false => exact SimR.sub ev1 (ev_ok b (CurR.mono _ _ _ _ ev1.toM cr) i1)
  | .fld o f, d, lk, as, κ, env, E, h, H, c, cr, i =>
    SimR.bind (ev_ok o cr i) fun r w κ1 h1 E1 H1 _ _ ev1 i1 p1 => by
      refine SimR.of fun q hq => ?_
      obtain ⟨x, c1, c2⟩ := bind_some hq
      have cn := cont_ok i1 p1 c1
      unfold fldR at c2
      split at c2
      · rename_i b
        simp only [Cn, DV] at cn
        obtain ⟨a, rfl, k, hl⟩ := cn
        obtain ⟨s, hs, rfl⟩ := map_some c2
        obtain ⟨x', o', h1', h2', h3'⟩ := i1.b.box a b k
        rw [h1'] at hs
        cases x' with
        | con m v => cases hs
        | ins cl fs =>
          obtain ⟨_, gs, rfl, h4⟩ := h3'
          have q := h4 f
          simp only [fdS] at hs
          rw [hs] at q
          obtain ⟨w', q1, q2⟩ := q
          have e1 : MP.fldOf (.ref a) f h1 = some w' := by simp only [MP.fldOf, h2', MP.fldO, q1]
          rw [e1]
          refine ⟨w', h1, κ1, rfl, ev1, i1, ?_⟩
          unfold SlR at q2
          cases hm : s.m with
          | fz => rw [hm] at q2; exact q2
          | own => exact ⟨a, cl, gs, k, h2', q1⟩
          | lkd => exact ⟨a, cl, gs, k, h2', q1⟩
      · cases c2
  | .ix o j, d, lk, as, κ, env, E, h, H, c, cr, i =>
    op2 (ev_ok o cr i) (fun κ1 h1 E1 H1 ev1 i1 => ev_ok j (CurR.mono _ _ _ _ ev1.toM cr) i1) (fun h1 w h2 hs q => simple_fr q hs) fun κ2 h2 E2 H2 r1 r2 w1 w2 n2 ev2 i2 wr rr _ => two_ok ev2 i2 wr rr fun x y r cx cy hr => by
      obtain ⟨z, hz, rfl⟩ := map_some hr
      obtain ⟨u, e1, e2⟩ := item_ok cx cy hz
      rw [e1]; exact ⟨u, rfl, e2⟩
  | .sl o lo hi, d, lk, as, κ, env, E, h, H, c, cr, i => by
    show SimR _ _ _ _ _ ((MP.ev (mx X n lk c) o env h).bind fun x h => (MP.evO (mx X n lk c) lo env h).bind fun l h => (MP.evO (mx X n lk c) hi env h).bind fun u h => MP.slice x l u h) _
    simp only [bev]
    refine SimR.bind (ev_ok o cr i) fun r w κ1 h1 E1 H1 _ _ ev1 i1 p1 => SimR.then fun r' f1 => ?_
    obtain ⟨κ1', ev1', i1', wr, _⟩ := fix_ok ev1 i1 p1 f1
    refine SimR.sub ev1' (SimR.bind (evO_ok lo (CurR.mono _ _ _ _ ev1'.toM cr) i1') fun l l' κ2 h2 E2 H2 hr2 _ ev2 i2 p2 => ?_)
    have wr2 := wr.later ev2 (fun hs => by
      rw [Bool.and_eq_true] at hs
      have := rf_evO (mx X n lk c) lo hs.1 env h1
      rw [hr2] at this; exact this)
    refine SimR.sub ev2 (SimR.bind (evO_ok hi (CurR.mono _ _ _ _ ev2.toM (CurR.mono _ _ _ _ ev1'.toM cr)) i2) fun u u' κ3 h3 E3 H3 hr3 _ ev3 i3 p3 => ?_)
    have wr3 := wr2.later ev3 (fun hs => by
      rw [Bool.and_eq_true] at hs
      have := rf_evO (mx X n lk c) hi hs.2 env h2
      rw [hr3] at this; exact this)
    have e2 : l = l' := p2
    have e3 : u = u' := p3
    subst e2; subst e3
    exact one_ok ev3 i3 (wr3.rr (lk := lk) (n0 := fun _ => True)) fun x r cx hr => slice_ok cx hr
  | .tup es, d, lk, as, κ, env, E, h, H, c, cr, i =>
    SimR.bind (evs_ok 5 0 es cr i) fun xs ws κ1 h1 E1 H1 _ _ ev1 i1 p1 => SimR.val ev1 i1 (by unfold DV; exact ⟨_, rfl, p1⟩)
  | .lst es, d, lk, as, κ, env, E, h, H, c, cr, i =>
    SimR.bind (evs_ok 0 0 es cr i) fun xs ws κ1 h1 E1 H1 _ _ ev1 i1 p1 => SimR.pr ev1 i1 (PR.tmp ⟨_, rfl, p1⟩)
  | .dct kvs, d, lk, as, κ, env, E, h, H, c, cr, i =>
    SimR.bind (evp_ok 0 kvs cr i) fun ps ws κ1 h1 E1 H1 _ _ ev1 i1 p1 => SimR.guard fun g => by
      obtain ⟨f1, f2⟩ := flat_all p1 g
      have : MP.dictOk ws = true := f1
      rw [this]
      exact SimR.pr ev1 i1 (PR.tmp ⟨_, rfl, dmerge_nodup rfl, dmerge_ok .nil (fun _ q => by cases q) p1 f2⟩)
  | .call f es, d, lk, as, κ, env, E, h, H, c, cr, i =>
    SimR.bind (arg_ok es cr i) fun rs ws κ1 h1 E1 H1 _ _ ev1 i1 p1 => SimR.sub ev1 (callB_ok hc hX i1 .nil p1)
  | .new cl es, d, lk, as, κ, env, E, h, H, c, cr, i => by
    show SimR _ _ _ _ _ (MP.thenO (X.T.mt cl "__init__") fun f => (MP.evs (mx X n lk c) es env h).bind fun xs h => (MP.mk (.ins cl []) h).bind fun s h => (MP.run X.T n lk f (s :: xs) h).bind fun _ h => .ok s h) _
    simp only [bev]
    refine SimR.then fun f hf => ?_
    rw [hf]
    simp only [MP.thenO_some]
    refine SimR.bind (arg_ok es cr i) fun rs ws κ1 h1 E1 H1 _ _ ev1 i1 p1 => ?_
    obtain ⟨κ2, ev2, i2, dv⟩ := ins_new i1 cl
    refine SimR.sub (ev1.trans ev2) ?_
    have s := callB_ok hc hX (f := f) i2 (pre := [.ref H1.length]) (wpre := [.ref h1.length]) (.one dv) (p1.later ev2)
    show SimR _ _ _ _ _ ((MP.run X.T n lk f (.ref h1.length :: ws) (h1 ++ [.ins cl []])).bind fun _ h => .ok (W.ref h1.length) h) _
    exact SimR.bind s fun r w κ3 h3 E3 H3 _ _ ev3 i3 p3 => SimR.val ev3 i3 (DV.mono ev3.toM dv)
  | .meth o m es, d, lk, as, κ, env, E, h, H, c, cr, i => by
    show SimR _ _ _ _ _ ((MP.ev (mx X n lk c) o env h).bind fun x h => MP.thenO (MP.mthOf X.T x m h) fun t => (MP.evs (mx X n lk c) es env h).bind fun xs h =>
      match t with
      | .own f => MP.run X.T n lk f (x :: xs) h
      | .blt => MP.bm lk x m xs h) _
    simp only [bev]
    refine SimR.bind (ev_ok o cr i) fun r w κ1 h1 E1 H1 _ _ ev1 i1 p1 => SimR.then fun t ht => ?_
    obtain ⟨x, c1, c2⟩ := bind_some ht
    have cn := cont_ok i1 p1 c1
    have blt : t = .blt → MP.mthOf X.T w m h1 = some .blt := fun q => by
      subst q
      unfold mthB at c2
      cases x <;> simp only at c2 <;> (try (cases c2; done))
      · simp only [Cn, DV] at cn; subst cn
        split at c2
        · rename_i q; unfold MP.mthOf; simp [q]
        · cases c2
      · simp only [Cn, DV] at cn; subst cn
        split at c2
        · rename_i q; unfold MP.mthOf; simp [q]
        · cases c2
      · obtain ⟨a, us, rfl, r1, _⟩ := cn
        split at c2
        · rename_i q; unfold MP.mthOf MP.mthO; simp [q, r1]
        · cases c2
      · obtain ⟨a, us, rfl, r1, _⟩ := cn
        split at c2
        · rename_i q; unfold MP.mthOf MP.mthO; simp [q, r1]
        · cases c2
      · unfold mthI at c2
        split at c2
        · split at c2
          · simp at c2
          · cases c2
        · cases c2
    cases t with
    | own f b =>
      have hx : x = .ref b ∧ ∃ cl fs, H1[b]? = some (.ins cl fs) ∧ fs.lookup m = none ∧ X.T.mt cl m = some f := by
        unfold mthB at c2
        cases x <;> simp only at c2 <;> (try (cases c2; done)) <;> (try (split at c2 <;> cases c2; done))
        unfold mthI at c2
        split at c2
        · rename_i cl fs hb
          split at c2
          · rename_i hn
            obtain ⟨f', e1, e2⟩ := map_some c2
            cases e2
            exact ⟨rfl, cl, fs, hb, by simpa using hn, e1⟩
          · cases c2
        · cases c2
      obtain ⟨rfl, cl, fs, hb, hn, hm⟩ := hx
      have dv : DV κ1 h1 (.ref b) w := cn
      simp only [Cn, DV] at cn
      obtain ⟨a, rfl, k, hl⟩ := cn
      obtain ⟨x', o', q1, q2, q3⟩ := i1.b.box a b k
      rw [hb] at q1; cases q1
      obtain ⟨_, gs, rfl, q4⟩ := q3
      have q5 := q4 m
      rw [hn] at q5
      have e1 : MP.mthOf X.T (.ref a) m h1 = some (.own f) := by simp [MP.mthOf, MP.mthO, q2, q5, hm]
      rw [e1]
      simp only [MP.thenO_some]
      refine SimR.sub ev1 (SimR.bind (arg_ok es (CurR.mono _ _ _ _ ev1.toM cr) i1) fun rs ws κ2 h2 E2 H2 _ _ ev2 i2 p2 => ?_)
      exact SimR.sub ev2 (callB_ok hc hX i2 (pre := [.ref b]) (wpre := [.ref a]) (.one (DV.mono ev2.toM dv)) p2)
    | blt =>
      rw [blt rfl]
      simp only [MP.thenO_some]
      refine SimR.then fun r' f1 => ?_
      have wt := fixT_ok p1 f1
      by_cases hm : m ∈ readM
      · simp only [if_pos hm]
        refine SimR.bindE ev1 (ops_ok es (CurR.mono _ _ _ _ ev1.toM cr) i1) fun rs ws κ2 h2 E2 H2 hr ev2 ev02 i2 p2 => SimR.then fun mr hmr => ?_
        obtain ⟨x2, d1, d2⟩ := bind_some hmr
        obtain ⟨ys, d3, d4⟩ := bind_some d2
        have wt2 := wt.later ev2 (fun hs => simples_fr hr hs)
        exact doM_ok ev02 i2 wt2 (vm_ok (cont_ok i2 wt2.rr d1) (p2.conts i2 d3) (fun q => absurd hm q) d4)
      · simp only [if_neg hm]
        refine SimR.bindE ev1 (evs_ok 2 0 es (CurR.mono _ _ _ _ ev1.toM cr) i1) fun ys ws κ2 h2 E2 H2 hr ev2 ev02 i2 p2 => SimR.then fun mr hmr => ?_
        obtain ⟨x2, d1, d2⟩ := bind_some hmr
        have wt2 := wt.later ev2 (fun hs => simples_fr hr hs)
        exact doM_ok ev02 i2 wt2 (vm_ok (cont_ok i2 wt2.rr d1) (DVs.cns p2) (fun _ => p2) d2)
  | .sup cl m es, d, lk, as, κ, env, E, h, H, c, cr, i => by
    show SimR _ _ _ _ _ (MP.thenO (X.T.mt cl m) fun f => (MP.evs (mx X n lk c) es env h).bind fun xs h => MP.run X.T n lk f xs h) _
    simp only [bev]
    refine SimR.then fun f hf => ?_
    rw [hf]
    exact SimR.bind (arg_ok es cr i) fun rs ws κ1 h1 E1 H1 _ _ ev1 i1 p1 => SimR.sub ev1 (callB_ok hc hX i1 .nil p1)
  | .blt b es, d, lk, as, κ, env, E, h, H, c, cr, i =>
    SimR.bind (ops_ok es cr i) fun rs ws κ1 h1 E1 H1 _ _ ev1 i1 p1 => by
      refine SimR.of fun q hq => ?_
      obtain ⟨xs, c1, c2⟩ := bind_some hq
      exact SimR.pr ev1 i1 (blt_ok (p1.conts i1 c1) c2)
  | .isi e t, d, lk, as, κ, env, E, h, H, c, cr, i =>
    SimR.bind (ev_ok e cr i) fun r w κ1 h1 E1 H1 _ _ ev1 i1 p1 => by
      refine SimR.of fun q hq => ?_
      obtain ⟨z, hz, rfl⟩ := map_some hq
      obtain ⟨x, c1, c2⟩ := bind_some hz
      rw [isTy_ok i1 (cont_ok i1 p1 c1) c2]
      exact SimR.val ev1 i1 (by simp [DV])
  | .comp own elt tg it none, d, lk, as, κ, env, E, h, H, c, cr, i =>
    SimR.bind (iter_ok it cr i) fun p q κ1 h1 E1 H1 _ _ ev1 i1 p1 => SimR.guard fun ho => by
      have cr1 := CurR.mono _ _ _ _ ev1.toM cr
      refine SimR.bind (locked_ok (P := PVs) (C := CurR X.cur c) ev1 i1 p1.2 (fun _ _ _ _ _ _ _ _ _ m dv => DVs.mono m dv) fun κ2 E2 H2 m2 i2 => ?_) fun ys ws κ3 h3 E3 H3 _ _ ev3 i3 p3 => SimR.pr ev3 i3 (PR.tmp ⟨_, rfl, p3⟩)
      exact comp_loop (turnC_ok (CurR.mono) ho fun env' κ h E H cc i => elt_ok (store_ok X 4 0 (ev_ok elt cc i))) _ _ _ _ _ _ _ _ ⟨CurR.mono _ _ _ _ m2 cr1, env, fun _ _ => rfl, rfl, i2⟩ (p1.1.mono m2) .nil
  | .comp own elt tg it (some e), d, lk, as, κ, env, E, h, H, c, cr, i =>
    SimR.bind (iter_ok it cr i) fun p q κ1 h1 E1 H1 _ _ ev1 i1 p1 => SimR.guard fun ho => by
      have cr1 := CurR.mono _ _ _ _ ev1.toM cr
      refine SimR.bind (locked_ok (P := PVs) (C := CurR X.cur c) ev1 i1 p1.2 (fun _ _ _ _ _ _ _ _ _ m dv => DVs.mono m dv) fun κ2 E2 H2 m2 i2 => ?_) fun ys ws κ3 h3 E3 H3 _ _ ev3 i3 p3 => SimR.pr ev3 i3 (PR.tmp ⟨_, rfl, p3⟩)
      refine comp_loop (turnC_ok (CurR.mono) ho fun env' κ h E H cc i => ?_) _ _ _ _ _ _ _ _ ⟨CurR.mono _ _ _ _ m2 cr1, env, fun _ _ => rfl, rfl, i2⟩ (p1.1.mono m2) .nil
      simp only [condB, contB, B.bind_assoc]
      refine SimR.bind (ev_ok e cc i) fun r w κ1 h1 E1 H1 _ _ ev1 i1 p1 => ?_
      cases hcn : cont E1 H1 r with
      | none => exact True.intro
      | some x =>
        simp only [B.of_some, B.bind_ok]
        refine SimR.then fun k hk => ?_
        rw [bool_ok (cont_ok i1 p1 hcn) hk]
        simp only [MP.thenO_some]
        cases k with
        | false => exact ⟨none, h1, κ1, rfl, ev1, i1, True.intro⟩
        | true => exact SimR.up ev1 (elt_ok (store_ok X 4 0 (ev_ok elt (CurR.mono _ _ _ _ ev1.toM cc) i1)))
  | .listOf it, d, lk, as, κ, env, E, h, H, c, cr, i =>
    SimR.bind (iter_ok it cr i) fun p q κ1 h1 E1 H1 _ _ ev1 i1 p1 => SimR.guard fun hl => by
      have e : decide (q.1.length ≤ MP.LINE) = true := by rw [p1.1.len]; exact hl
      rw [e]
      exact SimR.pr ev1 i1 (PR.tmp ⟨_, rfl, p1.1⟩)
  | .tupOf it, d, lk, as, κ, env, E, h, H, c, cr, i =>
    SimR.bind (iter_ok it cr i) fun p q κ1 h1 E1 H1 _ _ ev1 i1 p1 => SimR.val ev1 i1 (by unfold DV; exact ⟨_, rfl, p1.1⟩)
  | .sortK src j key, d, lk, as, κ, env, E, h, H, c, cr, i =>
    SimR.bind (ev_ok src cr i) fun r w κ1 h1 E1 H1 _ _ ev1 i1 p1 => SimR.then fun xs hx => by
      obtain ⟨x, c1, c2⟩ := bind_some hx
      obtain ⟨ws, e1, e2⟩ := seq_ok (cont_ok i1 p1 c1) c2
      rw [e1]
      simp only [MP.thenO_some]
      have cr1 := CurR.mono _ _ _ _ ev1.toM cr
      refine SimR.bind (locked_ok (P := PKs) (C := CurR X.cur c) ev1 i1 walkS_nil (fun _ _ _ _ _ _ _ _ _ m dv => DVp.mono m dv) fun κ2 E2 H2 m2 i2 => ?_) fun ps us κ3 h3 E3 H3 _ _ ev3 i3 p3 => ?_
      · exact keys_loop (turnK_ok (CurR.mono) fun env' κ h E H cc i => (ev_ok key cc i).seal) _ _ _ _ _ _ ⟨CurR.mono _ _ _ _ m2 cr1, env, fun _ _ => rfl, rfl, i2⟩ (e2.mono m2)
      · refine SimR.of fun q hq => ?_
        obtain ⟨zs, hz, rfl⟩ := map_some hq
        obtain ⟨us', e3, e4⟩ := sortP_ok p3 hz
        rw [e3]
        exact SimR.pr ev3 i3 (PR.tmp ⟨_, rfl, e4⟩)
  | .minK src j key, d, lk, as, κ, env, E, h, H, c, cr, i =>
    SimR.bind (ev_ok src cr i) fun r w κ1 h1 E1 H1 _ _ ev1 i1 p1 => SimR.then fun xs hx => by
      obtain ⟨x, c1, c2⟩ := bind_some hx
      obtain ⟨ws, e1, e2⟩ := walkL_ok (cont_ok i1 p1 c1) c2
      rw [e1]
      simp only [MP.thenO_some]
      have cr1 := CurR.mono _ _ _ _ ev1.toM cr
      refine SimR.bind (locked_ok (P := PKs) (C := CurR X.cur c) ev1 i1 (walkS_of i1 p1 c1 (lst_nr c2)) (fun _ _ _ _ _ _ _ _ _ m dv => DVp.mono m dv) fun κ2 E2 H2 m2 i2 => ?_) fun ps us κ3 h3 E3 H3 _ _ ev3 i3 p3 => ?_
      · exact keys_loop (turnK_ok (CurR.mono) fun env' κ h E H cc i => (ev_ok key cc i).seal) _ _ _ _ _ _ ⟨CurR.mono _ _ _ _ m2 cr1, env, fun _ _ => rfl, rfl, i2⟩ (e2.mono m2)
      · refine SimR.of fun q hq => ?_
        obtain ⟨zs, hz, rfl⟩ := map_some hq
        obtain ⟨us', e3, e4, e5⟩ := minP_ok p3 hz
        rw [e3]
        exact SimR.val ev3 i3 e5
  | .fstr es, d, lk, as, κ, env, E, h, H, c, cr, i =>
    SimR.bind (fm_ok es cr i) fun ys us κ1 h1 E1 H1 _ _ ev1 i1 p1 => SimR.guard fun hl => by
      have p1 : ys = us := p1
      subst p1
      rw [hl]
      exact SimR.val ev1 i1 (by simp [DV])
  | .curFld f, d, lk, as, κ, env, E, h, H, c, cr, i => by
    show SimR _ _ _ _ _ (R.of (c.bind fun x => x.fs.lookup f) h) (B.of (X.cur.bind fun x => (x.fs.lookup f).map RV.val) E H)
    refine SimR.of fun q hq => ?_
    obtain ⟨x, hx, hq⟩ := bind_some hq
    obtain ⟨v, hv, rfl⟩ := map_some hq
    rw [hx] at cr
    cases c with
    | none => exact cr.elim
    | some y =>
      obtain ⟨w, e1, e2⟩ := XRf.get cr.2 hv
      simp only [Option.bind_some, e1]
      exact SimR.val .refl i e2
  | .curIs cl, d, lk, as, κ, env, E, h, H, c, cr, i => by
    show SimR _ _ _ _ _ (R.of (c.map fun x => W.bl (X.T.sub x.c cl)) h) (B.of (X.cur.map fun x => RV.val (.bl (X.T.sub x.c cl))) E H)
    refine SimR.of fun q hq => ?_
    obtain ⟨x, hx, rfl⟩ := map_some hq
    rw [hx] at cr
    cases c with
    | none => exact cr.elim
    | some y =>
      rw [← cr.1]
      exact SimR.val .refl i (by simp [DV])
theorem evO_ok : ∀ (e : Option Ex) {d : Nat} {lk : List Nat} {as : List W} {κ : K} {env : Env} {E : EB} {h : Hp} {H : HB} {c : Option Exn}, CurR X.cur c κ h → Inv d lk as κ env E h H → SimR d (IE d lk as env) κ h POI (MP.evO (mx X n lk c) e env h) (bevO X e E H)
  | none, d, lk, as, κ, env, E, h, H, c, cr, i => ⟨none, h, κ, rfl, .refl, i, rfl⟩
  | some e, d, lk, as, κ, env, E, h, H, c, cr, i =>
    SimR.bind (ev_ok e cr i) fun r w κ1 h1 E1 H1 _ _ ev1 i1 p1 => by
      refine SimR.of fun q hq => ?_
      obtain ⟨z, hz, rfl⟩ := map_some hq
      obtain ⟨x, c1, c2⟩ := bind_some hz
      rw [part_ok (cont_ok i1 p1 c1) c2]
      exact ⟨some z, h1, κ1, rfl, ev1, i1, rfl⟩
theorem evs_ok (k : Nat) : ∀ (j : Nat) (es : List Ex) {d : Nat} {lk : List Nat} {as : List W} {κ : K} {env : Env} {E : EB} {h : Hp} {H : HB} {c : Option Exn}, CurR X.cur c κ h → Inv d lk as κ env E h H → SimR d (IE d lk as env) κ h PVs (MP.evs (mx X n lk c) es env h) (bevs X k j es E H)
  | _, [], d, lk, as, κ, env, E, h, H, c, cr, i => ⟨[], h, κ, rfl, .refl, i, .nil⟩
  | j, e :: es, d, lk, as, κ, env, E, h, H, c, cr, i =>
    SimR.bind (store_ok X k j (ev_ok e cr i)) fun v w κ1 h1 E1 H1 _ _ ev1 i1 p1 => SimR.up ev1 (SimR.bind (evs_ok k (j + 1) es (CurR.mono _ _ _ _ ev1.toM cr) i1) fun vs ws κ2 h2 E2 H2 _ _ ev2 i2 p2 =>
      ⟨_, h2, κ2, rfl, ev2, i2, .cons (DV.mono ev2.toM p1) p2⟩)
theorem ops_ok : ∀ (es : List Ex) {d : Nat} {lk : List Nat} {as : List W} {κ : K} {env : Env} {E : EB} {h : Hp} {H : HB} {c : Option Exn}, CurR X.cur c κ h → Inv d lk as κ env E h H → SimR d (IE d lk as env) κ h (PR2 env) (MP.evs (mx X n lk c) es env h) (bops X es E H)
  | [], d, lk, as, κ, env, E, h, H, c, cr, i => ⟨[], h, κ, rfl, .refl, i, rfl⟩
  | e :: es, d, lk, as, κ, env, E, h, H, c, cr, i =>
    SimR.bind (ev_ok e cr i) fun r w κ1 h1 E1 H1 _ _ ev1 i1 p1 => SimR.then fun r' f1 => by
      obtain ⟨κ1', ev1', i1', wr, _⟩ := fix_ok ev1 i1 p1 f1
      exact SimR.up ev1' (SimR.bind (ops_ok es (CurR.mono _ _ _ _ ev1'.toM cr) i1') fun rs ws κ2 h2 E2 H2 hr _ ev2 i2 p2 =>
        ⟨_, h2, κ2, rfl, ev2, i2, _, _, rfl, (wr.later ev2 fun hs => simples_fr hr hs).weak fun _ => rfl, p2⟩)
theorem fm_ok : ∀ (es : List Ex) {d : Nat} {lk : List Nat} {as : List W} {κ : K} {env : Env} {E : EB} {h : Hp} {H : HB} {c : Option Exn}, CurR X.cur c κ h → Inv d lk as κ env E h H → SimR d (IE d lk as env) κ h PEq (MP.evF (mx X n lk c) es env h) (bfm X es E H)
  | [], d, lk, as, κ, env, E, h, H, c, cr, i => ⟨[], h, κ, rfl, .refl, i, rfl⟩
  | e :: es, d, lk, as, κ, env, E, h, H, c, cr, i =>
    SimR.bind (ev_ok e cr i) fun r w κ1 h1 E1 H1 _ _ ev1 i1 p1 => SimR.then fun y hy => by
      obtain ⟨x, c1, c2⟩ := bind_some hy
      rw [fmt_ok (cont_ok i1 p1 c1) c2]
      simp only [MP.thenO_some]
      exact SimR.up ev1 (SimR.bind (fm_ok es (CurR.mono _ _ _ _ ev1.toM cr) i1) fun ys us κ2 h2 E2 H2 _ _ ev2 i2 p2 => ⟨_, h2, κ2, rfl, ev2, i2, by
        have p2 : ys = us := p2
        subst p2; rfl⟩)
theorem arg_ok : ∀ (es : List Ex) {d : Nat} {lk : List Nat} {as : List W} {κ : K} {env : Env} {E : EB} {h : Hp} {H : HB} {c : Option Exn}, CurR X.cur c κ h → Inv d lk as κ env E h H → SimR d (IE d lk as env) κ h (PRA env) (MP.evs (mx X n lk c) es env h) (barg X es E H)
  | [], d, lk, as, κ, env, E, h, H, c, cr, i => ⟨[], h, κ, rfl, .refl, i, rfl⟩
  | e :: es, d, lk, as, κ, env, E, h, H, c, cr, i =>
    SimR.bind (ev_ok e cr i) fun r w κ1 h1 E1 H1 _ _ ev1 i1 p1 => SimR.then fun r' f1 => by
      obtain ⟨κ1', ev1', i1', wr, _⟩ := fix_ok ev1 i1 p1 f1
      exact SimR.up ev1' (SimR.bind (arg_ok es (CurR.mono _ _ _ _ ev1'.toM cr) i1') fun rs ws κ2 h2 E2 H2 hr _ ev2 i2 p2 =>
        ⟨_, h2, κ2, rfl, ev2, i2, _, _, rfl, wr.later ev2 (fun hs => by cases hs), p2⟩)
theorem evp_ok : ∀ (j : Nat) (es : List (Ex × Ex)) {d : Nat} {lk : List Nat} {as : List W} {κ : K} {env : Env} {E : EB} {h : Hp} {H : HB} {c : Option Exn}, CurR X.cur c κ h → Inv d lk as κ env E h H → SimR d (IE d lk as env) κ h PKs (MP.evp (mx X n lk c) es env h) (bevp X j es E H)
  | _, [], d, lk, as, κ, env, E, h, H, c, cr, i => ⟨[], h, κ, rfl, .refl, i, .nil⟩
  | j, (a, b) :: es, d, lk, as, κ, env, E, h, H, c, cr, i =>
    SimR.bind (ev_ok a cr i).seal fun v w κ1 h1 E1 H1 _ _ ev1 i1 p1 => SimR.up ev1 (SimR.bind (store_ok X 1 j (ev_ok b (CurR.mono _ _ _ _ ev1.toM cr) i1)) fun v2 w2 κ2 h2 E2 H2 _ _ ev2 i2 p2 =>
      SimR.up ev2 (SimR.bind (evp_ok (j + 1) es (CurR.mono _ _ _ _ (ev1.trans ev2).toM cr) i2) fun vs ws κ3 h3 E3 H3 _ _ ev3 i3 p3 =>
        ⟨_, h3, κ3, rfl, ev3, i3, .cons (DV.mono ev3.toM (DV.mono ev2.toM p1)) (DV.mono ev3.toM p2) p3⟩))
theorem iter_ok : ∀ (it : It) {d : Nat} {lk : List Nat} {as : List W} {κ : K} {env : Env} {E : EB} {h : Hp} {H : HB} {c : Option Exn}, CurR X.cur c κ h → Inv d lk as κ env E h H → SimR d (IE d lk as env) κ h (PW d lk as env) (MP.walk (mx X n lk c) it env h) (bwalk X it E H)
  | .val e, d, lk, as, κ, env, E, h, H, c, cr, i =>
    SimR.bind (ev_ok e cr i) fun r w κ1 h1 E1 H1 _ _ ev1 i1 p1 => by
      refine SimR.of fun q hq => ?_
      obtain ⟨l, hl, rfl⟩ := map_some hq
      obtain ⟨x, c1, c2⟩ := bind_some hl
      obtain ⟨ws, e1, e2⟩ := BP.walk_ok (cont_ok i1 p1 c1) c2
      rw [e1]
      exact ⟨_, h1, κ1, rfl, ev1, i1, e2, walkS_of i1 p1 c1 (walk_nr c2)⟩
  | .items e, d, lk, as, κ, env, E, h, H, c, cr, i =>
    SimR.bind (ev_ok e cr i) fun r w κ1 h1 E1 H1 _ _ ev1 i1 p1 => by
      refine SimR.of fun q hq => ?_
      obtain ⟨l, hl, rfl⟩ := map_some hq
      obtain ⟨x, c1, c2⟩ := bind_some hl
      obtain ⟨ws, e1, e2⟩ := items_ok (cont_ok i1 p1 c1) c2
      rw [e1]
      exact ⟨_, h1, κ1, rfl, ev1, i1, e2, walkS_of i1 p1 c1 (items_nr c2)⟩
  | .vals e, d, lk, as, κ, env, E, h, H, c, cr, i =>
    SimR.bind (ev_ok e cr i) fun r w κ1 h1 E1 H1 _ _ ev1 i1 p1 => by
      refine SimR.of fun q hq => ?_
      obtain ⟨l, hl, rfl⟩ := map_some hq
      obtain ⟨x, c1, c2⟩ := bind_some hl
      obtain ⟨ws, e1, e2⟩ := vals_ok (cont_ok i1 p1 c1) c2
      rw [e1]
      exact ⟨_, h1, κ1, rfl, ev1, i1, e2, walkS_of i1 p1 c1 (vals_nr c2)⟩
  | .keys e, d, lk, as, κ, env, E, h, H, c, cr, i =>
    SimR.bind (ev_ok e cr i) fun r w κ1 h1 E1 H1 _ _ ev1 i1 p1 => by
      refine SimR.of fun q hq => ?_
      obtain ⟨l, hl, rfl⟩ := map_some hq
      obtain ⟨x, c1, c2⟩ := bind_some hl
      obtain ⟨ws, e1, e2⟩ := keys_ok (cont_ok i1 p1 c1) c2
      rw [e1]
      exact ⟨_, h1, κ1, rfl, ev1, i1, e2, walkS_of i1 p1 c1 (keys_nr c2)⟩
  | .enum e, d, lk, as, κ, env, E, h, H, c, cr, i =>
    SimR.bind (ev_ok e cr i) fun r w κ1 h1 E1 H1 _ _ ev1 i1 p1 => by
      refine SimR.of fun q hq => ?_
      obtain ⟨l, hl, rfl⟩ := map_some hq
      obtain ⟨x, c1, c2⟩ := bind_some hl
      obtain ⟨ws, e1, e2⟩ := walkL_ok (cont_ok i1 p1 c1) c2
      rw [e1]
      exact ⟨_, h1, κ1, rfl, ev1, i1, enum_ok e2, walkS_of i1 p1 c1 (lst_nr c2)⟩
  | .rev e, d, lk, as, κ, env, E, h, H, c, cr, i =>
    SimR.bind (ev_ok e cr i) fun r w κ1 h1 E1 H1 _ _ ev1 i1 p1 => by
      refine SimR.of fun q hq => ?_
      obtain ⟨l, hl, rfl⟩ := map_some hq
      obtain ⟨x, c1, c2⟩ := bind_some hl
      obtain ⟨ws, e1, e2⟩ := walkL_ok (cont_ok i1 p1 c1) c2
      rw [e1]
      exact ⟨_, h1, κ1, rfl, ev1, i1, e2.rev, walkS_of i1 p1 c1 (lst_nr c2)⟩
  | .rng a, d, lk, as, κ, env, E, h, H, c, cr, i =>
    SimR.bind (ev_ok a cr i) fun r w κ1 h1 E1 H1 _ _ ev1 i1 p1 => by
      refine SimR.of fun q hq => ?_
      obtain ⟨l, hl, rfl⟩ := map_some hq
      obtain ⟨x, c1, c2⟩ := bind_some hl
      obtain ⟨ws, e1, e2⟩ := rng1_ok (cont_ok i1 p1 c1) c2
      rw [e1]
      exact ⟨_, h1, κ1, rfl, ev1, i1, e2, walkS_nil⟩
  | .rng2 a b, d, lk, as, κ, env, E, h, H, c, cr, i =>
    op2 (ev_ok a cr i) (fun κ1 h1 E1 H1 ev1 i1 => ev_ok b (CurR.mono _ _ _ _ ev1.toM cr) i1) (fun h1 w h2 hs q => simple_fr q hs) fun κ2 h2 E2 H2 r1 r2 w1 w2 n2 ev2 i2 wr rr _ => by
      refine SimR.of fun q hq => ?_
      obtain ⟨l, hl, rfl⟩ := map_some hq
      obtain ⟨x, c1, hl⟩ := bind_some hl
      obtain ⟨y, c2, hl⟩ := bind_some hl
      obtain ⟨ws, e1, e2⟩ := rng2_ok (cont_ok i2 (wr.rr (lk := lk) (n0 := fun _ => True)) c1) (cont_ok i2 rr c2) hl
      rw [e1]
      exact ⟨_, h2, κ2, rfl, ev2, i2, e2, walkS_nil⟩
  | .zip a b, d, lk, as, κ, env, E, h, H, c, cr, i =>
    op2 (ev_ok a cr i) (fun κ1 h1 E1 H1 ev1 i1 => ev_ok b (CurR.mono _ _ _ _ ev1.toM cr) i1) (fun h1 w h2 hs q => simple_fr q hs) fun κ2 h2 E2 H2 r1 r2 w1 w2 n2 ev2 i2 wr rr _ => by
      refine SimR.of fun q hq => ?_
      obtain ⟨l, hl, rfl⟩ := map_some hq
      obtain ⟨x, c1, hl⟩ := bind_some hl
      obtain ⟨y, c2, hl⟩ := bind_some hl
      have wr' := wr.rr (lk := lk) (n0 := fun _ => True)
      obtain ⟨ws, us, e1, e2, e4⟩ := walk2_ok (cont_ok i2 wr' c1) (cont_ok i2 rr c2) hl
      rw [e1]
      exact ⟨_, h2, κ2, rfl, ev2, i2, zip_ok e2 e4, walkS_app (walkS_of i2 wr' c1 (walk2_nr hl).1) (walkS_of i2 rr c2 (walk2_nr hl).2)⟩
  | .rng3 a b e, d, lk, as, κ, env, E, h, H, c, cr, i => by
    show SimR _ _ _ _ _ ((MP.ev (mx X n lk c) a env h).bind fun x h => (MP.ev (mx X n lk c) b env h).bind fun y h => (MP.ev (mx X n lk c) e env h).bind fun z h => R.of ((MP.rng3 x y z).map fun l => (l, [])) h) _
    simp only [bwalk]
    refine SimR.bind (ev_ok a cr i) fun r1 w1 κ1 h1 E1 H1 _ _ ev1 i1 p1 => SimR.then fun r1' f1 => ?_
    obtain ⟨κ1', ev1', i1', wr1, _⟩ := fix_ok ev1 i1 p1 f1
    refine SimR.bindE ev1' (ev_ok b (CurR.mono _ _ _ _ ev1'.toM cr) i1') fun r2 w2 κ2 h2 E2 H2 hr2 ev12 ev2 i2 p2 => SimR.then fun r2' f2 => ?_
    have wr1a := wr1.later ev12 fun hs => by rw [Bool.and_eq_true] at hs; exact simple_fr hr2 hs.1
    obtain ⟨κ2', ev2', i2', wr2, mm⟩ := fix_ok ev2 i2 (PE.up (fun _ => ev1'.bs) p2) f2
    refine SimR.bindE ev2' (ev_ok e (CurR.mono _ _ _ _ ev2'.toM cr) i2') fun r3 w3 κ3 h3 E3 H3 hr3 ev23 ev3 i3 p3 => ?_
    have wr1b := (wr1a.mono mm).later ev23 fun hs => by rw [Bool.and_eq_true] at hs; exact simple_fr hr3 hs.2
    have wr2b := wr2.later ev23 fun hs => simple_fr hr3 hs
    refine SimR.of fun q hq => ?_
    obtain ⟨l, hl, rfl⟩ := map_some hq
    obtain ⟨x, c1, hl⟩ := bind_some hl
    obtain ⟨y, c2, hl⟩ := bind_some hl
    obtain ⟨z, c3, hl⟩ := bind_some hl
    obtain ⟨ws, e1, e2⟩ := rng3_ok (cont_ok i3 (wr1b.rr (lk := lk) (n0 := fun _ => True)) c1) (cont_ok i3 (wr2b.rr (lk := lk) (n0 := fun _ => True)) c2) (cont_ok i3 p3 c3) hl
    rw [e1]
    exact ⟨_, h3, κ3, rfl, ev3, i3, e2, walkS_nil⟩
  | .zip3 a b e, d, lk, as, κ, env, E, h, H, c, cr, i => by
    show SimR _ _ _ _ _ ((MP.ev (mx X n lk c) a env h).bind fun x h => (MP.ev (mx X n lk c) b env h).bind fun y h => (MP.ev (mx X n lk c) e env h).bind fun z h =>
      R.of ((MP.walkV x h).bind fun p => (MP.walkV y h).bind fun q => (MP.walkV z h).map fun r => ((p.1.zip (q.1.zip r.1)).map fun z => W.tup [z.1, z.2.1, z.2.2], p.2 ++ q.2 ++ r.2)) h) _
    simp only [bwalk]
    refine SimR.bind (ev_ok a cr i) fun r1 w1 κ1 h1 E1 H1 _ _ ev1 i1 p1 => SimR.then fun r1' f1 => ?_
    obtain ⟨κ1', ev1', i1', wr1, _⟩ := fix_ok ev1 i1 p1 f1
    refine SimR.bindE ev1' (ev_ok b (CurR.mono _ _ _ _ ev1'.toM cr) i1') fun r2 w2 κ2 h2 E2 H2 hr2 ev12 ev2 i2 p2 => SimR.then fun r2' f2 => ?_
    have wr1a := wr1.later ev12 fun hs => by rw [Bool.and_eq_true] at hs; exact simple_fr hr2 hs.1
    obtain ⟨κ2', ev2', i2', wr2, mm⟩ := fix_ok ev2 i2 (PE.up (fun _ => ev1'.bs) p2) f2
    refine SimR.bindE ev2' (ev_ok e (CurR.mono _ _ _ _ ev2'.toM cr) i2') fun r3 w3 κ3 h3 E3 H3 hr3 ev23 ev3 i3 p3 => ?_
    have wr1b := ((wr1a.mono mm).later ev23 fun hs => by rw [Bool.and_eq_true] at hs; exact simple_fr hr3 hs.2).rr (lk := lk) (n0 := fun _ => True)
    have wr2b := (wr2.later ev23 fun hs => simple_fr hr3 hs).rr (lk := lk) (n0 := fun _ => True)
    refine SimR.of fun q hq => ?_
    obtain ⟨x, hx, hq⟩ := bind_some hq
    obtain ⟨x', c1, c1'⟩ := bind_some hx
    obtain ⟨y, hy, hq⟩ := bind_some hq
    obtain ⟨y', c2, c2'⟩ := bind_some hy
    obtain ⟨z, hz, rfl⟩ := map_some hq
    obtain ⟨z', c3, c3'⟩ := bind_some hz
    obtain ⟨ws, e1, e2⟩ := BP.walk_ok (cont_ok i3 wr1b c1) c1'
    obtain ⟨us, e3, e4⟩ := BP.walk_ok (cont_ok i3 wr2b c2) c2'
    obtain ⟨vs, e5, e6⟩ := BP.walk_ok (cont_ok i3 p3 c3) c3'
    rw [e1, e3, e5]
    exact ⟨_, h3, κ3, rfl, ev3, i3, zip3_ok e2 e4 e6, walkS_app (walkS_app (walkS_of i3 wr1b c1 (walk_nr c1')) (walkS_of i3 wr2b c2 (walk_nr c2'))) (walkS_of i3 p3 c3 (walk_nr c3'))⟩
end
end BP

namespace BP
open MP (W O Hp Env Exn R rd BinOp CmpOp Blt Ty Ex It Cx Prog Tg St Lv)
/-! ### statements, both ways -/
def SimS (d : Nat) (lk : List Nat) (as : List W) (κ0 : K) (h0 : Hp) (r : MP.S) (b : SB) : Prop := match b with
  | .bad => True
  | .ok .nx E H => ∃ env h κ, r = .ok (.nx env) h ∧ Ev d κ0 κ h0 h ∧ Inv d lk as κ env E h H
  | .ok .bk E H => ∃ env h κ, r = .ok (.bk env) h ∧ Ev d κ0 κ h0 h ∧ Inv d lk as κ env E h H
  | .ok .ct E H => ∃ env h κ, r = .ok (.ct env) h ∧ Ev d κ0 κ h0 h ∧ Inv d lk as κ env E h H
  | .ok (.rt s) E H => ∃ w h κ env, r = .ok (.rt w) h ∧ Ev d κ0 κ h0 h ∧ Inv d lk as κ env E h H ∧ RetR lk (Bs κ0 h0) κ h s w
  | .exc x E H => ∃ y env h κ, r = .exc y env h ∧ Ev d κ0 κ h0 h ∧ Inv d lk as κ env E h H ∧ XR κ h x y
section
variable {d : Nat} {lk : List Nat} {as : List W} {κ κ0 : K} {env : Env} {E : EB} {h h0 : Hp} {H : HB} {α β : Type} {P : Post α β}
theorem RetR.up {n0 n1 : Nat → Prop} (hn : ∀ a, n1 a → n0 a) {s : Sl} {w : W} (e : RetR lk n1 κ h s w) : RetR lk n0 κ h s w := by
  unfold RetR at e ⊢
  cases hm : s.m <;> rw [hm] at e
  · exact e
  · obtain ⟨a, e1, e2, e3, e4⟩ := e; exact ⟨a, e1, e2, hn _ e3, e4⟩
  · obtain ⟨a, e1, e2, e3, e4⟩ := e; exact ⟨a, e1, e2, hn _ e3, e4⟩
theorem SimS.up {r : MP.S} {b : SB} (ev : Ev d κ0 κ h0 h) (s : SimS d lk as κ h r b) : SimS d lk as κ0 h0 r b := by
  cases b with
  | bad => exact True.intro
  | exc x E H => obtain ⟨y, env, h, κ, e1, e2, e3, e4⟩ := s; exact ⟨y, env, h, κ, e1, ev.trans e2, e3, e4⟩
  | ok f E H => cases f with
    | nx => obtain ⟨env, h, κ, e1, e2, e3⟩ := s; exact ⟨env, h, κ, e1, ev.trans e2, e3⟩
    | bk => obtain ⟨env, h, κ, e1, e2, e3⟩ := s; exact ⟨env, h, κ, e1, ev.trans e2, e3⟩
    | ct => obtain ⟨env, h, κ, e1, e2, e3⟩ := s; exact ⟨env, h, κ, e1, ev.trans e2, e3⟩
    | rt v => obtain ⟨w, h, κ, env, e1, e2, e3, e4⟩ := s; exact ⟨w, h, κ, env, e1, ev.trans e2, e3, e4.up fun _ => ev.bs⟩
/-- an expression in a statement -/
theorem SimS.on {r : R β} {b : B α} {f : β → Hp → MP.S} {g : α → EB → HB → SB} (s : SimR d (IE d lk as env) κ0 h0 P r b)
    (k : ∀ x y κ h E H, r = .ok y h → Ev d κ0 κ h0 h → Inv d lk as κ env E h H → P x y κ h E H → SimS d lk as κ0 h0 (f y h) (g x E H)) : SimS d lk as κ0 h0 (r.on env f) (b.on g) := by
  cases b with
  | bad => exact True.intro
  | ok x E H => obtain ⟨y, h, κ, rfl, e1, e2, e3⟩ := s; exact k x y κ h E H rfl e1 e2 e3
  | exc x E H => obtain ⟨y, h, κ, rfl, e1, e2, e3⟩ := s; exact ⟨y, env, h, κ, rfl, e1, e2, e3⟩
theorem SimS.onE {r : R β} {b : B α} {f : β → Hp → MP.S} {g : α → EB → HB → SB} (ev : Ev d κ0 κ h0 h) (s : SimR d (IE d lk as env) κ h P r b)
    (k : ∀ x y κ' h' E' H', r = .ok y h' → Ev d κ κ' h h' → Ev d κ0 κ' h0 h' → Inv d lk as κ' env E' h' H' → P x y κ' h' E' H' → SimS d lk as κ0 h0 (f y h') (g x E' H')) : SimS d lk as κ0 h0 (r.on env f) (b.on g) := by
  cases b with
  | bad => exact True.intro
  | ok x E H => obtain ⟨y, h, κ, rfl, e1, e2, e3⟩ := s; exact k x y κ h E H rfl e1 (ev.trans e1) e2 e3
  | exc x E H => obtain ⟨y, h, κ, rfl, e1, e2, e3⟩ := s; exact ⟨y, env, h, κ, rfl, ev.trans e1, e2, e3⟩
theorem SimS.then {r : MP.S} {b : SB} {f : Env → Hp → MP.S} {g : EB → HB → SB} (s : SimS d lk as κ0 h0 r b)
    (k : ∀ env κ h E H, Ev d κ0 κ h0 h → Inv d lk as κ env E h H → SimS d lk as κ0 h0 (f env h) (g E H)) : SimS d lk as κ0 h0 (r.then f) (b.then g) := by
  cases b with
  | bad => exact True.intro
  | exc x E H => obtain ⟨y, env, h, κ, rfl, e⟩ := s; exact ⟨y, env, h, κ, rfl, e⟩
  | ok q E H => cases q with
    | nx => obtain ⟨env, h, κ, rfl, e2, e3⟩ := s; exact k env κ h E H e2 e3
    | bk => obtain ⟨env, h, κ, rfl, e⟩ := s; exact ⟨env, h, κ, rfl, e⟩
    | ct => obtain ⟨env, h, κ, rfl, e⟩ := s; exact ⟨env, h, κ, rfl, e⟩
    | rt v => obtain ⟨w, h, κ, env, rfl, e⟩ := s; exact ⟨w, h, κ, env, rfl, e⟩
theorem SimS.turn {r : MP.S} {b : SB} {f : Env → Hp → MP.S} {g : EB → HB → SB} (s : SimS d lk as κ0 h0 r b)
    (k : ∀ env κ h E H, Ev d κ0 κ h0 h → Inv d lk as κ env E h H → SimS d lk as κ0 h0 (f env h) (g E H)) : SimS d lk as κ0 h0 (r.turn f) (b.turn g) := by
  cases b with
  | bad => exact True.intro
  | exc x E H => obtain ⟨y, env, h, κ, rfl, e⟩ := s; exact ⟨y, env, h, κ, rfl, e⟩
  | ok q E H => cases q with
    | nx => obtain ⟨env, h, κ, rfl, e2, e3⟩ := s; exact k env κ h E H e2 e3
    | bk => obtain ⟨env, h, κ, rfl, e⟩ := s; exact ⟨env, h, κ, rfl, e⟩
    | ct => obtain ⟨env, h, κ, rfl, e2, e3⟩ := s; exact k env κ h E H e2 e3
    | rt v => obtain ⟨w, h, κ, env, rfl, e⟩ := s; exact ⟨w, h, κ, env, rfl, e⟩
theorem SimS.thenSB {γ : Type} {o : Option γ} {r : MP.S} {g : γ → SB} (k : ∀ x, o = some x → SimS d lk as κ0 h0 r (g x)) : SimS d lk as κ0 h0 r (thenSB o g) := by
  cases o with
  | none => exact True.intro
  | some x => exact k x rfl
/-! names -/
theorem setR_ok (box : Bool) (ev : Ev d κ0 κ h0 h) (i : Inv d lk as κ env E h H) {r : RV} {w : W} (e : RR lk (Bs κ0 h0) κ env h r w) (j : Nat) : SimS d lk as κ0 h0 (.ok (.nx (env.set j (some w))) h) (setR box E H j r) := by
  have viaVal : ∀ {κ : K} {E : EB} {H : HB} {v : V}, Ev d κ0 κ h0 h → Inv d lk as κ env E h H → DV κ h v w → SimS d lk as κ0 h0 (.ok (.nx (env.set j (some w))) h) (BP.thenSB (setB E j ⟨.fz, v, false⟩) fun E => .ok .nx E H) := fun ev i dv =>
    SimS.thenSB fun E' hE => ⟨_, h, _, rfl, ev, setB_val i dv hE⟩
  cases r with
  | val v => exact viaVal ev i e
  | tmp v =>
    obtain ⟨a, rfl, k, n, nl, o⟩ := e
    simp only [setR]
    split
    · obtain ⟨q1, q2, q3⟩ := bx_ok ev i k n nl o
      exact viaVal q1 q2 q3
    · refine SimS.thenSB fun E' hE => ?_
      obtain ⟨q1, q2⟩ := setB_own ev i k n nl o hE
      exact ⟨_, h, _, rfl, q1, q2⟩
  | pl p =>
    simp only [setR]
    cases hq : sealR E H (.pl p) with
    | bad => exact True.intro
    | exc x E' H' =>
      exfalso
      cases p with
      | cn b => cases hq
      | sl j => simp only [sealR] at hq; cases hj : E[j]?.join with
        | none => rw [hj] at hq; cases hq
        | some s => rw [hj] at hq; simp only [thenB_some, sealS] at hq; split at hq <;> cases hq
      | fd b f => simp only [sealR] at hq; cases hj : fdS f H[b]? with
        | none => rw [hj] at hq; cases hq
        | some s => rw [hj] at hq; simp only [thenB_some, sealF] at hq; split at hq <;> cases hq
    | ok v E' H' =>
      obtain ⟨κ', ev', i', dv, _⟩ := seal_ok ev i e hq
      exact viaVal ev' i' dv
/-! fields -/
theorem setF_core (i : Inv d lk as κ env E h H) {b a0 : Nat} {f : String} {s : Sl} {w : W} (k0 : κ a0 = .box b) (fr : freeF f b H = true) {H' : HB} (hH : setFd f s b H H[b]? = some H') {κ' : K}
    (g : ∀ o, Go κ κ' h (h.set a0 o) fun l => l ≠ .box b ∧ l ≠ .fld b f ∧ l ≠ .tmp) (hr : ∀ o, SlR κ' lk (h.set a0 o) (.fld b f) s w) (hk : ∀ a, κ' a = .lck (.fld b f) → κ a = .lck (.fld b f)) :
    ∃ o, MP.setFld lk (.ref a0) f w h = .ok () (h.set a0 o) ∧ Inv d lk as κ' env E (h.set a0 o) H' ∧ κ a0 = .box b := by
  obtain ⟨x, o, h1, h2, h3⟩ := i.b.box a0 b k0
  rw [h1] at hH
  cases x with
  | con m v => cases hH
  | ins cl fs =>
    cases hH
    obtain ⟨nl, gs, rfl, h4⟩ := h3
    have hl := rd_lt h2
    have hlt := (List.getElem?_eq_some_iff.mp h1).1
    refine ⟨.ins cl (MP.putF f w gs), ?_, ?_, k0⟩
    · simp only [MP.setFld, h2, MP.setFldO, MP.put]
      rw [if_pos ⟨hl, nl⟩]
    · have gg := g (.ins cl (MP.putF f w gs))
      have hne : ∀ a', κ' a' = .box b → a' = a0 := fun a' q => i.b.inj a' a0 b (gg.nb a' b q) k0
      refine ⟨i.e.mono gg.m (fun j => gg.k _ (by simp)) (fun j => gg.k _ (by simp)) (fun a j q => gg.nl a _ q (by simp)), box_set i.b hlt gg (fun b' f' hb' => by simp [hb']) (fun b' hb' => by simp [hb']) (fun a ha => ?_) fun a f' ha => ?_⟩
      · have := hne a ha; subst this
        refine ⟨_, rd_set_self hl, nl, _, rfl, fun g' => ?_⟩
        rw [lookup_put, lookup_putW]
        by_cases q : g' = f
        · subst q; simp only [if_pos]; exact ⟨w, rfl, hr _⟩
        · simp only [if_neg q]
          have := h4 g'
          split at this
          · obtain ⟨w', q1, q2⟩ := this
            exact ⟨w', q1, q2.mono gg.m (gg.k _ (by simp [q])) (gg.k _ (by simp))⟩
          · exact this
      · by_cases q : f' = f
        · subst q
          exfalso
          obtain ⟨c', fs', u, a1, gs', e1, e2, e3, _⟩ := i.b.lc a b f' (hk a ha)
          rw [h1] at e1; cases e1
          unfold freeF at fr
          rw [h1] at fr
          simp only [fdS, e2] at fr
          simp only [decide_eq_true_eq] at fr
          exact fr e3
        · obtain ⟨c', fs', u, a1, gs', e1, e2, e3, e4, e5, e6⟩ := i.b.lc a b f' (gg.nl a _ ha (by simp))
          rw [h1] at e1; cases e1
          have := i.b.inj a1 a0 b e4 k0; subst this
          rw [h2] at e5; cases e5
          exact ⟨cl, _, u, a1, _, rfl, by rw [lookup_put]; simp [q, e2], e3, gg.m.box a1 b hl e4, rd_set_self hl, by rw [lookup_putW]; simp [q, e6]⟩
theorem setF_val (ev : Ev d κ0 κ h0 h) (i : Inv d lk as κ env E h H) {o : V} {wo : W} (co : Cn κ h o wo) {f : String} {v : V} {w : W} (dv : DV κ h v w) : SimS d lk as κ0 h0 ((MP.setFld lk wo f w h).on env fun _ h => .ok (.nx env) h) (setFB f ⟨.fz, v, false⟩ E H o) := by
  unfold setFB
  split
  · rename_i b
    refine SimS.thenSB fun H' hH => ?_
    obtain ⟨fr, hH⟩ := guardO_some hH
    simp only [Cn, DV] at co
    obtain ⟨a0, rfl, k0, hl⟩ := co
    have hz : κ a0 ≠ .frz := by rw [k0]; simp
    obtain ⟨o, e1, e2, _⟩ := setF_core i k0 fr hH (κ' := κ) (w := w) (fun o => Go.set hz (by simp [k0])) (fun o => DV.mono (Go.set (P := fun _ => False) hz (by simp)).m dv) fun a q => q
    rw [e1]
    exact ⟨env, _, κ, rfl, ev_set ev (fun _ _ _ _ => by rw [k0]; simp) hz (fun q => by rw [k0] at q; cases q) (fun _ => by rw [k0]; simp), e2⟩
  · exact True.intro
theorem setF_own (ev : Ev d κ0 κ h0 h) (i : Inv d lk as κ env E h H) {o : V} {wo : W} (co : Cn κ h o wo) {f : String} {v : V} {a : Nat} (k : κ a = .tmp) (n : Bs κ0 h0 a) (nl : a ∉ lk) (oc : OwnC κ h v a) : SimS d lk as κ0 h0 ((MP.setFld lk wo f (.ref a) h).on env fun _ h => .ok (.nx env) h) (setFB f ⟨.own, v, false⟩ E H o) := by
  unfold setFB
  split
  · rename_i b
    refine SimS.thenSB fun H' hH => ?_
    obtain ⟨fr, hH⟩ := guardO_some hH
    simp only [Cn, DV] at co
    obtain ⟨a0, rfl, k0, hl⟩ := co
    have hz : κ a0 ≠ .frz := by rw [k0]; simp
    have hz' : κ a ≠ .frz := by rw [k]; simp
    have hb' : ∀ b, κ a ≠ .box b := fun _ => by rw [k]; simp
    have ne : a ≠ a0 := fun q => by rw [q, k0] at k; cases k
    have k0' : upd κ a (.fld b f) a0 = .box b := by rw [upd_ne (fun q => ne q.symm)]; exact k0
    have mm : ∀ o, M κ (upd κ a (.fld b f)) h (h.set a0 o) := fun o => (M.relab hz' hb').trans (Go.set (P := fun _ => False) (by rw [k0']; simp) (by simp)).m
    have gg : ∀ o, Go κ (upd κ a (.fld b f)) h (h.set a0 o) fun l => l ≠ .box b ∧ l ≠ .fld b f ∧ l ≠ .tmp := fun o => by
      refine ⟨mm o, fun l hl' x hx e => ⟨?_, rd_set fun q => ?_⟩, fun x b' q => ?_, fun x l' q _ => ?_⟩
      · rw [upd_ne (fun q => by rw [q, k] at e; exact hl'.2.2 e.symm)]; exact e
      · rw [q, k0] at e; exact hl'.1 e.symm
      · unfold upd at q; split at q
        · cases q
        · exact q
      · unfold upd at q; split at q
        · cases q
        · exact q
    obtain ⟨o, e1, e2, _⟩ := setF_core i k0 fr hH (κ' := upd κ a (.fld b f)) (w := .ref a) gg (fun o => ⟨a, rfl, upd_same, nl, oc.mono (mm o) (rd_set ne)⟩) fun x q => by
      unfold upd at q; split at q
      · cases q
      · exact q
    rw [e1]
    refine ⟨env, _, _, rfl, ?_, e2⟩
    exact ev_set (ev_relab ev (fun _ _ _ _ => by rw [k]; simp) hb' hz' (fun _ => n) (fun _ => by rw [k]; simp) (by simp)) (fun _ _ _ _ => by rw [k0']; simp) (by rw [k0']; simp) (fun q => by rw [k0'] at q; cases q) (fun _ => by rw [k0']; simp)
  · exact True.intro
theorem setFR_ok (mode : Nat) (ev : Ev d κ0 κ h0 h) (i : Inv d lk as κ env E h H) {o : V} {wo : W} (co : Cn κ h o wo) {f : String} {r : RV} {w : W} (e : RR lk (Bs κ0 h0) κ env h r w) :
    SimS d lk as κ0 h0 ((MP.setFld lk wo f w h).on env fun _ h => .ok (.nx env) h) (setFR mode f o E H r) := by
  have sealed : ∀ {r : RV}, RR lk (Bs κ0 h0) κ env h r w → SimS d lk as κ0 h0 ((MP.setFld lk wo f w h).on env fun _ h => .ok (.nx env) h) ((sealR E H r).on fun v E H => setFB f ⟨.fz, v, false⟩ E H o) := fun {r} e => by
    cases hq : sealR E H r with
    | bad => exact True.intro
    | exc x E' H' =>
      exfalso
      cases r with
      | val v => cases hq
      | tmp v => cases hq
      | pl p => cases p with
        | cn b => cases hq
        | sl j => simp only [sealR] at hq; cases hj : E[j]?.join with
          | none => rw [hj] at hq; cases hq
          | some s => rw [hj] at hq; simp only [thenB_some, sealS] at hq; split at hq <;> cases hq
        | fd b f => simp only [sealR] at hq; cases hj : fdS f H[b]? with
          | none => rw [hj] at hq; cases hq
          | some s => rw [hj] at hq; simp only [thenB_some, sealF] at hq; split at hq <;> cases hq
    | ok v E' H' =>
      obtain ⟨κ', ev', i', dv, mm⟩ := seal_ok ev i e hq
      exact setF_val ev' i' (co.mono mm) dv
  cases r with
  | val v => exact setF_val ev i co e
  | pl p => exact sealed e
  | tmp v =>
    have e' := e
    obtain ⟨a, rfl, k, n, nl, oc⟩ := e
    simp only [setFR]
    split
    · exact setF_own ev i co k n nl oc
    · split
      · obtain ⟨q1, q2, q3⟩ := bx_ok ev i k n nl oc
        exact setF_val q1 q2 (co.mono (M.relab (by rw [k]; simp) (fun _ => by rw [k]; simp))) q3
      · exact sealed e'
end
end BP

namespace BP
open MP (W O Hp Env Exn R rd BinOp CmpOp Blt Ty Ex It Cx Prog Tg St Lv)
section
variable {d : Nat} {lk : List Nat} {as : List W} {κ κ0 : K} {env : Env} {E : EB} {h h0 : Hp} {H : HB} {α β : Type} {P : Post α β}
def PC : Post V W := fun v w κ h _ _ => Cn κ h v w
theorem SimR.cont {n0 : Nat → Prop} {r : R W} {b : B RV} (s : SimR d (IE d lk as env) κ0 h0 (PE lk n0 env) r b) : SimR d (IE d lk as env) κ0 h0 PC r (contB b) := by
  cases b with
  | bad => exact True.intro
  | exc x E H => exact s
  | ok x E H =>
    obtain ⟨y, h, κ, rfl, ev, i, p⟩ := s
    simp only [contB, B.bind_ok]
    exact SimR.of fun v hv => ⟨y, h, κ, rfl, ev, i, cont_ok i p hv⟩
theorem for_loop {C : K → Hp → Prop} (hC : ∀ κ κ' h h', M κ κ' h h' → C κ h → C κ' h') {f : W → Env → Hp → MP.S} {g : V → EB → HB → SB}
    (st : ∀ x w env κ h E H, C κ h → Inv d lk as κ env E h H → DV κ h x w → SimS d lk as κ h (f w env h) (g x E H)) :
    ∀ (xs : List V) (ws : List W) (env : Env) (κ : K) (h : Hp) (E : EB) (H : HB), C κ h → Inv d lk as κ env E h H → DVs κ h xs ws → SimS d lk as κ h (MP.forL f ws env h) (forB g xs E H)
  | [], ws, env, κ, h, E, H, c, i, dx => by
    rw [dx.nil_inv]
    exact ⟨env, h, κ, rfl, .refl, i⟩
  | x :: xs, ws, env, κ, h, E, H, c, i, dx => by
    obtain ⟨w, r, rfl, d1, d2⟩ := dx.cons_inv
    unfold MP.forL forB
    exact SimS.turn (st x w env κ h E H c i d1) fun env1 κ1 h1 E1 H1 ev1 i1 => SimS.up ev1 (for_loop hC st xs r env1 κ1 h1 E1 H1 (hC _ _ _ _ ev1.toM c) i1 (d2.mono ev1.toM))
theorem while_loop {C : K → Hp → Prop} (hC : ∀ κ κ' h h', M κ κ' h h' → C κ h → C κ' h') {cf : Env → Hp → R W} {cg : EB → HB → B V} {f : Env → Hp → MP.S} {g : EB → HB → SB}
    (sc : ∀ env κ h E H, C κ h → Inv d lk as κ env E h H → SimR d (IE d lk as env) κ h PC (cf env h) (cg E H))
    (st : ∀ env κ h E H, C κ h → Inv d lk as κ env E h H → SimS d lk as κ h (f env h) (g E H)) :
    ∀ (n : Nat) (env : Env) (κ : K) (h : Hp) (E : EB) (H : HB), C κ h → Inv d lk as κ env E h H → SimS d lk as κ h (MP.whileL cf f n env h) (whileB cg g n E H)
  | 0, env, κ, h, E, H, c, i => True.intro
  | n + 1, env, κ, h, E, H, c, i => by
    unfold MP.whileL whileB
    refine SimS.on (sc env κ h E H c i) fun x w κ1 h1 E1 H1 _ ev1 i1 p1 => SimS.thenSB fun b hb => ?_
    rw [bool_ok p1 hb]
    simp only [MP.thenS_some]
    cases b with
    | false => exact ⟨env, h1, κ1, rfl, ev1, i1⟩
    | true =>
      have c1 := hC _ _ _ _ ev1.toM c
      exact SimS.up ev1 (SimS.turn (st env κ1 h1 E1 H1 c1 i1) fun env2 κ2 h2 E2 H2 ev2 i2 => SimS.up ev2 (while_loop hC sc st n env2 κ2 h2 E2 H2 (hC _ _ _ _ ev2.toM c1) i2))
theorem lockedS_ok {ps : List Pl} {al : List Nat} {f : EB → HB → SB} {r : MP.S} (ev : Ev d κ0 κ h0 h) (i : Inv d lk as κ env E h H) (ws : WalkS d lk as κ env h E H ps al)
    (k : ∀ κ1 E1 H1, M κ κ1 h h → Inv d (al ++ lk) as κ1 env E1 h H1 → SimS d (al ++ lk) as κ1 h r (f E1 H1)) :
    SimS d lk as κ0 h0 r (lockedS ps E H f) := by
  refine SimS.thenSB fun ms hm => SimS.thenSB fun q hq => ?_
  obtain ⟨E1, H1⟩ := q
  obtain ⟨κ1, ev1, i1, rec1, un1, hv1, _, kl1, kb1, kz1, kt1⟩ := lockP_ok ev i hm hq
  have i2 : Inv d (al ++ lk) as κ1 env E1 h H1 := i1.more (ws κ1 E1 H1 i1 kz1 kt1 kb1 un1 hv1)
  have s := k κ1 E1 H1 (M.of kz1 kb1) i2
  have fin : ∀ {env2 : Env} {h' : Hp} {κ2 : K} {E' : EB} {H' : HB} {E3 : EB} {H3 : HB}, Ev d κ1 κ2 h h' → Inv d (al ++ lk) as κ2 env2 E' h' H' → unlockP E' H' ps ms = some (E3, H3) →
      ∃ κ3, Ev d κ0 κ3 h0 h' ∧ Inv d lk as κ3 env2 E3 h' H3 ∧ M κ2 κ3 h' h' ∧ (∀ a, κ2 a = .tmp → κ3 a = .tmp) := fun {env2 h' κ2 E' H' E3 H3} ev2 i3 hu => by
    have i4 := i3.less (lk' := lk) fun a ha => List.mem_append_right _ ha
    obtain ⟨κ3, ev3, i5, m3, t3, _, _⟩ := unlockP_ok ev (ev1.trans ev2) i4 (modes_nodup hm) (fun p m hpm => (rec1 p m hpm).mono ev2.len (fun a l hk hl q => (ev2.lck l hk a hl q).1) (fun a l hl q => ev2.box a l hl q) fun _ _ q => q) hu
    exact ⟨κ3, ev3, i5, m3, t3⟩
  cases hb : f E1 H1 with
  | bad => exact True.intro
  | exc x E' H' =>
    rw [hb] at s
    obtain ⟨y, env2, h', κ2, q1, q2, q3, q4⟩ := s
    refine SimS.thenSB fun q hu => ?_
    obtain ⟨κ3, e1, e2, e3, _⟩ := fin q2 q3 hu
    exact ⟨y, env2, h', κ3, q1, e1, e2, q4.mono e3⟩
  | ok fl E' H' =>
    rw [hb] at s
    refine SimS.thenSB fun q hu => ?_
    cases fl with
    | nx => obtain ⟨env2, h', κ2, q1, q2, q3⟩ := s; obtain ⟨κ3, e1, e2, _, _⟩ := fin q2 q3 hu; exact ⟨env2, h', κ3, q1, e1, e2⟩
    | bk => obtain ⟨env2, h', κ2, q1, q2, q3⟩ := s; obtain ⟨κ3, e1, e2, _, _⟩ := fin q2 q3 hu; exact ⟨env2, h', κ3, q1, e1, e2⟩
    | ct => obtain ⟨env2, h', κ2, q1, q2, q3⟩ := s; obtain ⟨κ3, e1, e2, _, _⟩ := fin q2 q3 hu; exact ⟨env2, h', κ3, q1, e1, e2⟩
    | rt v =>
      obtain ⟨w, h', κ2, env2, q1, q2, q3, q4⟩ := s
      obtain ⟨κ3, e1, e2, e3, e4⟩ := fin q2 q3 hu
      refine ⟨w, h', κ3, env2, q1, e1, e2, ?_⟩
      have tt : ∀ a, κ2 a = .tmp → Bs κ1 h a → Bs κ0 h0 a := fun a _ b => ev1.bs b
      unfold RetR at q4 ⊢
      cases hm : v.m <;> rw [hm] at q4
      · exact DV.mono e3 q4
      · obtain ⟨a, z1, z2, z3, z4, z5⟩ := q4
        exact ⟨a, z1, e4 a z2, ev1.bs z3, fun q => z4 (List.mem_append_right _ q), z5.mono e3 rfl⟩
      · obtain ⟨a, z1, z2, z3, z4, z5⟩ := q4
        exact ⟨a, z1, e4 a z2, ev1.bs z3, fun q => z4 (List.mem_append_right _ q), z5.mono e3 rfl⟩
theorem ret_ok (ev : Ev d κ0 κ h0 h) (i : Inv d lk as κ env E h H) {r : RV} {w : W} (e : RR lk (Bs κ0 h0) κ env h r w) : SimS d lk as κ0 h0 (.ok (.rt w) h) (retR E H r) := by
  cases r with
  | val v => exact ⟨w, h, κ, env, rfl, ev, i, e⟩
  | tmp v => exact ⟨w, h, κ, env, rfl, ev, i, e⟩
  | pl p =>
    cases p with
    | cn b => exact True.intro
    | fd b f => exact True.intro
    | sl j =>
      refine SimS.thenSB fun s hs => ?_
      obtain ⟨w', e1, e2, e3⟩ := i.e.sl j s hs
      have e' : env[j]? = some (some w) := e
      rw [e'] at e1; cases e1
      unfold SlR at e2
      unfold retS
      cases hm : s.m with
      | lkd => exact True.intro
      | fz => rw [hm] at e2; exact ⟨w, h, κ, env, rfl, ev, i, e2⟩
      | own =>
        simp only
        have no_lck : ∀ x, κ x ≠ .lck (.slot d j) := fun x hx => by
          obtain ⟨u, q1, q2, _⟩ := i.e.lc x j hx
          rw [hs] at q1; cases q1; rw [hm] at q2; cases q2
        rw [hm] at e2
        obtain ⟨a, rfl, k, nl, oc⟩ := e2
        have hz : κ a ≠ .frz := by rw [k]; simp
        have hb : ∀ b, κ a ≠ .box b := fun _ => by rw [k]; simp
        have bsa : Bs κ0 h0 a := fun hl q => by
          have := (ev.tmp a hl q).1
          rw [k] at this; cases this
        split
        · rename_i ha
          have m : M κ (upd κ a .frz) h h := M.relab hz hb
          have dv : DV (upd κ a .frz) h s.v (.ref a) := (oc.mono m rfl).dv upd_same
          refine ⟨.ref a, h, upd κ a .frz, env, rfl, ev_relab ev (fun d' x hd _ => by rw [k]; intro q; cases q; omega) hb hz (fun q => by rw [k] at q; cases q) (fun _ => by rw [k]; simp) (by simp), ?_, dv⟩
          refine slot_set i (Go.relab hz hb (by simp [k]) (by simp) (by simp)) (fun _ _ => rfl) rfl (fun u hu => by cases hu; exact ⟨_, e', dv, fun _ => e3 ha⟩) fun x hx => ?_
          unfold upd at hx
          split at hx
          · cases hx
          · exact absurd hx (no_lck x)
        · have m : M κ (upd κ a .tmp) h h := M.relab hz hb
          refine ⟨.ref a, h, upd κ a .tmp, env, rfl, ev_relab ev (fun d' x hd _ => by rw [k]; intro q; cases q; omega) hb hz (fun q => by rw [k] at q; cases q) (fun _ => by rw [k]; simp) (by simp), ?_, ⟨a, rfl, upd_same, bsa, nl, oc.mono m rfl⟩⟩
          refine slot_set i (Go.relab hz hb (by simp [k]) (by simp) (by simp)) (fun _ _ => rfl) rfl (fun u hu => by cases hu) fun x hx => ?_
          unfold upd at hx
          split at hx
          · cases hx
          · exact absurd hx (no_lck x)
theorem WR.wt {n0 : Nat → Prop} {l : Bool} {r : RV} {w : W} (e : WR l κ env h r w) : WT lk n0 l κ env h r w := by
  cases r with
  | val v => exact e
  | tmp v => exact e.elim
  | pl p => exact e
theorem zip_fs : ∀ (fs : List String) {xs : List V} {ws : List W}, DVs κ h xs ws → DVf κ h (fs.zip xs) (fs.zip ws)
  | [], xs, ws, e => rfl
  | f :: fs, [], ws, e => by rw [e.nil_inv]; rfl
  | f :: fs, x :: xs, ws, e => by
    obtain ⟨w, r, rfl, e1, e2⟩ := e.cons_inv
    exact ⟨w, _, rfl, e1, zip_fs fs e2⟩
end
variable {X : BCx} {n : Nat} (hc : CallSim X.T X.O n) (hX : X.call = brun X.T X.O n)
include hc hX
mutual
theorem ex_ok : ∀ (s : St) {cu : Option BX} {d : Nat} {lk : List Nat} {as : List W} {κ : K} {env : Env} {E : EB} {h : Hp} {H : HB} {c : Option Exn}, CurR cu c κ h → Inv d lk as κ env E h H → SimS d lk as κ h (MP.ex (mx X n lk c) s env h) (bex { X with cur := cu } s E H)
  | .expr e, cu, d, lk, as, κ, env, E, h, H, c, cr, i =>
    SimS.on (ev_ok (X := { X with cur := cu }) hc hX e cr i) fun r w κ1 h1 E1 H1 _ ev1 i1 p1 => ⟨env, h1, κ1, rfl, ev1, i1⟩
  | .set (.tg (.name j)) e, cu, d, lk, as, κ, env, E, h, H, c, cr, i =>
    SimS.on (ev_ok (X := { X with cur := cu }) hc hX e cr i) fun r w κ1 h1 E1 H1 _ ev1 i1 p1 => setR_ok _ ev1 i1 p1 j
  | .set (.tg (.tup is)) e, cu, d, lk, as, κ, env, E, h, H, c, cr, i =>
    SimS.on (ev_ok (X := { X with cur := cu }) hc hX e cr i) fun r w κ1 h1 E1 H1 _ ev1 i1 p1 => SimS.thenSB fun vs hv => SimS.thenSB fun E2 hE => by
      obtain ⟨x, c1, c2⟩ := bind_some hv
      obtain ⟨ws, e1, e2⟩ := unpack_ok (cont_ok i1 p1 c1) c2
      obtain ⟨env', e3, e4, _, _⟩ := setAll_ok i1 e2 hE
      simp only [MP.bindTg, e1, Option.bind_some, e3, MP.thenS_some]
      exact ⟨env', h1, κ1, rfl, ev1, e4⟩
  | .set (.fld o f) e, cu, d, lk, as, κ, env, E, h, H, c, cr, i => by
    show SimS _ _ _ _ _ ((MP.ev (mx X n lk c) e env h).on env fun v h => (MP.ev (mx X n lk c) o env h).on env fun x h => (MP.setFld lk x f v h).on env fun _ h => .ok (.nx env) h) _
    simp only [bex]
    refine SimS.on (ev_ok (X := { X with cur := cu }) hc hX e cr i) fun r w κ1 h1 E1 H1 _ ev1 i1 p1 => SimS.thenSB fun r' f1 => ?_
    have wt := fixT_ok p1 f1
    refine SimS.onE ev1 (ev_ok (X := { X with cur := cu }) hc hX o (CurR.mono _ _ _ _ ev1.toM cr) i1) fun q wq κ2 h2 E2 H2 hr ev2 ev02 i2 p2 => SimS.thenSB fun ov hov => ?_
    have wt2 := wt.later ev2 (fun hs => by cases hs)
    exact setFR_ok _ ev02 i2 (cont_ok i2 p2 hov) wt2.rr
  | .set (.ix o j) e, cu, d, lk, as, κ, env, E, h, H, c, cr, i => by
    show SimS _ _ _ _ _ ((MP.ev (mx X n lk c) e env h).on env fun v h => (MP.ev (mx X n lk c) o env h).on env fun x h => (MP.ev (mx X n lk c) j env h).on env fun y h => (MP.setIx lk x y v h).on env fun _ h => .ok (.nx env) h) _
    simp only [bex]
    refine SimS.on (store_ok { X with cur := cu } 3 0 (ev_ok (X := { X with cur := cu }) hc hX e cr i)) fun v wv κ1 h1 E1 H1 _ ev1 i1 p1 => ?_
    have cr1 := CurR.mono _ _ _ _ ev1.toM cr
    refine SimS.onE ev1 (ev_ok (X := { X with cur := cu }) hc hX o cr1 i1) fun r w κ2 h2 E2 H2 _ ev12 ev2 i2 p2 => SimS.thenSB fun r' f1 => ?_
    obtain ⟨κ2', ev2', i2', wr, mm⟩ := fix_ok ev2 i2 (PE.up (fun _ => ev1.bs) p2) f1
    have cr2 := CurR.mono _ _ _ _ ev2'.toM cr
    refine SimS.onE ev2' (ev_ok (X := { X with cur := cu }) hc hX j cr2 i2').seal fun y wy κ3 h3 E3 H3 hr ev23 ev3 i3 p3 => SimS.thenSB fun z hz => SimS.thenSB fun q hq => ?_
    obtain ⟨E4, H4⟩ := q
    have wr3 := wr.later ev23 fun hs => simple_fr hr hs
    obtain ⟨x, c1, c2⟩ := bind_some hz
    have cx := cont_ok i3 (wr3.rr (lk := lk) (n0 := fun _ => True)) c1
    obtain ⟨a, rfl⟩ : ∃ a, w = .ref a := by
      cases x <;> simp only [vsetIx] at c2 <;> (try (cases c2; done))
      · obtain ⟨a, _, e, _⟩ := cx; exact ⟨a, e⟩
      · obtain ⟨a, _, e, _⟩ := cx; exact ⟨a, e⟩
    have dv : DV κ3 h3 v wv := DV.mono ev23.toM (DV.mono mm (DV.mono ev12.toM p1))
    obtain ⟨o, e1, e2⟩ := setIx_ok (lk := lk) cx p3 dv c2
    obtain ⟨nl, hl, hz, ev4, i4⟩ := mut_ok ev3 i3 (wr3.wt (lk := lk)) hq e2
    rw [e1]
    unfold MP.put
    rw [if_pos ⟨hl, nl⟩]
    exact ⟨env, _, κ3, rfl, ev4, i4⟩
  | .aug j op e, cu, d, lk, as, κ, env, E, h, H, c, cr, i => by
    show SimS _ _ _ _ _ ((MP.slot env j h).on env fun x h => (MP.ev (mx X n lk c) e env h).on env fun y h => (MP.ibin op x y h).on env fun v h => .ok (.nx (env.set j (some v))) h) _
    simp only [bex]
    cases hj : E[j]?.join with
    | none => exact True.intro
    | some s =>
      obtain ⟨w, q1, q2, _⟩ := i.e.sl j s hj
      have hs : MP.slot env j h = .ok w h := by unfold MP.slot; rw [q1]; rfl
      rw [hs]
      simp only [Option.map_some, B.of_some, B.on_ok, MP.R.on_ok]
      refine SimS.on (SimR.cont (ev_ok (X := { X with cur := cu }) hc hX e cr i)) fun y wy κ1 h1 E1 H1 _ ev1 i1 p1 => SimS.thenSB fun v hv => SimS.thenSB fun E2 hE => ?_
      have cx : ∃ k, s.v = .int k := by
        unfold vibin at hv
        split at hv
        · rename_i i' j' hi; exact ⟨_, hi⟩
        · cases hv
      obtain ⟨k, hk⟩ := cx
      have wk : w = .int k := by
        unfold SlR at q2
        cases hm : s.m <;> rw [hm, hk] at q2
        · simpa [DV] using q2
        · obtain ⟨_, _, _, _, _, _, oc⟩ := q2; exact oc.elim
        · obtain ⟨_, _, _, _, _, oc⟩ := q2; exact oc.elim
      subst wk
      rw [hk] at hv
      obtain ⟨u, e1, e2⟩ := ibin_ok (x := .int k) (u := .int k) (by simp [Cn, DV]) p1 hv
      rw [e1]
      exact ⟨_, h1, κ1, rfl, ev1, setB_val i1 e2 hE⟩
  | .augF o f op e, cu, d, lk, as, κ, env, E, h, H, c, cr, i => by
    show SimS _ _ _ _ _ ((MP.ev (mx X n lk c) o env h).on env fun x h => (R.of (MP.fldOf x f h) h).on env fun v h => (MP.ev (mx X n lk c) e env h).on env fun y h => (MP.ibin op v y h).on env fun z h => (MP.setFld lk x f z h).on env fun _ h => .ok (.nx env) h) _
    simp only [bex]
    refine SimS.on (SimR.cont (ev_ok (X := { X with cur := cu }) hc hX o cr i)) fun q w κ1 h1 E1 H1 _ ev1 i1 p1 => SimS.thenSB fun x hx => ?_
    obtain ⟨r, hr, hx⟩ := bind_some hx
    unfold fldR at hr
    split at hr
    · rename_i b
      have dq : DV κ1 h1 (.ref b) w := p1
      have p1' := p1
      simp only [PC, Cn, DV] at p1'
      obtain ⟨a, rfl, k, hl⟩ := p1'
      obtain ⟨s, hs, rfl⟩ := map_some hr
      obtain ⟨x', o', h1', h2', h3'⟩ := i1.b.box a b k
      rw [h1'] at hs
      cases x' with
      | con m v => cases hs
      | ins cl fs =>
        obtain ⟨_, gs, rfl, h4⟩ := h3'
        have q := h4 f
        simp only [fdS] at hs
        rw [hs] at q
        obtain ⟨w', q1, q2⟩ := q
        have e1 : MP.fldOf (.ref a) f h1 = some w' := by simp only [MP.fldOf, h2', MP.fldO, q1]
        rw [e1]
        have hm : s.m = .fz := by
          cases hm : s.m with
          | fz => rfl
          | own => rw [hm] at hx; cases hx
          | lkd => rw [hm] at hx; cases hx
        rw [hm] at hx
        cases hx
        unfold SlR at q2
        rw [hm] at q2
        simp only [MP.R.of_some, MP.R.on_ok]
        refine SimS.onE ev1 (SimR.cont (ev_ok (X := { X with cur := cu }) hc hX e (CurR.mono _ _ _ _ ev1.toM cr) i1)) fun y wy κ2 h2 E2 H2 _ ev12 ev2 i2 p2 => SimS.thenSB fun v hv => ?_
        obtain ⟨u, e2, e3⟩ := ibin_ok (DV.cn (DV.mono ev12.toM q2)) p2 hv
        rw [e2]
        exact setF_val ev2 i2 (DV.cn (DV.mono ev12.toM dq)) e3
    · cases hr
  | .ite q a b, cu, d, lk, as, κ, env, E, h, H, c, cr, i =>
    SimS.on (SimR.cont (ev_ok (X := { X with cur := cu }) hc hX q cr i)) fun x w κ1 h1 E1 H1 _ ev1 i1 p1 => SimS.thenSB fun k hk => by
      rw [bool_ok p1 hk]
      simp only [MP.thenS_some]
      cases k with
      | true => exact SimS.up ev1 (exs_ok a (CurR.mono _ _ _ _ ev1.toM cr) i1)
      | false => exact SimS.up ev1 (exs_ok b (CurR.mono _ _ _ _ ev1.toM cr) i1)
  | .while q b, cu, d, lk, as, κ, env, E, h, H, c, cr, i =>
    while_loop (C := CurR cu c) CurR.mono (fun env κ h E H cc i => SimR.cont (ev_ok (X := { X with cur := cu }) hc hX q cc i)) (fun env κ h E H cc i => exs_ok b cc i) _ _ _ _ _ _ cr i
  | .for tg it b, cu, d, lk, as, κ, env, E, h, H, c, cr, i =>
    SimS.on (iter_ok (X := { X with cur := cu }) hc hX it cr i) fun p q κ1 h1 E1 H1 _ ev1 i1 p1 => by
      have cr1 := CurR.mono _ _ _ _ ev1.toM cr
      refine lockedS_ok ev1 i1 p1.2 fun κ2 E2 H2 m2 i2 => ?_
      refine for_loop (C := CurR cu c) CurR.mono (fun x w env κ h E H cc i dv => ?_) _ _ _ _ _ _ _ (CurR.mono _ _ _ _ m2 cr1) i2 (p1.1.mono m2)
      refine SimS.thenSB fun E' hE => ?_
      obtain ⟨env', e1, e2, _, _⟩ := bind_ok i dv hE
      simp only [MP.turnOf, e1, MP.thenS_some]
      exact exs_ok b cc e2
  | .ret e, cu, d, lk, as, κ, env, E, h, H, c, cr, i =>
    SimS.on (ev_ok (X := { X with cur := cu }) hc hX e cr i) fun r w κ1 h1 E1 H1 _ ev1 i1 p1 => ret_ok ev1 i1 p1
  | .brk, cu, d, lk, as, κ, env, E, h, H, c, cr, i => ⟨env, h, κ, rfl, .refl, i⟩
  | .cont, cu, d, lk, as, κ, env, E, h, H, c, cr, i => ⟨env, h, κ, rfl, .refl, i⟩
  | .pass, cu, d, lk, as, κ, env, E, h, H, c, cr, i => ⟨env, h, κ, rfl, .refl, i⟩
  | .raise cl es, cu, d, lk, as, κ, env, E, h, H, c, cr, i =>
    SimS.on (evs_ok (X := { X with cur := cu }) hc hX 6 0 es cr i) fun xs ws κ1 h1 E1 H1 _ ev1 i1 p1 => SimS.thenSB fun fs hf => by
      simp only [MP.excFs]
      rw [hf]
      simp only [Option.map_some, MP.thenS_some]
      exact ⟨_, env, h1, κ1, rfl, ev1, i1, rfl, zip_fs fs p1⟩
  | .try b hs, cu, d, lk, as, κ, env, E, h, H, c, cr, i => by
    have s := exs_ok b cr i
    simp only [MP.ex, bex]
    cases hb : bexs { X with cur := cu } b E H with
    | bad => exact True.intro
    | ok f E' H' =>
      rw [hb] at s
      cases f with
      | nx => obtain ⟨env2, h', κ2, q1, q⟩ := s; rw [q1]; exact ⟨env2, h', κ2, rfl, q⟩
      | bk => obtain ⟨env2, h', κ2, q1, q⟩ := s; rw [q1]; exact ⟨env2, h', κ2, rfl, q⟩
      | ct => obtain ⟨env2, h', κ2, q1, q⟩ := s; rw [q1]; exact ⟨env2, h', κ2, rfl, q⟩
      | rt v => obtain ⟨w, h', κ2, env2, q1, q⟩ := s; rw [q1]; exact ⟨w, h', κ2, env2, rfl, q⟩
    | exc x E' H' =>
      rw [hb] at s
      obtain ⟨y, env2, h', κ2, q1, q2, q3, q4⟩ := s
      rw [q1]
      exact SimS.up q2 (hnd_ok hs q4 q3)
theorem exs_ok : ∀ (ss : List St) {cu : Option BX} {d : Nat} {lk : List Nat} {as : List W} {κ : K} {env : Env} {E : EB} {h : Hp} {H : HB} {c : Option Exn}, CurR cu c κ h → Inv d lk as κ env E h H → SimS d lk as κ h (MP.exs (mx X n lk c) ss env h) (bexs { X with cur := cu } ss E H)
  | [], cu, d, lk, as, κ, env, E, h, H, c, cr, i => ⟨env, h, κ, rfl, .refl, i⟩
  | s :: ss, cu, d, lk, as, κ, env, E, h, H, c, cr, i =>
    SimS.then (ex_ok s cr i) fun env1 κ1 h1 E1 H1 ev1 i1 => SimS.up ev1 (exs_ok ss (CurR.mono _ _ _ _ ev1.toM cr) i1)
theorem hnd_ok : ∀ (hs : List (String × List St)) {cu : Option BX} {d : Nat} {lk : List Nat} {as : List W} {κ : K} {env : Env} {E : EB} {h : Hp} {H : HB} {c : Option Exn} {x : BX} {y : Exn}, XR κ h x y → Inv d lk as κ env E h H → SimS d lk as κ h (MP.hnd (mx X n lk c) y hs env h) (bhnd { X with cur := cu } x hs E H)
  | [], cu, d, lk, as, κ, env, E, h, H, c, x, y, xr, i => ⟨y, env, h, κ, rfl, .refl, i, xr⟩
  | (cl, b) :: hs, cu, d, lk, as, κ, env, E, h, H, c, x, y, xr, i => by
    unfold MP.hnd bhnd
    rw [xr.1]
    split
    · exact exs_ok b (cu := some x) (c := some y) xr i
    · exact hnd_ok hs xr i
end
end BP

namespace BP
open MP (W O Hp Env Exn R rd BinOp CmpOp Blt Ty Ex It Cx Prog Tg St Lv)
/-! ### what is left behind a call -/
mutual
theorem beqV_eq : ∀ {x y : V}, beqV x y = true → x = y
  | .non, y, e => by cases y <;> simp_all [beqV]
  | .bl _, y, e => by cases y <;> simp_all [beqV]
  | .int _, y, e => by cases y <;> simp_all [beqV]
  | .str _, y, e => by cases y <;> simp_all [beqV]
  | .tup xs, y, e => by
    cases y <;> simp only [beqV] at e <;> (try (cases e; done))
    rw [beqVs_eq e]
  | .lst xs, y, e => by
    cases y <;> simp only [beqV] at e <;> (try (cases e; done))
    rw [beqVs_eq e]
  | .dct xs, y, e => by
    cases y <;> simp only [beqV] at e <;> (try (cases e; done))
    rw [beqVp_eq e]
  | .ref _, y, e => by cases y <;> simp_all [beqV]
theorem beqVs_eq : ∀ {x y : List V}, beqVs x y = true → x = y
  | [], [], _ => rfl
  | [], _ :: _, e => by cases e
  | _ :: _, [], e => by cases e
  | x :: xs, y :: ys, e => by
    simp only [beqVs, Bool.and_eq_true] at e
    rw [beqV_eq e.1, beqVs_eq e.2]
theorem beqVp_eq : ∀ {x y : List (V × V)}, beqVp x y = true → x = y
  | [], [], _ => rfl
  | [], _ :: _, e => by cases e
  | (_, _) :: _, [], e => by cases e
  | (a, b) :: xs, (c, d) :: ys, e => by
    simp only [beqVp, Bool.and_eq_true] at e
    rw [beqV_eq e.1.1, beqV_eq e.1.2, beqVp_eq e.2]
end
theorem beqSl_eq {x y : Sl} (e : beqSl x y = true) : x = y := by
  obtain ⟨m, v, a⟩ := x; obtain ⟨m', v', a'⟩ := y
  simp only [beqSl, Bool.and_eq_true, decide_eq_true_eq, beq_iff_eq] at e
  rw [e.1.1, beqV_eq e.1.2, e.2]
theorem beqF_eq : ∀ {x y : List (String × Sl)}, beqF x y = true → x = y
  | [], [], _ => rfl
  | [], _ :: _, e => by cases e
  | (_, _) :: _, [], e => by cases e
  | (a, b) :: xs, (c, d) :: ys, e => by
    simp only [beqF, Bool.and_eq_true, decide_eq_true_eq] at e
    rw [e.1.1, beqSl_eq e.1.2, beqF_eq e.2]
theorem beqBx_eq {x y : Bx} (e : beqBx x y = true) : x = y := by
  cases x <;> cases y <;> simp only [beqBx, Bool.and_eq_true, decide_eq_true_eq] at e <;> (try (cases e; done))
  · rw [e.1, beqF_eq e.2]
  · rw [e.1, beqV_eq e.2]
section
variable {d : Nat} {lk : List Nat} {κ : K} {h : Hp} {H : HB}
mutual
theorem dv_below (i : HInv lk κ h H) : ∀ {v : V} {w : W}, DV κ h v w → below H.length v = true
  | .non, w, e => rfl
  | .bl _, w, e => rfl
  | .int _, w, e => rfl
  | .str _, w, e => rfl
  | .tup xs, w, e => by unfold DV at e; obtain ⟨ws, _, e⟩ := e; exact dvs_below i e
  | .lst xs, w, e => by unfold DV at e; obtain ⟨_, ws, _, _, _, e⟩ := e; exact dvs_below i e
  | .dct xs, w, e => by unfold DV at e; obtain ⟨_, ws, _, _, _, _, e⟩ := e; exact dvp_below i e
  | .ref b, w, e => by
    unfold DV at e
    obtain ⟨a, _, k, _⟩ := e
    obtain ⟨_, _, h1, _⟩ := i.box a b k
    simpa using (List.getElem?_eq_some_iff.mp h1).1
theorem dvs_below (i : HInv lk κ h H) : ∀ {v : List V} {w : List W}, DVs κ h v w → belows H.length v = true
  | [], w, e => rfl
  | x :: xs, w, e => by
    obtain ⟨u, r, _, e1, e2⟩ := e.cons_inv
    simp [dv_below i e1, dvs_below i e2]
theorem dvp_below (i : HInv lk κ h H) : ∀ {v : List (V × V)} {w : List (W × W)}, DVp κ h v w → belowp H.length v = true
  | [], w, e => rfl
  | (x, y) :: xs, w, e => by
    obtain ⟨u, z, r, _, e1, e2, e3⟩ := e.cons_inv
    simp [dv_below i e1, dv_below i e2, dvp_below i e3]
end
theorem ownc_below (i : HInv lk κ h H) {v : V} {a : Nat} (o : OwnC κ h v a) : below H.length v = true := by
  obtain ⟨o, _, c⟩ := o
  cases v <;> first | exact c.elim | skip
  · obtain ⟨ws, _, c⟩ := c; exact dvs_below i c
  · obtain ⟨ws, _, _, c⟩ := c; exact dvp_below i c
theorem sl_below (i : HInv lk κ h H) {l : Own} {s : Sl} {w : W} (e : SlR κ lk h l s w) : below H.length s.v = true := by
  unfold SlR at e
  split at e
  · exact dv_below i e
  · obtain ⟨a, _, _, _, o⟩ := e; exact ownc_below i o
  · obtain ⟨a, _, _, o⟩ := e; exact ownc_below i o
end
/-- boxes from n on are nobody's -/
def cutL (n : Nat) : Own → Own
  | .box b => if b < n then .box b else .gar
  | .fld b f => if b < n then .fld b f else .gar
  | .lck (.fld b f) => if b < n then .lck (.fld b f) else .gar
  | o => o
section
variable {d : Nat} {lk : List Nat} {κ κ' : K} {h h' : Hp} {H H' : HB} {n : Nat}
theorem cut_frz {o : Own} (e : o = .frz) : cutL n o = .frz := by rw [e]; rfl
mutual
theorem dv_cut : ∀ {v : V} {w : W}, below n v = true → DV κ h v w → DV (fun a => cutL n (κ a)) h v w
  | .non, w, _, e => e
  | .bl _, w, _, e => e
  | .int _, w, _, e => e
  | .str _, w, _, e => e
  | .tup xs, w, b, e => by unfold DV at e ⊢; obtain ⟨ws, e1, e⟩ := e; exact ⟨ws, e1, dvs_cut b e⟩
  | .lst xs, w, b, e => by unfold DV at e ⊢; obtain ⟨a, ws, e1, e2, e3, e⟩ := e; exact ⟨a, ws, e1, cut_frz e2, e3, dvs_cut b e⟩
  | .dct xs, w, b, e => by unfold DV at e ⊢; obtain ⟨a, ws, e1, e2, e3, e4, e⟩ := e; exact ⟨a, ws, e1, cut_frz e2, e3, e4, dvp_cut b e⟩
  | .ref x, w, b, e => by
    unfold DV at e ⊢
    obtain ⟨a, e1, k, hl⟩ := e
    simp only [below, decide_eq_true_eq] at b
    exact ⟨a, e1, by show cutL n (κ a) = _; rw [k]; simp [cutL, b], hl⟩
theorem dvs_cut : ∀ {v : List V} {w : List W}, belows n v = true → DVs κ h v w → DVs (fun a => cutL n (κ a)) h v w
  | [], w, _, e => e
  | x :: xs, w, b, e => by
    obtain ⟨u, r, rfl, e1, e2⟩ := e.cons_inv
    simp only [belows, Bool.and_eq_true] at b
    exact .cons (dv_cut b.1 e1) (dvs_cut b.2 e2)
theorem dvp_cut : ∀ {v : List (V × V)} {w : List (W × W)}, belowp n v = true → DVp κ h v w → DVp (fun a => cutL n (κ a)) h v w
  | [], w, _, e => e
  | (x, y) :: xs, w, b, e => by
    obtain ⟨u, z, r, rfl, e1, e2, e3⟩ := e.cons_inv
    simp only [belowp, Bool.and_eq_true] at b
    exact .cons (dv_cut b.1.1 e1) (dv_cut b.1.2 e2) (dvp_cut b.2 e3)
end
theorem ownc_cut {v : V} {a : Nat} (b : below n v = true) (o : OwnC κ h v a) : OwnC (fun a => cutL n (κ a)) h v a := by
  obtain ⟨o, r, c⟩ := o
  cases v <;> first | exact c.elim | skip
  · obtain ⟨ws, e, c⟩ := c; exact ⟨o, r, ws, e, dvs_cut b c⟩
  · obtain ⟨ws, e, e', c⟩ := c; exact ⟨o, r, ws, e, e', dvp_cut b c⟩
theorem sl_cut {l : Own} (hl : cutL n l = l) (hl' : cutL n (.lck l) = .lck l) {s : Sl} {w : W} (b : below n s.v = true) (e : SlR κ lk h l s w) : SlR (fun a => cutL n (κ a)) lk h l s w := by
  unfold SlR at e ⊢
  split at e
  · exact dv_cut b e
  · obtain ⟨a, e1, e2, e3, e4⟩ := e; exact ⟨a, e1, by show cutL n (κ a) = _; rw [e2, hl], e3, ownc_cut b e4⟩
  · obtain ⟨a, e1, e2, e4⟩ := e; exact ⟨a, e1, by show cutL n (κ a) = _; rw [e2, hl'], ownc_cut b e4⟩
theorem ev_cut (i : HInv lk κ h H) (ev : Ev d κ κ' h h') : Ev d κ (fun a => cutL H.length (κ' a)) h h' := by
  have bl : ∀ {a b : Nat}, κ a = .box b → b < H.length := fun k => by
    obtain ⟨_, _, h1, _⟩ := i.box _ _ k
    exact (List.getElem?_eq_some_iff.mp h1).1
  refine ⟨⟨ev.len, fun a ha e => ?_, fun a b ha e => ?_⟩, fun d' j hd a ha e => ?_, fun a ha e => ?_, fun l hl a ha e => ?_, fun a d' j hd e => ?_⟩
  · obtain ⟨k1, k2⟩ := ev.frz a ha e; exact ⟨cut_frz k1, k2⟩
  · show cutL H.length (κ' a) = _; rw [ev.box a b ha e]; simp [cutL, bl e]
  · obtain ⟨k1, k2⟩ := ev.slot d' j hd a ha e; exact ⟨by show cutL H.length (κ' a) = _; rw [k1]; rfl, k2⟩
  · obtain ⟨k1, k2⟩ := ev.tmp a ha e; exact ⟨by show cutL H.length (κ' a) = _; rw [k1]; rfl, k2⟩
  · obtain ⟨k1, k2⟩ := ev.lck l hl a ha e
    refine ⟨?_, k2⟩
    show cutL H.length (κ' a) = _
    rw [k1]
    cases l with
    | fld b f =>
      obtain ⟨_, _, _, a', _, h1, _, _, h4, _⟩ := i.lc a b f e
      simp [cutL, bl h4]
    | _ => rfl
  · refine ev.lckr a d' j hd ?_
    have e' : cutL H.length (κ' a) = .lck (.slot d' j) := e
    cases hk : κ' a with
    | box b => rw [hk] at e'; simp only [cutL] at e'; split at e' <;> cases e'
    | fld b f => rw [hk] at e'; simp only [cutL] at e'; split at e' <;> cases e'
    | lck l => rw [hk] at e'; cases l with
      | fld b f => simp only [cutL] at e'; split at e' <;> cases e'
      | _ => exact e'
    | _ => rw [hk] at e'; exact e'
theorem old_get : ∀ {H H' : HB}, oldOk n H H' = true → H.length ≤ H'.length ∧ ∀ (b : Nat) (x : Bx), H[b]? = some x → ∃ y, H'[b]? = some y ∧ (x = y ∨ belowBx n y = true)
  | [], H', _ => ⟨Nat.zero_le _, fun b x e => by simp at e⟩
  | x :: H, [], e => by cases e
  | x :: H, y :: H', e => by
    simp only [oldOk, Bool.and_eq_true, Bool.or_eq_true] at e
    obtain ⟨i1, i2⟩ := old_get e.2
    refine ⟨by simp; omega, fun b z hz => ?_⟩
    cases b with
    | zero =>
      simp at hz; subst hz
      refine ⟨y, rfl, ?_⟩
      rcases e.1 with e1 | e1
      · exact .inl (beqBx_eq e1)
      · exact .inr e1
    | succ b => simpa using i2 b z (by simpa using hz)
theorem hinv_cut (i0 : HInv lk κ h H) (i : HInv lk κ' h' H') (ok : oldOk H.length H H' = true) : HInv lk (fun a => cutL H.length (κ' a)) h' (H'.take H.length) := by
  obtain ⟨hlen, og⟩ := old_get ok
  have cb : ∀ {a b : Nat}, cutL H.length (κ' a) = .box b → κ' a = .box b ∧ b < H.length := fun {a b} e => by
    cases hk : κ' a with
    | box b' => rw [hk] at e; simp only [cutL] at e; split at e <;> cases e; exact ⟨rfl, by assumption⟩
    | fld b f => rw [hk] at e; simp only [cutL] at e; split at e <;> cases e
    | lck l => rw [hk] at e; cases l with
      | fld b f => simp only [cutL] at e; split at e <;> cases e
      | _ => cases e
    | _ => rw [hk] at e; cases e
  refine ⟨fun a b e => ?_, fun a a' b e e' => i.inj a a' b (cb e).1 (cb e').1, fun b hb => ?_, i.lkb, fun a b f e => ?_⟩
  · obtain ⟨k, hb⟩ := cb e
    obtain ⟨x, o, h1, h2, h3⟩ := i.box a b k
    refine ⟨x, o, by rw [List.getElem?_take]; simp [hb, h1], h2, ?_⟩
    -- every value in the box is of the old boxes
    have hx := List.getElem?_eq_getElem hb
    obtain ⟨y, hy, hc⟩ := og b _ hx
    rw [h1] at hy; cases hy
    obtain ⟨a0, k0⟩ := i0.ex b hb
    obtain ⟨x0, o0, z1, z2, z3⟩ := i0.box a0 b k0
    rw [hx] at z1; cases z1
    cases x with
    | con m v =>
      refine ⟨h3.1, ownc_cut ?_ h3.2⟩
      rcases hc with hc | hc
      · rw [hc] at z3; exact ownc_below i0 z3.2
      · exact hc
    | ins c fs =>
      obtain ⟨nl, gs, rfl, h4⟩ := h3
      refine ⟨nl, gs, rfl, fun f => ?_⟩
      have := h4 f
      split at this
      · rename_i s hs
        obtain ⟨w, q1, q2⟩ := this
        refine ⟨w, q1, sl_cut (by simp [cutL, hb]) (by simp [cutL, hb]) ?_ q2⟩
        rcases hc with hc | hc
        · rw [hc] at z3
          obtain ⟨_, gs0, _, z4⟩ := z3
          have z5 := z4 f
          rw [hs] at z5
          obtain ⟨w0, _, z6⟩ := z5
          exact sl_below i0 z6
        · simp only [belowBx, List.all_eq_true] at hc
          have hm : (f, s) ∈ fs := by
            clear q2 q1 h4 hc h1 z3 hx og z2 hb h2 nl
            induction fs with
            | nil => cases hs
            | cons p fs ih =>
              obtain ⟨g, u⟩ := p
              rw [List.lookup_cons] at hs
              cases hg : f == g with
              | true => rw [hg] at hs; cases hs; rw [eq_of_beq hg]; exact List.mem_cons_self
              | false => rw [hg] at hs; exact List.mem_cons_of_mem _ (ih hs)
          exact hc _ hm
      · exact this
  · rw [List.length_take] at hb
    obtain ⟨a, e⟩ := i.ex b (by omega)
    exact ⟨a, by show cutL H.length (κ' a) = _; rw [e]; simp [cutL]; omega⟩
  · have e' : cutL H.length (κ' a) = .lck (.fld b f) := e
    have hk : κ' a = .lck (.fld b f) ∧ b < H.length := by
      cases hk : κ' a with
      | box b' => rw [hk] at e'; simp only [cutL] at e'; split at e' <;> cases e'
      | fld b f => rw [hk] at e'; simp only [cutL] at e'; split at e' <;> cases e'
      | lck l => rw [hk] at e'; cases l with
        | fld b f => simp only [cutL] at e'; split at e' <;> cases e'; exact ⟨rfl, by assumption⟩
        | _ => cases e'
      | _ => rw [hk] at e'; cases e'
    obtain ⟨c, fs, s, a', gs, z1, z2, z3, z4, z5, z6⟩ := i.lc a b f hk.1
    exact ⟨c, fs, s, a', gs, by rw [List.getElem?_take]; simp [hk.2, z1], z2, z3, by show cutL H.length (κ' a') = _; rw [z4]; simp [cutL, hk.2], z5, z6⟩
end
end BP

namespace BP
open MP (W O Hp Env Exn R rd BinOp CmpOp Blt Ty Ex It Cx Prog Tg St Lv)
section
variable {d : Nat} {lk : List Nat} {κ κ' : K} {h h' : Hp} {H H' : HB} {E : EB} {ws : List W} {env : Env}
/-! ### defs, both ways -/
theorem fin_get : ∀ {ss l : List Sl} {k : Nat}, finS E k ss = some l → l.length = ss.length ∧ ∀ (j : Nat) (s0 s : Sl), ss[j]? = some s0 → l[j]? = some s → (s0.m = .fz → s = s0) ∧ (s0.m ≠ .fz → ∃ u, E[k + j]?.join = some u ∧ u.arg = true ∧ s = ⟨u.m, u.v, false⟩)
  | [], l, k, e => by cases e; simp
  | s :: ss, l, k, e => by
    simp only [finS] at e
    obtain ⟨u, hu, e⟩ := bind_some e
    obtain ⟨l', e1, rfl⟩ := map_some e
    obtain ⟨i1, i2⟩ := fin_get e1
    refine ⟨by simp [i1], fun j s0 t h1 h2 => ?_⟩
    cases j with
    | zero =>
      simp at h1 h2
      subst h1; subst h2
      cases hm : s.m with
      | fz => rw [hm] at hu; cases hu; exact ⟨fun _ => rfl, fun q => absurd rfl q⟩
      | own =>
        rw [hm] at hu
        refine ⟨fun q => (by cases q), fun _ => ?_⟩
        obtain ⟨v, hv, hg⟩ := bind_some hu
        obtain ⟨ha, hg⟩ := guardO_some hg
        cases hg
        exact ⟨v, hv, ha, rfl⟩
      | lkd =>
        rw [hm] at hu
        refine ⟨fun q => (by cases q), fun _ => ?_⟩
        obtain ⟨v, hv, hg⟩ := bind_some hu
        obtain ⟨ha, hg⟩ := guardO_some hg
        cases hg
        exact ⟨v, hv, ha, rfl⟩
    | succ j =>
      have := i2 j s0 t (by simpa using h1) (by simpa using h2)
      rw [show k + 1 + j = k + (j + 1) by omega] at this
      exact this
theorem fin_rel {ss l : List Sl} (e : finS E 0 ss = some l) (i : Inv d lk ws κ env E h H) : ARel d lk κ h ws ss l := by
  obtain ⟨h1, h2⟩ := fin_get e
  refine ⟨h1, fun j s0 s q1 q2 => ?_, fun a j s0 q1 q2 q3 => ?_⟩
  · obtain ⟨a1, a2⟩ := h2 j s0 s q1 q2
    refine ⟨a1, fun q => ?_⟩
    obtain ⟨u, z1, z2, rfl⟩ := a2 q
    rw [Nat.zero_add] at z1
    obtain ⟨w, y1, y2, y3⟩ := i.e.sl j u z1
    exact ⟨w, y3 z2, y2⟩
  · have hlt : j < l.length := by rw [h1]; exact (List.getElem?_eq_some_iff.mp q2).1
    obtain ⟨u, z1, z2, z3⟩ := (h2 j s0 _ q2 (List.getElem?_eq_getElem hlt)).2 q3
    rw [Nat.zero_add] at z1
    obtain ⟨v, y1, y2, y3⟩ := i.e.lc a j q1
    rw [z1] at y1; cases y1
    obtain ⟨w, x1, x2, x3⟩ := i.e.sl j u z1
    rw [y3] at x1; cases x1
    exact ⟨_, List.getElem?_eq_getElem hlt, by rw [z3]; exact y2, x3 z2⟩
theorem start_inv {ss : List Sl} (hi : HInv lk κ h H) (ai : AIn d lk κ h ws ss) (k : Nat) : Inv d lk ws κ (ws.map some ++ List.replicate k none) (ss.map (fun s => some (inS s)) ++ List.replicate k none) h H := by
  refine ⟨⟨fun j s hj => ?_, by simp [ai.len], fun a j q => ?_⟩, hi⟩
  · by_cases hl : j < ss.length
    · rw [List.getElem?_append_left (by simpa using hl), List.getElem?_map, List.getElem?_eq_getElem hl] at hj
      simp only [Option.map_some, Option.join_some, Option.some.injEq] at hj
      obtain ⟨w, h1, h2⟩ := ai.sl j _ (List.getElem?_eq_getElem hl)
      refine ⟨w, ?_, ?_, fun _ => h1⟩
      · rw [List.getElem?_append_left (by simp; rw [← ai.len]; exact hl), List.getElem?_map, h1]; rfl
      · subst hj; exact h2
    · rw [List.getElem?_append_right (by simpa using Nat.le_of_not_lt hl)] at hj
      rw [List.getElem?_replicate] at hj
      split at hj <;> cases hj
  · obtain ⟨s, h1, h2, h3⟩ := ai.lc a j q
    have hl := (List.getElem?_eq_some_iff.mp h1).1
    refine ⟨inS s, ?_, h2, ?_⟩
    · rw [List.getElem?_append_left (by simpa using hl), List.getElem?_map, h1]; rfl
    · rw [List.getElem?_append_left (by simp; rw [← ai.len]; exact hl), List.getElem?_map, h3]; rfl
theorem belowS_get {n : Nat} {l : List Sl} (b : belowS n l = true) {j : Nat} {s : Sl} (e : l[j]? = some s) : below n s.v = true := List.all_eq_true.mp b s (List.mem_of_getElem? e)
theorem arel_cut {ss l : List Sl} {n : Nat} (b : belowS n l = true) (r : ARel d lk κ h ws ss l) : ARel d lk (fun a => cutL n (κ a)) h ws ss l := by
  refine ⟨r.len, fun j s0 s q1 q2 => ?_, fun a j s0 q1 q2 q3 => r.lc a j s0 ?_ q2 q3⟩
  · obtain ⟨a1, a2⟩ := r.sl j s0 s q1 q2
    refine ⟨a1, fun q => ?_⟩
    obtain ⟨w, h1, h2⟩ := a2 q
    exact ⟨w, h1, sl_cut rfl rfl (belowS_get b q2) h2⟩
  · have e' : cutL n (κ a) = .lck (.slot d j) := q1
    cases hk : κ a with
    | box b => rw [hk] at e'; simp only [cutL] at e'; split at e' <;> cases e'
    | fld b f => rw [hk] at e'; simp only [cutL] at e'; split at e' <;> cases e'
    | lck l => rw [hk] at e'; cases l with
      | fld b f => simp only [cutL] at e'; split at e' <;> cases e'
      | _ => exact e'
    | _ => rw [hk] at e'; exact e'
theorem ret_cut {n0 : Nat → Prop} {s : Sl} {w : W} {n : Nat} (b : below n s.v = true) (r : RetR lk n0 κ h s w) : RetR lk n0 (fun a => cutL n (κ a)) h s w := by
  unfold RetR at r ⊢
  cases hm : s.m <;> rw [hm] at r
  · exact dv_cut b r
  · obtain ⟨a, e1, e2, e3, e4, e5⟩ := r; exact ⟨a, e1, by show cutL n (κ a) = _; rw [e2]; rfl, e3, e4, ownc_cut b e5⟩
  · obtain ⟨a, e1, e2, e3, e4, e5⟩ := r; exact ⟨a, e1, by show cutL n (κ a) = _; rw [e2]; rfl, e3, e4, ownc_cut b e5⟩
theorem xr_cut {n : Nat} : ∀ {l : List (String × V)} {l' : List (String × W)}, (l.all fun p => below n p.2) = true → DVf κ h l l' → DVf (fun a => cutL n (κ a)) h l l'
  | [], l', _, e => e
  | (f, v) :: l, l', b, e => by
    obtain ⟨w, q, rfl, e1, e2⟩ := e
    rw [List.all_cons, Bool.and_eq_true] at b
    exact ⟨w, q, rfl, dv_cut b.1 e1, xr_cut b.2 e2⟩
end
theorem call_all (T : Prog) (O : Orc) : ∀ n, CallSim T O n
  | 0 => fun f d lk κ h H ws ss hi ai => True.intro
  | n + 1 => fun f d lk κ h H ws ss hi ai => by
    unfold brun MP.run
    cases hf : T.fd f with
    | none => exact True.intro
    | some fd =>
      simp only [MP.thenO_some]
      by_cases hl : ss.length = fd.np
      · rw [if_pos hl]
        have hl' : ws.length = fd.np := by rw [← ai.len]; exact hl
        rw [decide_eq_true hl', MP.guardR_true]
        have i0 := start_inv hi ai (fd.ns - fd.np)
        have s := exs_ok (X := ⟨T, brun T O n, O, f, none⟩) (n := n) (call_all T O n) rfl fd.body (cu := none) (c := none) (lk := lk) True.intro i0
        have fin : ∀ {κ' : K} {h' : Hp} {env' : Env} {E' : EB} {H' : HB} {l : List Sl}, Ev d κ κ' h h' → Inv d lk ws κ' env' E' h' H' → finS E' 0 ss = some l → ∀ ok : Bool, (ok = true → belowS H.length l = true) →
            ∃ κ2, Ev d κ κ2 h h' ∧ HInv lk κ2 h' (leave H H' ok) ∧ ARel d lk κ2 h' ws ss l ∧ ((κ2 = κ') ∨ (ok = true ∧ κ2 = fun a => cutL H.length (κ' a))) := fun {κ' h' env' E' H' l} ev i e ok hb => by
          unfold leave
          by_cases c : (ok && oldOk H.length H H') = true
          · rw [if_pos c]
            rw [Bool.and_eq_true] at c
            exact ⟨_, ev_cut hi ev, hinv_cut hi i.b c.2, arel_cut (hb c.1) (fin_rel e i), .inr ⟨c.1, rfl⟩⟩
          · rw [if_neg c]
            exact ⟨κ', ev, i.b, fin_rel e i, .inl rfl⟩
        generalize hb : bexs _ fd.body _ H = b at s
        cases b with
        | bad => exact True.intro
        | exc x E' H' =>
          obtain ⟨y, env', h', κ', q1, q2, q3, q4⟩ := s
          simp only [outB]
          cases hfin : finS E' 0 ss with
          | none => exact True.intro
          | some l =>
            simp only
            obtain ⟨κ2, e1, e2, e3, e4⟩ := fin q2 q3 hfin _ (fun q => by rw [Bool.and_eq_true] at q; exact q.2)
            refine ⟨y, h', κ2, by rw [q1]; rfl, e1, e2, ?_, e3⟩
            rcases e4 with rfl | ⟨q, rfl⟩
            · exact q4
            · rw [Bool.and_eq_true] at q; exact ⟨q4.1, xr_cut q.1 q4.2⟩
        | ok fl E' H' =>
          cases fl with
          | bk => exact True.intro
          | ct => exact True.intro
          | nx =>
            obtain ⟨env', h', κ', q1, q2, q3⟩ := s
            simp only [outB]
            cases hfin : finS E' 0 ss with
            | none => exact True.intro
            | some l =>
              simp only
              obtain ⟨κ2, e1, e2, e3, e4⟩ := fin q2 q3 hfin _ (fun q => q)
              exact ⟨.non, h', κ2, by rw [q1]; rfl, e1, e2, non_dv (κ := κ2) (h := h'), e3⟩
          | rt r =>
            obtain ⟨w, h', κ', env', q1, q2, q3, q4⟩ := s
            simp only [outB]
            cases hfin : finS E' 0 ss with
            | none => exact True.intro
            | some l =>
              simp only
              obtain ⟨κ2, e1, e2, e3, e4⟩ := fin q2 q3 hfin _ (fun q => by rw [Bool.and_eq_true] at q; exact q.2)
              refine ⟨w, h', κ2, by rw [q1]; rfl, e1, e2, ?_, e3⟩
              rcases e4 with rfl | ⟨q, rfl⟩
              · exact q4
              · rw [Bool.and_eq_true] at q; exact ret_cut q.1 q4
      · rw [if_neg hl]; exact True.intro
/-- a law, by its second reading -/
theorem law_of {T : Prog} {Q : Orc} {n : Nat} (ns : List Int) (e : ∃ m a as H, brun T Q n "law" [⟨.fz, .lst (ns.map .int), false⟩] [] = .ok ⟨m, .bl true, a⟩ as H) : ∃ h, MP.run T n [0] "law" [.ref 0] [.lst (ns.map .int)] = .ok (.bl true) h := by
  obtain ⟨m, a, as, H, e⟩ := e
  let κ : K := fun a => if a = 0 then .frz else .gar
  have nk : ∀ {a : Nat} {l : Own}, κ a = l → l = .frz ∨ l = .gar := fun {a l} q => by
    simp only [κ] at q
    split at q
    · exact .inl q.symm
    · exact .inr q.symm
  have dv : DV κ [O.lst (ns.map .int)] (.lst (ns.map .int)) (.ref 0) := by
    unfold DV
    exact ⟨0, ns.map .int, rfl, rfl, rfl, map_dv (fun k => by simp [DV]) ns⟩
  have nb : ∀ {a b : Nat}, κ a ≠ .box b := fun q => by rcases nk q with q | q <;> cases q
  have nl : ∀ {a : Nat} {l : Own}, κ a ≠ .lck l := fun q => by rcases nk q with q | q <;> cases q
  have hi : HInv [0] κ [O.lst (ns.map .int)] [] := ⟨fun a b q => absurd q nb, fun a a' b q => absurd q nb, fun b hb => (by cases hb), fun a ha => (by simp at ha; subst ha; simp), fun a b f q => absurd q nl⟩
  have ai : AIn 0 [0] κ [O.lst (ns.map .int)] [.ref 0] [⟨.fz, .lst (ns.map .int), false⟩] := ⟨rfl, fun j s hj => by
    cases j with
    | zero => simp at hj; subst hj; exact ⟨_, rfl, dv⟩
    | succ j => simp at hj, fun a j q => absurd q nl⟩
  have s := call_all T Q n "law" 0 [0] κ _ [] _ _ hi ai
  rw [e] at s
  obtain ⟨w, h', κ', q1, _, _, q4, _⟩ := s
  refine ⟨h', ?_⟩
  rw [q1]
  congr 1
  unfold RetR at q4
  cases hm : m with
  | fz => simp only [hm] at q4; simpa [DV] using q4
  | own => simp only [hm] at q4; obtain ⟨_, _, _, _, _, _, _, c⟩ := q4; exact c.elim
  | lkd => simp only [hm] at q4; obtain ⟨_, _, _, _, _, _, _, c⟩ := q4; exact c.elim
end BP

namespace BP
open MP
/-! ### lemmas for the plain proofs over the second reading -/
/-- a call's answer, seen -/
def ansB (r : FR) (v : V) (xs : List V) : Bool := match r with
  | .ok ⟨.fz, u, false⟩ as [] => beqV u v && beqVs (as.map Sl.v) xs && as.all fun s => decide (s.m = .fz) && !s.arg
  | _ => false
theorem ansB_eq {r : FR} {v : V} {xs : List V} (e : ansB r v xs = true) : r = .ok ⟨.fz, v, false⟩ (xs.map fun x => ⟨.fz, x, false⟩) [] := by
  unfold ansB at e
  split at e
  · rename_i u as
    simp only [Bool.and_eq_true, List.all_eq_true, decide_eq_true_eq, Bool.not_eq_true'] at e
    obtain ⟨⟨e1, e2⟩, e3⟩ := e
    rw [beqV_eq e1, ← beqVs_eq e2, List.map_map]
    have : ∀ as : List Sl, (∀ x ∈ as, x.m = .fz ∧ x.arg = false) → as = as.map ((fun x => (⟨.fz, x, false⟩ : Sl)) ∘ Sl.v) := by
      intro as
      induction as with
      | nil => intro _; rfl
      | cons a as ih =>
        intro h
        rw [List.map_cons, ← ih fun x hx => h x (List.mem_cons_of_mem _ hx)]
        have ⟨h1, h2⟩ := h a List.mem_cons_self
        obtain ⟨m, v, g⟩ := a
        cases h1; cases h2; rfl
    rw [← this as e3]
  · cases e
theorem brun_at {T : Prog} {Q : Orc} {n : Nat} {f : String} {as : List Sl} {H : HB} {fd : Fd} (e : T.fd f = some fd) (l : as.length = fd.np) :
    brun T Q (n + 1) f as H = outB as H (bexs ⟨T, brun T Q n, Q, f, none⟩ fd.body (as.map (fun s => some (inS s)) ++ List.replicate (fd.ns - fd.np) none) H) := by
  simp [brun, e, l]
/-- a loop whose turns all end well, with what holds ahead of each turn -/
theorem forB_inv {f : V → EB → HB → SB} (P : Nat → EB → HB → Prop) : ∀ (xs : List V) (k : Nat) (E : EB) (H : HB), P k E H →
    (∀ j x E H, j < xs.length → xs[j]? = some x → P (k + j) E H → ∃ E' H', (f x E H = .ok .nx E' H' ∨ f x E H = .ok .ct E' H') ∧ P (k + j + 1) E' H') → ∃ E' H', forB f xs E H = .ok .nx E' H' ∧ P (k + xs.length) E' H'
  | [], k, E, H, p, _ => ⟨E, H, rfl, p⟩
  | x :: xs, k, E, H, p, h => by
    obtain ⟨E1, H1, e, p1⟩ := h 0 x E H (Nat.succ_pos _) rfl p
    obtain ⟨E2, H2, e2, p2⟩ := forB_inv P xs (k + 1) E1 H1 p1 fun j y E H hj hy pj => by
      have := h (j + 1) y E H (Nat.succ_lt_succ hj) hy (by rw [show k + (j + 1) = k + 1 + j by omega]; exact pj)
      rw [show k + 1 + j + 1 = k + (j + 1) + 1 by omega]
      exact this
    refine ⟨E2, H2, ?_, by rw [List.length_cons, show k + (xs.length + 1) = k + 1 + xs.length by omega]; exact p2⟩
    show (f x E H).turn _ = _
    rcases e with e | e <;> rw [e] <;> exact e2
/-- a loop that looks for the first item that does not fit, and then answers r -/
theorem forB_search {f : V → EB → HB → SB} (P : EB → HB → Prop) (p : V → Bool) (r : Sl) : ∀ (xs : List V) (E : EB) (H : HB), P E H →
    (∀ x ∈ xs, ∀ E H, P E H → (p x = true → ∃ E' H', f x E H = .ok .nx E' H' ∧ P E' H') ∧ (p x = false → ∃ E' H', f x E H = .ok (.rt r) E' H' ∧ P E' H')) →
    ∃ E' H', P E' H' ∧ forB f xs E H = if xs.all p = true then .ok .nx E' H' else .ok (.rt r) E' H'
  | [], E, H, q, _ => ⟨E, H, q, rfl⟩
  | x :: xs, E, H, q, h => by
    cases hp : p x with
    | true =>
      obtain ⟨E1, H1, e, q1⟩ := (h x List.mem_cons_self E H q).1 hp
      obtain ⟨E2, H2, q2, e2⟩ := forB_search P p r xs E1 H1 q1 fun y hy => h y (List.mem_cons_of_mem _ hy)
      refine ⟨E2, H2, q2, ?_⟩
      show (f x E H).turn _ = _
      rw [e, List.all_cons, hp, Bool.true_and]
      exact e2
    | false =>
      obtain ⟨E1, H1, e, q1⟩ := (h x List.mem_cons_self E H q).2 hp
      refine ⟨E1, H1, q1, ?_⟩
      show (f x E H).turn _ = _
      rw [e, List.all_cons, hp]
      rfl
/-- a slot that may be set -/
def freeOk : Option Sl → Bool
  | none => true
  | some s => !s.arg && decide (s.m ≠ .lkd)
@[simp] theorem freeOk_none : freeOk none = true := rfl
@[simp] theorem freeOk_some {m : Md} {v : V} {a : Bool} : freeOk (some ⟨m, v, a⟩) = (!a && decide (m ≠ .lkd)) := rfl
theorem free_zero {a : Option Sl} {l : EB} : free (a :: l) 0 = freeOk a := by cases a <;> rfl
theorem free_succ {a : Option Sl} {l : EB} {i : Nat} : free (a :: l) (i + 1) = free l i := by simp [free]
end BP

namespace MP.L
def b_place_of : List St := [.set (.tg (.tup [2,3])) (.blt .divmod [.var 0, .int 11]), .ret (.bin .mod (.bin .add (.bin .mul (.bin .add (.var 2) (.int 1)) (.var 1)) (.var 3)) (.int 11))]
def b_twin_of : List St := [.set (.tg (.tup [1,2])) (.blt .divmod [.var 0, .int 11]), .ret (.bin .sub (.bin .add (.bin .mul (.int 11) (.bin .sub (.int 9) (.var 1))) (.int 10)) (.var 2))]
def b__law_whole : List St := [.ret (.and (.isi (.var 0) .int) (.not (.isi (.var 0) .bool)))]
def p__law_right_1 : Ex := .call "place_of" [.var 0, .var 2]
def p__law_right_2 : List St := [.set (.tg (.name 3)) (.bin .mod (.bin .add (.bin .mul (.bin .add (.int 1) (.bin .fdiv (.var 0) (.int 11))) (.var 2)) (.bin .mod (.var 0) (.int 11))) (.int 11)), .ite (.or (.not (.call "_law_whole" [.ix (.var 1) (.var 2)])) (.cmp .ne (.ix (.var 1) (.var 2)) (.var 3))) [.ret (.bl false)] []]
def p__law_right_3 : List St := [.ite (.cmp .ne (.call "place_of" [.var 4, .var 2]) (.bin .sub (.int 10) (.ix (.var 1) (.var 2)))) [.ret (.bl false)] []]
def b__law_right : List St := [.set (.tg (.name 1)) (.comp [2] p__law_right_1 (.name 2) (.rng (.int 11)) none), .for (.name 2) (.rng (.int 11)) p__law_right_2, .ite (.cmp .ne (.blt .sorted [.var 1]) (.listOf (.rng (.int 11)))) [.ret (.bl false)] [], .set (.tg (.name 4)) (.call "twin_of" [.var 0]), .ite (.or (.not (.call "_law_whole" [.var 4])) (.not (.chain .le .lt (.int 0) (.var 4) (.int 110)))) [.ret (.bl false)] [], .for (.name 2) (.rng (.int 11)) p__law_right_3, .ret (.cmp .eq (.call "twin_of" [.var 4]) (.var 0))]
def p_law_1 : List St := [.ite (.not (.call "_law_right" [.bin .mod (.var 1) (.int 110)])) [.ret (.bl false)] []]
def b_law : List St := [.for (.name 1) (.val (.bin .add (.lst [.int 0]) (.sl (.var 0) none (some (.int 60))))) p_law_1, .ret (.bl true)]
def T_fd : String → Option Fd
  | "place_of" => some ⟨2, 4, b_place_of⟩
  | "twin_of" => some ⟨1, 3, b_twin_of⟩
  | "_law_whole" => some ⟨1, 1, b__law_whole⟩
  | "_law_right" => some ⟨1, 5, b__law_right⟩
  | "law" => some ⟨1, 2, b_law⟩
  | _ => none
def T_mt : String → String → Option String
  | _, _ => none
def T_sub (a b : String) : Bool := match a with
  | _ => false
def T_exc : String → Option (List String)
  | _ => none
def T : Prog := ⟨T_fd, T_mt, T_sub, T_exc⟩
end MP.L

namespace MP.L
open MP

def O0 : BP.Orc := ⟨fun _ => 0, fun _ _ => false, fun _ _ _ => false⟩
open BP
theorem O0_box : O0.box = fun _ _ _ => false := rfl
theorem O0_fn : O0.var = fun _ _ => false := rfl
def rgC (n : Nat) : Bool := ansB (brun T O0 7 "_law_right" [⟨.fz, .int (n : Int), false⟩] []) (.bl true) [.int (n : Int)]
theorem rg_0 : ((List.range 11).all fun n => rgC (0 + n)) = true := by decide +kernel
theorem rg_1 : ((List.range 11).all fun n => rgC (11 + n)) = true := by decide +kernel
theorem rg_2 : ((List.range 11).all fun n => rgC (22 + n)) = true := by decide +kernel
theorem rg_3 : ((List.range 11).all fun n => rgC (33 + n)) = true := by decide +kernel
theorem rg_4 : ((List.range 11).all fun n => rgC (44 + n)) = true := by decide +kernel
theorem rg_5 : ((List.range 11).all fun n => rgC (55 + n)) = true := by decide +kernel
theorem rg_6 : ((List.range 11).all fun n => rgC (66 + n)) = true := by decide +kernel
theorem rg_7 : ((List.range 11).all fun n => rgC (77 + n)) = true := by decide +kernel
theorem rg_8 : ((List.range 11).all fun n => rgC (88 + n)) = true := by decide +kernel
theorem rg_9 : ((List.range 11).all fun n => rgC (99 + n)) = true := by decide +kernel
theorem rgAll {n : Nat} (h : n < 110) : rgC n = true := by
  have go : ∀ {a m : Nat}, ((List.range m).all fun n => rgC (a + n)) = true → a ≤ n → n < a + m → rgC n = true := fun {a m} e h1 h2 => by
    have := List.all_eq_true.mp e (n - a) (List.mem_range.mpr (by omega))
    rw [show a + (n - a) = n by omega] at this
    exact this
  by_cases h0 : n < 11
  · exact go rg_0 (by omega) (by omega)
  by_cases h1 : n < 22
  · exact go rg_1 (by omega) (by omega)
  by_cases h2 : n < 33
  · exact go rg_2 (by omega) (by omega)
  by_cases h3 : n < 44
  · exact go rg_3 (by omega) (by omega)
  by_cases h4 : n < 55
  · exact go rg_4 (by omega) (by omega)
  by_cases h5 : n < 66
  · exact go rg_5 (by omega) (by omega)
  by_cases h6 : n < 77
  · exact go rg_6 (by omega) (by omega)
  by_cases h7 : n < 88
  · exact go rg_7 (by omega) (by omega)
  by_cases h8 : n < 99
  · exact go rg_8 (by omega) (by omega)
  exact go rg_9 (by omega) (by omega)
theorem rg {i : Int} (h1 : 0 ≤ i) (h2 : i < 110) : brun T O0 7 "_law_right" [⟨.fz, .int i, false⟩] [] = .ok ⟨.fz, .bl true, false⟩ [⟨.fz, .int i, false⟩] [] := by
  have := rgAll (n := i.toNat) (by omega)
  unfold rgC at this
  rw [show ((i.toNat : Nat) : Int) = i by omega] at this
  exact ansB_eq this
theorem div110 : divOk 110 = true := by decide
theorem body (s : Option Sl) (v : Int) : bexs ⟨T, brun T O0 7, O0, "law", none⟩ p_law_1 [s, some ⟨.fz, .int v, false⟩] [] = .ok .nx [s, some ⟨.fz, .int v, false⟩] [] := by
  have t := rg (i := v % 110) (by omega) (by omega)
  simp [p_law_1, callB, slotsOf, argS, okIdx, isSl, isFz, FR.on, backS, resR, two, vbin, vcmp, vbool, guardB, guardO, B.of, simple, vunpack, div110, O0_fn, -free, free_zero, free_succ, t]
theorem cutL_int (ns : List Int) (lo hi : Option Int) : ∃ zs : List Int, cutL (ns.map V.int) lo hi = zs.map V.int ∧ zs.length ≤ ns.length := by
  refine ⟨cutL ns lo hi, ?_, ?_⟩
  · simp [cutL, List.map_take, List.map_drop]
  · simp only [cutL, List.length_drop, List.length_take]; omega
def Inv1 (s : Option Sl) (E : EB) (H : HB) : Prop := H = [] ∧ ∃ e1, E = [s, e1] ∧ freeOk e1 = true
theorem loop (s : Option Sl) (zs : List Int) : ∃ E H, forB (turnB (.name 1) fun E H => bexs ⟨T, brun T O0 7, O0, "law", none⟩ p_law_1 E H) (zs.map V.int) [s, none] [] = .ok .nx E H ∧ Inv1 s E H := by
  refine forB_inv (fun _ E H => Inv1 s E H) _ 0 _ _ ⟨rfl, none, rfl, rfl⟩ ?_
  rintro j x E H _ hx ⟨rfl, e1, rfl, f1⟩
  obtain ⟨v, _, rfl⟩ := List.mem_map.mp (List.mem_of_getElem? hx)
  refine ⟨_, _, .inl ?_, rfl, some ⟨.fz, .int v, false⟩, rfl, ?_⟩
  · simp [-free, free_zero, free_succ, f1, guardO, -bexs]
    exact body s v
  · simp
theorem law_run (ns : List Int) (hn : ns.length ≤ 63) : ∃ m a as H, brun T O0 8 "law" [⟨.fz, .lst (ns.map .int), false⟩] [] = .ok ⟨m, .bl true, a⟩ as H := by
  rw [brun_at (fd := ⟨1, 2, b_law⟩) rfl rfl]
  obtain ⟨zs, ez, lz⟩ := cutL_int ns none (some 60)
  obtain ⟨E, H, el, rfl, e1, rfl, _⟩ := loop (some ⟨.fz, .lst (ns.map .int), false⟩) (0 :: zs)
  have hl : 1 + zs.length ≤ LINE := by simp only [LINE]; omega
  simp only [List.map_cons] at el
  refine ⟨.fz, false, [⟨.fz, .lst (ns.map .int), false⟩], [], ?_⟩
  simp [b_law, inS, List.replicate, vslice, vpart, ez, vbin, hl, two, guardB, guardO, B.of, simple, simpleO, O0_box, vwalk, lockedS, -forB, -turnB, el, outB, finS, leave]
theorem law_ok : LawOk T 8 := fun ns hn => law_of ns (law_run ns hn)

end MP.L

namespace MP.E
open PySem PySem.Spec PyProof.Rows L2 MP MP.L
def top (i : Nat) : Stmt := PySem.Challenge.pw_threeroofs_k11_places.main.body.getD i (.Pass ⟨0, 0, 0, 0⟩)
def fn : List He.DefD := [⟨("place_of", none), "place_of", "place_of", defArgs (top 1), defBody (top 1), defScope (top 1), [], []⟩,
  ⟨("twin_of", none), "twin_of", "twin_of", defArgs (top 2), defBody (top 2), defScope (top 2), [], []⟩,
  ⟨("_law_whole", none), "_law_whole", "_law_whole", defArgs (top 4), defBody (top 4), defScope (top 4), [], []⟩,
  ⟨("_law_right", none), "_law_right", "_law_right", defArgs (top 5), defBody (top 5), defScope (top 5), [], []⟩,
  ⟨("law", none), "law", "law", defArgs (top 6), defBody (top 6), defScope (top 6), [], []⟩]
def fa : List He.Fa := [.glo "place_of", .glo "twin_of", .glo "_law_whole", .glo "_law_right", .glo "law", .free "divmod", .free "isinstance", .free "sorted", .free "int", .free "bool", .free "list", .free "range"]
def nm0 : List PySem.Str := ["place_of", "twin_of", "_law_whole", "_law_right"]
def names : List PySem.Str := nm0
abbrev R : PySem.W.OpenRow := PySem.W.OpenLaw.row PySem.Challenge.rw_threeroofs_k11_places
abbrev hk : PySem.W.Hook := hookM 5 fa fn
def ob (s : PySem.W.SharedT) : He.AlD := obsM 5 fa fn (HandSHeadRun.getT s)
theorem ob_eq (s : PySem.W.SharedT) : ob s = hk.obs s.abs := obsM_eq (HandSHeadRun.getT_eq s)
theorem run (w : World) : HandSHeadRun.RunEq R (PySem.W.view R.prog [6]) hk ob 20000 names w := by
  intro os
  kernel_rfl
def cA (K : PySem.W.Frag) : CA := ⟨fun c => He.ga K (Str.ofString c), []⟩
def G : List (PySem.Str × GK) := [("place_of", .fn "place_of"), ("twin_of", .fn "twin_of"), ("_law_whole", .fn "_law_whole"), ("_law_right", .fn "_law_right"), ("law", .fn "law"), ("divmod", .blt "divmod"), ("isinstance", .blt "isinstance"), ("sorted", .blt "sorted"), ("int", .ty "int"), ("bool", .ty "bool"), ("list", .ty "list"), ("range", .ty "range")]
theorem ck_place_of (ad : String → Addr) : chkSs ⟨["drawer", "plot", "step", "start"], defScope (top 1), G, ⟨ad, []⟩, T, true⟩ b_place_of (defBody (top 1)) = true := by kernel_rfl
theorem sc_place_of : FnScope ["drawer", "plot", "step", "start"] ["drawer", "plot"] (defScope (top 1)) := ⟨by kernel_rfl, by kernel_rfl, by kernel_rfl, by decide +kernel, by kernel_rfl, by decide +kernel, by decide +kernel⟩
theorem ck_twin_of (ad : String → Addr) : chkSs ⟨["drawer", "step", "start"], defScope (top 2), G, ⟨ad, []⟩, T, true⟩ b_twin_of (defBody (top 2)) = true := by kernel_rfl
theorem sc_twin_of : FnScope ["drawer", "step", "start"] ["drawer"] (defScope (top 2)) := ⟨by kernel_rfl, by kernel_rfl, by kernel_rfl, by decide +kernel, by kernel_rfl, by decide +kernel, by decide +kernel⟩
theorem ck__law_whole (ad : String → Addr) : chkSs ⟨["found"], defScope (top 4), G, ⟨ad, []⟩, T, true⟩ b__law_whole (defBody (top 4)) = true := by kernel_rfl
theorem sc__law_whole : FnScope ["found"] ["found"] (defScope (top 4)) := ⟨by kernel_rfl, by kernel_rfl, by kernel_rfl, by decide +kernel, by kernel_rfl, by decide +kernel, by decide +kernel⟩
theorem ck__law_right (ad : String → Addr) : chkSs ⟨["drawer", "places", "plot", "due", "twin"], defScope (top 5), G, ⟨ad, []⟩, T, true⟩ b__law_right (defBody (top 5)) = true := by kernel_rfl
theorem sc__law_right : FnScope ["drawer", "places", "plot", "due", "twin"] ["drawer"] (defScope (top 5)) := ⟨by kernel_rfl, by kernel_rfl, by kernel_rfl, by decide +kernel, by kernel_rfl, by decide +kernel, by decide +kernel⟩
theorem ck_law (ad : String → Addr) : chkSs ⟨["script", "cell"], defScope (top 6), G, ⟨ad, []⟩, T, true⟩ b_law (defBody (top 6)) = true := by kernel_rfl
theorem sc_law : FnScope ["script", "cell"] ["script"] (defScope (top 6)) := ⟨by kernel_rfl, by kernel_rfl, by kernel_rfl, by decide +kernel, by kernel_rfl, by decide +kernel, by decide +kernel⟩
section
variable {K : PySem.W.Frag} {h : Heap} {mg : PySem.Str → Option Value} (X : K.In h) (Gn : h.Ns mainGlobals mg) (c : He.SaysD fa fn K)
include X Gn c
theorem d_place_of : ∃ fd, DefAt (cA K) T K G "place_of" (He.ga K "place_of") fd ["drawer", "plot"] ∧ ∀ (s : Shared) (us : List Value), us.length = 2 → BindsTo s fd ⟨us, []⟩ ((["drawer", "plot"] : List PySem.Str).zip us) := by
  obtain ⟨fd, F⟩ := c.def_ 0 rfl
  have hb : ∀ (kV doc pm : Value) (an : Option Addr) (cdv ct : Value) (us : List Value), us.length = (["drawer", "plot"] : List PySem.Str).length → bindArgs (PySem.W.fnOf "place_of" "place_of" (defArgs (top 1)) (defBody (top 1)) (defScope (top 1)) .none kV doc pm an cdv ct) ⟨us, []⟩ = pure ((["drawer", "plot"] : List PySem.Str).zip us) :=
    fun _ _ _ _ _ _ us hl => match us, hl with | [_, _], _ => rfl
  exact ⟨fd, ⟨"place_of", "place_of", top 1, ["drawer", "plot", "step", "start"], _, funD_fun F, FunD.bindsN F hb, sc_place_of, rfl, rfl, rfl, ck_place_of _⟩, fun s us hl => FunD.bindsA F hb s us hl⟩
theorem d_twin_of : ∃ fd, DefAt (cA K) T K G "twin_of" (He.ga K "twin_of") fd ["drawer"] ∧ ∀ (s : Shared) (us : List Value), us.length = 1 → BindsTo s fd ⟨us, []⟩ ((["drawer"] : List PySem.Str).zip us) := by
  obtain ⟨fd, F⟩ := c.def_ 1 rfl
  have hb : ∀ (kV doc pm : Value) (an : Option Addr) (cdv ct : Value) (us : List Value), us.length = (["drawer"] : List PySem.Str).length → bindArgs (PySem.W.fnOf "twin_of" "twin_of" (defArgs (top 2)) (defBody (top 2)) (defScope (top 2)) .none kV doc pm an cdv ct) ⟨us, []⟩ = pure ((["drawer"] : List PySem.Str).zip us) :=
    fun _ _ _ _ _ _ us hl => match us, hl with | [_], _ => rfl
  exact ⟨fd, ⟨"twin_of", "twin_of", top 2, ["drawer", "step", "start"], _, funD_fun F, FunD.bindsN F hb, sc_twin_of, rfl, rfl, rfl, ck_twin_of _⟩, fun s us hl => FunD.bindsA F hb s us hl⟩
theorem d__law_whole : ∃ fd, DefAt (cA K) T K G "_law_whole" (He.ga K "_law_whole") fd ["found"] ∧ ∀ (s : Shared) (us : List Value), us.length = 1 → BindsTo s fd ⟨us, []⟩ ((["found"] : List PySem.Str).zip us) := by
  obtain ⟨fd, F⟩ := c.def_ 2 rfl
  have hb : ∀ (kV doc pm : Value) (an : Option Addr) (cdv ct : Value) (us : List Value), us.length = (["found"] : List PySem.Str).length → bindArgs (PySem.W.fnOf "_law_whole" "_law_whole" (defArgs (top 4)) (defBody (top 4)) (defScope (top 4)) .none kV doc pm an cdv ct) ⟨us, []⟩ = pure ((["found"] : List PySem.Str).zip us) :=
    fun _ _ _ _ _ _ us hl => match us, hl with | [_], _ => rfl
  exact ⟨fd, ⟨"_law_whole", "_law_whole", top 4, ["found"], _, funD_fun F, FunD.bindsN F hb, sc__law_whole, rfl, rfl, rfl, ck__law_whole _⟩, fun s us hl => FunD.bindsA F hb s us hl⟩
theorem d__law_right : ∃ fd, DefAt (cA K) T K G "_law_right" (He.ga K "_law_right") fd ["drawer"] ∧ ∀ (s : Shared) (us : List Value), us.length = 1 → BindsTo s fd ⟨us, []⟩ ((["drawer"] : List PySem.Str).zip us) := by
  obtain ⟨fd, F⟩ := c.def_ 3 rfl
  have hb : ∀ (kV doc pm : Value) (an : Option Addr) (cdv ct : Value) (us : List Value), us.length = (["drawer"] : List PySem.Str).length → bindArgs (PySem.W.fnOf "_law_right" "_law_right" (defArgs (top 5)) (defBody (top 5)) (defScope (top 5)) .none kV doc pm an cdv ct) ⟨us, []⟩ = pure ((["drawer"] : List PySem.Str).zip us) :=
    fun _ _ _ _ _ _ us hl => match us, hl with | [_], _ => rfl
  exact ⟨fd, ⟨"_law_right", "_law_right", top 5, ["drawer", "places", "plot", "due", "twin"], _, funD_fun F, FunD.bindsN F hb, sc__law_right, rfl, rfl, rfl, ck__law_right _⟩, fun s us hl => FunD.bindsA F hb s us hl⟩
theorem d_law : ∃ fd, DefAt (cA K) T K G "law" (He.ga K "law") fd ["script"] ∧ ∀ (s : Shared) (us : List Value), us.length = 1 → BindsTo s fd ⟨us, []⟩ ((["script"] : List PySem.Str).zip us) := by
  obtain ⟨fd, F⟩ := c.def_ 4 rfl
  have hb : ∀ (kV doc pm : Value) (an : Option Addr) (cdv ct : Value) (us : List Value), us.length = (["script"] : List PySem.Str).length → bindArgs (PySem.W.fnOf "law" "law" (defArgs (top 6)) (defBody (top 6)) (defScope (top 6)) .none kV doc pm an cdv ct) ⟨us, []⟩ = pure ((["script"] : List PySem.Str).zip us) :=
    fun _ _ _ _ _ _ us hl => match us, hl with | [_], _ => rfl
  exact ⟨fd, ⟨"law", "law", top 6, ["script", "cell"], _, funD_fun F, FunD.bindsN F hb, sc_law, rfl, rfl, rfl, ck_law _⟩, fun s us hl => FunD.bindsA F hb s us hl⟩
theorem all_G : ∀ p ∈ G, GOkB (cA K) T K mg G p.1 p.2 :=
  (mem_cons_of (⟨_, _, _, He.glo_ok X Gn (c.fact 0 (f := .glo "place_of") rfl), (d_place_of X Gn c).choose_spec.1⟩) (mem_cons_of (⟨_, _, _, He.glo_ok X Gn (c.fact 1 (f := .glo "twin_of") rfl), (d_twin_of X Gn c).choose_spec.1⟩) (mem_cons_of (⟨_, _, _, He.glo_ok X Gn (c.fact 2 (f := .glo "_law_whole") rfl), (d__law_whole X Gn c).choose_spec.1⟩) (mem_cons_of (⟨_, _, _, He.glo_ok X Gn (c.fact 3 (f := .glo "_law_right") rfl), (d__law_right X Gn c).choose_spec.1⟩) (mem_cons_of (⟨_, _, _, He.glo_ok X Gn (c.fact 4 (f := .glo "law") rfl), (d_law X Gn c).choose_spec.1⟩) (mem_cons_of (⟨He.free_ok X Gn (c.fact 5 (f := .free "divmod") rfl), by kernel_rfl, by decide⟩) (mem_cons_of (⟨He.free_ok X Gn (c.fact 6 (f := .free "isinstance") rfl), by kernel_rfl, by decide⟩) (mem_cons_of (⟨He.free_ok X Gn (c.fact 7 (f := .free "sorted") rfl), by kernel_rfl, by decide⟩) (mem_cons_of (⟨He.free_ok X Gn (c.fact 8 (f := .free "int") rfl), by kernel_rfl, by decide⟩) (mem_cons_of (⟨He.free_ok X Gn (c.fact 9 (f := .free "bool") rfl), by kernel_rfl, by decide⟩) (mem_cons_of (⟨He.free_ok X Gn (c.fact 10 (f := .free "list") rfl), by kernel_rfl, by decide⟩) (mem_cons_of (⟨He.free_ok X Gn (c.fact 11 (f := .free "range") rfl), by kernel_rfl, by decide⟩) (fun _ h => nomatch h)))))))))))))
end
end MP.E
open PySem PySem.W PySem.Calls PyProof.Rows in
theorem PySem.Challenge.cw_threeroofs_k11_places_holds : PySem.Challenge.rw_threeroofs_k11_places.Holds := by
  w_on; o_law
  refine HandSHeadRun.head_any (r := OpenLaw.row PySem.Challenge.rw_threeroofs_k11_places) (q := view (OpenLaw.row PySem.Challenge.rw_threeroofs_k11_places).prog [6]) (H := MP.E.hk) (ob := MP.E.ob) (M := 20000) (loose := MP.E.names) (d := HandSHeadRun.topDef (OpenLaw.row PySem.Challenge.rw_threeroofs_k11_places).prog 6) (kwd := []) MP.E.ob_eq
    (by kernel_rfl) (fun s => by kernel_rfl) MP.E.run (by kernel_rfl) (by kernel_rfl) (by kernel_rfl) (by rfl) (by first | assumption | decide +kernel) (by decide +kernel) ⟨rfl, rfl, rfl, rfl, rfl, by decide +kernel⟩ ?hw ?hc
  case hw => w_witness2
  case hc =>
    refine MP.walk_end (l := PySem.Challenge.rw_threeroofs_k11_places) (m := 8) (x := "script") (T := MP.L.T) (G := MP.E.G) MP.E.cA rfl (by kernel_rfl) ⟨rfl, by decide, by decide⟩ MP.L.law_ok fun K mg f h KX c hns hf => ?_
    have e : (HandSHeadRun.topDef (OpenLaw.row PySem.Challenge.rw_threeroofs_k11_places).prog 6).name = ("law" : PySem.Str) := by kernel_rfl
    rw [e] at hf
    have ef := hf.symm.trans (He.glo_ok KX hns (c.fact 4 (f := .glo "law") rfl))
    cases ef
    obtain ⟨fd, D, B⟩ := MP.E.d_law KX hns c
    exact ⟨MP.cf_nil rfl, fun y g e => MP.E.all_G KX hns c (y, g) (MP.lookup_memS e), fd, D, fun s u => B s [u] rfl⟩

